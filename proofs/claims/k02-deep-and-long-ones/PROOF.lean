import PyProof.Rows.All
import Wide.All
import OpenK.AllK
import Wide.FinOn
import HandS.ForMost
import HandS.Wide
import HandS.IsInst
import HandS.Codes
import HandS.More
import HandS.Style
import HandS.TupMul
import HandS.TupAny
import HandS.Dict
import KE.KEqSeq
import PySem.Challenge.RW_madeagain_k02_deep_and_long_ones
set_option Elab.async false
set_option linter.all false
set_option maxRecDepth 100000
set_option maxHeartbeats 4000000
set_option pp.maxSteps 300
namespace Mad
open PySem PySem.Spec PyProof.Rows L2
def topS (i : Nat) : Stmt := PySem.Challenge.pw_madeagain_k02_deep_and_long_ones.main.body.getD i (.Pass ⟨0, 0, 0, 0⟩)
/-! ### short words over the layer -/
/-- the def x of the text stands in the module as st says -/
def IsDef (K : PySem.W.Frag) (mg : Str → Option Value) (x : Str) (st : Stmt) (ps : List Str) : Prop := ∃ (f : Addr) (fd : FuncData), Fun K x x st f fd ∧ mg x = some (.ref f) ∧ Binds K fd ps []
/-- the def x keeps the promise sp by at most k calls in one another -/
def Cal (P : Program) (w : World) (K : PySem.W.Frag) (mg : Str → Option Value) (base : Heap) (CX : CXT) (k : Nat) (x : Str) (ps : List Str) (sp : Sp) : Prop :=
  ∃ (f : Addr) (fd : FuncData), FnOk P w K mg base CX k f fd ps sp ∧ mg x = some (.ref f) ∧ PySem.W.keepIn K (.ref f) = true ∧ Binds K fd ps []
section
variable {P : Program} {w : World} {K : PySem.W.Frag} {mg : Str → Option Value} {base : Heap}
theorem Cal.mono {CX : CXT} {j k : Nat} {x : Str} {ps : List Str} {sp : Sp} (c : Cal P w K mg base CX j x ps sp) (h : j ≤ k) : Cal P w K mg base CX k x ps sp := by
  obtain ⟨f, fd, F, r⟩ := c
  exact ⟨f, fd, F.mono h, r⟩
theorem Cal.imp {CX : CXT} {k : Nat} {x : Str} {ps : List Str} {sp sp' : Sp} (c : Cal P w K mg base CX k x ps sp) (h : ∀ vs H Q E, sp' vs H Q E → sp vs H Q E) : Cal P w K mg base CX k x ps sp' := by
  obtain ⟨f, fd, F, r⟩ := c
  exact ⟨f, fd, F.imp h, r⟩
/-- of no depth none is asked -/
theorem cal_none {x : Str} {st : Stmt} {ps : List Str} {sp : Sp} {CX : CXT} {k : Nat} (D : IsDef K mg x st ps) (no : ∀ vs H Q E, ¬ sp vs H Q E) : Cal P w K mg base CX k x ps sp := by
  obtain ⟨f, fd, F, m, b⟩ := D
  exact ⟨f, fd, ⟨fun vs H Q E h => absurd h (no vs H Q E), fun A outer s H args us vs Q E _ _ _ _ h => absurd h (no vs H Q E)⟩, m, F.kp, b⟩
theorem IsDef.cal {x : Str} {st : Stmt} {N ps : List Str} {k : Nat} {sp : Sp} (D : IsDef K mg x st ps) (S : FnScope N ps (defScope st)) (len : ∀ vs H Q E, sp vs H Q E → vs.length = ps.length)
    (hbody : ∀ (f : Addr) (cdv : Value) (A : Around) (outer : List Env) (s : Shared) (H : Hp) (vs : List V) (Q : VK) (E : XK), Room k (A.deeper (envOfC x (defScope st) s.heap.objs.size f cdv)) → sp vs H Q E →
      ∃ t, PSs (cxOf CX0 P w K mg base N x (defScope st) f cdv A outer s H E).nox (defBody st) t ∧ t { nx := fun _ H' => Q .non H', rt := Q } (start N vs) H) : Cal P w K mg base CX0 (k + 1) x ps sp := by
  obtain ⟨f, fd, F, m, b⟩ := D
  exact ⟨f, fd, F.ok S len fun cdv A outer s H vs Q E => hbody f cdv A outer s H vs Q E, m, F.kp, b⟩
end
section
variable {X : Cx} {CX : CXT} {k : Nat} {ps : List Str} {sp : Sp} {E : XK} {x : Str} {p pos : Pos}
theorem pe_cal {e : Expr} {es : List Expr} {t : TA} (c : Cal X.prog X.w X.K X.mg X.base CX k x ps sp) (hr : Room k X.A) (hx : Passes CX X E) (ha : PA X (e :: es) t) (hg : Gl X x := by rfl)
    (hdb : (x == ("__debug__" : Str)) = false := by decide) (he : starEach (e :: es) X.env = (false, eval e X.env) :: starEach es X.env := by rfl) (hpl : (backTo pos (starEach es X.env)).any (·.1) = false := by rfl) :
    PE X (.Call (.Name x p) (e :: es) [] pos) (tCall sp [] E t) := by
  obtain ⟨f, fd, F, m, kp, b⟩ := c
  exact pe_call F hr hg m kp b .nil hx ha hdb he hpl
theorem pe_cal0 (c : Cal X.prog X.w X.K X.mg X.base CX k x ps sp) (hr : Room k X.A) (hx : Passes CX X E) (hg : Gl X x := by rfl) (hdb : (x == ("__debug__" : Str)) = false := by decide) :
    PE X (.Call (.Name x p) [] [] pos) (tCall sp [] E tNil) := by
  obtain ⟨f, fd, F, m, kp, b⟩ := c
  exact pe_call0 F hr hg m kp b .nil hx hdb
end
theorem le_line {n : Nat} (h : n ≤ 16777216) : n ≤ sizeLine := by rw [sizeLine_eq]; exact h
theorem lt_line {n : Nat} (h : n < 16777216) : n < sizeLine := by rw [sizeLine_eq]; exact h
theorem same_new {H : Hp} {p : Addr} (h : H p = none) (o : HO) : Same H (upd H p o) := fun b u q => by rw [upd_ne (ne_of_none q h)]; exact q
theorem same_upd {B H : Hp} {p : Addr} (s : Same B H) (h : B p = none) (o : HO) : Same B (upd H p o) := fun b u q => by
  have z : b ≠ p := fun e => by rw [e, h] at q; cases q
  rw [upd_ne z]; exact s _ _ q
theorem atI_at {α : Type} {xs : List α} {i : Int} {v : α} (h0 : 0 ≤ i) (h : xs[i.toNat]? = some v) : atI xs i = some v := by
  have e : i = ((i.toNat : Nat) : Int) := by omega
  rw [e]; exact atI_nat h
theorem ixN_at {n : Nat} {i : Int} (h0 : 0 ≤ i) (h : i < n) : ixN n i = some i.toNat := by
  unfold ixN
  rw [if_pos h0, if_pos h]
theorem int_at {ns : List Int} {i : Int} (h0 : 0 ≤ i) (h : i < ns.length) : ∃ v : Int, atI (ns.map V.int) i = some (.int v) := by
  have hk : i.toNat < ns.length := by omega
  exact ⟨ns[i.toNat], atI_at h0 (by rw [List.getElem?_map, List.getElem?_eq_getElem hk] <;> rfl)⟩
theorem if_true_eq {c : Bool} {A B : Prop} (h : c = true) (a : A) : if c = true then A else B := by rw [if_pos h]; exact a
theorem if_false_eq {c : Bool} {A B : Prop} (h : c = false) (b : B) : if c = true then A else B := by rw [h]; exact b
theorem not_true_eq {c : Bool} {A B : Prop} (h : c = true) (b : B) : if (!c) = true then A else B := by rw [h]; exact b
theorem not_false_eq {c : Bool} {A B : Prop} (h : c = false) (a : A) : if (!c) = true then A else B := by rw [h]; exact a
structure Txt (K : PySem.W.Frag) (mg : Str → Option Value) : Prop where
  b_len : mg "len" = none
  b_range : mg "range" = none
  b_tuple : mg "tuple" = none
  b_str : mg "str" = none
  b_int : mg "int" = none
  b_isinstance : mg "isinstance" = none
  b_bool : mg "bool" = none
  b_sum : mg "sum" = none
/-! ### recipes as data -/
inductive Kd where
  | plus | minus | times | most
  deriving DecidableEq
def Kd.name : Kd → Str
  | .plus => "plus" | .minus => "minus" | .times => "times" | .most => "most"
inductive Rcp where
  | num (n : Int)
  | read (s : List Nat)
  | two (k : Kd) (a b : Rcp)
  | pick (a b c : Rcp)
  | choose (a : Rcp) (ns : List (List Nat))
def Rcp.dep : Rcp → Nat
  | .num _ => 1
  | .read _ => 1
  | .two _ a b => max a.dep b.dep + 1
  | .pick a b c => max a.dep (max b.dep c.dep) + 1
  | .choose a _ => a.dep + 1
def Rcp.siz : Rcp → Nat
  | .num _ => 1
  | .read _ => 1
  | .two _ a b => a.siz + b.siz + 1
  | .pick a b c => a.siz + b.siz + c.siz + 1
  | .choose a _ => a.siz + 1
/-- a name's signs -/
def Nm (s : List Nat) : Prop := 1 ≤ s.length ∧ s.length ≤ 8 ∧ ∀ c ∈ s, 97 ≤ c ∧ c ≤ 122
def Nms (ns : List (List Nat)) : Prop := 1 ≤ ns.length ∧ ns.length ≤ 9 ∧ ∀ s ∈ ns, Nm s
def Rcp.Good : Rcp → Prop
  | .num n => n.natAbs < 10 ^ 40
  | .read s => Nm s
  | .two _ a b => a.Good ∧ b.Good
  | .pick a b c => a.Good ∧ b.Good ∧ c.Good
  | .choose a ns => a.Good ∧ Nms ns
def txs (ns : List (List Nat)) : List V := (ns.map SX.S).map V.str
/-- the value v is the recipe r in H -/
def Rec (H : Hp) : Rcp → V → Prop
  | .num n, v => ∃ p, v = .ref p ∧ H p = some (.tup [.str "number", .int n])
  | .read s, v => ∃ p, v = .ref p ∧ H p = some (.tup [.str "read", .str (SX.S s)])
  | .two k a b, v => ∃ p x y, v = .ref p ∧ H p = some (.tup [.str k.name, x, y]) ∧ Rec H a x ∧ Rec H b y
  | .pick a b c, v => ∃ p x y z, v = .ref p ∧ H p = some (.tup [.str "pick", x, y, z]) ∧ Rec H a x ∧ Rec H b y ∧ Rec H c z
  | .choose a ns, v => ∃ p x q, v = .ref p ∧ H p = some (.tup [.str "choose", x, .ref q]) ∧ Rec H a x ∧ H q = some (.tup (txs ns))
/-- tuples stay -/
def Keep (H H' : Hp) : Prop := ∀ b xs, H b = some (.tup xs) → H' b = some (.tup xs)
theorem Keep.refl (H : Hp) : Keep H H := fun _ _ h => h
theorem Keep.trans {A B C : Hp} (h : Keep A B) (k : Keep B C) : Keep A C := fun b xs q => k b xs (h b xs q)
theorem same_keep {H H' : Hp} (s : Same H H') : Keep H H' := fun b xs q => s b _ q
theorem keep_lst {H : Hp} {l : Addr} {xs ys : List V} (h : H l = some (.lst xs)) : Keep H (upd H l (.lst ys)) := fun b zs q => by
  have z : b ≠ l := fun e => by rw [e, h] at q; cases q
  rw [upd_ne z]; exact q
theorem Rec.keep {H H' : Hp} (k : Keep H H') : ∀ {r : Rcp} {v : V}, Rec H r v → Rec H' r v
  | .num n, v, ⟨p, e, h⟩ => ⟨p, e, k _ _ h⟩
  | .read s, v, ⟨p, e, h⟩ => ⟨p, e, k _ _ h⟩
  | .two _ a b, v, ⟨p, x, y, e, h, ra, rb⟩ => ⟨p, x, y, e, k _ _ h, Rec.keep k ra, Rec.keep k rb⟩
  | .pick a b c, v, ⟨p, x, y, z, e, h, ra, rb, rc⟩ => ⟨p, x, y, z, e, k _ _ h, Rec.keep k ra, Rec.keep k rb, Rec.keep k rc⟩
  | .choose a ns, v, ⟨p, x, q, e, h, ra, hq⟩ => ⟨p, x, q, e, k _ _ h, Rec.keep k ra, k _ _ hq⟩
theorem Rec.same {H H' : Hp} (s : Same H H') {r : Rcp} {v : V} (h : Rec H r v) : Rec H' r v := h.keep (same_keep s)
theorem dep_pos : ∀ r : Rcp, 1 ≤ r.dep
  | .num _ => Nat.le_refl _
  | .read _ => Nat.le_refl _
  | .two _ _ _ => Nat.le_add_left _ _
  | .pick _ _ _ => Nat.le_add_left _ _
  | .choose _ _ => Nat.le_add_left _ _
theorem siz_pos : ∀ r : Rcp, 1 ≤ r.siz
  | .num _ => Nat.le_refl _
  | .read _ => Nat.le_refl _
  | .two _ _ _ => Nat.le_add_left _ _
  | .pick _ _ _ => Nat.le_add_left _ _
  | .choose _ _ => Nat.le_add_left _ _
theorem iteY {p A B : Prop} [Decidable p] (h : p) (a : A) : if decide p = true then A else B := by
  rw [if_pos (decide_eq_true h)]; exact a
theorem iteN {p A B : Prop} [Decidable p] (h : ¬p) (b : B) : if decide p = true then A else B := by
  rw [if_neg (fun z => h (of_decide_eq_true z))]; exact b
theorem txs_get {ns : List (List Nat)} {i : Nat} (h : i < ns.length) : (txs ns)[i]? = some (.str (SX.S ns[i])) := by
  unfold txs
  rw [List.getElem?_map, List.getElem?_map, List.getElem?_eq_getElem h]
  all_goals rfl
theorem txs_mem {ns : List (List Nat)} {x : V} (h : x ∈ txs ns) : ∃ s, s ∈ ns ∧ x = .str (SX.S s) := by
  obtain ⟨y, hy, rfl⟩ := List.mem_map.mp h
  obtain ⟨s, hs, rfl⟩ := List.mem_map.mp hy
  exact ⟨s, hs, rfl⟩
theorem txs_len (ns : List (List Nat)) : (txs ns).length = ns.length := by unfold txs; rw [List.length_map, List.length_map]
theorem txs_app (a b : List (List Nat)) : txs (a ++ b) = txs a ++ txs b := by unfold txs; rw [List.map_append, List.map_append]
/-- the signs, one by one -/
def ones (ss : List Nat) : List (List Nat) := ss.map fun c => [c]
theorem ones_flat (ss : List Nat) : (ones ss).flatten = ss := by
  induction ss with
  | nil => rfl
  | cons a r ih => show [a] ++ (ones r).flatten = _; rw [ih]; rfl
theorem ones_sum (ss : List Nat) : (((ones ss).map SX.S).map (·.length)).sum = ss.length := by
  induction ss with
  | nil => rfl
  | cons a r ih => show 1 + (((ones r).map SX.S).map (·.length)).sum = r.length + 1; rw [ih, Nat.add_comm]
theorem ones_len (ss : List Nat) : (ones ss).length = ss.length := List.length_map _
/-- the pick out of some things by a drawn number -/
theorem one_of {α : Type} {xs : List α} {v : Int} (h0 : 0 ≤ v) (h : v < xs.length) : ∃ x, x ∈ xs ∧ atI xs v = some x := by
  have hk : v.toNat < xs.length := by omega
  exact ⟨xs[v.toNat], List.getElem_mem hk, atI_at h0 (List.getElem?_eq_getElem hk)⟩
def letters : List Nat := [97, 98, 99, 100, 101, 102, 103, 104, 105, 106, 107, 108, 109, 110, 111, 112, 113, 114, 115, 116, 117, 118, 119, 120, 121, 122]
theorem letters_is : ("abcdefghijklmnopqrstuvwxyz" : Str) = SX.S letters := by decide +kernel
theorem letters_ok : ∀ c ∈ letters, 97 ≤ c ∧ c ≤ 122 := by decide
/-! ### rows of recipes -/
def Recs (H : Hp) : List Rcp → List V → Prop
  | [], [] => True
  | r :: rs, v :: vs => Rec H r v ∧ Recs H rs vs
  | _, _ => False
theorem Recs.keep {H H' : Hp} (k : Keep H H') : ∀ {rs : List Rcp} {vs : List V}, Recs H rs vs → Recs H' rs vs
  | [], [], _ => trivial
  | _ :: _, _ :: _, h => ⟨h.1.keep k, Recs.keep k h.2⟩
  | [], _ :: _, h => h.elim
  | _ :: _, [], h => h.elim
theorem Recs.len {H : Hp} : ∀ {rs : List Rcp} {vs : List V}, Recs H rs vs → vs.length = rs.length
  | [], [], _ => rfl
  | _ :: _, _ :: _, h => congrArg (· + 1) (Recs.len h.2)
  | [], _ :: _, h => h.elim
  | _ :: _, [], h => h.elim
theorem Recs.snoc {H : Hp} {r : Rcp} {v : V} (hr : Rec H r v) : ∀ {rs : List Rcp} {vs : List V}, Recs H rs vs → Recs H (rs ++ [r]) (vs ++ [v])
  | [], [], _ => ⟨hr, trivial⟩
  | _ :: _, _ :: _, h => ⟨h.1, Recs.snoc hr h.2⟩
  | [], _ :: _, h => h.elim
  | _ :: _, [], h => h.elim
theorem Recs.at {H : Hp} : ∀ {rs : List Rcp} {vs : List V} {i : Nat} {v : V}, Recs H rs vs → vs[i]? = some v → ∃ r, rs[i]? = some r ∧ Rec H r v
  | [], [], i, v, _, e => by simp at e
  | r :: _, _ :: _, 0, v, h, e => ⟨r, rfl, by cases e; exact h.1⟩
  | _ :: _, _ :: _, i + 1, v, h, e => Recs.at (i := i) h.2 (by simpa using e)
  | [], _ :: _, _, _, h, _ => h.elim
  | _ :: _, [], _, _, h, _ => h.elim
theorem Recs.get {H : Hp} {rs : List Rcp} {vs : List V} {i : Nat} (h : Recs H rs vs) (hi : i < rs.length) : ∃ v r, vs[i]? = some v ∧ rs[i]? = some r ∧ Rec H r v := by
  have hv : i < vs.length := by rw [h.len]; exact hi
  obtain ⟨r, e, hr⟩ := h.at (List.getElem?_eq_getElem hv)
  exact ⟨_, r, List.getElem?_eq_getElem hv, e, hr⟩
/-- a comprehension over a range with a step -/
theorem lcC {lo c : Int} {n : Nat} {g : TG} {tt : TT} {te : TE} {vs : List Nat} {σ : L2.St} {H1 : Hp} {D : Addr} {Qd : Hp → Prop} (Pv : Nat → Hp → Prop)
    (h0 : Pv 0 (upd H1 D (.lst [])))
    (hs : ∀ i H, i < n → Pv i H → g (.int (lo + (i : Nat) * c)) (wipe σ vs) H
      fun σ2 H2 => wipe σ2 vs = wipe σ vs ∧ tt σ2 H2
        fun b H3 => if b = true then te σ2 H3
          fun y H4 => ∃ acc, H4 D = some (.lst acc) ∧ acc.length < sizeLine ∧ Pv (i + 1) (upd H4 D (.lst (acc ++ [y])))
        else Pv (i + 1) H3)
    (hd : ∀ H, Pv n H → Qd H) :
    ∃ W : Nat → Nat → Hp → Prop, (∃ m, W 0 m (upd H1 D (.lst []))) ∧
      ∀ i m H, W i m H → ((Itc lo c n).stop i H ∧ Qd H) ∨ ((Itc lo c n).go i H ∧
        ∃ Nx : Hp → Prop, (∀ H', Nx H' → ∃ m', m' < m ∧ W (i + 1) m' H') ∧
          ∀ x H', (Itc lo c n).yld i H x H' → g x (wipe σ vs) H'
            fun σ2 H2 => wipe σ2 vs = wipe σ vs ∧ tt σ2 H2
              fun b H3 => if b = true then te σ2 H3
                fun y H4 => ∃ acc, H4 D = some (.lst acc) ∧ acc.length < sizeLine ∧ Nx (upd H4 D (.lst (acc ++ [y])))
              else Nx H3) := by
  refine ⟨fun i m H => m = n - i ∧ i ≤ n ∧ Pv i H, ⟨n, rfl, Nat.zero_le _, h0⟩, fun i m H w => ?_⟩
  obtain ⟨em, hi, p⟩ := w
  by_cases hlt : i < n
  · refine Or.inr ⟨hlt, Pv (i + 1), fun H' p' => ⟨n - (i + 1), by omega, rfl, hlt, p'⟩, fun x H' y => ?_⟩
    obtain ⟨e1, e2⟩ := y
    rw [e1, e2]
    exact hs i H hlt p
  · have e : i = n := by omega
    rw [e] at p
    exact Or.inl ⟨by show n ≤ i; omega, hd H p⟩
theorem cut_nat (xs : List V) {a b : Nat} (h : a ≤ b) : cutV xs (some (a : Int)) (some (b : Int)) = (xs.drop a).take (b - a) := by
  show (xs.drop (HT.sIx xs.length 0 (some (a : Int)))).take (HT.sIx xs.length xs.length (some (b : Int)) - HT.sIx xs.length 0 (some (a : Int))) = _
  rw [HT.sIx_nat, HT.sIx_nat]
  by_cases ha : a ≤ xs.length
  · rw [Nat.min_eq_left ha]
    by_cases hb : b ≤ xs.length
    · rw [Nat.min_eq_left hb]
    · rw [Nat.min_eq_right (by omega), List.take_of_length_le (by rw [List.length_drop]; omega), List.take_of_length_le (by rw [List.length_drop]; omega)]
  · have e1 : min a xs.length = xs.length := by omega
    rw [e1, List.drop_eq_nil_of_le (Nat.le_refl _), List.drop_eq_nil_of_le (by omega), List.take_nil, List.take_nil]
theorem cut_to (xs : List V) (b : Nat) : cutV xs none (some (b : Int)) = xs.take b := by
  show (xs.drop (HT.sIx xs.length 0 none)).take (HT.sIx xs.length xs.length (some (b : Int)) - HT.sIx xs.length 0 none) = _
  rw [HT.sIx_none, HT.sIx_nat, List.drop_zero, Nat.sub_zero]
  by_cases hb : b ≤ xs.length
  · rw [Nat.min_eq_left hb]
  · rw [Nat.min_eq_right (by omega), List.take_of_length_le (Nat.le_refl _), List.take_of_length_le (by omega)]
/-! ### any things as data -/
inductive Th where
  | non
  | bl (b : Bool)
  | int (i : Int)
  | str (s : List Nat)
  | tup (l : List Th)
  | lst (l : List Th)
  | dct
mutual
/-- the value stands for the thing in H -/
def Data (H : Hp) : Th → V → Prop
  | .non, v => v = .non
  | .bl b, v => v = .bl b
  | .int i, v => v = .int i
  | .str s, v => v = .str (SX.S s)
  | .tup l, v => ∃ p xs, v = .ref p ∧ H p = some (.tup xs) ∧ DataL H l xs
  | .lst l, v => ∃ p xs, v = .ref p ∧ H p = some (.lst xs) ∧ DataL H l xs
  | .dct, v => ∃ p kvs, v = .ref p ∧ H p = some (.dK kvs)
def DataL (H : Hp) : List Th → List V → Prop
  | [], xs => xs = []
  | t :: l, xs => ∃ x r, xs = x :: r ∧ Data H t x ∧ DataL H l r
end
mutual
theorem Data.same {H H' : Hp} (s : Same H H') : ∀ {t : Th} {v : V}, Data H t v → Data H' t v
  | .non, _, h => h
  | .bl _, _, h => h
  | .int _, _, h => h
  | .str _, _, h => h
  | .tup _, _, ⟨p, xs, e, hp, hl⟩ => ⟨p, xs, e, s _ _ hp, DataL.same s hl⟩
  | .lst _, _, ⟨p, xs, e, hp, hl⟩ => ⟨p, xs, e, s _ _ hp, DataL.same s hl⟩
  | .dct, _, ⟨p, kvs, e, hp⟩ => ⟨p, kvs, e, s _ _ hp⟩
theorem DataL.same {H H' : Hp} (s : Same H H') : ∀ {l : List Th} {xs : List V}, DataL H l xs → DataL H' l xs
  | [], _, h => h
  | _ :: _, _, ⟨x, r, e, h1, h2⟩ => ⟨x, r, e, Data.same s h1, DataL.same s h2⟩
end
theorem DataL.len {H : Hp} : ∀ {l : List Th} {xs : List V}, DataL H l xs → xs.length = l.length
  | [], _, h => by rw [show _ = [] from h]; rfl
  | _ :: _, _, ⟨x, r, e, _, h2⟩ => by rw [e, List.length_cons, DataL.len h2]; rfl
theorem DataL.at {H : Hp} : ∀ {l : List Th} {xs : List V} {i : Nat} {v : V}, DataL H l xs → xs[i]? = some v → ∃ t, l[i]? = some t ∧ Data H t v
  | [], _, i, v, h, e => by rw [show _ = [] from h] at e; simp at e
  | t :: _, _, 0, v, ⟨x, r, e1, h1, _⟩, e => by subst e1; cases e; exact ⟨t, rfl, h1⟩
  | _ :: _, _, i + 1, v, ⟨x, r, e1, _, h2⟩, e => by subst e1; exact DataL.at (i := i) h2 (by simpa using e)
theorem DataL.get {H : Hp} {l : List Th} {xs : List V} {i : Nat} {t : Th} (h : DataL H l xs) (e : l[i]? = some t) : ∃ v, xs[i]? = some v ∧ Data H t v := by
  have hi : i < xs.length := by
    rw [h.len]
    exact (List.getElem?_eq_some_iff.mp e).1
  obtain ⟨t', e', hd⟩ := h.at (List.getElem?_eq_getElem hi)
  rw [e] at e'
  cases e'
  exact ⟨_, List.getElem?_eq_getElem hi, hd⟩
theorem DataL.drop {H : Hp} : ∀ {l : List Th} {xs : List V} (n : Nat), DataL H l xs → DataL H (l.drop n) (xs.drop n)
  | _, _, 0, h => h
  | [], _, n + 1, h => by rw [show _ = [] from h]; exact rfl
  | _ :: _, _, n + 1, ⟨x, r, e, _, h2⟩ => by subst e; exact DataL.drop n h2
theorem DataL.take {H : Hp} : ∀ {l : List Th} {xs : List V} (n : Nat), DataL H l xs → DataL H (l.take n) (xs.take n)
  | _, _, 0, _ => rfl
  | [], _, n + 1, h => by rw [show _ = [] from h]; exact rfl
  | _ :: _, _, n + 1, ⟨x, r, e, h1, h2⟩ => by subst e; exact ⟨x, _, rfl, h1, DataL.take n h2⟩
theorem DataL.snoc {H : Hp} {t : Th} {v : V} (h : Data H t v) : ∀ {l : List Th} {xs : List V}, DataL H l xs → DataL H (l ++ [t]) (xs ++ [v])
  | [], _, e => by rw [show _ = [] from e]; exact ⟨v, [], rfl, h, rfl⟩
  | _ :: _, _, ⟨x, r, e, h1, h2⟩ => by subst e; exact ⟨x, _, rfl, h1, DataL.snoc h h2⟩
mutual
/-- without dicts -/
def Th.flat : Th → Bool
  | .dct => false
  | .tup l => Th.flatL l
  | .lst l => Th.flatL l
  | _ => true
def Th.flatL : List Th → Bool
  | [] => true
  | t :: l => t.flat && Th.flatL l
end
mutual
def Th.py : Th → PyData
  | .non => .none
  | .bl b => .bool b
  | .int i => .int i
  | .str s => .str (SX.S s)
  | .tup l => .tuple (Th.pyL l)
  | .lst l => .list (Th.pyL l)
  | .dct => .none
def Th.pyL : List Th → List PyData
  | [] => []
  | t :: l => t.py :: Th.pyL l
end
mutual
theorem Data.dp {K : PySem.W.Frag} {H : Hp} : ∀ {t : Th} {v : V}, t.flat = true → Data H t v → Dp K H v t.py
  | .non, _, _, h => by rw [show _ = V.non from h]; exact .non
  | .bl _, _, _, h => by rw [show _ = V.bl _ from h]; exact .bl _
  | .int _, _, _, h => by rw [show _ = V.int _ from h]; exact .int _
  | .str _, _, _, h => by rw [show _ = V.str _ from h]; exact .str _
  | .tup l, _, f, ⟨p, xs, e, hp, hl⟩ => by rw [e]; exact .tup (SqT.of hp) (DataL.dp f hl)
  | .lst l, _, f, ⟨p, xs, e, hp, hl⟩ => by rw [e]; exact .lst (SqL.of hp) (DataL.dp f hl)
theorem DataL.dp {K : PySem.W.Frag} {H : Hp} : ∀ {l : List Th} {xs : List V}, Th.flatL l = true → DataL H l xs → DpAll K H xs (Th.pyL l)
  | [], _, _, h => by rw [show _ = [] from h]; exact .nil
  | t :: l, _, f, ⟨x, r, e, h1, h2⟩ => by
    have f' : t.flat = true ∧ Th.flatL l = true := by
      have : (t.flat && Th.flatL l) = true := f
      exact Bool.and_eq_true_iff.mp this
    rw [e]
    exact .cons (Data.dp f'.1 h1) (DataL.dp f'.2 h2)
end
/-! ### what is a name, a recipe -/
def nmOk (s : List Nat) : Bool := decide (1 ≤ s.length) && decide (s.length ≤ 8) && s.all fun c => decide (97 ≤ c) && decide (c ≤ 122)
theorem nmOk_iff {s : List Nat} : nmOk s = true ↔ Nm s := by
  unfold nmOk Nm
  simp only [Bool.and_eq_true, decide_eq_true_eq, List.all_eq_true]
  exact ⟨fun ⟨⟨a, b⟩, c⟩ => ⟨a, b, c⟩, fun ⟨a, b, c⟩ => ⟨⟨a, b⟩, c⟩⟩
def Th.isNm : Th → Bool
  | .str s => nmOk s
  | _ => false
def Th.areNms : Th → Bool
  | .tup l => decide (1 ≤ l.length) && decide (l.length ≤ 9) && l.all Th.isNm
  | _ => false
def Th.isInt : Th → Bool
  | .int _ => true
  | _ => false
def w_number : List Nat := [110, 117, 109, 98, 101, 114]
def w_read : List Nat := [114, 101, 97, 100]
def w_pick : List Nat := [112, 105, 99, 107]
def w_choose : List Nat := [99, 104, 111, 111, 115, 101]
def w_plus : List Nat := [112, 108, 117, 115]
def w_minus : List Nat := [109, 105, 110, 117, 115]
def w_times : List Nat := [116, 105, 109, 101, 115]
def w_most : List Nat := [109, 111, 115, 116]
def twos : List (List Nat) := [w_plus, w_minus, w_times, w_most]
/-- the parts of a thing that has a recipe's form -/
def formParts (k : List Nat) (l : List Th) : Option (List Th) :=
  if k = w_number then (if l.length = 1 ∧ (l.headD .non).isInt = true then some [] else none)
  else if k = w_read then (if l.length = 1 ∧ (l.headD .non).isNm = true then some [] else none)
  else if k ∈ twos then (if l.length = 2 then some l else none)
  else if k = w_pick then (if l.length = 3 then some l else none)
  else if k = w_choose then (if l.length = 2 ∧ (l.getD 1 .non).areNms = true then some (l.take 1) else none)
  else none
def Th.parts : Th → Option (List Th)
  | .tup (.str k :: l) => formParts k l
  | _ => none
/-- all well formed, n deep at most -/
def Th.okay : Nat → Th → Bool
  | 0, _ => false
  | n + 1, t => match t.parts with
    | none => false
    | some ps => ps.all (Th.okay n)
def Th.count : Nat → Th → Nat
  | 0, _ => 1
  | n + 1, t => match t.parts with
    | none => 1
    | some ps => 1 + (ps.map (Th.count n)).sum
def Th.isRcp (t : Th) : Bool := t.okay 8 && decide (t.count 8 ≤ 100)
theorem count_pos : ∀ (n : Nat) (t : Th), 1 ≤ t.count n
  | 0, _ => Nat.le_refl _
  | n + 1, t => by
    unfold Th.count
    cases t.parts with
    | none => exact Nat.le_refl _
    | some ps => exact Nat.le_add_right _ _
theorem parts_tup {t : Th} {ps : List Th} (h : t.parts = some ps) : ∃ k l, t = .tup (.str k :: l) := by
  unfold Th.parts at h
  split at h
  · exact ⟨_, _, rfl⟩
  · cases h
/-- what the walk may meet: texts of ASCII signs, not too long; names without dicts -/
def tameS (s : List Nat) : Bool := decide (s.length ≤ 1000000) && s.all fun c => decide (c < 128)
def namesTame : List Th → Bool
  | [.str k, _, .tup m] => !decide (k = w_choose) || (Th.flatL m && SeqAt.shaped (.list (Th.pyL m)))
  | _ => true
mutual
def Th.tame : Th → Bool
  | .str s => tameS s
  | .tup l => Th.tameL l && decide (l.length ≤ 1000000) && namesTame l
  | _ => true
def Th.tameL : List Th → Bool
  | [] => true
  | t :: l => t.tame && Th.tameL l
end
theorem tameL_mem : ∀ {l : List Th}, Th.tameL l = true → ∀ t ∈ l, t.tame = true
  | [], _, t, h => by cases h
  | a :: l, f, t, h => by
    have f' : (a.tame && Th.tameL l) = true := f
    rw [Bool.and_eq_true] at f'
    rcases List.mem_cons.mp h with h | h
    · rw [h]; exact f'.1
    · exact tameL_mem f'.2 t h
theorem flatL_mem : ∀ {l : List Th}, Th.flatL l = true → ∀ t ∈ l, t.flat = true
  | [], _, t, h => by cases h
  | a :: l, f, t, h => by
    have f' : (a.flat && Th.flatL l) = true := f
    rw [Bool.and_eq_true] at f'
    rcases List.mem_cons.mp h with h | h
    · rw [h]; exact f'.1
    · exact flatL_mem f'.2 t h
theorem flatL_filter (p : Th → Bool) : ∀ {l : List Th}, Th.flatL l = true → Th.flatL (l.filter p) = true
  | [], _ => rfl
  | a :: l, f => by
    have f' : (a.flat && Th.flatL l) = true := f
    rw [Bool.and_eq_true] at f'
    rw [List.filter_cons]
    split
    · show (a.flat && Th.flatL (l.filter p)) = true
      rw [f'.1, flatL_filter p f'.2]; rfl
    · exact flatL_filter p f'.2
theorem shaped_parts {ds : List PyData} : SeqAt.shaped (.list ds) = true ↔ PyData.canLayAll0 ds = true ∧ PyData.depthAll ds + 1 ≤ 64 := by
  show (PyData.canLayAll0 ds && decide (PyData.depthAll ds + 1 ≤ 64)) = true ↔ _
  rw [Bool.and_eq_true, decide_eq_true_eq]
theorem py_filter (p : Th → Bool) : ∀ (l : List Th), PyData.canLayAll0 (Th.pyL l) = true → PyData.canLayAll0 (Th.pyL (l.filter p)) = true ∧ PyData.depthAll (Th.pyL (l.filter p)) ≤ PyData.depthAll (Th.pyL l)
  | [], _ => ⟨rfl, Nat.le_refl _⟩
  | a :: l, f => by
    have f' : (a.py.canLay0 && PyData.canLayAll0 (Th.pyL l)) = true := f
    rw [Bool.and_eq_true] at f'
    have ih := py_filter p l f'.2
    rw [List.filter_cons]
    split
    · refine ⟨?_, ?_⟩
      · show (a.py.canLay0 && PyData.canLayAll0 (Th.pyL (l.filter p))) = true
        rw [f'.1, ih.1]; rfl
      · show max a.py.depth (PyData.depthAll (Th.pyL (l.filter p))) ≤ max a.py.depth (PyData.depthAll (Th.pyL l))
        omega
    · refine ⟨ih.1, ?_⟩
      show _ ≤ max a.py.depth (PyData.depthAll (Th.pyL l))
      omega
theorem shaped_filter (p : Th → Bool) {l : List Th} (h : SeqAt.shaped (.list (Th.pyL l)) = true) : SeqAt.shaped (.list (Th.pyL (l.filter p))) = true := by
  rw [shaped_parts] at h ⊢
  have := py_filter p l h.1
  exact ⟨this.1, by omega⟩
def Th.tyName : Th → String
  | .non => "NoneType" | .bl _ => "bool" | .int _ => "int" | .str _ => "str" | .tup _ => "tuple" | .lst _ => "list" | .dct => "dict"
theorem Data.ty {K : PySem.W.Frag} {H : Hp} : ∀ {t : Th} {v : V}, Data H t v → TyX K H v (.type t.tyName)
  | .non, _, h => by rw [show _ = V.non from h]; exact .base .non
  | .bl _, _, h => by rw [show _ = V.bl _ from h]; exact .base (.bl _)
  | .int _, _, h => by rw [show _ = V.int _ from h]; exact .base (.int _)
  | .str _, _, h => by rw [show _ = V.str _ from h]; exact .base (.str _)
  | .tup l, _, ⟨p, xs, e, hp, hl⟩ => by rw [e]; exact .base (.tup hp)
  | .lst l, _, ⟨p, xs, e, hp, hl⟩ => by rw [e]; exact .base (.lst hp)
  | .dct, _, ⟨p, kvs, e, hp⟩ => by rw [e]; exact .base (.dK hp)
def Th.isTup : Th → Bool
  | .tup _ => true
  | _ => false
def Th.isStr : Th → Bool
  | .str _ => true
  | _ => false
def Th.isBl : Th → Bool
  | .bl _ => true
  | _ => false
def Th.isIntB : Th → Bool
  | .bl _ => true
  | .int _ => true
  | _ => false
theorem kit_tup {K : PySem.W.Frag} : ∀ t : Th, PySem.W.kitOne K (.type t.tyName) (.type "tuple") = some t.isTup
  | .non => kit_ty (show kitB "NoneType" "tuple" = some false by decide +kernel)
  | .bl _ => kit_ty (show kitB "bool" "tuple" = some false by decide +kernel)
  | .int _ => kit_ty (show kitB "int" "tuple" = some false by decide +kernel)
  | .str _ => kit_ty (show kitB "str" "tuple" = some false by decide +kernel)
  | .tup _ => kit_ty (show kitB "tuple" "tuple" = some true by decide +kernel)
  | .lst _ => kit_ty (show kitB "list" "tuple" = some false by decide +kernel)
  | .dct => kit_ty (show kitB "dict" "tuple" = some false by decide +kernel)
theorem kit_str {K : PySem.W.Frag} : ∀ t : Th, PySem.W.kitOne K (.type t.tyName) (.type "str") = some t.isStr
  | .non => kit_ty (show kitB "NoneType" "str" = some false by decide +kernel)
  | .bl _ => kit_ty (show kitB "bool" "str" = some false by decide +kernel)
  | .int _ => kit_ty (show kitB "int" "str" = some false by decide +kernel)
  | .str _ => kit_ty (show kitB "str" "str" = some true by decide +kernel)
  | .tup _ => kit_ty (show kitB "tuple" "str" = some false by decide +kernel)
  | .lst _ => kit_ty (show kitB "list" "str" = some false by decide +kernel)
  | .dct => kit_ty (show kitB "dict" "str" = some false by decide +kernel)
theorem kit_int {K : PySem.W.Frag} : ∀ t : Th, PySem.W.kitOne K (.type t.tyName) (.type "int") = some t.isIntB
  | .non => kit_ty (show kitB "NoneType" "int" = some false by decide +kernel)
  | .bl _ => kit_ty (show kitB "bool" "int" = some true by decide +kernel)
  | .int _ => kit_ty (show kitB "int" "int" = some true by decide +kernel)
  | .str _ => kit_ty (show kitB "str" "int" = some false by decide +kernel)
  | .tup _ => kit_ty (show kitB "tuple" "int" = some false by decide +kernel)
  | .lst _ => kit_ty (show kitB "list" "int" = some false by decide +kernel)
  | .dct => kit_ty (show kitB "dict" "int" = some false by decide +kernel)
theorem kit_bl {K : PySem.W.Frag} : ∀ t : Th, PySem.W.kitOne K (.type t.tyName) (.type "bool") = some t.isBl
  | .non => kit_ty (show kitB "NoneType" "bool" = some false by decide +kernel)
  | .bl _ => kit_ty (show kitB "bool" "bool" = some true by decide +kernel)
  | .int _ => kit_ty (show kitB "int" "bool" = some false by decide +kernel)
  | .str _ => kit_ty (show kitB "str" "bool" = some false by decide +kernel)
  | .tup _ => kit_ty (show kitB "tuple" "bool" = some false by decide +kernel)
  | .lst _ => kit_ty (show kitB "list" "bool" = some false by decide +kernel)
  | .dct => kit_ty (show kitB "dict" "bool" = some false by decide +kernel)
theorem isInt_is (t : Th) : (t.isIntB && !t.isBl) = t.isInt := by cases t <;> rfl
/-- a comprehension over a text -/
theorem lcS {z : Str} {g : TG} {tt : TT} {te : TE} {vs : List Nat} {σ : L2.St} {H1 : Hp} {D : Addr} {Qd : Hp → Prop} (Pv : Nat → Hp → Prop)
    (h0 : Pv 0 (upd H1 D (.lst [])))
    (hs : ∀ i c H, z.cps[i]? = some c → Pv i H → g (.str ⟨#[c]⟩) (wipe σ vs) H
      fun σ2 H2 => wipe σ2 vs = wipe σ vs ∧ tt σ2 H2
        fun b H3 => if b = true then te σ2 H3
          fun y H4 => ∃ acc, H4 D = some (.lst acc) ∧ acc.length < sizeLine ∧ Pv (i + 1) (upd H4 D (.lst (acc ++ [y])))
        else Pv (i + 1) H3)
    (hd : ∀ H, Pv z.cps.size H → Qd H) :
    ∃ W : Nat → Nat → Hp → Prop, (∃ m, W 0 m (upd H1 D (.lst []))) ∧
      ∀ i m H, W i m H → ((Its z).stop i H ∧ Qd H) ∨ ((Its z).go i H ∧
        ∃ Nx : Hp → Prop, (∀ H', Nx H' → ∃ m', m' < m ∧ W (i + 1) m' H') ∧
          ∀ x H', (Its z).yld i H x H' → g x (wipe σ vs) H'
            fun σ2 H2 => wipe σ2 vs = wipe σ vs ∧ tt σ2 H2
              fun b H3 => if b = true then te σ2 H3
                fun y H4 => ∃ acc, H4 D = some (.lst acc) ∧ acc.length < sizeLine ∧ Nx (upd H4 D (.lst (acc ++ [y])))
              else Nx H3) := by
  refine ⟨fun i m H => m = z.cps.size - i ∧ i ≤ z.cps.size ∧ Pv i H, ⟨z.cps.size, rfl, Nat.zero_le _, h0⟩, fun i m H w => ?_⟩
  obtain ⟨em, hi, p⟩ := w
  by_cases hlt : i < z.cps.size
  · refine Or.inr ⟨hlt, Pv (i + 1), fun H' p' => ⟨z.cps.size - (i + 1), by omega, rfl, hlt, p'⟩, fun x H' y => ?_⟩
    obtain ⟨e1, c, e2, e3⟩ := y
    rw [e1, e3]
    exact hs i c H e2 p
  · have e : i = z.cps.size := by omega
    rw [e] at p
    exact Or.inl ⟨by show z.cps.size ≤ i; omega, hd H p⟩
/-- a list of data against a new empty one -/
theorem eqv_nil (l : List Th) : PyData.eqv (.list (Th.pyL l)) (.list []) = l.isEmpty := by cases l <;> rfl
theorem kw {k : List Nat} {w : List Nat} {lit : Str} (h : lit = SX.S w) : V.str (SX.S k) = V.str lit ↔ k = w := by
  rw [h]
  exact ⟨fun e => SX.S_inj (by cases e; rfl), fun e => by rw [e]⟩
theorem q_number : ("number" : Str) = SX.S w_number := by decide +kernel
theorem q_read : ("read" : Str) = SX.S w_read := by decide +kernel
theorem q_pick : ("pick" : Str) = SX.S w_pick := by decide +kernel
theorem q_choose : ("choose" : Str) = SX.S w_choose := by decide +kernel
theorem q_plus : ("plus" : Str) = SX.S w_plus := by decide +kernel
theorem q_minus : ("minus" : Str) = SX.S w_minus := by decide +kernel
theorem q_times : ("times" : Str) = SX.S w_times := by decide +kernel
theorem q_most : ("most" : Str) = SX.S w_most := by decide +kernel
theorem in_twos (k : List Nat) : inV (.str (SX.S k)) [.str "plus", .str "minus", .str "times", .str "most"] = decide (k ∈ twos) := by
  rw [q_plus, q_minus, q_times, q_most]
  have e : ∀ w : List Nat, (SX.S w == SX.S k) = decide (k = w) := fun w => by
    rw [SX.S_beq_eq]
    exact decide_eq_decide.mpr ⟨Eq.symm, Eq.symm⟩
  show ((SX.S w_plus == SX.S k) || ((SX.S w_minus == SX.S k) || ((SX.S w_times == SX.S k) || ((SX.S w_most == SX.S k) || false)))) = _
  rw [e, e, e, e]
  unfold twos
  simp only [List.mem_cons, List.not_mem_nil, or_false]
  simp [Bool.decide_or]
/-! ### a tuple times nought or one -/
theorem tuple_times_one (l : Addr) (items : Array Value) (n : Nat) (dd : Option Addr) (sl : Array (Option Value)) (u : Tok) :
    Meets (Builtin.«tuple.__mul__» ⟨[.ref l, .int 1 u], []⟩) (fun _ R s => s.heap.get? l = some { cls := .type "tuple", dict := dd, data := .seq items n, slots := sl } ∧ R (.ok (.ret (.ref l))) s) :=
  .of_wp fun prog w A R s h => by
    obtain ⟨hp, g, d, tk, os⟩ := s
    obtain ⟨hl, h⟩ := h
    have f1 := AutoSeq1.idx_int
    have c1 : (items.isEmpty || (1 : Int) == 1) = true := by simp
    wp_walk using wpAny_loadPart' hl
    repeat (first
      | (refine wpAny_ite_true (by rw [c1]) ?_; wp_walk using wpAny_loadPart' hl)
      | (refine wpAny_ite_false (by simp) ?_; wp_walk using wpAny_loadPart' hl)
      | (refine wpAny_ite_true (by simp) ?_; wp_walk using wpAny_loadPart' hl))
    exact ⟨_, rfl, h⟩
theorem tuple_times_nought (l : Addr) (items : Array Value) (n : Nat) (dd : Option Addr) (sl : Array (Option Value)) (u : Tok) (hne : items.isEmpty = false) :
    Meets (Builtin.«tuple.__mul__» ⟨[.ref l, .int 0 u], []⟩) (fun _ R s => s.heap.get? l = some { cls := .type "tuple", dict := dd, data := .seq items n, slots := sl } ∧
      R (.ok (.ret (Value.ref s.heap.objs.size))) { s with heap := s.heap.push { cls := Value.type "tuple", data := Data.seq #[] }, toks := s.toks }) :=
  .of_wp fun prog w A R s h => by
    obtain ⟨hp, g, d, tk, os⟩ := s
    obtain ⟨hl, h⟩ := h
    have f1 := AutoSeq1.idx_int
    have c1 : (items.isEmpty || (0 : Int) == 1) = false := by rw [hne]; rfl
    wp_walk using wpAny_loadPart' hl
    repeat (first
      | (refine wpAny_ite_false (by rw [c1]; exact Bool.false_ne_true) ?_; wp_walk using wpAny_loadPart' hl)
      | (refine wpAny_ite_true (by simp) ?_; wp_walk using wpAny_loadPart' hl)
      | (refine wpAny_ite_false (by simp) ?_; wp_walk using wpAny_loadPart' hl))
    exact ⟨_, rfl, h⟩
def rRep3 (K : PySem.W.Frag) : R2 := fun x y H Q => ∃ l k xs, x = .ref l ∧ y = .int k ∧ SqT K H l xs ∧ xs ≠ [] ∧ xs.length ≤ 1000 ∧ 0 ≤ k ∧ k ≤ 2 ∧
  (k = 0 → ∀ p, H p = none → Q (.ref p) (upd H p (.tup []))) ∧ (k = 1 → Q (.ref l) H) ∧ (k = 2 → ∀ p, H p = none → Q (.ref p) (upd H p (.tup (xs ++ xs))))
section
variable {X : Cx}
theorem op_rep3 : OpR X (binaryOp .Mult) (rRep3 X.K) := by
  intro pins s σ H x y v u Q I rx ry h
  obtain ⟨l, k, xs, rfl, rfl, hT, hne, hz, k0, k2, q0, q1, q2⟩ := h
  by_cases e2 : k = 2
  · subst e2
    refine op_repT pins s σ H (.ref l) (.int 2) v u Q I rx ry ⟨l, 2, xs, rfl, rfl, hT, hne, by decide, by decide, hz, fun p hp => ?_⟩
    have e : (List.replicate (2 : Int).toNat xs).flatten = xs ++ xs := by
      show (List.replicate 2 xs).flatten = xs ++ xs
      simp [List.replicate]
    rw [e]
    exact q2 rfl p hp
  cases rx
  obtain ⟨t, rfl⟩ := ry
  obtain ⟨its, r, ⟨⟨cls, dd, data, sl⟩, ho, hc, n, hd⟩, hs⟩ := I.tuple hT
  simp only at hc hd
  subst hc hd
  have hle : its.length = xs.length := r.length.symm
  have hn : its ≠ [] := fun e => hne (List.eq_nil_of_length_eq_zero (by rw [e] at hle; exact hle.symm))
  have hi : its.toArray.isEmpty = false := by
    cases its with
    | nil => exact absurd rfl hn
    | cons a b => rfl
  by_cases e1 : k = 1
  · subst e1
    refine wpAny_binaryOp_repeat_ref (T := "tuple") (U := "int") (by decide) ⟨_, ho, rfl⟩ (fun s' => typeIs_int s' 1 t) noFill_tuple_mul F.fills_int_mul F.slot_int_rmul repeat_tuple F.slot_int_index.lookup ?_
    refine call_meets F.slot_int_rmul (typeIs_int s 1 t) F.entry_int_rmul (F.args_int_rmul_2 _ _) (int_rmul_tuple 1 t l its.toArray n dd sl) ⟨ho, rfl, ⟨_, ho, rfl⟩, ?_⟩
    refine call_meets F.slot_tuple_mul ⟨_, ho, rfl⟩ F.entry_tuple_mul (F.args_tuple_mul_2 _ _) (tuple_times_one l its.toArray n dd sl t) ⟨ho, ?_⟩
    exact ⟨.ref l, H, I, rfl, q1 rfl⟩
  · have e0 : k = 0 := by omega
    subst e0
    refine wpAny_binaryOp_repeat_ref (T := "tuple") (U := "int") (by decide) ⟨_, ho, rfl⟩ (fun s' => typeIs_int s' 0 t) noFill_tuple_mul F.fills_int_mul F.slot_int_rmul repeat_tuple F.slot_int_index.lookup ?_
    refine call_meets F.slot_int_rmul (typeIs_int s 0 t) F.entry_int_rmul (F.args_int_rmul_2 _ _) (int_rmul_tuple 0 t l its.toArray n dd sl) ⟨ho, rfl, ⟨_, ho, rfl⟩, ?_⟩
    refine call_meets F.slot_tuple_mul ⟨_, ho, rfl⟩ F.entry_tuple_mul (F.args_tuple_mul_2 _ _) (tuple_times_nought l its.toArray n dd sl t hi) ⟨ho, ?_⟩
    refine ⟨.ref s.heap.objs.size, _, I.laid (t' := s.toks) (o := .tup []) (fun b ob q => Heap.get?_push_of_some _ q) (Nat.le_refl _) ?_, rfl, q0 rfl _ (I.hok.fresh (Nat.le_refl _))⟩
    exact ⟨Nat.zero_le _, [], .nil, IsTup.new _ _⟩
end
/-! ### names and recipes told -/
structure RTxt (K : PySem.W.Frag) (mg : Str → Option Value) (tw : Addr) : Prop where
  LETTERS : ∃ t, mg "LETTERS" = some (.str "abcdefghijklmnopqrstuvwxyz" t)
  LONGEST : ∃ t, mg "LONGEST" = some (.int 8 t)
  DEEPEST : ∃ t, mg "DEEPEST" = some (.int 8 t)
  MOST : ∃ t, mg "MOST" = some (.int 100 t)
  MOST_NAMES : ∃ t, mg "MOST_NAMES" = some (.int 9 t)
  TWOS : mg "TWOS" = some (.ref tw)
  twos : ∀ H, SqT K H tw [.str "plus", .str "minus", .str "times", .str "most"]
def spIsWhole : Sp := fun vs H Q _ => ∃ (v : V) (t : Th), vs = [v] ∧ Data H t v ∧ Q (.bl t.isInt) H
def spIsName : Sp := fun vs H Q _ => ∃ (v : V) (t : Th), vs = [v] ∧ Data H t v ∧ t.tame = true ∧ ∀ H', Same H H' → Q (.bl t.isNm) H'
def spAreNames : Sp := fun vs H Q _ => ∃ (v : V) (t : Th), vs = [v] ∧ Data H t v ∧ t.tame = true ∧ (∀ m, t = .tup m → Th.flatL m = true ∧ SeqAt.shaped (.list (Th.pyL m)) = true) ∧ ∀ H', Same H H' → Q (.bl t.areNms) H'
theorem letter_in (c : Nat) : decide (c ∈ ("abcdefghijklmnopqrstuvwxyz" : Str).cps.toList) = (decide (97 ≤ c) && decide (c ≤ 122)) := by
  rw [letters_is]
  show decide (c ∈ letters) = _
  rw [← Bool.decide_and]
  refine decide_eq_decide.mpr ⟨fun h => letters_ok c h, fun ⟨h1, h2⟩ => ?_⟩
  have : ∀ d : Nat, d < 26 → (97 + d) ∈ letters := by decide
  have := this (c - 97) (by omega)
  rwa [show 97 + (c - 97) = c by omega] at this
section
variable {P : Program} {w : World} {K : PySem.W.Frag} {mg : Str → Option Value} {base : Heap}
abbrev s_is_whole : Stmt := topS 7
abbrev N_is_whole : List Str := ["thing"]
theorem sc_is_whole : FnScope N_is_whole ["thing"] (defScope s_is_whole) := ⟨rfl, rfl, rfl, by decide +kernel, rfl, by decide +kernel, by decide +kernel⟩

theorem ok_is_whole (T : Txt K mg) (D : IsDef K mg "is_whole" s_is_whole ["thing"]) : Cal P w K mg base CX0 1 "is_whole" ["thing"] spIsWhole := by
  refine D.cal sc_is_whole (fun vs H Q E h => ?_) (fun f cdv A outer s H vs Q E hr h => ?_)
  · obtain ⟨v, t, rfl, _⟩ := h
    rfl
  obtain ⟨v, t, rfl, hv, q⟩ := h
  refine ⟨_, (pss_one (ps_ret (pe_and (pe_callB call_isi (by rfl) T.b_isinstance (by decide +kernel) (pa_cons (pv 0) (pa_cons (pe_bltn (v := .ty "int") (by rfl) T.b_int (by decide +kernel) rfl) pa_nil))) (pe_one (pe_not (pe_callB call_isi (by rfl) T.b_isinstance (by decide +kernel) (pa_cons (pv 0) (pa_cons (pe_bltn (v := .ty "bool") (by rfl) T.b_bool (by decide +kernel) rfl) pa_nil)))))))), ?_⟩
  refine ⟨_, rfl, _, _, _, _, _, rfl, .ty _, hv.ty, kit_int t, _, rfl, ?_⟩
  have e := isInt_is t
  cases h1 : t.isIntB with
  | false =>
    rw [h1, Bool.false_and] at e
    refine iteF ?_
    rw [e]
    exact q
  | true =>
    rw [h1, Bool.true_and] at e
    refine iteT ?_
    refine ⟨_, rfl, _, _, _, _, _, rfl, .ty _, hv.ty, kit_bl t, _, rfl, ?_⟩
    rw [e]
    exact q
abbrev s_is_name : Stmt := topS 8
abbrev N_is_name : List Str := ["thing", "sign"]
theorem sc_is_name : FnScope N_is_name ["thing"] (defScope s_is_name) := ⟨rfl, rfl, rfl, by decide +kernel, rfl, by decide +kernel, by decide +kernel⟩

theorem ok_is_name {tw : Addr} (T : Txt K mg) (R : RTxt K mg tw) (D : IsDef K mg "is_name" s_is_name ["thing"]) : Cal P w K mg base CX0 1 "is_name" ["thing"] spIsName := by
  refine D.cal sc_is_name (fun vs H Q E h => ?_) (fun f cdv A outer s H vs Q E hr h => ?_)
  · obtain ⟨v, t, rfl, _⟩ := h
    rfl
  obtain ⟨v, t, rfl, hv, ht, q⟩ := h
  obtain ⟨_, g_LETTERS⟩ := R.LETTERS
  obtain ⟨_, g_LONGEST⟩ := R.LONGEST
  refine ⟨_, (pss_cons (ps_if (PW.pt (pw_or (pt_not (pt_val (pe_callB call_isi (by rfl) T.b_isinstance (by decide +kernel) (pa_cons (pv 0) (pa_cons (pe_bltn (v := .ty "str") (by rfl) T.b_str (by decide +kernel) rfl) pa_nil))))) (pw_or (pt_cmpR op_lt (pe_callB call_len_str (by rfl) T.b_len PySem.boot_len (pa_cons (pv 0) pa_nil)) pe_int (nomark _)) (pw_or1 (pt_cmpR op_gt (pe_callB call_len_str (by rfl) T.b_len PySem.boot_len (pa_cons (pv 0) pa_nil)) (pe_glob (v := .int _) rfl g_LONGEST ⟨_, rfl⟩) (nomark _))))))
        (pss_one (ps_ret pe_bl))
        pss_nil)
      (pss_one (ps_ret (pe_cmpR (op_eqD hr.units) (pe_lc (own := [("sign", 1)]) (g := gName 1)  (by rfl) sc_is_name.nd  (pi_str (pv 0)) (blkOk_by (own := [("sign", 1)]) (N := N_is_name) (sc := defScope s_is_name) (by decide +kernel)) (fun _ _ _ _ _ => (pg_name (i := 1) sc_is_name.nd rfl (Or.inl rfl))) (fun _ _ _ _ _ => (pts_one (pt_cmpR op_notIn_sign (pv 1) (pe_glob (v := .str _) rfl g_LETTERS ⟨_, rfl⟩) rfl))) (fun _ _ _ _ _ => (pv 1))) (pe_lst pa_nil) (nomark _))))), ?_⟩
  refine ⟨_, rfl, _, _, _, _, _, rfl, .ty _, hv.ty, kit_str t, _, rfl, ?_⟩
  cases t with
  | str z =>
    have hz : z.length ≤ 1000000 := by
      have : (decide (z.length ≤ 1000000) && z.all fun c => decide (c < 128)) = true := ht
      rw [Bool.and_eq_true, decide_eq_true_eq] at this
      exact this.1
    have hc : ∀ c ∈ z, c < 128 := by
      have : (decide (z.length ≤ 1000000) && z.all fun c => decide (c < 128)) = true := ht
      rw [Bool.and_eq_true, List.all_eq_true] at this
      exact fun c h => of_decide_eq_true (this.2 c h)
    have ev : v = .str (SX.S z) := hv
    subst ev
    refine iteF ?_
    have hl : (SX.S z).length ≤ sizeLine := by rw [SX.S_len]; exact le_line (by omega)
    refine ⟨_, rfl, _, rfl, hl, _, _, rfl, rfl, _, rfl, ?_⟩
    by_cases h1 : (((SX.S z).length : Nat) : Int) < 1
    · refine iteY h1 (iteT ?_)
      have e : nmOk z = false := by
        unfold nmOk
        rw [SX.S_len] at h1
        rw [decide_eq_false (show ¬ 1 ≤ z.length by omega)]
        rfl
      have : Q (.bl (nmOk z)) H := q H (Same.refl H)
      rw [e] at this
      exact this
    refine iteN h1 ?_
    refine ⟨_, rfl, _, rfl, hl, _, _, rfl, rfl, _, rfl, ?_⟩
    by_cases h2 : (((SX.S z).length : Nat) : Int) > 8
    · refine iteY h2 ?_
      have e : nmOk z = false := by
        unfold nmOk
        rw [SX.S_len] at h2
        rw [decide_eq_false (show ¬ z.length ≤ 8 by omega), Bool.and_false]
        rfl
      have : Q (.bl (nmOk z)) H := q H (Same.refl H)
      rw [e] at this
      exact this
    refine iteN h2 ?_
    rw [SX.S_len] at h1 h2
    refine ⟨_, rfl, _, rfl, fun L nL => lcS (z := SX.S z) (fun i H' => Same H H' ∧ H' L = some (.lst (txs (ones ((z.take i).filter fun c => !(decide (97 ≤ c) && decide (c ≤ 122)))))))
      ⟨same_new nL _, upd_same⟩ ?_ ?_⟩
    · rintro i c H1 hc1 ⟨hs, hL⟩
      have hci : z[i]? = some c := by
        have : z.toArray[i]? = some c := hc1
        rwa [List.getElem?_toArray] at this
      have e1 : (z.take (i + 1)) = z.take i ++ [c] := by rw [List.take_add_one, hci]; rfl
      refine ⟨rfl, _, rfl, c, _, rfl, rfl, _, rfl, ?_⟩
      rw [letter_in]
      cases hcc : (decide (97 ≤ c) && decide (c ≤ 122)) with
      | true =>
        refine iteF ⟨hs, ?_⟩
        rw [e1, List.filter_append, List.filter_cons_of_neg (by rw [hcc]; decide), List.filter_nil, List.append_nil]
        exact hL
      | false =>
        refine iteT ⟨_, rfl, _, hL, ?_, same_upd hs nL _, ?_⟩
        · rw [txs_len, ones_len]
          exact lt_line (Nat.lt_of_le_of_lt (List.length_filter_le _ _) (by rw [List.length_take]; omega))
        · rw [upd_same, e1, List.filter_append, List.filter_cons_of_pos (by rw [hcc]; rfl), List.filter_nil]
          unfold ones
          rw [List.map_append, txs_app]
          rfl
    · rintro H1 ⟨hs, hL⟩
      have ez : z.take (SX.S z).cps.size = z := List.take_of_length_le (by show z.length ≤ z.toArray.size; simp)
      rw [ez] at hL
      refine ⟨Nat.zero_le _, fun e ne => ?_⟩
      have Le : L ≠ e := ne_of_none hL ne
      have dd : ∀ (H : Hp) (l : List Nat), DpAll K H (txs (ones l)) (l.map fun c => PyData.str (SX.S [c])) := fun H l => by
        induction l with
        | nil => exact .nil
        | cons c l ih => exact .cons (.str _) ih
      have sh : ∀ l : List Nat, (∀ c ∈ l, c < 128) → PyData.canLayAll0 (l.map fun c => PyData.str (SX.S [c])) = true ∧ PyData.depthAll (l.map fun c => PyData.str (SX.S [c])) = 0 := fun l hl => by
        induction l with
        | nil => exact ⟨rfl, rfl⟩
        | cons c l ih =>
          have ih := ih fun d h => hl d (List.mem_cons_of_mem _ h)
          refine ⟨?_, ?_⟩
          · show ((SX.S [c]).cps.all (· < 0x110000) && PyData.canLayAll0 _) = true
            rw [ih.1]
            have := hl c (List.mem_cons_self ..)
            simp
            omega
          · show max 0 _ = 0
            rw [ih.2]
            rfl
      have s1 := sh (z.filter fun c => !(decide (97 ≤ c) && decide (c ≤ 122))) fun c h => hc c (List.mem_filter.mp h).1
      refine ⟨_, _, .lst (SqL.of (by rw [upd_ne Le]; exact hL)) (dd _ _), .lst (SqL.of upd_same) .nil, shaped_parts.mpr ⟨s1.1, by rw [s1.2]; decide⟩, rfl, ?_⟩
      have ef : ∀ l : List Nat, PyData.eqv (.list (l.map fun c => PyData.str (SX.S [c]))) (.list []) = l.isEmpty := fun l => by cases l <;> rfl
      rw [ef]
      have en : nmOk z = (z.filter fun c => !(decide (97 ≤ c) && decide (c ≤ 122))).isEmpty := by
        unfold nmOk
        rw [decide_eq_true (show 1 ≤ z.length by omega), decide_eq_true (show z.length ≤ 8 by omega)]
        show (z.all fun c => decide (97 ≤ c) && decide (c ≤ 122)) = _
        generalize z = l
        induction l with
        | nil => rfl
        | cons c l ih =>
          rw [List.all_cons, List.filter_cons, ih]
          cases (decide (97 ≤ c) && decide (c ≤ 122)) <;> rfl
      rw [← en]
      exact q _ (hs.trans (same_new ne _))
  | _ => exact iteT (q H (Same.refl H))
end
def spWithin (K : PySem.W.Frag) : Sp := fun vs H Q _ => ∃ (v : V) (t : Th), vs = [v] ∧ Data H t v ∧ t.tame = true ∧ (t.parts = none → ∀ H', Same H H' → Q .non H') ∧ (∀ ps, t.parts = some ps → ∀ (H' : Hp) (a : Addr) (xs : List V), Same H H' → H' a = some (.tup xs) → (∀ B, Same B H → Data B t v → DataL B ps xs) → Q (.ref a) H')
theorem data_in {B H : Hp} (s : Same B H) {l : List Th} {p : Addr} {xs : List V} (d : Data B (.tup l) (.ref p)) (hp : H p = some (.tup xs)) : DataL B l xs := by
  obtain ⟨p', xs', e, hp', hl⟩ := d
  cases e
  have z := s _ _ hp'
  rw [hp] at z
  cases z
  exact hl
theorem tup_tame {k : List Nat} {l : List Th} (h : (Th.tup (.str k :: l)).tame = true) : tameS k = true ∧ Th.tameL l = true ∧ l.length ≤ 1000000 ∧ namesTame (.str k :: l) = true := by
  have e : ((tameS k && Th.tameL l) && decide (l.length + 1 ≤ 1000000) && namesTame (.str k :: l)) = true := h
  rw [Bool.and_eq_true, Bool.and_eq_true, Bool.and_eq_true, decide_eq_true_eq] at e
  exact ⟨e.1.1.1, e.1.1.2, by omega, e.2⟩
section
variable {P : Program} {w : World} {K : PySem.W.Frag} {mg : Str → Option Value} {base : Heap}
abbrev s_are_names : Stmt := topS 9
abbrev N_are_names : List Str := ["thing", "name"]
theorem sc_are_names : FnScope N_are_names ["thing"] (defScope s_are_names) := ⟨rfl, rfl, rfl, by decide +kernel, rfl, by decide +kernel, by decide +kernel⟩

theorem ok_are_names {tw : Addr} (T : Txt K mg) (R : RTxt K mg tw) (D : IsDef K mg "are_names" s_are_names ["thing"]) (C_is_name : Cal P w K mg base CX0 1 "is_name" ["thing"] spIsName) : Cal P w K mg base CX0 2 "are_names" ["thing"] spAreNames := by
  refine D.cal sc_are_names (fun vs H Q E h => ?_) (fun f cdv A outer s H vs Q E hr h => ?_)
  · obtain ⟨v, t, rfl, _⟩ := h
    rfl
  obtain ⟨v, t, rfl, hv, ht, hf, q⟩ := h
  obtain ⟨_, g_MOST_NAMES⟩ := R.MOST_NAMES
  refine ⟨_, (pss_cons (ps_if (PW.pt (pw_or (pt_not (pt_val (pe_callB call_isi (by rfl) T.b_isinstance (by decide +kernel) (pa_cons (pv 0) (pa_cons (pe_bltn (v := .ty "tuple") (by rfl) T.b_tuple (by decide +kernel) rfl) pa_nil))))) (pw_or (pt_cmpR op_lt (pe_callB call_len_seq (by rfl) T.b_len PySem.boot_len (pa_cons (pv 0) pa_nil)) pe_int (nomark _)) (pw_or1 (pt_cmpR op_gt (pe_callB call_len_seq (by rfl) T.b_len PySem.boot_len (pa_cons (pv 0) pa_nil)) (pe_glob (v := .int _) rfl g_MOST_NAMES ⟨_, rfl⟩) (nomark _))))))
        (pss_one (ps_ret pe_bl))
        pss_nil)
      (pss_one (ps_ret (pe_cmpR (op_eqD hr.units) (pe_lc (own := [("name", 1)]) (g := gName 1)  (by rfl) sc_are_names.nd  (pi_tup (pv 0)) (blkOk_by (own := [("name", 1)]) (N := N_are_names) (sc := defScope s_are_names) (by decide +kernel)) (fun _ _ _ _ _ => (pg_name (i := 1) sc_are_names.nd rfl (Or.inl rfl))) (fun _ _ _ _ _ => (pts_one (pt_not (pt_val (pe_cal C_is_name (hr.mono (by first | decide | omega)) pass0 (pa_cons (pv 1) pa_nil)))))) (fun _ _ _ _ _ => (pv 1))) (pe_lst pa_nil) (nomark _))))), ?_⟩
  refine ⟨_, rfl, _, _, _, _, _, rfl, .ty _, hv.ty, kit_tup t, _, rfl, ?_⟩
  cases t with
  | tup l =>
    obtain ⟨p, xs, rfl, hp, hl⟩ := hv
    have hxl := hl.len
    have hq := q H (Same.refl H)
    have ea : (Th.tup l).areNms = (decide (1 ≤ l.length) && decide (l.length ≤ 9) && l.all Th.isNm) := rfl
    rw [ea] at hq q
    refine iteF ?_
    refine ⟨_, rfl, p, _, rfl, .inr (SqT.of hp), _, _, rfl, rfl, _, rfl, ?_⟩
    by_cases h1 : ((xs.length : Nat) : Int) < 1
    · refine iteY h1 (iteT ?_)
      rw [decide_eq_false (show ¬ 1 ≤ l.length by omega)] at hq
      exact hq
    refine iteN h1 ?_
    refine ⟨_, rfl, p, _, rfl, .inr (SqT.of hp), _, _, rfl, rfl, _, rfl, ?_⟩
    by_cases h2 : ((xs.length : Nat) : Int) > 9
    · refine iteY h2 ?_
      rw [decide_eq_false (show ¬ l.length ≤ 9 by omega), Bool.and_false] at hq
      exact hq
    refine iteN h2 ?_
    rw [decide_eq_true (show 1 ≤ l.length by omega), decide_eq_true (show l.length ≤ 9 by omega)] at q
    have htl : Th.tameL l = true := by
      have e : (Th.tameL l && decide (l.length ≤ 1000000) && namesTame l) = true := ht
      rw [Bool.and_eq_true, Bool.and_eq_true] at e
      exact e.1.1
    refine ⟨_, rfl, p, rfl, ⟨_, SqT.of hp⟩, fun L nL => lc_tup (K := K) (a := p) (xs := xs) (fun i H' => Same H H' ∧ ∃ ys, H' L = some (.lst ys) ∧ DataL H ((l.take i).filter fun t => !t.isNm) ys)
      ⟨same_new nL _, [], upd_same, rfl⟩ (fun i H' _ h => SqT.of (h.1 _ _ hp)) ?_ ?_⟩
    · rintro i x H1 hx ⟨hs, ys, hL, hy⟩
      obtain ⟨t, hti, hd⟩ := hl.at hx
      have hm : t ∈ l := List.mem_of_getElem? hti
      have e1 : (l.take (i + 1)) = l.take i ++ [t] := by rw [List.take_add_one, hti]; rfl
      refine ⟨rfl, _, rfl, x, t, rfl, hd.same hs, tameL_mem htl t hm, fun H2 s2 => ⟨_, rfl, ?_⟩⟩
      have hs2 := hs.trans s2
      cases htt : t.isNm with
      | true =>
        refine iteF ⟨hs2, ys, s2 _ _ hL, ?_⟩
        rw [e1, List.filter_append, List.filter_cons_of_neg (by rw [htt]; decide), List.filter_nil, List.append_nil]
        exact hy
      | false =>
        have hyl : ys.length ≤ 9 := by
          rw [hy.len]
          have := List.length_filter_le (fun t : Th => !t.isNm) (l.take i)
          have := List.length_take_le i l
          rw [List.length_take] at *
          omega
        refine iteT ⟨_, rfl, ys, s2 _ _ hL, lt_line (by omega), same_upd hs2 nL _, _, upd_same, ?_⟩
        rw [e1, List.filter_append, List.filter_cons_of_pos (by rw [htt]; rfl), List.filter_nil]
        exact hy.snoc hd
    · rintro H1 ⟨hs, ys, hL, hy⟩
      rw [hxl, List.take_length] at hy
      refine ⟨Nat.zero_le _, fun e ne => ?_⟩
      have Le : L ≠ e := ne_of_none hL ne
      have hff := hf l rfl
      refine ⟨_, _, .lst (SqL.of (by rw [upd_ne Le]; exact hL)) (DataL.dp (flatL_filter (fun t => !t.isNm) hff.1) (hy.same (hs.trans (same_new ne _)))), .lst (SqL.of upd_same) .nil, shaped_filter (fun t => !t.isNm) hff.2, rfl, ?_⟩
      rw [eqv_nil]
      have en : (l.filter fun t => !t.isNm).isEmpty = l.all Th.isNm := by
        generalize l = m
        induction m with
        | nil => rfl
        | cons c m ih =>
          rw [List.all_cons, List.filter_cons, ← ih]
          cases c.isNm <;> rfl
      rw [en]
      exact q _ (hs.trans (same_new ne _))
  | _ => exact iteT (q H (Same.refl H))
abbrev s_within : Stmt := topS 10
abbrev N_within : List Str := ["thing", "kind"]
theorem sc_within : FnScope N_within ["thing"] (defScope s_within) := ⟨rfl, rfl, rfl, by decide +kernel, rfl, by decide +kernel, by decide +kernel⟩

theorem cut_tail (a b : V) (r : List V) : cutV (a :: b :: r) (some 1) none = b :: r := by
  show ((a :: b :: r).drop (HT.sIx (a :: b :: r).length 0 (some ((1 : Nat) : Int)))).take (HT.sIx (a :: b :: r).length (a :: b :: r).length none - HT.sIx (a :: b :: r).length 0 (some ((1 : Nat) : Int))) = _
  rw [HT.sIx_nat, HT.sIx_none, Nat.min_eq_left (by simp), List.drop_one, List.tail_cons, List.take_of_length_le (by simp)]
theorem slice_ne (a b : V) (r : List V) : ¬ (HT.sIx (a :: b :: r).length 0 (some 1) = 0 ∧ HT.sIx (a :: b :: r).length (a :: b :: r).length none = (a :: b :: r).length) := fun z => by
  have z1 : HT.sIx (a :: b :: r).length 0 (some ((1 : Nat) : Int)) = 0 := z.1
  rw [HT.sIx_nat, Nat.min_eq_left (by simp)] at z1
  cases z1
theorem cut_one (a b c : V) : cutV [a, b, c] (some 1) (some 2) = [b] := rfl
theorem iteInY {k : List Nat} {A B : Prop} (h : k ∈ twos) (a : A) : if inV (.str (SX.S k)) [.str "plus", .str "minus", .str "times", .str "most"] = true then A else B := by
  rw [in_twos, if_pos (decide_eq_true h)]; exact a
theorem iteInN {k : List Nat} {A B : Prop} (h : ¬ k ∈ twos) (b : B) : if inV (.str (SX.S k)) [.str "plus", .str "minus", .str "times", .str "most"] = true then A else B := by
  rw [in_twos, if_neg (fun z => h (of_decide_eq_true z))]; exact b
theorem ok_within {tw : Addr} (T : Txt K mg) (R : RTxt K mg tw) (D : IsDef K mg "within" s_within ["thing"]) (C_is_whole : Cal P w K mg base CX0 1 "is_whole" ["thing"] spIsWhole) (C_is_name : Cal P w K mg base CX0 1 "is_name" ["thing"] spIsName)
    (C_are_names : Cal P w K mg base CX0 2 "are_names" ["thing"] spAreNames) : Cal P w K mg base CX0 3 "within" ["thing"] (spWithin K) := by
  refine D.cal sc_within (fun vs H Q E h => ?_) (fun f cdv A outer s H vs Q E hr h => ?_)
  · obtain ⟨v, t, rfl, _⟩ := h
    rfl
  obtain ⟨v, t, rfl, hv, ht, qn, qs⟩ := h
  have g_TWOS := R.TWOS
  refine ⟨_, (pss_cons (ps_if (PW.pt (pw_or (pt_not (pt_val (pe_callB call_isi (by rfl) T.b_isinstance (by decide +kernel) (pa_cons (pv 0) (pa_cons (pe_bltn (v := .ty "tuple") (by rfl) T.b_tuple (by decide +kernel) rfl) pa_nil))))) (pw_or (pt_cmpR op_lt (pe_callB call_len_seq (by rfl) T.b_len PySem.boot_len (pa_cons (pv 0) pa_nil)) pe_int (nomark _)) (pw_or1 (pt_not (pt_val (pe_callB call_isi (by rfl) T.b_isinstance (by decide +kernel) (pa_cons (pe_ix (r := rIxT K) ix_tup (pv 0) pe_int (fun _ _ => rfl)) (pa_cons (pe_bltn (v := .ty "str") (by rfl) T.b_str (by decide +kernel) rfl) pa_nil)))))))))
        (pss_one (ps_ret pe_non))
        pss_nil)
      (pss_cons (ps_set (i := 1) sc_within.nd rfl (Or.inl rfl) (pe_ix (r := rIxT K) ix_tup (pv 0) pe_int (fun _ _ => rfl)))
      (pss_cons (ps_if (PW.pt (pw_and (pt_cmpR op_eq (pv 1) pe_str (nomark _)) (pw_and (pt_cmpR op_eq (pe_callB call_len_seq (by rfl) T.b_len PySem.boot_len (pa_cons (pv 0) pa_nil)) pe_int (nomark _)) (pw_and1 (pt_val (pe_cal C_is_whole (hr.mono (by first | decide | omega)) pass0 (pa_cons (pe_ix (r := rIxT K) ix_tup (pv 0) pe_int (fun _ _ => rfl)) pa_nil)))))))
        (pss_one (ps_ret (pe_tup pa_nil)))
        pss_nil)
      (pss_cons (ps_if (PW.pt (pw_and (pt_cmpR op_eq (pv 1) pe_str (nomark _)) (pw_and (pt_cmpR op_eq (pe_callB call_len_seq (by rfl) T.b_len PySem.boot_len (pa_cons (pv 0) pa_nil)) pe_int (nomark _)) (pw_and1 (pt_val (pe_cal C_is_name (hr.mono (by first | decide | omega)) pass0 (pa_cons (pe_ix (r := rIxT K) ix_tup (pv 0) pe_int (fun _ _ => rfl)) pa_nil)))))))
        (pss_one (ps_ret (pe_tup pa_nil)))
        pss_nil)
      (pss_cons (ps_if (PW.pt (pw_or (PW.pt (pw_and (pt_cmpR op_in_seq (pv 1) (pe_glob (v := .ref _) rfl g_TWOS rfl) (by with_unfolding_all rfl)) (pw_and1 (pt_cmpR op_eq (pe_callB call_len_seq (by rfl) T.b_len PySem.boot_len (pa_cons (pv 0) pa_nil)) pe_int (nomark _))))) (pw_or1 (PW.pt (pw_and (pt_cmpR op_eq (pv 1) pe_str (nomark _)) (pw_and1 (pt_cmpR op_eq (pe_callB call_len_seq (by rfl) T.b_len PySem.boot_len (pa_cons (pv 0) pa_nil)) pe_int (nomark _))))))))
        (pss_one (ps_ret (pe_slice (r := rSlT K) sl_tup (pv 0) (po_some pe_int) po_none)))
        pss_nil)
      (pss_cons (ps_if (PW.pt (pw_and (pt_cmpR op_eq (pv 1) pe_str (nomark _)) (pw_and (pt_cmpR op_eq (pe_callB call_len_seq (by rfl) T.b_len PySem.boot_len (pa_cons (pv 0) pa_nil)) pe_int (nomark _)) (pw_and1 (pt_val (pe_cal C_are_names (hr.mono (by first | decide | omega)) pass0 (pa_cons (pe_ix (r := rIxT K) ix_tup (pv 0) pe_int (fun _ _ => rfl)) pa_nil)))))))
        (pss_one (ps_ret (pe_slice (r := rSlT K) sl_tup (pv 0) (po_some pe_int) (po_some pe_int))))
        pss_nil)
      (pss_one (ps_ret pe_non)))))))), ?_⟩
  refine ⟨_, rfl, _, _, _, _, _, rfl, .ty _, hv.ty, kit_tup t, _, rfl, ?_⟩
  cases t with
  | tup l0 =>
    obtain ⟨p, xs0, rfl, hp, hl0⟩ := hv
    refine iteF ?_
    refine ⟨_, rfl, p, _, rfl, .inr (SqT.of hp), _, _, rfl, rfl, _, rfl, ?_⟩
    cases l0 with
    | nil =>
      rw [show xs0 = [] from hl0]
      exact iteY (by decide) (iteT (qn rfl H (Same.refl H)))
    | cons t0 l =>
      obtain ⟨x0, xs, rfl, hd0, hl⟩ := hl0
      cases l with
      | nil =>
        rw [show xs = [] from hl]
        refine iteY (by show ((1 : Nat) : Int) < 2; decide) (iteT (qn ?_ H (Same.refl H)))
        cases t0 with
        | str k =>
          show formParts k [] = none
          unfold formParts
          simp
        | _ => rfl
      | cons t1 l' =>
        have hxl : xs.length = (t1 :: l').length := hl.len
        have hlen : (((x0 :: xs).length : Nat) : Int) = ((l'.length + 2 : Nat) : Int) := by rw [List.length_cons, hxl]; rfl
        refine iteN (by rw [hlen]; omega) ?_
        refine ⟨_, rfl, p, _, _, _, rfl, rfl, SqT.of hp, atI_at (by decide) rfl, _, _, _, _, _, rfl, .ty _, hd0.ty, kit_str t0, _, rfl, ?_⟩
        cases t0 with
        | str k =>
          obtain rfl : x0 = V.str (SX.S k) := hd0
          obtain ⟨_, htl, _, hnt⟩ := tup_tame ht
          have ep : (Th.tup (.str k :: t1 :: l')).parts = formParts k (t1 :: l') := rfl
          rw [ep] at qn qs
          obtain ⟨x1, xs', rfl, hd1, hl'⟩ := hl
          have hx' := hl'.len
          refine iteF ?_
          refine ⟨_, rfl, p, _, _, _, rfl, rfl, SqT.of hp, atI_at (by decide) rfl, ?_⟩
          have no : formParts k (t1 :: l') = none → ∀ H', Same H H' → Q .non H' := qn
          have n0 : ∀ w : List Nat, ∀ lit : Str, lit = SX.S w → k ≠ w → ¬ V.str (SX.S k) = V.str lit := fun w lit e hk z => hk ((kw e).mp z)
          have y0 : ∀ w : List Nat, ∀ lit : Str, lit = SX.S w → k = w → V.str (SX.S k) = V.str lit := fun w lit e hk => (kw e).mpr hk
          have len_is : ∀ m : Nat, (V.int (((V.str (SX.S k) :: x1 :: xs').length : Nat) : Int) = V.int ((m + 2 : Nat) : Int)) ↔ l'.length = m := fun m => by
            constructor
            · intro e
              have e' : (((V.str (SX.S k) :: x1 :: xs').length : Nat) : Int) = ((m + 2 : Nat) : Int) := by cases e; rfl
              rw [hlen] at e'
              omega
            · intro e
              rw [hlen, e]
          by_cases k1 : k = w_number
          · have fp : formParts k (t1 :: l') = if l'.length = 0 ∧ t1.isInt = true then some [] else none := by
                unfold formParts
                rw [if_pos k1]
                simp
            have n_read : k ≠ w_read := by rw [k1]; decide
            have n_pick : k ≠ w_pick := by rw [k1]; decide
            have n_choose : k ≠ w_choose := by rw [k1]; decide
            have nt : ¬ k ∈ twos := by rw [k1]; decide
            refine ⟨_, rfl, rfl, _, rfl, iteY (y0 _ _ q_number k1) ?_⟩
            refine ⟨_, rfl, p, _, rfl, .inr (SqT.of hp), rfl, _, rfl, ?_⟩
            by_cases hl0 : l'.length = 0
            · refine iteY ((len_is 0).mpr hl0) ?_
              refine ⟨_, rfl, p, _, _, _, rfl, rfl, SqT.of hp, atI_at (by decide) rfl, x1, t1, rfl, hd1, _, rfl, ?_⟩
              cases hi : t1.isInt with
              | true =>
                exact iteT ⟨Nat.zero_le _, fun a na => qs [] (by rw [fp, if_pos ⟨hl0, hi⟩]) _ a [] (same_new na _) upd_same fun _ _ _ => rfl⟩
              | false =>
                refine iteF ?_
                refine ⟨_, rfl, rfl, _, rfl, iteN (n0 _ _ q_read n_read) (iteF ?_)⟩
                refine ⟨_, rfl, tw, _, rfl, .inr (R.twos H), rfl, rfl, _, rfl, iteInN nt (iteF ?_)⟩
                refine ⟨_, rfl, rfl, _, rfl, iteN (n0 _ _ q_pick n_pick) (iteF ?_)⟩
                refine ⟨_, rfl, rfl, _, rfl, iteN (n0 _ _ q_choose n_choose) (iteF ?_)⟩
                exact no (by rw [fp, if_neg (fun z => by rw [hi] at z; cases z.2)]) H (Same.refl H)
            · refine iteN (fun z => hl0 ((len_is 0).mp z)) (iteF ?_)
              refine ⟨_, rfl, rfl, _, rfl, iteN (n0 _ _ q_read n_read) (iteF ?_)⟩
              refine ⟨_, rfl, tw, _, rfl, .inr (R.twos H), rfl, rfl, _, rfl, iteInN nt (iteF ?_)⟩
              refine ⟨_, rfl, rfl, _, rfl, iteN (n0 _ _ q_pick n_pick) (iteF ?_)⟩
              refine ⟨_, rfl, rfl, _, rfl, iteN (n0 _ _ q_choose n_choose) (iteF ?_)⟩
              exact no (by rw [fp, if_neg (fun z => hl0 z.1)]) H (Same.refl H)
          have n_number := k1
          refine ⟨_, rfl, rfl, _, rfl, iteN (n0 _ _ q_number n_number) (iteF ?_)⟩
          by_cases k2 : k = w_read
          · have fp : formParts k (t1 :: l') = if l'.length = 0 ∧ t1.isNm = true then some [] else none := by
              unfold formParts
              rw [if_neg k1, if_pos k2]
              simp
            have n_pick : k ≠ w_pick := by rw [k2]; decide
            have n_choose : k ≠ w_choose := by rw [k2]; decide
            have nt : ¬ k ∈ twos := by rw [k2]; decide
            refine ⟨_, rfl, rfl, _, rfl, iteY (y0 _ _ q_read k2) ?_⟩
            refine ⟨_, rfl, p, _, rfl, .inr (SqT.of hp), rfl, _, rfl, ?_⟩
            by_cases hl0 : l'.length = 0
            · refine iteY ((len_is 0).mpr hl0) ?_
              refine ⟨_, rfl, p, _, _, _, rfl, rfl, SqT.of hp, atI_at (by decide) rfl, x1, t1, rfl, hd1, tameL_mem htl t1 (List.mem_cons_self ..), fun H1 hs1 => ⟨_, rfl, ?_⟩⟩
              cases hi : t1.isNm with
              | true =>
                exact iteT ⟨Nat.zero_le _, fun a na => qs [] (by rw [fp, if_pos ⟨hl0, hi⟩]) _ a [] (hs1.trans (same_new na _)) upd_same fun _ _ _ => rfl⟩
              | false =>
                refine iteF ?_
                refine ⟨_, rfl, tw, _, rfl, .inr (R.twos H1), rfl, rfl, _, rfl, iteInN nt (iteF ?_)⟩
                refine ⟨_, rfl, rfl, _, rfl, iteN (n0 _ _ q_pick n_pick) (iteF ?_)⟩
                refine ⟨_, rfl, rfl, _, rfl, iteN (n0 _ _ q_choose n_choose) (iteF ?_)⟩
                exact no (by rw [fp, if_neg (fun z => by rw [hi] at z; cases z.2)]) H1 hs1
            · refine iteN (fun z => hl0 ((len_is 0).mp z)) (iteF ?_)
              refine ⟨_, rfl, tw, _, rfl, .inr (R.twos H), rfl, rfl, _, rfl, iteInN nt (iteF ?_)⟩
              refine ⟨_, rfl, rfl, _, rfl, iteN (n0 _ _ q_pick n_pick) (iteF ?_)⟩
              refine ⟨_, rfl, rfl, _, rfl, iteN (n0 _ _ q_choose n_choose) (iteF ?_)⟩
              exact no (by rw [fp, if_neg (fun z => hl0 z.1)]) H (Same.refl H)
          have n_read := k2
          refine ⟨_, rfl, rfl, _, rfl, iteN (n0 _ _ q_read n_read) (iteF ?_)⟩
          by_cases k3 : k ∈ twos
          · have fp : formParts k (t1 :: l') = if l'.length = 1 then some (t1 :: l') else none := by
              unfold formParts
              rw [if_neg k1, if_neg k2, if_pos k3]
              simp
            have n_pick : k ≠ w_pick := fun z => by rw [z] at k3; revert k3; decide
            have n_choose : k ≠ w_choose := fun z => by rw [z] at k3; revert k3; decide
            refine ⟨_, rfl, tw, _, rfl, .inr (R.twos H), rfl, rfl, _, rfl, iteInY k3 ?_⟩
            refine ⟨_, rfl, p, _, rfl, .inr (SqT.of hp), rfl, _, rfl, ?_⟩
            by_cases hl0 : l'.length = 1
            · refine iteY ((len_is 1).mpr hl0) (iteT ?_)
              refine ⟨_, rfl, _, rfl, p, _, rfl, SqT.of hp, slice_ne _ _ _, fun a na => ?_⟩
              refine qs _ (by rw [fp, if_pos hl0]) _ a _ (same_new na _) upd_same fun B sB dB => ?_
              rw [cut_tail]
              exact DataL.drop 1 (data_in sB dB hp)
            · refine iteN (fun z => hl0 ((len_is 1).mp z)) ?_
              refine ⟨_, rfl, rfl, _, rfl, iteN (n0 _ _ q_pick n_pick) (iteF ?_)⟩
              refine ⟨_, rfl, rfl, _, rfl, iteN (n0 _ _ q_choose n_choose) (iteF ?_)⟩
              exact no (by rw [fp, if_neg hl0]) H (Same.refl H)
          have nt := k3
          refine ⟨_, rfl, tw, _, rfl, .inr (R.twos H), rfl, rfl, _, rfl, iteInN nt (iteF ?_)⟩
          by_cases k4 : k = w_pick
          · have fp : formParts k (t1 :: l') = if l'.length = 2 then some (t1 :: l') else none := by
              unfold formParts
              rw [if_neg k1, if_neg k2, if_neg k3, if_pos k4]
              simp
            have n_choose : k ≠ w_choose := by rw [k4]; decide
            refine ⟨_, rfl, rfl, _, rfl, iteY (y0 _ _ q_pick k4) ?_⟩
            refine ⟨_, rfl, p, _, rfl, .inr (SqT.of hp), rfl, _, rfl, ?_⟩
            by_cases hl0 : l'.length = 2
            · refine iteY ((len_is 2).mpr hl0) ?_
              refine ⟨_, rfl, _, rfl, p, _, rfl, SqT.of hp, slice_ne _ _ _, fun a na => ?_⟩
              refine qs _ (by rw [fp, if_pos hl0]) _ a _ (same_new na _) upd_same fun B sB dB => ?_
              rw [cut_tail]
              exact DataL.drop 1 (data_in sB dB hp)
            · refine iteN (fun z => hl0 ((len_is 2).mp z)) ?_
              refine ⟨_, rfl, rfl, _, rfl, iteN (n0 _ _ q_choose n_choose) (iteF ?_)⟩
              exact no (by rw [fp, if_neg hl0]) H (Same.refl H)
          have n_pick := k4
          refine ⟨_, rfl, rfl, _, rfl, iteN (n0 _ _ q_pick n_pick) (iteF ?_)⟩
          by_cases k5 : k = w_choose
          · have fp : formParts k (t1 :: l') = if l'.length = 1 ∧ (l'.headD .non).areNms = true then some [t1] else none := by
              unfold formParts
              rw [if_neg k1, if_neg k2, if_neg k3, if_neg k4, if_pos k5]
              cases l' <;> simp
            refine ⟨_, rfl, rfl, _, rfl, iteY (y0 _ _ q_choose k5) ?_⟩
            refine ⟨_, rfl, p, _, rfl, .inr (SqT.of hp), rfl, _, rfl, ?_⟩
            by_cases hl0 : l'.length = 1
            · refine iteY ((len_is 1).mpr hl0) ?_
              match l', hl0, hl', htl, hnt, fp with
              | [t2], _, ⟨x2, xs2, e2, hd2, e3⟩, htl, hnt, fp =>
                subst e2
                obtain rfl : xs2 = [] := e3
                refine ⟨_, rfl, p, _, _, _, rfl, rfl, SqT.of hp, atI_at (by decide) rfl, x2, t2, rfl, hd2, tameL_mem htl t2 (by simp), fun m hm => ?_, fun H1 hs1 => ⟨_, rfl, ?_⟩⟩
                · subst hm
                  have e : (!decide (k = w_choose) || (Th.flatL m && SeqAt.shaped (.list (Th.pyL m)))) = true := hnt
                  rw [decide_eq_true k5] at e
                  exact Bool.and_eq_true_iff.mp e
                cases hi : t2.areNms with
                | true =>
                  refine iteT ⟨_, rfl, _, rfl, _, rfl, p, _, rfl, SqT.of (hs1 _ _ hp), fun z => absurd z.1 (by show ¬ HT.sIx 3 0 (some 1) = 0; decide), fun a na => ?_⟩
                  refine qs [t1] (by rw [fp, if_pos ⟨rfl, hi⟩]) _ a _ (hs1.trans (same_new na _)) upd_same fun B sB dB => ?_
                  rw [cut_one]
                  exact DataL.take 1 (DataL.drop 1 (data_in sB dB hp))
                | false =>
                  exact iteF (no (by rw [fp, if_neg (fun z => by rw [show ([t2] : List Th).headD .non = t2 from rfl, hi] at z; cases z.2)]) H1 hs1)
            · exact iteN (fun z => hl0 ((len_is 1).mp z)) (iteF (no (by rw [fp, if_neg (fun z => hl0 z.1)]) H (Same.refl H)))
          have n_choose := k5
          refine ⟨_, rfl, rfl, _, rfl, iteN (n0 _ _ q_choose n_choose) (iteF ?_)⟩
          exact no (by unfold formParts; rw [if_neg k1, if_neg k2, if_neg k3, if_neg k4, if_neg k5]) H (Same.refl H)
        | _ => exact iteT (qn rfl H (Same.refl H))
  | _ => exact iteT (qn rfl H (Same.refl H))
abbrev s_is_recipe : Stmt := topS 11
abbrev N_is_recipe : List Str := ["thing", "row", "at", "one", "depth", "parts", "part"]
theorem sc_is_recipe : FnScope N_is_recipe ["thing"] (defScope s_is_recipe) := ⟨rfl, rfl, rfl, by decide +kernel, rfl, by decide +kernel, by decide +kernel⟩

/-- what is still to be looked at -/
def pend (n : Nat) (rest : List (Th × Nat)) : Nat := (rest.map fun p => Th.count (9 - p.2) p.1).sum
def Row (H : Hp) : List (Th × Nat) → List V → Prop
  | [], xs => xs = []
  | p :: r, xs => ∃ (a : Addr) (x : V) (ys : List V), xs = .ref a :: ys ∧ H a = some (.tup [x, .int (p.2 : Int)]) ∧ Data H p.1 x ∧ Row H r ys
theorem Row.same {H H' : Hp} (s : Same H H') : ∀ {r : List (Th × Nat)} {xs : List V}, Row H r xs → Row H' r xs
  | [], _, h => h
  | _ :: _, _, ⟨a, x, ys, e, h, d, r⟩ => ⟨a, x, ys, e, s _ _ h, d.same s, Row.same s r⟩
theorem Row.len {H : Hp} : ∀ {r : List (Th × Nat)} {xs : List V}, Row H r xs → xs.length = r.length
  | [], _, h => by rw [show _ = [] from h]; rfl
  | _ :: _, _, ⟨a, x, ys, e, h, d, r⟩ => by rw [e, List.length_cons, Row.len r]; rfl
theorem Row.at {H : Hp} : ∀ {r : List (Th × Nat)} {xs : List V} {i : Nat} {p : Th × Nat}, Row H r xs → r[i]? = some p → ∃ (a : Addr) (x : V), xs[i]? = some (.ref a) ∧ H a = some (.tup [x, .int (p.2 : Int)]) ∧ Data H p.1 x
  | [], _, i, p, _, e => by simp at e
  | q :: _, _, 0, p, ⟨a, x, ys, e1, h, d, _⟩, e => by subst e1; cases e; exact ⟨a, x, rfl, h, d⟩
  | _ :: _, _, i + 1, p, ⟨a, x, ys, e1, h, d, r⟩, e => by subst e1; exact Row.at (i := i) r (by simpa using e)
theorem Row.snoc {H : Hp} {p : Th × Nat} {a : Addr} {x : V} (h : H a = some (.tup [x, .int (p.2 : Int)])) (d : Data H p.1 x) : ∀ {r : List (Th × Nat)} {xs : List V}, Row H r xs → Row H (r ++ [p]) (xs ++ [.ref a])
  | [], _, e => by rw [show _ = [] from e]; exact ⟨a, x, [], rfl, h, d, rfl⟩
  | _ :: _, _, ⟨b, y, ys, e, h', d', r⟩ => by subst e; exact ⟨b, y, _, rfl, h', d', Row.snoc h d r⟩
theorem pend_ge (n : Nat) : ∀ r : List (Th × Nat), r.length ≤ pend n r
  | [] => Nat.zero_le _
  | p :: r => by
    have := pend_ge n r
    have := count_pos (9 - p.2) p.1
    show r.length + 1 ≤ Th.count (9 - p.2) p.1 + pend n r
    omega
theorem pend_app (n : Nat) (a b : List (Th × Nat)) : pend n (a ++ b) = pend n a + pend n b := by unfold pend; rw [List.map_append, List.sum_append]
def allOk (r : List (Th × Nat)) : Bool := r.all fun p => Th.okay (9 - p.2) p.1
def spIsRecipe : Sp := fun vs H Q _ => ∃ (v : V) (t : Th), vs = [v] ∧ Data H t v ∧ t.tame = true ∧ ∀ H', Same H H' → Q (.bl t.isRcp) H'
theorem parts_tame {t : Th} {ps : List Th} (ht : t.tame = true) (h : t.parts = some ps) : ps.length ≤ 3 ∧ ∀ p ∈ ps, p.tame = true := by
  obtain ⟨k, l, rfl⟩ := parts_tup h
  have hm := tameL_mem (tup_tame ht).2.1
  have e : formParts k l = some ps := h
  unfold formParts at e
  have none_ne : ∀ {x : List Th}, (Option.none : Option (List Th)) = some x → False := fun z => by cases z
  split at e
  · split at e
    · cases e; exact ⟨by decide, by simp⟩
    · cases e
  split at e
  · split at e
    · cases e; exact ⟨by decide, by simp⟩
    · cases e
  split at e
  · split at e
    · rename_i h2; cases e; exact ⟨by omega, hm⟩
    · cases e
  split at e
  · split at e
    · rename_i h2; cases e; exact ⟨by omega, hm⟩
    · cases e
  split at e
  · split at e
    · rename_i h2; cases e
      refine ⟨by rw [List.length_take]; omega, fun p hp => hm p (List.mem_of_mem_take hp)⟩
    · cases e
  · cases e
theorem ok_is_recipe {tw : Addr} (T : Txt K mg) (R : RTxt K mg tw) (D : IsDef K mg "is_recipe" s_is_recipe ["thing"]) (C_within : Cal P w K mg base CX0 3 "within" ["thing"] (spWithin K)) : Cal P w K mg base CX0 4 "is_recipe" ["thing"] spIsRecipe := by
  refine D.cal sc_is_recipe (fun vs H Q E h => ?_) (fun f cdv A outer s H vs Q E hr h => ?_)
  · obtain ⟨v, t, rfl, _⟩ := h
    rfl
  obtain ⟨v, t, rfl, hv, ht, q⟩ := h
  obtain ⟨_, g_MOST⟩ := R.MOST
  obtain ⟨_, g_DEEPEST⟩ := R.DEEPEST
  refine ⟨_, (pss_cons (ps_set (i := 1) sc_is_recipe.nd rfl (Or.inl rfl) (pe_lst (pa_cons (pe_tup (pa_cons (pv 0) (pa_cons pe_int pa_nil))) pa_nil)))
      (pss_cons (ps_set (i := 2) sc_is_recipe.nd rfl (Or.inl rfl) pe_int)
      (pss_cons (ps_while PassesOwn.never (pt_cmpR op_lt (pv 2) (pe_callB call_len_seq (by rfl) T.b_len PySem.boot_len (pa_cons (pv 1) pa_nil)) (nomark _))
        (pss_cons (ps_asg (pe_ix (r := rIxL K) ix_list (pv 1) (pv 2) (fun _ _ => rfl)) (pg_tup rfl (pgs_cons (pg_name (i := 3) sc_is_recipe.nd rfl (Or.inl rfl)) (pgs_cons (pg_name (i := 4) sc_is_recipe.nd rfl (Or.inl rfl)) pgs_nil))))
      (pss_cons (ps_set (i := 5) sc_is_recipe.nd rfl (Or.inl rfl) (pe_cal C_within (hr.mono (by first | decide | omega)) pass0 (pa_cons (pv 3) pa_nil)))
      (pss_cons (ps_if (PW.pt (pw_or (pt_cmpR op_isN (pv 5) pe_non (nomark _)) (pw_or (pt_cmpR op_gt (pv 4) (pe_glob (v := .int _) rfl g_DEEPEST ⟨_, rfl⟩) (nomark _)) (pw_or1 (pt_cmpR op_gt (pe_callB call_len_seq (by rfl) T.b_len PySem.boot_len (pa_cons (pv 1) pa_nil)) (pe_glob (v := .int _) rfl g_MOST ⟨_, rfl⟩) (nomark _))))))
        (pss_one (ps_ret pe_bl))
        pss_nil)
      (pss_cons (ps_for PassesOwn.never rfl (pi_tup (pv 5)) (pg_name (i := 6) sc_is_recipe.nd rfl (Or.inl rfl))
        (pss_one (ps_expr (pe_bm PySem.F.plainAttrs_list PySem.F.slot_list_append PySem.F.type_list_append mt_append (pv 1) (pa_cons (pe_tup (pa_cons (pv 6) (pa_cons (pe_op op_add (pv 4) pe_int) pa_nil))) pa_nil)))))
      (pss_one (ps_aug (i := 2) sc_is_recipe.nd rfl (Or.inl rfl) pe_int ip_add)))))))
      (pss_one (ps_ret pe_bl))))), ?_⟩
  refine ⟨_, rfl, le_line (Nat.le_of_ble_eq_true rfl), fun p np => ⟨le_line (Nat.le_of_ble_eq_true rfl), fun L nL => ?_⟩⟩
  have s1 := same_new np (.tup [v, .int 1])
  -- the row: looked at, and still to be looked at
  refine ⟨fun m σ H' => ∃ (B : Hp) (all : List (Th × Nat)) (xs : List V) (i : Nat) (o1 o2 o3 o4 : Option V), σ = [some v, some (.ref L), some (.int (i : Int)), o1, o2, o3, o4] ∧ Same H B ∧ B L = none ∧ Same B H' ∧ H' L = some (.lst xs) ∧ Row B all xs ∧
      i ≤ all.length ∧ all.length ≤ 103 ∧ (∀ q ∈ all, q.1.tame = true ∧ 1 ≤ q.2 ∧ q.2 ≤ 9) ∧ (all.length ≤ 100 ∨ i < all.length) ∧ t.isRcp = (allOk (all.drop i) && decide (i + pend 0 (all.drop i) ≤ 100)) ∧ m = 104 - i, ?_, ?_⟩
  · refine ⟨104, _, [(t, 1)], [.ref p], 0, none, none, none, none, rfl, s1, nL, same_new nL _, upd_same, ⟨p, v, [], rfl, upd_same, hv.same s1, rfl⟩, Nat.zero_le _, Nat.le_of_ble_eq_true rfl, ?_, .inl (Nat.le_of_ble_eq_true rfl), ?_, rfl⟩
    · intro q' hq
      rw [List.mem_singleton.mp hq]
      exact ⟨ht, Nat.le_refl 1, (by decide : 1 ≤ 9)⟩
    · show (t.okay 8 && decide (t.count 8 ≤ 100)) = ((t.okay 8 && true) && decide (0 + (t.count 8 + 0) ≤ 100))
      rw [Bool.and_true, Nat.zero_add, Nat.add_zero]
  rintro m σ H1 ⟨B, all, xs, i, o1, o2, o3, o4, rfl, hB, nB, hs, hL, hrow, hi, h103, htm, hlast, heq, rfl⟩
  have hxl := hrow.len
  refine ⟨_, rfl, _, rfl, L, _, rfl, .inl (SqL.of hL), _, _, rfl, rfl, _, rfl, ?_⟩
  by_cases hlt : ((i : Nat) : Int) < ((xs.length : Nat) : Int)
  · refine iteY hlt ?_
    have hia : i < all.length := by omega
    have hget := List.getElem?_eq_getElem hia
    obtain ⟨a, x, hxa, hpa, hda⟩ := hrow.at hget
    generalize hqe : all[i] = pq at hget hpa hda
    obtain ⟨t1, d1⟩ := pq
    have hq1 := htm (t1, d1) (by rw [← hqe]; exact List.getElem_mem hia)
    have hdrop : all.drop i = (t1, d1) :: all.drop (i + 1) := by rw [List.drop_eq_getElem_cons hia, hqe]
    refine ⟨fun σ' H' => ∃ (B : Hp) (all : List (Th × Nat)) (xs : List V) (i' : Nat) (o1 o2 o3 o4 : Option V), σ' = [some v, some (.ref L), some (.int (i' : Int)), o1, o2, o3, o4] ∧ Same H B ∧ B L = none ∧ Same B H' ∧ H' L = some (.lst xs) ∧ Row B all xs ∧
      i' ≤ all.length ∧ all.length ≤ 103 ∧ (∀ q ∈ all, q.1.tame = true ∧ 1 ≤ q.2 ∧ q.2 ≤ 9) ∧ (all.length ≤ 100 ∨ i' < all.length) ∧ t.isRcp = (allOk (all.drop i') && decide (i' + pend 0 (all.drop i') ≤ 100)) ∧ i' = i + 1, ?_, ?_⟩
    · rintro σ' H' ⟨B, all, xs, i', o1, o2, o3, o4, e1, e2, e3, e4, e5, e6, e7, e8, e9, e10, e11, e12⟩
      exact ⟨104 - i', by omega, B, all, xs, i', o1, o2, o3, o4, e1, e2, e3, e4, e5, e6, e7, e8, e9, e10, e11, rfl⟩
    -- one, depth = row[at]
    refine ⟨_, rfl, _, rfl, L, _, _, _, rfl, rfl, SqL.of hL, atI_nat hxa, ?_⟩
    refine ⟨a, _, rfl, SqT.of (hs _ _ hpa), rfl, x, _, rfl, _, _, rfl, rfl, ?_⟩
    refine ⟨_, rfl, x, t1, rfl, hda.same hs, hq1.1, fun hno H2 hs2 => ?_, fun ps hps H2 ap zs hs2 hap hzs => ?_⟩
    · refine ⟨_, rfl, rfl, _, rfl, iteY rfl (iteT ?_)⟩
      have : t.isRcp = false := by
        rw [heq, hdrop]
        show ((Th.okay (9 - d1) t1 && allOk (all.drop (i + 1))) && _) = false
        have : Th.okay (9 - d1) t1 = false := by
          cases 9 - d1 with
          | zero => rfl
          | succ n => show (match t1.parts with | none => false | some ps => ps.all (Th.okay n)) = false; rw [hno]
        rw [this]
        rfl
      rw [← this]
      exact q _ (hB.trans (hs.trans hs2))
    · refine ⟨_, rfl, rfl, _, rfl, iteN (by intro z; cases z) ?_⟩
      have hs12 := hs.trans hs2
      have hL2 := hs2 _ _ hL
      refine ⟨_, rfl, _, _, rfl, rfl, _, rfl, ?_⟩
      by_cases hd9 : ((d1 : Nat) : Int) > 8
      · refine iteY hd9 (iteT ?_)
        have : t.isRcp = false := by
          rw [heq, hdrop]
          show ((Th.okay (9 - d1) t1 && allOk (all.drop (i + 1))) && _) = false
          have e9 : 9 - d1 = 0 := by omega
          rw [e9]
          rfl
        rw [← this]
        exact q _ (hB.trans hs12)
      refine iteN hd9 ?_
      refine ⟨_, rfl, L, _, rfl, .inl (SqL.of hL2), _, _, rfl, rfl, _, rfl, ?_⟩
      by_cases hbig : ((xs.length : Nat) : Int) > 100
      · refine iteY hbig ?_
        have : t.isRcp = false := by
          rw [heq, hdrop]
          have hge := pend_ge 0 (all.drop i)
          rw [hdrop] at hge
          have hln : ((t1, d1) :: all.drop (i + 1)).length = all.length - i := by rw [← hdrop, List.length_drop]
          rw [decide_eq_false (show ¬ i + pend 0 ((t1, d1) :: all.drop (i + 1)) ≤ 100 by omega), Bool.and_false]
        rw [← this]
        exact q _ (hB.trans hs12)
      refine iteN hbig ?_
      obtain ⟨hp3, hptm⟩ := parts_tame hq1.1 hps
      have hzl := (hzs B hs hda).len
      obtain ⟨nn, hnn⟩ : ∃ nn, 9 - d1 = nn + 1 := ⟨8 - d1, by omega⟩
      have hnn2 : 9 - (d1 + 1) = nn := by omega
      have hok : Th.okay (9 - d1) t1 = allOk (ps.map fun p => (p, d1 + 1)) := by
        rw [hnn]
        show (match t1.parts with | none => false | some ps => ps.all (Th.okay nn)) = _
        rw [hps]
        unfold allOk
        rw [List.all_map]
        show ps.all (Th.okay nn) = ps.all fun p => Th.okay (9 - (d1 + 1)) p
        rw [hnn2]
      have hct : Th.count (9 - d1) t1 = 1 + pend 0 (ps.map fun p => (p, d1 + 1)) := by
        rw [hnn]
        show (match t1.parts with | none => 1 | some ps => 1 + (ps.map (Th.count nn)).sum) = _
        rw [hps]
        unfold pend
        rw [List.map_map]
        show 1 + (ps.map (Th.count nn)).sum = 1 + (ps.map fun p => Th.count (9 - (d1 + 1)) p).sum
        rw [hnn2]
      -- for part in parts
      refine ⟨_, rfl, ap, rfl, ⟨_, SqT.of hap⟩, for_tup (K := K) (a := ap) (xs := zs) (fun j σ' H' => ∃ (B' : Hp) (ys : List V) (o4 : Option V), σ' = [some v, some (.ref L), some (.int (i : Int)), some x, some (.int (d1 : Int)), some (.ref ap), o4] ∧ Same B B' ∧ B' L = none ∧ Same B' H' ∧ H' ap = some (.tup zs) ∧ H' L = some (.lst ys) ∧
          Row B' (all ++ (ps.take j).map fun p => (p, d1 + 1)) ys ∧ DataL B' ps zs) ?_ (fun j σ' H' _ ⟨_, _, _, _, _, _, _, h, _⟩ => SqT.of h) ?_ ?_⟩
      · exact ⟨B, xs, o4, rfl, Same.refl _, nB, hs12, hap, hL2, by rw [List.take_zero, List.map_nil, List.append_nil]; exact hrow, hzs B hs hda⟩
      · rintro j y σ' H3 hy ⟨B', ys, o4', rfl, hBB, nB', hs3, hap3, hL3, hrow3, hzs3⟩
        obtain ⟨tj, htj, hdj⟩ := hzs3.at hy
        have hyl := hrow3.len
        have hjl : (ps.take j).length ≤ 3 := by rw [List.length_take]; omega
        rw [List.length_append, List.length_map] at hyl
        refine ⟨_, rfl, .inl ⟨rfl, _, SqL.of hL3⟩, _, rfl, _, rfl, _, _, rfl, rfl, le_line (Nat.le_of_ble_eq_true rfl), fun u nu => ⟨L, _, _, rfl, rfl, same_new nu _ _ _ hL3, lt_line (by omega), ?_⟩⟩
        have Lu : L ≠ u := ne_of_none hL3 nu
        have apL : ap ≠ L := fun z => by rw [z, hL3] at hap3; cases hap3
        have nu' : B' u = none := hs3.free nu
        refine ⟨upd B' u (.tup [y, .int ((d1 : Int) + 1)]), _, _, rfl, hBB.trans (same_new nu' _), by rw [upd_ne Lu]; exact nB', fun b o e => ?_, ?_, upd_same, ?_, hzs3.same (same_new nu' _)⟩
        · have hbL : b ≠ L := fun z => by rw [z, upd_ne Lu, nB'] at e; cases e
          rw [upd_ne hbL]
          by_cases hbu : b = u
          · rw [hbu, upd_same] at e ⊢; exact e
          · rw [upd_ne hbu] at e ⊢; exact hs3 _ _ e
        · rw [upd_ne apL]; exact same_new nu _ _ _ hap3
        · rw [List.take_add_one, htj, List.map_append, ← List.append_assoc]
          exact Row.snoc (p := (tj, d1 + 1)) upd_same (hdj.same (same_new nu' _)) (hrow3.same (same_new nu' _))
      · rintro σ' H3 ⟨B', ys, o4', rfl, hBB, nB', hs3, hap3, hL3, hrow3, hzs3⟩
        rw [hzl, List.take_length] at hrow3
        refine ⟨_, rfl, _, _, rfl, rfl, ?_⟩
        have hnl : (ps.map fun p => (p, d1 + 1)).length = ps.length := List.length_map _
        refine ⟨B', all ++ ps.map fun p => (p, d1 + 1), ys, i + 1, _, _, _, _, rfl, hB.trans hBB, nB', hs3, hL3, hrow3, ?_, ?_, ?_, ?_, ?_, rfl⟩
        · rw [List.length_append]; omega
        · rw [List.length_append, hnl]; omega
        · intro q' hq'
          rcases List.mem_append.mp hq' with h | h
          · exact htm q' h
          · obtain ⟨p', hp', rfl⟩ := List.mem_map.mp h
            exact ⟨hptm p' hp', by show 1 ≤ d1 + 1; omega, by show d1 + 1 ≤ 9; omega⟩
        · rw [List.length_append, hnl]
          cases ps with
          | nil => exact .inl (by show all.length + 0 ≤ 100; omega)
          | cons p0 r0 => exact .inr (by rw [List.length_cons]; omega)
        · rw [heq, hdrop, List.drop_append_of_le_length (by omega), pend_app]
          have ea : allOk ((t1, d1) :: all.drop (i + 1)) = (Th.okay (9 - d1) t1 && allOk (all.drop (i + 1))) := rfl
          have ep : pend 0 ((t1, d1) :: all.drop (i + 1)) = Th.count (9 - d1) t1 + pend 0 (all.drop (i + 1)) := rfl
          have eb : allOk (all.drop (i + 1) ++ ps.map fun p => (p, d1 + 1)) = (allOk (all.drop (i + 1)) && allOk (ps.map fun p => (p, d1 + 1))) := List.all_append
          rw [ea, ep, eb, hok, hct, Bool.and_comm (allOk (ps.map fun p => (p, d1 + 1)))]
          congr 2
          exact propext ⟨fun z => by omega, fun z => by omega⟩
  · refine iteN hlt ?_
    have e : all.drop i = [] := List.drop_eq_nil_of_le (by omega)
    have : t.isRcp = true := by
      rw [heq, e]
      show (true && decide (i + 0 ≤ 100)) = true
      rw [decide_eq_true (show i + 0 ≤ 100 by omega)]
      rfl
    have h := q _ (hB.trans hs)
    rw [this] at h
    exact h
end
/-! ### the law's own reckoning of what is a recipe -/
def spSpots (K : PySem.W.Frag) : Sp := fun vs H Q _ => ∃ (v : V) (t : Th), vs = [v] ∧ Data H t v ∧ t.tame = true ∧ (t.parts = none → ∀ H', Same H H' → Q .non H') ∧
  (∀ ps, t.parts = some ps → ∀ (H' : Hp) (a : Addr), Same H H' → H' a = some (.lst ((List.range ps.length).map fun (i : Nat) => V.int ((i : Int) + 1))) → H a = none → Q (.ref a) H')
def lawCnt : Nat → Th → Nat
  | 0, _ => 1000
  | n + 1, t => match t.parts with
    | none => 1000
    | some ps => 1 + (ps.map (lawCnt n)).sum
theorem sum_ge {α : Type} (f : α → Nat) : ∀ {l : List α} {x : α}, x ∈ l → f x ≤ (l.map f).sum
  | a :: l, x, h => by
    rcases List.mem_cons.mp h with h | h
    · rw [h, List.map_cons, List.sum_cons]; omega
    · have := sum_ge f h
      rw [List.map_cons, List.sum_cons]; omega
theorem lawCnt_is : ∀ (n : Nat) (t : Th), (t.okay n = true → lawCnt n t = t.count n) ∧ (t.okay n = false → 1000 ≤ lawCnt n t)
  | 0, t => ⟨fun h => (by cases h), fun _ => Nat.le_refl _⟩
  | n + 1, t => by
    cases hp : t.parts with
    | none =>
      have e1 : t.okay (n + 1) = false := by show (match t.parts with | none => false | some ps => ps.all (Th.okay n)) = false; rw [hp]
      have e2 : lawCnt (n + 1) t = 1000 := by show (match t.parts with | none => 1000 | some ps => 1 + (ps.map (lawCnt n)).sum) = 1000; rw [hp]
      exact ⟨fun h => (by rw [e1] at h; cases h), fun _ => (by rw [e2]; exact Nat.le_refl _)⟩
    | some ps =>
      have e1 : t.okay (n + 1) = ps.all (Th.okay n) := by show (match t.parts with | none => false | some ps => ps.all (Th.okay n)) = _; rw [hp]
      have e2 : lawCnt (n + 1) t = 1 + (ps.map (lawCnt n)).sum := by show (match t.parts with | none => 1000 | some ps => 1 + (ps.map (lawCnt n)).sum) = _; rw [hp]
      have e3 : t.count (n + 1) = 1 + (ps.map (Th.count n)).sum := by show (match t.parts with | none => 1 | some ps => 1 + (ps.map (Th.count n)).sum) = _; rw [hp]
      rw [e1, e2, e3]
      refine ⟨fun h => ?_, fun h => ?_⟩
      · rw [List.all_eq_true] at h
        have : ps.map (lawCnt n) = ps.map (Th.count n) := List.map_congr_left fun p hpm => (lawCnt_is n p).1 (h p hpm)
        rw [this]
      · rw [List.all_eq_false] at h
        obtain ⟨p, hpm, hno⟩ := h
        have h1 := (lawCnt_is n p).2 (by simpa using hno)
        have h2 := sum_ge (lawCnt n) hpm
        omega
theorem isRcp_law (t : Th) : decide (((lawCnt 8 t : Nat) : Int) ≤ 100) = t.isRcp := by
  unfold Th.isRcp
  have h := lawCnt_is 8 t
  cases ho : t.okay 8 with
  | true =>
    rw [h.1 ho, Bool.true_and]
    exact decide_eq_decide.mpr ⟨fun z => by omega, fun z => by omega⟩
  | false =>
    have := h.2 ho
    rw [Bool.false_and]
    exact decide_eq_false (by omega)
theorem le_sign (a c : Nat) : (!decide (([c] : List Nat) < [a])) = decide (a ≤ c) := by
  have e : (([c] : List Nat) < [a]) ↔ c < a := by
    constructor
    · intro h
      cases h with
      | rel h => exact h
      | cons h => cases h
    · intro h; exact List.Lex.rel h
  rw [decide_eq_decide.mpr e]
  by_cases h : c < a
  · rw [decide_eq_true h, decide_eq_false (by omega)]; rfl
  · rw [decide_eq_false h, decide_eq_true (by omega)]; rfl
/-- the filter of bad signs is empty just where all are good -/
theorem no_bad (l : List Nat) : (l.filter fun c => !(decide (97 ≤ c) && decide (c ≤ 122))).isEmpty = l.all fun c => decide (97 ≤ c) && decide (c ≤ 122) := by
  induction l with
  | nil => rfl
  | cons c l ih =>
    rw [List.all_cons, List.filter_cons, ← ih]
    cases (decide (97 ≤ c) && decide (c ≤ 122)) <;> rfl
theorem no_badN (l : List Th) : (l.filter fun t => !t.isNm).isEmpty = l.all Th.isNm := by
  induction l with
  | nil => rfl
  | cons c l ih =>
    rw [List.all_cons, List.filter_cons, ← ih]
    cases c.isNm <;> rfl
def signsPy (l : List Nat) : List PyData := l.map fun c => PyData.str (SX.S [c])
theorem signs_dp (K : PySem.W.Frag) (H : Hp) : ∀ l : List Nat, DpAll K H (txs (ones l)) (signsPy l)
  | [] => .nil
  | _ :: l => .cons (.str _) (signs_dp K H l)
theorem signs_shaped : ∀ {l : List Nat}, (∀ c ∈ l, c < 128) → PyData.canLayAll0 (signsPy l) = true ∧ PyData.depthAll (signsPy l) = 0
  | [], _ => ⟨rfl, rfl⟩
  | c :: l, hl => by
    have ih := signs_shaped (l := l) fun d h => hl d (List.mem_cons_of_mem _ h)
    refine ⟨?_, ?_⟩
    · show ((SX.S [c]).cps.all (· < 0x110000) && PyData.canLayAll0 (signsPy l)) = true
      rw [ih.1]
      have := hl c (List.mem_cons_self ..)
      simp
      omega
    · show max 0 (PyData.depthAll (signsPy l)) = 0
      rw [ih.2]
      rfl
theorem signs_eqv (l : List Nat) : PyData.eqv (.list (signsPy l)) (.list []) = l.isEmpty := by cases l <;> rfl
theorem tameS_is {z : List Nat} (h : tameS z = true) : z.length ≤ 1000000 ∧ ∀ c ∈ z, c < 128 := by
  unfold tameS at h
  rw [Bool.and_eq_true, decide_eq_true_eq, List.all_eq_true] at h
  exact ⟨h.1, fun c hc => of_decide_eq_true (h.2 c hc)⟩
theorem parts_take {t : Th} {ps : List Th} (h : t.parts = some ps) : ∃ k l, t = .tup (.str k :: l) ∧ ps = l.take ps.length := by
  obtain ⟨k, l, rfl⟩ := parts_tup h
  refine ⟨k, l, rfl, ?_⟩
  have e : formParts k l = some ps := h
  unfold formParts at e
  split at e
  · split at e
    · cases e; rfl
    · cases e
  split at e
  · split at e
    · cases e; rfl
    · cases e
  split at e
  · split at e
    · cases e; rw [List.take_of_length_le (Nat.le_refl _)]
    · cases e
  split at e
  · split at e
    · cases e; rw [List.take_of_length_le (Nat.le_refl _)]
    · cases e
  split at e
  · split at e
    · rename_i h2; cases e; rw [List.length_take, h2.1]; rfl
    · cases e
  · cases e
section
variable {P : Program} {w : World} {K : PySem.W.Frag} {mg : Str → Option Value} {base : Heap}
abbrev s__law_is_name : Stmt := topS 14
abbrev N__law_is_name : List Str := ["thing", "sign"]
theorem sc__law_is_name : FnScope N__law_is_name ["thing"] (defScope s__law_is_name) := ⟨rfl, rfl, rfl, by decide +kernel, rfl, by decide +kernel, by decide +kernel⟩

theorem ok__law_is_name (T : Txt K mg) (D : IsDef K mg "_law_is_name" s__law_is_name ["thing"]) : Cal P w K mg base CX0 1 "_law_is_name" ["thing"] spIsName := by
  refine D.cal sc__law_is_name (fun vs H Q E h => ?_) (fun f cdv A outer s H vs Q E hr h => ?_)
  · obtain ⟨v, t, rfl, _⟩ := h
    rfl
  obtain ⟨v, t, rfl, hv, ht, q⟩ := h
  have ea : ("a" : Str) = SX.S [97] := by decide +kernel
  have ez : ("z" : Str) = SX.S [122] := by decide +kernel
  refine ⟨_, (pss_cons (ps_if (PW.pt (pw_or (pt_not (pt_val (pe_callB call_isi (by rfl) T.b_isinstance (by decide +kernel) (pa_cons (pv 0) (pa_cons (pe_bltn (v := .ty "str") (by rfl) T.b_str (by decide +kernel) rfl) pa_nil))))) (pw_or1 (pt_not (pt_chain op_le op_le pe_int (pe_callB call_len_str (by rfl) T.b_len PySem.boot_len (pa_cons (pv 0) pa_nil)) pe_int)))))
        (pss_one (ps_ret pe_bl))
        pss_nil)
      (pss_one (ps_ret (pe_cmpR (op_eqD hr.units) (pe_lc (own := [("sign", 1)]) (g := gName 1)  (by rfl) sc__law_is_name.nd  (pi_str (pv 0)) (blkOk_by (own := [("sign", 1)]) (N := N__law_is_name) (sc := defScope s__law_is_name) (by decide +kernel)) (fun _ _ _ _ _ => (pg_name (i := 1) sc__law_is_name.nd rfl (Or.inl rfl))) (fun _ _ _ _ _ => (pts_one (pt_not (pt_chain op_le_str op_le_str pe_str (pv 1) pe_str)))) (fun _ _ _ _ _ => (pv 1))) (pe_lst pa_nil) (nomark _))))), ?_⟩
  refine ⟨_, rfl, _, _, _, _, _, rfl, .ty _, hv.ty, kit_str t, _, rfl, ?_⟩
  cases t with
  | str z =>
    obtain ⟨hz, hc⟩ := tameS_is ht
    have ev : v = .str (SX.S z) := hv
    subst ev
    refine iteF ?_
    have hl : (SX.S z).length ≤ sizeLine := by rw [SX.S_len]; exact le_line (by omega)
    have hlz : (SX.S z).length = z.length := SX.S_len z
    refine ⟨_, rfl, _, rfl, hl, _, _, rfl, rfl, _, rfl, ?_⟩
    by_cases h1 : (1 : Int) ≤ (((SX.S z).length : Nat) : Int)
    · refine iteY h1 ⟨_, _, rfl, rfl, _, rfl, ?_⟩
      by_cases h2 : (((SX.S z).length : Nat) : Int) ≤ 8
      · rw [decide_eq_true h2]
        refine iteF ?_
        rw [hlz] at h1 h2
        refine ⟨_, rfl, _, rfl, fun L nL => lcS (z := SX.S z) (fun i H' => Same H H' ∧ H' L = some (.lst (txs (ones ((z.take i).filter fun c => !(decide (97 ≤ c) && decide (c ≤ 122)))))))
          ⟨same_new nL _, upd_same⟩ ?_ ?_⟩
        · rintro i c H1 hc1 ⟨hs, hL⟩
          have hci : z[i]? = some c := by
            have : z.toArray[i]? = some c := hc1
            rwa [List.getElem?_toArray] at this
          have e1 : (z.take (i + 1)) = z.take i ++ [c] := by rw [List.take_add_one, hci]; rfl
          have good : (decide (97 ≤ c) && decide (c ≤ 122)) = true → Same H H1 ∧ H1 L = some (.lst (txs (ones ((z.take (i + 1)).filter fun c => !(decide (97 ≤ c) && decide (c ≤ 122)))))) := fun hcc => by
            refine ⟨hs, ?_⟩
            rw [e1, List.filter_append, List.filter_cons_of_neg (by rw [hcc]; decide), List.filter_nil, List.append_nil]
            exact hL
          have bad : (decide (97 ≤ c) && decide (c ≤ 122)) = false → ∃ acc, H1 L = some (.lst acc) ∧ acc.length < sizeLine ∧ Same H (upd H1 L (.lst (acc ++ [.str ⟨#[c]⟩]))) ∧ (upd H1 L (.lst (acc ++ [.str ⟨#[c]⟩]))) L = some (.lst (txs (ones ((z.take (i + 1)).filter fun c => !(decide (97 ≤ c) && decide (c ≤ 122)))))) := fun hcc => by
            refine ⟨_, hL, ?_, same_upd hs nL _, ?_⟩
            · rw [txs_len, ones_len]
              exact lt_line (Nat.lt_of_le_of_lt (List.length_filter_le _ _) (by rw [List.length_take]; omega))
            · rw [upd_same, e1, List.filter_append, List.filter_cons_of_pos (by rw [hcc]; rfl), List.filter_nil]
              unfold ones
              rw [List.map_append, txs_app]
              rfl
          refine ⟨rfl, _, rfl, _, _, rfl, rfl, _, rfl, ?_⟩
          have l1 : (!decide (([c] : List Nat) < ("a" : Str).cps.toList)) = decide (97 ≤ c) := by rw [ea]; exact le_sign 97 c
          have l2 : (!decide ((("z" : Str).cps.toList : List Nat) < [c])) = decide (c ≤ 122) := by rw [ez]; exact le_sign c 122
          by_cases g1 : 97 ≤ c
          · have g1' : (!decide (([c] : List Nat) < ("a" : Str).cps.toList)) = true := by rw [l1]; exact decide_eq_true g1
            refine if_true_eq g1' ⟨_, _, rfl, rfl, _, rfl, ?_⟩
            by_cases g2 : c ≤ 122
            · have g2' : (!decide ((("z" : Str).cps.toList : List Nat) < [c])) = true := by rw [l2]; exact decide_eq_true g2
              exact not_true_eq g2' (good (by rw [decide_eq_true g1, decide_eq_true g2]; rfl))
            · have g2' : (!decide ((("z" : Str).cps.toList : List Nat) < [c])) = false := by rw [l2]; exact decide_eq_false g2
              exact not_false_eq g2' ⟨_, rfl, bad (by rw [decide_eq_true g1, decide_eq_false g2]; rfl)⟩
          · have g1' : (!decide (([c] : List Nat) < ("a" : Str).cps.toList)) = false := by rw [l1]; exact decide_eq_false g1
            refine if_false_eq g1' ⟨_, rfl, ?_⟩
            exact iteT ⟨_, rfl, bad (by rw [decide_eq_false g1]; rfl)⟩
        · rintro H1 ⟨hs, hL⟩
          have ez : z.take (SX.S z).cps.size = z := List.take_of_length_le (by show z.length ≤ z.toArray.size; simp)
          rw [ez] at hL
          refine ⟨Nat.zero_le _, fun e ne => ?_⟩
          have Le : L ≠ e := ne_of_none hL ne
          have s1 := signs_shaped (l := z.filter fun c => !(decide (97 ≤ c) && decide (c ≤ 122))) fun c h => hc c (List.mem_filter.mp h).1
          refine ⟨_, _, .lst (SqL.of (by rw [upd_ne Le]; exact hL)) (signs_dp _ _ _), .lst (SqL.of upd_same) .nil, shaped_parts.mpr ⟨s1.1, by rw [s1.2]; decide⟩, rfl, ?_⟩
          rw [signs_eqv, no_bad]
          have en : nmOk z = z.all fun c => decide (97 ≤ c) && decide (c ≤ 122) := by
            unfold nmOk
            rw [decide_eq_true (show 1 ≤ z.length by omega), decide_eq_true (show z.length ≤ 8 by omega)]
            rfl
          rw [← en]
          exact q _ (hs.trans (same_new ne _))
      · rw [decide_eq_false h2]
        refine iteT ?_
        have e : nmOk z = false := by
          unfold nmOk
          rw [hlz] at h2
          rw [decide_eq_false (show ¬ z.length ≤ 8 by omega), Bool.and_false]
          rfl
        have : Q (.bl (nmOk z)) H := q H (Same.refl H)
        rw [e] at this
        exact this
    · refine iteN h1 ⟨_, rfl, iteT ?_⟩
      have e : nmOk z = false := by
        unfold nmOk
        rw [hlz] at h1
        rw [decide_eq_false (show ¬ 1 ≤ z.length by omega)]
        rfl
      have : Q (.bl (nmOk z)) H := q H (Same.refl H)
      rw [e] at this
      exact this
  | _ => exact iteT (q H (Same.refl H))
theorem formParts_len {k : List Nat} {l ps : List Th} (h : formParts k l = some ps) : l.length = 1 ∨ l.length = 2 ∨ l.length = 3 := by
  unfold formParts at h
  split at h
  · split at h
    · rename_i h2; exact .inl h2.1
    · cases h
  split at h
  · split at h
    · rename_i h2; exact .inl h2.1
    · cases h
  split at h
  · split at h
    · rename_i h2; exact .inr (.inl h2)
    · cases h
  split at h
  · split at h
    · rename_i h2; exact .inr (.inr h2)
    · cases h
  split at h
  · split at h
    · rename_i h2; exact .inr (.inl h2.1)
    · cases h
  · cases h
theorem in234 (n : Nat) : inV (.int (n : Int)) [.int 2, .int 3, .int 4] = decide (n = 2 ∨ n = 3 ∨ n = 4) := by
  show (((2 : Int) == (n : Int)) || (((3 : Int) == (n : Int)) || (((4 : Int) == (n : Int)) || false))) = _
  by_cases h : n = 2 ∨ n = 3 ∨ n = 4
  · rw [decide_eq_true h]
    rcases h with h | h | h <;> subst h <;> rfl
  · rw [decide_eq_false h]
    have e : ∀ m : Nat, m ≠ n → ((m : Int) == (n : Int)) = false := fun m hm => by
      rw [beq_eq_false_iff_ne]
      omega
    have e2 := e 2 (by omega)
    have e3 := e 3 (by omega)
    have e4 := e 4 (by omega)
    have e2' : ((2 : Int) == (n : Int)) = false := e2
    have e3' : ((3 : Int) == (n : Int)) = false := e3
    have e4' : ((4 : Int) == (n : Int)) = false := e4
    rw [e2', e3', e4']
    rfl
theorem num_parts (k : List Nat) (h : k = w_number) (t1 : Th) : (t1.isInt = true → formParts k [t1] = some []) ∧ (t1.isInt = false → formParts k [t1] = none) := by
  unfold formParts
  rw [if_pos h]
  exact ⟨fun z => if_pos ⟨rfl, z⟩, fun z => if_neg fun y => by rw [show ([t1] : List Th).headD .non = t1 from rfl, z] at y; cases y.2⟩
theorem read_parts (k : List Nat) (h1 : k ≠ w_number) (h : k = w_read) (t1 : Th) : (t1.isNm = true → formParts k [t1] = some []) ∧ (t1.isNm = false → formParts k [t1] = none) := by
  unfold formParts
  rw [if_neg h1, if_pos h]
  exact ⟨fun z => if_pos ⟨rfl, z⟩, fun z => if_neg fun y => by rw [show ([t1] : List Th).headD .non = t1 from rfl, z] at y; cases y.2⟩
theorem one_none (k : List Nat) (h1 : k ≠ w_number) (h2 : k ≠ w_read) (t1 : Th) : formParts k [t1] = none := by
  unfold formParts
  rw [if_neg h1, if_neg h2]
  simp
theorem twos_parts (k : List Nat) (h : k ∈ twos) (t1 t2 : Th) : formParts k [t1, t2] = some [t1, t2] := by
  have n1 : k ≠ w_number := fun z => by rw [z] at h; revert h; decide
  have n2 : k ≠ w_read := fun z => by rw [z] at h; revert h; decide
  unfold formParts
  rw [if_neg n1, if_neg n2, if_pos h]
  rfl
theorem choose_parts (k : List Nat) (h : k = w_choose) (t1 t2 : Th) : (t2.areNms = true → formParts k [t1, t2] = some [t1]) ∧ (t2.areNms = false → formParts k [t1, t2] = none) := by
  have n1 : k ≠ w_number := by rw [h]; decide
  have n2 : k ≠ w_read := by rw [h]; decide
  have n3 : ¬ k ∈ twos := by rw [h]; decide
  have n4 : k ≠ w_pick := by rw [h]; decide
  unfold formParts
  rw [if_neg n1, if_neg n2, if_neg n3, if_neg n4, if_pos h]
  exact ⟨fun z => if_pos ⟨rfl, z⟩, fun z => if_neg fun y => by rw [show ([t1, t2] : List Th).getD 1 .non = t2 from rfl, z] at y; cases y.2⟩
theorem two_none (k : List Nat) (h1 : ¬ k ∈ twos) (h2 : k ≠ w_choose) (t1 t2 : Th) : formParts k [t1, t2] = none := by
  unfold formParts
  rw [if_neg h1, if_neg h2]
  simp
theorem pick_parts (k : List Nat) (h : k = w_pick) (t1 t2 t3 : Th) : formParts k [t1, t2, t3] = some [t1, t2, t3] := by
  have n1 : k ≠ w_number := by rw [h]; decide
  have n2 : k ≠ w_read := by rw [h]; decide
  have n3 : ¬ k ∈ twos := by rw [h]; decide
  unfold formParts
  rw [if_neg n1, if_neg n2, if_neg n3, if_pos h]
  rfl
theorem three_none (k : List Nat) (h1 : k ≠ w_pick) (t1 t2 t3 : Th) : formParts k [t1, t2, t3] = none := by
  unfold formParts
  rw [if_neg h1]
  simp
theorem iteInY4 {k : List Nat} {A B : Prop} (h : k ∈ twos) (a : A) : if inV (.str (SX.S k)) [.str "plus", .str "minus", .str "times", .str "most"] = true then A else B := by
  rw [in_twos, if_pos (decide_eq_true h)]; exact a
theorem iteInN4 {k : List Nat} {A B : Prop} (h : ¬ k ∈ twos) (b : B) : if inV (.str (SX.S k)) [.str "plus", .str "minus", .str "times", .str "most"] = true then A else B := by
  rw [in_twos, if_neg (fun z => h (of_decide_eq_true z))]; exact b
abbrev s__law_spots : Stmt := topS 15
abbrev N__law_spots : List Str := ["thing", "name"]
theorem sc__law_spots : FnScope N__law_spots ["thing"] (defScope s__law_spots) := ⟨rfl, rfl, rfl, by decide +kernel, rfl, by decide +kernel, by decide +kernel⟩

theorem ok__law_spots (T : Txt K mg) (D : IsDef K mg "_law_spots" s__law_spots ["thing"]) (C__law_is_name : Cal P w K mg base CX0 1 "_law_is_name" ["thing"] spIsName) : Cal P w K mg base CX0 2 "_law_spots" ["thing"] (spSpots K) := by
  refine D.cal sc__law_spots (fun vs H Q E h => ?_) (fun f cdv A outer s H vs Q E hr h => ?_)
  · obtain ⟨v, t, rfl, _⟩ := h
    rfl
  obtain ⟨v, t, rfl, hv, ht, qn, qs⟩ := h
  refine ⟨_, (pss_cons (ps_if (PW.pt (pw_or (pt_not (pt_val (pe_callB call_isi (by rfl) T.b_isinstance (by decide +kernel) (pa_cons (pv 0) (pa_cons (pe_bltn (v := .ty "tuple") (by rfl) T.b_tuple (by decide +kernel) rfl) pa_nil))))) (pw_or (pt_cmpR op_notIn_seq (pe_callB call_len_seq (by rfl) T.b_len PySem.boot_len (pa_cons (pv 0) pa_nil)) (pe_lst (pa_cons pe_int (pa_cons pe_int (pa_cons pe_int pa_nil)))) (by with_unfolding_all rfl)) (pw_or1 (pt_not (pt_val (pe_callB call_isi (by rfl) T.b_isinstance (by decide +kernel) (pa_cons (pe_ix (r := rIxT K) ix_tup (pv 0) pe_int (fun _ _ => rfl)) (pa_cons (pe_bltn (v := .ty "str") (by rfl) T.b_str (by decide +kernel) rfl) pa_nil)))))))))
        (pss_one (ps_ret pe_non))
        pss_nil)
      (pss_cons (ps_if (PW.pt (pw_and (pt_cmpR op_eq (pe_callB call_len_seq (by rfl) T.b_len PySem.boot_len (pa_cons (pv 0) pa_nil)) pe_int (nomark _)) (pw_and1 (pt_cmpR op_eq (pe_ix (r := rIxT K) ix_tup (pv 0) pe_int (fun _ _ => rfl)) pe_str (nomark _)))))
        (pss_one (ps_ret (pe_ix (r := rIxL K) ix_list (pe_lst (pa_cons pe_non (pa_cons (pe_lst pa_nil) pa_nil))) (pe_callTy call_int1 (by rfl) T.b_int (by decide +kernel) (pa_cons (pe_and (pe_callB call_isi (by rfl) T.b_isinstance (by decide +kernel) (pa_cons (pe_ix (r := rIxT K) ix_tup (pv 0) pe_int (fun _ _ => rfl)) (pa_cons (pe_bltn (v := .ty "int") (by rfl) T.b_int (by decide +kernel) rfl) pa_nil))) (pe_one (pe_not (pe_callB call_isi (by rfl) T.b_isinstance (by decide +kernel) (pa_cons (pe_ix (r := rIxT K) ix_tup (pv 0) pe_int (fun _ _ => rfl)) (pa_cons (pe_bltn (v := .ty "bool") (by rfl) T.b_bool (by decide +kernel) rfl) pa_nil)))))) pa_nil)) (fun _ _ => rfl))))
        pss_nil)
      (pss_cons (ps_if (PW.pt (pw_and (pt_cmpR op_eq (pe_callB call_len_seq (by rfl) T.b_len PySem.boot_len (pa_cons (pv 0) pa_nil)) pe_int (nomark _)) (pw_and1 (pt_cmpR op_eq (pe_ix (r := rIxT K) ix_tup (pv 0) pe_int (fun _ _ => rfl)) pe_str (nomark _)))))
        (pss_one (ps_ret (pe_ix (r := rIxL K) ix_list (pe_lst (pa_cons pe_non (pa_cons (pe_lst pa_nil) pa_nil))) (pe_callTy call_int1 (by rfl) T.b_int (by decide +kernel) (pa_cons (pe_cal C__law_is_name (hr.mono (by first | decide | omega)) pass0 (pa_cons (pe_ix (r := rIxT K) ix_tup (pv 0) pe_int (fun _ _ => rfl)) pa_nil)) pa_nil)) (fun _ _ => rfl))))
        pss_nil)
      (pss_cons (ps_if (PW.pt (pw_and (pt_cmpR op_eq (pe_callB call_len_seq (by rfl) T.b_len PySem.boot_len (pa_cons (pv 0) pa_nil)) pe_int (nomark _)) (pw_and1 (pt_cmpR op_in_seq (pe_ix (r := rIxT K) ix_tup (pv 0) pe_int (fun _ _ => rfl)) (pe_lst (pa_cons pe_str (pa_cons pe_str (pa_cons pe_str (pa_cons pe_str pa_nil))))) (by with_unfolding_all rfl)))))
        (pss_one (ps_ret (pe_lst (pa_cons pe_int (pa_cons pe_int pa_nil)))))
        pss_nil)
      (pss_cons (ps_if (PW.pt (pw_and (pt_cmpR op_eq (pe_callB call_len_seq (by rfl) T.b_len PySem.boot_len (pa_cons (pv 0) pa_nil)) pe_int (nomark _)) (pw_and1 (pt_cmpR op_eq (pe_ix (r := rIxT K) ix_tup (pv 0) pe_int (fun _ _ => rfl)) pe_str (nomark _)))))
        (pss_one (ps_ret (pe_lst (pa_cons pe_int (pa_cons pe_int (pa_cons pe_int pa_nil))))))
        pss_nil)
      (pss_cons (ps_if (PW.pt (pw_and (pt_cmpR op_eq (pe_callB call_len_seq (by rfl) T.b_len PySem.boot_len (pa_cons (pv 0) pa_nil)) pe_int (nomark _)) (pw_and (pt_cmpR op_eq (pe_ix (r := rIxT K) ix_tup (pv 0) pe_int (fun _ _ => rfl)) pe_str (nomark _)) (pw_and (pt_val (pe_callB call_isi (by rfl) T.b_isinstance (by decide +kernel) (pa_cons (pe_ix (r := rIxT K) ix_tup (pv 0) pe_int (fun _ _ => rfl)) (pa_cons (pe_bltn (v := .ty "tuple") (by rfl) T.b_tuple (by decide +kernel) rfl) pa_nil)))) (pw_and1 (pt_chain op_le op_le pe_int (pe_callB call_len_seq (by rfl) T.b_len PySem.boot_len (pa_cons (pe_ix (r := rIxT K) ix_tup (pv 0) pe_int (fun _ _ => rfl)) pa_nil)) pe_int))))))
        (pss_one (ps_ret (pe_ix (r := rIxL K) ix_list (pe_lst (pa_cons pe_non (pa_cons (pe_lst (pa_cons pe_int pa_nil)) pa_nil))) (pe_callTy call_int1 (by rfl) T.b_int (by decide +kernel) (pa_cons (pe_cmpR (op_eqD hr.units) (pe_lc (own := [("name", 1)]) (g := gName 1)  (by rfl) sc__law_spots.nd  (pi_tup (pe_ix (r := rIxT K) ix_tup (pv 0) pe_int (fun _ _ => rfl))) (blkOk_by (own := [("name", 1)]) (N := N__law_spots) (sc := defScope s__law_spots) (by decide +kernel)) (fun _ _ _ _ _ => (pg_name (i := 1) sc__law_spots.nd rfl (Or.inl rfl))) (fun _ _ _ _ _ => (pts_one (pt_not (pt_val (pe_cal C__law_is_name (hr.mono (by first | decide | omega)) pass0 (pa_cons (pv 1) pa_nil)))))) (fun _ _ _ _ _ => (pv 1))) (pe_lst pa_nil) (nomark _)) pa_nil)) (fun _ _ => rfl))))
        pss_nil)
      (pss_one (ps_ret pe_non)))))))), ?_⟩
  refine ⟨_, rfl, _, _, _, _, _, rfl, .ty _, hv.ty, kit_tup t, _, rfl, ?_⟩
  cases t with
  | tup l0 =>
    obtain ⟨p, xs0, rfl, hp, hl0⟩ := hv
    have hxl := hl0.len
    refine iteF ?_
    refine ⟨_, rfl, p, _, rfl, .inr (SqT.of hp), le_line (Nat.le_of_ble_eq_true rfl), fun u nu => ⟨u, _, rfl, .inl (SqL.of upd_same), rfl, rfl, _, rfl, ?_⟩⟩
    have s1 := same_new nu (.lst [.int 2, .int 3, .int 4])
    have hp1 := s1 _ _ hp
    have i234 : inV (.int ((xs0.length : Nat) : Int)) [.int 2, .int 3, .int 4] = decide (xs0.length = 2 ∨ xs0.length = 3 ∨ xs0.length = 4) := in234 _
    by_cases hn : xs0.length = 2 ∨ xs0.length = 3 ∨ xs0.length = 4
    · rw [decide_eq_true hn] at i234
      refine not_true_eq i234 ?_
      match l0, hl0, ht, qn, qs with
      | [], hl0, _, _, _ =>
        rw [show xs0 = [] from hl0] at hn
        simp at hn
      | t0 :: l, ⟨x0, xs, ex, hd0, hl⟩, ht, qn, qs =>
        subst ex
        refine ⟨_, rfl, p, _, _, _, rfl, rfl, SqT.of hp1, atI_at (by decide) rfl, _, _, _, _, _, rfl, .ty _, (hd0.same s1).ty, kit_str t0, _, rfl, ?_⟩
        cases t0 with
        | str k =>
          obtain rfl : x0 = V.str (SX.S k) := hd0
          obtain ⟨_, htl, _, hnt⟩ := tup_tame ht
          have n0 : ∀ w : List Nat, ∀ lit : Str, lit = SX.S w → k ≠ w → ¬ V.str (SX.S k) = V.str lit := fun w lit e hk z => hk ((kw e).mp z)
          have y0 : ∀ w : List Nat, ∀ lit : Str, lit = SX.S w → k = w → V.str (SX.S k) = V.str lit := fun w lit e hk => (kw e).mpr hk
          refine iteF ?_
          have L : ∀ m : Nat, xs.length + 1 ≠ m → ¬ V.int (((V.str (SX.S k) :: xs).length : Nat) : Int) = V.int (m : Int) := fun m hm z => by
            rw [List.length_cons] at z
            exact hm (by
              have : (((xs.length + 1 : Nat) : Int)) = (m : Int) := by cases z; rfl
              omega)
          have hx0 : xs.length = l.length := hl.len
          match l, hl, htl, hnt, qn, qs with
          | [], hl, _, _, _, _ =>
            rw [show xs = [] from hl] at hn
            simp at hn
          | [t1], ⟨x1, _, e1, hd1, e2⟩, htl, hnt, qn, qs =>
            obtain rfl : _ = [] := e2
            subst e1
            refine ⟨_, rfl, p, _, rfl, .inr (SqT.of hp1), rfl, _, rfl, iteY rfl ⟨_, rfl, p, _, _, _, rfl, rfl, SqT.of hp1, atI_at (by decide) rfl, rfl, _, rfl, ?_⟩⟩
            by_cases k1 : k = w_number
            · have hh := num_parts k k1 t1
              refine iteY (y0 _ _ q_number k1) ⟨le_line (Nat.le_of_ble_eq_true rfl), fun e ne => ⟨le_line (Nat.le_of_ble_eq_true rfl), fun o no => ?_⟩⟩
              have s2 := s1.trans ((same_new ne (.lst [])).trans (same_new no (.lst [.non, .ref e])))
              have he := same_new no (.lst [.non, .ref e]) _ _ (upd_same (H := upd H u (.lst [.int 2, .int 3, .int 4])) (a := e) (o := .lst []))
              refine ⟨_, rfl, p, _, _, _, rfl, rfl, SqT.of (s2 _ _ hp), atI_at (by decide) rfl, _, _, _, _, _, rfl, .ty _, (hd1.same s2).ty, kit_int t1, _, rfl, ?_⟩
              have ei := isInt_is t1
              cases h1 : t1.isIntB with
              | false =>
                rw [h1, Bool.false_and] at ei
                refine iteF (.inr ⟨_, rfl, o, _, _, _, rfl, rfl, SqL.of upd_same, rfl, ?_⟩)
                exact qn (hh.2 ei.symm) _ s2
              | true =>
                rw [h1, Bool.true_and] at ei
                refine iteT ⟨_, rfl, p, _, _, _, rfl, rfl, SqT.of (s2 _ _ hp), atI_at (by decide) rfl, _, _, _, _, _, rfl, .ty _, (hd1.same s2).ty, kit_bl t1, _, rfl, ?_⟩
                cases h2 : t1.isBl with
                | true =>
                  rw [h2] at ei
                  exact .inr ⟨_, rfl, o, _, _, _, rfl, rfl, SqL.of upd_same, rfl, qn (hh.2 ei.symm) _ s2⟩
                | false =>
                  rw [h2] at ei
                  exact .inr ⟨_, rfl, o, _, _, _, rfl, rfl, SqL.of upd_same, rfl, qs [] (hh.1 ei.symm) _ e s2 he (s1.free ne)⟩
            · refine iteN (n0 _ _ q_number k1) ?_
              refine ⟨_, rfl, p, _, rfl, .inr (SqT.of hp1), rfl, _, rfl, iteY rfl ⟨_, rfl, p, _, _, _, rfl, rfl, SqT.of hp1, atI_at (by decide) rfl, rfl, _, rfl, ?_⟩⟩
              by_cases k2 : k = w_read
              · have hh := read_parts k k1 k2 t1
                refine iteY (y0 _ _ q_read k2) ⟨le_line (Nat.le_of_ble_eq_true rfl), fun e ne => ⟨le_line (Nat.le_of_ble_eq_true rfl), fun o no => ?_⟩⟩
                have s2 := s1.trans ((same_new ne (.lst [])).trans (same_new no (.lst [.non, .ref e])))
                have he := same_new no (.lst [.non, .ref e]) _ _ (upd_same (H := upd H u (.lst [.int 2, .int 3, .int 4])) (a := e) (o := .lst []))
                refine ⟨_, rfl, p, _, _, _, rfl, rfl, SqT.of (s2 _ _ hp), atI_at (by decide) rfl, x1, t1, rfl, hd1.same s2, tameL_mem htl t1 (by simp), fun H2 s3 => .inr ⟨_, rfl, o, ?_⟩⟩
                cases h2 : t1.isNm with
                | true => exact ⟨_, _, _, rfl, rfl, SqL.of (s3 _ _ upd_same), rfl, qs [] (hh.1 h2) _ e (s2.trans s3) (s3 _ _ he) (s1.free ne)⟩
                | false => exact ⟨_, _, _, rfl, rfl, SqL.of (s3 _ _ upd_same), rfl, qn (hh.2 h2) _ (s2.trans s3)⟩
              · refine iteN (n0 _ _ q_read k2) ?_
                refine ⟨_, rfl, p, _, rfl, .inr (SqT.of hp1), rfl, _, rfl, iteN (L 3 (by simp)) (iteF ?_)⟩
                refine ⟨_, rfl, p, _, rfl, .inr (SqT.of hp1), rfl, _, rfl, iteN (L 4 (by simp)) (iteF ?_)⟩
                refine ⟨_, rfl, p, _, rfl, .inr (SqT.of hp1), rfl, _, rfl, iteN (L 3 (by simp)) (iteF ?_)⟩
                exact qn (one_none k k1 k2 t1) _ s1
          | [t1, t2], ⟨x1, _, e1, hd1, x2, _, e2, hd2, e3⟩, htl, hnt, qn, qs =>
            obtain rfl : _ = [] := e3
            subst e2
            subst e1
            refine ⟨_, rfl, p, _, rfl, .inr (SqT.of hp1), rfl, _, rfl, iteN (L 2 (by simp)) (iteF ?_)⟩
            refine ⟨_, rfl, p, _, rfl, .inr (SqT.of hp1), rfl, _, rfl, iteN (L 2 (by simp)) (iteF ?_)⟩
            refine ⟨_, rfl, p, _, rfl, .inr (SqT.of hp1), rfl, _, rfl, iteY rfl ⟨_, rfl, p, _, _, _, rfl, rfl, SqT.of hp1, atI_at (by decide) rfl, le_line (Nat.le_of_ble_eq_true rfl), fun e ne => ⟨e, _, rfl, .inl (SqL.of upd_same), rfl, rfl, _, rfl, ?_⟩⟩⟩
            have s2 := s1.trans (same_new ne (.lst [.str "plus", .str "minus", .str "times", .str "most"]))
            have hp2 := s2 _ _ hp
            by_cases k3 : k ∈ twos
            · refine iteInY4 k3 ⟨le_line (Nat.le_of_ble_eq_true rfl), fun a na => ?_⟩
              exact qs _ (twos_parts k k3 t1 t2) _ a (s2.trans (same_new na _)) upd_same (s2.free na)
            · refine iteInN4 k3 ?_
              refine ⟨_, rfl, p, _, rfl, .inr (SqT.of hp2), rfl, _, rfl, iteN (L 4 (by simp)) (iteF ?_)⟩
              refine ⟨_, rfl, p, _, rfl, .inr (SqT.of hp2), rfl, _, rfl, iteY rfl ⟨_, rfl, p, _, _, _, rfl, rfl, SqT.of hp2, atI_at (by decide) rfl, rfl, _, rfl, ?_⟩⟩
              by_cases k5 : k = w_choose
              · have hh := choose_parts k k5 t1 t2
                refine iteY (y0 _ _ q_choose k5) ⟨_, rfl, p, _, _, _, rfl, rfl, SqT.of hp2, atI_at (by decide) rfl, _, _, _, _, _, rfl, .ty _, (hd2.same s2).ty, kit_tup t2, _, rfl, ?_⟩
                cases t2 with
                | tup m =>
                  obtain ⟨pm, ys, rfl, hpm, hlm⟩ := hd2
                  have hyl := hlm.len
                  have e9 : (Th.tup m).areNms = (decide (1 ≤ m.length) && decide (m.length ≤ 9) && m.all Th.isNm) := rfl
                  refine iteT ⟨_, rfl, p, _, _, _, rfl, rfl, SqT.of hp2, atI_at (by decide) rfl, pm, _, rfl, .inr (SqT.of (s2 _ _ hpm)), _, _, rfl, rfl, _, rfl, ?_⟩
                  by_cases g1 : (1 : Int) ≤ ((ys.length : Nat) : Int)
                  · refine iteY g1 ⟨_, _, rfl, rfl, _, rfl, ?_⟩
                    by_cases g2 : ((ys.length : Nat) : Int) ≤ 9
                    · refine iteY g2 ⟨le_line (Nat.le_of_ble_eq_true rfl), fun e1 ne1 => ⟨le_line (Nat.le_of_ble_eq_true rfl), fun o no => ?_⟩⟩
                      have s3 := s2.trans ((same_new ne1 (.lst [.int 1])).trans (same_new no (.lst [.non, .ref e1])))
                      have he := same_new no (.lst [.non, .ref e1]) _ _ (upd_same (H := upd (upd H u (.lst [.int 2, .int 3, .int 4])) e (.lst [.str "plus", .str "minus", .str "times", .str "most"])) (a := e1) (o := .lst [.int 1]))
                      have ho := upd_same (H := upd (upd (upd H u (.lst [.int 2, .int 3, .int 4])) e (.lst [.str "plus", .str "minus", .str "times", .str "most"])) e1 (.lst [.int 1])) (a := o) (o := .lst [.non, .ref e1])
                      have htm : Th.tameL m = true := by
                        have e : (Th.tameL m && decide (m.length ≤ 1000000) && namesTame m) = true := tameL_mem htl (.tup m) (by simp)
                        rw [Bool.and_eq_true, Bool.and_eq_true] at e
                        exact e.1.1
                      have hff : Th.flatL m = true ∧ SeqAt.shaped (.list (Th.pyL m)) = true := by
                        have e : (!decide (k = w_choose) || (Th.flatL m && SeqAt.shaped (.list (Th.pyL m)))) = true := hnt
                        rw [decide_eq_true k5] at e
                        exact Bool.and_eq_true_iff.mp e
                      refine ⟨_, rfl, p, _, _, _, rfl, rfl, SqT.of (s3 _ _ hp), atI_at (by decide) rfl, pm, rfl, ⟨_, SqT.of (s3 _ _ hpm)⟩, fun L nL => ?_⟩
                      refine lc_tup (K := K) (a := pm) (xs := ys) (fun i H' => Same (upd (upd (upd (upd H u (.lst [.int 2, .int 3, .int 4])) e (.lst [.str "plus", .str "minus", .str "times", .str "most"])) e1 (.lst [.int 1])) o (.lst [.non, .ref e1])) H' ∧ ∃ zs, H' L = some (.lst zs) ∧ DataL H ((m.take i).filter fun t => !t.isNm) zs)
                        ⟨same_new nL _, [], upd_same, rfl⟩ (fun i H' _ h => SqT.of (h.1 _ _ (s3 _ _ hpm))) ?_ ?_
                      · rintro i x H1 hx ⟨hs, zs, hL, hz⟩
                        obtain ⟨tj, hti, hd⟩ := hlm.at hx
                        have hm : tj ∈ m := List.mem_of_getElem? hti
                        have e1 : (m.take (i + 1)) = m.take i ++ [tj] := by rw [List.take_add_one, hti]; rfl
                        refine ⟨rfl, _, rfl, x, tj, rfl, hd.same (s3.trans hs), tameL_mem htm tj hm, fun H2 s4 => ⟨_, rfl, ?_⟩⟩
                        have hs2 := hs.trans s4
                        cases htt : tj.isNm with
                        | true =>
                          refine iteF ⟨hs2, zs, s4 _ _ hL, ?_⟩
                          rw [e1, List.filter_append, List.filter_cons_of_neg (by rw [htt]; decide), List.filter_nil, List.append_nil]
                          exact hz
                        | false =>
                          have hyl : zs.length ≤ 9 := by
                            rw [hz.len]
                            have := List.length_filter_le (fun t : Th => !t.isNm) (m.take i)
                            rw [List.length_take] at this
                            omega
                          refine iteT ⟨_, rfl, zs, s4 _ _ hL, lt_line (by omega), same_upd hs2 nL _, _, upd_same, ?_⟩
                          rw [e1, List.filter_append, List.filter_cons_of_pos (by rw [htt]; rfl), List.filter_nil]
                          exact hz.snoc hd
                      · rintro H1 ⟨hs, zs, hL, hz⟩
                        rw [hyl, List.take_length] at hz
                        refine ⟨Nat.zero_le _, fun e2 ne2 => ?_⟩
                        have Le : L ≠ e2 := ne_of_none hL ne2
                        have s5 := hs.trans (same_new ne2 (.lst []))
                        refine ⟨_, _, .lst (SqL.of (by rw [upd_ne Le]; exact hL)) (DataL.dp (flatL_filter (fun t => !t.isNm) hff.1) (hz.same (s3.trans s5))), .lst (SqL.of upd_same) .nil, shaped_filter (fun t => !t.isNm) hff.2, rfl, ?_⟩
                        rw [eqv_nil, no_badN]
                        rw [e9, decide_eq_true (show 1 ≤ m.length by omega), decide_eq_true (show m.length ≤ 9 by omega)] at hh
                        refine .inr ⟨_, rfl, o, ?_⟩
                        cases h2 : m.all Th.isNm with
                        | true => exact ⟨_, _, _, rfl, rfl, SqL.of (s5 _ _ ho), rfl, qs _ (hh.1 h2) _ e1 (s3.trans s5) (s5 _ _ he) (s2.free ne1)⟩
                        | false => exact ⟨_, _, _, rfl, rfl, SqL.of (s5 _ _ ho), rfl, qn (hh.2 h2) _ (s3.trans s5)⟩
                    · refine iteN g2 (qn (hh.2 ?_) _ s2)
                      rw [e9, decide_eq_false (show ¬ m.length ≤ 9 by omega), Bool.and_false]
                      rfl
                  · refine iteN g1 ⟨_, rfl, iteF (qn (hh.2 ?_) _ s2)⟩
                    rw [e9, decide_eq_false (show ¬ 1 ≤ m.length by omega)]
                    rfl
                | _ => exact iteF (iteF (qn (hh.2 rfl) _ s2))
              · refine iteN (n0 _ _ q_choose k5) (iteF ?_)
                exact qn (two_none k k3 k5 t1 t2) _ s2
          | [t1, t2, t3], ⟨x1, _, e1, hd1, x2, _, e2, hd2, x3, _, e3, hd3, e4⟩, htl, hnt, qn, qs =>
            obtain rfl : _ = [] := e4
            subst e3
            subst e2
            subst e1
            refine ⟨_, rfl, p, _, rfl, .inr (SqT.of hp1), rfl, _, rfl, iteN (L 2 (by simp)) (iteF ?_)⟩
            refine ⟨_, rfl, p, _, rfl, .inr (SqT.of hp1), rfl, _, rfl, iteN (L 2 (by simp)) (iteF ?_)⟩
            refine ⟨_, rfl, p, _, rfl, .inr (SqT.of hp1), rfl, _, rfl, iteN (L 3 (by simp)) (iteF ?_)⟩
            refine ⟨_, rfl, p, _, rfl, .inr (SqT.of hp1), rfl, _, rfl, iteY rfl ⟨_, rfl, p, _, _, _, rfl, rfl, SqT.of hp1, atI_at (by decide) rfl, rfl, _, rfl, ?_⟩⟩
            by_cases k4 : k = w_pick
            · refine iteY (y0 _ _ q_pick k4) ⟨le_line (Nat.le_of_ble_eq_true rfl), fun a na => ?_⟩
              exact qs _ (pick_parts k k4 t1 t2 t3) _ a (s1.trans (same_new na _)) upd_same (s1.free na)
            · refine iteN (n0 _ _ q_pick k4) ?_
              refine ⟨_, rfl, p, _, rfl, .inr (SqT.of hp1), rfl, _, rfl, iteN (L 3 (by simp)) (iteF ?_)⟩
              exact qn (three_none k k4 t1 t2 t3) _ s1
          | a :: b :: c :: d :: l, hl, _, _, _, _ =>
            rw [List.length_cons, hx0] at hn
            simp at hn
        | _ => exact iteT (qn rfl _ s1)
    · rw [decide_eq_false hn] at i234
      refine not_false_eq i234 (iteT (qn ?_ _ s1))
      match l0, hl0, ht with
      | [], _, _ => rfl
      | t0 :: l, _, _ =>
        cases t0 with
        | str k =>
          cases hf : formParts k l with
          | none => exact hf
          | some ps =>
            have := formParts_len hf
            rw [hxl, List.length_cons] at hn
            omega
        | _ => rfl
  | _ => exact iteT (qn rfl H (Same.refl H))
abbrev s__law_size : Stmt := topS 16
abbrev N__law_size : List Str := ["thing", "depth", "spots", "spot"]
theorem sc__law_size : FnScope N__law_size ["thing", "depth"] (defScope s__law_size) := ⟨rfl, rfl, rfl, by decide +kernel, rfl, by decide +kernel, by decide +kernel⟩

def spSize (n : Nat) : Sp := fun vs H Q _ => ∃ (v : V) (t : Th) (d : Nat), vs = [v, .int (d : Int)] ∧ Data H t v ∧ t.tame = true ∧ 1 ≤ d ∧ d ≤ 9 ∧ 9 - d ≤ n ∧ ∀ H', Same H H' → Q (.int ((lawCnt (9 - d) t : Nat) : Int)) H'
theorem ok__law_size (T : Txt K mg) (D : IsDef K mg "_law_size" s__law_size ["thing", "depth"]) (C__law_spots : Cal P w K mg base CX0 2 "_law_spots" ["thing"] (spSpots K)) {n : Nat}
    (C__law_size : n = 0 ∨ ∃ m, n = m + 1 ∧ Cal P w K mg base CX0 (n + 2) "_law_size" ["thing", "depth"] (spSize m)) : Cal P w K mg base CX0 (n + 3) "_law_size" ["thing", "depth"] (spSize n) := by
  have C__law_size : ∃ sp, Cal P w K mg base CX0 (n + 2) "_law_size" ["thing", "depth"] sp ∧ (∀ m, n = m + 1 → sp = spSize m) := by
    rcases C__law_size with h | ⟨m, h, c⟩
    · exact ⟨fun _ _ _ _ => False, cal_none D (fun _ _ _ _ h => h), fun m e => by omega⟩
    · exact ⟨_, c, fun m' e => by rw [h] at e; cases e; rfl⟩
  obtain ⟨sp, C__law_size, hsp⟩ := C__law_size
  refine D.cal sc__law_size (fun vs H Q E h => ?_) (fun f cdv A outer s H vs Q E hr h => ?_)
  · obtain ⟨v, t, d, rfl, _⟩ := h
    rfl
  obtain ⟨v, t, d, rfl, hv, ht, d1, d9, dn, q⟩ := h
  refine ⟨_, (pss_cons (ps_set (i := 2) sc__law_size.nd rfl (Or.inl rfl) (pe_cal C__law_spots (hr.mono (by first | decide | omega)) pass0 (pa_cons (pv 0) pa_nil)))
      (pss_cons (ps_if (PW.pt (pw_or (pt_cmpR op_isN (pv 2) pe_non (nomark _)) (pw_or1 (pt_cmpR op_gt (pv 1) pe_int (nomark _)))))
        (pss_one (ps_ret pe_int))
        pss_nil)
      (pss_one (ps_ret (pe_op op_add pe_int (pe_callB (cr_sum rfl) (by rfl) T.b_sum (by decide +kernel) (pa_cons (pe_lc (own := [("spot", 3)]) (g := gName 3)  (by rfl) sc__law_size.nd  (pi_list (pv 2)) (blkOk_by (own := [("spot", 3)]) (N := N__law_size) (sc := defScope s__law_size) (by decide +kernel)) (fun _ _ _ _ _ => (pg_name (i := 3) sc__law_size.nd rfl (Or.inl rfl))) (fun _ _ _ _ _ => pts_nil) (fun _ _ _ _ _ => (pe_cal C__law_size (hr.mono (by first | decide | omega)) pass0 (pa_cons (pe_ix (r := rIxT K) ix_tup (pv 0) (pv 3) (fun _ _ => rfl)) (pa_cons (pe_op op_add (pv 1) pe_int) pa_nil))))) pa_nil))))))), ?_⟩
  refine ⟨_, rfl, v, t, rfl, hv, ht, fun hno H1 hs1 => ?_, fun ps hps H1 a hs1 ha na => ?_⟩
  · refine ⟨_, rfl, rfl, _, rfl, iteY rfl (iteT ?_)⟩
    have e : lawCnt (9 - d) t = 1000 := by
      cases 9 - d with
      | zero => rfl
      | succ m => show (match t.parts with | none => 1000 | some ps => 1 + (ps.map (lawCnt m)).sum) = 1000; rw [hno]
    have := q H1 hs1
    rw [e] at this
    exact this
  · refine ⟨_, rfl, rfl, _, rfl, iteN (by intro z; cases z) ?_⟩
    refine ⟨_, rfl, _, _, rfl, rfl, _, rfl, ?_⟩
    by_cases h8 : ((d : Nat) : Int) > 8
    · refine iteY h8 ?_
      have e : 9 - d = 0 := by omega
      have := q H1 hs1
      rw [e] at this
      exact this
    · refine iteN h8 ?_
      obtain ⟨m, hm⟩ : ∃ m, 9 - d = m + 1 := ⟨8 - d, by omega⟩
      obtain ⟨n', hn'⟩ : ∃ n', n = n' + 1 := ⟨n - 1, by omega⟩
      have hspE := hsp n' hn'
      subst hspE
      obtain ⟨k, l, rfl, hpl⟩ := parts_take hps
      obtain ⟨p, xs, rfl, hp, hl⟩ := hv
      have hptm := (parts_tame ht hps)
      refine ⟨_, rfl, a, rfl, ⟨_, SqL.of ha⟩, fun L nL => lc_list (K := K) (a := a) (xs := (List.range ps.length).map fun (i : Nat) => V.int ((i : Int) + 1)) (fun i H' => Same H1 H' ∧ H' L = some (.lst (((ps.take i).map fun t => ((lawCnt m t : Nat) : Int)).map V.int)))
        ⟨same_new nL _, upd_same⟩ (fun i H' _ h => SqL.of (h.1 _ _ ha)) ?_ ?_⟩
      · rintro i x H2 hx ⟨hs2, hL⟩
        have hip : i < ps.length := by
          have := (List.getElem?_eq_some_iff.mp hx).1
          simpa using this
        have ex : x = V.int ((i : Int) + 1) := by
          rw [List.getElem?_map, List.getElem?_range hip] at hx
          exact (Option.some.inj hx).symm
        subst ex
        have hpi := List.getElem?_eq_getElem hip
        have hli : (Th.str k :: l)[i + 1]? = some ps[i] := by
          rw [List.getElem?_cons_succ]
          have h2 : (l.take ps.length)[i]? = some ps[i] := Eq.trans (congrArg (fun z => z[i]?) hpl.symm) hpi
          rwa [List.getElem?_take_of_lt hip] at h2
        obtain ⟨y, hy, hdy⟩ := hl.get hli
        refine ⟨rfl, _, rfl, _, rfl, p, _, _, _, rfl, rfl, SqT.of (hs2 _ _ (hs1 _ _ hp)), atI_at (by omega) (by rw [show ((i : Int) + 1).toNat = i + 1 by omega]; exact hy), _, rfl, _, _, rfl, rfl, y, ps[i], d + 1, rfl, hdy.same (hs1.trans hs2), hptm.2 _ (List.getElem_mem hip), by omega, by omega, by omega, fun H3 hs3 => ?_⟩
        refine ⟨_, hs3 _ _ hL, ?_, same_upd (hs2.trans hs3) nL _, ?_⟩
        · rw [List.length_map, List.length_map, List.length_take]
          have := hptm.1
          exact lt_line (by omega)
        · rw [upd_same, List.take_add_one, hpi, List.map_append, List.map_append]
          rw [show 9 - (d + 1) = m by omega]
          rfl
      · rintro H2 ⟨hs2, hL⟩
        rw [List.length_map, List.length_range, List.take_length] at hL
        refine ⟨L, _, rfl, SqL.of hL, _, _, rfl, rfl, ?_⟩
        have e : 1 + (ps.map fun t => ((lawCnt m t : Nat) : Int)).sum = ((lawCnt (9 - d) (Th.tup (.str k :: l)) : Nat) : Int) := by
          rw [hm]
          have e2 : lawCnt (m + 1) (Th.tup (.str k :: l)) = 1 + (ps.map (lawCnt m)).sum := by show (match (Th.tup (.str k :: l)).parts with | none => 1000 | some ps => 1 + (ps.map (lawCnt m)).sum) = _; rw [hps]
          rw [e2]
          have : ∀ l : List Th, (l.map fun t => ((lawCnt m t : Nat) : Int)).sum = (((l.map (lawCnt m)).sum : Nat) : Int) := fun l => by
            induction l with
            | nil => rfl
            | cons a l ih => rw [List.map_cons, List.sum_cons, List.map_cons, List.sum_cons, ih]; omega
          rw [this]
          omega
        show Q (V.int (1 + (ps.map fun t => ((lawCnt m t : Nat) : Int)).sum)) H2
        rw [e]
        exact q _ (hs1.trans hs2)
theorem all__law_size (T : Txt K mg) (D : IsDef K mg "_law_size" s__law_size ["thing", "depth"]) (C__law_spots : Cal P w K mg base CX0 2 "_law_spots" ["thing"] (spSpots K)) : ∀ n : Nat, Cal P w K mg base CX0 (n + 3) "_law_size" ["thing", "depth"] (spSize n)
  | 0 => ok__law_size T D C__law_spots (.inl rfl)
  | n + 1 => ok__law_size T D C__law_spots (.inr ⟨n, rfl, all__law_size T D C__law_spots n⟩)
abbrev s__law_is : Stmt := topS 17
abbrev N__law_is : List Str := ["thing"]
theorem sc__law_is : FnScope N__law_is ["thing"] (defScope s__law_is) := ⟨rfl, rfl, rfl, by decide +kernel, rfl, by decide +kernel, by decide +kernel⟩

theorem ok__law_is (T : Txt K mg) (D : IsDef K mg "_law_is" s__law_is ["thing"]) (C__law_size : Cal P w K mg base CX0 11 "_law_size" ["thing", "depth"] (spSize 8)) : Cal P w K mg base CX0 12 "_law_is" ["thing"] spIsRecipe := by
  refine D.cal sc__law_is (fun vs H Q E h => ?_) (fun f cdv A outer s H vs Q E hr h => ?_)
  · obtain ⟨v, t, rfl, _⟩ := h
    rfl
  obtain ⟨v, t, rfl, hv, ht, q⟩ := h
  refine ⟨_, (pss_one (ps_ret (pe_cmpR op_le (pe_cal C__law_size (hr.mono (by first | decide | omega)) pass0 (pa_cons (pv 0) (pa_cons pe_int pa_nil))) pe_int (nomark _)))), ?_⟩
  refine ⟨_, rfl, v, t, 1, rfl, hv, ht, Nat.le_refl 1, by decide, by decide, fun H' hs => ⟨_, _, rfl, rfl, ?_⟩⟩
  have e := isRcp_law t
  have := q H' hs
  rw [← e] at this
  exact this
end
theorem okay_parts {t : Th} {ps : List Th} (h : t.parts = some ps) {n : Nat} (ho : t.okay (n + 1) = true) : ∀ p ∈ ps, p.okay n = true := by
  have e : t.okay (n + 1) = ps.all (Th.okay n) := by show (match t.parts with | none => false | some ps => ps.all (Th.okay n)) = _; rw [h]
  rw [e, List.all_eq_true] at ho
  exact ho
def leafTh (c : Int) (i : Int) : Th := if i = 0 then .tup [.str w_number, .int c] else .tup [.str w_read, .str [97]]
def spPut : Sp := fun vs H Q _ => ∃ (v : V) (c : Int) (t : Th), vs = [v, .int c] ∧ Data H t v ∧ t.tame = true ∧ ∀ (H' : Hp) (x : V) (t' : Th), Same H H' → Data H' t' x → t'.tame = true → (∀ n, t'.okay (n + 1) = true → t.okay n = true) → Q x H'
def spChain : Sp := fun vs H Q _ => ∃ (c m : Int), vs = [.int c, .int m] ∧ 0 ≤ m ∧ m ≤ 5000 ∧ ∀ (H' : Hp) (x : V) (t' : Th), Same H H' → Data H' t' x → t'.tame = true → (∀ n : Nat, (n : Int) ≤ m → t'.okay n = false) → Q x H'
def spThing (ps : List V) : Sp := fun vs H Q _ => vs = ps ∧ ∀ (H' : Hp) (x : V) (t' : Th), Same H H' → Data H' t' x → t'.tame = true → Q x H'
def spLongT : Sp := fun vs H Q _ => ∃ (m : Int), vs = [.int m] ∧ 0 ≤ m ∧ m ≤ 150 ∧ ∀ (H' : Hp) (x : V) (t' : Th), Same H H' → Data H' t' x → t'.tame = true → Q x H'
def spBothT (K : PySem.W.Frag) : Sp := fun vs H Q _ => ∃ (a : Addr) (xs : List V), vs = [.ref a] ∧ SqL K H a xs ∧ ((∃ x, xs = [x] ∧ Q x H) ∨ (∃ x y, xs = [x, y] ∧ ∀ (t : Addr), H t = none → Q (.ref t) (upd H t (.tup [.str "minus", x, y]))))
def spRight : Sp := fun vs H Q _ => ∃ (v : V) (t : Th), vs = [v] ∧ Data H t v ∧ t.tame = true ∧ ∀ H', Same H H' → Q (.bl true) H'
def spCells (K : PySem.W.Frag) : Sp := fun vs H Q _ => ∃ (a : Addr) (ns : List Int), vs = [.ref a] ∧ SqL K H a (ns.map V.int) ∧ ns.length ≤ 63 ∧ ∀ (H' : Hp) (l : Addr) (cs : List Int), Same H H' → H' l = some (.lst (cs.map V.int)) → 0 < cs.length → cs.length ≤ 63 → Q (.ref l) H'
theorem ints_dp (K : PySem.W.Frag) (H : Hp) : ∀ l : List Int, DpAll K H (l.map V.int) (l.map PyData.int)
  | [] => .nil
  | x :: l => .cons (.int x) (ints_dp K H l)
def dbl : Nat → Th
  | 0 => .tup [.str w_read, .str [97]]
  | n + 1 => .tup [.str w_plus, dbl n, dbl n]
theorem dbl_is : ∀ k : Nat, k < 10 → (dbl k).isRcp = decide (k < 6) := by decide +kernel
theorem tl_cons {t : Th} {l : List Th} (h : t.tame = true) (k : Th.tameL l = true) : Th.tameL (t :: l) = true := by
  show (t.tame && Th.tameL l) = true
  rw [h, k]; rfl
theorem tame_tup {l : List Th} (h : Th.tameL l = true) (hl : l.length ≤ 1000000) (hn : namesTame l = true) : (Th.tup l).tame = true := by
  show (Th.tameL l && decide (l.length ≤ 1000000) && namesTame l) = true
  rw [h, hn, decide_eq_true hl]
  rfl
theorem namesTame3 {k : List Nat} (hk : k ≠ w_choose) (a b : Th) : namesTame [.str k, a, b] = true := by
  cases b with
  | tup m => show (!decide (k = w_choose) || _) = true; rw [decide_eq_false hk]; rfl
  | _ => rfl
theorem namesTame4 (a b c d : Th) (r : List Th) : namesTame (a :: b :: c :: d :: r) = true := by cases a <;> cases c <;> rfl
theorem namesTameC {k : List Nat} {m : List Th} (a : Th) (h1 : Th.flatL m = true) (h2 : SeqAt.shaped (.list (Th.pyL m)) = true) : namesTame [.str k, a, .tup m] = true := by
  show (!decide (k = w_choose) || (Th.flatL m && SeqAt.shaped (.list (Th.pyL m)))) = true
  rw [h1, h2]; simp
theorem dbl_tame : ∀ k : Nat, (dbl k).tame = true
  | 0 => tame_tup (tl_cons (by decide) (tl_cons (by decide) rfl)) (Nat.le_of_ble_eq_true rfl) rfl
  | n + 1 => tame_tup (tl_cons (by decide) (tl_cons (dbl_tame n) (tl_cons (dbl_tame n) rfl))) (Nat.le_of_ble_eq_true rfl) (namesTame3 (by decide) _ _)
/-- rows of things -/
def TRow (H : Hp) (xs : List V) : Prop := ∀ x ∈ xs, ∃ t, Data H t x ∧ t.tame = true
section
variable {P : Program} {w : World} {K : PySem.W.Frag} {mg : Str → Option Value} {base : Heap}
abbrev s__law_cells : Stmt := topS 13
abbrev N__law_cells : List Str := ["script"]
theorem sc__law_cells : FnScope N__law_cells ["script"] (defScope s__law_cells) := ⟨rfl, rfl, rfl, by decide +kernel, rfl, by decide +kernel, by decide +kernel⟩

theorem ok__law_cells (T : Txt K mg) (D : IsDef K mg "_law_cells" s__law_cells ["script"]) : Cal P w K mg base CX0 1 "_law_cells" ["script"] (spCells K) := by
  refine D.cal sc__law_cells (fun vs H Q E h => ?_) (fun f cdv A outer s H vs Q E hr h => ?_)
  · obtain ⟨a, ns, rfl, _⟩ := h
    rfl
  obtain ⟨a, ns, rfl, hS, h63, q⟩ := h
  refine ⟨_, (pss_cons (ps_if (pt_cmpR (op_eqD hr.units) (pv 0) (pe_lst pa_nil) (nomark _))
        (pss_one (ps_ret (pe_lst (pa_cons pe_int pa_nil))))
        pss_nil)
      (pss_one (ps_ret (pe_slice (r := rSlL K) sl_list (pv 0) po_none (po_some pe_int))))), ?_⟩
  refine ⟨_, rfl, Nat.zero_le _, fun e ne => ?_⟩
  have s1 := same_new ne (.lst [])
  refine ⟨.list (ns.map PyData.int), .list [], .lst (s1.seq hS) (ints_dp _ _ _), .lst (SqL.of upd_same) .nil, PySem.W.ke_shaped_ints ns, rfl, _, rfl, ?_⟩
  cases ns with
  | nil => exact iteT ⟨le_line (Nat.le_of_ble_eq_true rfl), fun l nl => q _ l [0] (s1.trans (same_new nl _)) upd_same (by decide) (by decide)⟩
  | cons x r =>
    refine iteF ⟨_, rfl, _, rfl, a, _, rfl, s1.seq hS, fun l nl => ?_⟩
    refine q _ l (x :: r) (s1.trans (same_new nl _)) ?_ (Nat.succ_pos _) h63
    rw [upd_same]
    have : cutV ((x :: r).map V.int) none (some 63) = (x :: r).map V.int := by
      have e := cut_to ((x :: r).map V.int) 63
      rw [List.take_of_length_le (by rw [List.length_map]; exact h63)] at e
      exact e
    rw [this]
abbrev s__law_put : Stmt := topS 18
abbrev N__law_put : List Str := ["one", "cell", "leaf", "way"]
theorem sc__law_put : FnScope N__law_put ["one", "cell"] (defScope s__law_put) := ⟨rfl, rfl, rfl, by decide +kernel, rfl, by decide +kernel, by decide +kernel⟩

theorem ok__law_put (T : Txt K mg) (D : IsDef K mg "_law_put" s__law_put ["one", "cell"]) : Cal P w K mg base CX0 1 "_law_put" ["one", "cell"] spPut := by
  refine D.cal sc__law_put (fun vs H Q E h => ?_) (fun f cdv A outer s H vs Q E hr h => ?_)
  · obtain ⟨v, c, t, rfl, _⟩ := h
    rfl
  obtain ⟨v, c, t, rfl, hv, ht, q⟩ := h
  have ea : ("a" : Str) = SX.S [97] := by decide +kernel
  have ex : ("x" : Str) = SX.S [120] := by decide +kernel
  have eb : ("b" : Str) = SX.S [98] := by decide +kernel
  refine ⟨_, (pss_cons (ps_set (i := 2) sc__law_put.nd rfl (Or.inl rfl) (pe_ix (r := rIxL K) ix_list (pe_lst (pa_cons (pe_tup (pa_cons pe_str (pa_cons (pv 1) pa_nil))) (pa_cons (pe_tup (pa_cons pe_str (pa_cons pe_str pa_nil))) pa_nil))) (pe_op op_mod (pv 1) pe_int) (fun _ _ => rfl)))
      (pss_cons (ps_set (i := 3) sc__law_put.nd rfl (Or.inl rfl) (pe_op op_mod (pe_op op_fdivW (pv 1) pe_int) pe_int))
      (pss_cons (ps_if (pt_cmpR op_lt (pv 3) pe_int (nomark _))
        (pss_one (ps_ret (pe_tup (pa_cons (pe_ix (r := rIxL K) ix_list (pe_lst (pa_cons pe_str (pa_cons pe_str (pa_cons pe_str pa_nil)))) (pv 3) (fun _ _ => rfl)) (pa_cons (pe_ix (r := rIxL K) ix_list (pe_lst (pa_cons (pv 0) (pa_cons (pv 2) pa_nil))) (pe_op op_mod (pe_op op_fdivW (pv 1) pe_int) pe_int) (fun _ _ => rfl)) (pa_cons (pe_ix (r := rIxL K) ix_list (pe_lst (pa_cons (pv 2) (pa_cons (pv 0) pa_nil))) (pe_op op_mod (pe_op op_fdivW (pv 1) pe_int) pe_int) (fun _ _ => rfl)) pa_nil))))))
        pss_nil)
      (pss_cons (ps_if (pt_cmpR op_lt (pv 3) pe_int (nomark _))
        (pss_one (ps_ret (pe_op op_catT (pe_op op_catT (pe_op op_catT (pe_tup (pa_cons pe_str pa_nil)) (pe_op op_rep3 (pe_tup (pa_cons (pv 2) pa_nil)) (pe_op op_sub (pv 3) pe_int))) (pe_tup (pa_cons (pv 0) pa_nil))) (pe_op op_rep3 (pe_tup (pa_cons (pv 2) pa_nil)) (pe_op op_sub pe_int (pv 3))))))
        pss_nil)
      (pss_one (ps_ret (pe_tup (pa_cons pe_str (pa_cons (pv 0) (pa_cons (pe_tup (pa_cons pe_str (pa_cons pe_str pa_nil))) pa_nil)))))))))), ?_⟩
  refine ⟨_, rfl, le_line (Nat.le_of_ble_eq_true rfl), fun p1 n1 => ⟨le_line (Nat.le_of_ble_eq_true rfl), fun p2 n2 => ⟨le_line (Nat.le_of_ble_eq_true rfl), fun L nL => ?_⟩⟩⟩
  have s1 := same_new n1 (.tup [.str "number", .int c])
  have s2 := same_new n2 (.tup [.str "read", .str "a"])
  have s3 := same_new nL (.lst [.ref p1, .ref p2])
  have sA := s1.trans (s2.trans s3)
  obtain ⟨lv, hlv, hat⟩ := one_of (xs := [V.ref p1, V.ref p2]) (v := c % 2) (Int.emod_nonneg _ (by decide)) (Int.emod_lt_of_pos _ (by decide))
  have hleaf : ∃ lt, Data (upd (upd (upd H p1 (.tup [.str "number", .int c])) p2 (.tup [.str "read", .str "a"])) L (.lst [.ref p1, .ref p2])) lt lv ∧ lt.tame = true := by
    simp only [List.mem_cons, List.not_mem_nil, or_false] at hlv
    rcases hlv with rfl | rfl
    · exact ⟨.tup [.str w_number, .int c], ⟨p1, _, rfl, s3 _ _ (s2 _ _ upd_same), _, _, rfl, congrArg V.str q_number, _, _, rfl, rfl, rfl⟩, tame_tup (tl_cons (by decide) (tl_cons rfl rfl)) (Nat.le_of_ble_eq_true rfl) rfl⟩
    · exact ⟨.tup [.str w_read, .str [97]], ⟨p2, _, rfl, s3 _ _ upd_same, _, _, rfl, congrArg V.str q_read, _, _, rfl, congrArg V.str ea, rfl⟩, tame_tup (tl_cons (by decide) (tl_cons (by decide) rfl)) (Nat.le_of_ble_eq_true rfl) rfl⟩
  obtain ⟨lt, hld, hlt⟩ := hleaf
  have hvA := hv.same sA
  refine ⟨_, rfl, _, _, rfl, rfl, (by show (0 : Int) < _; decide), L, _, _, _, rfl, rfl, SqL.of upd_same, hat, ?_⟩
  have w0 : 0 ≤ c / 2 % 8 := Int.emod_nonneg _ (by decide)
  have w1 : c / 2 % 8 < 8 := Int.emod_lt_of_pos _ (by decide)
  refine ⟨_, rfl, _, _, rfl, rfl, ⟨by decide, by decide +kernel⟩, _, _, rfl, rfl, (by show (0 : Int) < _; decide), ?_⟩
  refine ⟨_, rfl, _, _, rfl, rfl, _, rfl, ite2 (fun c3 => ?_) (fun c3 => ⟨_, rfl, _, _, rfl, rfl, _, rfl, ite2 (fun c6 => ?_) (fun c6 => ?_)⟩)⟩
  · have h3 : c / 2 % 8 < 3 := of_decide_eq_true c3
    obtain ⟨kd, hkd⟩ : ∃ k : Kd, atI ([.str "plus", .str "most", .str "times"] : List V) (c / 2 % 8) = some (.str k.name) := by
      have e : c / 2 % 8 = 0 ∨ c / 2 % 8 = 1 ∨ c / 2 % 8 = 2 := by omega
      rcases e with e | e | e <;> rw [e]
      · exact ⟨.plus, rfl⟩
      · exact ⟨.most, rfl⟩
      · exact ⟨.times, rfl⟩
    have d0 : 0 ≤ c / 16 % 2 := Int.emod_nonneg _ (by decide)
    have d1 : c / 16 % 2 < 2 := Int.emod_lt_of_pos _ (by decide)
    have kw' : ∃ kk, kd.name = SX.S kk ∧ kk ∈ twos ∧ kk ≠ w_choose ∧ tameS kk = true := by
      cases kd
      · exact ⟨w_plus, q_plus, by decide, by decide, by decide⟩
      · exact ⟨w_minus, q_minus, by decide, by decide, by decide⟩
      · exact ⟨w_times, q_times, by decide, by decide, by decide⟩
      · exact ⟨w_most, q_most, by decide, by decide, by decide⟩
    obtain ⟨kk, ekk, hkk, hkc, hkt⟩ := kw'
    refine ⟨le_line (Nat.le_of_ble_eq_true rfl), fun a1 m1 => ⟨_, rfl, a1, _, _, _, rfl, rfl, SqL.of upd_same, hkd, ?_⟩⟩
    have t1 := same_new m1 (.lst [.str "plus", .str "most", .str "times"])
    refine ⟨_, rfl, _, rfl, le_line (Nat.le_of_ble_eq_true rfl), fun a2 m2 => ?_⟩
    have t2 := same_new m2 (.lst [v, lv])
    have e2 : c / 16 % 2 = 0 ∨ c / 16 % 2 = 1 := by omega
    have fin : ∀ (H' : Hp) (x y : V) (tx ty : Th), Same H H' → Data H' tx x → Data H' ty y → tx.tame = true → ty.tame = true → (tx = t ∨ ty = t) → ∀ p, H' p = none → Q (.ref p) (upd H' p (.tup [.str kd.name, x, y])) := fun H' x y tx ty hs hx hy htx hty hor p np => by
      have sp := same_new np (.tup [.str kd.name, x, y])
      refine q _ _ (.tup [.str kk, tx, ty]) (hs.trans sp) ⟨p, _, rfl, upd_same, _, _, rfl, congrArg V.str ekk, _, _, rfl, hx.same sp, _, _, rfl, hy.same sp, rfl⟩ (tame_tup (tl_cons hkt (tl_cons htx (tl_cons hty rfl))) (Nat.le_of_ble_eq_true rfl) (namesTame3 hkc _ _)) fun n ho => ?_
      have hp := okay_parts (t := .tup [.str kk, tx, ty]) (twos_parts kk hkk tx ty) ho
      rcases hor with e | e
      · rw [← e]; exact hp tx (by simp)
      · rw [← e]; exact hp ty (by simp)
    rcases e2 with e2 | e2
    · refine ⟨_, rfl, _, _, rfl, rfl, ⟨by decide, by decide +kernel⟩, _, _, rfl, rfl, (by show (0 : Int) < _; decide), a2, _, _, v, rfl, rfl, SqL.of upd_same, by rw [e2]; rfl, ?_⟩
      refine ⟨_, rfl, _, rfl, le_line (Nat.le_of_ble_eq_true rfl), fun a3 m3 => ?_⟩
      have t3 := same_new m3 (.lst [lv, v])
      refine ⟨_, rfl, _, _, rfl, rfl, ⟨by decide, by decide +kernel⟩, _, _, rfl, rfl, (by show (0 : Int) < _; decide), a3, _, _, lv, rfl, rfl, SqL.of upd_same, by rw [e2]; rfl, le_line (Nat.le_of_ble_eq_true rfl), fun p np => ?_⟩
      have tt := t1.trans (t2.trans t3)
      exact fin _ v lv t lt (sA.trans tt) (hvA.same tt) (hld.same tt) ht hlt (.inl rfl) p np
    · refine ⟨_, rfl, _, _, rfl, rfl, ⟨by decide, by decide +kernel⟩, _, _, rfl, rfl, (by show (0 : Int) < _; decide), a2, _, _, lv, rfl, rfl, SqL.of upd_same, by rw [e2]; rfl, ?_⟩
      refine ⟨_, rfl, _, rfl, le_line (Nat.le_of_ble_eq_true rfl), fun a3 m3 => ?_⟩
      have t3 := same_new m3 (.lst [lv, v])
      refine ⟨_, rfl, _, _, rfl, rfl, ⟨by decide, by decide +kernel⟩, _, _, rfl, rfl, (by show (0 : Int) < _; decide), a3, _, _, v, rfl, rfl, SqL.of upd_same, by rw [e2]; rfl, le_line (Nat.le_of_ble_eq_true rfl), fun p np => ?_⟩
      have tt := t1.trans (t2.trans t3)
      exact fin _ lv v lt t (sA.trans tt) (hld.same tt) (hvA.same tt) hlt ht (.inr rfl) p np
  · have h6 : c / 2 % 8 < 6 := of_decide_eq_true c6
    have h3 : ¬ c / 2 % 8 < 3 := fun z => c3 (decide_eq_true z)
    have finP : ∀ (H' : Hp) (x y z : V) (tx ty tz : Th) (p : Addr), Same H H' → Data H' tx x → Data H' ty y → Data H' tz z → tx.tame = true → ty.tame = true → tz.tame = true → (tx = t ∨ ty = t ∨ tz = t) → H' p = some (.tup [.str "pick", x, y, z]) → Q (.ref p) H' := fun H' x y z tx ty tz p hs hx hy hz htx hty htz hor hp => by
      refine q _ _ (.tup [.str w_pick, tx, ty, tz]) hs ⟨p, _, rfl, hp, _, _, rfl, congrArg V.str q_pick, _, _, rfl, hx, _, _, rfl, hy, _, _, rfl, hz, rfl⟩ (tame_tup (tl_cons (by decide) (tl_cons htx (tl_cons hty (tl_cons htz rfl)))) (Nat.le_of_ble_eq_true rfl) (namesTame4 _ _ _ _ _)) fun n ho => ?_
      have hp := okay_parts (t := .tup [.str w_pick, tx, ty, tz]) (pick_parts w_pick rfl tx ty tz) ho
      rcases hor with e | e | e
      · rw [← e]; exact hp tx (by simp)
      · rw [← e]; exact hp ty (by simp)
      · rw [← e]; exact hp tz (by simp)
    refine ⟨le_line (Nat.le_of_ble_eq_true rfl), fun a1 m1 => ⟨_, rfl, le_line (Nat.le_of_ble_eq_true rfl), fun a2 m2 => ⟨_, rfl, _, _, rfl, rfl, a2, _, _, rfl, rfl, SqT.of upd_same, by simp, Nat.le_of_ble_eq_true rfl, by omega, by omega, ?_⟩⟩⟩
    have t1 := same_new m1 (.tup [.str "pick"])
    have t2 := same_new m2 (.tup [lv])
    have e3 : c / 2 % 8 = 3 ∨ c / 2 % 8 = 4 ∨ c / 2 % 8 = 5 := by omega
    rcases e3 with e3 | e3 | e3
    · refine ⟨fun _ a3 m3 => ?_, fun z => absurd z (by omega), fun z => absurd z (by omega)⟩
      have t3 := same_new m3 (.tup [])
      have ha1 := t3 _ _ (t2 _ _ (upd_same (H := upd (upd (upd H p1 (.tup [.str "number", .int c])) p2 (.tup [.str "read", .str "a"])) L (.lst [.ref p1, .ref p2])) (a := a1) (o := .tup [.str "pick"])))
      refine ⟨a1, a3, _, _, rfl, rfl, SqT.of ha1, SqT.of upd_same, by simp, le_line (Nat.le_of_ble_eq_true rfl), fun _ => ?_, fun z => absurd rfl z⟩
      refine ⟨_, rfl, le_line (Nat.le_of_ble_eq_true rfl), fun a4 m4 => ?_⟩
      have t4 := same_new m4 (.tup [v])
      refine ⟨a1, a4, _, _, rfl, rfl, SqT.of (t4 _ _ ha1), SqT.of upd_same, by simp, le_line (Nat.le_of_ble_eq_true rfl), fun z => (by cases z), fun _ a5 m5 => ?_⟩
      have t5 := same_new m5 (.tup ([.str "pick"] ++ [v]))
      refine ⟨_, rfl, le_line (Nat.le_of_ble_eq_true rfl), fun a6 m6 => ⟨_, rfl, _, _, rfl, rfl, a6, _, _, rfl, rfl, SqT.of upd_same, by simp, Nat.le_of_ble_eq_true rfl, by omega, by omega, fun z => absurd z (by omega), fun z => absurd z (by omega), fun _ a7 m7 => ?_⟩⟩
      have t6 := same_new m6 (.tup [lv])
      have t7 := same_new m7 (.tup ([lv] ++ [lv]))
      have ha5 := t7 _ _ (t6 _ _ (upd_same (H := upd (upd (upd (upd (upd (upd (upd H p1 (.tup [.str "number", .int c])) p2 (.tup [.str "read", .str "a"])) L (.lst [.ref p1, .ref p2])) a1 (.tup [.str "pick"])) a2 (.tup [lv])) a3 (.tup [])) a4 (.tup [v])) (a := a5) (o := .tup ([.str "pick"] ++ [v]))))
      refine ⟨a5, a7, _, _, rfl, rfl, SqT.of ha5, SqT.of upd_same, by simp, le_line (Nat.le_of_ble_eq_true rfl), fun z => (by cases z), fun _ a8 m8 => ?_⟩
      have t8 := same_new m8 (.tup (([.str "pick"] ++ [v]) ++ ([lv] ++ [lv])))
      have tt := t1.trans (t2.trans (t3.trans (t4.trans (t5.trans (t6.trans (t7.trans t8))))))
      exact finP _ v lv lv t lt lt a8 (sA.trans tt) (hvA.same tt) (hld.same tt) (hld.same tt) ht hlt hlt (.inl rfl) upd_same
    · refine ⟨fun z => absurd z (by omega), fun _ => ?_, fun z => absurd z (by omega)⟩
      have ha1 := t2 _ _ (upd_same (H := upd (upd (upd H p1 (.tup [.str "number", .int c])) p2 (.tup [.str "read", .str "a"])) L (.lst [.ref p1, .ref p2])) (a := a1) (o := .tup [.str "pick"]))
      refine ⟨a1, a2, _, _, rfl, rfl, SqT.of ha1, SqT.of upd_same, by simp, le_line (Nat.le_of_ble_eq_true rfl), fun z => (by cases z), fun _ a3 m3 => ?_⟩
      have t3 := same_new m3 (.tup ([.str "pick"] ++ [lv]))
      refine ⟨_, rfl, le_line (Nat.le_of_ble_eq_true rfl), fun a4 m4 => ?_⟩
      have t4 := same_new m4 (.tup [v])
      have ha3 := t4 _ _ (upd_same (H := upd (upd (upd (upd (upd H p1 (.tup [.str "number", .int c])) p2 (.tup [.str "read", .str "a"])) L (.lst [.ref p1, .ref p2])) a1 (.tup [.str "pick"])) a2 (.tup [lv])) (a := a3) (o := .tup ([.str "pick"] ++ [lv])))
      refine ⟨a3, a4, _, _, rfl, rfl, SqT.of ha3, SqT.of upd_same, by simp, le_line (Nat.le_of_ble_eq_true rfl), fun z => (by cases z), fun _ a5 m5 => ?_⟩
      have t5 := same_new m5 (.tup (([.str "pick"] ++ [lv]) ++ [v]))
      refine ⟨_, rfl, le_line (Nat.le_of_ble_eq_true rfl), fun a6 m6 => ⟨_, rfl, _, _, rfl, rfl, a6, _, _, rfl, rfl, SqT.of upd_same, by simp, Nat.le_of_ble_eq_true rfl, by omega, by omega, fun z => absurd z (by omega), fun _ => ?_, fun z => absurd z (by omega)⟩⟩
      have t6 := same_new m6 (.tup [lv])
      have ha5 := t6 _ _ (upd_same (H := upd (upd (upd (upd (upd (upd (upd H p1 (.tup [.str "number", .int c])) p2 (.tup [.str "read", .str "a"])) L (.lst [.ref p1, .ref p2])) a1 (.tup [.str "pick"])) a2 (.tup [lv])) a3 (.tup ([.str "pick"] ++ [lv]))) a4 (.tup [v])) (a := a5) (o := .tup (([.str "pick"] ++ [lv]) ++ [v])))
      refine ⟨a5, a6, _, _, rfl, rfl, SqT.of ha5, SqT.of upd_same, by simp, le_line (Nat.le_of_ble_eq_true rfl), fun z => (by cases z), fun _ a7 m7 => ?_⟩
      have t7 := same_new m7 (.tup ((([.str "pick"] ++ [lv]) ++ [v]) ++ [lv]))
      have tt := t1.trans (t2.trans (t3.trans (t4.trans (t5.trans (t6.trans t7)))))
      exact finP _ lv v lv lt t lt a7 (sA.trans tt) (hld.same tt) (hvA.same tt) (hld.same tt) hlt ht hlt (.inr (.inl rfl)) upd_same
    · refine ⟨fun z => absurd z (by omega), fun z => absurd z (by omega), fun _ a3 m3 => ?_⟩
      have t3 := same_new m3 (.tup ([lv] ++ [lv]))
      have ha1 := t3 _ _ (t2 _ _ (upd_same (H := upd (upd (upd H p1 (.tup [.str "number", .int c])) p2 (.tup [.str "read", .str "a"])) L (.lst [.ref p1, .ref p2])) (a := a1) (o := .tup [.str "pick"])))
      refine ⟨a1, a3, _, _, rfl, rfl, SqT.of ha1, SqT.of upd_same, by simp, le_line (Nat.le_of_ble_eq_true rfl), fun z => (by cases z), fun _ a4 m4 => ?_⟩
      have t4 := same_new m4 (.tup ([.str "pick"] ++ ([lv] ++ [lv])))
      refine ⟨_, rfl, le_line (Nat.le_of_ble_eq_true rfl), fun a5 m5 => ?_⟩
      have t5 := same_new m5 (.tup [v])
      have ha4 := t5 _ _ (upd_same (H := upd (upd (upd (upd (upd (upd H p1 (.tup [.str "number", .int c])) p2 (.tup [.str "read", .str "a"])) L (.lst [.ref p1, .ref p2])) a1 (.tup [.str "pick"])) a2 (.tup [lv])) a3 (.tup ([lv] ++ [lv]))) (a := a4) (o := .tup ([.str "pick"] ++ ([lv] ++ [lv]))))
      refine ⟨a4, a5, _, _, rfl, rfl, SqT.of ha4, SqT.of upd_same, by simp, le_line (Nat.le_of_ble_eq_true rfl), fun z => (by cases z), fun _ a6 m6 => ?_⟩
      have t6 := same_new m6 (.tup (([.str "pick"] ++ ([lv] ++ [lv])) ++ [v]))
      refine ⟨_, rfl, le_line (Nat.le_of_ble_eq_true rfl), fun a7 m7 => ⟨_, rfl, _, _, rfl, rfl, a7, _, _, rfl, rfl, SqT.of upd_same, by simp, Nat.le_of_ble_eq_true rfl, by omega, by omega, fun _ a8 m8 => ?_, fun z => absurd z (by omega), fun z => absurd z (by omega)⟩⟩
      have t7 := same_new m7 (.tup [lv])
      have t8 := same_new m8 (.tup [])
      have ha6 := t8 _ _ (t7 _ _ (upd_same (H := upd (upd (upd (upd (upd (upd (upd (upd H p1 (.tup [.str "number", .int c])) p2 (.tup [.str "read", .str "a"])) L (.lst [.ref p1, .ref p2])) a1 (.tup [.str "pick"])) a2 (.tup [lv])) a3 (.tup ([lv] ++ [lv]))) a4 (.tup ([.str "pick"] ++ ([lv] ++ [lv])))) a5 (.tup [v])) (a := a6) (o := .tup (([.str "pick"] ++ ([lv] ++ [lv])) ++ [v]))))
      refine ⟨a6, a8, _, _, rfl, rfl, SqT.of ha6, SqT.of upd_same, by simp, le_line (Nat.le_of_ble_eq_true rfl), fun _ => ?_, fun z => absurd rfl z⟩
      have tt := t1.trans (t2.trans (t3.trans (t4.trans (t5.trans (t6.trans (t7.trans t8))))))
      exact finP _ lv lv v lt lt t a6 (sA.trans tt) (hld.same tt) (hld.same tt) (hvA.same tt) hlt hlt ht (.inr (.inr rfl)) ha6
  · have hx : Data (upd (upd (upd H p1 (.tup [.str "number", .int c])) p2 (.tup [.str "read", .str "a"])) L (.lst [.ref p1, .ref p2])) t v := hvA
    refine ⟨_, rfl, le_line (Nat.le_of_ble_eq_true rfl), fun u nu => ⟨le_line (Nat.le_of_ble_eq_true rfl), fun p np => ?_⟩⟩
    have su := same_new nu (.tup [.str "x", .str "b"])
    have sp := same_new np (.tup [.str "choose", v, .ref u])
    refine q _ _ (.tup [.str w_choose, t, .tup [.str [120], .str [98]]]) (sA.trans (su.trans sp)) ⟨p, _, rfl, upd_same, _, _, rfl, congrArg V.str q_choose, _, _, rfl, hx.same (su.trans sp), _, _, rfl, ⟨u, _, rfl, sp _ _ upd_same, _, _, rfl, congrArg V.str ex, _, _, rfl, congrArg V.str eb, rfl⟩, rfl⟩
      (tame_tup (tl_cons (by decide) (tl_cons ht (tl_cons (by decide) rfl))) (Nat.le_of_ble_eq_true rfl) (namesTameC _ (by decide) (by decide +kernel))) fun n ho => ?_
    exact okay_parts (t := .tup [.str w_choose, t, .tup [.str [120], .str [98]]]) ((choose_parts w_choose rfl t (.tup [.str [120], .str [98]])).1 (by decide)) ho t (by simp)
abbrev s__law_chain : Stmt := topS 19
abbrev N__law_chain : List Str := ["cell", "many", "one", "left", "k"]
theorem sc__law_chain : FnScope N__law_chain ["cell", "many"] (defScope s__law_chain) := ⟨rfl, rfl, rfl, by decide +kernel, rfl, by decide +kernel, by decide +kernel⟩

theorem ok__law_chain (T : Txt K mg) (D : IsDef K mg "_law_chain" s__law_chain ["cell", "many"]) (C__law_put : Cal P w K mg base CX0 1 "_law_put" ["one", "cell"] spPut) : Cal P w K mg base CX0 2 "_law_chain" ["cell", "many"] spChain := by
  refine D.cal sc__law_chain (fun vs H Q E h => ?_) (fun f cdv A outer s H vs Q E hr h => ?_)
  · obtain ⟨c, m, rfl, _⟩ := h
    rfl
  obtain ⟨c, m, rfl, m0, m5, q⟩ := h
  have ex : ("x" : Str) = SX.S [120] := by decide +kernel
  have eX : ("X" : Str) = SX.S [88] := by decide +kernel
  refine ⟨_, (pss_cons (ps_set (i := 2) sc__law_chain.nd rfl (Or.inl rfl) (pe_ix (r := rIxL K) ix_list (pe_lst (pa_cons (pe_tup (pa_cons pe_str (pa_cons pe_str pa_nil))) (pa_cons (pe_tup (pa_cons pe_str (pa_cons pe_str pa_nil))) (pa_cons (pe_tup (pa_cons pe_str (pa_cons pe_int pa_nil))) (pa_cons (pe_tup (pa_cons pe_str (pa_cons pe_str pa_nil))) pa_nil))))) (pe_ix (r := rIxL K) ix_list (pe_lst (pa_cons (pe_op op_mod (pv 0) pe_int) (pa_cons pe_int pa_nil))) (pe_callTy call_int1 (by rfl) T.b_int (by decide +kernel) (pa_cons (pe_cmpR op_eq (pe_op op_mod (pe_op op_fdivW (pv 0) pe_int) pe_int) pe_int (nomark _)) pa_nil)) (fun _ _ => rfl)) (fun _ _ => rfl)))
      (pss_cons (ps_set (i := 3) sc__law_chain.nd rfl (Or.inl rfl) (pe_op op_fdivW (pv 0) pe_int))
      (pss_cons (ps_for PassesOwn.never rfl (pi_range1 rfl T.b_range (pa_cons (pv 1) pa_nil)) (pg_name (i := 4) sc__law_chain.nd rfl (Or.inl rfl))
        (pss_cons (ps_set (i := 2) sc__law_chain.nd rfl (Or.inl rfl) (pe_cal C__law_put (hr.mono (by first | decide | omega)) pass0 (pa_cons (pv 2) (pa_cons (pe_op op_add (pv 3) (pv 4)) pa_nil))))
      (pss_one (ps_set (i := 3) sc__law_chain.nd rfl (Or.inl rfl) (pe_op op_fdivW (pv 3) pe_int)))))
      (pss_one (ps_ret (pv 2)))))), ?_⟩
  refine ⟨le_line (Nat.le_of_ble_eq_true rfl), fun p1 n1 => ⟨le_line (Nat.le_of_ble_eq_true rfl), fun p2 n2 => ⟨le_line (Nat.le_of_ble_eq_true rfl), fun p3 n3 => ⟨le_line (Nat.le_of_ble_eq_true rfl), fun p4 n4 => ⟨le_line (Nat.le_of_ble_eq_true rfl), fun L nL => ?_⟩⟩⟩⟩⟩
  have s1 := same_new n1 (.tup [.str "read", .str "x"])
  have s2 := same_new n2 (.tup [.str "read", .str "x"])
  have s3 := same_new n3 (.tup [.str "number", .int 3])
  have s4 := same_new n4 (.tup [.str "read", .str "X"])
  have s5 := same_new nL (.lst [.ref p1, .ref p2, .ref p3, .ref p4])
  refine ⟨_, rfl, _, _, rfl, rfl, (by show (0 : Int) < _; decide), le_line (Nat.le_of_ble_eq_true rfl), fun L2 nL2 => ?_⟩
  have s6 := same_new nL2 (.lst [.int (c % 3), .int 3])
  have b0 : 0 ≤ c % 3 := Int.emod_nonneg _ (by decide)
  have b1 : c % 3 < 3 := Int.emod_lt_of_pos _ (by decide)
  have ix : ∃ i : Int, 0 ≤ i ∧ i < 4 ∧ atI ([.int (c % 3), .int 3] : List V) (if decide (V.int (c / 3 % 8) = V.int 5) = true then 1 else 0) = some (.int i) := by
    by_cases h : decide (V.int (c / 3 % 8) = V.int 5) = true
    · rw [if_pos h]; exact ⟨3, by decide, by decide, rfl⟩
    · rw [if_neg h]; exact ⟨c % 3, b0, by omega, rfl⟩
  obtain ⟨i, i0, i4, hix⟩ := ix
  refine ⟨_, rfl, _, _, rfl, rfl, ⟨by decide, by decide +kernel⟩, _, _, rfl, rfl, (by show (0 : Int) < _; decide), rfl, .inr ⟨_, rfl, L2, _, _, _, rfl, rfl, SqL.of upd_same, hix, ?_⟩⟩
  obtain ⟨x, hx, hat⟩ := one_of (xs := [V.ref p1, V.ref p2, V.ref p3, V.ref p4]) (v := i) i0 i4
  have sA := s1.trans (s2.trans (s3.trans (s4.trans (s5.trans s6))))
  have hd : ∃ t, Data (upd (upd (upd (upd (upd (upd H p1 (.tup [.str "read", .str "x"])) p2 (.tup [.str "read", .str "x"])) p3 (.tup [.str "number", .int 3])) p4 (.tup [.str "read", .str "X"])) L (.lst [.ref p1, .ref p2, .ref p3, .ref p4])) L2 (.lst [.int (c % 3), .int 3])) t x ∧ t.tame = true := by
    simp only [List.mem_cons, List.not_mem_nil, or_false] at hx
    rcases hx with rfl | rfl | rfl | rfl
    · exact ⟨.tup [.str w_read, .str [120]], ⟨p1, _, rfl, s6 _ _ (s5 _ _ (s4 _ _ (s3 _ _ (s2 _ _ upd_same)))), _, _, rfl, congrArg V.str q_read, _, _, rfl, congrArg V.str ex, rfl⟩, tame_tup (tl_cons (by decide) (tl_cons (by decide) rfl)) (Nat.le_of_ble_eq_true rfl) rfl⟩
    · exact ⟨.tup [.str w_read, .str [120]], ⟨p2, _, rfl, s6 _ _ (s5 _ _ (s4 _ _ (s3 _ _ upd_same))), _, _, rfl, congrArg V.str q_read, _, _, rfl, congrArg V.str ex, rfl⟩, tame_tup (tl_cons (by decide) (tl_cons (by decide) rfl)) (Nat.le_of_ble_eq_true rfl) rfl⟩
    · exact ⟨.tup [.str w_number, .int 3], ⟨p3, _, rfl, s6 _ _ (s5 _ _ (s4 _ _ upd_same)), _, _, rfl, congrArg V.str q_number, _, _, rfl, rfl, rfl⟩, tame_tup (tl_cons (by decide) (tl_cons rfl rfl)) (Nat.le_of_ble_eq_true rfl) rfl⟩
    · exact ⟨.tup [.str w_read, .str [88]], ⟨p4, _, rfl, s6 _ _ (s5 _ _ upd_same), _, _, rfl, congrArg V.str q_read, _, _, rfl, congrArg V.str eX, rfl⟩, tame_tup (tl_cons (by decide) (tl_cons (by decide) rfl)) (Nat.le_of_ble_eq_true rfl) rfl⟩
  obtain ⟨t, hdt, htt⟩ := hd
  refine ⟨L, _, _, _, rfl, rfl, SqL.of (s6 _ _ upd_same), hat, ?_⟩
  refine ⟨_, rfl, _, _, rfl, rfl, ⟨by decide, by decide +kernel⟩, ?_⟩
  refine ⟨_, rfl, m, rfl, by omega, by omega, for_range (n := m.toNat) (fun j σ H' => ∃ (y : V) (l : Int) (k : Option V) (ty : Th), σ = [some (.int c), some (.int m), some y, some (.int l), k] ∧ Same H H' ∧ Data H' ty y ∧ ty.tame = true ∧ ∀ n : Nat, n ≤ j → ty.okay n = false) ⟨x, c / 24, none, t, rfl, sA, hdt, htt, fun n hn => (by rw [show n = 0 from by omega]; rfl)⟩ ?_ ?_⟩
  · rintro j σ H1 hj ⟨y, l, k, ty, rfl, hs, hdy, hty, hno⟩
    refine ⟨_, rfl, _, rfl, _, rfl, _, _, rfl, rfl, y, _, ty, rfl, hdy, hty, fun H2 y2 ty2 hs2 hd2 ht2 hok => ?_⟩
    refine ⟨_, rfl, _, _, rfl, rfl, ⟨by decide, by decide +kernel⟩, ?_⟩
    refine ⟨y2, l / 32, _, ty2, rfl, hs.trans hs2, hd2, ht2, fun n hn => ?_⟩
    cases n with
    | zero => rfl
    | succ n' =>
      cases ho : ty2.okay (n' + 1) with
      | false => rfl
      | true =>
        have := hok n' ho
        rw [hno n' (by omega)] at this
        cases this
  · rintro σ H1 ⟨y, l, k, ty, rfl, hs, hdy, hty, hno⟩
    exact ⟨_, rfl, q _ y ty hs hdy hty fun n hn => hno n (by omega)⟩
abbrev s__law_both : Stmt := topS 21
abbrev N__law_both : List Str := ["two"]
theorem sc__law_both : FnScope N__law_both ["two"] (defScope s__law_both) := ⟨rfl, rfl, rfl, by decide +kernel, rfl, by decide +kernel, by decide +kernel⟩

theorem ok__law_both (T : Txt K mg) (D : IsDef K mg "_law_both" s__law_both ["two"]) : Cal P w K mg base CX0 1 "_law_both" ["two"] (spBothT K) := by
  refine D.cal sc__law_both (fun vs H Q E h => ?_) (fun f cdv A outer s H vs Q E hr h => ?_)
  · obtain ⟨a, xs, rfl, _⟩ := h
    rfl
  obtain ⟨a, xs, rfl, hS, h⟩ := h
  refine ⟨_, (pss_cons (ps_if (pt_cmpR op_eq (pe_callB call_len_seq (by rfl) T.b_len PySem.boot_len (pa_cons (pv 0) pa_nil)) pe_int (nomark _))
        (pss_one (ps_ret (pe_ix (r := rIxL K) ix_list (pv 0) pe_int (fun _ _ => rfl))))
        pss_nil)
      (pss_one (ps_ret (pe_tup (pa_cons pe_str (pa_cons (pe_ix (r := rIxL K) ix_list (pv 0) pe_int (fun _ _ => rfl)) (pa_cons (pe_ix (r := rIxL K) ix_list (pv 0) pe_int (fun _ _ => rfl)) pa_nil))))))), ?_⟩
  rcases h with ⟨x, rfl, q⟩ | ⟨x, y, rfl, q⟩
  · refine ⟨_, rfl, a, _, rfl, .inl hS, rfl, _, rfl, iteY rfl ?_⟩
    exact ⟨_, rfl, a, _, _, _, rfl, rfl, hS, rfl, q⟩
  · refine ⟨_, rfl, a, _, rfl, .inl hS, rfl, _, rfl, iteN (by show ¬ V.int ((2 : Nat) : Int) = V.int 1; decide) ?_⟩
    exact ⟨_, rfl, a, _, _, _, rfl, rfl, hS, rfl, _, rfl, a, _, _, _, rfl, rfl, hS, rfl, le_line (Nat.le_of_ble_eq_true rfl), fun t nt => q t nt⟩
abbrev s__law_long : Stmt := topS 20
abbrev N__law_long : List Str := ["many", "row", "k"]
theorem sc__law_long : FnScope N__law_long ["many"] (defScope s__law_long) := ⟨rfl, rfl, rfl, by decide +kernel, rfl, by decide +kernel, by decide +kernel⟩

theorem rg2 : ∀ n : Nat, n < 101 → Builtin.Range.small 0 n 2 = true ∧ Builtin.Range.rangeSize 0 n 2 = (((n + 1) / 2 : Nat) : Int) := by decide +kernel
theorem ok__law_long (T : Txt K mg) (D : IsDef K mg "_law_long" s__law_long ["many"]) (C__law_both : Cal P w K mg base CX0 1 "_law_both" ["two"] (spBothT K)) : Cal P w K mg base CX0 2 "_law_long" ["many"] spLongT := by
  refine D.cal sc__law_long (fun vs H Q E h => ?_) (fun f cdv A outer s H vs Q E hr h => ?_)
  · obtain ⟨c, rfl, _⟩ := h
    rfl
  obtain ⟨c, rfl, c0, c150, q⟩ := h
  refine ⟨_, (pss_cons (ps_set (i := 1) sc__law_long.nd rfl (Or.inr rfl) (pe_lc (own := [("k", 2)]) (g := gName 2)  (by rfl) sc__law_long.nd  (pi_range1 rfl T.b_range (pa_cons (pe_op op_add (pe_op op_fdivW (pv 0) pe_int) pe_int) pa_nil)) (blkOk_by (own := [("k", 2)]) (N := N__law_long) (sc := defScope s__law_long) (by decide +kernel)) (fun _ _ _ _ _ => (pg_name (i := 2) sc__law_long.nd rfl (Or.inl rfl))) (fun _ _ _ _ _ => pts_nil) (fun _ _ _ _ _ => (pe_tup (pa_cons pe_str (pa_cons (pv 2) pa_nil))))))
      (pss_cons (ps_while PassesOwn.never (pt_cmpR op_gt (pe_callB call_len_seq (by rfl) T.b_len PySem.boot_len (pa_cons (pv 1) pa_nil)) pe_int (nomark _))
        (pss_one (ps_set (i := 1) sc__law_long.nd rfl (Or.inr rfl) (pe_lc (own := [("k", 2)]) (g := gName 2)  (by rfl) sc__law_long.nd  (pi_range3 rfl T.b_range (pa_cons pe_int (pa_cons (pe_callB call_len_seq (by rfl) T.b_len PySem.boot_len (pa_cons (pv 1) pa_nil)) (pa_cons pe_int pa_nil)))) (blkOk_by (own := [("k", 2)]) (N := N__law_long) (sc := defScope s__law_long) (by decide +kernel)) (fun _ _ _ _ _ => (pg_name (i := 2) sc__law_long.nd rfl (Or.inl rfl))) (fun _ _ _ _ _ => pts_nil) (fun _ _ _ _ _ => (pe_cal C__law_both (hr.mono (by first | decide | omega)) pass0 (pa_cons (pe_slice (r := rSlL K) sl_list (pv 1) (po_some (pv 2)) (po_some (pe_op op_add (pv 2) pe_int))) pa_nil)))))))
      (pss_one (ps_ret (pe_ix (r := rIxL K) ix_list (pv 1) pe_int (fun _ _ => rfl)))))), ?_⟩
  refine ⟨_, rfl, _, _, rfl, rfl, ⟨by decide, by decide +kernel⟩, _, _, rfl, rfl, c / 2 + 1, rfl, by omega, by omega, fun D1 nD1 => lc_range (lo := 0) (n := (c / 2 + 1).toNat)
    (fun i H' => Same H H' ∧ ∃ xs, H' D1 = some (.lst xs) ∧ xs.length = i ∧ ∀ x ∈ xs, ∃ p n, x = V.ref p ∧ H' p = some (.tup [.str "number", .int n])) ⟨same_new nD1 _, [], upd_same, rfl, by simp⟩ ?_ ?_⟩
  · rintro i H1 hi ⟨hs, xs, hD, hn, hall⟩
    refine ⟨rfl, _, rfl, le_line (Nat.le_of_ble_eq_true rfl), fun p np => ?_⟩
    have sp := same_new np (.tup [.str "number", .int (0 + (i : Int))])
    have D1p : D1 ≠ p := ne_of_none hD np
    refine ⟨xs, sp _ _ hD, lt_line (by omega), same_upd (hs.trans sp) nD1 _, xs ++ [.ref p], upd_same, by rw [List.length_append, hn]; rfl, fun x hx => ?_⟩
    have pD : p ≠ D1 := D1p.symm
    rcases List.mem_append.mp hx with h | h
    · obtain ⟨p', n', e, hp'⟩ := hall x h
      refine ⟨p', n', e, ?_⟩
      have : p' ≠ D1 := fun z => by rw [z, hD] at hp'; cases hp'
      rw [upd_ne this]
      exact sp _ _ hp'
    · rw [List.mem_singleton.mp h]
      refine ⟨p, 0 + (i : Int), rfl, ?_⟩
      rw [upd_ne pD, upd_same]
  rintro H1 ⟨hs, xs0, hD, hn, hall⟩
  -- the halving: a frame without the rows
  have start : ∃ B, Same H B ∧ B D1 = none ∧ Same B H1 ∧ ∀ x ∈ xs0, ∃ t, Data B t x ∧ t.tame = true := by
    refine ⟨fun b => if b = D1 then none else H1 b, fun b o e => ?_, if_pos rfl, fun b o e => ?_, fun x hx => ?_⟩
    · have : b ≠ D1 := ne_of_none e nD1
      show (if b = D1 then none else H1 b) = some o
      rw [if_neg this]
      exact hs b o e
    · by_cases hb : b = D1
      · have e' : (if b = D1 then Option.none else H1 b) = some o := e
        rw [if_pos hb] at e'
        cases e'
      · have e' : (if b = D1 then Option.none else H1 b) = some o := e
        rw [if_neg hb] at e'
        exact e'
    · obtain ⟨p, n, e, hp⟩ := hall x hx
      have hpD : p ≠ D1 := fun z => by rw [z, hD] at hp; cases hp
      refine ⟨.tup [.str w_number, .int n], ⟨p, _, e, by show (if p = D1 then Option.none else H1 p) = _; rw [if_neg hpD]; exact hp, _, _, rfl, congrArg V.str q_number, _, _, rfl, rfl, rfl⟩, tame_tup (tl_cons (by decide) (tl_cons rfl rfl)) (Nat.le_of_ble_eq_true rfl) rfl⟩
  obtain ⟨B0, hB0, nB0, sB0, hT0⟩ := start
  refine ⟨fun m σ H' => ∃ (D2 : Addr) (B : Hp) (xs : List V), σ = [some (.int c), some (.ref D2), none] ∧ Same H B ∧ B D2 = none ∧ Same B H' ∧ H' D2 = some (.lst xs) ∧ TRow B xs ∧ 1 ≤ xs.length ∧ xs.length ≤ 100 ∧ m = xs.length,
    ⟨_, D1, B0, xs0, rfl, hB0, nB0, sB0, hD, hT0, by omega, by omega, rfl⟩, ?_⟩
  rintro m σ H2 ⟨D2, B, xs, rfl, hB, nB, sB, hD2, hTr, hx1, hx100, rfl⟩
  refine ⟨_, rfl, D2, _, rfl, .inl (SqL.of hD2), _, _, rfl, rfl, _, rfl, ?_⟩
  refine ite2 (fun c1 => ?_) (fun c1 => ?_)
  · have c2 : ((xs.length : Nat) : Int) > 1 := of_decide_eq_true c1
    refine ⟨_, fun σ' H' h => h, ?_⟩
    have rg := rg2 xs.length (by omega)
    refine ⟨_, rfl, D2, _, rfl, .inl (SqL.of hD2), 0, _, 2, (xs.length + 1) / 2, rfl, ⟨by decide, by decide, rg.1, rg.2⟩, fun D3 nD3 => lcC (lo := 0) (c := 2) (n := (xs.length + 1) / 2)
      (fun i H' => ∃ (B' : Hp) (ys : List V), Same B B' ∧ B' D3 = none ∧ Same B' H' ∧ H' D2 = some (.lst xs) ∧ H' D3 = some (.lst ys) ∧ ys.length = i ∧ TRow B' ys) ⟨B, [], Same.refl B, sB.free nD3, sB.trans (same_new nD3 _), same_new nD3 _ _ _ hD2, upd_same, rfl, fun x h => by cases h⟩ ?_ ?_⟩
    · rintro i H3 hi ⟨B', ys, hBB, nB', sB', h2, h3, hyl, hTy⟩
      have d23 : D2 ≠ D3 := ne_of_none hD2 nD3
      refine ⟨rfl, _, rfl, _, rfl, _, rfl, _, rfl, _, _, rfl, rfl, _, rfl, D2, _, rfl, SqL.of h2, fun p np => ?_⟩
      have hi2 : 2 * i < xs.length := by omega
      have ec : cutV xs (some (0 + (i : Int) * 2)) (some (0 + (i : Int) * 2 + 2)) = (xs.drop (2 * i)).take 2 := by
        have e1 : (0 + (i : Int) * 2) = ((2 * i : Nat) : Int) := by omega
        have e2 : (0 + (i : Int) * 2 + 2) = ((2 * i + 2 : Nat) : Int) := by omega
        rw [e2, e1, cut_nat xs (by omega)]
        congr 1
        omega
      rw [ec]
      have sp := same_new np (.lst ((xs.drop (2 * i)).take 2))
      have dx1 : xs.drop (2 * i) = xs[2 * i] :: xs.drop (2 * i + 1) := List.drop_eq_getElem_cons hi2
      obtain ⟨t1, hd1, ht1⟩ := hTr _ (List.getElem_mem hi2)
      have D3p : D3 ≠ p := ne_of_none h3 np
      have D2p : D2 ≠ p := ne_of_none h2 np
      refine ⟨p, _, rfl, SqL.of upd_same, ?_⟩
      by_cases h2i : 2 * i + 1 < xs.length
      · have dx2 : xs.drop (2 * i + 1) = xs[2 * i + 1] :: xs.drop (2 * i + 1 + 1) := List.drop_eq_getElem_cons h2i
        obtain ⟨t2, hd2, ht2⟩ := hTr _ (List.getElem_mem h2i)
        refine .inr ⟨xs[2 * i], xs[2 * i + 1], by rw [dx1, dx2]; rfl, fun t nt => ?_⟩
        have st := same_new nt (.tup [.str "minus", xs[2 * i], xs[2 * i + 1]])
        have nt' : B' t = none := sB'.free (sp.free nt)
        have D3t : D3 ≠ t := ne_of_none (sp _ _ h3) nt
        have sBt := same_new nt' (.tup [.str "minus", xs[2 * i], xs[2 * i + 1]])
        refine ⟨ys, st _ _ (sp _ _ h3), lt_line (by omega), upd B' t (.tup [.str "minus", xs[2 * i], xs[2 * i + 1]]), ys ++ [.ref t], hBB.trans sBt, by rw [upd_ne D3t]; exact nB', fun b o e => ?_, by rw [upd_ne d23]; exact st _ _ (sp _ _ h2), upd_same, by rw [List.length_append, hyl]; rfl, fun x hx => ?_⟩
        · have hb : b ≠ D3 := fun z => by rw [z, upd_ne D3t, nB'] at e; cases e
          rw [upd_ne hb]
          by_cases hbt : b = t
          · rw [hbt, upd_same] at e ⊢; exact e
          · rw [upd_ne hbt] at e ⊢
            exact sp _ _ (sB' _ _ e)
        · rcases List.mem_append.mp hx with h | h
          · obtain ⟨tx, dx, tt⟩ := hTy x h
            exact ⟨tx, dx.same sBt, tt⟩
          · rw [List.mem_singleton.mp h]
            exact ⟨.tup [.str w_minus, t1, t2], ⟨t, _, rfl, upd_same, _, _, rfl, congrArg V.str q_minus, _, _, rfl, (hd1.same hBB).same sBt, _, _, rfl, (hd2.same hBB).same sBt, rfl⟩, tame_tup (tl_cons (by decide) (tl_cons ht1 (tl_cons ht2 rfl))) (Nat.le_of_ble_eq_true rfl) (namesTame3 (by decide) _ _)⟩
      · have e5 : xs.drop (2 * i + 1) = [] := List.drop_eq_nil_of_le (by omega)
        refine .inl ⟨xs[2 * i], by rw [dx1, e5]; rfl, ?_⟩
        refine ⟨ys, sp _ _ h3, lt_line (by omega), B', ys ++ [xs[2 * i]], hBB, nB', fun b o e => ?_, by rw [upd_ne d23]; exact sp _ _ h2, upd_same, by rw [List.length_append, hyl]; rfl, fun x hx => ?_⟩
        · have hb : b ≠ D3 := fun z => by rw [z, nB'] at e; cases e
          rw [upd_ne hb]
          exact sp _ _ (sB' _ _ e)
        · rcases List.mem_append.mp hx with h | h
          · exact hTy x h
          · rw [List.mem_singleton.mp h]
            exact ⟨t1, hd1.same hBB, ht1⟩
    · rintro H3 ⟨B', ys, hBB, nB', sB', h2, h3, hyl, hTy⟩
      exact ⟨ys.length, by omega, D3, B', ys, rfl, hB.trans hBB, nB', sB', h3, hTy, by omega, by omega, rfl⟩
  · have c2 : ¬ ((xs.length : Nat) : Int) > 1 := fun z => c1 (decide_eq_true z)
    have h1 : 0 < xs.length := by omega
    obtain ⟨t, hd, ht⟩ := hTr _ (List.getElem_mem h1)
    refine ⟨_, rfl, D2, _, _, _, rfl, rfl, SqL.of hD2, atI_at (by decide) (List.getElem?_eq_getElem h1), ?_⟩
    exact q _ _ t (hB.trans sB) (hd.same sB) ht
abbrev s__law_right : Stmt := topS 22
abbrev N__law_right : List Str := ["thing", "found"]
theorem sc__law_right : FnScope N__law_right ["thing"] (defScope s__law_right) := ⟨rfl, rfl, rfl, by decide +kernel, rfl, by decide +kernel, by decide +kernel⟩

theorem ok__law_right (T : Txt K mg) (D : IsDef K mg "_law_right" s__law_right ["thing"]) (C_is_recipe : Cal P w K mg base CX0 4 "is_recipe" ["thing"] spIsRecipe) (C__law_is : Cal P w K mg base CX0 12 "_law_is" ["thing"] spIsRecipe) : Cal P w K mg base CX0 13 "_law_right" ["thing"] spRight := by
  refine D.cal sc__law_right (fun vs H Q E h => ?_) (fun f cdv A outer s H vs Q E hr h => ?_)
  · obtain ⟨v, t, rfl, _⟩ := h
    rfl
  obtain ⟨v, t, rfl, hv, ht, q⟩ := h
  refine ⟨_, (pss_cons (ps_set (i := 1) sc__law_right.nd rfl (Or.inl rfl) (pe_cal C_is_recipe (hr.mono (by first | decide | omega)) pass0 (pa_cons (pv 0) pa_nil)))
      (pss_one (ps_ret (pe_and (pe_callB call_isi (by rfl) T.b_isinstance (by decide +kernel) (pa_cons (pv 1) (pa_cons (pe_bltn (v := .ty "bool") (by rfl) T.b_bool (by decide +kernel) rfl) pa_nil))) (pe_one (pe_cmpR op_eq (pv 1) (pe_cal C__law_is (hr.mono (by first | decide | omega)) pass0 (pa_cons (pv 0) pa_nil)) (nomark _))))))), ?_⟩
  refine ⟨_, rfl, v, t, rfl, hv, ht, fun H1 hs1 => ?_⟩
  refine ⟨_, rfl, _, _, .type "bool", _, true, rfl, .ty _, .base (.bl _), kit_ty (by decide +kernel), _, rfl, iteT ?_⟩
  refine ⟨_, rfl, _, rfl, v, t, rfl, hv.same hs1, ht, fun H2 hs2 => ⟨rfl, ?_⟩⟩
  rw [decide_eq_true rfl]
  exact q _ (hs1.trans hs2)
end
def spLaw (K : PySem.W.Frag) : Sp := fun vs H Q _ => ∃ (a : Addr) (ns : List Int), vs = [.ref a] ∧ SqL K H a (ns.map V.int) ∧ ns.length ≤ 63 ∧ ∀ H', Q (.bl true) H'
section
variable {P : Program} {w : World} {K : PySem.W.Frag} {mg : Str → Option Value} {base : Heap}
abbrev s_law : Stmt := topS 23
abbrev N_law : List Str := ["script", "cells", "cell", "many", "one", "thing", "k", "found"]
theorem sc_law : FnScope N_law ["script"] (defScope s_law) := ⟨rfl, rfl, rfl, by decide +kernel, rfl, by decide +kernel, by decide +kernel⟩

theorem ok_law {fl : Addr} {fd : FuncData} (F : Fun K "law" "law" s_law fl fd) (T : Txt K mg) (C__law_cells : Cal P w K mg base CX0 1 "_law_cells" ["script"] (spCells K)) (C__law_chain : Cal P w K mg base CX0 2 "_law_chain" ["cell", "many"] spChain)
    (C__law_long : Cal P w K mg base CX0 2 "_law_long" ["many"] spLongT) (C__law_right : Cal P w K mg base CX0 13 "_law_right" ["thing"] spRight) (C_is_recipe : Cal P w K mg base CX0 4 "is_recipe" ["thing"] spIsRecipe) : FnOk P w K mg base CX0 14 fl fd ["script"] (spLaw K) := by
  refine F.ok sc_law (fun vs H Q E h => ?_) (fun cdv A outer s H vs Q E hr h => ?_)
  · obtain ⟨a, ns, rfl, _⟩ := h
    rfl
  obtain ⟨a, ns, rfl, hS, h63, q⟩ := h
  have ea : ("a" : Str) = SX.S [97] := by decide +kernel
  refine ⟨_, (pss_cons (ps_set (i := 1) sc_law.nd rfl (Or.inl rfl) (pe_cal C__law_cells (hr.mono (by first | decide | omega)) pass0 (pa_cons (pv 0) pa_nil)))
      (pss_cons (ps_for PassesOwn.never rfl (pi_list (pv 1)) (pg_name (i := 2) sc_law.nd rfl (Or.inl rfl))
        (pss_one (ps_if (pt_not (pt_val (pe_cal C__law_right (hr.mono (by first | decide | omega)) pass0 (pa_cons (pe_cal C__law_chain (hr.mono (by first | decide | omega)) pass0 (pa_cons (pe_op op_fdivW (pv 2) pe_int) (pa_cons (pe_op op_mod (pv 2) pe_int) pa_nil))) pa_nil))))
        (pss_one (ps_ret pe_bl))
        pss_nil)))
      (pss_cons (ps_for PassesOwn.never rfl (pi_range3 rfl T.b_range (pa_cons pe_int (pa_cons pe_int (pa_cons pe_int pa_nil)))) (pg_name (i := 3) sc_law.nd rfl (Or.inl rfl))
        (pss_cons (ps_set (i := 4) sc_law.nd rfl (Or.inl rfl) (pe_cal C__law_long (hr.mono (by first | decide | omega)) pass0 (pa_cons (pv 3) pa_nil)))
      (pss_one (ps_for PassesOwn.never rfl (pi_list (pe_lst (pa_cons (pv 4) (pa_cons (pe_tup (pa_cons pe_str (pa_cons (pv 4) (pa_cons (pe_tup (pa_cons pe_str pa_nil)) pa_nil)))) (pa_cons (pe_tup (pa_cons pe_str (pa_cons (pv 4) (pa_cons (pe_tup (pa_cons pe_str (pa_cons pe_str pa_nil))) pa_nil)))) pa_nil))))) (pg_name (i := 5) sc_law.nd rfl (Or.inl rfl))
        (pss_one (ps_if (pt_not (pt_val (pe_cal C__law_right (hr.mono (by first | decide | omega)) pass0 (pa_cons (pv 5) pa_nil))))
        (pss_one (ps_ret pe_bl))
        pss_nil))))))
      (pss_cons (ps_set (i := 4) sc_law.nd rfl (Or.inl rfl) (pe_tup (pa_cons pe_str (pa_cons pe_str pa_nil))))
      (pss_cons (ps_for PassesOwn.never rfl (pi_range1 rfl T.b_range (pa_cons pe_int pa_nil)) (pg_name (i := 6) sc_law.nd rfl (Or.inl rfl))
        (pss_cons (ps_set (i := 7) sc_law.nd rfl (Or.inl rfl) (pe_cal C_is_recipe (hr.mono (by first | decide | omega)) pass0 (pa_cons (pv 4) pa_nil)))
      (pss_cons (ps_if (PW.pt (pw_or (pt_not (pt_val (pe_callB call_isi (by rfl) T.b_isinstance (by decide +kernel) (pa_cons (pv 7) (pa_cons (pe_bltn (v := .ty "bool") (by rfl) T.b_bool (by decide +kernel) rfl) pa_nil))))) (pw_or1 (pt_cmpR op_ne (pv 7) (pe_cmpR op_lt (pv 6) pe_int (nomark _)) (nomark _)))))
        (pss_one (ps_ret pe_bl))
        pss_nil)
      (pss_one (ps_set (i := 4) sc_law.nd rfl (Or.inl rfl) (pe_tup (pa_cons pe_str (pa_cons (pv 4) (pa_cons (pv 4) pa_nil)))))))))
      (pss_one (ps_ret (pe_cmpR op_isBl (pe_cal C_is_recipe (hr.mono (by first | decide | omega)) pass0 (pa_cons (pe_cal C__law_chain (hr.mono (by first | decide | omega)) pass0 (pa_cons (pe_ix (r := rIxL K) ix_list (pv 1) pe_int (fun _ _ => rfl)) (pa_cons (pe_op op_add pe_int (pe_op op_mod (pe_ix (r := rIxL K) ix_list (pv 1) pe_int (fun _ _ => rfl)) pe_int)) pa_nil))) pa_nil)) pe_bl (nomark _))))))))), ?_⟩
  refine ⟨_, rfl, a, ns, rfl, hS, h63, fun H0 l cs hs0 hl hc0 hc63 => ?_⟩
  have hcl : (cs.map V.int).length = cs.length := List.length_map _
  refine ⟨_, rfl, l, rfl, ⟨_, SqL.of hl⟩, for_list (K := K) (a := l) (xs := cs.map V.int) (fun i σ H' => ∃ v : Option V, σ = [some (.ref a), some (.ref l), v, none, none, none, none, none] ∧ H' l = some (.lst (cs.map V.int))) ⟨none, rfl, hl⟩ (fun i σ H' _ ⟨_, _, h⟩ => SqL.of h) ?_ ?_⟩
  · rintro i x σ H1 hx ⟨v, rfl, hl1⟩
    obtain ⟨c, rfl⟩ : ∃ c, x = V.int c := by
      obtain ⟨c, _, e⟩ := List.mem_map.mp (List.mem_of_getElem? hx)
      exact ⟨c, e.symm⟩
    refine ⟨_, rfl, _, _, rfl, rfl, ⟨by decide, by decide +kernel⟩, _, rfl, _, _, rfl, rfl, (by show (0 : Int) < _; decide), _, _, rfl, Int.emod_nonneg _ (by decide), by have := Int.emod_lt_of_pos c (by decide : (0 : Int) < 10); omega, fun H2 y t hs2 hd ht _ => ?_⟩
    refine ⟨y, t, rfl, hd, ht, fun H3 hs3 => ⟨_, rfl, iteF ?_⟩⟩
    exact ⟨_, rfl, hs3 _ _ (hs2 _ _ hl1)⟩
  rintro σ H1 ⟨v, rfl, hl1⟩
  refine ⟨90, 112, 2, 11, rfl, ⟨by decide, by decide, by decide +kernel, by decide +kernel⟩, for_rangeC (lo := 90) (c := 2) (n := 11) (fun i σ H' => ∃ v2 v3 v4 v5 : Option V, σ = [some (.ref a), some (.ref l), v2, v3, v4, v5, none, none] ∧ H' l = some (.lst (cs.map V.int))) ⟨_, _, _, _, rfl, hl1⟩ ?_ ?_⟩
  · rintro i σ H2 hi ⟨v2, v3, v4, v5, rfl, hl2⟩
    refine ⟨_, rfl, _, rfl, by omega, by omega, fun H3 y t hs3 hd ht => ?_⟩
    refine ⟨_, rfl, _, rfl, le_line (Nat.le_of_ble_eq_true rfl), fun u1 m1 => ⟨le_line (Nat.le_of_ble_eq_true rfl), fun p1 n1 => ⟨_, rfl, le_line (Nat.le_of_ble_eq_true rfl), fun u2 m2 => ⟨le_line (Nat.le_of_ble_eq_true rfl), fun p2 n2 => ⟨le_line (Nat.le_of_ble_eq_true rfl), fun L nL => ?_⟩⟩⟩⟩⟩
    have su1 := same_new m1 (.tup [.str "a"])
    have sp1 := same_new n1 (.tup [.str "choose", y, .ref u1])
    have su2 := same_new m2 (.tup [.str "read", .str "a"])
    have sp2 := same_new n2 (.tup [.str "plus", y, .ref u2])
    have sL := same_new nL (.lst [y, .ref p1, .ref p2])
    have sA := su1.trans (sp1.trans (su2.trans (sp2.trans sL)))
    have hrow : ∀ x ∈ ([y, .ref p1, .ref p2] : List V), ∃ t, Data (upd (upd (upd (upd (upd H3 u1 (.tup [.str "a"])) p1 (.tup [.str "choose", y, .ref u1])) u2 (.tup [.str "read", .str "a"])) p2 (.tup [.str "plus", y, .ref u2])) L (.lst [y, .ref p1, .ref p2])) t x ∧ t.tame = true := by
      intro x hx
      simp only [List.mem_cons, List.not_mem_nil, or_false] at hx
      rcases hx with rfl | rfl | rfl
      · exact ⟨t, hd.same sA, ht⟩
      · exact ⟨.tup [.str w_choose, t, .tup [.str [97]]], ⟨p1, _, rfl, sL _ _ (sp2 _ _ (su2 _ _ upd_same)), _, _, rfl, congrArg V.str q_choose, _, _, rfl, hd.same sA, _, _, rfl, ⟨u1, _, rfl, sL _ _ (sp2 _ _ (su2 _ _ (sp1 _ _ upd_same))), _, _, rfl, congrArg V.str ea, rfl⟩, rfl⟩, tame_tup (tl_cons (by decide) (tl_cons ht (tl_cons (by decide) rfl))) (Nat.le_of_ble_eq_true rfl) (namesTameC _ (by decide) (by decide +kernel))⟩
      · exact ⟨.tup [.str w_plus, t, .tup [.str w_read, .str [97]]], ⟨p2, _, rfl, sL _ _ upd_same, _, _, rfl, congrArg V.str q_plus, _, _, rfl, hd.same sA, _, _, rfl, ⟨u2, _, rfl, sL _ _ (sp2 _ _ upd_same), _, _, rfl, congrArg V.str q_read, _, _, rfl, congrArg V.str ea, rfl⟩, rfl⟩, tame_tup (tl_cons (by decide) (tl_cons ht (tl_cons (by decide) rfl))) (Nat.le_of_ble_eq_true rfl) (namesTame3 (by decide) _ _)⟩
    refine ⟨L, rfl, ⟨_, SqL.of upd_same⟩, for_list (K := K) (a := L) (xs := [y, .ref p1, .ref p2]) (fun i σ H' => ∃ v2 v3 v4 v5 : Option V, σ = [some (.ref a), some (.ref l), v2, v3, v4, v5, none, none] ∧ Same (upd (upd (upd (upd (upd H3 u1 (.tup [.str "a"])) p1 (.tup [.str "choose", y, .ref u1])) u2 (.tup [.str "read", .str "a"])) p2 (.tup [.str "plus", y, .ref u2])) L (.lst [y, .ref p1, .ref p2])) H') ⟨_, _, _, _, rfl, Same.refl _⟩ (fun i σ H' _ ⟨_, _, _, _, _, h⟩ => SqL.of (h _ _ upd_same)) ?_ ?_⟩
    · rintro j x σ H4 hx ⟨v2, v3, v4, v5, rfl, hs4⟩
      obtain ⟨tx, hdx, htx⟩ := hrow x (List.mem_of_getElem? hx)
      refine ⟨_, rfl, x, tx, rfl, hdx.same hs4, htx, fun H5 hs5 => ⟨_, rfl, iteF ?_⟩⟩
      exact ⟨_, _, _, _, rfl, hs4.trans hs5⟩
    · rintro σ H4 ⟨v2, v3, v4, v5, rfl, hs4⟩
      exact ⟨_, _, _, _, rfl, hs4 _ _ (sA _ _ (hs3 _ _ hl2))⟩
  rintro σ H2 ⟨v2, v3, v4, v5, rfl, hl2⟩
  refine ⟨le_line (Nat.le_of_ble_eq_true rfl), fun p0 n0 => ?_⟩
  refine ⟨10, rfl, by decide, by decide, for_range (n := 10) (fun i σ H' => ∃ (x : V) (v6 v7 : Option V), σ = [some (.ref a), some (.ref l), v2, v3, some x, v5, v6, v7] ∧ H' l = some (.lst (cs.map V.int)) ∧ Data H' (dbl i) x) ⟨.ref p0, none, none, rfl, same_new n0 _ _ _ hl2, ⟨p0, _, rfl, upd_same, _, _, rfl, congrArg V.str q_read, _, _, rfl, congrArg V.str ea, rfl⟩⟩ ?_ ?_⟩
  · rintro i σ H3 hi ⟨x, v6, v7, rfl, hl3, hdx⟩
    refine ⟨_, rfl, x, dbl i, rfl, hdx, dbl_tame i, fun H4 hs4 => ?_⟩
    refine ⟨_, rfl, _, _, .type "bool", _, true, rfl, .ty _, .base (.bl _), kit_ty (by decide +kernel), _, rfl, iteF ?_⟩
    refine ⟨_, rfl, _, rfl, _, _, rfl, rfl, rfl, _, rfl, ?_⟩
    have e : V.bl (dbl i).isRcp = V.bl (decide ((0 + (i : Int)) < 6)) := by
      rw [dbl_is i hi]
      exact congrArg V.bl (decide_eq_decide.mpr ⟨fun z => by omega, fun z => by omega⟩)
    refine iteNS e ?_
    refine ⟨_, rfl, _, rfl, le_line (Nat.le_of_ble_eq_true rfl), fun p np => ?_⟩
    have sp := same_new np (.tup [.str "plus", x, x])
    exact ⟨.ref p, _, _, rfl, sp _ _ (hs4 _ _ hl3), ⟨p, _, rfl, upd_same, _, _, rfl, congrArg V.str q_plus, _, _, rfl, (hdx.same hs4).same sp, _, _, rfl, (hdx.same hs4).same sp, rfl⟩⟩
  · rintro σ H3 ⟨x, v6, v7, rfl, hl3, hdx⟩
    obtain ⟨c, hc⟩ := int_at (ns := cs) (i := 0) (by decide) (by omega)
    refine ⟨_, rfl, l, _, _, _, rfl, rfl, SqL.of hl3, hc, _, rfl, l, _, _, _, rfl, rfl, SqL.of hl3, hc, _, _, rfl, rfl, (by show (0 : Int) < _; decide), _, _, rfl, rfl, c, _, rfl, ?_, ?_, fun H4 y t hs4 hd ht hno => ?_⟩
    · have := Int.emod_nonneg c (by decide : (1000 : Int) ≠ 0); omega
    · have := Int.emod_lt_of_pos c (by decide : (0 : Int) < 1000); omega
    refine ⟨y, t, rfl, hd, ht, fun H5 hs5 => ⟨_, _, rfl, rfl, ?_⟩⟩
    have e : t.isRcp = false := by
      unfold Th.isRcp
      rw [hno 8 (by have := Int.emod_nonneg c (by decide : (1000 : Int) ≠ 0); omega)]
      rfl
    rw [e]
    exact q _
end
theorem all_mk {l : PySem.W.OpenLaw} {w : World} {K : PySem.W.Frag} {h : Heap} {mg : Str → Option Value} {fa f_is_whole f_is_name f_are_names f_within f_is_recipe f__law_cells f__law_is_name f__law_spots f__law_size f__law_is f__law_put f__law_chain f__law_long f__law_both f__law_right f_law : Addr} (X : K.In h) (G : h.Ns mainGlobals mg) (hfa : mg "law" = some (.ref fa))
    {od_is_whole an_is_whole od_is_name an_is_name od_are_names an_are_names od_within an_within od_is_recipe an_is_recipe od__law_cells an__law_cells od__law_is_name an__law_is_name od__law_spots an__law_spots od__law_size an__law_size od__law_is an__law_is od__law_put an__law_put od__law_chain an__law_chain od__law_long an__law_long od__law_both an__law_both od__law_right an__law_right od_law an_law : Option Addr} {sl_is_whole sl_is_name sl_are_names sl_within sl_is_recipe sl__law_cells sl__law_is_name sl__law_spots sl__law_size sl__law_is sl__law_put sl__law_chain sl__law_long sl__law_both sl__law_right sl_law : Array (Option Value)} {oc_is_whole kV_is_whole dc_is_whole pm_is_whole cd_is_whole ct_is_whole oc_is_name kV_is_name dc_is_name pm_is_name cd_is_name ct_is_name oc_are_names kV_are_names dc_are_names pm_are_names cd_are_names ct_are_names oc_within kV_within dc_within pm_within cd_within ct_within oc_is_recipe kV_is_recipe dc_is_recipe pm_is_recipe cd_is_recipe ct_is_recipe oc__law_cells kV__law_cells dc__law_cells pm__law_cells cd__law_cells ct__law_cells oc__law_is_name kV__law_is_name dc__law_is_name pm__law_is_name cd__law_is_name ct__law_is_name oc__law_spots kV__law_spots dc__law_spots pm__law_spots cd__law_spots ct__law_spots oc__law_size kV__law_size dc__law_size pm__law_size cd__law_size ct__law_size oc__law_is kV__law_is dc__law_is pm__law_is cd__law_is ct__law_is oc__law_put kV__law_put dc__law_put pm__law_put cd__law_put ct__law_put oc__law_chain kV__law_chain dc__law_chain pm__law_chain cd__law_chain ct__law_chain oc__law_long kV__law_long dc__law_long pm__law_long cd__law_long ct__law_long oc__law_both kV__law_both dc__law_both pm__law_both cd__law_both ct__law_both oc__law_right kV__law_right dc__law_right pm__law_right cd__law_right ct__law_right oc_law kV_law dc_law pm_law cd_law ct_law : Value}
    (a_is_whole : PySem.W.nsIn K mainGlobals "is_whole" = some (some (.ref f_is_whole))) (l_is_whole : K.lookup f_is_whole = some ⟨oc_is_whole, od_is_whole, .func (PySem.W.fnOf "is_whole" "is_whole" (defArgs s_is_whole) (defBody s_is_whole) (defScope s_is_whole) .none kV_is_whole dc_is_whole pm_is_whole an_is_whole cd_is_whole ct_is_whole), sl_is_whole⟩) (c_is_whole : PySem.W.codeIn K cd_is_whole "is_whole" = true) (k_is_whole : PySem.W.keepIn K (.ref f_is_whole) = true)
    (a_is_name : PySem.W.nsIn K mainGlobals "is_name" = some (some (.ref f_is_name))) (l_is_name : K.lookup f_is_name = some ⟨oc_is_name, od_is_name, .func (PySem.W.fnOf "is_name" "is_name" (defArgs s_is_name) (defBody s_is_name) (defScope s_is_name) .none kV_is_name dc_is_name pm_is_name an_is_name cd_is_name ct_is_name), sl_is_name⟩) (c_is_name : PySem.W.codeIn K cd_is_name "is_name" = true) (k_is_name : PySem.W.keepIn K (.ref f_is_name) = true)
    (a_are_names : PySem.W.nsIn K mainGlobals "are_names" = some (some (.ref f_are_names))) (l_are_names : K.lookup f_are_names = some ⟨oc_are_names, od_are_names, .func (PySem.W.fnOf "are_names" "are_names" (defArgs s_are_names) (defBody s_are_names) (defScope s_are_names) .none kV_are_names dc_are_names pm_are_names an_are_names cd_are_names ct_are_names), sl_are_names⟩) (c_are_names : PySem.W.codeIn K cd_are_names "are_names" = true) (k_are_names : PySem.W.keepIn K (.ref f_are_names) = true)
    (a_within : PySem.W.nsIn K mainGlobals "within" = some (some (.ref f_within))) (l_within : K.lookup f_within = some ⟨oc_within, od_within, .func (PySem.W.fnOf "within" "within" (defArgs s_within) (defBody s_within) (defScope s_within) .none kV_within dc_within pm_within an_within cd_within ct_within), sl_within⟩) (c_within : PySem.W.codeIn K cd_within "within" = true) (k_within : PySem.W.keepIn K (.ref f_within) = true)
    (a_is_recipe : PySem.W.nsIn K mainGlobals "is_recipe" = some (some (.ref f_is_recipe))) (l_is_recipe : K.lookup f_is_recipe = some ⟨oc_is_recipe, od_is_recipe, .func (PySem.W.fnOf "is_recipe" "is_recipe" (defArgs s_is_recipe) (defBody s_is_recipe) (defScope s_is_recipe) .none kV_is_recipe dc_is_recipe pm_is_recipe an_is_recipe cd_is_recipe ct_is_recipe), sl_is_recipe⟩) (c_is_recipe : PySem.W.codeIn K cd_is_recipe "is_recipe" = true) (k_is_recipe : PySem.W.keepIn K (.ref f_is_recipe) = true)
    (a__law_cells : PySem.W.nsIn K mainGlobals "_law_cells" = some (some (.ref f__law_cells))) (l__law_cells : K.lookup f__law_cells = some ⟨oc__law_cells, od__law_cells, .func (PySem.W.fnOf "_law_cells" "_law_cells" (defArgs s__law_cells) (defBody s__law_cells) (defScope s__law_cells) .none kV__law_cells dc__law_cells pm__law_cells an__law_cells cd__law_cells ct__law_cells), sl__law_cells⟩) (c__law_cells : PySem.W.codeIn K cd__law_cells "_law_cells" = true) (k__law_cells : PySem.W.keepIn K (.ref f__law_cells) = true)
    (a__law_is_name : PySem.W.nsIn K mainGlobals "_law_is_name" = some (some (.ref f__law_is_name))) (l__law_is_name : K.lookup f__law_is_name = some ⟨oc__law_is_name, od__law_is_name, .func (PySem.W.fnOf "_law_is_name" "_law_is_name" (defArgs s__law_is_name) (defBody s__law_is_name) (defScope s__law_is_name) .none kV__law_is_name dc__law_is_name pm__law_is_name an__law_is_name cd__law_is_name ct__law_is_name), sl__law_is_name⟩) (c__law_is_name : PySem.W.codeIn K cd__law_is_name "_law_is_name" = true) (k__law_is_name : PySem.W.keepIn K (.ref f__law_is_name) = true)
    (a__law_spots : PySem.W.nsIn K mainGlobals "_law_spots" = some (some (.ref f__law_spots))) (l__law_spots : K.lookup f__law_spots = some ⟨oc__law_spots, od__law_spots, .func (PySem.W.fnOf "_law_spots" "_law_spots" (defArgs s__law_spots) (defBody s__law_spots) (defScope s__law_spots) .none kV__law_spots dc__law_spots pm__law_spots an__law_spots cd__law_spots ct__law_spots), sl__law_spots⟩) (c__law_spots : PySem.W.codeIn K cd__law_spots "_law_spots" = true) (k__law_spots : PySem.W.keepIn K (.ref f__law_spots) = true)
    (a__law_size : PySem.W.nsIn K mainGlobals "_law_size" = some (some (.ref f__law_size))) (l__law_size : K.lookup f__law_size = some ⟨oc__law_size, od__law_size, .func (PySem.W.fnOf "_law_size" "_law_size" (defArgs s__law_size) (defBody s__law_size) (defScope s__law_size) .none kV__law_size dc__law_size pm__law_size an__law_size cd__law_size ct__law_size), sl__law_size⟩) (c__law_size : PySem.W.codeIn K cd__law_size "_law_size" = true) (k__law_size : PySem.W.keepIn K (.ref f__law_size) = true)
    (a__law_is : PySem.W.nsIn K mainGlobals "_law_is" = some (some (.ref f__law_is))) (l__law_is : K.lookup f__law_is = some ⟨oc__law_is, od__law_is, .func (PySem.W.fnOf "_law_is" "_law_is" (defArgs s__law_is) (defBody s__law_is) (defScope s__law_is) .none kV__law_is dc__law_is pm__law_is an__law_is cd__law_is ct__law_is), sl__law_is⟩) (c__law_is : PySem.W.codeIn K cd__law_is "_law_is" = true) (k__law_is : PySem.W.keepIn K (.ref f__law_is) = true)
    (a__law_put : PySem.W.nsIn K mainGlobals "_law_put" = some (some (.ref f__law_put))) (l__law_put : K.lookup f__law_put = some ⟨oc__law_put, od__law_put, .func (PySem.W.fnOf "_law_put" "_law_put" (defArgs s__law_put) (defBody s__law_put) (defScope s__law_put) .none kV__law_put dc__law_put pm__law_put an__law_put cd__law_put ct__law_put), sl__law_put⟩) (c__law_put : PySem.W.codeIn K cd__law_put "_law_put" = true) (k__law_put : PySem.W.keepIn K (.ref f__law_put) = true)
    (a__law_chain : PySem.W.nsIn K mainGlobals "_law_chain" = some (some (.ref f__law_chain))) (l__law_chain : K.lookup f__law_chain = some ⟨oc__law_chain, od__law_chain, .func (PySem.W.fnOf "_law_chain" "_law_chain" (defArgs s__law_chain) (defBody s__law_chain) (defScope s__law_chain) .none kV__law_chain dc__law_chain pm__law_chain an__law_chain cd__law_chain ct__law_chain), sl__law_chain⟩) (c__law_chain : PySem.W.codeIn K cd__law_chain "_law_chain" = true) (k__law_chain : PySem.W.keepIn K (.ref f__law_chain) = true)
    (a__law_long : PySem.W.nsIn K mainGlobals "_law_long" = some (some (.ref f__law_long))) (l__law_long : K.lookup f__law_long = some ⟨oc__law_long, od__law_long, .func (PySem.W.fnOf "_law_long" "_law_long" (defArgs s__law_long) (defBody s__law_long) (defScope s__law_long) .none kV__law_long dc__law_long pm__law_long an__law_long cd__law_long ct__law_long), sl__law_long⟩) (c__law_long : PySem.W.codeIn K cd__law_long "_law_long" = true) (k__law_long : PySem.W.keepIn K (.ref f__law_long) = true)
    (a__law_both : PySem.W.nsIn K mainGlobals "_law_both" = some (some (.ref f__law_both))) (l__law_both : K.lookup f__law_both = some ⟨oc__law_both, od__law_both, .func (PySem.W.fnOf "_law_both" "_law_both" (defArgs s__law_both) (defBody s__law_both) (defScope s__law_both) .none kV__law_both dc__law_both pm__law_both an__law_both cd__law_both ct__law_both), sl__law_both⟩) (c__law_both : PySem.W.codeIn K cd__law_both "_law_both" = true) (k__law_both : PySem.W.keepIn K (.ref f__law_both) = true)
    (a__law_right : PySem.W.nsIn K mainGlobals "_law_right" = some (some (.ref f__law_right))) (l__law_right : K.lookup f__law_right = some ⟨oc__law_right, od__law_right, .func (PySem.W.fnOf "_law_right" "_law_right" (defArgs s__law_right) (defBody s__law_right) (defScope s__law_right) .none kV__law_right dc__law_right pm__law_right an__law_right cd__law_right ct__law_right), sl__law_right⟩) (c__law_right : PySem.W.codeIn K cd__law_right "_law_right" = true) (k__law_right : PySem.W.keepIn K (.ref f__law_right) = true)
    (a_law : PySem.W.nsIn K mainGlobals "law" = some (some (.ref f_law))) (l_law : K.lookup f_law = some ⟨oc_law, od_law, .func (PySem.W.fnOf "law" "law" (defArgs s_law) (defBody s_law) (defScope s_law) .none kV_law dc_law pm_law an_law cd_law ct_law), sl_law⟩) (c_law : PySem.W.codeIn K cd_law "law" = true) (k_law : PySem.W.keepIn K (.ref f_law) = true)
    (z_len : PySem.W.nsIn K mainGlobals "len" = some none)
    (z_range : PySem.W.nsIn K mainGlobals "range" = some none)
    (z_tuple : PySem.W.nsIn K mainGlobals "tuple" = some none)
    (z_str : PySem.W.nsIn K mainGlobals "str" = some none)
    (z_int : PySem.W.nsIn K mainGlobals "int" = some none)
    (z_isinstance : PySem.W.nsIn K mainGlobals "isinstance" = some none)
    (z_bool : PySem.W.nsIn K mainGlobals "bool" = some none)
    (z_sum : PySem.W.nsIn K mainGlobals "sum" = some none)
    {f_TWOS : Addr} {d_TWOS : Option Addr} {it_TWOS : Array Value} {n_TWOS : Nat} {sl_TWOS : Array (Option Value)} {tk1 tk2 tk3 tk4 tk5 : Tok}
    (r_LETTERS : PySem.W.nsIn K mainGlobals "LETTERS" = some (some (.str "abcdefghijklmnopqrstuvwxyz" tk1)))
    (r_LONGEST : PySem.W.nsIn K mainGlobals "LONGEST" = some (some (.int 8 tk2)))
    (r_DEEPEST : PySem.W.nsIn K mainGlobals "DEEPEST" = some (some (.int 8 tk3)))
    (r_MOST : PySem.W.nsIn K mainGlobals "MOST" = some (some (.int 100 tk4)))
    (r_MOST_NAMES : PySem.W.nsIn K mainGlobals "MOST_NAMES" = some (some (.int 9 tk5)))
    (r_TWOS : PySem.W.nsIn K mainGlobals "TWOS" = some (some (.ref f_TWOS)))
    (l_TWOS : K.lookup f_TWOS = some ⟨.type "tuple", d_TWOS, .seq it_TWOS n_TWOS, sl_TWOS⟩)
    (v_TWOS : ∃ t1 t2 t3 t4 : Tok, it_TWOS = #[.str "plus" t1, .str "minus" t2, .str "times" t3, .str "most" t4])
    : ∃ fd : FuncData, (∀ (s : Shared) (v : Value), BindsTo s fd ⟨[v], []⟩ [("script", v)]) ∧ ∀ base : Heap, K.In base → base.Ns mainGlobals mg → FnOk l.prog w K mg base CX0 14 fa fd ["script"] (spLaw K) := by
  have e := hfa.symm.trans (PySem.W.mg_of X G a_law)
  cases e
  have F_is_whole := fun_mk (st := s_is_whole) l_is_whole c_is_whole k_is_whole
  have D_is_whole : IsDef K mg "is_whole" s_is_whole ["thing"] := ⟨f_is_whole, _, F_is_whole, PySem.W.mg_of X G a_is_whole, F_is_whole.binds (ps := ["thing"]) fun _ _ _ _ _ _ us hl => match us, hl with | [_], _ => rfl⟩
  have F_is_name := fun_mk (st := s_is_name) l_is_name c_is_name k_is_name
  have D_is_name : IsDef K mg "is_name" s_is_name ["thing"] := ⟨f_is_name, _, F_is_name, PySem.W.mg_of X G a_is_name, F_is_name.binds (ps := ["thing"]) fun _ _ _ _ _ _ us hl => match us, hl with | [_], _ => rfl⟩
  have F_are_names := fun_mk (st := s_are_names) l_are_names c_are_names k_are_names
  have D_are_names : IsDef K mg "are_names" s_are_names ["thing"] := ⟨f_are_names, _, F_are_names, PySem.W.mg_of X G a_are_names, F_are_names.binds (ps := ["thing"]) fun _ _ _ _ _ _ us hl => match us, hl with | [_], _ => rfl⟩
  have F_within := fun_mk (st := s_within) l_within c_within k_within
  have D_within : IsDef K mg "within" s_within ["thing"] := ⟨f_within, _, F_within, PySem.W.mg_of X G a_within, F_within.binds (ps := ["thing"]) fun _ _ _ _ _ _ us hl => match us, hl with | [_], _ => rfl⟩
  have F_is_recipe := fun_mk (st := s_is_recipe) l_is_recipe c_is_recipe k_is_recipe
  have D_is_recipe : IsDef K mg "is_recipe" s_is_recipe ["thing"] := ⟨f_is_recipe, _, F_is_recipe, PySem.W.mg_of X G a_is_recipe, F_is_recipe.binds (ps := ["thing"]) fun _ _ _ _ _ _ us hl => match us, hl with | [_], _ => rfl⟩
  have F__law_cells := fun_mk (st := s__law_cells) l__law_cells c__law_cells k__law_cells
  have D__law_cells : IsDef K mg "_law_cells" s__law_cells ["script"] := ⟨f__law_cells, _, F__law_cells, PySem.W.mg_of X G a__law_cells, F__law_cells.binds (ps := ["script"]) fun _ _ _ _ _ _ us hl => match us, hl with | [_], _ => rfl⟩
  have F__law_is_name := fun_mk (st := s__law_is_name) l__law_is_name c__law_is_name k__law_is_name
  have D__law_is_name : IsDef K mg "_law_is_name" s__law_is_name ["thing"] := ⟨f__law_is_name, _, F__law_is_name, PySem.W.mg_of X G a__law_is_name, F__law_is_name.binds (ps := ["thing"]) fun _ _ _ _ _ _ us hl => match us, hl with | [_], _ => rfl⟩
  have F__law_spots := fun_mk (st := s__law_spots) l__law_spots c__law_spots k__law_spots
  have D__law_spots : IsDef K mg "_law_spots" s__law_spots ["thing"] := ⟨f__law_spots, _, F__law_spots, PySem.W.mg_of X G a__law_spots, F__law_spots.binds (ps := ["thing"]) fun _ _ _ _ _ _ us hl => match us, hl with | [_], _ => rfl⟩
  have F__law_size := fun_mk (st := s__law_size) l__law_size c__law_size k__law_size
  have D__law_size : IsDef K mg "_law_size" s__law_size ["thing", "depth"] := ⟨f__law_size, _, F__law_size, PySem.W.mg_of X G a__law_size, F__law_size.binds (ps := ["thing", "depth"]) fun _ _ _ _ _ _ us hl => match us, hl with | [_, _], _ => rfl⟩
  have F__law_is := fun_mk (st := s__law_is) l__law_is c__law_is k__law_is
  have D__law_is : IsDef K mg "_law_is" s__law_is ["thing"] := ⟨f__law_is, _, F__law_is, PySem.W.mg_of X G a__law_is, F__law_is.binds (ps := ["thing"]) fun _ _ _ _ _ _ us hl => match us, hl with | [_], _ => rfl⟩
  have F__law_put := fun_mk (st := s__law_put) l__law_put c__law_put k__law_put
  have D__law_put : IsDef K mg "_law_put" s__law_put ["one", "cell"] := ⟨f__law_put, _, F__law_put, PySem.W.mg_of X G a__law_put, F__law_put.binds (ps := ["one", "cell"]) fun _ _ _ _ _ _ us hl => match us, hl with | [_, _], _ => rfl⟩
  have F__law_chain := fun_mk (st := s__law_chain) l__law_chain c__law_chain k__law_chain
  have D__law_chain : IsDef K mg "_law_chain" s__law_chain ["cell", "many"] := ⟨f__law_chain, _, F__law_chain, PySem.W.mg_of X G a__law_chain, F__law_chain.binds (ps := ["cell", "many"]) fun _ _ _ _ _ _ us hl => match us, hl with | [_, _], _ => rfl⟩
  have F__law_long := fun_mk (st := s__law_long) l__law_long c__law_long k__law_long
  have D__law_long : IsDef K mg "_law_long" s__law_long ["many"] := ⟨f__law_long, _, F__law_long, PySem.W.mg_of X G a__law_long, F__law_long.binds (ps := ["many"]) fun _ _ _ _ _ _ us hl => match us, hl with | [_], _ => rfl⟩
  have F__law_both := fun_mk (st := s__law_both) l__law_both c__law_both k__law_both
  have D__law_both : IsDef K mg "_law_both" s__law_both ["two"] := ⟨f__law_both, _, F__law_both, PySem.W.mg_of X G a__law_both, F__law_both.binds (ps := ["two"]) fun _ _ _ _ _ _ us hl => match us, hl with | [_], _ => rfl⟩
  have F__law_right := fun_mk (st := s__law_right) l__law_right c__law_right k__law_right
  have D__law_right : IsDef K mg "_law_right" s__law_right ["thing"] := ⟨f__law_right, _, F__law_right, PySem.W.mg_of X G a__law_right, F__law_right.binds (ps := ["thing"]) fun _ _ _ _ _ _ us hl => match us, hl with | [_], _ => rfl⟩
  have F_law := fun_mk (st := s_law) l_law c_law k_law
  have m_len := PySem.W.mg_none_of X G z_len
  have m_range := PySem.W.mg_none_of X G z_range
  have m_tuple := PySem.W.mg_none_of X G z_tuple
  have m_str := PySem.W.mg_none_of X G z_str
  have m_int := PySem.W.mg_none_of X G z_int
  have m_isinstance := PySem.W.mg_none_of X G z_isinstance
  have m_bool := PySem.W.mg_none_of X G z_bool
  have m_sum := PySem.W.mg_none_of X G z_sum
  have T : Txt K mg := ⟨m_len, m_range, m_tuple, m_str, m_int, m_isinstance, m_bool, m_sum⟩
  have R : RTxt K mg f_TWOS := ⟨⟨_, PySem.W.mg_of X G r_LETTERS⟩, ⟨_, PySem.W.mg_of X G r_LONGEST⟩, ⟨_, PySem.W.mg_of X G r_DEEPEST⟩, ⟨_, PySem.W.mg_of X G r_MOST⟩, ⟨_, PySem.W.mg_of X G r_MOST_NAMES⟩, PySem.W.mg_of X G r_TWOS, fun H => by
      obtain ⟨t1, t2, t3, t4, e⟩ := v_TWOS
      subst e
      exact .inr ⟨_, _, _, l_TWOS, rfl, rfl, le_line (Nat.le_of_ble_eq_true rfl), .cons ⟨_, rfl⟩ (.cons ⟨_, rfl⟩ (.cons ⟨_, rfl⟩ (.cons ⟨_, rfl⟩ .nil)))⟩⟩
  refine ⟨PySem.W.fnOf "law" "law" (defArgs s_law) (defBody s_law) (defScope s_law) .none kV_law dc_law pm_law an_law cd_law ct_law, fun s v => .of_eq rfl, fun base _ _ => ?_⟩
  have W1 := ok_is_whole (P := l.prog) (w := w) (base := base) T D_is_whole
  have W2 := ok_is_name (P := l.prog) (w := w) (base := base) T R D_is_name
  have W3 := ok_are_names T R D_are_names W2
  have W4 := ok_within T R D_within W1 W2 W3
  have W5 := ok_is_recipe T R D_is_recipe W4
  have L1 := ok__law_is_name (P := l.prog) (w := w) (base := base) T D__law_is_name
  have L2 := ok__law_spots T D__law_spots L1
  have L4 := ok__law_is T D__law_is (all__law_size T D__law_size L2 8)
  have L5 := ok__law_put (P := l.prog) (w := w) (base := base) T D__law_put
  exact ok_law F_law T (ok__law_cells T D__law_cells) (ok__law_chain T D__law_chain L5) (ok__law_long T D__law_long (ok__law_both T D__law_both)) (ok__law_right T D__law_right W5 L4) W5
theorem walk {l : PySem.W.OpenLaw} {q : Program} {loose : List Str} {XP : (Str → Option Value) → Heap → Prop} {YP : World → Heap → Prop} {d : DefRec} {K : Params → PySem.W.Frag} (hn : l.most = some 63) (hdf : d.params.defaults = [])
    (hY : ∀ (w : World) (h : Heap), YP w h → (K w.params).In h)
    (F : ∀ (w : World) (mg : Str → Option Value) (fa : Addr) (h : Heap), (K w.params).In h → h.Ns mainGlobals mg → mg d.name = some (.ref fa) →
      ∃ fd : FuncData, (∀ (s : Shared) (u : Value), BindsTo s fd ⟨[u], []⟩ [("script", u)]) ∧ ∀ base : Heap, (K w.params).In base → base.Ns mainGlobals mg → FnOk l.prog w (K w.params) mg base CX0 14 fa fd ["script"] (spLaw (K w.params))) :
    PySem.W.WalkO q loose XP YP l.row.toRowW d [] (fun f vs => PySem.call f vs) :=
  L2.walk_of (n := 63) (k := 14) (x := "script") (CX := fun _ => CX0) (sp := fun w => spLaw (K w.params)) hn (by decide) hdf ⟨rfl, by decide, by decide⟩ hY F (fun _ _ a ns hl _ hS => ⟨a, ns, rfl, hS, hl, fun _ => rfl⟩) fun _ _ _ _ _ z => z
end Mad
open PySem PySem.W PyProof.Rows
set_option maxRecDepth 100000 in
set_option maxHeartbeats 0 in
theorem PySem.Challenge.cw_madeagain_k02_deep_and_long_ones_holds : PySem.Challenge.rw_madeagain_k02_deep_and_long_ones.Holds := by
  w_on; o_law; k_head; (case hw => w_witness2)
  k_fill
  refine Mad.walk (l := PySem.Challenge.rw_madeagain_k02_deep_and_long_ones) rfl rfl (fun w h Y => PySem.W.kIn_of Y) ?F
  case F =>
    intro w mg fa h KX G hmg
    refine' Mad.all_mk KX G hmg ?a_is_whole ?l_is_whole ?c_is_whole ?k_is_whole ?a_is_name ?l_is_name ?c_is_name ?k_is_name ?a_are_names ?l_are_names ?c_are_names ?k_are_names ?a_within ?l_within ?c_within ?k_within ?a_is_recipe ?l_is_recipe ?c_is_recipe ?k_is_recipe ?a__law_cells ?l__law_cells ?c__law_cells ?k__law_cells ?a__law_is_name ?l__law_is_name ?c__law_is_name ?k__law_is_name ?a__law_spots ?l__law_spots ?c__law_spots ?k__law_spots ?a__law_size ?l__law_size ?c__law_size ?k__law_size ?a__law_is ?l__law_is ?c__law_is ?k__law_is ?a__law_put ?l__law_put ?c__law_put ?k__law_put ?a__law_chain ?l__law_chain ?c__law_chain ?k__law_chain ?a__law_long ?l__law_long ?c__law_long ?k__law_long ?a__law_both ?l__law_both ?c__law_both ?k__law_both ?a__law_right ?l__law_right ?c__law_right ?k__law_right ?a_law ?l_law ?c_law ?k_law ?z_len ?z_range ?z_tuple ?z_str ?z_int ?z_isinstance ?z_bool ?z_sum ?r_LETTERS ?r_LONGEST ?r_DEEPEST ?r_MOST ?r_MOST_NAMES ?r_TWOS ?l_TWOS ?v_TWOS
    (case a_is_whole => k_is)
    (case l_is_whole => k_is)
    (case c_is_whole => k_is)
    (case k_is_whole => k_is)
    (case a_is_name => k_is)
    (case l_is_name => k_is)
    (case c_is_name => k_is)
    (case k_is_name => k_is)
    (case a_are_names => k_is)
    (case l_are_names => k_is)
    (case c_are_names => k_is)
    (case k_are_names => k_is)
    (case a_within => k_is)
    (case l_within => k_is)
    (case c_within => k_is)
    (case k_within => k_is)
    (case a_is_recipe => k_is)
    (case l_is_recipe => k_is)
    (case c_is_recipe => k_is)
    (case k_is_recipe => k_is)
    (case a__law_cells => k_is)
    (case l__law_cells => k_is)
    (case c__law_cells => k_is)
    (case k__law_cells => k_is)
    (case a__law_is_name => k_is)
    (case l__law_is_name => k_is)
    (case c__law_is_name => k_is)
    (case k__law_is_name => k_is)
    (case a__law_spots => k_is)
    (case l__law_spots => k_is)
    (case c__law_spots => k_is)
    (case k__law_spots => k_is)
    (case a__law_size => k_is)
    (case l__law_size => k_is)
    (case c__law_size => k_is)
    (case k__law_size => k_is)
    (case a__law_is => k_is)
    (case l__law_is => k_is)
    (case c__law_is => k_is)
    (case k__law_is => k_is)
    (case a__law_put => k_is)
    (case l__law_put => k_is)
    (case c__law_put => k_is)
    (case k__law_put => k_is)
    (case a__law_chain => k_is)
    (case l__law_chain => k_is)
    (case c__law_chain => k_is)
    (case k__law_chain => k_is)
    (case a__law_long => k_is)
    (case l__law_long => k_is)
    (case c__law_long => k_is)
    (case k__law_long => k_is)
    (case a__law_both => k_is)
    (case l__law_both => k_is)
    (case c__law_both => k_is)
    (case k__law_both => k_is)
    (case a__law_right => k_is)
    (case l__law_right => k_is)
    (case c__law_right => k_is)
    (case k__law_right => k_is)
    (case a_law => k_is)
    (case l_law => k_is)
    (case c_law => k_is)
    (case k_law => k_is)
    (case z_len => k_is)
    (case z_range => k_is)
    (case z_tuple => k_is)
    (case z_str => k_is)
    (case z_int => k_is)
    (case z_isinstance => k_is)
    (case z_bool => k_is)
    (case z_sum => k_is)
    (case r_LETTERS => k_is)
    (case r_LONGEST => k_is)
    (case r_DEEPEST => k_is)
    (case r_MOST => k_is)
    (case r_MOST_NAMES => k_is)
    (case r_TWOS => k_is)
    (case l_TWOS => k_is)
    (case v_TWOS => exact ⟨_, _, _, _, rfl⟩)
#print axioms PySem.Challenge.cw_madeagain_k02_deep_and_long_ones_holds
