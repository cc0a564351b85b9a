import PyProof.Rows.All
import Wide.All
import OpenK.AllK
import Wide.FinOn
import HandS.ForMost
import HandS.Wide
import HandS.IsInst
import HandS.Codes
import HandS.More
import HandS.Style
import HandS.TupMul
import HandS.TupAny
import HandS.Dict
import HandS.Iter
import HandS.SortInts
import HandS.SortOrd
import KE.KEqSeq
import HandS.Exc
import HandS.ExcOwn
import HandS.WordsExc
import KE.IntTextLaws
import KE.IntTextText
import HandS.ExcValue
import HandS.TryOnly
import HandS.ExcIs
import PyProof.StrOps2
import HandS.Strs
import HandS.NoneIn
import HandS.Zip
import HandS.Deep
import PySem.Challenge.RW_madeagain_k37_twins
set_option Elab.async false
set_option linter.all false
set_option maxRecDepth 100000
set_option maxHeartbeats 4000000
set_option pp.maxSteps 300
namespace Mad
open PySem PySem.Spec PyProof.Rows L2
def topS (i : Nat) : Stmt := PySem.Challenge.pw_madeagain_k37_twins.main.body.getD i (.Pass ⟨0, 0, 0, 0⟩)
/-! ### short words over the layer -/
/-- the def x of the text stands in the module as st says -/
def IsDef (K : PySem.W.Frag) (mg : Str → Option Value) (x : Str) (st : Stmt) (ps : List Str) : Prop := ∃ (f : Addr) (fd : FuncData), Fun K x x st f fd ∧ mg x = some (.ref f) ∧ Binds K fd ps []
/-- the def x keeps the promise sp by at most k calls in one another -/
def Cal (P : Program) (w : World) (K : PySem.W.Frag) (mg : Str → Option Value) (base : Heap) (CX : CXT) (k : Nat) (x : Str) (ps : List Str) (sp : Sp) : Prop :=
  ∃ (f : Addr) (fd : FuncData), FnOk P w K mg base CX k f fd ps sp ∧ mg x = some (.ref f) ∧ PySem.W.keepIn K (.ref f) = true ∧ Binds K fd ps []
section
variable {P : Program} {w : World} {K : PySem.W.Frag} {mg : Str → Option Value} {base : Heap}
theorem Cal.mono {CX : CXT} {j k : Nat} {x : Str} {ps : List Str} {sp : Sp} (c : Cal P w K mg base CX j x ps sp) (h : j ≤ k) : Cal P w K mg base CX k x ps sp := by
  obtain ⟨f, fd, F, r⟩ := c
  exact ⟨f, fd, F.mono h, r⟩
theorem Cal.imp {CX : CXT} {k : Nat} {x : Str} {ps : List Str} {sp sp' : Sp} (c : Cal P w K mg base CX k x ps sp) (h : ∀ vs H Q E, sp' vs H Q E → sp vs H Q E) : Cal P w K mg base CX k x ps sp' := by
  obtain ⟨f, fd, F, r⟩ := c
  exact ⟨f, fd, F.imp h, r⟩
/-- of no depth none is asked -/
theorem cal_none {x : Str} {st : Stmt} {ps : List Str} {sp : Sp} {CX : CXT} {k : Nat} (D : IsDef K mg x st ps) (no : ∀ vs H Q E, ¬ sp vs H Q E) : Cal P w K mg base CX k x ps sp := by
  obtain ⟨f, fd, F, m, b⟩ := D
  exact ⟨f, fd, ⟨fun vs H Q E h => absurd h (no vs H Q E), fun A outer s H args us vs Q E _ _ _ _ h => absurd h (no vs H Q E)⟩, m, F.kp, b⟩
theorem IsDef.cal {x : Str} {st : Stmt} {N ps : List Str} {k : Nat} {sp : Sp} (D : IsDef K mg x st ps) (S : FnScope N ps (defScope st)) (len : ∀ vs H Q E, sp vs H Q E → vs.length = ps.length)
    (hbody : ∀ (f : Addr) (cdv : Value) (A : Around) (outer : List Env) (s : Shared) (H : Hp) (vs : List V) (Q : VK) (E : XK), Room k (A.deeper (envOfC x (defScope st) s.heap.objs.size f cdv)) → sp vs H Q E →
      ∃ t, PSs (cxOf CX0 P w K mg base N x (defScope st) f cdv A outer s H E).nox (defBody st) t ∧ t { nx := fun _ H' => Q .non H', rt := Q } (start N vs) H) : Cal P w K mg base CX0 (k + 1) x ps sp := by
  obtain ⟨f, fd, F, m, b⟩ := D
  exact ⟨f, fd, F.ok S len fun cdv A outer s H vs Q E => hbody f cdv A outer s H vs Q E, m, F.kp, b⟩
end
section
variable {X : Cx} {CX : CXT} {k : Nat} {ps : List Str} {sp : Sp} {E : XK} {x : Str} {p pos : Pos}
theorem pe_cal {e : Expr} {es : List Expr} {t : TA} (c : Cal X.prog X.w X.K X.mg X.base CX k x ps sp) (hr : Room k X.A) (hx : Passes CX X E) (ha : PA X (e :: es) t) (hg : Gl X x := by rfl)
    (hdb : (x == ("__debug__" : Str)) = false := by decide) (he : starEach (e :: es) X.env = (false, eval e X.env) :: starEach es X.env := by rfl) (hpl : (backTo pos (starEach es X.env)).any (·.1) = false := by rfl) :
    PE X (.Call (.Name x p) (e :: es) [] pos) (tCall sp [] E t) := by
  obtain ⟨f, fd, F, m, kp, b⟩ := c
  exact pe_call F hr hg m kp b .nil hx ha hdb he hpl
theorem pe_cal0 (c : Cal X.prog X.w X.K X.mg X.base CX k x ps sp) (hr : Room k X.A) (hx : Passes CX X E) (hg : Gl X x := by rfl) (hdb : (x == ("__debug__" : Str)) = false := by decide) :
    PE X (.Call (.Name x p) [] [] pos) (tCall sp [] E tNil) := by
  obtain ⟨f, fd, F, m, kp, b⟩ := c
  exact pe_call0 F hr hg m kp b .nil hx hdb
end
theorem le_line {n : Nat} (h : n ≤ 16777216) : n ≤ sizeLine := by rw [sizeLine_eq]; exact h
theorem lt_line {n : Nat} (h : n < 16777216) : n < sizeLine := by rw [sizeLine_eq]; exact h
theorem same_new {H : Hp} {p : Addr} (h : H p = none) (o : HO) : Same H (upd H p o) := fun b u q => by rw [upd_ne (ne_of_none q h)]; exact q
theorem same_upd {B H : Hp} {p : Addr} (s : Same B H) (h : B p = none) (o : HO) : Same B (upd H p o) := fun b u q => by
  have z : b ≠ p := fun e => by rw [e, h] at q; cases q
  rw [upd_ne z]; exact s _ _ q
theorem atI_at {α : Type} {xs : List α} {i : Int} {v : α} (h0 : 0 ≤ i) (h : xs[i.toNat]? = some v) : atI xs i = some v := by
  have e : i = ((i.toNat : Nat) : Int) := by omega
  rw [e]; exact atI_nat h
theorem ixN_at {n : Nat} {i : Int} (h0 : 0 ≤ i) (h : i < n) : ixN n i = some i.toNat := by
  unfold ixN
  rw [if_pos h0, if_pos h]
theorem int_at {ns : List Int} {i : Int} (h0 : 0 ≤ i) (h : i < ns.length) : ∃ v : Int, atI (ns.map V.int) i = some (.int v) := by
  have hk : i.toNat < ns.length := by omega
  exact ⟨ns[i.toNat], atI_at h0 (by rw [List.getElem?_map, List.getElem?_eq_getElem hk] <;> rfl)⟩
theorem if_true_eq {c : Bool} {A B : Prop} (h : c = true) (a : A) : if c = true then A else B := by rw [if_pos h]; exact a
theorem if_false_eq {c : Bool} {A B : Prop} (h : c = false) (b : B) : if c = true then A else B := by rw [h]; exact b
theorem not_true_eq {c : Bool} {A B : Prop} (h : c = true) (b : B) : if (!c) = true then A else B := by rw [h]; exact b
theorem not_false_eq {c : Bool} {A B : Prop} (h : c = false) (a : A) : if (!c) = true then A else B := by rw [h]; exact a
structure Txt (K : PySem.W.Frag) (mg : Str → Option Value) : Prop where
  b_len : mg "len" = none
  b_list : mg "list" = none
  b_range : mg "range" = none
  b_tuple : mg "tuple" = none
  b_str : mg "str" = none
  b_int : mg "int" = none
  b_isinstance : mg "isinstance" = none
  b_bool : mg "bool" = none
  b_sum : mg "sum" = none
  b_dict : mg "dict" = none
  b_min : mg "min" = none
  b_max : mg "max" = none
  b_ValueError : mg "ValueError" = none
/-! ### recipes as data -/
inductive Kd where
  | plus | minus | times | most
  deriving DecidableEq
def Kd.name : Kd → Str
  | .plus => "plus" | .minus => "minus" | .times => "times" | .most => "most"
inductive Rcp where
  | num (n : Int)
  | read (s : List Nat)
  | two (k : Kd) (a b : Rcp)
  | pick (a b c : Rcp)
  | choose (a : Rcp) (ns : List (List Nat))
def Rcp.dep : Rcp → Nat
  | .num _ => 1
  | .read _ => 1
  | .two _ a b => max a.dep b.dep + 1
  | .pick a b c => max a.dep (max b.dep c.dep) + 1
  | .choose a _ => a.dep + 1
def Rcp.siz : Rcp → Nat
  | .num _ => 1
  | .read _ => 1
  | .two _ a b => a.siz + b.siz + 1
  | .pick a b c => a.siz + b.siz + c.siz + 1
  | .choose a _ => a.siz + 1
/-- a name's signs -/
def Nm (s : List Nat) : Prop := 1 ≤ s.length ∧ s.length ≤ 8 ∧ ∀ c ∈ s, 97 ≤ c ∧ c ≤ 122
def Nms (ns : List (List Nat)) : Prop := 1 ≤ ns.length ∧ ns.length ≤ 9 ∧ ∀ s ∈ ns, Nm s
def Rcp.Good : Rcp → Prop
  | .num n => n.natAbs < 10 ^ 40
  | .read s => Nm s
  | .two _ a b => a.Good ∧ b.Good
  | .pick a b c => a.Good ∧ b.Good ∧ c.Good
  | .choose a ns => a.Good ∧ Nms ns
def txs (ns : List (List Nat)) : List V := (ns.map SX.S).map V.str
/-- the value v is the recipe r in H -/
def Rec (H : Hp) : Rcp → V → Prop
  | .num n, v => ∃ p, v = .ref p ∧ H p = some (.tup [.str "number", .int n])
  | .read s, v => ∃ p, v = .ref p ∧ H p = some (.tup [.str "read", .str (SX.S s)])
  | .two k a b, v => ∃ p x y, v = .ref p ∧ H p = some (.tup [.str k.name, x, y]) ∧ Rec H a x ∧ Rec H b y
  | .pick a b c, v => ∃ p x y z, v = .ref p ∧ H p = some (.tup [.str "pick", x, y, z]) ∧ Rec H a x ∧ Rec H b y ∧ Rec H c z
  | .choose a ns, v => ∃ p x q, v = .ref p ∧ H p = some (.tup [.str "choose", x, .ref q]) ∧ Rec H a x ∧ H q = some (.tup (txs ns))
/-- tuples stay -/
def Keep (H H' : Hp) : Prop := ∀ b xs, H b = some (.tup xs) → H' b = some (.tup xs)
theorem Keep.refl (H : Hp) : Keep H H := fun _ _ h => h
theorem Keep.trans {A B C : Hp} (h : Keep A B) (k : Keep B C) : Keep A C := fun b xs q => k b xs (h b xs q)
theorem same_keep {H H' : Hp} (s : Same H H') : Keep H H' := fun b xs q => s b _ q
theorem keep_lst {H : Hp} {l : Addr} {xs ys : List V} (h : H l = some (.lst xs)) : Keep H (upd H l (.lst ys)) := fun b zs q => by
  have z : b ≠ l := fun e => by rw [e, h] at q; cases q
  rw [upd_ne z]; exact q
theorem Rec.keep {H H' : Hp} (k : Keep H H') : ∀ {r : Rcp} {v : V}, Rec H r v → Rec H' r v
  | .num n, v, ⟨p, e, h⟩ => ⟨p, e, k _ _ h⟩
  | .read s, v, ⟨p, e, h⟩ => ⟨p, e, k _ _ h⟩
  | .two _ a b, v, ⟨p, x, y, e, h, ra, rb⟩ => ⟨p, x, y, e, k _ _ h, Rec.keep k ra, Rec.keep k rb⟩
  | .pick a b c, v, ⟨p, x, y, z, e, h, ra, rb, rc⟩ => ⟨p, x, y, z, e, k _ _ h, Rec.keep k ra, Rec.keep k rb, Rec.keep k rc⟩
  | .choose a ns, v, ⟨p, x, q, e, h, ra, hq⟩ => ⟨p, x, q, e, k _ _ h, Rec.keep k ra, k _ _ hq⟩
theorem Rec.same {H H' : Hp} (s : Same H H') {r : Rcp} {v : V} (h : Rec H r v) : Rec H' r v := h.keep (same_keep s)
theorem dep_pos : ∀ r : Rcp, 1 ≤ r.dep
  | .num _ => Nat.le_refl _
  | .read _ => Nat.le_refl _
  | .two _ _ _ => Nat.le_add_left _ _
  | .pick _ _ _ => Nat.le_add_left _ _
  | .choose _ _ => Nat.le_add_left _ _
theorem siz_pos : ∀ r : Rcp, 1 ≤ r.siz
  | .num _ => Nat.le_refl _
  | .read _ => Nat.le_refl _
  | .two _ _ _ => Nat.le_add_left _ _
  | .pick _ _ _ => Nat.le_add_left _ _
  | .choose _ _ => Nat.le_add_left _ _
theorem iteY {p A B : Prop} [Decidable p] (h : p) (a : A) : if decide p = true then A else B := by
  rw [if_pos (decide_eq_true h)]; exact a
theorem iteN {p A B : Prop} [Decidable p] (h : ¬p) (b : B) : if decide p = true then A else B := by
  rw [if_neg (fun z => h (of_decide_eq_true z))]; exact b
theorem txs_get {ns : List (List Nat)} {i : Nat} (h : i < ns.length) : (txs ns)[i]? = some (.str (SX.S ns[i])) := by
  unfold txs
  rw [List.getElem?_map, List.getElem?_map, List.getElem?_eq_getElem h]
  all_goals rfl
theorem txs_mem {ns : List (List Nat)} {x : V} (h : x ∈ txs ns) : ∃ s, s ∈ ns ∧ x = .str (SX.S s) := by
  obtain ⟨y, hy, rfl⟩ := List.mem_map.mp h
  obtain ⟨s, hs, rfl⟩ := List.mem_map.mp hy
  exact ⟨s, hs, rfl⟩
theorem txs_len (ns : List (List Nat)) : (txs ns).length = ns.length := by unfold txs; rw [List.length_map, List.length_map]
theorem txs_app (a b : List (List Nat)) : txs (a ++ b) = txs a ++ txs b := by unfold txs; rw [List.map_append, List.map_append]
/-- the signs, one by one -/
def ones (ss : List Nat) : List (List Nat) := ss.map fun c => [c]
theorem ones_flat (ss : List Nat) : (ones ss).flatten = ss := by
  induction ss with
  | nil => rfl
  | cons a r ih => show [a] ++ (ones r).flatten = _; rw [ih]; rfl
theorem ones_sum (ss : List Nat) : (((ones ss).map SX.S).map (·.length)).sum = ss.length := by
  induction ss with
  | nil => rfl
  | cons a r ih => show 1 + (((ones r).map SX.S).map (·.length)).sum = r.length + 1; rw [ih, Nat.add_comm]
theorem ones_len (ss : List Nat) : (ones ss).length = ss.length := List.length_map _
/-- the pick out of some things by a drawn number -/
theorem one_of {α : Type} {xs : List α} {v : Int} (h0 : 0 ≤ v) (h : v < xs.length) : ∃ x, x ∈ xs ∧ atI xs v = some x := by
  have hk : v.toNat < xs.length := by omega
  exact ⟨xs[v.toNat], List.getElem_mem hk, atI_at h0 (List.getElem?_eq_getElem hk)⟩
def letters : List Nat := [97, 98, 99, 100, 101, 102, 103, 104, 105, 106, 107, 108, 109, 110, 111, 112, 113, 114, 115, 116, 117, 118, 119, 120, 121, 122]
theorem letters_is : ("abcdefghijklmnopqrstuvwxyz" : Str) = SX.S letters := by decide +kernel
theorem letters_ok : ∀ c ∈ letters, 97 ≤ c ∧ c ≤ 122 := by decide
/-! ### rows of recipes -/
def Recs (H : Hp) : List Rcp → List V → Prop
  | [], [] => True
  | r :: rs, v :: vs => Rec H r v ∧ Recs H rs vs
  | _, _ => False
theorem Recs.keep {H H' : Hp} (k : Keep H H') : ∀ {rs : List Rcp} {vs : List V}, Recs H rs vs → Recs H' rs vs
  | [], [], _ => trivial
  | _ :: _, _ :: _, h => ⟨h.1.keep k, Recs.keep k h.2⟩
  | [], _ :: _, h => h.elim
  | _ :: _, [], h => h.elim
theorem Recs.len {H : Hp} : ∀ {rs : List Rcp} {vs : List V}, Recs H rs vs → vs.length = rs.length
  | [], [], _ => rfl
  | _ :: _, _ :: _, h => congrArg (· + 1) (Recs.len h.2)
  | [], _ :: _, h => h.elim
  | _ :: _, [], h => h.elim
theorem Recs.snoc {H : Hp} {r : Rcp} {v : V} (hr : Rec H r v) : ∀ {rs : List Rcp} {vs : List V}, Recs H rs vs → Recs H (rs ++ [r]) (vs ++ [v])
  | [], [], _ => ⟨hr, trivial⟩
  | _ :: _, _ :: _, h => ⟨h.1, Recs.snoc hr h.2⟩
  | [], _ :: _, h => h.elim
  | _ :: _, [], h => h.elim
theorem Recs.at {H : Hp} : ∀ {rs : List Rcp} {vs : List V} {i : Nat} {v : V}, Recs H rs vs → vs[i]? = some v → ∃ r, rs[i]? = some r ∧ Rec H r v
  | [], [], i, v, _, e => by simp at e
  | r :: _, _ :: _, 0, v, h, e => ⟨r, rfl, by cases e; exact h.1⟩
  | _ :: _, _ :: _, i + 1, v, h, e => Recs.at (i := i) h.2 (by simpa using e)
  | [], _ :: _, _, _, h, _ => h.elim
  | _ :: _, [], _, _, h, _ => h.elim
theorem Recs.get {H : Hp} {rs : List Rcp} {vs : List V} {i : Nat} (h : Recs H rs vs) (hi : i < rs.length) : ∃ v r, vs[i]? = some v ∧ rs[i]? = some r ∧ Rec H r v := by
  have hv : i < vs.length := by rw [h.len]; exact hi
  obtain ⟨r, e, hr⟩ := h.at (List.getElem?_eq_getElem hv)
  exact ⟨_, r, List.getElem?_eq_getElem hv, e, hr⟩
/-- a comprehension over a range with a step -/
theorem lcC {lo c : Int} {n : Nat} {g : TG} {tt : TT} {te : TE} {vs : List Nat} {σ : L2.St} {H1 : Hp} {D : Addr} {Qd : Hp → Prop} (Pv : Nat → Hp → Prop)
    (h0 : Pv 0 (upd H1 D (.lst [])))
    (hs : ∀ i H, i < n → Pv i H → g (.int (lo + (i : Nat) * c)) (wipe σ vs) H
      fun σ2 H2 => wipe σ2 vs = wipe σ vs ∧ tt σ2 H2
        fun b H3 => if b = true then te σ2 H3
          fun y H4 => ∃ acc, H4 D = some (.lst acc) ∧ acc.length < sizeLine ∧ Pv (i + 1) (upd H4 D (.lst (acc ++ [y])))
        else Pv (i + 1) H3)
    (hd : ∀ H, Pv n H → Qd H) :
    ∃ W : Nat → Nat → Hp → Prop, (∃ m, W 0 m (upd H1 D (.lst []))) ∧
      ∀ i m H, W i m H → ((Itc lo c n).stop i H ∧ Qd H) ∨ ((Itc lo c n).go i H ∧
        ∃ Nx : Hp → Prop, (∀ H', Nx H' → ∃ m', m' < m ∧ W (i + 1) m' H') ∧
          ∀ x H', (Itc lo c n).yld i H x H' → g x (wipe σ vs) H'
            fun σ2 H2 => wipe σ2 vs = wipe σ vs ∧ tt σ2 H2
              fun b H3 => if b = true then te σ2 H3
                fun y H4 => ∃ acc, H4 D = some (.lst acc) ∧ acc.length < sizeLine ∧ Nx (upd H4 D (.lst (acc ++ [y])))
              else Nx H3) := by
  refine ⟨fun i m H => m = n - i ∧ i ≤ n ∧ Pv i H, ⟨n, rfl, Nat.zero_le _, h0⟩, fun i m H w => ?_⟩
  obtain ⟨em, hi, p⟩ := w
  by_cases hlt : i < n
  · refine Or.inr ⟨hlt, Pv (i + 1), fun H' p' => ⟨n - (i + 1), by omega, rfl, hlt, p'⟩, fun x H' y => ?_⟩
    obtain ⟨e1, e2⟩ := y
    rw [e1, e2]
    exact hs i H hlt p
  · have e : i = n := by omega
    rw [e] at p
    exact Or.inl ⟨by show n ≤ i; omega, hd H p⟩
theorem cut_nat (xs : List V) {a b : Nat} (h : a ≤ b) : cutV xs (some (a : Int)) (some (b : Int)) = (xs.drop a).take (b - a) := by
  show (xs.drop (HT.sIx xs.length 0 (some (a : Int)))).take (HT.sIx xs.length xs.length (some (b : Int)) - HT.sIx xs.length 0 (some (a : Int))) = _
  rw [HT.sIx_nat, HT.sIx_nat]
  by_cases ha : a ≤ xs.length
  · rw [Nat.min_eq_left ha]
    by_cases hb : b ≤ xs.length
    · rw [Nat.min_eq_left hb]
    · rw [Nat.min_eq_right (by omega), List.take_of_length_le (by rw [List.length_drop]; omega), List.take_of_length_le (by rw [List.length_drop]; omega)]
  · have e1 : min a xs.length = xs.length := by omega
    rw [e1, List.drop_eq_nil_of_le (Nat.le_refl _), List.drop_eq_nil_of_le (by omega), List.take_nil, List.take_nil]
theorem cut_to (xs : List V) (b : Nat) : cutV xs none (some (b : Int)) = xs.take b := by
  show (xs.drop (HT.sIx xs.length 0 none)).take (HT.sIx xs.length xs.length (some (b : Int)) - HT.sIx xs.length 0 none) = _
  rw [HT.sIx_none, HT.sIx_nat, List.drop_zero, Nat.sub_zero]
  by_cases hb : b ≤ xs.length
  · rw [Nat.min_eq_left hb]
  · rw [Nat.min_eq_right (by omega), List.take_of_length_le (Nat.le_refl _), List.take_of_length_le (by omega)]
/-! ### any things as data -/
inductive Th where
  | non
  | bl (b : Bool)
  | int (i : Int)
  | str (s : List Nat)
  | tup (l : List Th)
  | lst (l : List Th)
  | dct
mutual
/-- the value stands for the thing in H -/
def Data (H : Hp) : Th → V → Prop
  | .non, v => v = .non
  | .bl b, v => v = .bl b
  | .int i, v => v = .int i
  | .str s, v => v = .str (SX.S s)
  | .tup l, v => ∃ p xs, v = .ref p ∧ H p = some (.tup xs) ∧ DataL H l xs
  | .lst l, v => ∃ p xs, v = .ref p ∧ H p = some (.lst xs) ∧ DataL H l xs
  | .dct, v => ∃ p kvs, v = .ref p ∧ H p = some (.dK kvs)
def DataL (H : Hp) : List Th → List V → Prop
  | [], xs => xs = []
  | t :: l, xs => ∃ x r, xs = x :: r ∧ Data H t x ∧ DataL H l r
end
mutual
theorem Data.same {H H' : Hp} (s : Same H H') : ∀ {t : Th} {v : V}, Data H t v → Data H' t v
  | .non, _, h => h
  | .bl _, _, h => h
  | .int _, _, h => h
  | .str _, _, h => h
  | .tup _, _, ⟨p, xs, e, hp, hl⟩ => ⟨p, xs, e, s _ _ hp, DataL.same s hl⟩
  | .lst _, _, ⟨p, xs, e, hp, hl⟩ => ⟨p, xs, e, s _ _ hp, DataL.same s hl⟩
  | .dct, _, ⟨p, kvs, e, hp⟩ => ⟨p, kvs, e, s _ _ hp⟩
theorem DataL.same {H H' : Hp} (s : Same H H') : ∀ {l : List Th} {xs : List V}, DataL H l xs → DataL H' l xs
  | [], _, h => h
  | _ :: _, _, ⟨x, r, e, h1, h2⟩ => ⟨x, r, e, Data.same s h1, DataL.same s h2⟩
end
theorem DataL.len {H : Hp} : ∀ {l : List Th} {xs : List V}, DataL H l xs → xs.length = l.length
  | [], _, h => by rw [show _ = [] from h]; rfl
  | _ :: _, _, ⟨x, r, e, _, h2⟩ => by rw [e, List.length_cons, DataL.len h2]; rfl
theorem DataL.at {H : Hp} : ∀ {l : List Th} {xs : List V} {i : Nat} {v : V}, DataL H l xs → xs[i]? = some v → ∃ t, l[i]? = some t ∧ Data H t v
  | [], _, i, v, h, e => by rw [show _ = [] from h] at e; simp at e
  | t :: _, _, 0, v, ⟨x, r, e1, h1, _⟩, e => by subst e1; cases e; exact ⟨t, rfl, h1⟩
  | _ :: _, _, i + 1, v, ⟨x, r, e1, _, h2⟩, e => by subst e1; exact DataL.at (i := i) h2 (by simpa using e)
theorem DataL.get {H : Hp} {l : List Th} {xs : List V} {i : Nat} {t : Th} (h : DataL H l xs) (e : l[i]? = some t) : ∃ v, xs[i]? = some v ∧ Data H t v := by
  have hi : i < xs.length := by
    rw [h.len]
    exact (List.getElem?_eq_some_iff.mp e).1
  obtain ⟨t', e', hd⟩ := h.at (List.getElem?_eq_getElem hi)
  rw [e] at e'
  cases e'
  exact ⟨_, List.getElem?_eq_getElem hi, hd⟩
theorem DataL.drop {H : Hp} : ∀ {l : List Th} {xs : List V} (n : Nat), DataL H l xs → DataL H (l.drop n) (xs.drop n)
  | _, _, 0, h => h
  | [], _, n + 1, h => by rw [show _ = [] from h]; exact rfl
  | _ :: _, _, n + 1, ⟨x, r, e, _, h2⟩ => by subst e; exact DataL.drop n h2
theorem DataL.take {H : Hp} : ∀ {l : List Th} {xs : List V} (n : Nat), DataL H l xs → DataL H (l.take n) (xs.take n)
  | _, _, 0, _ => rfl
  | [], _, n + 1, h => by rw [show _ = [] from h]; exact rfl
  | _ :: _, _, n + 1, ⟨x, r, e, h1, h2⟩ => by subst e; exact ⟨x, _, rfl, h1, DataL.take n h2⟩
theorem DataL.snoc {H : Hp} {t : Th} {v : V} (h : Data H t v) : ∀ {l : List Th} {xs : List V}, DataL H l xs → DataL H (l ++ [t]) (xs ++ [v])
  | [], _, e => by rw [show _ = [] from e]; exact ⟨v, [], rfl, h, rfl⟩
  | _ :: _, _, ⟨x, r, e, h1, h2⟩ => by subst e; exact ⟨x, _, rfl, h1, DataL.snoc h h2⟩
mutual
/-- without dicts -/
def Th.flat : Th → Bool
  | .dct => false
  | .tup l => Th.flatL l
  | .lst l => Th.flatL l
  | _ => true
def Th.flatL : List Th → Bool
  | [] => true
  | t :: l => t.flat && Th.flatL l
end
mutual
def Th.py : Th → PyData
  | .non => .none
  | .bl b => .bool b
  | .int i => .int i
  | .str s => .str (SX.S s)
  | .tup l => .tuple (Th.pyL l)
  | .lst l => .list (Th.pyL l)
  | .dct => .none
def Th.pyL : List Th → List PyData
  | [] => []
  | t :: l => t.py :: Th.pyL l
end
mutual
theorem Data.dp {K : PySem.W.Frag} {H : Hp} : ∀ {t : Th} {v : V}, t.flat = true → Data H t v → Dp K H v t.py
  | .non, _, _, h => by rw [show _ = V.non from h]; exact .non
  | .bl _, _, _, h => by rw [show _ = V.bl _ from h]; exact .bl _
  | .int _, _, _, h => by rw [show _ = V.int _ from h]; exact .int _
  | .str _, _, _, h => by rw [show _ = V.str _ from h]; exact .str _
  | .tup l, _, f, ⟨p, xs, e, hp, hl⟩ => by rw [e]; exact .tup (SqT.of hp) (DataL.dp f hl)
  | .lst l, _, f, ⟨p, xs, e, hp, hl⟩ => by rw [e]; exact .lst (SqL.of hp) (DataL.dp f hl)
theorem DataL.dp {K : PySem.W.Frag} {H : Hp} : ∀ {l : List Th} {xs : List V}, Th.flatL l = true → DataL H l xs → DpAll K H xs (Th.pyL l)
  | [], _, _, h => by rw [show _ = [] from h]; exact .nil
  | t :: l, _, f, ⟨x, r, e, h1, h2⟩ => by
    have f' : t.flat = true ∧ Th.flatL l = true := by
      have : (t.flat && Th.flatL l) = true := f
      exact Bool.and_eq_true_iff.mp this
    rw [e]
    exact .cons (Data.dp f'.1 h1) (DataL.dp f'.2 h2)
end
/-! ### what is a name, a recipe -/
def nmOk (s : List Nat) : Bool := decide (1 ≤ s.length) && decide (s.length ≤ 8) && s.all fun c => decide (97 ≤ c) && decide (c ≤ 122)
theorem nmOk_iff {s : List Nat} : nmOk s = true ↔ Nm s := by
  unfold nmOk Nm
  simp only [Bool.and_eq_true, decide_eq_true_eq, List.all_eq_true]
  exact ⟨fun ⟨⟨a, b⟩, c⟩ => ⟨a, b, c⟩, fun ⟨a, b, c⟩ => ⟨⟨a, b⟩, c⟩⟩
def Th.isNm : Th → Bool
  | .str s => nmOk s
  | _ => false
def Th.areNms : Th → Bool
  | .tup l => decide (1 ≤ l.length) && decide (l.length ≤ 9) && l.all Th.isNm
  | _ => false
def Th.isInt : Th → Bool
  | .int _ => true
  | _ => false
def w_number : List Nat := [110, 117, 109, 98, 101, 114]
def w_read : List Nat := [114, 101, 97, 100]
def w_pick : List Nat := [112, 105, 99, 107]
def w_choose : List Nat := [99, 104, 111, 111, 115, 101]
def w_plus : List Nat := [112, 108, 117, 115]
def w_minus : List Nat := [109, 105, 110, 117, 115]
def w_times : List Nat := [116, 105, 109, 101, 115]
def w_most : List Nat := [109, 111, 115, 116]
def twos : List (List Nat) := [w_plus, w_minus, w_times, w_most]
/-- the parts of a thing that has a recipe's form -/
def formParts (k : List Nat) (l : List Th) : Option (List Th) :=
  if k = w_number then (if l.length = 1 ∧ (l.headD .non).isInt = true then some [] else none)
  else if k = w_read then (if l.length = 1 ∧ (l.headD .non).isNm = true then some [] else none)
  else if k ∈ twos then (if l.length = 2 then some l else none)
  else if k = w_pick then (if l.length = 3 then some l else none)
  else if k = w_choose then (if l.length = 2 ∧ (l.getD 1 .non).areNms = true then some (l.take 1) else none)
  else none
def Th.parts : Th → Option (List Th)
  | .tup (.str k :: l) => formParts k l
  | _ => none
/-- all well formed, n deep at most -/
def Th.okay : Nat → Th → Bool
  | 0, _ => false
  | n + 1, t => match t.parts with
    | none => false
    | some ps => ps.all (Th.okay n)
def Th.count : Nat → Th → Nat
  | 0, _ => 1
  | n + 1, t => match t.parts with
    | none => 1
    | some ps => 1 + (ps.map (Th.count n)).sum
def Th.isRcp (t : Th) : Bool := t.okay 8 && decide (t.count 8 ≤ 100)
theorem count_pos : ∀ (n : Nat) (t : Th), 1 ≤ t.count n
  | 0, _ => Nat.le_refl _
  | n + 1, t => by
    unfold Th.count
    cases t.parts with
    | none => exact Nat.le_refl _
    | some ps => exact Nat.le_add_right _ _
theorem parts_tup {t : Th} {ps : List Th} (h : t.parts = some ps) : ∃ k l, t = .tup (.str k :: l) := by
  unfold Th.parts at h
  split at h
  · exact ⟨_, _, rfl⟩
  · cases h
/-- what the walk may meet: texts of ASCII signs, not too long; names without dicts -/
def tameS (s : List Nat) : Bool := decide (s.length ≤ 1000000) && s.all fun c => decide (c < 128)
def namesTame : List Th → Bool
  | [.str k, _, .tup m] => !decide (k = w_choose) || (Th.flatL m && SeqAt.shaped (.list (Th.pyL m)))
  | _ => true
mutual
def Th.tame : Th → Bool
  | .str s => tameS s
  | .tup l => Th.tameL l && decide (l.length ≤ 1000000) && namesTame l
  | _ => true
def Th.tameL : List Th → Bool
  | [] => true
  | t :: l => t.tame && Th.tameL l
end
theorem tameL_mem : ∀ {l : List Th}, Th.tameL l = true → ∀ t ∈ l, t.tame = true
  | [], _, t, h => by cases h
  | a :: l, f, t, h => by
    have f' : (a.tame && Th.tameL l) = true := f
    rw [Bool.and_eq_true] at f'
    rcases List.mem_cons.mp h with h | h
    · rw [h]; exact f'.1
    · exact tameL_mem f'.2 t h
theorem flatL_mem : ∀ {l : List Th}, Th.flatL l = true → ∀ t ∈ l, t.flat = true
  | [], _, t, h => by cases h
  | a :: l, f, t, h => by
    have f' : (a.flat && Th.flatL l) = true := f
    rw [Bool.and_eq_true] at f'
    rcases List.mem_cons.mp h with h | h
    · rw [h]; exact f'.1
    · exact flatL_mem f'.2 t h
theorem flatL_filter (p : Th → Bool) : ∀ {l : List Th}, Th.flatL l = true → Th.flatL (l.filter p) = true
  | [], _ => rfl
  | a :: l, f => by
    have f' : (a.flat && Th.flatL l) = true := f
    rw [Bool.and_eq_true] at f'
    rw [List.filter_cons]
    split
    · show (a.flat && Th.flatL (l.filter p)) = true
      rw [f'.1, flatL_filter p f'.2]; rfl
    · exact flatL_filter p f'.2
theorem shaped_parts {ds : List PyData} : SeqAt.shaped (.list ds) = true ↔ PyData.canLayAll0 ds = true ∧ PyData.depthAll ds + 1 ≤ 64 := by
  show (PyData.canLayAll0 ds && decide (PyData.depthAll ds + 1 ≤ 64)) = true ↔ _
  rw [Bool.and_eq_true, decide_eq_true_eq]
theorem py_filter (p : Th → Bool) : ∀ (l : List Th), PyData.canLayAll0 (Th.pyL l) = true → PyData.canLayAll0 (Th.pyL (l.filter p)) = true ∧ PyData.depthAll (Th.pyL (l.filter p)) ≤ PyData.depthAll (Th.pyL l)
  | [], _ => ⟨rfl, Nat.le_refl _⟩
  | a :: l, f => by
    have f' : (a.py.canLay0 && PyData.canLayAll0 (Th.pyL l)) = true := f
    rw [Bool.and_eq_true] at f'
    have ih := py_filter p l f'.2
    rw [List.filter_cons]
    split
    · refine ⟨?_, ?_⟩
      · show (a.py.canLay0 && PyData.canLayAll0 (Th.pyL (l.filter p))) = true
        rw [f'.1, ih.1]; rfl
      · show max a.py.depth (PyData.depthAll (Th.pyL (l.filter p))) ≤ max a.py.depth (PyData.depthAll (Th.pyL l))
        omega
    · refine ⟨ih.1, ?_⟩
      show _ ≤ max a.py.depth (PyData.depthAll (Th.pyL l))
      omega
theorem shaped_filter (p : Th → Bool) {l : List Th} (h : SeqAt.shaped (.list (Th.pyL l)) = true) : SeqAt.shaped (.list (Th.pyL (l.filter p))) = true := by
  rw [shaped_parts] at h ⊢
  have := py_filter p l h.1
  exact ⟨this.1, by omega⟩
def Th.tyName : Th → String
  | .non => "NoneType" | .bl _ => "bool" | .int _ => "int" | .str _ => "str" | .tup _ => "tuple" | .lst _ => "list" | .dct => "dict"
theorem Data.ty {K : PySem.W.Frag} {H : Hp} : ∀ {t : Th} {v : V}, Data H t v → TyX K H v (.type t.tyName)
  | .non, _, h => by rw [show _ = V.non from h]; exact .base .non
  | .bl _, _, h => by rw [show _ = V.bl _ from h]; exact .base (.bl _)
  | .int _, _, h => by rw [show _ = V.int _ from h]; exact .base (.int _)
  | .str _, _, h => by rw [show _ = V.str _ from h]; exact .base (.str _)
  | .tup l, _, ⟨p, xs, e, hp, hl⟩ => by rw [e]; exact .base (.tup hp)
  | .lst l, _, ⟨p, xs, e, hp, hl⟩ => by rw [e]; exact .base (.lst hp)
  | .dct, _, ⟨p, kvs, e, hp⟩ => by rw [e]; exact .base (.dK hp)
def Th.isTup : Th → Bool
  | .tup _ => true
  | _ => false
def Th.isStr : Th → Bool
  | .str _ => true
  | _ => false
def Th.isBl : Th → Bool
  | .bl _ => true
  | _ => false
def Th.isIntB : Th → Bool
  | .bl _ => true
  | .int _ => true
  | _ => false
theorem kit_tup {K : PySem.W.Frag} : ∀ t : Th, PySem.W.kitOne K (.type t.tyName) (.type "tuple") = some t.isTup
  | .non => kit_ty (show kitB "NoneType" "tuple" = some false by decide +kernel)
  | .bl _ => kit_ty (show kitB "bool" "tuple" = some false by decide +kernel)
  | .int _ => kit_ty (show kitB "int" "tuple" = some false by decide +kernel)
  | .str _ => kit_ty (show kitB "str" "tuple" = some false by decide +kernel)
  | .tup _ => kit_ty (show kitB "tuple" "tuple" = some true by decide +kernel)
  | .lst _ => kit_ty (show kitB "list" "tuple" = some false by decide +kernel)
  | .dct => kit_ty (show kitB "dict" "tuple" = some false by decide +kernel)
theorem kit_str {K : PySem.W.Frag} : ∀ t : Th, PySem.W.kitOne K (.type t.tyName) (.type "str") = some t.isStr
  | .non => kit_ty (show kitB "NoneType" "str" = some false by decide +kernel)
  | .bl _ => kit_ty (show kitB "bool" "str" = some false by decide +kernel)
  | .int _ => kit_ty (show kitB "int" "str" = some false by decide +kernel)
  | .str _ => kit_ty (show kitB "str" "str" = some true by decide +kernel)
  | .tup _ => kit_ty (show kitB "tuple" "str" = some false by decide +kernel)
  | .lst _ => kit_ty (show kitB "list" "str" = some false by decide +kernel)
  | .dct => kit_ty (show kitB "dict" "str" = some false by decide +kernel)
theorem kit_int {K : PySem.W.Frag} : ∀ t : Th, PySem.W.kitOne K (.type t.tyName) (.type "int") = some t.isIntB
  | .non => kit_ty (show kitB "NoneType" "int" = some false by decide +kernel)
  | .bl _ => kit_ty (show kitB "bool" "int" = some true by decide +kernel)
  | .int _ => kit_ty (show kitB "int" "int" = some true by decide +kernel)
  | .str _ => kit_ty (show kitB "str" "int" = some false by decide +kernel)
  | .tup _ => kit_ty (show kitB "tuple" "int" = some false by decide +kernel)
  | .lst _ => kit_ty (show kitB "list" "int" = some false by decide +kernel)
  | .dct => kit_ty (show kitB "dict" "int" = some false by decide +kernel)
theorem kit_bl {K : PySem.W.Frag} : ∀ t : Th, PySem.W.kitOne K (.type t.tyName) (.type "bool") = some t.isBl
  | .non => kit_ty (show kitB "NoneType" "bool" = some false by decide +kernel)
  | .bl _ => kit_ty (show kitB "bool" "bool" = some true by decide +kernel)
  | .int _ => kit_ty (show kitB "int" "bool" = some false by decide +kernel)
  | .str _ => kit_ty (show kitB "str" "bool" = some false by decide +kernel)
  | .tup _ => kit_ty (show kitB "tuple" "bool" = some false by decide +kernel)
  | .lst _ => kit_ty (show kitB "list" "bool" = some false by decide +kernel)
  | .dct => kit_ty (show kitB "dict" "bool" = some false by decide +kernel)
theorem isInt_is (t : Th) : (t.isIntB && !t.isBl) = t.isInt := by cases t <;> rfl
/-- a comprehension over a text -/
theorem lcS {z : Str} {g : TG} {tt : TT} {te : TE} {vs : List Nat} {σ : L2.St} {H1 : Hp} {D : Addr} {Qd : Hp → Prop} (Pv : Nat → Hp → Prop)
    (h0 : Pv 0 (upd H1 D (.lst [])))
    (hs : ∀ i c H, z.cps[i]? = some c → Pv i H → g (.str ⟨#[c]⟩) (wipe σ vs) H
      fun σ2 H2 => wipe σ2 vs = wipe σ vs ∧ tt σ2 H2
        fun b H3 => if b = true then te σ2 H3
          fun y H4 => ∃ acc, H4 D = some (.lst acc) ∧ acc.length < sizeLine ∧ Pv (i + 1) (upd H4 D (.lst (acc ++ [y])))
        else Pv (i + 1) H3)
    (hd : ∀ H, Pv z.cps.size H → Qd H) :
    ∃ W : Nat → Nat → Hp → Prop, (∃ m, W 0 m (upd H1 D (.lst []))) ∧
      ∀ i m H, W i m H → ((Its z).stop i H ∧ Qd H) ∨ ((Its z).go i H ∧
        ∃ Nx : Hp → Prop, (∀ H', Nx H' → ∃ m', m' < m ∧ W (i + 1) m' H') ∧
          ∀ x H', (Its z).yld i H x H' → g x (wipe σ vs) H'
            fun σ2 H2 => wipe σ2 vs = wipe σ vs ∧ tt σ2 H2
              fun b H3 => if b = true then te σ2 H3
                fun y H4 => ∃ acc, H4 D = some (.lst acc) ∧ acc.length < sizeLine ∧ Nx (upd H4 D (.lst (acc ++ [y])))
              else Nx H3) := by
  refine ⟨fun i m H => m = z.cps.size - i ∧ i ≤ z.cps.size ∧ Pv i H, ⟨z.cps.size, rfl, Nat.zero_le _, h0⟩, fun i m H w => ?_⟩
  obtain ⟨em, hi, p⟩ := w
  by_cases hlt : i < z.cps.size
  · refine Or.inr ⟨hlt, Pv (i + 1), fun H' p' => ⟨z.cps.size - (i + 1), by omega, rfl, hlt, p'⟩, fun x H' y => ?_⟩
    obtain ⟨e1, c, e2, e3⟩ := y
    rw [e1, e3]
    exact hs i c H e2 p
  · have e : i = z.cps.size := by omega
    rw [e] at p
    exact Or.inl ⟨by show z.cps.size ≤ i; omega, hd H p⟩
/-- a list of data against a new empty one -/
theorem eqv_nil (l : List Th) : PyData.eqv (.list (Th.pyL l)) (.list []) = l.isEmpty := by cases l <;> rfl
theorem kw {k : List Nat} {w : List Nat} {lit : Str} (h : lit = SX.S w) : V.str (SX.S k) = V.str lit ↔ k = w := by
  rw [h]
  exact ⟨fun e => SX.S_inj (by cases e; rfl), fun e => by rw [e]⟩
theorem q_number : ("number" : Str) = SX.S w_number := by decide +kernel
theorem q_read : ("read" : Str) = SX.S w_read := by decide +kernel
theorem q_pick : ("pick" : Str) = SX.S w_pick := by decide +kernel
theorem q_choose : ("choose" : Str) = SX.S w_choose := by decide +kernel
theorem q_plus : ("plus" : Str) = SX.S w_plus := by decide +kernel
theorem q_minus : ("minus" : Str) = SX.S w_minus := by decide +kernel
theorem q_times : ("times" : Str) = SX.S w_times := by decide +kernel
theorem q_most : ("most" : Str) = SX.S w_most := by decide +kernel
theorem in_twos (k : List Nat) : inV (.str (SX.S k)) [.str "plus", .str "minus", .str "times", .str "most"] = decide (k ∈ twos) := by
  rw [q_plus, q_minus, q_times, q_most]
  have e : ∀ w : List Nat, (SX.S w == SX.S k) = decide (k = w) := fun w => by
    rw [SX.S_beq_eq]
    exact decide_eq_decide.mpr ⟨Eq.symm, Eq.symm⟩
  show ((SX.S w_plus == SX.S k) || ((SX.S w_minus == SX.S k) || ((SX.S w_times == SX.S k) || ((SX.S w_most == SX.S k) || false)))) = _
  rw [e, e, e, e]
  unfold twos
  simp only [List.mem_cons, List.not_mem_nil, or_false]
  simp [Bool.decide_or]
theorem num_parts (k : List Nat) (h : k = w_number) (t1 : Th) : (t1.isInt = true → formParts k [t1] = some []) ∧ (t1.isInt = false → formParts k [t1] = none) := by
  unfold formParts
  rw [if_pos h]
  exact ⟨fun z => if_pos ⟨rfl, z⟩, fun z => if_neg fun y => by rw [show ([t1] : List Th).headD .non = t1 from rfl, z] at y; cases y.2⟩
theorem read_parts (k : List Nat) (h1 : k ≠ w_number) (h : k = w_read) (t1 : Th) : (t1.isNm = true → formParts k [t1] = some []) ∧ (t1.isNm = false → formParts k [t1] = none) := by
  unfold formParts
  rw [if_neg h1, if_pos h]
  exact ⟨fun z => if_pos ⟨rfl, z⟩, fun z => if_neg fun y => by rw [show ([t1] : List Th).headD .non = t1 from rfl, z] at y; cases y.2⟩
theorem one_none (k : List Nat) (h1 : k ≠ w_number) (h2 : k ≠ w_read) (t1 : Th) : formParts k [t1] = none := by
  unfold formParts
  rw [if_neg h1, if_neg h2]
  simp
theorem twos_parts (k : List Nat) (h : k ∈ twos) (t1 t2 : Th) : formParts k [t1, t2] = some [t1, t2] := by
  have n1 : k ≠ w_number := fun z => by rw [z] at h; revert h; decide
  have n2 : k ≠ w_read := fun z => by rw [z] at h; revert h; decide
  unfold formParts
  rw [if_neg n1, if_neg n2, if_pos h]
  rfl
theorem choose_parts (k : List Nat) (h : k = w_choose) (t1 t2 : Th) : (t2.areNms = true → formParts k [t1, t2] = some [t1]) ∧ (t2.areNms = false → formParts k [t1, t2] = none) := by
  have n1 : k ≠ w_number := by rw [h]; decide
  have n2 : k ≠ w_read := by rw [h]; decide
  have n3 : ¬ k ∈ twos := by rw [h]; decide
  have n4 : k ≠ w_pick := by rw [h]; decide
  unfold formParts
  rw [if_neg n1, if_neg n2, if_neg n3, if_neg n4, if_pos h]
  exact ⟨fun z => if_pos ⟨rfl, z⟩, fun z => if_neg fun y => by rw [show ([t1, t2] : List Th).getD 1 .non = t2 from rfl, z] at y; cases y.2⟩
theorem two_none (k : List Nat) (h1 : ¬ k ∈ twos) (h2 : k ≠ w_choose) (t1 t2 : Th) : formParts k [t1, t2] = none := by
  unfold formParts
  rw [if_neg h1, if_neg h2]
  simp
theorem pick_parts (k : List Nat) (h : k = w_pick) (t1 t2 t3 : Th) : formParts k [t1, t2, t3] = some [t1, t2, t3] := by
  have n1 : k ≠ w_number := by rw [h]; decide
  have n2 : k ≠ w_read := by rw [h]; decide
  have n3 : ¬ k ∈ twos := by rw [h]; decide
  unfold formParts
  rw [if_neg n1, if_neg n2, if_neg n3, if_pos h]
  rfl
theorem three_none (k : List Nat) (h1 : k ≠ w_pick) (t1 t2 t3 : Th) : formParts k [t1, t2, t3] = none := by
  unfold formParts
  rw [if_neg h1]
  simp
/-! ### recipes as things -/
def Kd.word : Kd → List Nat
  | .plus => w_plus | .minus => w_minus | .times => w_times | .most => w_most
theorem kd_word (k : Kd) : k.name = SX.S k.word := by cases k <;> decide +kernel
theorem kd_twos (k : Kd) : k.word ∈ twos := by cases k <;> decide
def nmsTh (ns : List (List Nat)) : List Th := ns.map Th.str
def Rcp.tail : Rcp → List Th × List Nat
  | .num n => ([.int n], w_number)
  | .read s => ([.str s], w_read)
  | _ => ([], [])
def Rcp.th : Rcp → Th
  | .num n => .tup [.str w_number, .int n]
  | .read s => .tup [.str w_read, .str s]
  | .two k a b => .tup [.str k.word, a.th, b.th]
  | .pick a b c => .tup [.str w_pick, a.th, b.th, c.th]
  | .choose a ns => .tup [.str w_choose, a.th, .tup (nmsTh ns)]
theorem nms_data (H : Hp) : ∀ ns : List (List Nat), DataL H (nmsTh ns) (txs ns)
  | [] => rfl
  | s :: ns => ⟨_, _, rfl, rfl, nms_data H ns⟩
theorem Rec.data {H : Hp} : ∀ {r : Rcp} {v : V}, Rec H r v → Data H r.th v
  | .num n, v, ⟨p, e, h⟩ => ⟨p, _, e, h, _, _, rfl, congrArg V.str q_number, _, _, rfl, rfl, rfl⟩
  | .read s, v, ⟨p, e, h⟩ => ⟨p, _, e, h, _, _, rfl, congrArg V.str q_read, _, _, rfl, rfl, rfl⟩
  | .two k a b, v, ⟨p, x, y, e, h, ra, rb⟩ => ⟨p, _, e, h, _, _, rfl, congrArg V.str (kd_word k), _, _, rfl, ra.data, _, _, rfl, rb.data, rfl⟩
  | .pick a b c, v, ⟨p, x, y, z, e, h, ra, rb, rc⟩ => ⟨p, _, e, h, _, _, rfl, congrArg V.str q_pick, _, _, rfl, ra.data, _, _, rfl, rb.data, _, _, rfl, rc.data, rfl⟩
  | .choose a ns, v, ⟨p, x, q, e, h, ra, hq⟩ => ⟨p, _, e, h, _, _, rfl, congrArg V.str q_choose, _, _, rfl, ra.data, _, _, rfl, ⟨q, _, rfl, hq, nms_data H ns⟩, rfl⟩
theorem Nm.tame {s : List Nat} (h : Nm s) : tameS s = true := by
  unfold tameS
  rw [Bool.and_eq_true, decide_eq_true_eq, List.all_eq_true]
  refine ⟨by have := h.2.1; omega, fun c hc => decide_eq_true ?_⟩
  have := h.2.2 c hc
  omega
theorem Nms.flat : ∀ {ns : List (List Nat)}, Th.flatL (nmsTh ns) = true
  | [] => rfl
  | s :: ns => by show (true && Th.flatL (nmsTh ns)) = true; rw [Nms.flat]; rfl
theorem nms_py : ∀ {ns : List (List Nat)}, (∀ s ∈ ns, Nm s) → PyData.canLayAll0 (Th.pyL (nmsTh ns)) = true ∧ PyData.depthAll (Th.pyL (nmsTh ns)) = 0
  | [], _ => ⟨rfl, rfl⟩
  | s :: ns, h => by
    have ih := nms_py (ns := ns) fun x hx => h x (List.mem_cons_of_mem _ hx)
    refine ⟨?_, ?_⟩
    · show ((SX.S s).cps.all (· < 0x110000) && PyData.canLayAll0 (Th.pyL (nmsTh ns))) = true
      rw [ih.1, Bool.and_true]
      have hs := (h s (List.mem_cons_self ..)).2.2
      rw [← Array.all_toList, List.all_eq_true]
      intro c hc
      have := hs c hc
      exact decide_eq_true (by omega)
    · show max 0 (PyData.depthAll (Th.pyL (nmsTh ns))) = 0
      rw [ih.2]
      rfl
theorem Nms.shaped {ns : List (List Nat)} (h : ∀ s ∈ ns, Nm s) : SeqAt.shaped (.list (Th.pyL (nmsTh ns))) = true := by
  rw [shaped_parts, (nms_py h).1, (nms_py h).2]
  exact ⟨rfl, by decide⟩
theorem nms_tame : ∀ {ns : List (List Nat)}, (∀ s ∈ ns, Nm s) → Th.tameL (nmsTh ns) = true
  | [], _ => rfl
  | s :: ns, h => by
    show (tameS s && Th.tameL (nmsTh ns)) = true
    rw [(h s (List.mem_cons_self ..)).tame, nms_tame fun x hx => h x (List.mem_cons_of_mem _ hx)]
    rfl
theorem tame_tup {l : List Th} (h : Th.tameL l = true) (hl : l.length ≤ 1000000) (hn : namesTame l = true) : (Th.tup l).tame = true := by
  show (Th.tameL l && decide (l.length ≤ 1000000) && namesTame l) = true
  rw [h, hn, decide_eq_true hl]
  rfl
theorem namesTame3 {k : List Nat} (hk : k ≠ w_choose) (a b : Th) : namesTame [.str k, a, b] = true := by
  cases b with
  | tup m => show (!decide (k = w_choose) || _) = true; rw [decide_eq_false hk]; rfl
  | _ => rfl
theorem namesTame4 (a b c d : Th) (r : List Th) : namesTame (a :: b :: c :: d :: r) = true := by cases a <;> cases c <;> rfl
theorem namesTame2 (a b : Th) : namesTame [a, b] = true := by cases a <;> rfl
theorem namesTameC {k : List Nat} {m : List Th} (a : Th) (h1 : Th.flatL m = true) (h2 : SeqAt.shaped (.list (Th.pyL m)) = true) : namesTame [.str k, a, .tup m] = true := by
  show (!decide (k = w_choose) || (Th.flatL m && SeqAt.shaped (.list (Th.pyL m)))) = true
  rw [h1, h2]; simp
theorem kd_nochoose (k : Kd) : k.word ≠ w_choose := by cases k <;> decide
theorem nms_names_tame {ns : List (List Nat)} (h : Nms ns) : (Th.tup (nmsTh ns)).tame = true := by
  refine tame_tup (nms_tame h.2.2) ?_ ?_
  · unfold nmsTh; rw [List.length_map]; have := h.2.1; omega
  · match ns with
    | [] => rfl
    | [a] => rfl
    | [a, b] => rfl
    | [a, b, c] => rfl
    | a :: b :: c :: d :: r => rfl
theorem Rcp.tame : ∀ {r : Rcp}, r.Good → r.th.tame = true
  | .num n, _ => tame_tup (by show (tameS w_number && (true && true)) = true; decide) (Nat.le_of_ble_eq_true rfl) rfl
  | .read s, h => tame_tup (by show (tameS w_read && (tameS s && true)) = true; rw [Nm.tame h]; decide) (Nat.le_of_ble_eq_true rfl) rfl
  | .two k a b, h => by
    refine tame_tup ?_ (Nat.le_of_ble_eq_true rfl) (namesTame3 (kd_nochoose k) _ _)
    show (tameS k.word && (a.th.tame && (b.th.tame && true))) = true
    rw [Rcp.tame h.1, Rcp.tame h.2]
    cases k <;> decide
  | .pick a b c, h => by
    refine tame_tup ?_ (Nat.le_of_ble_eq_true rfl) (namesTame4 _ _ _ _ _)
    show (tameS w_pick && (a.th.tame && (b.th.tame && (c.th.tame && true)))) = true
    rw [Rcp.tame h.1, Rcp.tame h.2.1, Rcp.tame h.2.2]
    decide
  | .choose a ns, h => by
    refine tame_tup ?_ (Nat.le_of_ble_eq_true rfl) (namesTameC _ Nms.flat (Nms.shaped h.2.2.2))
    show (tameS w_choose && (a.th.tame && ((Th.tup (nmsTh ns)).tame && true))) = true
    rw [Rcp.tame h.1, nms_names_tame h.2]
    decide
theorem nms_are {ns : List (List Nat)} (h : Nms ns) : (Th.tup (nmsTh ns)).areNms = true := by
  show (decide (1 ≤ (nmsTh ns).length) && decide ((nmsTh ns).length ≤ 9) && (nmsTh ns).all Th.isNm) = true
  have hl : (nmsTh ns).length = ns.length := List.length_map _
  rw [hl, decide_eq_true h.1, decide_eq_true h.2.1]
  show (nmsTh ns).all Th.isNm = true
  rw [List.all_eq_true]
  intro t ht
  obtain ⟨s, hs, rfl⟩ := List.mem_map.mp ht
  exact nmOk_iff.mpr (h.2.2 s hs)
def Rcp.subs : Rcp → List Rcp
  | .num _ => []
  | .read _ => []
  | .two _ a b => [a, b]
  | .pick a b c => [a, b, c]
  | .choose a _ => [a]
theorem Rcp.parts_th : ∀ {r : Rcp}, r.Good → r.th.parts = some (r.subs.map Rcp.th)
  | .num n, _ => (num_parts _ rfl _).1 rfl
  | .read s, h => (read_parts _ (by decide) rfl _).1 (nmOk_iff.mpr h)
  | .two k a b, _ => twos_parts _ (kd_twos k) _ _
  | .pick a b c, _ => pick_parts _ rfl _ _ _
  | .choose a ns, h => (choose_parts _ rfl _ _).1 (nms_are h.2)
theorem Rcp.subs_good : ∀ {r : Rcp}, r.Good → ∀ x ∈ r.subs, x.Good ∧ x.dep + 1 ≤ r.dep
  | .num n, _, x, hx => by cases hx
  | .read s, h, x, hx => by cases hx
  | .two k a b, h, x, hx => by
    have e : (Rcp.two k a b).dep = max a.dep b.dep + 1 := rfl
    simp only [Rcp.subs, List.mem_cons, List.not_mem_nil, or_false] at hx
    rcases hx with rfl | rfl
    · exact ⟨h.1, by omega⟩
    · exact ⟨h.2, by omega⟩
  | .pick a b c, h, x, hx => by
    have e : (Rcp.pick a b c).dep = max a.dep (max b.dep c.dep) + 1 := rfl
    simp only [Rcp.subs, List.mem_cons, List.not_mem_nil, or_false] at hx
    rcases hx with rfl | rfl | rfl
    · exact ⟨h.1, by omega⟩
    · exact ⟨h.2.1, by omega⟩
    · exact ⟨h.2.2, by omega⟩
  | .choose a ns, h, x, hx => by
    have e : (Rcp.choose a ns).dep = a.dep + 1 := rfl
    rw [List.mem_singleton.mp hx]
    exact ⟨h.1, by omega⟩
theorem Rcp.siz_subs : ∀ r : Rcp, r.siz = 1 + (r.subs.map Rcp.siz).sum
  | .num _ => rfl
  | .read _ => rfl
  | .two _ a b => by show a.siz + b.siz + 1 = 1 + (a.siz + (b.siz + 0)); omega
  | .pick a b c => by show a.siz + b.siz + c.siz + 1 = 1 + (a.siz + (b.siz + (c.siz + 0))); omega
  | .choose a _ => by show a.siz + 1 = 1 + (a.siz + 0); omega
theorem Rcp.okay : ∀ (n : Nat) {r : Rcp}, r.Good → r.dep ≤ n → r.th.okay n = true ∧ r.th.count n = r.siz
  | 0, r, _, h => by have := dep_pos r; omega
  | n + 1, r, hg, h => by
    have hp := r.parts_th hg
    have hs := r.subs_good hg
    refine ⟨?_, ?_⟩
    · show (match r.th.parts with | none => false | some ps => ps.all (Th.okay n)) = true
      rw [hp]
      show (r.subs.map Rcp.th).all (Th.okay n) = true
      rw [List.all_map, List.all_eq_true]
      intro x hx
      exact (Rcp.okay n (hs x hx).1 (by have := (hs x hx).2; omega)).1
    · show (match r.th.parts with | none => 1 | some ps => 1 + (ps.map (Th.count n)).sum) = r.siz
      rw [hp, Rcp.siz_subs r]
      show 1 + ((r.subs.map Rcp.th).map (Th.count n)).sum = _
      rw [List.map_map]
      congr 2
      exact List.map_congr_left fun x hx => (Rcp.okay n (hs x hx).1 (by have := (hs x hx).2; omega)).2
theorem Rcp.isRcp {r : Rcp} (hg : r.Good) (hd : r.dep ≤ 8) (hs : r.siz ≤ 100) : r.th.isRcp = true := by
  unfold Th.isRcp
  rw [(Rcp.okay 8 hg hd).1, (Rcp.okay 8 hg hd).2, decide_eq_true hs]
  rfl
/-! ### texts of recipes -/
def Kd.sign : Kd → Nat
  | .plus => 43 | .minus => 45 | .times => 42 | .most => 94
def Kd.signS : Kd → Str
  | .plus => " + " | .minus => " - " | .times => " * " | .most => " ^ "
def intL (n : Int) : List Nat := (Str.ofString (toString n)).cps.toList
theorem intL_S (n : Int) : Str.ofString (toString n) = SX.S (intL n) := (SX.S_tl _).symm
def Rcp.txt : Rcp → List Nat
  | .num n => intL n
  | .read s => s
  | .two k a b => 40 :: (a.txt ++ (32 :: k.sign :: 32 :: (b.txt ++ [41])))
  | .pick a b c => 91 :: (a.txt ++ (32 :: 63 :: 32 :: (b.txt ++ (32 :: 58 :: 32 :: (c.txt ++ [93])))))
  | .choose a ns => a.txt ++ (123 :: (TL.joinL [44] ns ++ [125]))
theorem intL_len {n : Int} (h : n.natAbs < 10 ^ 40) : (intL n).length ≤ 41 := by
  have z : ∀ m : Int, 0 ≤ m → m.natAbs < 10 ^ 40 → (Str.ofString (toString m)).length ≤ 40 := fun m m0 hm => by
    refine PyProof.Rows.toString_length_le m0 (by decide) ?_
    have e : (m.natAbs : Int) = m := Int.natAbs_of_nonneg m0
    rw [← e]
    exact Int.ofNat_lt.mpr hm
  have e : (intL n).length = (Str.ofString (toString n)).length := by
    rw [intL_S n, SX.S_len]
  rw [e]
  by_cases h0 : 0 ≤ n
  · exact Nat.le_succ_of_le (z n h0 h)
  · rw [PyProof.Rows.len_text_neg (by omega)]
    have := z (0 - n) (by omega) (by rw [show (0 - n).natAbs = n.natAbs by omega]; exact h)
    omega
theorem joinL_len : ∀ {ns : List (List Nat)} (m : Nat), (∀ s ∈ ns, s.length ≤ m) → (TL.joinL [44] ns).length ≤ (m + 1) * ns.length
  | [], _, _ => Nat.zero_le _
  | [p], m, h => by
    have := h p (by simp)
    show p.length ≤ _
    simp; omega
  | p :: q :: r, m, h => by
    have h1 := h p (by simp)
    have h2 := joinL_len (ns := q :: r) m fun s hs => h s (List.mem_cons_of_mem _ hs)
    have e : (TL.joinL [44] (p :: q :: r)).length = p.length + (1 + (TL.joinL [44] (q :: r)).length) := by
      show (p ++ ([44] ++ TL.joinL [44] (q :: r))).length = _
      rw [List.length_append, List.length_append]
      rfl
    have e2 : (m + 1) * (p :: q :: r).length = (m + 1) * (q :: r).length + (m + 1) := Nat.mul_succ _ _
    rw [e, e2]
    omega
theorem names_len {ns : List (List Nat)} (h : Nms ns) : (TL.joinL [44] ns).length ≤ 81 := by
  have := joinL_len 8 fun s hs => (h.2.2 s hs).2.1
  have := h.2.1
  omega
theorem names_sum : ∀ {ns : List (List Nat)}, (∀ s ∈ ns, Nm s) → ((ns.map SX.S).map (·.length)).sum ≤ 8 * ns.length
  | [], _ => Nat.zero_le _
  | p :: r, h => by
    have h1 := (h p (by simp)).2.1
    have h2 := names_sum (ns := r) fun s hs => h s (List.mem_cons_of_mem _ hs)
    rw [List.map_cons, List.map_cons, List.sum_cons, SX.S_len, List.length_cons]
    omega
theorem txt_len : ∀ {r : Rcp}, r.Good → r.txt.length ≤ 100 * r.siz
  | .num n, h => by
    have := intL_len h
    show (intL n).length ≤ 100
    omega
  | .read s, h => by
    have := h.2.1
    show s.length ≤ 100
    omega
  | .two k a b, h => by
    have h1 := txt_len h.1
    have h2 := txt_len h.2
    simp only [Rcp.txt, Rcp.siz, List.length_cons, List.length_append, List.length_nil]
    omega
  | .pick a b c, h => by
    have h1 := txt_len h.1
    have h2 := txt_len h.2.1
    have h3 := txt_len h.2.2
    simp only [Rcp.txt, Rcp.siz, List.length_cons, List.length_append, List.length_nil]
    omega
  | .choose a ns, h => by
    have h1 := txt_len h.1
    have h2 := names_len h.2
    simp only [Rcp.txt, Rcp.siz, List.length_cons, List.length_append, List.length_nil]
    omega
theorem q_open : ("(" : Str) = SX.S [40] := by decide +kernel
theorem q_close : (")" : Str) = SX.S [41] := by decide +kernel
theorem q_lb : ("[" : Str) = SX.S [91] := by decide +kernel
theorem q_rb : ("]" : Str) = SX.S [93] := by decide +kernel
theorem q_lc : ("{" : Str) = SX.S [123] := by decide +kernel
theorem q_rc : ("}" : Str) = SX.S [125] := by decide +kernel
theorem q_ask : (" ? " : Str) = SX.S [32, 63, 32] := by decide +kernel
theorem q_col : (" : " : Str) = SX.S [32, 58, 32] := by decide +kernel
theorem q_blank : (" " : Str) = SX.S [32] := by decide +kernel
theorem q_comma : ("," : Str) = SX.S [44] := by decide +kernel
theorem q_sign (k : Kd) : k.signS = SX.S [32, k.sign, 32] := by cases k <;> decide +kernel
theorem kn_num (k : Kd) : ¬ V.str k.name = V.str "number" := by cases k <;> decide +kernel
theorem kn_read (k : Kd) : ¬ V.str k.name = V.str "read" := by cases k <;> decide +kernel
theorem kn_pick (k : Kd) : ¬ V.str k.name = V.str "pick" := by cases k <;> decide +kernel
theorem kn_choose (k : Kd) : ¬ V.str k.name = V.str "choose" := by cases k <;> decide +kernel
theorem log_small {n : Int} (h : n.natAbs < 10 ^ 40) : n.natAbs.log2 < 1920 := by
  by_cases z : n.natAbs = 0
  · rw [z]; decide
  · exact (Nat.log2_lt z).mpr (Nat.lt_trans h (by decide +kernel))
theorem Rcp.flat : ∀ r : Rcp, r.th.flat = true
  | .num _ => rfl
  | .read _ => rfl
  | .two _ a b => by
    show (true && (a.th.flat && (b.th.flat && true))) = true
    rw [Rcp.flat a, Rcp.flat b]; rfl
  | .pick a b c => by
    show (true && (a.th.flat && (b.th.flat && (c.th.flat && true)))) = true
    rw [Rcp.flat a, Rcp.flat b, Rcp.flat c]; rfl
  | .choose a ns => by
    show (true && (a.th.flat && (Th.flatL (nmsTh ns) && true))) = true
    rw [Rcp.flat a, Nms.flat]; rfl
theorem nm_lay {s : List Nat} (h : Nm s) : (PyData.str (SX.S s)).canLay0 = true := by
  have := (nms_py (ns := [s]) fun x hx => by rw [List.mem_singleton.mp hx]; exact h).1
  have z : ((PyData.str (SX.S s)).canLay0 && true) = true := this
  rw [Bool.and_true] at z
  exact z
theorem str_lay {s : List Nat} (h : ∀ c ∈ s, c < 128) : (PyData.str (SX.S s)).canLay0 = true := by
  show (SX.S s).cps.all (· < 0x110000) = true
  rw [← Array.all_toList, List.all_eq_true]
  intro c hc
  have := h c hc
  exact decide_eq_true (by omega)
theorem Rcp.lays : ∀ {r : Rcp}, r.Good → r.th.py.canLay0 = true ∧ r.th.py.depth ≤ r.dep
  | .num n, _ => ⟨by show ((PyData.str (SX.S w_number)).canLay0 && ((PyData.int n).canLay0 && true)) = true; rw [str_lay (by decide)]; rfl, by show max 0 (max 0 0) + 1 ≤ 1; decide⟩
  | .read s, h => ⟨by show ((PyData.str (SX.S w_read)).canLay0 && ((PyData.str (SX.S s)).canLay0 && true)) = true; rw [nm_lay h, str_lay (s := w_read) (by decide)]; rfl, by show max 0 (max 0 0) + 1 ≤ 1; decide⟩
  | .two k a b, h => by
    have h1 := Rcp.lays h.1
    have h2 := Rcp.lays h.2
    refine ⟨?_, ?_⟩
    · show ((PyData.str (SX.S k.word)).canLay0 && (a.th.py.canLay0 && (b.th.py.canLay0 && true))) = true
      rw [h1.1, h2.1, str_lay (s := k.word) (by cases k <;> decide)]
      rfl
    · show max 0 (max a.th.py.depth (max b.th.py.depth 0)) + 1 ≤ max a.dep b.dep + 1
      omega
  | .pick a b c, h => by
    have h1 := Rcp.lays h.1
    have h2 := Rcp.lays h.2.1
    have h3 := Rcp.lays h.2.2
    refine ⟨?_, ?_⟩
    · show ((PyData.str (SX.S w_pick)).canLay0 && (a.th.py.canLay0 && (b.th.py.canLay0 && (c.th.py.canLay0 && true)))) = true
      rw [h1.1, h2.1, h3.1, str_lay (s := w_pick) (by decide)]
      rfl
    · show max 0 (max a.th.py.depth (max b.th.py.depth (max c.th.py.depth 0))) + 1 ≤ max a.dep (max b.dep c.dep) + 1
      omega
  | .choose a ns, h => by
    have h1 := Rcp.lays h.1
    have h2 := nms_py h.2.2.2
    have h3 := dep_pos a
    refine ⟨?_, ?_⟩
    · show ((PyData.str (SX.S w_choose)).canLay0 && (a.th.py.canLay0 && (PyData.canLayAll0 (Th.pyL (nmsTh ns)) && true))) = true
      rw [h1.1, h2.1, str_lay (s := w_choose) (by decide)]
      rfl
    · show max 0 (max a.th.py.depth (max (PyData.depthAll (Th.pyL (nmsTh ns)) + 1) 0)) + 1 ≤ a.dep + 1
      rw [h2.2]
      omega
theorem Rcp.shaped {r : Rcp} (hg : r.Good) (hd : r.dep ≤ 60) : SeqAt.shaped r.th.py = true := by
  have h := Rcp.lays hg
  show (r.th.py.canLay0 && decide (r.th.py.depth ≤ 64)) = true
  rw [h.1, decide_eq_true (by omega)]
  rfl
theorem Rcp.eqv {r : Rcp} (hg : r.Good) : PyData.eqv r.th.py r.th.py = true := SeqAt.eqv_refl _ (Rcp.lays hg).1
/-! ### join with the heap's frame named, for comprehensions -/
def rJoinK (K : PySem.W.Frag) : V → List V → Hp → VK → Prop := fun x xs H Q => ∃ a p, ∃ ys : List Str, x = .str a ∧ xs = [.ref p] ∧ (SqL K H p (ys.map V.str) ∨ SqT K H p (ys.map V.str)) ∧ (ys.map (·.length)).sum + ys.length * a.length ≤ 16777216 ∧ Q (.str (Txt.join a ys)) H
theorem pe_joinK {X : Cx} {o e : Expr} {to te : TE} {K : PySem.W.Frag} {apos pos : Pos} (hK : X.K = K) (ho : PE X o to) (he : PE X e te) (hs : starEach [e] X.env = [(false, eval e X.env)] := by rfl) (hb : attributeBase o "join" X.env (eval o X.env) = eval o X.env := by rfl) (hl : (apos.endLine == pos.line) = true := by rfl) :
    PE X (.Call (.Attribute o "join" apos) [e] [] pos) (tM1 (rJoinK K) to te) := by
  subst hK
  exact pe_join ho he hs hb hl
theorem tcut_nat (ts : List (List Nat)) {a b : Nat} (h : a ≤ b) : cutV (txs ts) (some (a : Int)) (some (b : Int)) = txs ((ts.drop a).take (b - a)) := by
  rw [cut_nat _ h]
  unfold txs
  rw [← List.map_drop, ← List.map_take, ← List.map_drop, ← List.map_take]
theorem tcut_from (ts : List (List Nat)) {a : Nat} (h : a ≤ ts.length) : cutV (txs ts) (some (a : Int)) none = txs (ts.drop a) := by
  show ((txs ts).drop (HT.sIx (txs ts).length 0 (some (a : Int)))).take (HT.sIx (txs ts).length (txs ts).length none - HT.sIx (txs ts).length 0 (some (a : Int))) = _
  rw [HT.sIx_nat, HT.sIx_none, txs_len, Nat.min_eq_left h, List.take_of_length_le (by rw [List.length_drop, txs_len]; exact Nat.le_refl _)]
  unfold txs
  rw [← List.map_drop, ← List.map_drop]
/-! ### the pools that laws draw from: a dict of rest, mixed, count -/
def kT (s : Str) : Key := Sum.inr s
def pool (r : Int) (m : Bool) (c : Int) : List (Key × V) := [(kT "rest", .int r), (kT "mixed", .bl m), (kT "count", .int c)]
theorem pool_rest (r : Int) (m : Bool) (c : Int) : valV (pool r m c) (kT "rest") = some (.int r) := rfl
theorem pool_mixed (r : Int) (m : Bool) (c : Int) : valV (pool r m c) (kT "mixed") = some (.bl m) := by
  have h1 : decide (kT "rest" = kT "mixed") = false := by decide +kernel
  have h2 : decide (kT "mixed" = kT "mixed") = true := by decide +kernel
  simp only [valV, pool, List.find?_cons, h1, h2, Option.map_some]
  rfl
theorem pool_count (r : Int) (m : Bool) (c : Int) : valV (pool r m c) (kT "count") = some (.int c) := by
  have h1 : decide (kT "rest" = kT "count") = false := by decide +kernel
  have h2 : decide (kT "mixed" = kT "count") = false := by decide +kernel
  have h3 : decide (kT "count" = kT "count") = true := by decide +kernel
  simp only [valV, pool, List.find?_cons, h1, h2, h3, Option.map_some]
  rfl
theorem kT_ne {a b : Str} (h : a ≠ b) : ¬ kT a = kT b := fun z => h (Sum.inr.inj z)
theorem put_rest (r : Int) (m : Bool) (c v : Int) : putK (pool r m c) (kT "rest") (.int v) = pool v m c := by
  unfold putK pool
  have h1 : ¬ kT "mixed" = kT "rest" := by decide +kernel
  have h2 : ¬ kT "count" = kT "rest" := by decide +kernel
  rw [if_pos (by simp)]
  simp only [List.map_cons, List.map_nil, if_pos, if_neg h1, if_neg h2]
theorem put_count (r : Int) (m : Bool) (c v : Int) : putK (pool r m c) (kT "count") (.int v) = pool r m v := by
  unfold putK pool
  have h1 : ¬ kT "rest" = kT "count" := by decide +kernel
  have h2 : ¬ kT "mixed" = kT "count" := by decide +kernel
  rw [if_pos (by simp)]
  simp only [List.map_cons, List.map_nil, if_pos, if_neg h1, if_neg h2]
theorem merge_pool (r : Int) (m : Bool) (c : Int) : mergeK [] (pool r m c) = pool r m c := by
  have h1 : decide (kT "rest" = kT "mixed") = false := by decide +kernel
  have h2 : decide (kT "rest" = kT "count") = false := by decide +kernel
  have h3 : decide (kT "mixed" = kT "count") = false := by decide +kernel
  simp only [mergeK, pool, List.foldl_cons, List.foldl_nil, putK, List.any_nil, List.any_cons, List.nil_append, List.cons_append, h1, h2, h3, Bool.or_false, if_neg Bool.false_ne_true]
/-- a cell of the script, or nought -/
def spCellAt (K : PySem.W.Frag) : Sp := fun vs H Q _ => ∃ (a : Addr) (ns : List Int) (k : Int), vs = [.ref a, .int k] ∧ SqL K H a (ns.map V.int) ∧ ns.length ≤ 63 ∧ 0 ≤ k ∧ ∀ v, Q (.int v) H
def spPool (K : PySem.W.Frag) : Sp := fun vs H Q _ => ∃ (a : Addr) (ns : List Int) (k : Int), vs = [.ref a, .int k] ∧ SqL K H a (ns.map V.int) ∧ ns.length ≤ 63 ∧ 0 ≤ k ∧ k ≤ 1000 ∧ ∀ (p : Addr) (r : Int) (m : Bool) (c : Int), H p = none → 0 ≤ c → c ≤ 5003 → Q (.ref p) (upd H p (.dK (pool r m c)))
def spTakeP : Sp := fun vs H Q _ => ∃ (p : Addr) (r : Int) (m : Bool) (c many : Int), vs = [.ref p, .int many] ∧ H p = some (.dK (pool r m c)) ∧ 0 < many ∧ many.natAbs < 2 ^ 200 ∧ 0 ≤ c ∧ c ≤ 1000000 ∧
  ∀ (H' : Hp) (v r' c' : Int), (∀ b, b ≠ p → H' b = H b) → H' p = some (.dK (pool r' m c')) → 0 ≤ c' → c' ≤ c + 1 → 0 ≤ v → v < many → Q (.int v) H'
section
variable {P : Program} {w : World} {K : PySem.W.Frag} {mg : Str → Option Value} {base : Heap}
abbrev s__law_cell_at : Stmt := topS 10
abbrev N__law_cell_at : List Str := ["script", "k"]
theorem sc__law_cell_at : FnScope N__law_cell_at ["script", "k"] (defScope s__law_cell_at) := ⟨rfl, rfl, rfl, by decide +kernel, rfl, by decide +kernel, by decide +kernel⟩

theorem ok__law_cell_at (T : Txt K mg) (D : IsDef K mg "_law_cell_at" s__law_cell_at ["script", "k"]) : Cal P w K mg base CX0 1 "_law_cell_at" ["script", "k"] (spCellAt K) := by
  refine D.cal sc__law_cell_at (fun vs H Q E h => ?_) (fun f cdv A outer s H vs Q E hr h => ?_)
  · obtain ⟨a, ns, k, rfl, _⟩ := h
    rfl
  obtain ⟨a, ns, k, rfl, hS, h63, k0, q⟩ := h
  refine ⟨_, (pss_cons (ps_if (pt_cmpR op_lt (pv 1) (pe_callB call_len_seq (by rfl) T.b_len PySem.boot_len (pa_cons (pv 0) pa_nil)) (nomark _))
        (pss_one (ps_ret (pe_ix (r := rIxL K) ix_list (pv 0) (pv 1) (fun _ _ => rfl))))
        pss_nil)
      (pss_one (ps_ret pe_int))), ?_⟩
  refine ⟨_, rfl, _, rfl, a, _, rfl, .inl hS, _, _, rfl, rfl, _, rfl, ?_⟩
  refine ite2 (fun c => ?_) (fun _ => q _)
  have c' : k < (((ns.map V.int).length : Nat) : Int) := of_decide_eq_true c
  rw [List.length_map] at c'
  obtain ⟨v, hv⟩ := int_at k0 c'
  exact ⟨_, rfl, _, rfl, a, _, _, _, rfl, rfl, hS, hv, q v⟩
abbrev s__law_pool : Stmt := topS 11
abbrev N__law_pool : List Str := ["script", "k"]
theorem sc__law_pool : FnScope N__law_pool ["script", "k"] (defScope s__law_pool) := ⟨rfl, rfl, rfl, by decide +kernel, rfl, by decide +kernel, by decide +kernel⟩

theorem ok__law_pool (T : Txt K mg) (D : IsDef K mg "_law_pool" s__law_pool ["script", "k"]) (C__law_cell_at : Cal P w K mg base CX0 1 "_law_cell_at" ["script", "k"] (spCellAt K)) : Cal P w K mg base CX0 2 "_law_pool" ["script", "k"] (spPool K) := by
  refine D.cal sc__law_pool (fun vs H Q E h => ?_) (fun f cdv A outer s H vs Q E hr h => ?_)
  · obtain ⟨a, ns, k, rfl, _⟩ := h
    rfl
  obtain ⟨a, ns, k, rfl, hS, h63, k0, k1, q⟩ := h
  refine ⟨_, (pss_one (ps_ret (pe_disp (pps_cons pe_str (pe_cal C__law_cell_at (hr.mono (by first | decide | omega)) pass0 (pa_cons (pv 0) (pa_cons (pv 1) pa_nil))) (pps_cons pe_str (pe_cmpR op_eq (pe_op op_mod (pe_cal C__law_cell_at (hr.mono (by first | decide | omega)) pass0 (pa_cons (pv 0) (pa_cons pe_int pa_nil))) pe_int) pe_int (nomark _)) (pps_cons pe_str (pe_op op_add pe_int (pe_op op_mul pe_int (pv 1))) pps_nil))) (by rfl) (by rfl) (fun z => by cases z) (by decide)))), ?_⟩
  refine fun p np => ?_
  have hS' := (same_new np (.dK [])).seq hS
  refine ⟨_, rfl, _, rfl, a, ns, k, rfl, hS', h63, k0, fun v => ?_⟩
  refine ⟨_, rfl, a, ns, 0, rfl, hS', h63, Int.le_refl 0, fun v2 => ?_⟩
  refine ⟨_, _, rfl, rfl, (by show (0 : Int) < 2; decide), ?_⟩
  refine ⟨rfl, _, rfl, _, _, rfl, rfl, .inl ⟨by decide, by decide⟩, _, _, rfl, rfl, upd_same, pool v (decide (V.int (v2 % 2) = V.int 1)) (3 + 5 * k), rfl, (by show 3 ≤ 15; decide), ?_⟩
  rw [merge_pool, upd_upd]
  exact q p _ _ _ np (by omega) (by omega)
abbrev s__law_take : Stmt := topS 12
abbrev N__law_take : List Str := ["pool", "many", "rest"]
theorem sc__law_take : FnScope N__law_take ["pool", "many"] (defScope s__law_take) := ⟨rfl, rfl, rfl, by decide +kernel, rfl, by decide +kernel, by decide +kernel⟩

theorem ok__law_take (T : Txt K mg) (D : IsDef K mg "_law_take" s__law_take ["pool", "many"]) : Cal P w K mg base CX0 1 "_law_take" ["pool", "many"] spTakeP := by
  refine D.cal sc__law_take (fun vs H Q E h => ?_) (fun f cdv A outer s H vs Q E hr h => ?_)
  · obtain ⟨p, r, m, c, many, rfl, _⟩ := h
    rfl
  obtain ⟨p, r, m, c, many, rfl, hp, m0, mb, c0, c1, q⟩ := h
  have hu : (cxOf CX0 P w K mg base N__law_take "_law_take" (defScope s__law_take) f cdv A outer s H E).nox.A.units + 1 < cLine := by
    exact Nat.lt_of_le_of_lt (Nat.add_le_add_left (by decide : 1 ≤ 64) _) hr.units
  refine ⟨_, (pss_cons (ps_set (i := 2) sc__law_take.nd rfl (Or.inl rfl) (pe_dget hu (pv 0) pe_str (fun _ _ => rfl)))
      (pss_cons (ps_if (pt_not (pt_val (pe_dget hu (pv 0) pe_str (fun _ _ => rfl))))
        (pss_cons (ps_dput hu (pv 0) pe_str (pe_op op_fdivW (pv 2) (pv 1)) rfl)
      (pss_one (ps_ret (pe_op op_mod (pv 2) (pv 1)))))
        pss_nil)
      (pss_cons (ps_dput hu (pv 0) pe_str (pe_op op_add (pe_dget hu (pv 0) pe_str (fun _ _ => rfl)) pe_int) rfl)
      (pss_cons (ps_set (i := 2) sc__law_take.nd rfl (Or.inl rfl) (pe_op op_add (pe_op op_mod (pv 2) pe_int) (pe_op op_mul pe_int (pe_dget hu (pv 0) pe_str (fun _ _ => rfl)))))
      (pss_cons (ps_set (i := 2) sc__law_take.nd rfl (Or.inl rfl) (pe_op op_mod (pe_op op_mul (pv 2) (pe_op op_add (pv 2) pe_int)) pe_int))
      (pss_cons (ps_set (i := 2) sc__law_take.nd rfl (Or.inl rfl) (pe_op op_mod (pe_op op_mul (pv 2) (pv 2)) pe_int))
      (pss_cons (ps_dput hu (pv 0) pe_str (pv 2) rfl)
      (pss_one (ps_ret (pe_op op_mod (pe_op op_fdivW (pv 2) pe_int) (pv 1))))))))))), ?_⟩
  refine ⟨_, rfl, p, _, rfl, (pool_rest r m c) ▸ DGet.k (k := kT "rest") hp, ?_⟩
  refine ⟨_, rfl, p, _, rfl, (pool_mixed r m c) ▸ DGet.k (k := kT "mixed") hp, ?_⟩
  have hlt : ∀ (r : Int) (m : Bool) (c : Int), (pool r m c).length < sizeLine := fun _ _ _ => lt_line (by show 3 < 16777216; decide)
  cases m with
  | false =>
    refine ⟨_, rfl, iteT ?_⟩
    refine ⟨_, rfl, _, rfl, _, _, rfl, rfl, wide_div m0 mb (by decide) (by decide), _, rfl, p, _, rfl, DPut.k (k := kT "rest") hp (hlt _ _ _), ?_⟩
    rw [put_rest]
    exact ⟨_, rfl, _, rfl, _, _, rfl, rfl, m0, q _ _ _ _ (fun b hb => upd_ne hb) upd_same c0 (by omega) (Int.emod_nonneg _ (by omega)) (Int.emod_lt_of_pos _ m0)⟩
  | true =>
    refine ⟨_, rfl, iteF ?_⟩
    refine ⟨_, rfl, p, _, rfl, (pool_count r true c) ▸ DGet.k (k := kT "count") hp, _, _, rfl, rfl, _, rfl, p, _, rfl, DPut.k (k := kT "count") hp (hlt _ _ _), ?_⟩
    rw [put_count]
    have h1 : upd H p (.dK (pool r true (c + 1))) p = some (.dK (pool r true (c + 1))) := upd_same
    refine ⟨_, rfl, _, _, rfl, rfl, (by show (0 : Int) < 1000000000163; decide), _, rfl, p, _, rfl, (pool_count r true (c + 1)) ▸ DGet.k (k := kT "count") h1, _, _, rfl, rfl, .inl ⟨by decide, by decide⟩, _, _, rfl, rfl, ?_⟩
    have y0 : 0 ≤ r % 1000000000163 := Int.emod_nonneg _ (by decide)
    have y1 : r % 1000000000163 < 1000000000163 := Int.emod_lt_of_pos _ (by decide)
    refine ⟨_, rfl, _, rfl, _, _, rfl, rfl, _, _, rfl, rfl, .inl ⟨by show -(2 ^ 64) < r % 1000000000163 + 70001 * (c + 1); omega, by show r % 1000000000163 + 70001 * (c + 1) < 2 ^ 64; omega⟩, _, _, rfl, rfl, (by show (0 : Int) < 1000000000193; decide), ?_⟩
    have z0 : 0 ≤ ((r % 1000000000163 + 70001 * (c + 1)) * (r % 1000000000163 + 70001 * (c + 1) + 29)) % 1000000000193 := Int.emod_nonneg _ (by decide)
    have z1 : ((r % 1000000000163 + 70001 * (c + 1)) * (r % 1000000000163 + 70001 * (c + 1) + 29)) % 1000000000193 < 1000000000193 := Int.emod_lt_of_pos _ (by decide)
    refine ⟨_, rfl, _, rfl, _, _, rfl, rfl, .inl ⟨Int.lt_of_lt_of_le (by decide) z0, Int.lt_trans z1 (by decide)⟩, _, _, rfl, rfl, (by show (0 : Int) < 999999999959; decide), ?_⟩
    refine ⟨_, rfl, _, rfl, p, _, rfl, DPut.k (k := kT "rest") h1 (hlt _ _ _), ?_⟩
    rw [put_rest]
    refine ⟨_, rfl, _, _, rfl, rfl, ⟨by decide, by decide +kernel⟩, _, rfl, _, _, rfl, rfl, m0, q _ _ _ (c + 1) (fun b hb => ?_) upd_same (by omega) (Int.le_refl _) (Int.emod_nonneg _ (by omega)) (Int.emod_lt_of_pos _ m0)⟩
    rw [upd_ne hb, upd_ne hb]
end
/-! ### twins as recipes: plain facts -/
abbrev Pr := List Nat × Int
def Rcp.rd : Rcp → List (List Nat)
  | .num _ => []
  | .read s => [s]
  | .two _ a b => a.rd ++ b.rd
  | .pick a _ _ => a.rd
  | .choose a ns => a.rd ++ ns
def Rcp.val (ν : List Nat → Int) : Rcp → Int
  | .num n => n
  | .read s => ν s
  | .two _ a b => a.val ν + b.val ν
  | .pick a _ _ => a.val ν
  | .choose _ ns => ν (ns.headD [])
def Rcp.Tw : Rcp → Prop
  | .num _ => True
  | .read s => Nm s
  | .two k a b => k = .plus ∧ a.Tw ∧ b.Tw
  | .pick _ _ _ => False
  | .choose a ns => a.Tw ∧ ∃ s, ns = [s] ∧ Nm s
theorem Rcp.twlays : ∀ {r : Rcp}, r.Tw → r.th.py.canLay0 = true ∧ r.th.py.depth ≤ r.dep
  | .num n, _ => ⟨by show ((PyData.str (SX.S w_number)).canLay0 && ((PyData.int n).canLay0 && true)) = true; rw [str_lay (by decide)]; rfl, by show max 0 (max 0 0) + 1 ≤ 1; decide⟩
  | .read s, h => ⟨by show ((PyData.str (SX.S w_read)).canLay0 && ((PyData.str (SX.S s)).canLay0 && true)) = true; rw [nm_lay h, str_lay (s := w_read) (by decide)]; rfl, by show max 0 (max 0 0) + 1 ≤ 1; decide⟩
  | .two k a b, h => by
    have h1 := Rcp.twlays h.2.1
    have h2 := Rcp.twlays h.2.2
    refine ⟨?_, ?_⟩
    · show ((PyData.str (SX.S k.word)).canLay0 && (a.th.py.canLay0 && (b.th.py.canLay0 && true))) = true
      rw [h1.1, h2.1, str_lay (s := k.word) (by cases k <;> decide)]
      rfl
    · show max 0 (max a.th.py.depth (max b.th.py.depth 0)) + 1 ≤ max a.dep b.dep + 1
      omega
  | .pick _ _ _, h => h.elim
  | .choose a ns, h => by
    obtain ⟨ha, s, rfl, hs⟩ := h
    have h1 := Rcp.twlays ha
    have h2 := nms_py (ns := [s]) fun x hx => by rw [List.mem_singleton.mp hx]; exact hs
    have h3 := dep_pos a
    refine ⟨?_, ?_⟩
    · show ((PyData.str (SX.S w_choose)).canLay0 && (a.th.py.canLay0 && (PyData.canLayAll0 (Th.pyL (nmsTh [s])) && true))) = true
      rw [h1.1, h2.1, str_lay (s := w_choose) (by decide)]
      rfl
    · show max 0 (max a.th.py.depth (max (PyData.depthAll (Th.pyL (nmsTh [s])) + 1) 0)) + 1 ≤ a.dep + 1
      rw [h2.2]
      omega
/-! #### a group looked through -/
def lookF (r : Rcp) (q : Pr) : Rcp := .choose r [q.1]
def lookR : List Pr → Rcp
  | [] => .num 0
  | p :: ps => ps.foldl lookF (.read p.1)
def lastP (g : List Pr) : Pr := g.getLastD ([], 0)
theorem foldF (ν : List Nat → Int) : ∀ (ps : List Pr) (r : Rcp), (ps.foldl lookF r).rd = r.rd ++ ps.map (·.1) ∧ (ps.foldl lookF r).dep = r.dep + ps.length ∧ (ps.foldl lookF r).siz = r.siz + ps.length ∧
    (r.Tw → (∀ p ∈ ps, Nm p.1) → (ps.foldl lookF r).Tw) ∧ (ps ≠ [] → (ps.foldl lookF r).val ν = ν (lastP ps).1)
  | [], r => ⟨by simp, rfl, rfl, fun h _ => h, fun h => absurd rfl h⟩
  | q :: ps, r => by
    obtain ⟨h1, h2, h3, h4, h5⟩ := foldF ν ps (lookF r q)
    refine ⟨?_, ?_, ?_, fun ht hn => h4 ⟨ht, q.1, rfl, hn q (List.mem_cons_self ..)⟩ fun p hp => hn p (List.mem_cons_of_mem _ hp), fun _ => ?_⟩
    · show (ps.foldl lookF (lookF r q)).rd = _
      rw [h1]
      show (r.rd ++ [q.1]) ++ ps.map (·.1) = r.rd ++ (q.1 :: ps.map (·.1))
      simp
    · show (ps.foldl lookF (lookF r q)).dep = _
      rw [h2]
      show r.dep + 1 + ps.length = r.dep + (ps.length + 1)
      omega
    · show (ps.foldl lookF (lookF r q)).siz = _
      rw [h3]
      show r.siz + 1 + ps.length = r.siz + (ps.length + 1)
      omega
    · show (ps.foldl lookF (lookF r q)).val ν = _
      cases ps with
      | nil => rfl
      | cons p ps => exact h5 (by simp)
theorem lookR_is {g : List Pr} (ν : List Nat → Int) (h : 1 ≤ g.length) (hn : ∀ p ∈ g, Nm p.1) : (lookR g).rd = g.map (·.1) ∧ (lookR g).dep = g.length ∧ (lookR g).siz = g.length ∧ (lookR g).Tw ∧ (lookR g).val ν = ν (lastP g).1 := by
  cases g with
  | nil => exact absurd h (by decide)
  | cons p ps =>
    obtain ⟨h1, h2, h3, h4, h5⟩ := foldF ν ps (.read p.1)
    refine ⟨h1, ?_, ?_, h4 (hn p (List.mem_cons_self ..)) fun q hq => hn q (List.mem_cons_of_mem _ hq), ?_⟩
    · show (ps.foldl lookF (.read p.1)).dep = ps.length + 1
      rw [h2]
      show 1 + ps.length = _
      omega
    · show (ps.foldl lookF (.read p.1)).siz = ps.length + 1
      rw [h3]
      show 1 + ps.length = _
      omega
    · cases ps with
      | nil => rfl
      | cons q ps => exact h5 (by simp)
/-! #### sums, two and two -/
def pairUp : List Rcp → List Rcp
  | a :: b :: r => .two .plus a b :: pairUp r
  | l => l
def sumUp : Nat → List Rcp → List Rcp
  | 0, rs => rs
  | n + 1, rs => if rs.length ≤ 1 then rs else sumUp n (pairUp rs)
def sumR (rs : List Rcp) : Rcp := (sumUp 7 rs).headD (.num 0)
theorem pairUp_is (ν : List Nat → Int) (j : Nat) : ∀ rs : List Rcp, (pairUp rs).flatMap Rcp.rd = rs.flatMap Rcp.rd ∧ ((pairUp rs).map (Rcp.val ν)).sum = (rs.map (Rcp.val ν)).sum ∧ ((pairUp rs).map Rcp.siz).sum + (pairUp rs).length = (rs.map Rcp.siz).sum + rs.length ∧
    (pairUp rs).length = (rs.length + 1) / 2 ∧ ((∀ r ∈ rs, r.Tw ∧ r.dep ≤ j) → ∀ r ∈ pairUp rs, r.Tw ∧ r.dep ≤ j + 1)
  | [] => ⟨rfl, rfl, rfl, rfl, fun _ _ h => nomatch h⟩
  | [a] => ⟨rfl, rfl, rfl, (show 1 = (1 + 1) / 2 by decide), fun h r hr => ⟨(h r hr).1, Nat.le_succ_of_le (h r hr).2⟩⟩
  | a :: b :: r => by
    obtain ⟨h1, h2, h3, h4, h5⟩ := pairUp_is ν j r
    have e : pairUp (a :: b :: r) = .two .plus a b :: pairUp r := rfl
    refine ⟨?_, ?_, ?_, ?_, fun h x hx => ?_⟩
    · rw [e, List.flatMap_cons, h1, List.flatMap_cons, List.flatMap_cons]
      show (a.rd ++ b.rd) ++ _ = _
      rw [List.append_assoc]
    · rw [e, List.map_cons, List.sum_cons, h2, List.map_cons, List.map_cons, List.sum_cons, List.sum_cons]
      show (a.val ν + b.val ν) + _ = _
      omega
    · rw [e, List.map_cons, List.sum_cons, List.length_cons, List.map_cons, List.map_cons, List.sum_cons, List.sum_cons, List.length_cons, List.length_cons]
      show (a.siz + b.siz + 1) + _ + _ = _
      omega
    · rw [e, List.length_cons, h4, List.length_cons, List.length_cons]
      omega
    · rw [e] at hx
      rcases List.mem_cons.mp hx with rfl | hx
      · have ha := h a (List.mem_cons_self ..)
        have hb := h b (List.mem_cons_of_mem _ (List.mem_cons_self ..))
        exact ⟨⟨rfl, ha.1, hb.1⟩, by show max a.dep b.dep + 1 ≤ j + 1; omega⟩
      · exact h5 (fun y hy => h y (List.mem_cons_of_mem _ (List.mem_cons_of_mem _ hy))) x hx
theorem sumUp_is (ν : List Nat → Int) : ∀ (n m j : Nat) (rs : List Rcp), m ≤ n → rs.length ≤ 2 ^ m → 1 ≤ rs.length → (∀ r ∈ rs, r.Tw ∧ r.dep ≤ j) →
    ∃ r, sumUp n rs = [r] ∧ r.rd = rs.flatMap Rcp.rd ∧ r.val ν = (rs.map (Rcp.val ν)).sum ∧ r.siz + 1 = (rs.map Rcp.siz).sum + rs.length ∧ r.Tw ∧ r.dep ≤ j + m := by
  intro n
  induction n with
  | zero =>
    intro m j rs hm hl h1 ht
    obtain rfl : m = 0 := by omega
    have hl' : rs.length = 1 := by
      have : rs.length ≤ 1 := hl
      omega
    obtain ⟨r, rfl⟩ := List.length_eq_one_iff.mp hl'
    exact ⟨r, rfl, by simp, by simp, by simp, (ht r (by simp)).1, (ht r (by simp)).2⟩
  | succ n ih =>
    intro m j rs hm hl h1 ht
    by_cases c : rs.length ≤ 1
    · obtain ⟨r, rfl⟩ := List.length_eq_one_iff.mp (show rs.length = 1 by omega)
      exact ⟨r, rfl, by simp, by simp, by simp, (ht r (by simp)).1, Nat.le_trans (ht r (by simp)).2 (Nat.le_add_right _ _)⟩
    · obtain ⟨m', rfl⟩ : ∃ m', m = m' + 1 := by
        cases m with
        | zero => exact absurd hl c
        | succ m' => exact ⟨m', rfl⟩
      obtain ⟨p1, p2, p3, p4, p5⟩ := pairUp_is ν j rs
      have hl2 : rs.length ≤ 2 ^ m' * 2 := by rw [← Nat.pow_succ]; exact hl
      obtain ⟨r, q1, q2, q3, q4, q5, q6⟩ := ih m' (j + 1) (pairUp rs) (by omega) (by rw [p4]; omega) (by rw [p4]; omega) (p5 ht)
      refine ⟨r, ?_, by rw [q2, p1], by rw [q3, p2], by rw [q4, p3], q5, by omega⟩
      show (if rs.length ≤ 1 then rs else sumUp n (pairUp rs)) = [r]
      rw [if_neg c]
      exact q1
theorem sumR_is (ν : List Nat → Int) {rs : List Rcp} (h1 : 1 ≤ rs.length) (hl : rs.length ≤ 16) (ht : ∀ r ∈ rs, r.Tw ∧ r.dep ≤ 3) :
    (sumR rs).rd = rs.flatMap Rcp.rd ∧ (sumR rs).val ν = (rs.map (Rcp.val ν)).sum ∧ (sumR rs).siz + 1 = (rs.map Rcp.siz).sum + rs.length ∧ (sumR rs).Tw ∧ (sumR rs).dep ≤ 7 := by
  obtain ⟨r, q1, q2, q3, q4, q5, q6⟩ := sumUp_is ν 7 4 3 rs (by decide) hl h1 ht
  have e : sumR rs = r := by unfold sumR; rw [q1]; rfl
  rw [e]
  exact ⟨q2, q3, q4, q5, q6⟩
/-! #### groups -/
def chunk3 {α : Type} (l : List α) (f n : Nat) : List (List α) := (List.range n).map fun i => (l.drop (f + i * 3)).take 3
def grp {α : Type} (l : List α) : List (List α) := (if l.length % 3 > 0 then [l.take (l.length % 3)] else []) ++ chunk3 l (l.length % 3) ((l.length - l.length % 3 + 2) / 3)
theorem chunk3_flat {α : Type} (l : List α) (f : Nat) : ∀ n, (chunk3 l f n).flatten = (l.drop f).take (n * 3)
  | 0 => by simp [chunk3]
  | n + 1 => by
    have ih := chunk3_flat l f n
    unfold chunk3 at ih ⊢
    rw [List.range_succ, List.map_append, List.flatten_append, ih]
    show _ ++ ([(l.drop (f + n * 3)).take 3] : List (List α)).flatten = _
    rw [List.flatten_cons, List.flatten_nil, List.append_nil, show (n + 1) * 3 = n * 3 + 3 by omega, List.take_add, List.drop_drop]
theorem grp_flat {α : Type} (l : List α) : (grp l).flatten = l := by
  unfold grp
  rw [List.flatten_append, chunk3_flat]
  have h : (l.length - l.length % 3 + 2) / 3 * 3 = l.length - l.length % 3 := by omega
  have h2 : (l.drop (l.length % 3)).take (l.length - l.length % 3) = l.drop (l.length % 3) := List.take_of_length_le (by rw [List.length_drop]; exact Nat.le_refl _)
  rw [h, h2]
  split
  · rw [List.flatten_cons, List.flatten_nil, List.append_nil, List.take_append_drop]
  · rename_i h
    rw [show l.length % 3 = 0 by omega]
    rfl
theorem grp_len {α : Type} {l : List α} {g : List α} (h : g ∈ grp l) : 1 ≤ g.length ∧ g.length ≤ 3 := by
  unfold grp at h
  rcases List.mem_append.mp h with h | h
  · split at h
    · rw [List.mem_singleton.mp h, List.length_take]
      omega
    · cases h
  · unfold chunk3 at h
    obtain ⟨i, hi, rfl⟩ := List.mem_map.mp h
    have := List.mem_range.mp hi
    rw [List.length_take, List.length_drop]
    omega
theorem grp_count {α : Type} (l : List α) : (grp l).length ≤ l.length / 3 + 1 := by
  unfold grp chunk3
  rw [List.length_append, List.length_map, List.length_range]
  split
  · rw [List.length_singleton]
    omega
  · rw [List.length_nil]
    omega
/-- the last group ends as the row does -/
theorem grp_last {l : List Pr} (h : 1 ≤ l.length) : ∃ A g, grp l = A ++ [g] ∧ lastP g = lastP l := by
  have hne : grp l ≠ [] := fun z => by
    have := grp_flat l
    rw [z] at this
    rw [← this] at h
    exact absurd h (by decide)
  refine ⟨(grp l).dropLast, (grp l).getLast hne, (List.dropLast_concat_getLast hne).symm, ?_⟩
  have e : l = ((grp l).dropLast).flatten ++ (grp l).getLast hne := by
    have := grp_flat l
    rw [← List.dropLast_concat_getLast hne, List.flatten_append] at this
    simpa using this.symm
  have hg : 1 ≤ ((grp l).getLast hne).length := (grp_len (List.getLast_mem hne)).1
  generalize (grp l).getLast hne = g at e hg
  obtain ⟨gs, x, rfl⟩ : ∃ gs x, g = gs ++ [x] := ⟨g.dropLast, g.getLast (by intro z; rw [z] at hg; exact absurd hg (by decide)), (List.dropLast_concat_getLast _).symm⟩
  generalize ((grp l).dropLast).flatten = B at e
  rw [e]
  unfold lastP
  simp [List.getLastD_eq_getLast?]
theorem lastP_mem {g : List Pr} (h : 1 ≤ g.length) : lastP g ∈ g := by
  unfold lastP
  rw [List.getLastD_eq_getLast?]
  cases e : g.getLast? with
  | none => rw [List.getLast?_eq_none_iff] at e; rw [e] at h; exact absurd h (by decide)
  | some x => exact List.mem_of_getLast? e
theorem mem_grp {l : List Pr} {g : List Pr} (h : g ∈ grp l) {p : Pr} (hp : p ∈ g) : p ∈ l := by
  rw [← grp_flat l]
  exact List.mem_flatten.mpr ⟨g, h, hp⟩
/-- all groups for the k-th read -/
def groupsK (ps : List Pr) (k : Nat) : List (List Pr) := grp (ps.take (k + 1)) ++ grp (ps.drop (k + 1))
def restK (ps : List Pr) (wo : Int) (k : Nat) : Int := wo - ((groupsK ps k).map fun g => (lastP g).2).sum
def twinR (ps : List Pr) (wo : Int) (k : Nat) : Rcp := sumR ((groupsK ps k).map lookR ++ [.num (restK ps wo k)])
theorem groupsK_flat (ps : List Pr) (k : Nat) : (groupsK ps k).flatten = ps := by
  unfold groupsK
  rw [List.flatten_append, grp_flat, grp_flat, List.take_append_drop]
theorem groupsK_len {ps : List Pr} {k : Nat} {g : List Pr} (h : g ∈ groupsK ps k) : 1 ≤ g.length ∧ g.length ≤ 3 := (List.mem_append.mp h).elim grp_len grp_len
theorem groupsK_count {ps : List Pr} {k : Nat} (h : ps.length ≤ 29) (hk : k < ps.length) : (groupsK ps k).length ≤ 12 := by
  have h1 := grp_count (ps.take (k + 1))
  have h2 := grp_count (ps.drop (k + 1))
  rw [List.length_take] at h1
  rw [List.length_drop] at h2
  unfold groupsK
  rw [List.length_append]
  omega
theorem groupsK_mem {ps : List Pr} {k : Nat} {g : List Pr} (h : g ∈ groupsK ps k) {p : Pr} (hp : p ∈ g) : p ∈ ps := by
  rw [← groupsK_flat ps k]
  exact List.mem_flatten.mpr ⟨g, h, hp⟩
theorem twin_is (ν : List Nat → Int) {ps : List Pr} {wo : Int} {k : Nat} (h : ps.length ≤ 29) (hk : k < ps.length) (hn : ∀ p ∈ ps, Nm p.1) :
    (twinR ps wo k).rd = ps.map (·.1) ∧ (twinR ps wo k).val ν = ((groupsK ps k).map fun g => ν (lastP g).1).sum + restK ps wo k ∧ (twinR ps wo k).siz ≤ 60 ∧ (twinR ps wo k).Tw ∧ (twinR ps wo k).dep ≤ 7 := by
  have hc := groupsK_count h hk
  have hfl := groupsK_flat ps k
  have hlen : ∀ g ∈ groupsK ps k, 1 ≤ g.length ∧ g.length ≤ 3 := fun g hg => groupsK_len hg
  have hnm : ∀ g ∈ groupsK ps k, ∀ p ∈ g, Nm p.1 := fun g hg p hp => hn p (groupsK_mem hg hp)
  unfold twinR
  generalize restK ps wo k = rest
  generalize groupsK ps k = gs at hc hfl hlen hnm
  obtain ⟨q1, q2, q3, q4, q5⟩ := sumR_is ν (rs := gs.map lookR ++ [.num rest]) (by rw [List.length_append]; show 1 ≤ _ + 1; omega) (by rw [List.length_append, List.length_map]; show _ + 1 ≤ 16; omega) (fun r hr => by
    rcases List.mem_append.mp hr with h | h
    · obtain ⟨g, hg, rfl⟩ := List.mem_map.mp h
      obtain ⟨l1, l2, l3, l4, l5⟩ := lookR_is ν (hlen g hg).1 (hnm g hg)
      exact ⟨l4, by rw [l2]; exact (hlen g hg).2⟩
    · rw [List.mem_singleton.mp h]
      exact ⟨trivial, by show 1 ≤ 3; decide⟩)
  have hrd : (gs.map lookR).flatMap Rcp.rd = gs.flatten.map (·.1) ∧ ((gs.map lookR).map (Rcp.val ν)).sum = (gs.map fun g => ν (lastP g).1).sum ∧ ((gs.map lookR).map Rcp.siz).sum = gs.flatten.length := by
    clear q1 q2 q3 q4 q5 hc hfl
    induction gs with
    | nil => exact ⟨rfl, rfl, rfl⟩
    | cons g gs ih =>
      obtain ⟨i1, i2, i3⟩ := ih (fun x hx => hlen x (List.mem_cons_of_mem _ hx)) (fun x hx => hnm x (List.mem_cons_of_mem _ hx))
      obtain ⟨l1, l2, l3, l4, l5⟩ := lookR_is ν (hlen g (List.mem_cons_self ..)).1 (hnm g (List.mem_cons_self ..))
      refine ⟨?_, ?_, ?_⟩
      · rw [List.map_cons, List.flatMap_cons, l1, i1, List.flatten_cons, List.map_append]
      · rw [List.map_cons, List.map_cons, List.sum_cons, l5, i2, List.map_cons, List.sum_cons]
      · rw [List.map_cons, List.map_cons, List.sum_cons, l3, i3, List.flatten_cons, List.length_append]
  refine ⟨?_, ?_, ?_, q4, q5⟩
  · rw [q1, List.flatMap_append, hrd.1, hfl]
    show _ ++ [] = _
    rw [List.append_nil]
  · rw [q2, List.map_append, List.sum_append, hrd.2.1]
    show _ + (rest + 0) = _
    rw [Int.add_zero]
  · rw [List.map_append, List.sum_append, hrd.2.2, hfl, List.length_append, List.length_map] at q3
    have q3' : (sumR (gs.map lookR ++ [Rcp.num rest])).siz + 1 = ps.length + (1 + 0) + (gs.length + 1) := q3
    omega
theorem sum_same {f g : List Pr → Int} : ∀ {l : List (List Pr)}, (∀ x ∈ l, f x = g x) → (l.map f).sum = (l.map g).sum
  | [], _ => rfl
  | x :: l, h => by
    rw [List.map_cons, List.sum_cons, List.map_cons, List.sum_cons, h x (List.mem_cons_self ..), sum_same fun y hy => h y (List.mem_cons_of_mem _ hy)]
/-- with the names as read it comes to the worth -/
theorem twin_worth {ν : List Nat → Int} {ps : List Pr} {wo : Int} {k : Nat} (h : ps.length ≤ 29) (hk : k < ps.length) (hn : ∀ p ∈ ps, Nm p.1) (hν : ∀ p ∈ ps, ν p.1 = p.2) : (twinR ps wo k).val ν = wo := by
  rw [(twin_is ν h hk hn).2.1, sum_same (g := fun g => (lastP g).2) fun g hg => hν _ (groupsK_mem hg (lastP_mem (groupsK_len hg).1))]
  unfold restK
  omega
/-- with another k-th number to another one -/
theorem twin_other {ν : List Nat → Int} {ps : List Pr} {wo δ : Int} {k : Nat} (h : ps.length ≤ 29) (hk : k < ps.length) (hn : ∀ p ∈ ps, Nm p.1) (nd : (ps.map (·.1)).Nodup) (hν : ∀ p ∈ ps, p.1 ≠ ps[k].1 → ν p.1 = p.2) (hk2 : ν ps[k].1 = ps[k].2 + δ) : (twinR ps wo k).val ν = wo + δ := by
  have htl : 1 ≤ (ps.take (k + 1)).length := by rw [List.length_take]; omega
  obtain ⟨A, g, hA, hg⟩ := grp_last htl
  have hlast : lastP (ps.take (k + 1)) = ps[k] := by
    have := List.take_succ_eq_append_getElem hk
    unfold lastP
    rw [this, List.getLastD_eq_getLast?, List.getLast?_concat]
    rfl
  rw [hlast] at hg
  have hsplit : ps.take (k + 1) = A.flatten ++ g := by
    have := grp_flat (ps.take (k + 1))
    rw [hA, List.flatten_append] at this
    simpa using this.symm
  have hg1 : 1 ≤ g.length := (grp_len (l := ps.take (k + 1)) (by rw [hA]; simp)).1
  have nd2 : ((ps.take (k + 1) ++ ps.drop (k + 1)).map (·.1)).Nodup := by rw [List.take_append_drop]; exact nd
  rw [List.map_append, hsplit, List.map_append] at nd2
  have hkg : ps[k] ∈ g := hg ▸ lastP_mem hg1
  obtain ⟨n1, n2, n3⟩ := List.nodup_append.mp nd2
  obtain ⟨n4, n5, n6⟩ := List.nodup_append.mp n1
  have neA : ∀ x ∈ A, (lastP x).1 ≠ ps[k].1 := fun x hx e => by
    have hx1 : 1 ≤ x.length := (grp_len (l := ps.take (k + 1)) (by rw [hA]; exact List.mem_append_left _ hx)).1
    exact n6 _ (List.mem_map.mpr ⟨lastP x, List.mem_flatten.mpr ⟨x, hx, lastP_mem hx1⟩, rfl⟩) _ (List.mem_map.mpr ⟨ps[k], hkg, rfl⟩) e
  have neB : ∀ x ∈ grp (ps.drop (k + 1)), (lastP x).1 ≠ ps[k].1 := fun x hx e => by
    have hx1 : 1 ≤ x.length := (grp_len hx).1
    exact n3 _ (List.mem_append_right _ (List.mem_map.mpr ⟨ps[k], hkg, rfl⟩)) _ (List.mem_map.mpr ⟨lastP x, mem_grp hx (lastP_mem hx1), rfl⟩) e.symm
  have inA : ∀ x ∈ A, lastP x ∈ ps := fun x hx => groupsK_mem (k := k) (g := x) (by unfold groupsK; rw [hA]; simp [hx]) (lastP_mem (grp_len (l := ps.take (k + 1)) (by rw [hA]; exact List.mem_append_left _ hx)).1)
  have inB : ∀ x ∈ grp (ps.drop (k + 1)), lastP x ∈ ps := fun x hx => List.mem_of_mem_drop (mem_grp hx (lastP_mem (grp_len hx).1))
  rw [(twin_is ν h hk hn).2.1]
  unfold restK groupsK
  rw [hA]
  simp only [List.map_append, List.sum_append, List.map_cons, List.map_nil, List.sum_cons, List.sum_nil]
  rw [sum_same (l := A) (f := fun g => ν (lastP g).1) (g := fun g => (lastP g).2) fun x hx => hν _ (inA x hx) (neA x hx), sum_same (l := grp (ps.drop (k + 1))) (f := fun g => ν (lastP g).1) (g := fun g => (lastP g).2) fun x hx => hν _ (inB x hx) (neB x hx), hg, hk2]
  omega
/-! ### rows of pairs -/
/-- rows of a name and a number each -/
def Prs (H : Hp) : List (List Nat × Int) → List V → Prop
  | [], [] => True
  | p :: ps, v :: vs => (∃ t, v = .ref t ∧ H t = some (.tup [.str (SX.S p.1), .int p.2])) ∧ Prs H ps vs
  | _, _ => False
theorem Prs.same {H H' : Hp} (k : Same H H') : ∀ {ps : List (List Nat × Int)} {vs : List V}, Prs H ps vs → Prs H' ps vs
  | [], [], _ => trivial
  | _ :: _, _ :: _, ⟨⟨t, e, ht⟩, h⟩ => ⟨⟨t, e, k _ _ ht⟩, Prs.same k h⟩
  | [], _ :: _, h => h.elim
  | _ :: _, [], h => h.elim
theorem Prs.keep {H H' : Hp} (k : Keep H H') : ∀ {ps : List (List Nat × Int)} {vs : List V}, Prs H ps vs → Prs H' ps vs
  | [], [], _ => trivial
  | _ :: _, _ :: _, ⟨⟨t, e, ht⟩, h⟩ => ⟨⟨t, e, k _ _ ht⟩, Prs.keep k h⟩
  | [], _ :: _, h => h.elim
  | _ :: _, [], h => h.elim
theorem Prs.len {H : Hp} : ∀ {ps : List (List Nat × Int)} {vs : List V}, Prs H ps vs → vs.length = ps.length
  | [], [], _ => rfl
  | _ :: _, _ :: _, h => congrArg (· + 1) (Prs.len h.2)
  | [], _ :: _, h => h.elim
  | _ :: _, [], h => h.elim
theorem Prs.at {H : Hp} : ∀ {ps : List (List Nat × Int)} {vs : List V} {i : Nat} {v : V}, Prs H ps vs → vs[i]? = some v → ∃ p t, ps[i]? = some p ∧ v = .ref t ∧ H t = some (.tup [.str (SX.S p.1), .int p.2])
  | [], [], i, v, _, e => by simp at e
  | p :: _, _ :: _, 0, v, h, e => by
    obtain ⟨⟨t, e1, ht⟩, _⟩ := h
    exact ⟨p, t, rfl, (Option.some.inj e).symm.trans e1, ht⟩
  | _ :: _, _ :: _, i + 1, v, h, e => Prs.at (i := i) h.2 (by simpa using e)
  | [], _ :: _, _, _, h, _ => h.elim
  | _ :: _, [], _, _, h, _ => h.elim
theorem Prs.snoc {H : Hp} {p : List Nat × Int} {t : Addr} (ht : H t = some (.tup [.str (SX.S p.1), .int p.2])) : ∀ {ps : List (List Nat × Int)} {vs : List V}, Prs H ps vs → Prs H (ps ++ [p]) (vs ++ [.ref t])
  | [], [], _ => ⟨⟨t, rfl, ht⟩, trivial⟩
  | _ :: _, _ :: _, h => ⟨h.1, Prs.snoc ht h.2⟩
  | [], _ :: _, h => h.elim
  | _ :: _, [], h => h.elim
theorem Prs.drop {H : Hp} : ∀ (n : Nat) {ps : List (List Nat × Int)} {vs : List V}, Prs H ps vs → Prs H (ps.drop n) (vs.drop n)
  | 0, _, _, h => h
  | _ + 1, [], [], h => h
  | n + 1, _ :: _, _ :: _, h => Prs.drop n h.2
  | _ + 1, [], _ :: _, h => h.elim
  | _ + 1, _ :: _, [], h => h.elim
theorem Prs.take {H : Hp} : ∀ (n : Nat) {ps : List (List Nat × Int)} {vs : List V}, Prs H ps vs → Prs H (ps.take n) (vs.take n)
  | 0, _, _, _ => trivial
  | _ + 1, [], [], h => h
  | n + 1, _ :: _, _ :: _, h => ⟨h.1, Prs.take n h.2⟩
  | _ + 1, [], _ :: _, h => h.elim
  | _ + 1, _ :: _, [], h => h.elim
/-! ### the walks of twins, told exactly -/
def Als {α : Type} (R : α → V → Prop) : List α → List V → Prop
  | [], [] => True
  | d :: ds, v :: vs => R d v ∧ Als R ds vs
  | _, _ => False
theorem Als.imp {α : Type} {R S : α → V → Prop} (k : ∀ d v, R d v → S d v) : ∀ {ds : List α} {vs : List V}, Als R ds vs → Als S ds vs
  | [], [], _ => trivial
  | _ :: _, _ :: _, h => ⟨k _ _ h.1, Als.imp k h.2⟩
  | [], _ :: _, h => h.elim
  | _ :: _, [], h => h.elim
theorem Als.len {α : Type} {R : α → V → Prop} : ∀ {ds : List α} {vs : List V}, Als R ds vs → vs.length = ds.length
  | [], [], _ => rfl
  | _ :: _, _ :: _, h => congrArg (· + 1) (Als.len h.2)
  | [], _ :: _, h => h.elim
  | _ :: _, [], h => h.elim
theorem Als.app {α : Type} {R : α → V → Prop} : ∀ {ds es : List α} {vs us : List V}, Als R ds vs → Als R es us → Als R (ds ++ es) (vs ++ us)
  | [], _, [], _, _, h => h
  | _ :: _, _, _ :: _, _, h, g => ⟨h.1, Als.app h.2 g⟩
  | [], _, _ :: _, _, h, _ => h.elim
  | _ :: _, _, [], _, h, _ => h.elim
theorem Als.at {α : Type} {R : α → V → Prop} : ∀ {ds : List α} {vs : List V} {i : Nat} {v : V}, Als R ds vs → vs[i]? = some v → ∃ d, ds[i]? = some d ∧ R d v
  | [], [], i, v, _, e => by simp at e
  | d :: _, _ :: _, 0, v, h, e => ⟨d, rfl, (Option.some.inj e) ▸ h.1⟩
  | _ :: _, _ :: _, i + 1, v, h, e => Als.at (i := i) h.2 (by simpa using e)
  | [], _ :: _, _, _, h, _ => h.elim
  | _ :: _, [], _, _, h, _ => h.elim
/-- a list in the making at F: what stands otherwise stands in B -/
def MkA {α : Type} (R : Hp → α → V → Prop) (H H' : Hp) (F : Addr) (ds : List α) (gs : List V) : Prop := ∃ B, Same H B ∧ B F = none ∧ Same B H' ∧ H' F = some (.lst gs) ∧ Als (R B) ds gs
theorem MkA.start {α : Type} {R : Hp → α → V → Prop} {H : Hp} {F : Addr} (n : H F = none) : MkA R H (upd H F (.lst [])) F [] [] := ⟨H, Same.refl _, n, same_new n _, upd_same, trivial⟩
theorem MkA.same {α : Type} {R : Hp → α → V → Prop} {H H' : Hp} {F : Addr} {ds : List α} {gs : List V} (k : MkA R H H' F ds gs) : Same H H' := by
  obtain ⟨B, h1, _, h2, _⟩ := k
  exact h1.trans h2
theorem MkA.at {α : Type} {R : Hp → α → V → Prop} {H H' : Hp} {F : Addr} {ds : List α} {gs : List V} (k : MkA R H H' F ds gs) : H' F = some (.lst gs) := by
  obtain ⟨B, _, _, _, h, _⟩ := k
  exact h
theorem MkA.len {α : Type} {R : Hp → α → V → Prop} {H H' : Hp} {F : Addr} {ds : List α} {gs : List V} (k : MkA R H H' F ds gs) : gs.length = ds.length := by
  obtain ⟨B, _, _, _, _, h⟩ := k
  exact h.len
theorem MkA.more {α : Type} {R : Hp → α → V → Prop} (mono : ∀ (H H' : Hp) (d : α) (x : V), R H d x → Same H H' → R H' d x) {H H' : Hp} {F q : Addr} {ds : List α} {gs : List V} {o : HO} {d : α} {x : V} (k : MkA R H H' F ds gs) (nq : H' q = none)
    (hx : ∀ B, Same H B → B q = none → R (upd B q o) d x) :
    MkA R H (upd (upd H' q o) F (.lst (gs ++ [x]))) F (ds ++ [d]) (gs ++ [x]) ∧ upd H' q o F = some (.lst gs) := by
  obtain ⟨B, h1, h2, h3, h4, h5⟩ := k
  have nB : B q = none := h3.free nq
  have sB := same_new nB o
  have hF : upd H' q o F = some (.lst gs) := same_new nq o _ _ h4
  have fq : F ≠ q := ne_of_none h4 nq
  refine ⟨⟨upd B q o, h1.trans sB, by rw [upd_ne fq]; exact h2, ?_, upd_same, (h5.imp fun d v h => mono _ _ _ _ h sB).app ⟨hx B h1 nB, trivial⟩⟩, hF⟩
  refine same_upd (fun b u e => ?_) (by rw [upd_ne fq]; exact h2) _
  by_cases z : b = q
  · subst z; rw [upd_same] at e ⊢; exact e
  · rw [upd_ne z] at e ⊢; exact h3 _ _ e
theorem MkA.fin {α : Type} {R : Hp → α → V → Prop} (mono : ∀ (H H' : Hp) (d : α) (x : V), R H d x → Same H H' → R H' d x) {H H' : Hp} {F : Addr} {ds : List α} {gs : List V} (k : MkA R H H' F ds gs) : Als (R H') ds gs := by
  obtain ⟨B, _, _, h3, _, h5⟩ := k
  exact h5.imp fun d v h => mono _ _ _ _ h h3
/-- a group of reads -/
def GrpP (H : Hp) (g : List Pr) (x : V) : Prop := ∃ l xs, x = .ref l ∧ H l = some (.lst xs) ∧ Prs H g xs
theorem GrpP.same {H H' : Hp} {g : List Pr} {x : V} (h : GrpP H g x) (k : Same H H') : GrpP H' g x := by
  obtain ⟨l, xs, e, hl, hp⟩ := h
  exact ⟨l, xs, e, k _ _ hl, hp.same k⟩
theorem grpP_mono : ∀ (H H' : Hp) (g : List Pr) (x : V), GrpP H g x → Same H H' → GrpP H' g x := fun _ _ _ _ h k => h.same k
/-- recipes in the making -/
def LongE (H0 H : Hp) (D : Addr) (rs : List Rcp) : Prop := Same H0 H ∧ ∃ xs, H D = some (.lst xs) ∧ Recs H rs xs
theorem Recs.app {H : Hp} : ∀ {rs ss : List Rcp} {vs us : List V}, Recs H rs vs → Recs H ss us → Recs H (rs ++ ss) (vs ++ us)
  | [], _, [], _, _, h => h
  | _ :: _, _, _ :: _, _, h, g => ⟨h.1, Recs.app h.2 g⟩
  | [], _, _ :: _, _, h, _ => h.elim
  | _ :: _, _, [], _, h, _ => h.elim
theorem Recs.drop {H : Hp} : ∀ (n : Nat) {rs : List Rcp} {vs : List V}, Recs H rs vs → Recs H (rs.drop n) (vs.drop n)
  | 0, _, _, h => h
  | _ + 1, [], [], h => h
  | n + 1, _ :: _, _ :: _, h => Recs.drop n h.2
  | _ + 1, [], _ :: _, h => h.elim
  | _ + 1, _ :: _, [], h => h.elim
theorem LongE.start {H : Hp} {D : Addr} (n : H D = none) : LongE H (upd H D (.lst [])) D [] := ⟨same_new n _, [], upd_same, trivial⟩
theorem LongE.put {H0 H H1 : Hp} {D : Addr} {rs : List Rcp} {r : Rcp} {v : V} (k : LongE H0 H D rs) (n0 : H0 D = none) (s : Same H H1) (hr : Rec H1 r v) :
    ∃ xs, H1 D = some (.lst xs) ∧ xs.length = rs.length ∧ LongE H0 (upd H1 D (.lst (xs ++ [v]))) D (rs ++ [r]) := by
  obtain ⟨h1, xs, hD, hR⟩ := k
  exact ⟨xs, s _ _ hD, hR.len, same_upd (h1.trans s) n0 _, _, upd_same, (Recs.snoc hr (hR.keep (same_keep s))).keep (keep_lst (s _ _ hD))⟩
/-! #### pairs of neighbours -/
def rcp0 : Rcp := .num 0
def pairN (rs : List Rcp) (n : Nat) : List Rcp := (List.range n).map fun j => .two .plus (rs.getD (2 * j) rcp0) (rs.getD (2 * j + 1) rcp0)
theorem pairN_len (rs : List Rcp) (n : Nat) : (pairN rs n).length = n := by unfold pairN; rw [List.length_map, List.length_range]
theorem pairN_succ {rs : List Rcp} {n : Nat} {a b : Rcp} (ha : rs[2 * n]? = some a) (hb : rs[2 * n + 1]? = some b) : pairN rs (n + 1) = pairN rs n ++ [.two .plus a b] := by
  unfold pairN
  rw [List.range_succ, List.map_append, List.map_singleton, List.getD_eq_getElem?_getD, List.getD_eq_getElem?_getD, ha, hb]
  rfl
theorem pairN_cons (a b : Rcp) (r : List Rcp) (n : Nat) : pairN (a :: b :: r) (n + 1) = .two .plus a b :: pairN r n := by
  unfold pairN
  rw [List.range_succ_eq_map, List.map_cons, List.map_map]
  refine congrArg _ (List.map_congr_left fun j _ => ?_)
  show Rcp.two .plus ((a :: b :: r).getD (2 * (j + 1)) rcp0) ((a :: b :: r).getD (2 * (j + 1) + 1) rcp0) = _
  rw [show 2 * (j + 1) = 2 * j + 1 + 1 by omega, List.getD_cons_succ, List.getD_cons_succ, List.getD_cons_succ, List.getD_cons_succ]
theorem pairUp_cut : ∀ rs : List Rcp, pairUp rs = pairN rs (rs.length / 2) ++ rs.drop (rs.length / 2 * 2)
  | [] => rfl
  | [a] => by simp [pairUp, pairN]
  | a :: b :: r => by
    have e : (a :: b :: r).length / 2 = r.length / 2 + 1 := by show (r.length + 1 + 1) / 2 = _; omega
    rw [e, pairN_cons, show (r.length / 2 + 1) * 2 = r.length / 2 * 2 + 1 + 1 by omega]
    show Rcp.two .plus a b :: pairUp r = .two .plus a b :: (pairN r (r.length / 2) ++ r.drop (r.length / 2 * 2))
    rw [pairUp_cut r]
theorem pairUp_len (rs : List Rcp) : (pairUp rs).length = (rs.length + 1) / 2 := by
  rw [pairUp_cut, List.length_append, pairN_len, List.length_drop]
  omega
theorem sumUp_step {n : Nat} {rs : List Rcp} (hl : rs.length ≤ 2 ^ n) (h : 1 < rs.length) : ∃ m, n = m + 1 ∧ (pairUp rs).length ≤ 2 ^ m ∧ sumUp n rs = sumUp m (pairUp rs) := by
  cases n with
  | zero => exact absurd hl (by show ¬ rs.length ≤ 1; omega)
  | succ m =>
    have : rs.length ≤ 2 ^ m * 2 := by rw [← Nat.pow_succ]; exact hl
    refine ⟨m, rfl, by rw [pairUp_len]; omega, ?_⟩
    show (if rs.length ≤ 1 then rs else sumUp m (pairUp rs)) = _
    rw [if_neg (by omega)]
theorem sumUp_done {n : Nat} {r : Rcp} : sumUp n [r] = [r] := by
  cases n with
  | zero => rfl
  | succ n => rfl
def spLookedP : Sp := fun vs H Q _ => ∃ x g, vs = [x] ∧ GrpP H g x ∧ 1 ≤ g.length ∧ g.length ≤ 60 ∧ ∀ (H' : Hp) (y : V), Same H H' → Rec H' (lookR g) y → Q y H'
def spGroupedP : Sp := fun vs H Q _ => ∃ (a : Addr) (xs : List V) (ps : List Pr), vs = [.ref a] ∧ H a = some (.lst xs) ∧ Prs H ps xs ∧ xs.length ≤ 60 ∧
  ∀ (H' : Hp) (g : Addr) (gs : List V), Same H H' → H' g = some (.lst gs) → Als (GrpP H') (grp ps) gs → Q (.ref g) H'
def spSummedUpP : Sp := fun vs H Q _ => ∃ (a : Addr) (xs : List V) (rs : List Rcp), vs = [.ref a] ∧ H a = some (.lst xs) ∧ Recs H rs xs ∧ 1 ≤ rs.length ∧ rs.length ≤ 128 ∧ ∀ (H' : Hp) (y : V), Same H H' → Rec H' (sumR rs) y → Q y H'
def sumOf (ps : List Pr) (wo : Int) : Rcp := sumR (ps.map (fun p => .read p.1) ++ [.num (wo - (ps.map (·.2)).sum)])
def spSummedE : Sp := fun vs H Q _ => ∃ (a : Addr) (xs : List V) (ps : List Pr) (wo : Int), vs = [.ref a, .int wo] ∧ H a = some (.lst xs) ∧ Prs H ps xs ∧ ps.length ≤ 29 ∧ ∀ (H' : Hp) (v : V), Same H H' → Rec H' (sumOf ps wo) v → Q v H'
theorem rg3 : ∀ n : Nat, n < 61 → ∀ f : Nat, f < 3 → f ≤ n → Builtin.Range.small f n 3 = true ∧ Builtin.Range.rangeSize f n 3 = (((n - f + 2) / 3 : Nat) : Int) := by decide +kernel
theorem rg2t : ∀ n : Nat, n < 151 → Builtin.Range.small 0 n 2 = true ∧ Builtin.Range.rangeSize 0 n 2 = (((n + 1) / 2 : Nat) : Int) := by decide +kernel
theorem at_two {xs : List V} {i : Nat} {x : V} (j : Int) (hj : j = 2 * (i : Int)) (h : xs[2 * i]? = some x) : atI xs j = some x := by
  rw [hj, show 2 * (i : Int) = ((2 * i : Nat) : Int) by omega]
  exact atI_nat h
theorem at_two1 {xs : List V} {i : Nat} {x : V} (j : Int) (hj : j = 2 * (i : Int) + 1) (h : xs[2 * i + 1]? = some x) : atI xs j = some x := by
  rw [hj, show 2 * (i : Int) + 1 = ((2 * i + 1 : Nat) : Int) by omega]
  exact atI_nat h
theorem cut_from (xs : List V) (a : Nat) : cutV xs (some (a : Int)) none = xs.drop a := by
  show (xs.drop (HT.sIx xs.length 0 (some (a : Int)))).take (HT.sIx xs.length xs.length none - HT.sIx xs.length 0 (some (a : Int))) = _
  rw [HT.sIx_nat, HT.sIx_none]
  by_cases h : a ≤ xs.length
  · rw [Nat.min_eq_left h, List.take_of_length_le (by rw [List.length_drop]; exact Nat.le_refl _)]
  · rw [Nat.min_eq_right (by omega), List.drop_eq_nil_of_le (Nat.le_refl _), List.drop_eq_nil_of_le (by omega), List.take_nil]
section
variable {P : Program} {w : World} {K : PySem.W.Frag} {mg : Str → Option Value} {base : Heap}
abbrev s_looked_through : Stmt := topS 5
abbrev N_looked_through : List Str := ["reads", "found", "name", "number"]
theorem sc_looked_through : FnScope N_looked_through ["reads"] (defScope s_looked_through) := ⟨rfl, rfl, rfl, by decide +kernel, rfl, by decide +kernel, by decide +kernel⟩

theorem ok_looked_through (T : Txt K mg) (D : IsDef K mg "looked_through" s_looked_through ["reads"]) : Cal P w K mg base CX0 1 "looked_through" ["reads"] spLookedP := by
  refine D.cal sc_looked_through (fun vs H Q E h => ?_) (fun f cdv A outer s H vs Q E hr h => ?_)
  · obtain ⟨x, g, rfl, _⟩ := h
    rfl
  obtain ⟨x, g, rfl, ⟨l, xs, rfl, hl, hp⟩, h1, h60, q⟩ := h
  refine ⟨_, (pss_cons (ps_set (i := 1) sc_looked_through.nd rfl (Or.inl rfl) (pe_tup (pa_cons pe_str (pa_cons (pe_ix (r := rIxT K) ix_tup (pe_ix (r := rIxL K) ix_list (pv 0) pe_int (fun _ _ => rfl)) pe_int (fun _ _ => rfl)) pa_nil))))
      (pss_cons (ps_for PassesOwn.never rfl (pi_list (pe_slice (r := rSlL K) sl_list (pv 0) (po_some pe_int) po_none)) (pg_tup rfl (pgs_cons (pg_name (i := 2) sc_looked_through.nd rfl (Or.inl rfl)) (pgs_cons (pg_name (i := 3) sc_looked_through.nd rfl (Or.inl rfl)) pgs_nil)))
        (pss_one (ps_set (i := 1) sc_looked_through.nd rfl (Or.inl rfl) (pe_tup (pa_cons pe_str (pa_cons (pv 1) (pa_cons (pe_tup (pa_cons (pv 2) pa_nil)) pa_nil)))))))
      (pss_one (ps_ret (pv 1))))), ?_⟩
  have hxl := hp.len
  obtain ⟨v0, hv0⟩ : ∃ v0, xs[0]? = some v0 := ⟨xs[0], List.getElem?_eq_getElem (by omega)⟩
  obtain ⟨p0, t0, hp0, rfl, ht0⟩ := hp.at hv0
  obtain ⟨gs, rfl⟩ : ∃ gs, g = p0 :: gs := by
    cases g with
    | nil => exact absurd h1 (by decide)
    | cons a gs => exact ⟨gs, by rw [Option.some.inj (show some a = some p0 from hp0)]⟩
  refine ⟨_, rfl, l, _, _, _, rfl, rfl, SqL.of hl, atI_at (by decide) hv0, t0, _, _, _, rfl, rfl, SqT.of ht0, rfl, le_line (Nat.le_of_ble_eq_true rfl), fun t nt => ?_⟩
  have s1 := same_new nt (.tup [.str "read", .str (SX.S p0.1)])
  refine ⟨_, rfl, _, rfl, l, _, rfl, SqL.of (s1 _ _ hl), fun z nz => ?_⟩
  have s2 := same_new nz (.lst (cutV xs (some 1) none))
  have ec : cutV xs (some 1) none = xs.drop 1 := cut_from xs 1
  refine ⟨z, rfl, ⟨_, SqL.of upd_same⟩, for_list (K := K) (a := z) (xs := cutV xs (some 1) none) (fun i σ H' => ∃ (y : V) (v2 v3 : Option V), σ = [some (.ref l), some y, v2, v3] ∧ Same (upd (upd H t (.tup [.str "read", .str (SX.S p0.1)])) z (.lst (cutV xs (some 1) none))) H' ∧ Rec H' ((gs.take i).foldl lookF (.read p0.1)) y)
    ⟨_, none, none, rfl, Same.refl _, t, rfl, s2 _ _ upd_same⟩ (fun i σ H' _ ⟨_, _, _, _, h, _⟩ => SqL.of (h _ _ upd_same)) ?_ ?_⟩
  · rintro i v σ H1 hv ⟨y, v2, v3, rfl, hs1, hy⟩
    rw [ec] at hv
    obtain ⟨p1, t1, hp1, rfl, ht1⟩ := (hp.drop 1).at hv
    have hp1' : gs[i]? = some p1 := hp1
    refine ⟨t1, _, rfl, SqT.of (hs1 _ _ (s2 _ _ (s1 _ _ ht1))), rfl, _, _, rfl, _, _, rfl, rfl, ?_⟩
    refine ⟨_, rfl, _, rfl, le_line (Nat.le_of_ble_eq_true rfl), fun u nu => ⟨le_line (Nat.le_of_ble_eq_true rfl), fun t2 nt2 => ?_⟩⟩
    have su := same_new nu (.tup [.str (SX.S p1.1)])
    have s3 := same_new nt2 (.tup [.str "choose", y, .ref u])
    refine ⟨_, _, _, rfl, hs1.trans (su.trans s3), ?_⟩
    rw [List.take_add_one, hp1', List.foldl_append]
    exact ⟨t2, y, u, rfl, upd_same, (hy.same su).same s3, s3 _ _ upd_same⟩
  · rintro σ H1 ⟨y, v2, v3, rfl, hs1, hy⟩
    rw [ec, List.length_drop, hxl, List.take_of_length_le (by show gs.length ≤ gs.length + 1 - 1; omega)] at hy
    exact ⟨_, rfl, q _ y (s1.trans (s2.trans hs1)) hy⟩
abbrev s_grouped : Stmt := topS 6
abbrev N_grouped : List Str := ["reads", "first", "found", "at"]
theorem sc_grouped : FnScope N_grouped ["reads"] (defScope s_grouped) := ⟨rfl, rfl, rfl, by decide +kernel, rfl, by decide +kernel, by decide +kernel⟩

theorem ok_grouped (T : Txt K mg) (gL : ∃ t, mg "LONGEST" = some (.int 3 t)) (D : IsDef K mg "grouped" s_grouped ["reads"]) : Cal P w K mg base CX0 1 "grouped" ["reads"] spGroupedP := by
  refine D.cal sc_grouped (fun vs H Q E h => ?_) (fun f cdv A outer s H vs Q E hr h => ?_)
  · obtain ⟨a, xs, ps, rfl, _⟩ := h
    rfl
  obtain ⟨a, xs, ps, rfl, ha, hp, h60, q⟩ := h
  obtain ⟨_, g_LONGEST⟩ := gL
  refine ⟨_, (pss_cons (ps_set (i := 1) sc_grouped.nd rfl (Or.inl rfl) (pe_op op_mod (pe_callB call_len_seq (by rfl) T.b_len PySem.boot_len (pa_cons (pv 0) pa_nil)) (pe_glob (v := .int _) rfl g_LONGEST ⟨_, rfl⟩)))
      (pss_cons (ps_set (i := 2) sc_grouped.nd rfl (Or.inl rfl) (pe_lst pa_nil))
      (pss_cons (ps_if (pt_cmpR op_gt (pv 1) pe_int (nomark _))
        (pss_one (ps_expr (pe_bm PySem.F.plainAttrs_list PySem.F.slot_list_append PySem.F.type_list_append mt_append (pv 2) (pa_cons (pe_slice (r := rSlL K) sl_list (pv 0) po_none (po_some (pv 1))) pa_nil))))
        pss_nil)
      (pss_cons (ps_for PassesOwn.never rfl (pi_range3 rfl T.b_range (pa_cons (pv 1) (pa_cons (pe_callB call_len_seq (by rfl) T.b_len PySem.boot_len (pa_cons (pv 0) pa_nil)) (pa_cons (pe_glob (v := .int _) rfl g_LONGEST ⟨_, rfl⟩) pa_nil)))) (pg_name (i := 3) sc_grouped.nd rfl (Or.inl rfl))
        (pss_one (ps_expr (pe_bm PySem.F.plainAttrs_list PySem.F.slot_list_append PySem.F.type_list_append mt_append (pv 2) (pa_cons (pe_slice (r := rSlL K) sl_list (pv 0) (po_some (pv 3)) (po_some (pe_op op_add (pv 3) (pe_glob (v := .int _) rfl g_LONGEST ⟨_, rfl⟩)))) pa_nil)))))
      (pss_one (ps_ret (pv 2))))))), ?_⟩
  have hxl := hp.len
  have m0 : 0 ≤ ((xs.length : Nat) : Int) % 3 := Int.emod_nonneg _ (by decide)
  have m1 : ((xs.length : Nat) : Int) % 3 < 3 := Int.emod_lt_of_pos _ (by decide)
  refine ⟨_, rfl, a, _, rfl, .inl (SqL.of ha), _, _, rfl, rfl, (by show (0 : Int) < 3; decide), ?_⟩
  refine ⟨le_line (Nat.le_of_ble_eq_true rfl), fun F nF => ?_⟩
  refine ⟨_, rfl, _, _, rfl, rfl, _, rfl, ?_⟩
  have hlF : a ≠ F := ne_of_none ha nF
  have rg := rg3 xs.length (by omega) (((xs.length : Nat) : Int) % 3).toNat (by omega) (by omega)
  rw [show ((((((xs.length : Nat) : Int) % 3).toNat : Nat) : Int)) = ((xs.length : Nat) : Int) % 3 by omega] at rg
  have em : (((xs.length : Nat) : Int) % 3).toNat = ps.length % 3 := by omega
  refine ite2 (fun c => ?_) (fun c => ?_)
  · have c2 : ((xs.length : Nat) : Int) % 3 > 0 := of_decide_eq_true c
    refine ⟨_, rfl, .inl ⟨rfl, _, SqL.of upd_same⟩, _, rfl, _, rfl, _, rfl, a, _, rfl, SqL.of ((same_new nF _) _ _ ha), fun z nz => ?_⟩
    have hc : cutV xs none (some (((xs.length : Nat) : Int) % 3)) = xs.take (((xs.length : Nat) : Int) % 3).toNat := by
      have := cut_to xs (((xs.length : Nat) : Int) % 3).toNat
      rw [show ((((((xs.length : Nat) : Int) % 3).toNat : Nat) : Int)) = ((xs.length : Nat) : Int) % 3 by omega] at this
      exact this
    rw [hc]
    obtain ⟨hM, hF⟩ := MkA.more (R := GrpP) grpP_mono (MkA.start nF) (q := z) (o := .lst (xs.take (((xs.length : Nat) : Int) % 3).toNat)) (d := ps.take (((xs.length : Nat) : Int) % 3).toNat) (x := .ref z) nz fun B hB nB => ⟨z, _, rfl, upd_same, (hp.same (hB.trans (same_new nB _))).take _⟩
    refine ⟨F, _, _, rfl, rfl, hF, lt_line (by decide), ?_⟩
    have hgrp : grp ps = [ps.take (((xs.length : Nat) : Int) % 3).toNat] ++ chunk3 ps (((xs.length : Nat) : Int) % 3).toNat ((xs.length - (((xs.length : Nat) : Int) % 3).toNat + 2) / 3) := by
      unfold grp
      rw [em, hxl, if_pos (by omega)]
    obtain ⟨ds0, gs0, hM, hdl, hgrp⟩ : ∃ (ds0 : List (List Pr)) (gs0 : List V), MkA GrpP H (upd (upd (upd H F (.lst [])) z (.lst (xs.take (((xs.length : Nat) : Int) % 3).toNat))) F (.lst ([] ++ [.ref z]))) F ds0 gs0 ∧ ds0.length ≤ 1 ∧ grp ps = ds0 ++ chunk3 ps (((xs.length : Nat) : Int) % 3).toNat ((xs.length - (((xs.length : Nat) : Int) % 3).toNat + 2) / 3) := ⟨[] ++ [ps.take (((xs.length : Nat) : Int) % 3).toNat], _, hM, by simp, hgrp⟩
    refine ⟨_, rfl, _, rfl, a, _, rfl, .inl (SqL.of (hM.same _ _ ha)), _, _, 3, (xs.length - (((xs.length : Nat) : Int) % 3).toNat + 2) / 3, rfl, ⟨by decide, by decide, rg.1, rg.2⟩, for_rangeC (lo := ((xs.length : Nat) : Int) % 3) (c := 3) (n := (xs.length - (((xs.length : Nat) : Int) % 3).toNat + 2) / 3)
      (fun i σ H' => ∃ (v3 : Option V) (gs : List V), σ = [some (.ref a), some (.int (((xs.length : Nat) : Int) % 3)), some (.ref F), v3] ∧ MkA GrpP H H' F (ds0 ++ chunk3 ps (((xs.length : Nat) : Int) % 3).toNat i) gs) ⟨none, gs0, rfl, by rw [show chunk3 ps (((xs.length : Nat) : Int) % 3).toNat 0 = [] from rfl, List.append_nil]; exact hM⟩ ?_ ?_⟩
    · rintro i σ H3 hi ⟨v3, gs, rfl, hM3⟩
      refine ⟨_, rfl, .inl ⟨rfl, _, SqL.of hM3.at⟩, _, rfl, _, rfl, _, rfl, _, rfl, _, _, rfl, rfl, _, rfl, a, _, rfl, SqL.of (hM3.same _ _ ha), fun z nz => ?_⟩
      have hc : cutV xs (some (((xs.length : Nat) : Int) % 3 + (i : Int) * 3)) (some (((xs.length : Nat) : Int) % 3 + (i : Int) * 3 + 3)) = (xs.drop ((((xs.length : Nat) : Int) % 3).toNat + i * 3)).take 3 := by
        have := cut_nat xs (a := (((xs.length : Nat) : Int) % 3).toNat + i * 3) (b := (((xs.length : Nat) : Int) % 3).toNat + i * 3 + 3) (by omega)
        rw [show ((((((xs.length : Nat) : Int) % 3).toNat + i * 3 : Nat) : Int)) = ((xs.length : Nat) : Int) % 3 + (i : Int) * 3 by omega, show ((((((xs.length : Nat) : Int) % 3).toNat + i * 3 + 3 : Nat) : Int)) = ((xs.length : Nat) : Int) % 3 + (i : Int) * 3 + 3 by omega] at this
        rw [this]
        congr 1
        omega
      rw [hc]
      obtain ⟨hM4, hF4⟩ := MkA.more (R := GrpP) grpP_mono hM3 (q := z) (o := .lst ((xs.drop ((((xs.length : Nat) : Int) % 3).toNat + i * 3)).take 3)) (d := (ps.drop ((((xs.length : Nat) : Int) % 3).toNat + i * 3)).take 3) (x := .ref z) nz fun B hB nB => ⟨z, _, rfl, upd_same, ((hp.same (hB.trans (same_new nB _))).drop _).take _⟩
      have hgl := hM3.len
      have hch : (chunk3 ps (((xs.length : Nat) : Int) % 3).toNat i).length = i := by unfold chunk3; rw [List.length_map, List.length_range]
      refine ⟨F, _, _, rfl, rfl, hF4, lt_line (by rw [hgl, List.length_append, hch]; omega), _, gs ++ [.ref z], rfl, ?_⟩
      rw [show chunk3 ps (((xs.length : Nat) : Int) % 3).toNat (i + 1) = chunk3 ps (((xs.length : Nat) : Int) % 3).toNat i ++ [(ps.drop ((((xs.length : Nat) : Int) % 3).toNat + i * 3)).take 3] by unfold chunk3; rw [List.range_succ, List.map_append]; rfl, ← List.append_assoc]
      exact hM4
    · rintro σ H3 ⟨v3, gs, rfl, hM3⟩
      refine ⟨_, rfl, q _ F gs hM3.same hM3.at ?_⟩
      have := MkA.fin (R := GrpP) grpP_mono hM3
      rw [hgrp]
      exact this
  ·
    have hM := MkA.start (R := GrpP) nF
    have hgrp : grp ps = [] ++ chunk3 ps (((xs.length : Nat) : Int) % 3).toNat ((xs.length - (((xs.length : Nat) : Int) % 3).toNat + 2) / 3) := by
      have c2 : ¬ ((xs.length : Nat) : Int) % 3 > 0 := fun z => c (decide_eq_true z)
      unfold grp
      rw [em, hxl, if_neg (by omega)]
    obtain ⟨ds0, gs0, hM, hdl, hgrp⟩ : ∃ (ds0 : List (List Pr)) (gs0 : List V), MkA GrpP H (upd H F (.lst [])) F ds0 gs0 ∧ ds0.length ≤ 1 ∧ grp ps = ds0 ++ chunk3 ps (((xs.length : Nat) : Int) % 3).toNat ((xs.length - (((xs.length : Nat) : Int) % 3).toNat + 2) / 3) := ⟨_, _, hM, Nat.zero_le 1, hgrp⟩
    refine ⟨_, rfl, _, rfl, a, _, rfl, .inl (SqL.of (hM.same _ _ ha)), _, _, 3, (xs.length - (((xs.length : Nat) : Int) % 3).toNat + 2) / 3, rfl, ⟨by decide, by decide, rg.1, rg.2⟩, for_rangeC (lo := ((xs.length : Nat) : Int) % 3) (c := 3) (n := (xs.length - (((xs.length : Nat) : Int) % 3).toNat + 2) / 3)
      (fun i σ H' => ∃ (v3 : Option V) (gs : List V), σ = [some (.ref a), some (.int (((xs.length : Nat) : Int) % 3)), some (.ref F), v3] ∧ MkA GrpP H H' F (ds0 ++ chunk3 ps (((xs.length : Nat) : Int) % 3).toNat i) gs) ⟨none, gs0, rfl, by rw [show chunk3 ps (((xs.length : Nat) : Int) % 3).toNat 0 = [] from rfl, List.append_nil]; exact hM⟩ ?_ ?_⟩
    · rintro i σ H3 hi ⟨v3, gs, rfl, hM3⟩
      refine ⟨_, rfl, .inl ⟨rfl, _, SqL.of hM3.at⟩, _, rfl, _, rfl, _, rfl, _, rfl, _, _, rfl, rfl, _, rfl, a, _, rfl, SqL.of (hM3.same _ _ ha), fun z nz => ?_⟩
      have hc : cutV xs (some (((xs.length : Nat) : Int) % 3 + (i : Int) * 3)) (some (((xs.length : Nat) : Int) % 3 + (i : Int) * 3 + 3)) = (xs.drop ((((xs.length : Nat) : Int) % 3).toNat + i * 3)).take 3 := by
        have := cut_nat xs (a := (((xs.length : Nat) : Int) % 3).toNat + i * 3) (b := (((xs.length : Nat) : Int) % 3).toNat + i * 3 + 3) (by omega)
        rw [show ((((((xs.length : Nat) : Int) % 3).toNat + i * 3 : Nat) : Int)) = ((xs.length : Nat) : Int) % 3 + (i : Int) * 3 by omega, show ((((((xs.length : Nat) : Int) % 3).toNat + i * 3 + 3 : Nat) : Int)) = ((xs.length : Nat) : Int) % 3 + (i : Int) * 3 + 3 by omega] at this
        rw [this]
        congr 1
        omega
      rw [hc]
      obtain ⟨hM4, hF4⟩ := MkA.more (R := GrpP) grpP_mono hM3 (q := z) (o := .lst ((xs.drop ((((xs.length : Nat) : Int) % 3).toNat + i * 3)).take 3)) (d := (ps.drop ((((xs.length : Nat) : Int) % 3).toNat + i * 3)).take 3) (x := .ref z) nz fun B hB nB => ⟨z, _, rfl, upd_same, ((hp.same (hB.trans (same_new nB _))).drop _).take _⟩
      have hgl := hM3.len
      have hch : (chunk3 ps (((xs.length : Nat) : Int) % 3).toNat i).length = i := by unfold chunk3; rw [List.length_map, List.length_range]
      refine ⟨F, _, _, rfl, rfl, hF4, lt_line (by rw [hgl, List.length_append, hch]; omega), _, gs ++ [.ref z], rfl, ?_⟩
      rw [show chunk3 ps (((xs.length : Nat) : Int) % 3).toNat (i + 1) = chunk3 ps (((xs.length : Nat) : Int) % 3).toNat i ++ [(ps.drop ((((xs.length : Nat) : Int) % 3).toNat + i * 3)).take 3] by unfold chunk3; rw [List.range_succ, List.map_append]; rfl, ← List.append_assoc]
      exact hM4
    · rintro σ H3 ⟨v3, gs, rfl, hM3⟩
      refine ⟨_, rfl, q _ F gs hM3.same hM3.at ?_⟩
      have := MkA.fin (R := GrpP) grpP_mono hM3
      rw [hgrp]
      exact this
abbrev s_summed_up : Stmt := topS 7
abbrev N_summed_up : List Str := ["parts", "left", "pairs", "k"]
theorem sc_summed_up : FnScope N_summed_up ["parts"] (defScope s_summed_up) := ⟨rfl, rfl, rfl, by decide +kernel, rfl, by decide +kernel, by decide +kernel⟩

theorem ok_summed_up (T : Txt K mg) (D : IsDef K mg "summed_up" s_summed_up ["parts"]) : Cal P w K mg base CX0 1 "summed_up" ["parts"] spSummedUpP := by
  refine D.cal sc_summed_up (fun vs H Q E h => ?_) (fun f cdv A outer s H vs Q E hr h => ?_)
  · obtain ⟨a, xs, rs, rfl, _⟩ := h
    rfl
  obtain ⟨a, xs0, rs0, rfl, ha, hR0, h1, h128, q⟩ := h
  refine ⟨_, (pss_cons (ps_set (i := 1) sc_summed_up.nd rfl (Or.inl rfl) (pe_callTy call_list_of (by rfl) T.b_list (by decide +kernel) (pa_cons (pv 0) pa_nil)))
      (pss_cons (ps_while PassesOwn.never (pt_cmpR op_gt (pe_callB call_len_seq (by rfl) T.b_len PySem.boot_len (pa_cons (pv 1) pa_nil)) pe_int (nomark _))
        (pss_cons (ps_set (i := 2) sc_summed_up.nd rfl (Or.inl rfl) (pe_lst pa_nil))
      (pss_cons (ps_for PassesOwn.never rfl (pi_range3 rfl T.b_range (pa_cons pe_int (pa_cons (pe_op op_sub (pe_callB call_len_seq (by rfl) T.b_len PySem.boot_len (pa_cons (pv 1) pa_nil)) pe_int) (pa_cons pe_int pa_nil)))) (pg_name (i := 3) sc_summed_up.nd rfl (Or.inl rfl))
        (pss_one (ps_expr (pe_bm PySem.F.plainAttrs_list PySem.F.slot_list_append PySem.F.type_list_append mt_append (pv 2) (pa_cons (pe_tup (pa_cons pe_str (pa_cons (pe_ix (r := rIxL K) ix_list (pv 1) (pv 3) (fun _ _ => rfl)) (pa_cons (pe_ix (r := rIxL K) ix_list (pv 1) (pe_op op_add (pv 3) pe_int) (fun _ _ => rfl)) pa_nil)))) pa_nil)))))
      (pss_cons (ps_if (pt_cmpR op_eq (pe_op op_mod (pe_callB call_len_seq (by rfl) T.b_len PySem.boot_len (pa_cons (pv 1) pa_nil)) pe_int) pe_int (nomark _))
        (pss_one (ps_expr (pe_bm PySem.F.plainAttrs_list PySem.F.slot_list_append PySem.F.type_list_append mt_append (pv 2) (pa_cons (pe_ix (r := rIxL K) ix_list (pv 1) (pe_un un_neg pe_int) (fun _ _ => rfl)) pa_nil))))
        pss_nil)
      (pss_one (ps_set (i := 1) sc_summed_up.nd rfl (Or.inl rfl) (pv 2)))))))
      (pss_one (ps_ret (pe_ix (r := rIxL K) ix_list (pv 1) pe_int (fun _ _ => rfl)))))), ?_⟩
  refine ⟨_, rfl, a, xs0, rfl, .inl (SqL.of ha), fun L0 nL0 => ?_⟩
  refine ⟨fun m σ H' => ∃ (L : Addr) (xs : List V) (rs : List Rcp) (n : Nat) (v2 v3 : Option V), σ = [some (.ref a), some (.ref L), v2, v3] ∧ Same H H' ∧ H' L = some (.lst xs) ∧ Recs H' rs xs ∧ 1 ≤ rs.length ∧ rs.length ≤ 128 ∧ rs.length ≤ 2 ^ n ∧ sumUp 7 rs0 = sumUp n rs ∧ m = rs.length,
    ⟨_, L0, xs0, rs0, 7, none, none, rfl, same_new nL0 _, upd_same, hR0.keep (same_keep (same_new nL0 _)), h1, h128, h128, rfl, rfl⟩, ?_⟩
  rintro m σ H2 ⟨L, xs, rs, n, v2, v3, rfl, hs, hL, hR, l1, l128, ln, hsu, rfl⟩
  have hxl := hR.len
  refine ⟨_, rfl, L, _, rfl, .inl (SqL.of hL), _, _, rfl, rfl, _, rfl, ?_⟩
  refine ite2 (fun c => ?_) (fun c => ?_)
  · have c2 : ((xs.length : Nat) : Int) > 1 := of_decide_eq_true c
    obtain ⟨m, rfl, hlm, hstep⟩ := sumUp_step ln (by omega)
    refine ⟨_, fun σ' H' h => h, ?_⟩
    have rg := rg2t (xs.length - 1) (by omega)
    have en : ((xs.length : Nat) : Int) - 1 = ((xs.length - 1 : Nat) : Int) := by omega
    have en2 : (xs.length - 1 + 1) / 2 = rs.length / 2 := by omega
    refine ⟨le_line (Nat.le_of_ble_eq_true rfl), fun F nF => ?_⟩
    refine ⟨_, rfl, L, _, rfl, .inl (SqL.of (same_new nF _ _ _ hL)), _, _, rfl, rfl, 0, _, 2, (xs.length - 1 + 1) / 2, rfl, ⟨by decide, by decide, by rw [en]; exact rg.1, by rw [en]; exact rg.2⟩, for_rangeC (lo := 0) (c := 2) (n := (xs.length - 1 + 1) / 2)
      (fun i σ H' => ∃ (v3 : Option V), σ = [some (.ref a), some (.ref L), some (.ref F), v3] ∧ LongE H2 H' F (pairN rs i)) ⟨_, rfl, LongE.start nF⟩ ?_ ?_⟩
    · rintro i σ H3 hi ⟨w3, rfl, hM⟩
      have hL3 := hM.1 _ _ hL
      obtain ⟨v1, r1, hv1, hr1, hR1⟩ := hR.get (i := 2 * i) (by omega)
      obtain ⟨v2, r2, hv2, hr2, hR2⟩ := hR.get (i := 2 * i + 1) (by omega)
      obtain ⟨zs, hz, _⟩ := id hM.2
      refine ⟨_, rfl, .inl ⟨rfl, _, SqL.of hz⟩, _, rfl, _, rfl, L, _, _, _, rfl, rfl, SqL.of hL3, at_two _ (by omega) hv1, _, rfl, _, rfl, _, _, rfl, rfl, L, _, _, _, rfl, rfl, SqL.of hL3, at_two1 _ (by omega) hv2, le_line (Nat.le_of_ble_eq_true rfl), fun u nu => ?_⟩
      have su := same_new nu (.tup [.str "plus", v1, v2])
      obtain ⟨ys, hy, hl, hM2⟩ := hM.put nF su (r := .two .plus r1 r2) (v := .ref u) ⟨u, v1, v2, rfl, upd_same, (hR1.same hM.1).same su, (hR2.same hM.1).same su⟩
      rw [← pairN_succ hr1 hr2] at hM2
      exact ⟨F, _, _, rfl, rfl, hy, lt_line (by rw [hl, pairN_len]; omega), _, rfl, hM2⟩
    · rintro σ H3 ⟨w3, rfl, hM⟩
      have hL3 := hM.1 _ _ hL
      obtain ⟨zs, hz, hzR⟩ := id hM.2
      have hzl := hzR.len
      rw [pairN_len] at hzl
      have hcut := pairUp_cut rs
      have hul := pairUp_len rs
      refine ⟨_, rfl, L, _, rfl, .inl (SqL.of hL3), _, _, rfl, rfl, (by show (0 : Int) < 2; decide), rfl, _, rfl, ?_⟩
      refine ite2 (fun c3 => ?_) (fun c3 => ?_)
      · have c4 : ((xs.length : Nat) : Int) % 2 = 1 := V.int.inj (of_decide_eq_true c3)
        obtain ⟨v, r, hv, hr', hRv⟩ := hR.get (i := rs.length / 2 * 2) (by omega)
        have hlast : rs.drop (rs.length / 2 * 2) = [r] := by
          have hlt : rs.length / 2 * 2 < rs.length := by omega
          rw [List.drop_eq_getElem_cons hlt, List.drop_eq_nil_of_le (by omega), Option.some.inj ((List.getElem?_eq_getElem hlt).symm.trans hr')]
        have hat : atI xs (-1) = some v := by
          have hlt : rs.length / 2 * 2 < xs.length := by omega
          have : xs = xs.take (rs.length / 2 * 2) ++ [v] := by
            have e := List.take_append_drop (rs.length / 2 * 2) xs
            rw [List.drop_eq_getElem_cons hlt, List.drop_eq_nil_of_le (by omega), Option.some.inj ((List.getElem?_eq_getElem hlt).symm.trans hv)] at e
            exact e.symm
          rw [this]
          exact atI_last _ _
        obtain ⟨ys, hy, hl, hM2⟩ := hM.put nF (Same.refl _) (r := r) (v := v) (hRv.same hM.1)
        refine ⟨_, rfl, .inl ⟨rfl, _, SqL.of hz⟩, _, rfl, _, rfl, L, _, _, _, rfl, rfl, SqL.of hL3, hat, F, _, _, rfl, rfl, hy, lt_line (by rw [hl, pairN_len]; omega), ?_⟩
        rw [en2, ← hlast, ← hcut] at hM2
        obtain ⟨us, hu1, hu2⟩ := id hM2.2
        exact ⟨_, rfl, _, by rw [hul]; omega, F, us, pairUp rs, m, _, _, rfl, hs.trans hM2.1, hu1, hu2, by omega, by omega, hlm, hsu.trans hstep, rfl⟩
      · have c4 : ¬ ((xs.length : Nat) : Int) % 2 = 1 := fun z => c3 (decide_eq_true (congrArg V.int z))
        rw [List.drop_eq_nil_of_le (by omega), List.append_nil] at hcut
        rw [en2, ← hcut] at hzR
        exact ⟨_, rfl, _, by rw [hul]; omega, F, zs, pairUp rs, m, _, _, rfl, hs.trans hM.1, hz, hzR, by omega, by omega, hlm, hsu.trans hstep, rfl⟩
  · have c2 : ¬ ((xs.length : Nat) : Int) > 1 := fun z => c (decide_eq_true z)
    obtain ⟨r, rfl⟩ := List.length_eq_one_iff.mp (show rs.length = 1 by omega)
    obtain ⟨v, r', hv, hr', hRv⟩ := hR.get (i := 0) (by show 0 < 1; decide)
    obtain rfl : r = r' := Option.some.inj hr'
    refine ⟨_, rfl, L, _, _, _, rfl, rfl, SqL.of hL, atI_at (by decide) hv, q _ _ hs ?_⟩
    unfold sumR
    rw [hsu, sumUp_done]
    exact hRv
end
end Mad
/-! ### try .. except X as n, where the caught error is tracked behind the suite -/
namespace L2
open PySem PySem.Spec PyProof.Rows
def EzO (cls : Value) (d : Option Addr) (a : Addr) : HO := .ext fun h =>
  ∃ (oe : Obj) (vs : Array Value), h.get? a = some oe ∧ Zc cls d oe ∧
    oe.data = .fields vs
theorem ezO_ok {P : Program} {w : World} {H : Hp} {h : Heap} {a : Addr} {cls : Value} {d : Option Addr} {oe : Obj} {vs : Array Value}
    (e : h.get? a = some oe) (z : Zc cls d oe) (k : oe.data = .fields vs) : ObjOk P w H h a (EzO cls d a) :=
  ⟨⟨oe, vs, e, z, k⟩, ⟨oe, e⟩, fun _ _ y r => by
    obtain ⟨o, v, q, t⟩ := y
    exact ⟨o, v, r o q, t⟩⟩
section
variable {X : Cx} {pins : List (Addr × Obj)} {σ : St} {H : Hp} {B : Heap} {sI s' : Shared}
theorem Inv.landedT {a : Addr} {o : HO} (I : Inv X pins σ H sI) (nb : ∀ b u, sI.heap.get? b = some u → b ∉ frs X.stack → B.get? b = some u)
    (st : B.StaysIn s'.heap) (up : sI.heap.UpToSlots s'.heap) (os : s'.os = sI.os) (ag : AllBare s'.gens)
    (n0 : sI.heap.get? a = none) (na : H a = none) (new : ObjOk X.prog X.w (upd H a o) s'.heap a o) : Inv X pins σ (upd H a o) s' := by
  have nf : ∀ b ∈ frs X.stack, ∀ u, sI.heap.get? b = some u → ∃ sl, s'.heap.get? b = some { u with slots := sl } := by
    intro b hb u e
    obtain ⟨_, u', e', hd⟩ := I.stack.mem hb
    rw [e] at e'
    cases e'
    exact up b u e hd
  have U : Un (frs X.stack) [] H (upd H a o) sI.heap s'.heap := by
    refine ⟨fun b u e _ hb _ => st b u (nb b u e hb), fun b u e _ hb _ => nf b hb u e, fun b u e n _ => ?_, fun b u e _ => ?_, fun b xs q => ?_, fun b u xs q => ?_, fun b ps q => ?_⟩
    · have z : b ≠ a := fun z => by rw [z, n0] at e; cases e
      rw [upd_ne z]
      exact n
    · by_cases hb : b ∈ frs X.stack
      · obtain ⟨sl, q⟩ := nf b hb u e
        exact ⟨_, q⟩
      · exact ⟨u, st b u (nb b u e hb)⟩
    · rw [upd_ne (ne_of_none q na)]
      exact q
    · rw [upd_ne (ne_of_none q na)]
      exact q
    · exact ⟨#[], by rw [upd_ne (ne_of_none q na), q]; simp⟩
  have J := I.call (ch := []) (h' := s'.heap) (g' := s'.gens) (t' := s'.toks) (d' := s'.drawn) U
    (HOk.laidN ((I.inGround nb).kept st) (fun _ _ h => h) na new) ag (fun _ z => nomatch z)
  obtain ⟨a1, a2, a3, a4, a5⟩ := s'
  have e5 : a5 = sI.os := os
  subst e5
  exact J
theorem Inv.suiteN {s : Shared} (I : Inv X pins σ H s) (a : Addr) : Inv (X.suite a (X.pn ++ pins)) [] σ H s :=
  ⟨I.ok.suite _ _, I.os, I.bare, I.base, I.loc,
    I.cell, I.free, I.freeC,
    fun p hp => I.pin p (by rw [List.append_nil] at hp; exact hp), I.hok, I.len⟩
theorem Inv.unsuiteN {s : Shared} {a : Addr} (I : Inv (X.suite a (X.pn ++ pins)) [] σ H s) (ok : X.Ok) : Inv X pins σ H s :=
  ⟨ok, I.os, I.bare, I.base, I.loc,
    I.cell, I.free, I.freeC,
    fun p hp => I.pin p (List.mem_append_left _ hp), I.hok, I.len⟩
end
/-- what the clause wishes of an error of the body: slot i is n's; the error is tracked from here on -/
def wKeep (K : PySem.W.Frag) (c : Value) (i : Nat) (ts : Addr → Value → Option Addr → TS) (Wout : WX) (D : Ends) : WX := fun cls d σ H =>
  ∃ b, PySem.W.exmOne K cls c = some b ∧
    (b = true → ∀ a, H a = none → ts a cls d
      { nx := fun σ2 H2 => D.nx (σ2.set i none) H2, rt := D.rt, bk := fun σ2 H2 => D.bk (σ2.set i none) H2, ct := fun σ2 H2 => D.ct (σ2.set i none) H2 }
      (σ.set i (some (.ref a))) (upd H a (EzO cls d a))) ∧
    (b = false → Wout cls d σ H)
section
variable {X : Cx} {x n : Str} {c : Value} {i : Nat} {body suite : List Stmt} {b₀ : Stmt} {np pos pos' : Pos} {tb : WX → TS} {ts : Addr → Value → Option Addr → TS} {Wout : WX}
theorem ps_try_keep (hs : X.stack = X.env :: X.outer) (hf : X.env.frame = some X.env.locals) (hN : X.N.Nodup)
    (hi : X.N[i]? = some n) (hln : X.env.kindOf n = some .local) (hc : Names X x c) (tk : Takes X Wout)
    (hb : ∀ (W : WX) (pn : List (Addr × Obj)) (xe : Value → Shared → Prop), Takes (X.tr pn xe) W →
      PassesOwn (model X.prog X.w) X.A X.env xe → PSs (X.tr pn xe) body (tb W))
    (hsu : ∀ (a : Addr) (cls : Value) (d : Option Addr) (pn : List (Addr × Obj)),
      PSs (X.suite a pn) (b₀ :: suite) (ts a cls d)) :
    PS X (.Try body [.ExceptHandler (some (.Name x np)) (some n) (b₀ :: suite) pos'] [] [] pos)
      (fun D σ H => tb (wKeep X.K c i ts Wout D) D σ H) := by
  refine ⟨fun pins s σ H D I h => ?_⟩
  have okX := I.ok
  have hfr : X.A.frames = some (X.env :: X.outer) := by
    rw [okX.frames, hs]
  have hlc : Loc X.env.scope n := .inl hln
  refine wpAny_Try_except ?_
  refine wpAny_mono
    ((hb (wKeep X.K c i ts Wout D) (X.pn ++ pins)
      (fun e t1 => wpAny (model X.prog X.w) X.A (noteFrame e X.env)
        (fun _ t2 => wpAny (model X.prog X.w) X.A (setFlight e none)
          (fun _ t3 => wpAny (model X.prog X.w) X.A (handleBy e X.env [.ExceptHandler (some (.Name x np)) (some n) (b₀ :: suite) pos']) (SP X pins D) X.xe t3)
          X.xe t2)
        X.xe t1)
      (fun u t xx => ?_) PassesOwn.looking).run [] s σ H D (I.toTry _) h)
    (fun f s1 hsp => ?_) (fun e s1 he => he)
  · obtain ⟨a, B, sI, pn2, σ2, H2, cls, d, rfl, J0, nb, up, sky, na, os, ag, b, hb1, hyes, hno⟩ := xx
    have J : Inv X pins σ2 H2 sI := J0.ofTry okX
    have sky2 : Sky B (X.env :: X.outer) a (Zc cls d) X.env.locals t.heap := by
      rw [← hs]
      exact sky
    show wpAny (model X.prog X.w) X.A (noteFrame (.ref a) X.env) _ _ _
    refine Sky.land Zc.steady hfr hf sky2 fun h3 fl3 up3 => ?_
    have J3 : Inv X pins σ2 H2 { t with heap := h3 } :=
      J.landed nb fl3.1 (up.trans up3) os ag
    obtain ⟨oe3, vs3, he3, hz3, hd3⟩ := fl3.there
    have nfr : a ∉ frs (X.env :: X.outer) := fun hm => by
      obtain ⟨_, o', e', hnf⟩ := fl3.2.2.1.mem hm
      rw [he3] at e'
      cases e'
      exact hnf _ hd3
    have n0 : sI.heap.get? a = none := by
      cases q : sI.heap.get? a with
      | none => rfl
      | some u =>
        have z := nb a u q (by rw [hs]; exact nfr)
        rw [fl3.2.1] at z
        cases z
    have S3 := J3.suiteN a
    refine wpAny_handleBy_cons (codeAny_handlers_test ?_) (by intro q; cases q)
    have LT : PySem.W.Looks (model X.prog X.w) h3 (typeOf (.ref a)) cls := fun A Q E s k q =>
      wpAny_typeOf_ref (k _ _ he3) (by rw [hz3.1]; exact q)
    have LM := PySem.W.exm_one (M := model X.prog X.w) (J3.kIn) LT hb1
    have test : ∀ {Q : Value → Shared → Prop} {E : Value → Shared → Prop}, Q c { t with heap := h3 } →
        wpAny (model X.prog X.w) (X.A.mark (some (.ref a))) (eval (.Name x np) X.env) Q E { t with heap := h3 } := by
      intro Q E q
      obtain ⟨hg, hdbg, hm | ⟨hm, hv, hnn⟩⟩ := hc
      · exact ld_glob (X := X.suite a (X.pn ++ pins)) S3 hg hm q hdbg
      · exact ld_blt (X := X.suite a (X.pn ++ pins)) S3 hg hm hv q hnn hdbg
    refine test (LM.here ?_)
    cases b with
    | true =>
      refine codeAny_handlers_suite_as ?_
      refine HandSPX.lands_againZ fl3 fun h4 fl4 up4 => ?_
      obtain ⟨oe4, vs4, he4, hz4, hd4⟩ := fl4.there
      have J4 : Inv X pins σ2 (upd H2 a (EzO cls d a)) { t with heap := h4 } :=
        J.landedT nb fl4.1 ((up.trans up3).trans up4) os ag n0 na (ezO_ok he4 hz4 hd4)
      have S4 := J4.suiteN a
      refine store_ok (X := X.suite a (X.pn ++ pins)) (v := .ref a) S4 hN hi hlc rfl (fun s5 S5 => ?_) (.inr hln)
      refine wpAny_mono ((hsu a cls d (X.pn ++ pins)).run [] s5 _ _ _ S5 (hyes rfl a na)) (fun f s6 hsp => ?_) (fun _ _ z => False.elim z)
      have fin : ∀ {σ6 : St} {H6 : Hp} {Q : Shared → Prop}, Inv (X.suite a (X.pn ++ pins)) [] σ6 H6 s6 →
          (∀ s7, Inv X pins (σ6.set i none) H6 s7 → Q s7) →
          wpAny (model X.prog X.w) X.A (do bindName X.env n .none; unbindBehindTheSuite X.env n pos') (fun _ s7 => Q s7) X.xe s6 := by
        intro σ6 H6 Q S6 hq
        exact gone_ok (S6.unsuiteN okX) hN hi hln hq
      cases f with
      | ret u =>
        obtain ⟨v6, σ6, H6, S6, r6, q6⟩ := hsp
        exact fin S6 fun s7 J7 => ⟨_, _, _, J7, r6, q6⟩
      | next =>
        obtain ⟨σ6, H6, S6, q6⟩ := hsp
        exact fin S6 fun s7 J7 => ⟨_, _, J7, q6⟩
      | brk =>
        obtain ⟨σ6, H6, S6, q6⟩ := hsp
        exact fin S6 fun s7 J7 => ⟨_, _, J7, q6⟩
      | cont =>
        obtain ⟨σ6, H6, S6, q6⟩ := hsp
        exact fin S6 fun s7 J7 => ⟨_, _, J7, q6⟩
    | false =>
      show wpAny _ X.A (handleBy (.ref a) X.env []) _ _ _
      refine wpAny_handleBy_nil ?_
      obtain ⟨k1, k2, k3, oe, vs, T, oT, ts', he, hz, hd, h1, hr⟩ := id fl3
      unfold PySem.passOn
      refine wpAny_bind (wpAny_field he hd h1 ?_)
      rw [if_neg (show ¬ ((Value.ref T == Value.none) = true) from by simp)]
      have fin : wpAny (model X.prog X.w) X.A (setFlight (.ref a) X.env.frame)
          (fun _ t4 => wpAny (model X.prog X.w) X.A (throw (.ref a) : Sem Flow) (SP X pins D) X.xe t4) X.xe { t with heap := h3 } := by
        rw [hf]
        refine HandSPX.setFlight_upZ fl3 fun h4 hh4 up4 => wpAny_throw (tk _ _ ?_)
        exact ⟨a, B, sI, pins, σ2, H2, cls, d, rfl, J, nb,
          (up.trans up3).trans up4, .inr (.inr (by rw [hs]; exact hh4)), na, os, ag, hno rfl⟩
      first
        | exact wpAny_bind (wpAny_pure (wpAny_bind fin))
        | exact wpAny_bind fin
  · cases f with
    | next =>
      obtain ⟨σ2, H2, J2, q⟩ := hsp
      exact wpAny_execs_nil ⟨σ2, H2, J2.ofTry okX, q⟩
    | brk =>
      obtain ⟨σ2, H2, J2, q⟩ := hsp
      exact ⟨σ2, H2, J2.ofTry okX, q⟩
    | cont =>
      obtain ⟨σ2, H2, J2, q⟩ := hsp
      exact ⟨σ2, H2, J2.ofTry okX, q⟩
    | ret u =>
      obtain ⟨v, σ2, H2, J2, r, q⟩ := hsp
      exact ⟨v, σ2, H2, J2.ofTry okX, r, q⟩
end
/-- the object of a tracked error -/
theorem ezO_inst {X : Cx} {pins : List (Addr × Obj)} {σ : St} {H : Hp} {s : Shared} {a D : Addr} (I : Inv X pins σ H s) (h : H a = some (EzO (.ref D) none a)) :
    ∃ oe, PySem.W.InstAt s.heap a oe D none := by
  obtain ⟨⟨oe, vs, he, hz, hd⟩, _⟩ := (show ObjOk X.prog X.w H s.heap a (EzO (.ref D) none a) from I.hok a _ h)
  obtain ⟨oc, od, oda, osl⟩ := oe
  obtain ⟨h1, h2⟩ := hz
  dsimp only at h1 h2 hd
  subst h1 h2 hd
  exact ⟨_, he, rfl, rfl, trivial⟩
/-- isinstance(e, T), e a tracked error -/
def rIsX (K : PySem.W.Frag) : List V → Hp → VK → Prop := fun xs H Q => ∃ (a D : Addr) (c : V) (cv : Value) (b : Bool),
  xs = [.ref a, c] ∧ H a = some (EzO (.ref D) none a) ∧ ExcC K D ∧ ClsV c cv ∧
  PySem.W.kitOne K (.ref D) cv = some b ∧ Q (.bl b) H
/-- isinstance(e, (T1, T2)) -/
def rIsXT (K : PySem.W.Frag) : List V → Hp → VK → Prop := fun xs H Q => ∃ (a D tp : Addr) (cs : List V) (us : List Value) (b : Bool),
  xs = [.ref a, .ref tp] ∧ H tp = some (.tup cs) ∧ Paired ClsV cs us ∧ H a = some (EzO (.ref D) none a) ∧ ExcC K D ∧
  PySem.W.kitAny K (.ref D) us = some b ∧ Q (.bl b) H
section
variable {X : Cx}
theorem call_isX : CallR X (.builtin "isinstance") (rIsX X.K) := by
  intro pins s σ H xs us Q I r h
  obtain ⟨a, D, c, cv, b, rfl, hH, C, k, e, q⟩ := h
  obtain ⟨u1, u2, rfl, r1, r2⟩ := vals2 r
  have e2 := k.eq r2
  subst e2
  cases r1
  obtain ⟨oe, J⟩ := ezO_inst I hH
  exact PySem.W.kia_one (PySem.W.handS_kitx_exc C.hg C.hk C.hs C.hd C.ha C.hn C.ht C.hm) I.kIn J e (fun z => nomatch z)
    fun tk => ⟨.bl b, H, I.tok tk, rfl, q⟩
theorem call_isXT : CallR X (.builtin "isinstance") (rIsXT X.K) := by
  intro pins s σ H xs us Q I r h
  obtain ⟨a, D, tp, cs, ws, b, rfl, hT, k, hH, C, e, q⟩ := h
  obtain ⟨u1, u2, rfl, r1, r2⟩ := vals2 r
  cases r1
  cases (show u2 = Value.ref tp from r2)
  obtain ⟨oe, J⟩ := ezO_inst I hH
  obtain ⟨_, its, rv, o, h1, h2, n, h3⟩ := (show ObjOk X.prog X.w H s.heap tp (.tup cs) from I.hok tp _ hT)
  have e3 := ClsV.all k rv
  subst e3
  obtain ⟨oc, od, dt, sl⟩ := o
  simp only at h2 h3
  subst h2 h3
  exact PySem.W.kia_tup (PySem.W.handS_kitx_exc C.hg C.hk C.hs C.hd C.ha C.hn C.ht C.hm) I.kIn J h1 e (fun z => nomatch z)
    fun tk => ⟨.bl b, H, I.tok tk, rfl, q⟩
end
end L2
namespace Mad
open PySem PySem.Spec PyProof.Rows L2
/-! ### defs that raise, an own error class without a word of its own -/
theorem IsDef.calX2 {P : Program} {w : World} {K : PySem.W.Frag} {mg : Str → Option Value} {base : Heap} {x : Str} {st : Stmt} {N ps : List Str} {k : Nat} {sp : Sp} (D : IsDef K mg x st ps) (S : FnScope N ps (defScope st)) (len : ∀ vs H Q E, sp vs H Q E → vs.length = ps.length)
    (hbody : ∀ (f : Addr) (cdv : Value) (A : Around) (outer : List Env) (s : Shared) (H : Hp) (vs : List V) (Q : VK) (E : XK), Room k (A.deeper (envOfC x (defScope st) s.heap.objs.size f cdv)) → sp vs H Q E →
      ∃ t, PSs (cxOf (L2.CX P w) P w K mg base N x (defScope st) f cdv A outer s H E) (defBody st) t ∧ t { nx := fun _ H' => Q .non H', rt := Q } (start N vs) H) : Cal P w K mg base (L2.CX P w) (k + 1) x ps sp := by
  obtain ⟨f, fd, F, m, b⟩ := D
  exact ⟨f, fd, F.okX S len fun cdv A outer s H vs Q E => hbody f cdv A outer s H vs Q E, m, F.kp, b⟩
structure NoX (K : PySem.W.Frag) (mg : Str → Option Value) (n : Str) (C : Addr) : Prop where
  x : PySem.W.excIn K C [.type "ValueError", .type "Exception", .type "BaseException", .type "object"] "ValueError.__new__" = true
  g : mg n = some (.ref C)
  k : PySem.W.keepIn K (.ref C) = true
  b : PySem.W.subIn K (.ref C) (.type "BaseException") = some true
  t : PySem.W.typeIn K (.ref C) = some (.type "type")
theorem call_isXK {X : Cx} {K : PySem.W.Frag} (h : X.K = K) : CallR X (.builtin "isinstance") (rIsX K) := by
  subst h
  exact call_isX
/-! ### a twin told, exactly -/
def spTwinE : Sp := fun vs H Q _ => ∃ (t a : Addr) (x : V) (wo k : Int) (xs : List V) (ps : List Pr), vs = [.ref t, .int k] ∧ H t = some (.tup [x, .ref a, .int wo]) ∧ H a = some (.lst xs) ∧ Prs H ps xs ∧ ps.length ≤ 29 ∧ 0 ≤ k ∧ k < ps.length ∧
  ∀ (H' : Hp) (y : V), Same H H' → Rec H' (twinR ps wo k.toNat) y → Q y H'
theorem lastP_at {g : List Pr} {n : Nat} {p : Pr} (h : g[n]? = some p) (hn : n + 1 = g.length) : lastP g = p := by
  unfold lastP
  rw [List.getLastD_eq_getLast?, List.getLast?_eq_getElem?, ← hn, Nat.add_sub_cancel, h]
  rfl
theorem take_map_snoc {α β : Type} {f : α → β} {l : List α} {i : Nat} {x : α} (h : l[i]? = some x) : (l.take (i + 1)).map f = (l.take i).map f ++ [f x] := by
  rw [List.take_add_one, h, List.map_append]
  rfl
section
variable {P : Program} {w : World} {K : PySem.W.Frag} {mg : Str → Option Value} {base : Heap}
abbrev s_twin_of : Stmt := topS 8
abbrev N_twin_of : List Str := ["record", "k", "recipe", "reads", "worth", "groups", "rest", "group"]
theorem sc_twin_of : FnScope N_twin_of ["record", "k"] (defScope s_twin_of) := ⟨rfl, rfl, rfl, by decide +kernel, rfl, by decide +kernel, by decide +kernel⟩

theorem ok_twin_of {C : Addr} (T : Txt K mg) (XNoRead : NoX K mg "NoRead" C) (D : IsDef K mg "twin_of" s_twin_of ["record", "k"]) (C_grouped : Cal P w K mg base CX0 1 "grouped" ["reads"] spGroupedP) (C_looked_through : Cal P w K mg base CX0 1 "looked_through" ["reads"] spLookedP)
    (C_summed_up : Cal P w K mg base CX0 1 "summed_up" ["parts"] spSummedUpP) : Cal P w K mg base (L2.CX P w) 2 "twin_of" ["record", "k"] spTwinE := by
  refine D.calX2 sc_twin_of (fun vs H Q E h => ?_) (fun f cdv A outer s H vs Q E hr h => ?_)
  · obtain ⟨t, a, x, wo, k, xs, ps, rfl, _⟩ := h
    rfl
  obtain ⟨t, a, x, wo, k, xs, ps, rfl, ht, ha, hp, h29, hk0, hk1, q⟩ := h
  refine ⟨_, (pss_cons (ps_asg (pv 0) (pg_tup rfl (pgs_cons (pg_name (i := 2) sc_twin_of.nd rfl (Or.inl rfl)) (pgs_cons (pg_name (i := 3) sc_twin_of.nd rfl (Or.inl rfl)) (pgs_cons (pg_name (i := 4) sc_twin_of.nd rfl (Or.inl rfl)) pgs_nil)))))
      (pss_cons (ps_if (PW.pt (pw_or (pt_cmpR op_lt (pv 1) pe_int (nomark _)) (pw_or1 (pt_cmpR op_ge (pv 1) (pe_callB call_len_seq (by rfl) T.b_len PySem.boot_len (pa_cons (pv 3) pa_nil)) (nomark _)))))
        (pss_one (ps_raise rfl (takes_of rfl rfl rfl rfl) (pmk_own PySem.F.excBase_ValueError XNoRead.x XNoRead.g XNoRead.k (raises_own XNoRead.b XNoRead.t) rfl)))
        pss_nil)
      (pss_cons (ps_set (i := 5) sc_twin_of.nd rfl (Or.inl rfl) (pe_op op_cat (pe_cal C_grouped (hr.mono (by first | decide | omega)) pass0 (pa_cons (pe_slice (r := rSlL K) sl_list (pv 3) po_none (po_some (pe_op op_add (pv 1) pe_int))) pa_nil)) (pe_cal C_grouped (hr.mono (by first | decide | omega)) pass0 (pa_cons (pe_slice (r := rSlL K) sl_list (pv 3) (po_some (pe_op op_add (pv 1) pe_int)) po_none) pa_nil))))
      (pss_cons (ps_set (i := 6) sc_twin_of.nd rfl (Or.inl rfl) (pe_op op_sub (pv 4) (pe_callB (cr_sum rfl) (by rfl) T.b_sum (by decide +kernel) (pa_cons (pe_lc (own := [("group", 7)]) (g := gName 7)  (by rfl) sc_twin_of.nd  (pi_list (pv 5)) (blkOk_by (own := [("group", 7)]) (N := N_twin_of) (sc := defScope s_twin_of) (by decide +kernel)) (fun _ _ _ _ _ => (pg_name (i := 7) sc_twin_of.nd rfl (Or.inl rfl))) (fun _ _ _ _ _ => pts_nil) (fun _ _ _ _ _ => (pe_ix (r := rIxT K) ix_tup (pe_ix (r := rIxL K) ix_list (pv 7) (pe_un un_neg pe_int) (fun _ _ => rfl)) pe_int (fun _ _ => rfl)))) pa_nil))))
      (pss_one (ps_ret (pe_cal C_summed_up (hr.mono (by first | decide | omega)) pass0 (pa_cons (pe_op op_cat (pe_lc (own := [("group", 7)]) (g := gName 7)  (by rfl) sc_twin_of.nd  (pi_list (pv 5)) (blkOk_by (own := [("group", 7)]) (N := N_twin_of) (sc := defScope s_twin_of) (by decide +kernel)) (fun _ _ _ _ _ => (pg_name (i := 7) sc_twin_of.nd rfl (Or.inl rfl))) (fun _ _ _ _ _ => pts_nil) (fun _ _ _ _ _ => (pe_cal C_looked_through (hr.mono (by first | decide | omega)) pass0 (pa_cons (pv 7) pa_nil)))) (pe_lst (pa_cons (pe_tup (pa_cons pe_str (pa_cons (pv 6) pa_nil))) pa_nil))) pa_nil)))))))), ?_⟩
  have hxl := hp.len
  refine ⟨_, rfl, t, _, rfl, SqT.of ht, rfl, _, _, rfl, _, _, rfl, _, _, rfl, rfl, ?_⟩
  refine ⟨_, rfl, _, _, rfl, rfl, _, rfl, ?_⟩
  refine iteN (show ¬ k < 0 by omega) ?_
  refine ⟨_, rfl, _, rfl, a, _, rfl, .inl (SqL.of ha), _, _, rfl, rfl, _, rfl, ?_⟩
  refine iteN (show ¬ k ≥ ((xs.length : Nat) : Int) by omega) ?_
  -- the groups
  have hkn : ((k.toNat + 1 : Nat) : Int) = k + 1 := by omega
  refine ⟨_, rfl, _, rfl, _, _, rfl, rfl, _, rfl, a, _, rfl, SqL.of ha, fun z1 n1 => ?_⟩
  have c1 : cutV xs none (some (k + 1)) = xs.take (k.toNat + 1) := by
    have := cut_to xs (k.toNat + 1)
    rw [hkn] at this
    exact this
  rw [c1]
  have s1 := same_new n1 (.lst (xs.take (k.toNat + 1)))
  refine ⟨z1, _, _, rfl, upd_same, (hp.same s1).take _, by rw [List.length_take]; omega, fun H1 g1 gs1 hs1 hg1 hG1 => ?_⟩
  refine ⟨_, rfl, _, rfl, _, _, rfl, rfl, _, rfl, a, _, rfl, SqL.of (hs1 _ _ (s1 _ _ ha)), fun z2 n2 => ?_⟩
  have c2 : cutV xs (some (k + 1)) none = xs.drop (k.toNat + 1) := by
    have := cut_from xs (k.toNat + 1)
    rw [hkn] at this
    exact this
  rw [c2]
  have s2 := same_new n2 (.lst (xs.drop (k.toNat + 1)))
  refine ⟨z2, _, _, rfl, upd_same, (((hp.same s1).same hs1).same s2).drop _, by rw [List.length_drop]; omega, fun H2 g2 gs2 hs2 hg2 hG2 => ?_⟩
  have s02 : Same H H2 := s1.trans (hs1.trans (s2.trans hs2))
  have l12 : (gs1 ++ gs2).length ≤ 12 := by
    have h1 := hG1.len
    have h2 := hG2.len
    have := groupsK_count (ps := ps) (k := k.toNat) h29 (by omega)
    unfold groupsK at this
    rw [List.length_append] at this ⊢
    omega
  refine ⟨g1, g2, _, _, rfl, rfl, hs2 _ _ (s2 _ _ hg1), hg2, le_line (by rw [List.length_append] at l12; omega), fun G nG => ?_⟩
  have s3 := same_new nG (.lst (gs1 ++ gs2))
  have hGG : Als (GrpP (upd H2 G (.lst (gs1 ++ gs2)))) (groupsK ps k.toNat) (gs1 ++ gs2) := (hG1.imp fun d v h => h.same (s2.trans (hs2.trans s3))).app (hG2.imp fun d v h => h.same s3)
  obtain ⟨H3, hH3⟩ : ∃ H3, H3 = upd H2 G (.lst (gs1 ++ gs2)) := ⟨_, rfl⟩
  have hGa : H3 G = some (.lst (gs1 ++ gs2)) := by rw [hH3]; exact upd_same
  rw [← hH3] at hGG s3 ⊢
  generalize gs1 ++ gs2 = gs at hGG hGa hH3 s3 l12
  have hlen : ∀ g ∈ groupsK ps k.toNat, 1 ≤ g.length ∧ g.length ≤ 3 := fun g hg => groupsK_len hg
  have q' : ∀ (H' : Hp) (y : V), Same H3 H' → Rec H' (sumR ((groupsK ps k.toNat).map lookR ++ [.num (wo - ((groupsK ps k.toNat).map fun g => (lastP g).2).sum)])) y → Q y H' := fun H' y hs hy => q H' y (s02.trans (s3.trans hs)) hy
  generalize groupsK ps k.toNat = gd at hGG hlen q'
  have hgl := hGG.len
  -- the rest
  refine ⟨_, rfl, _, rfl, G, rfl, ⟨_, SqL.of hGa⟩, fun N nN => lc_list (K := K) (a := G) (xs := gs) (fun i H' => Same H3 H' ∧ H' N = some (.lst (((gd.take i).map fun g => (lastP g).2).map V.int))) ⟨same_new nN _, upd_same⟩ (fun i H' _ h => SqL.of (h.1 _ _ hGa)) ?_ ?_⟩
  · rintro i y H4 hy ⟨hs4, hN⟩
    obtain ⟨g, hg, hgy⟩ := hGG.at hy
    obtain ⟨l, ys, rfl, hl, hq⟩ := hgy.same hs4
    have l1 := (hlen g (List.mem_of_getElem? hg)).1
    have hyl := hq.len
    obtain ⟨zs, z, hz⟩ : ∃ zs z, ys = zs ++ [z] := ⟨ys.dropLast, ys.getLast (by intro e; rw [e] at hyl; have hyl' : 0 = g.length := hyl; omega), by rw [List.dropLast_concat_getLast]⟩
    have hzi : ys[zs.length]? = some z := by rw [hz]; simp
    obtain ⟨p0, t0, hp0, rfl, ht0⟩ := hq.at hzi
    have hat : atI ys (-1) = some (.ref t0) := by rw [hz]; exact atI_last _ _
    have hlast := lastP_at hp0 (by rw [← hyl, hz]; simp)
    have := (List.getElem?_eq_some_iff.mp hy).1
    refine ⟨rfl, _, rfl, _, rfl, l, _, _, _, rfl, rfl, SqL.of hl, hat, t0, _, _, _, rfl, rfl, SqT.of ht0, rfl, _, hN, lt_line (by rw [List.length_map, List.length_map, List.length_take]; omega), same_upd hs4 nN _, ?_⟩
    rw [upd_same, take_map_snoc hg, List.map_append, hlast]
    rfl
  rintro H4 ⟨hs4, hN⟩
  rw [List.take_of_length_le (by omega)] at hN
  refine ⟨N, _, rfl, SqL.of hN, _, _, rfl, rfl, ?_⟩
  -- the twin
  have hG4 := hs4 _ _ hGa
  refine ⟨_, rfl, G, rfl, ⟨_, SqL.of hG4⟩, fun M nM => lc_list (K := K) (a := G) (xs := gs) (fun i H' => LongE H4 H' M ((gd.take i).map lookR)) (LongE.start nM) (fun i H' _ h => SqL.of (h.1 _ _ hG4)) ?_ ?_⟩
  · rintro i y H5 hy hM
    obtain ⟨g, hg, hgy⟩ := hGG.at hy
    have l3 := hlen g (List.mem_of_getElem? hg)
    have := (List.getElem?_eq_some_iff.mp hy).1
    refine ⟨rfl, _, rfl, y, g, rfl, (hgy.same hs4).same hM.1, l3.1, by omega, fun H6 y6 hs6 ht6 => ?_⟩
    obtain ⟨ys, hM6, hyl, hM7⟩ := hM.put nM hs6 ht6
    rw [← take_map_snoc hg] at hM7
    exact ⟨ys, hM6, lt_line (by rw [hyl, List.length_map, List.length_take]; omega), hM7⟩
  intro H5 hM
  rw [List.take_of_length_le (by omega)] at hM
  obtain ⟨hs5, ys, hMa, hMR⟩ := hM
  have hml := hMR.len
  rw [List.length_map] at hml
  refine ⟨_, rfl, le_line (Nat.le_of_ble_eq_true rfl), fun u nu => ⟨le_line (Nat.le_of_ble_eq_true rfl), fun l2 nl2 => ?_⟩⟩
  have su := same_new nu (.tup [.str "number", .int (wo - (gd.map fun g => (lastP g).2).sum)])
  have sl := same_new nl2 (.lst [.ref u])
  refine ⟨M, l2, _, _, rfl, rfl, sl _ _ (su _ _ hMa), upd_same, le_line (by show ys.length + 1 ≤ _; omega), fun D8 nD8 => ?_⟩
  have s8 := same_new nD8 (.lst (ys ++ [.ref u]))
  refine ⟨D8, _, gd.map lookR ++ [.num (wo - (gd.map fun g => (lastP g).2).sum)], rfl, upd_same, Recs.app (ss := [.num (wo - (gd.map fun g => (lastP g).2).sum)]) (us := [.ref u]) (hMR.keep (same_keep (su.trans (sl.trans s8)))) ⟨⟨u, rfl, s8 _ _ (sl _ _ upd_same)⟩, trivial⟩, by rw [List.length_append]; show 1 ≤ _ + 1; omega, by rw [List.length_append, List.length_map]; show _ + 1 ≤ 128; omega, fun H6 y hs6 ht6 => ?_⟩
  exact q' H6 y (hs4.trans (hs5.trans (su.trans (sl.trans (s8.trans hs6))))) ht6
abbrev s__law_summed : Stmt := topS 23
abbrev N__law_summed : List Str := ["reads", "worth", "parts", "pairs", "name", "number", "k"]
theorem sc__law_summed : FnScope N__law_summed ["reads", "worth"] (defScope s__law_summed) := ⟨rfl, rfl, rfl, by decide +kernel, rfl, by decide +kernel, by decide +kernel⟩

theorem ok__law_summed (T : Txt K mg) (D : IsDef K mg "_law_summed" s__law_summed ["reads", "worth"]) : Cal P w K mg base CX0 1 "_law_summed" ["reads", "worth"] spSummedE := by
  refine D.cal sc__law_summed (fun vs H Q E h => ?_) (fun f cdv A outer s H vs Q E hr h => ?_)
  · obtain ⟨a, xs, ps, wo, rfl, _⟩ := h
    rfl
  obtain ⟨a, xs0, ps, wo, rfl, ha, hp, h29, q⟩ := h
  refine ⟨_, (pss_cons (ps_set (i := 2) sc__law_summed.nd rfl (Or.inr rfl) (pe_lc (own := [("name", 4), ("number", 5)]) (g := gTup K 2 (gCons (gName 4) (gCons (gName 5) gNil)))  (by rfl) sc__law_summed.nd  (pi_list (pv 0)) (blkOk_by (own := [("name", 4), ("number", 5)]) (N := N__law_summed) (sc := defScope s__law_summed) (by decide +kernel)) (fun _ _ _ _ _ => (pg_tup rfl (pgs_cons (pg_name (i := 4) sc__law_summed.nd rfl (Or.inl rfl)) (pgs_cons (pg_name (i := 5) sc__law_summed.nd rfl (Or.inl rfl)) pgs_nil)))) (fun _ _ _ _ _ => pts_nil) (fun _ _ _ _ _ => (pe_tup (pa_cons pe_str (pa_cons (pv 4) pa_nil))))))
      (pss_cons (ps_expr (pe_bm PySem.F.plainAttrs_list PySem.F.slot_list_append PySem.F.type_list_append mt_append (pv 2) (pa_cons (pe_tup (pa_cons pe_str (pa_cons (pe_op op_sub (pv 1) (pe_callB (cr_sum rfl) (by rfl) T.b_sum (by decide +kernel) (pa_cons (pe_lc (own := [("name", 4), ("number", 5)]) (g := gTup K 2 (gCons (gName 4) (gCons (gName 5) gNil)))  (by rfl) sc__law_summed.nd  (pi_list (pv 0)) (blkOk_by (own := [("name", 4), ("number", 5)]) (N := N__law_summed) (sc := defScope s__law_summed) (by decide +kernel)) (fun _ _ _ _ _ => (pg_tup rfl (pgs_cons (pg_name (i := 4) sc__law_summed.nd rfl (Or.inl rfl)) (pgs_cons (pg_name (i := 5) sc__law_summed.nd rfl (Or.inl rfl)) pgs_nil)))) (fun _ _ _ _ _ => pts_nil) (fun _ _ _ _ _ => (pv 5))) pa_nil))) pa_nil))) pa_nil)))
      (pss_cons (ps_while PassesOwn.never (pt_cmpR op_gt (pe_callB call_len_seq (by rfl) T.b_len PySem.boot_len (pa_cons (pv 2) pa_nil)) pe_int (nomark _))
        (pss_cons (ps_setLc (i := 3) (own := [("k", 6)]) (g := gName 6)  (by rfl) sc__law_summed.nd rfl rfl (sw_true rfl rfl rfl (by decide +kernel)) (pi_range3 rfl T.b_range (pa_cons pe_int (pa_cons (pe_op op_sub (pe_callB call_len_seq (by rfl) T.b_len PySem.boot_len (pa_cons (pv 2) pa_nil)) pe_int) (pa_cons pe_int pa_nil)))) (blkOk_by (own := [("k", 6)]) (N := N__law_summed) (sc := defScope s__law_summed) (by decide +kernel)) (fun _ _ _ _ _ => (pg_name (i := 6) sc__law_summed.nd rfl (Or.inl rfl))) (fun _ _ _ _ _ => pts_nil) (fun _ _ _ _ _ => (pe_tup (pa_cons pe_str (pa_cons (pe_ix (r := rIxL K) ix_list (pv 2) (pv 6) (fun _ _ => rfl)) (pa_cons (pe_ix (r := rIxL K) ix_list (pv 2) (pe_op op_add (pv 6) pe_int) (fun _ _ => rfl)) pa_nil))))))
      (pss_one (ps_set (i := 2) sc__law_summed.nd rfl (Or.inr rfl) (pe_op op_cat (pv 3) (pe_slice (r := rSlL K) sl_list (pv 2) (po_some (pe_op op_mul (pe_callB call_len_seq (by rfl) T.b_len PySem.boot_len (pa_cons (pv 3) pa_nil)) pe_int)) po_none))))))
      (pss_one (ps_ret (pe_ix (r := rIxL K) ix_list (pv 2) pe_int (fun _ _ => rfl))))))), ?_⟩
  have hxl := hp.len
  refine ⟨_, rfl, a, rfl, ⟨_, SqL.of ha⟩, fun L nL => lc_list (K := K) (a := a) (xs := xs0) (fun i H' => LongE H H' L ((ps.take i).map fun p => .read p.1)) (LongE.start nL) (fun i H' _ h => SqL.of (h.1 _ _ ha)) ?_ ?_⟩
  · rintro i x H1 hx hL
    obtain ⟨p, t, hpi, rfl, ht⟩ := hp.at hx
    refine ⟨t, _, rfl, SqT.of (hL.1 _ _ ht), rfl, _, _, rfl, _, _, rfl, rfl, rfl, _, rfl, le_line (Nat.le_of_ble_eq_true rfl), fun u nu => ?_⟩
    obtain ⟨ys, hy, hl, hL2⟩ := hL.put nL (same_new nu (.tup [.str "read", .str (SX.S p.1)])) (r := .read p.1) (v := .ref u) ⟨u, rfl, upd_same⟩
    rw [← take_map_snoc (f := fun p : Pr => Rcp.read p.1) hpi] at hL2
    have := (List.getElem?_eq_some_iff.mp hx).1
    exact ⟨ys, hy, lt_line (by rw [hl, List.length_map, List.length_take]; omega), hL2⟩
  intro H1 hL
  rw [List.take_of_length_le (by omega)] at hL
  obtain ⟨ys, hy, hR⟩ := id hL.2
  refine ⟨_, rfl, .inl ⟨rfl, _, SqL.of hy⟩, _, rfl, _, rfl, a, rfl, ⟨_, SqL.of (hL.1 _ _ ha)⟩, fun N nN => lc_list (K := K) (a := a) (xs := xs0) (fun i H' => Same H1 H' ∧ H' N = some (.lst (((ps.take i).map (·.2)).map V.int))) ⟨same_new nN _, upd_same⟩ (fun i H' _ h => SqL.of (h.1 _ _ (hL.1 _ _ ha))) ?_ ?_⟩
  · rintro i x H2 hx ⟨hs, hN⟩
    obtain ⟨p, t, hpi, rfl, ht⟩ := hp.at hx
    refine ⟨t, _, rfl, SqT.of (hs _ _ (hL.1 _ _ ht)), rfl, _, _, rfl, _, _, rfl, rfl, rfl, _, rfl, _, hN, ?_, same_upd hs nN _, ?_⟩
    · rw [List.length_map, List.length_map, List.length_take]
      exact lt_line (by omega)
    · rw [upd_same, take_map_snoc hpi, List.map_append]
      rfl
  rintro H2 ⟨hs2, hN2⟩
  rw [List.take_of_length_le (by omega)] at hN2
  refine ⟨N, ps.map (·.2), rfl, SqL.of hN2, _, _, rfl, rfl, le_line (Nat.le_of_ble_eq_true rfl), fun u nu => ?_⟩
  obtain ⟨ys2, hy2, hl2, hL2⟩ := hL.put nL (hs2.trans (same_new nu (.tup [.str "number", .int (wo - (ps.map (·.2)).sum)]))) (r := .num (wo - (ps.map (·.2)).sum)) (v := .ref u) ⟨u, rfl, upd_same⟩
  refine ⟨L, _, _, rfl, rfl, hy2, lt_line (by rw [hl2, List.length_map]; omega), ?_⟩
  obtain ⟨hs3, xs3, hD3, hR3⟩ := hL2
  refine ⟨fun m σ H' => ∃ (D2 : Addr) (xs : List V) (rs : List Rcp) (n : Nat) (v3 : Option V), σ = [some (.ref a), some (.int wo), some (.ref D2), v3, none, none, none] ∧ Same H H' ∧ H' D2 = some (.lst xs) ∧ Recs H' rs xs ∧ 1 ≤ rs.length ∧ rs.length ≤ 30 ∧ rs.length ≤ 2 ^ n ∧ sumUp 7 (ps.map (fun p => Rcp.read p.1) ++ [.num (wo - (ps.map (·.2)).sum)]) = sumUp n rs ∧ m = rs.length,
    ⟨_, L, xs3, _, 7, none, rfl, hs3, hD3, hR3, by rw [List.length_append]; show 1 ≤ _ + 1; omega, by rw [List.length_append, List.length_map]; show _ + 1 ≤ 30; omega, by rw [List.length_append, List.length_map]; show _ + 1 ≤ 128; omega, rfl, rfl⟩, ?_⟩
  rintro m σ H3 ⟨D2, xs, rs, n, v3, rfl, hs, hD, hR, l1, l30, ln, hsu, rfl⟩
  have hxl := hR.len
  refine ⟨_, rfl, D2, _, rfl, .inl (SqL.of hD), _, _, rfl, rfl, _, rfl, ?_⟩
  refine ite2 (fun c => ?_) (fun c => ?_)
  · have c2 : ((xs.length : Nat) : Int) > 1 := of_decide_eq_true c
    obtain ⟨m, rfl, hlm, hstep⟩ := sumUp_step ln (by omega)
    refine ⟨_, fun σ' H' h => h, ?_⟩
    have rg := rg2t (xs.length - 1) (by omega)
    have en : ((xs.length : Nat) : Int) - 1 = ((xs.length - 1 : Nat) : Int) := by omega
    have en2 : (xs.length - 1 + 1) / 2 = rs.length / 2 := by omega
    refine ⟨_, rfl, D2, _, rfl, .inl (SqL.of hD), _, _, rfl, rfl, 0, _, 2, (xs.length - 1 + 1) / 2, rfl, ⟨by decide, by decide, by rw [en]; exact rg.1, by rw [en]; exact rg.2⟩, fun D3 nD3 => lcC (lo := 0) (c := 2) (n := (xs.length - 1 + 1) / 2)
      (fun i H' => LongE H3 H' D3 (pairN rs i)) (LongE.start nD3) ?_ ?_⟩
    · rintro i H4 hi hL4
      have hD4 := hL4.1 _ _ hD
      obtain ⟨v1, r1, hv1, hr1, hR1⟩ := hR.get (i := 2 * i) (by omega)
      obtain ⟨v2, r2, hv2, hr2, hR2⟩ := hR.get (i := 2 * i + 1) (by omega)
      refine ⟨rfl, _, rfl, _, rfl, D2, _, _, _, rfl, rfl, SqL.of hD4, at_two _ (by omega) hv1, _, rfl, _, rfl, _, _, rfl, rfl, D2, _, _, _, rfl, rfl, SqL.of hD4, at_two1 _ (by omega) hv2, le_line (Nat.le_of_ble_eq_true rfl), fun u nu => ?_⟩
      have su := same_new nu (.tup [.str "plus", v1, v2])
      obtain ⟨zs, hz, hlz, hL5⟩ := hL4.put nD3 su (r := .two .plus r1 r2) (v := .ref u) ⟨u, v1, v2, rfl, upd_same, (hR1.same hL4.1).same su, (hR2.same hL4.1).same su⟩
      rw [← pairN_succ hr1 hr2] at hL5
      exact ⟨zs, hz, lt_line (by rw [hlz, pairN_len]; omega), hL5⟩
    · intro H4 hL4
      obtain ⟨hs4, zs, hz, hRz⟩ := hL4
      have hzl := hRz.len
      rw [pairN_len] at hzl
      have hD4 := hs4 _ _ hD
      refine ⟨_, rfl, _, rfl, _, rfl, D3, _, rfl, .inl (SqL.of hz), _, _, rfl, rfl, .inr ⟨by decide, by decide⟩, _, rfl, D2, _, rfl, SqL.of hD4, fun p np => ?_⟩
      have hc : cutV xs (some (((zs.length : Nat) : Int) * 2)) none = xs.drop (zs.length * 2) := by
        have := cut_from xs (zs.length * 2)
        rw [show (((zs.length * 2 : Nat) : Int)) = ((zs.length : Nat) : Int) * 2 by omega] at this
        exact this
      rw [hc]
      have sp := same_new np (.lst (xs.drop (zs.length * 2)))
      refine ⟨D3, p, _, _, rfl, rfl, sp _ _ hz, upd_same, le_line (by rw [List.length_drop]; omega), fun D4 nD4 => ?_⟩
      have s4 := same_new nD4 (.lst (zs ++ xs.drop (zs.length * 2)))
      have hul := pairUp_len rs
      have hfin : Recs (upd (upd H4 p (.lst (xs.drop (zs.length * 2)))) D4 (.lst (zs ++ xs.drop (zs.length * 2)))) (pairUp rs) (zs ++ xs.drop (zs.length * 2)) := by
        rw [← hzl] at hRz
        rw [pairUp_cut rs, ← en2, ← hzl]
        exact (hRz.keep (same_keep (sp.trans s4))).app ((hR.drop _).keep (same_keep (hs4.trans (sp.trans s4))))
      exact ⟨(pairUp rs).length, by rw [hul]; omega, D4, _, pairUp rs, m, _, rfl, hs.trans (hs4.trans (sp.trans s4)), upd_same, hfin, by omega, by omega, hlm, hsu.trans hstep, rfl⟩
  · have c2 : ¬ ((xs.length : Nat) : Int) > 1 := fun z => c (decide_eq_true z)
    obtain ⟨r, rfl⟩ := List.length_eq_one_iff.mp (show rs.length = 1 by omega)
    obtain ⟨v, r', hv, hr', hRv⟩ := hR.get (i := 0) (by show 0 < 1; decide)
    obtain rfl : r = r' := Option.some.inj hr'
    refine ⟨_, rfl, D2, _, _, _, rfl, rfl, SqL.of hD, atI_at (by decide) hv, q _ v hs ?_⟩
    unfold sumOf sumR
    rw [hsu, sumUp_done]
    exact hRv
end
/-! ### a text times a number of two or more -/
def rRepS : R2 := fun x y H Q => ∃ (z : List Nat) (k : Nat), x = .str (SX.S z) ∧ y = .int (k : Int) ∧ 2 ≤ k ∧ k ≤ 1000 ∧ 1 ≤ z.length ∧ z.length ≤ 1000 ∧ Q (.str (SX.S (List.replicate k z).flatten)) H
theorem rep_flat (z : List Nat) : ∀ (k : Nat) (acc : Array Nat), (List.replicate k z.toArray).foldl (· ++ ·) acc = (acc.toList ++ (List.replicate k z).flatten).toArray
  | 0, acc => by simp
  | k + 1, acc => by
    rw [List.replicate_succ, List.foldl_cons, rep_flat z k, List.replicate_succ, List.flatten_cons]
    simp
section
variable {X : Cx}
theorem op_repS : OpR X (binaryOp .Mult) rRepS := by
  intro pins s σ H x y v u Q I rx ry h
  obtain ⟨z, k, rfl, rfl, h2, hk, h1, hz, q⟩ := h
  obtain ⟨t, rfl⟩ := rx
  obtain ⟨t', rfl⟩ := ry
  have hlen := SX.S_len z
  have hn1 : ¬ ((k : Nat) : Int) < 1 := by omega
  have hn2 : (((k : Nat) : Int) == 1 || (SX.S z).length == 0) = false := by
    rw [hlen, Bool.or_eq_false_iff]
    exact ⟨beq_eq_false_iff_ne.mpr (by omega), beq_eq_false_iff_ne.mpr (by omega)⟩
  have hmul : z.length * k ≤ 1000 * 1000 := Nat.mul_le_mul hz hk
  have hsz : 1000 * 1000 ≤ sizeLine := le_line (Nat.le_of_ble_eq_true rfl)
  refine PySem.P.mul_str ?_ (fun _ _ => ?_) (fun _ _ => ?_) ?_
  · rw [decide_eq_false (by omega), decide_eq_false (by omega)]
    rfl
  · rw [hlen]
    have : (1000 : Int) ≤ (2 ^ 63 - 1) / (k : Int) := (Int.le_ediv_iff_mul_le (by omega)).mpr (by omega)
    omega
  · rw [hlen]
    refine decide_eq_false ?_
    show ¬ _
    rw [Int.toNat_natCast]
    omega
  · rw [if_neg hn1, hn2, if_neg Bool.false_ne_true]
    rw [Int.toNat_natCast, show (SX.S z).cps = z.toArray from rfl, rep_flat]
    refine ⟨?_, ⟨.str _, H, I.tok _, ⟨_, rfl⟩, q⟩⟩
    have e : (List.replicate k z).flatten.length ≤ sizeLine := by
      rw [List.length_flatten, List.map_replicate, List.sum_replicate_nat, Nat.mul_comm]
      omega
    have e2 : (SX.S (List.replicate k z).flatten).length ≤ sizeLine := by rw [SX.S_len]; exact e
    exact e2
end
/-! ### a text times a number, nought and one too -/
def rRepA : R2 := fun x y H Q => ∃ (z : List Nat) (k : Nat), x = .str (SX.S z) ∧ y = .int (k : Int) ∧ k ≤ 1000 ∧ 1 ≤ z.length ∧ z.length ≤ 1000 ∧ Q (.str (SX.S (List.replicate k z).flatten)) H
section
variable {X : Cx}
theorem op_repA : OpR X (binaryOp .Mult) rRepA := by
  intro pins s σ H x y v u Q I rx ry h
  obtain ⟨z, k, rfl, rfl, hk, h1, hz, q⟩ := h
  by_cases h2 : 2 ≤ k
  · exact op_repS pins s σ H _ _ v u Q I rx ry ⟨z, k, rfl, rfl, h2, hk, h1, hz, q⟩
  obtain ⟨t, rfl⟩ := rx
  obtain ⟨t', rfl⟩ := ry
  have hlen := SX.S_len z
  have hk2 : k = 0 ∨ k = 1 := by omega
  rcases hk2 with rfl | rfl
  · exact PySem.P.mul_str_none (by decide) (by decide) ⟨.str _, H, I.tok _, ⟨_, rfl⟩, q⟩
  · refine PySem.P.mul_str (by decide) (fun _ e => ?_) (fun _ e => ?_) ?_
    · exact absurd e (by simp)
    · exact absurd e (by simp)
    · rw [if_neg (by decide)]
      have e : ((((1 : Nat) : Int) == 1) || (SX.S z).length == 0) = true := rfl
      rw [if_pos e]
      refine ⟨.str (SX.S z), H, I, ⟨_, rfl⟩, ?_⟩
      have e2 : (List.replicate 1 z).flatten = z := by simp
      rw [e2] at q
      exact q
end
/-! ### the record that the law makes -/
theorem hu65 {k : Nat} {A : Around} (r : Room k A) : A.units + 65 < cLine := by have := r.un; omega
def nmE (k : Nat) : List Nat := letters.getD (k % 26) 97 :: List.replicate (k * 5 % 8) (letters.getD (k * 7 % 26) 97)
def nmAt (c i : Nat) : List Nat := if i < 26 then nmE ((i * 3 + c) % 26) else ([[113, 122], [120, 122], [106, 122]] : List (List Nat)).getD (i - 26) []
instance (s : List Nat) : Decidable (Nm s) := by unfold Nm; exact inferInstance
theorem nmAt_ok : ∀ c < 26, ((List.range 29).map (nmAt c)).Nodup ∧ ∀ i < 29, Nm (nmAt c i) := by decide +kernel
theorem nmAt_nodup {c n : Nat} (hc : c < 26) (hn : n ≤ 29) : ((List.range n).map (nmAt c)).Nodup := (nmAt_ok c hc).1.sublist ((List.range_sublist.mpr hn).map _)
def spNameE : Sp := fun vs H Q _ => ∃ (v : Int) (k : Nat), vs = [.int v] ∧ v = (k : Int) ∧ k < 26 ∧ Q (.str (SX.S (nmE k))) H
theorem take_same {H0 H H' : Hp} {p : Addr} (n : H0 p = none) (s : Same H0 H) (k : ∀ b, b ≠ p → H' b = H b) : Same H0 H' := fun b u e => by
  have ne : b ≠ p := fun z => by rw [z, n] at e; cases e
  rw [k b ne]
  exact s _ _ e
theorem take_keep {H H' : Hp} {p : Addr} {kvs : List (Key × V)} (h : H p = some (.dK kvs)) (k : ∀ b, b ≠ p → H' b = H b) : Keep H H' := fun b xs e => by
  have ne : b ≠ p := fun z => by rw [z, h] at e; cases e
  rw [k b ne]
  exact e
def spCellE (K : PySem.W.Frag) : Sp := fun vs H Q _ => ∃ (a : Addr) (ns : List Int) (k : Nat), vs = [.ref a, .int (k : Int)] ∧ SqL K H a (ns.map V.int) ∧ ns.length ≤ 63 ∧ Q (.int (ns.getD k 0)) H
def spRecord37 (K : PySem.W.Frag) : Sp := fun vs H Q _ => ∃ (a : Addr) (ns : List Int), vs = [.ref a] ∧ SqL K H a (ns.map V.int) ∧ ns.length ≤ 63 ∧
  ∀ (H' : Hp) (t R : Addr) (v : V) (xs : List V) (ps : List Pr) (wo : Int), Same H H' → H' t = some (.tup [v, .ref R, .int wo]) → H' R = some (.lst xs) → Prs H' ps xs → Rec H' (sumOf ps wo) v →
    1 ≤ ps.length → ps.length ≤ 29 → (∀ p ∈ ps, Nm p.1) → (ps.map (·.1)).Nodup → Q (.ref t) H'
section
variable {P : Program} {w : World} {K : PySem.W.Frag} {mg : Str → Option Value} {base : Heap}
abbrev s__law_name : Stmt := topS 13
abbrev N__law_name : List Str := ["k", "letters"]
theorem sc__law_name : FnScope N__law_name ["k"] (defScope s__law_name) := ⟨rfl, rfl, rfl, by decide +kernel, rfl, by decide +kernel, by decide +kernel⟩

theorem ok__law_name (T : Txt K mg) (D : IsDef K mg "_law_name" s__law_name ["k"]) : Cal P w K mg base CX0 1 "_law_name" ["k"] spNameE := by
  refine D.cal sc__law_name (fun vs H Q E h => ?_) (fun f cdv A outer s H vs Q E hr h => ?_)
  · obtain ⟨v, k, rfl, _⟩ := h
    rfl
  obtain ⟨v, k, rfl, rfl, hk, q⟩ := h
  refine ⟨_, (pss_cons (ps_set (i := 1) sc__law_name.nd rfl (Or.inl rfl) pe_str)
      (pss_one (ps_ret (pe_op op_add_str (pe_item_str (pv 1) (pe_op op_mod (pv 0) pe_int) (fun _ _ => rfl)) (pe_op op_repA (pe_item_str (pv 1) (pe_op op_mod (pe_op op_mul (pv 0) pe_int) pe_int) (fun _ _ => rfl)) (pe_op op_mod (pe_op op_mul (pv 0) pe_int) pe_int)))))), ?_⟩
  have let26 : ∀ (v : Int) (n : Nat), v = (n : Int) → n < 26 → ("abcdefghijklmnopqrstuvwxyz" : Str).cps[v.toNat]? = some (letters.getD n 97) := fun v n hv hn => by
    have hv : v.toNat = n := by omega
    rw [hv, letters_is]
    show letters.toArray[n]? = _
    rw [List.getElem?_toArray, List.getElem?_eq_getElem hn, List.getD_eq_getElem?_getD, List.getElem?_eq_getElem hn]
    rfl
  have hlen : ("abcdefghijklmnopqrstuvwxyz" : Str).length = 26 := by rw [letters_is, SX.S_len]; rfl
  have ha : (k : Int) % 26 = ((k % 26 : Nat) : Int) := by omega
  have hb : (k : Int) * 7 % 26 = ((k * 7 % 26 : Nat) : Int) := by omega
  have hc : (k : Int) * 5 % 8 = ((k * 5 % 8 : Nat) : Int) := by omega
  have hx := let26 _ _ ha (by omega)
  have hy := let26 _ _ hb (by omega)
  refine ⟨_, rfl, _, rfl, _, _, rfl, rfl, (by show (0 : Int) < 26; decide), _, _, letters.getD (k % 26) 97, rfl, rfl, by show 0 ≤ (k : Int) % 26; omega, by show (k : Int) % 26 < 2 ^ 63; omega, by rw [hlen]; show (k : Int) % 26 < 26; omega, hx, ?_⟩
  refine ⟨_, rfl, _, rfl, _, _, rfl, rfl, .inr ⟨by decide, by decide⟩, _, _, rfl, rfl, (by show (0 : Int) < 26; decide), _, _, letters.getD (k * 7 % 26) 97, rfl, rfl, by show 0 ≤ (k : Int) * 7 % 26; omega, by show (k : Int) * 7 % 26 < 2 ^ 63; omega, by rw [hlen]; show (k : Int) * 7 % 26 < 26; omega, hy, ?_⟩
  refine ⟨_, rfl, _, _, rfl, rfl, .inr ⟨by decide, by decide⟩, _, _, rfl, rfl, (by show (0 : Int) < 8; decide), ?_⟩
  refine ⟨[letters.getD (k * 7 % 26) 97], k * 5 % 8, rfl, congrArg V.int hc, by omega, (by show 1 ≤ 1; decide), (by show 1 ≤ 1000; decide), _, _, rfl, rfl, ?_, ?_⟩
  · show (SX.S [letters.getD (k % 26) 97]).length + _ ≤ _
    rw [SX.S_len, SX.S_len, List.length_flatten, List.map_replicate, List.sum_replicate_nat]
    exact le_line (by show 1 + (k * 5 % 8) * 1 ≤ _; omega)
  · show Q (.str (SX.S [letters.getD (k % 26) 97] ++ SX.S (List.replicate (k * 5 % 8) [letters.getD (k * 7 % 26) 97]).flatten)) H
    rw [SX.S_cat]
    have hf : ∀ (n c : Nat), (List.replicate n [c]).flatten = List.replicate n c := fun n c => by
      induction n with
      | zero => rfl
      | succ n ih => rw [List.replicate_succ, List.flatten_cons, ih, List.replicate_succ]; rfl
    rw [hf]
    exact q
theorem ok__law_cellE (T : Txt K mg) (D : IsDef K mg "_law_cell_at" s__law_cell_at ["script", "k"]) : Cal P w K mg base CX0 1 "_law_cell_at" ["script", "k"] (spCellE K) := by
  refine D.cal sc__law_cell_at (fun vs H Q E h => ?_) (fun f cdv A outer s H vs Q E hr h => ?_)
  · obtain ⟨a, ns, k, rfl, _⟩ := h
    rfl
  obtain ⟨a, ns, k, rfl, hS, h63, q⟩ := h
  refine ⟨_, (pss_cons (ps_if (pt_cmpR op_lt (pv 1) (pe_callB call_len_seq (by rfl) T.b_len PySem.boot_len (pa_cons (pv 0) pa_nil)) (nomark _))
        (pss_one (ps_ret (pe_ix (r := rIxL K) ix_list (pv 0) (pv 1) (fun _ _ => rfl))))
        pss_nil)
      (pss_one (ps_ret pe_int))), ?_⟩
  refine ⟨_, rfl, _, rfl, a, _, rfl, .inl hS, _, _, rfl, rfl, _, rfl, ?_⟩
  refine ite2 (fun c => ?_) (fun c => ?_)
  · have c' : (k : Int) < (((ns.map V.int).length : Nat) : Int) := of_decide_eq_true c
    rw [List.length_map] at c'
    have hk : k < ns.length := by omega
    rw [List.getD_eq_getElem?_getD, List.getElem?_eq_getElem hk] at q
    exact ⟨_, rfl, _, rfl, a, _, _, _, rfl, rfl, hS, atI_nat (by rw [List.getElem?_map, List.getElem?_eq_getElem hk]; rfl), q⟩
  · have c' : ¬ (k : Int) < (((ns.map V.int).length : Nat) : Int) := fun z => c (decide_eq_true z)
    rw [List.length_map] at c'
    rw [List.getD_eq_getElem?_getD, List.getElem?_eq_none (by omega)] at q
    exact q
abbrev s__law_record : Stmt := topS 24
abbrev N__law_record : List Str := ["script", "pool", "many", "reads", "k", "cell", "number", "name", "worth"]
theorem sc__law_record : FnScope N__law_record ["script"] (defScope s__law_record) := ⟨rfl, rfl, rfl, by decide +kernel, rfl, by decide +kernel, by decide +kernel⟩

theorem ok__law_record (T : Txt K mg) (D : IsDef K mg "_law_record" s__law_record ["script"]) (C__law_cell_at : Cal P w K mg base CX0 1 "_law_cell_at" ["script", "k"] (spCellE K)) (C__law_pool : Cal P w K mg base CX0 2 "_law_pool" ["script", "k"] (spPool K))
    (C__law_take : Cal P w K mg base CX0 1 "_law_take" ["pool", "many"] spTakeP) (C__law_name : Cal P w K mg base CX0 1 "_law_name" ["k"] spNameE) (C__law_summed : Cal P w K mg base CX0 1 "_law_summed" ["reads", "worth"] spSummedE) : Cal P w K mg base CX0 3 "_law_record" ["script"] (spRecord37 K) := by
  refine D.cal sc__law_record (fun vs H Q E h => ?_) (fun f cdv A outer s H vs Q E hr h => ?_)
  · obtain ⟨a, ns, rfl, _⟩ := h
    rfl
  obtain ⟨a, ns, rfl, hS, h63, q⟩ := h
  refine ⟨_, (pss_cons (ps_set (i := 1) sc__law_record.nd rfl (Or.inl rfl) (pe_cal C__law_pool (hr.mono (by first | decide | omega)) pass0 (pa_cons (pv 0) (pa_cons pe_int pa_nil))))
      (pss_cons (ps_set (i := 2) sc__law_record.nd rfl (Or.inl rfl) (pe_ix (r := rIxL K) ix_list (pe_lst (pa_cons (pe_op op_add pe_int (pe_cal C__law_take (hr.mono (by first | decide | omega)) pass0 (pa_cons (pv 1) (pa_cons pe_int pa_nil)))) (pa_cons pe_int (pa_cons (pe_op op_add pe_int (pe_cal C__law_take (hr.mono (by first | decide | omega)) pass0 (pa_cons (pv 1) (pa_cons pe_int pa_nil)))) pa_nil)))) (pe_cal C__law_take (hr.mono (by first | decide | omega)) pass0 (pa_cons (pv 1) (pa_cons pe_int pa_nil))) (fun _ _ => rfl)))
      (pss_cons (ps_set (i := 3) sc__law_record.nd rfl (Or.inl rfl) (pe_lst pa_nil))
      (pss_cons (ps_for PassesOwn.never rfl (pi_range1 rfl T.b_range (pa_cons (pv 2) pa_nil)) (pg_name (i := 4) sc__law_record.nd rfl (Or.inl rfl))
        (pss_cons (ps_set (i := 5) sc__law_record.nd rfl (Or.inl rfl) (pe_cal C__law_pool (hr.mono (by first | decide | omega)) pass0 (pa_cons (pv 0) (pa_cons (pe_op op_add pe_int (pv 4)) pa_nil))))
      (pss_cons (ps_set (i := 6) sc__law_record.nd rfl (Or.inl rfl) (pe_ix (r := rIxL K) ix_list (pe_lst (pa_cons pe_int (pa_cons (pe_op op_sub (pe_cal C__law_take (hr.mono (by first | decide | omega)) pass0 (pa_cons (pv 5) (pa_cons pe_int pa_nil))) pe_int) (pa_cons (pe_op op_sub (pe_cal C__law_take (hr.mono (by first | decide | omega)) pass0 (pa_cons (pv 5) (pa_cons (pe_op op_pow pe_int pe_int) pa_nil))) (pe_op op_mul pe_int (pe_op op_pow pe_int pe_int))) (pa_cons (pv 4) pa_nil))))) (pe_cal C__law_take (hr.mono (by first | decide | omega)) pass0 (pa_cons (pv 5) (pa_cons pe_int pa_nil))) (fun _ _ => rfl)))
      (pss_cons (ps_set (i := 7) sc__law_record.nd rfl (Or.inl rfl) (pe_cal C__law_name (hr.mono (by first | decide | omega)) pass0 (pa_cons (pe_op op_mod (pe_op op_add (pe_op op_mul (pv 4) pe_int) (pe_cal C__law_cell_at (hr.mono (by first | decide | omega)) pass0 (pa_cons (pv 0) (pa_cons pe_int pa_nil)))) pe_int) pa_nil)))
      (pss_cons (ps_if (pt_cmpR op_gt (pv 4) pe_int (nomark _))
        (pss_one (ps_set (i := 7) sc__law_record.nd rfl (Or.inl rfl) (pe_ix (r := rIxL K) ix_list (pe_lst (pa_cons pe_str (pa_cons pe_str (pa_cons pe_str pa_nil)))) (pe_op op_sub (pv 4) pe_int) (fun _ _ => rfl))))
        pss_nil)
      (pss_one (ps_expr (pe_bm PySem.F.plainAttrs_list PySem.F.slot_list_append PySem.F.type_list_append mt_append (pv 3) (pa_cons (pe_tup (pa_cons (pv 7) (pa_cons (pv 6) pa_nil))) pa_nil)))))))))
      (pss_cons (ps_set (i := 8) sc__law_record.nd rfl (Or.inl rfl) (pe_ix (r := rIxL K) ix_list (pe_lst (pa_cons (pe_callB (cr_sum rfl) (by rfl) T.b_sum (by decide +kernel) (pa_cons (pe_lc (own := [("name", 7), ("number", 6)]) (g := gTup K 2 (gCons (gName 7) (gCons (gName 6) gNil)))  (by rfl) sc__law_record.nd  (pi_list (pv 3)) (blkOk_by (own := [("name", 7), ("number", 6)]) (N := N__law_record) (sc := defScope s__law_record) (by decide +kernel)) (fun _ _ _ _ _ => (pg_tup rfl (pgs_cons (pg_name (i := 7) sc__law_record.nd rfl (Or.inl rfl)) (pgs_cons (pg_name (i := 6) sc__law_record.nd rfl (Or.inl rfl)) pgs_nil)))) (fun _ _ _ _ _ => pts_nil) (fun _ _ _ _ _ => (pv 6))) pa_nil)) (pa_cons (pe_op op_sub (pe_cal C__law_take (hr.mono (by first | decide | omega)) pass0 (pa_cons (pv 1) (pa_cons (pe_op op_pow pe_int pe_int) pa_nil))) (pe_op op_mul pe_int (pe_op op_pow pe_int pe_int))) pa_nil))) (pe_cal C__law_take (hr.mono (by first | decide | omega)) pass0 (pa_cons (pv 1) (pa_cons pe_int pa_nil))) (fun _ _ => rfl)))
      (pss_one (ps_ret (pe_tup (pa_cons (pe_cal C__law_summed (hr.mono (by first | decide | omega)) pass0 (pa_cons (pv 3) (pa_cons (pv 8) pa_nil))) (pa_cons (pv 3) (pa_cons (pv 8) pa_nil))))))))))), ?_⟩
  refine ⟨_, rfl, a, ns, 60, rfl, hS, h63, by decide, by decide, fun p r0 m c n0 c0 c1 => ?_⟩
  -- how many
  refine ⟨_, rfl, p, r0, m, c, 29, rfl, upd_same, by decide, by decide, c0, by omega, fun H1 v1 r1 c1' k1 p1 d0 d1 v10 v11 => ?_⟩
  have s1 : Same H H1 := take_same n0 (same_new n0 _) k1
  refine ⟨_, _, rfl, rfl, _, rfl, p, r1, m, c1', 4, rfl, p1, by decide, by decide, d0, by omega, fun H2 v2 r2 c2 k2 p2 e0 e1 v20 v21 => ?_⟩
  have s2 : Same H H2 := take_same n0 s1 k2
  refine ⟨_, _, rfl, rfl, le_line (Nat.le_of_ble_eq_true rfl), fun l nl => ?_⟩
  have lp : p ≠ l := ne_of_none p2 nl
  refine ⟨_, rfl, p, r2, m, c2, 3, rfl, by rw [upd_ne lp]; exact p2, by decide, by decide, e0, by omega, fun H3 v3 r3 c3 k3 p3 f0 f1 v30 v31 => ?_⟩
  have s3 : Same H H3 := take_same n0 (s2.trans (same_new nl _)) k3
  have hl3 := (k3 l lp.symm).trans upd_same
  obtain ⟨x, hx, hat⟩ := one_of (xs := ([.int (1 + v1), .int 29, .int (1 + v2)] : List V)) v30 v31
  obtain ⟨many, rfl, m1, m29⟩ : ∃ many : Int, x = .int many ∧ 1 ≤ many ∧ many ≤ 29 := by
    simp only [List.mem_cons, List.not_mem_nil, or_false] at hx
    rcases hx with h | h | h
    · exact ⟨_, h, by omega, by omega⟩
    · exact ⟨_, h, by decide, by decide⟩
    · exact ⟨_, h, by omega, by omega⟩
  refine ⟨l, _, v3, _, rfl, rfl, SqL.of hl3, hat, ?_⟩
  -- the reads
  refine ⟨le_line (Nat.le_of_ble_eq_true rfl), fun R nR => ?_⟩
  have hS3 := s3.seq hS
  obtain ⟨H4, hH4⟩ : ∃ H4, H4 = upd H3 R (.lst []) := ⟨_, rfl⟩
  have s34 : Same H3 H4 := by rw [hH4]; exact same_new nR _
  have hR4 : H4 R = some (.lst []) := by rw [hH4]; exact upd_same
  rw [← hH4]
  have nRp : R ≠ p := fun z => by rw [z, p3] at nR; cases nR
  obtain ⟨cn, hcn, hc26⟩ : ∃ cn : Nat, ns.getD 0 0 % 26 = (cn : Int) ∧ cn < 26 := ⟨(ns.getD 0 0 % 26).toNat, by omega, by omega⟩
  refine ⟨_, rfl, many, rfl, by omega, by omega, for_range (lo := 0) (n := many.toNat) (fun i σ H' => ∃ (v4 v5 v6 v7 : Option V) (xs : List V) (ps : List Pr), σ = [some (.ref a), some (.ref p), some (.int many), some (.ref R), v4, v5, v6, v7, none] ∧ Same H3 H' ∧ H' R = some (.lst xs) ∧ Prs H' ps xs ∧ ps.map (·.1) = (List.range i).map (nmAt cn)) ⟨none, none, none, none, [], [], rfl, s34, hR4, trivial, rfl⟩ ?_ ?_⟩
  · rintro i σ H5 hi ⟨v4, v5, v6, v7, xs, ps, rfl, hs5, hR5, hP5, hnm⟩
    have hi29 : i < 29 := by omega
    have hxl := hP5.len
    have hpl : ps.length = i := by have := congrArg List.length hnm; rw [List.length_map, List.length_map, List.length_range] at this; exact this
    refine ⟨_, rfl, _, rfl, _, _, rfl, rfl, a, ns, _, rfl, hs5.seq hS3, h63, by omega, by omega, fun z r4 m4 c4 nz g0 g1 => ?_⟩
    have t1 : Same H5 (upd H5 z (.dK (pool r4 m4 c4))) := same_new nz _
    refine ⟨_, rfl, z, r4, m4, c4, 9, rfl, upd_same, by decide, by decide, g0, by omega, fun H6 v8 r5 c5 k6 p6 i0 i1 v80 v81 => ?_⟩
    have t2 := take_same nz t1 k6
    refine ⟨_, _, rfl, rfl, _, rfl, _, _, rfl, rfl, ⟨by decide, by decide, by decide⟩, z, r5, m4, c5, _, rfl, p6, by decide +kernel, by decide +kernel, i0, by omega, fun H7 v9 r6 c6 k7 p7 j0 j1 v90 v91 => ?_⟩
    have t3 := take_same nz t2 k7
    refine ⟨_, _, rfl, rfl, ⟨by decide, by decide, by decide⟩, _, _, rfl, rfl, .inl ⟨by decide, by decide⟩, _, _, rfl, rfl, _, rfl, le_line (Nat.le_of_ble_eq_true rfl), fun u nu => ?_⟩
    have uz : z ≠ u := ne_of_none p7 nu
    refine ⟨_, rfl, z, r6, m4, c6, 4, rfl, by rw [upd_ne uz]; exact p7, by decide, by decide, j0, by omega, fun H8 va r7 c7 k8 p8 l0 l1 va0 va4 => ?_⟩
    have t4 := take_same nz (t3.trans (same_new nu _)) k8
    have hu8 := (k8 u uz.symm).trans upd_same
    obtain ⟨x, hx, hat⟩ := one_of (xs := ([.int 0, .int (v8 - 4), .int (v9 - 5 * 10 ^ 59), .int (0 + (i : Int))] : List V)) va0 va4
    obtain ⟨num, rfl⟩ : ∃ num : Int, x = .int num := by
      simp only [List.mem_cons, List.not_mem_nil, or_false] at hx
      rcases hx with h | h | h | h <;> exact ⟨_, h⟩
    refine ⟨u, _, va, _, rfl, rfl, SqL.of hu8, hat, ?_⟩
    refine ⟨_, rfl, _, _, rfl, rfl, .inr ⟨by decide, by decide⟩, _, rfl, a, ns, 0, rfl, (hs5.trans t4).seq hS3, h63, _, _, rfl, rfl, _, _, rfl, rfl, (by show (0 : Int) < 26; decide), _, (i * 3 + cn) % 26, rfl, by show ((0 + (i : Int)) * 3 + ns.getD 0 0) % 26 = _; omega, Nat.mod_lt _ (by decide), ?_⟩
    refine ⟨_, rfl, _, _, rfl, rfl, _, rfl, ?_⟩
    refine ite2 (fun cc => ?_) (fun cc => ?_)
    · have c25 : (0 + (i : Int)) > 25 := of_decide_eq_true cc
      refine ⟨le_line (Nat.le_of_ble_eq_true rfl), fun l3 n3 => ?_⟩
      have e3 : ([.str "qz", .str "xz", .str "jz"] : List V) = txs [[113, 122], [120, 122], [106, 122]] := by
        have e : (["qz", "xz", "jz"] : List Str) = ([[113, 122], [120, 122], [106, 122]] : List (List Nat)).map SX.S := by decide +kernel
        exact congrArg (List.map V.str) e
      have hi3 : i - 26 < ([[113, 122], [120, 122], [106, 122]] : List (List Nat)).length := by show i - 26 < 3; omega
      have hat3 : atI ([.str "qz", .str "xz", .str "jz"] : List V) (0 + (i : Int) - 26) = some (.str (SX.S (nmAt cn i))) := by
        rw [e3]
        refine atI_at (by omega) ?_
        rw [show (0 + (i : Int) - 26).toNat = i - 26 by omega, txs_get hi3]
        unfold nmAt
        rw [if_neg (by omega), List.getD_eq_getElem?_getD, List.getElem?_eq_getElem hi3]
        rfl
      refine ⟨_, rfl, _, _, rfl, rfl, l3, _, _, _, rfl, rfl, SqL.of upd_same, hat3, ?_⟩
      have t5 := t4.trans (same_new n3 (.lst [.str "qz", .str "xz", .str "jz"]))
      refine ⟨_, rfl, .inl ⟨rfl, _, SqL.of (t5 _ _ hR5)⟩, _, rfl, _, rfl, le_line (Nat.le_of_ble_eq_true rfl), fun tt nt => ?_⟩
      have st := same_new nt (.tup [.str (SX.S (nmAt cn i)), .int num])
      refine ⟨R, _, _, rfl, rfl, st _ _ (t5 _ _ hR5), lt_line (by omega), _, _, _, _, xs ++ [.ref tt], ps ++ [(nmAt cn i, num)], rfl, same_upd (hs5.trans (t5.trans st)) nR _, upd_same, (Prs.snoc (p := (nmAt cn i, num)) upd_same ((hP5.same t5).same st)).keep (keep_lst (st _ _ (t5 _ _ hR5))), ?_⟩
      rw [List.map_append, hnm, List.range_succ, List.map_append]
      rfl
    · have c25 : ¬ (0 + (i : Int)) > 25 := fun z => cc (decide_eq_true z)
      have hnE : nmE ((i * 3 + cn) % 26) = nmAt cn i := by unfold nmAt; rw [if_pos (by omega)]
      rw [hnE]
      have t5 := t4
      refine ⟨_, rfl, .inl ⟨rfl, _, SqL.of (t5 _ _ hR5)⟩, _, rfl, _, rfl, le_line (Nat.le_of_ble_eq_true rfl), fun tt nt => ?_⟩
      have st := same_new nt (.tup [.str (SX.S (nmAt cn i)), .int num])
      refine ⟨R, _, _, rfl, rfl, st _ _ (t5 _ _ hR5), lt_line (by omega), _, _, _, _, xs ++ [.ref tt], ps ++ [(nmAt cn i, num)], rfl, same_upd (hs5.trans (t5.trans st)) nR _, upd_same, (Prs.snoc (p := (nmAt cn i, num)) upd_same ((hP5.same t5).same st)).keep (keep_lst (st _ _ (t5 _ _ hR5))), ?_⟩
      rw [List.map_append, hnm, List.range_succ, List.map_append]
      rfl
  · rintro σ H5 ⟨v4, v5, v6, v7, xs, ps, rfl, hs5, hR5, hP5, hnm⟩
    have hxl := hP5.len
    have hpl : ps.length = many.toNat := by have := congrArg List.length hnm; rw [List.length_map, List.length_map, List.length_range] at this; exact this
    have hp5 := hs5 _ _ p3
    refine ⟨_, rfl, R, rfl, ⟨_, SqL.of hR5⟩, fun N nN => lc_list (K := K) (a := R) (xs := xs) (fun i H' => Same H5 H' ∧ H' N = some (.lst (((ps.take i).map (·.2)).map V.int))) ⟨same_new nN _, upd_same⟩ (fun i H' _ h => SqL.of (h.1 _ _ hR5)) ?_ ?_⟩
    · rintro i x H6 hx ⟨hs, hN⟩
      obtain ⟨p1, t, hpi, rfl, ht⟩ := hP5.at hx
      have := (List.getElem?_eq_some_iff.mp hx).1
      refine ⟨t, _, rfl, SqT.of (hs _ _ ht), rfl, _, _, rfl, _, _, rfl, rfl, rfl, _, rfl, _, hN, ?_, same_upd hs nN _, ?_⟩
      · rw [List.length_map, List.length_map, List.length_take]
        exact lt_line (by omega)
      · rw [upd_same, take_map_snoc hpi, List.map_append]
        rfl
    rintro H6 ⟨hs6, hN6⟩
    rw [List.take_of_length_le (by omega)] at hN6
    refine ⟨N, _, rfl, SqL.of hN6, ?_⟩
    refine ⟨_, rfl, _, _, rfl, rfl, ⟨by decide, by decide, by decide⟩, p, r3, m, c3, _, rfl, hs6 _ _ hp5, by decide +kernel, by decide +kernel, f0, by omega, fun H7 va ra ca ka pa ga gb va0 va1 => ?_⟩
    have u7 : Same H H7 := take_same n0 (s3.trans (hs5.trans hs6)) ka
    have hR7 : H7 R = some (.lst xs) := (ka R nRp).trans (hs6 _ _ hR5)
    refine ⟨_, _, rfl, rfl, ⟨by decide, by decide, by decide⟩, _, _, rfl, rfl, .inl ⟨by decide, by decide⟩, _, _, rfl, rfl, le_line (Nat.le_of_ble_eq_true rfl), fun u nu => ?_⟩
    have up : p ≠ u := ne_of_none pa nu
    have uR : R ≠ u := ne_of_none hR7 nu
    refine ⟨_, rfl, p, ra, m, ca, 2, rfl, by rw [upd_ne up]; exact pa, by decide, by decide, ga, by omega, fun H8 vb rb cb kb pb gc gd vb0 vb1 => ?_⟩
    have u8 : Same H H8 := take_same n0 (u7.trans (same_new nu _)) kb
    have hR8 : H8 R = some (.lst xs) := by rw [kb R nRp, upd_ne uR]; exact hR7
    have hu8 := (kb u up.symm).trans upd_same
    have hP8 : Prs H8 ps xs := hP5.keep ((same_keep hs6).trans ((take_keep (hs6 _ _ hp5) ka).trans ((same_keep (same_new nu _)).trans (take_keep (by rw [upd_ne up]; exact pa) kb))))
    obtain ⟨x, hx, hat⟩ := one_of (xs := ([.int (ps.map (·.2)).sum, .int (va - 5 * 10 ^ 59)] : List V)) vb0 vb1
    obtain ⟨wo, rfl⟩ : ∃ wo : Int, x = .int wo := by
      simp only [List.mem_cons, List.not_mem_nil, or_false] at hx
      rcases hx with h | h <;> exact ⟨_, h⟩
    refine ⟨u, _, vb, _, rfl, rfl, SqL.of hu8, hat, ?_⟩
    refine ⟨_, rfl, _, rfl, R, xs, ps, wo, rfl, hR8, hP8, by omega, fun H9 v hs9 hv9 => ?_⟩
    refine ⟨_, rfl, _, rfl, le_line (Nat.le_of_ble_eq_true rfl), fun t nt => ?_⟩
    have st := same_new nt (.tup [v, .ref R, .int wo])
    refine q _ t R v xs ps wo (u8.trans (hs9.trans st)) upd_same (st _ _ (hs9 _ _ hR8)) ((hP8.same hs9).same st) (hv9.same st) (by omega) (by omega) (fun p hp => ?_) (by rw [hnm]; exact nmAt_nodup hc26 (by omega))
    have hm : p.1 ∈ ps.map (·.1) := List.mem_map.mpr ⟨p, hp, rfl⟩
    rw [hnm] at hm
    obtain ⟨i, hi, e⟩ := List.mem_map.mp hm
    rw [← e]
    exact (nmAt_ok cn hc26).2 i (by have := List.mem_range.mp hi; omega)
end
/-! ### how many recipes and how deep, as the law counts -/
def spParts (j : Nat) : Sp := fun vs H Q _ => ∃ (v : V) (r : Rcp), vs = [v] ∧ Rec H r v ∧ r.Tw ∧ r.dep ≤ j ∧ r.dep ≤ 60 ∧ ∀ (H' : Hp) (l : Addr), Same H H' → H' l = some (.lst [.int (r.siz : Int), .int (r.dep : Int)]) → Q (.ref l) H'
theorem cut_tail5 (a : V) (l : List V) : cutV (a :: l) (some 1) none = l := by
  have h : HT.sIx (a :: l).length 0 (some 1) = 1 := (HT.sIx_nat _ 0 1).trans (by rw [List.length_cons]; omega)
  show ((a :: l).drop (HT.sIx (a :: l).length 0 (some 1))).take (HT.sIx (a :: l).length (a :: l).length none - HT.sIx (a :: l).length 0 (some 1)) = l
  rw [h, HT.sIx_none, List.drop_succ_cons, List.drop_zero, List.length_cons, Nat.add_sub_cancel, List.take_length]
theorem nh_tail (a : V) (l : List V) : ¬ (HT.sIx (a :: l).length 0 (some 1) = 0 ∧ HT.sIx (a :: l).length (a :: l).length none = (a :: l).length) := fun z => by
  have h := (HT.sIx_nat (a :: l).length 0 1).symm.trans z.1
  rw [List.length_cons] at h
  omega
/-- what is told of one recipe -/
def PartR (H : Hp) (r : Rcp) (x : V) : Prop := ∃ l, x = .ref l ∧ H l = some (.lst [.int (r.siz : Int), .int (r.dep : Int)])
theorem partR_mono : ∀ (H H' : Hp) (r : Rcp) (x : V), PartR H r x → Same H H' → PartR H' r x := fun _ _ _ _ ⟨l, e, h⟩ k => ⟨l, e, k _ _ h⟩
theorem MkA.callL {H H' H2 : Hp} {F l : Addr} {ds : List Rcp} {gs : List V} {d : Rcp} (k : MkA PartR H H' F ds gs) (s : Same H' H2) (hx : H2 l = some (.lst [.int (d.siz : Int), .int (d.dep : Int)])) :
    H2 F = some (.lst gs) ∧ MkA PartR H (upd H2 F (.lst (gs ++ [.ref l]))) F (ds ++ [d]) (gs ++ [.ref l]) := by
  obtain ⟨B, h1, h2, h3, h4, h5⟩ := k
  have hF := s _ _ h4
  have nl : l ≠ F := fun z => by
    rw [z, hF] at hx
    have e := HO.lst.inj (Option.some.inj hx)
    rw [e] at h5
    cases ds with
    | nil => exact h5
    | cons d ds =>
      obtain ⟨⟨l', e', _⟩, _⟩ := h5
      cases e'
  have key : ∀ b u, H2 b = some u → b ≠ F → (fun c => if c = F then none else H2 c) b = some u := fun b u e n => by
    show (if b = F then none else H2 b) = some u
    rw [if_neg n]
    exact e
  have sB : Same B (fun c => if c = F then none else H2 c) := fun b u e => by
    have n : b ≠ F := fun z => by
      rw [z, h2] at e
      cases e
    exact key b u (s _ _ (h3 _ _ e)) n
  refine ⟨hF, _, h1.trans sB, if_pos rfl, fun b u e => ?_, upd_same, (h5.imp fun d v h => partR_mono _ _ _ _ h sB).app ⟨⟨l, rfl, key _ _ hx nl⟩, trivial⟩⟩
  have n : b ≠ F := fun z => by
    rw [z] at e
    have e' : (if F = F then none else H2 F) = some u := e
    rw [if_pos rfl] at e'
    cases e'
  have e' : (if b = F then none else H2 b) = some u := e
  rw [if_neg n] at e'
  rw [upd_ne n]
  exact e'
def sizI (r : Rcp) : Int := r.siz
def depI (r : Rcp) : Int := r.dep
theorem sne {a b : Str} (h : decide (a = b) = false) : ¬ V.str a = V.str b := fun z => (of_decide_eq_false h) (V.str.inj z)
section
variable {P : Program} {w : World} {K : PySem.W.Frag} {mg : Str → Option Value} {base : Heap}
abbrev s__law_parts : Stmt := topS 25
abbrev N__law_parts : List Str := ["r", "inner", "parts", "one", "part"]
theorem sc__law_parts : FnScope N__law_parts ["r"] (defScope s__law_parts) := ⟨rfl, rfl, rfl, by decide +kernel, rfl, by decide +kernel, by decide +kernel⟩

theorem ok__law_parts (T : Txt K mg) (D : IsDef K mg "_law_parts" s__law_parts ["r"]) : ∀ j, Cal P w K mg base CX0 j "_law_parts" ["r"] (spParts j)
  | 0 => cal_none D fun vs H Q E h => by
    obtain ⟨v, r, _, _, _, hd, _⟩ := h
    have := dep_pos r
    omega
  | j + 1 => by
    have C__law_parts := ok__law_parts T D j
    refine D.cal sc__law_parts (fun vs H Q E h => ?_) (fun f cdv A outer s H vs Q E hr h => ?_)
    · obtain ⟨v, r, rfl, _⟩ := h
      rfl
    obtain ⟨v, r, rfl, hR, hT, hd, h60, q⟩ := h
    refine ⟨_, (pss_cons (ps_if (PW.pt (pw_or (pt_not (pt_val (pe_callB call_isi (by rfl) T.b_isinstance (by decide +kernel) (pa_cons (pv 0) (pa_cons (pe_bltn (v := .ty "tuple") (by rfl) T.b_tuple (by decide +kernel) rfl) pa_nil))))) (pw_or1 (pt_cmpR op_lt (pe_callB call_len_seq (by rfl) T.b_len PySem.boot_len (pa_cons (pv 0) pa_nil)) pe_int (nomark _)))))
        (pss_one (ps_ret (pe_lst (pa_cons pe_int (pa_cons pe_int pa_nil)))))
        pss_nil)
      (pss_cons (ps_if (PW.pt (pw_and (pt_cmpR op_eq (pe_ix (r := rIxT K) ix_tup (pv 0) pe_int (fun _ _ => rfl)) pe_str (nomark _)) (pw_and1 (pt_cmpR op_eq (pe_callB call_len_seq (by rfl) T.b_len PySem.boot_len (pa_cons (pv 0) pa_nil)) pe_int (nomark _)))))
        (pss_one (ps_ret (pe_lst (pa_cons (pe_callTy call_int1 (by rfl) T.b_int (by decide +kernel) (pa_cons (pe_and (pe_callB call_isi (by rfl) T.b_isinstance (by decide +kernel) (pa_cons (pe_ix (r := rIxT K) ix_tup (pv 0) pe_int (fun _ _ => rfl)) (pa_cons (pe_bltn (v := .ty "int") (by rfl) T.b_int (by decide +kernel) rfl) pa_nil))) (pe_one (pe_not (pe_callB call_isi (by rfl) T.b_isinstance (by decide +kernel) (pa_cons (pe_ix (r := rIxT K) ix_tup (pv 0) pe_int (fun _ _ => rfl)) (pa_cons (pe_bltn (v := .ty "bool") (by rfl) T.b_bool (by decide +kernel) rfl) pa_nil)))))) pa_nil)) (pa_cons pe_int pa_nil)))))
        pss_nil)
      (pss_cons (ps_if (PW.pt (pw_and (pt_cmpR op_eq (pe_ix (r := rIxT K) ix_tup (pv 0) pe_int (fun _ _ => rfl)) pe_str (nomark _)) (pw_and1 (pt_cmpR op_eq (pe_callB call_len_seq (by rfl) T.b_len PySem.boot_len (pa_cons (pv 0) pa_nil)) pe_int (nomark _)))))
        (pss_one (ps_ret (pe_lst (pa_cons (pe_callTy call_int1 (by rfl) T.b_int (by decide +kernel) (pa_cons (pe_callB call_isi (by rfl) T.b_isinstance (by decide +kernel) (pa_cons (pe_ix (r := rIxT K) ix_tup (pv 0) pe_int (fun _ _ => rfl)) (pa_cons (pe_bltn (v := .ty "str") (by rfl) T.b_str (by decide +kernel) rfl) pa_nil))) pa_nil)) (pa_cons pe_int pa_nil)))))
        pss_nil)
      (pss_cons (ps_set (i := 1) sc__law_parts.nd rfl (Or.inl rfl) (pe_callTy call_list_of (by rfl) T.b_list (by decide +kernel) (pa_cons (pe_slice (r := rSlT K) sl_tup (pv 0) (po_some pe_int) po_none) pa_nil)))
      (pss_cons (ps_if (PW.pt (pw_and (pt_cmpR op_eq (pe_ix (r := rIxT K) ix_tup (pv 0) pe_int (fun _ _ => rfl)) pe_str (nomark _)) (pw_and (pt_cmpR op_eq (pe_callB call_len_seq (by rfl) T.b_len PySem.boot_len (pa_cons (pv 0) pa_nil)) pe_int (nomark _)) (pw_and (pt_val (pe_callB call_isi (by rfl) T.b_isinstance (by decide +kernel) (pa_cons (pe_ix (r := rIxT K) ix_tup (pv 0) pe_int (fun _ _ => rfl)) (pa_cons (pe_bltn (v := .ty "tuple") (by rfl) T.b_tuple (by decide +kernel) rfl) pa_nil)))) (pw_and (pt_cmpR op_lt pe_int (pe_callB call_len_seq (by rfl) T.b_len PySem.boot_len (pa_cons (pe_ix (r := rIxT K) ix_tup (pv 0) pe_int (fun _ _ => rfl)) pa_nil)) (nomark _)) (pw_and1 (pt_cmpR op_lt (pe_callB call_len_seq (by rfl) T.b_len PySem.boot_len (pa_cons (pe_ix (r := rIxT K) ix_tup (pv 0) pe_int (fun _ _ => rfl)) pa_nil)) pe_int (nomark _))))))))
        (pss_one (ps_set (i := 1) sc__law_parts.nd rfl (Or.inl rfl) (pe_lst (pa_cons (pe_ix (r := rIxT K) ix_tup (pv 0) pe_int (fun _ _ => rfl)) pa_nil))))
        (pss_one (ps_if (pt_cmpR (op_notInD (hu65 hr)) (pe_lst (pa_cons (pe_ix (r := rIxT K) ix_tup (pv 0) pe_int (fun _ _ => rfl)) (pa_cons (pe_callB call_len_seq (by rfl) T.b_len PySem.boot_len (pa_cons (pv 0) pa_nil)) pa_nil))) (pe_lst (pa_cons (pe_lst (pa_cons pe_str (pa_cons pe_int pa_nil))) (pa_cons (pe_lst (pa_cons pe_str (pa_cons pe_int pa_nil))) (pa_cons (pe_lst (pa_cons pe_str (pa_cons pe_int pa_nil))) (pa_cons (pe_lst (pa_cons pe_str (pa_cons pe_int pa_nil))) (pa_cons (pe_lst (pa_cons pe_str (pa_cons pe_int pa_nil))) pa_nil)))))) (by with_unfolding_all rfl))
        (pss_one (ps_ret (pe_lst (pa_cons pe_int (pa_cons pe_int pa_nil)))))
        pss_nil)))
      (pss_cons (ps_setLc (i := 2) (own := [("one", 3)]) (g := gName 3)  (by rfl) sc__law_parts.nd rfl rfl (sw_true rfl rfl rfl (by decide +kernel)) (pi_list (pv 1)) (blkOk_by (own := [("one", 3)]) (N := N__law_parts) (sc := defScope s__law_parts) (by decide +kernel)) (fun _ _ _ _ _ => (pg_name (i := 3) sc__law_parts.nd rfl (Or.inl rfl))) (fun _ _ _ _ _ => pts_nil) (fun _ _ _ _ _ => (pe_cal C__law_parts (hr.mono (by first | decide | omega)) pass0 (pa_cons (pv 3) pa_nil))))
      (pss_cons (ps_if (pt_cmpR (op_neD hr.units) (pe_lc (own := [("part", 4)]) (g := gName 4)  (by rfl) sc__law_parts.nd  (pi_list (pv 2)) (blkOk_by (own := [("part", 4)]) (N := N__law_parts) (sc := defScope s__law_parts) (by decide +kernel)) (fun _ _ _ _ _ => (pg_name (i := 4) sc__law_parts.nd rfl (Or.inl rfl))) (fun _ _ _ _ _ => (pts_one (pt_cmpR op_eq (pe_ix (r := rIxL K) ix_list (pv 4) pe_int (fun _ _ => rfl)) pe_int (nomark _)))) (fun _ _ _ _ _ => (pv 4))) (pe_lst pa_nil) (nomark _))
        (pss_one (ps_ret (pe_lst (pa_cons pe_int (pa_cons pe_int pa_nil)))))
        pss_nil)
      (pss_one (ps_ret (pe_lst (pa_cons (pe_op op_add pe_int (pe_callB (cr_sum rfl) (by rfl) T.b_sum (by decide +kernel) (pa_cons (pe_lc (own := [("part", 4)]) (g := gName 4)  (by rfl) sc__law_parts.nd  (pi_list (pv 2)) (blkOk_by (own := [("part", 4)]) (N := N__law_parts) (sc := defScope s__law_parts) (by decide +kernel)) (fun _ _ _ _ _ => (pg_name (i := 4) sc__law_parts.nd rfl (Or.inl rfl))) (fun _ _ _ _ _ => pts_nil) (fun _ _ _ _ _ => (pe_ix (r := rIxL K) ix_list (pv 4) pe_int (fun _ _ => rfl)))) pa_nil))) (pa_cons (pe_op op_add pe_int (pe_callB (cr_max rfl) (by rfl) T.b_max (by decide +kernel) (pa_cons (pe_lc (own := [("part", 4)]) (g := gName 4)  (by rfl) sc__law_parts.nd  (pi_list (pv 2)) (blkOk_by (own := [("part", 4)]) (N := N__law_parts) (sc := defScope s__law_parts) (by decide +kernel)) (fun _ _ _ _ _ => (pg_name (i := 4) sc__law_parts.nd rfl (Or.inl rfl))) (fun _ _ _ _ _ => pts_nil) (fun _ _ _ _ _ => (pe_ix (r := rIxL K) ix_list (pv 4) pe_int (fun _ _ => rfl)))) pa_nil))) pa_nil)))))))))))), ?_⟩
    cases r with
    | num n =>
      obtain ⟨p, rfl, hp⟩ := hR
      refine ⟨_, rfl, V.ref p, _, .type "tuple", _, true, rfl, .ty _, .base (.tup hp), kit_ty (by decide +kernel), _, rfl, not_true_eq rfl ?_⟩
      refine ⟨_, rfl, p, _, rfl, .inr (SqT.of hp), _, _, rfl, rfl, _, rfl, iteN (show ¬ ((2 : Nat) : Int) < 2 by decide) ?_⟩
      refine ⟨_, rfl, p, _, _, _, rfl, rfl, SqT.of hp, rfl, rfl, _, rfl, iteY rfl ?_⟩
      refine ⟨_, rfl, p, _, rfl, .inr (SqT.of hp), rfl, _, rfl, iteY rfl ?_⟩
      refine ⟨_, rfl, p, _, _, _, rfl, rfl, SqT.of hp, rfl, .int n, _, .type "int", _, true, rfl, .ty _, .base (.int _), kit_ty (by decide +kernel), _, rfl, iteT ?_⟩
      refine ⟨_, rfl, p, _, _, _, rfl, rfl, SqT.of hp, rfl, .int n, _, .type "int", _, false, rfl, .ty _, .base (.int _), kit_ty (by decide +kernel), _, rfl, .inr ⟨_, rfl, le_line (Nat.le_of_ble_eq_true rfl), fun l nl => ?_⟩⟩
      exact q _ l (same_new nl _) upd_same
    | read s =>
      obtain ⟨p, rfl, hp⟩ := hR
      refine ⟨_, rfl, V.ref p, _, .type "tuple", _, true, rfl, .ty _, .base (.tup hp), kit_ty (by decide +kernel), _, rfl, not_true_eq rfl ?_⟩
      refine ⟨_, rfl, p, _, rfl, .inr (SqT.of hp), _, _, rfl, rfl, _, rfl, iteN (show ¬ ((2 : Nat) : Int) < 2 by decide) ?_⟩
      refine ⟨_, rfl, p, _, _, _, rfl, rfl, SqT.of hp, rfl, rfl, _, rfl, iteN (sne (by decide +kernel)) ?_⟩
      refine ⟨_, rfl, p, _, _, _, rfl, rfl, SqT.of hp, rfl, rfl, _, rfl, iteY rfl ?_⟩
      refine ⟨_, rfl, p, _, rfl, .inr (SqT.of hp), rfl, _, rfl, iteY rfl ?_⟩
      refine ⟨_, rfl, p, _, _, _, rfl, rfl, SqT.of hp, rfl, .str (SX.S s), _, .type "str", _, true, rfl, .ty _, .base (.str _), kit_ty (by decide +kernel), .inr ⟨_, rfl, le_line (Nat.le_of_ble_eq_true rfl), fun l nl => ?_⟩⟩
      exact q _ l (same_new nl _) upd_same
    | two k a b =>
      obtain ⟨p, x, y, rfl, hp, ha, hb⟩ := hR
      obtain ⟨rfl, hTa, hTb⟩ := hT
      have hd1 : a.dep ≤ j ∧ b.dep ≤ j ∧ a.dep ≤ 60 ∧ b.dep ≤ 60 := by
        have e : (Rcp.two .plus a b).dep = max a.dep b.dep + 1 := rfl
        omega
      refine ⟨_, rfl, V.ref p, _, .type "tuple", _, true, rfl, .ty _, .base (.tup hp), kit_ty (by decide +kernel), _, rfl, not_true_eq rfl ?_⟩
      refine ⟨_, rfl, p, _, rfl, .inr (SqT.of hp), _, _, rfl, rfl, _, rfl, iteN (show ¬ ((3 : Nat) : Int) < 2 by decide) ?_⟩
      refine ⟨_, rfl, p, _, _, _, rfl, rfl, SqT.of hp, rfl, rfl, _, rfl, iteN (sne (by decide +kernel)) ?_⟩
      refine ⟨_, rfl, p, _, _, _, rfl, rfl, SqT.of hp, rfl, rfl, _, rfl, iteN (sne (by decide +kernel)) ?_⟩
      refine ⟨_, rfl, _, rfl, p, _, rfl, SqT.of hp, nh_tail _ _, fun t nt => ?_⟩
      rw [cut_tail5]
      have st := same_new nt (.tup [x, y])
      refine ⟨t, _, rfl, .inr (SqT.of upd_same), fun L nL => ?_⟩
      have sL := same_new nL (.lst [x, y])
      have hp2 := sL _ _ (st _ _ hp)
      refine ⟨_, rfl, p, _, _, _, rfl, rfl, SqT.of hp2, rfl, rfl, _, rfl, iteN (sne (by decide +kernel)) ?_⟩
      refine iteF ⟨_, rfl, p, _, _, _, rfl, rfl, SqT.of hp2, rfl, _, rfl, p, _, rfl, .inr (SqT.of hp2), le_line (Nat.le_of_ble_eq_true rfl), fun l0 n0 => ?_⟩
      refine ⟨le_line (Nat.le_of_ble_eq_true rfl), fun l1 n1 => ⟨le_line (Nat.le_of_ble_eq_true rfl), fun l2 n2 => ⟨le_line (Nat.le_of_ble_eq_true rfl), fun l3 n3 => ⟨le_line (Nat.le_of_ble_eq_true rfl), fun l4 n4 => ⟨le_line (Nat.le_of_ble_eq_true rfl), fun l5 n5 => ⟨le_line (Nat.le_of_ble_eq_true rfl), fun l6 n6 => ?_⟩⟩⟩⟩⟩⟩
      have e0 := same_new n0 (.lst [.str Kd.plus.name, .int (([V.str Kd.plus.name, x, y].length : Nat) : Int)])
      have e1 := same_new n1 (.lst [.str "plus", .int 3])
      have e2 := same_new n2 (.lst [.str "minus", .int 3])
      have e3 := same_new n3 (.lst [.str "times", .int 3])
      have e4 := same_new n4 (.lst [.str "most", .int 3])
      have e5 := same_new n5 (.lst [.str "pick", .int 4])
      have e6 := same_new n6 (.lst [.ref l1, .ref l2, .ref l3, .ref l4, .ref l5])
      have row : ∀ {H : Hp} {l : Addr} {a : Str} {n : Int}, H l = some (.lst [.str a, .int n]) → Dp K H (.ref l) (.list [.str a, .int n]) := fun h => .lst (SqL.of h) (.cons (.str _) (.cons (.int _) .nil))
      have sHH := st.trans (sL.trans (e0.trans (e1.trans (e2.trans (e3.trans (e4.trans (e5.trans e6)))))))
      refine ⟨.list [.str "plus", .int 3], [.list [.str "plus", .int 3], .list [.str "minus", .int 3], .list [.str "times", .int 3], .list [.str "most", .int 3], .list [.str "pick", .int 4]], row (e6 _ _ (e5 _ _ (e4 _ _ (e3 _ _ (e2 _ _ (e1 _ _ upd_same)))))),
        .lst (SqL.of upd_same) (.cons (row (e6 _ _ (e5 _ _ (e4 _ _ (e3 _ _ (e2 _ _ upd_same)))))) (.cons (row (e6 _ _ (e5 _ _ (e4 _ _ (e3 _ _ upd_same))))) (.cons (row (e6 _ _ (e5 _ _ (e4 _ _ upd_same)))) (.cons (row (e6 _ _ (e5 _ _ upd_same))) (.cons (row (e6 _ _ upd_same)) .nil))))),
        by decide +kernel, by decide +kernel, _, rfl, not_true_eq (by decide +kernel) ?_⟩
      have hLL := e6 _ _ (e5 _ _ (e4 _ _ (e3 _ _ (e2 _ _ (e1 _ _ (e0 _ _ (upd_same (H := upd H t (.tup [x, y])) (a := L) (o := .lst [x, y]))))))))
      have hW := Recs.keep (same_keep sHH) (rs := [a, b]) (vs := [x, y]) ⟨ha, hb, trivial⟩
      obtain ⟨HH, hHH⟩ : ∃ HH, HH = upd (upd (upd (upd (upd (upd (upd (upd (upd H t (.tup [x, y])) L (.lst [x, y])) l0 (.lst [.str Kd.plus.name, .int (([V.str Kd.plus.name, x, y].length : Nat) : Int)])) l1 (.lst [.str "plus", .int 3])) l2 (.lst [.str "minus", .int 3])) l3 (.lst [.str "times", .int 3])) l4 (.lst [.str "most", .int 3])) l5 (.lst [.str "pick", .int 4])) l6 (.lst [.ref l1, .ref l2, .ref l3, .ref l4, .ref l5]) := ⟨_, rfl⟩
      rw [← hHH] at sHH hLL hW
      rw [← hHH]
      have hall : ∀ r ∈ [a, b], r.Tw ∧ r.dep ≤ j ∧ r.dep ≤ 60 := fun r hr => by
        simp only [List.mem_cons, List.not_mem_nil, or_false] at hr
        rcases hr with rfl | rfl
        · exact ⟨hTa, hd1.1, hd1.2.2.1⟩
        · exact ⟨hTb, hd1.2.1, hd1.2.2.2⟩
      have hsz : ((Rcp.two .plus a b).siz : Int) = 1 + (([a, b].map sizI).sum) := by
        show ((a.siz + b.siz + 1 : Nat) : Int) = 1 + ((a.siz : Int) + ((b.siz : Int) + 0))
        omega
      have hdp : ∀ m, m ∈ [a, b].map depI → (∀ y, y ∈ [a, b].map depI → y ≤ m) → ((Rcp.two .plus a b).dep : Int) = 1 + m := fun m hm hmax => by
        have h1 : (a.dep : Int) ≤ m := hmax (depI a) (by simp)
        have h2 : (b.dep : Int) ≤ m := hmax (depI b) (by simp)
        have h3 : m = (a.dep : Int) ∨ m = (b.dep : Int) := by
          simp only [List.map_cons, List.map_nil, List.mem_cons, List.not_mem_nil, or_false] at hm
          exact hm
        show ((max a.dep b.dep + 1 : Nat) : Int) = 1 + m
        omega
      have hlen3 : 1 ≤ [a, b].length ∧ [a, b].length ≤ 3 := ⟨by show 1 ≤ 2; decide, by show 2 ≤ 3; decide⟩
      generalize hrs : [a, b] = rs at hW hall hsz hdp hlen3
      generalize hws : [x, y] = ws at hW hLL
      have hwl := hW.len
      refine ⟨_, rfl, L, rfl, ⟨_, SqL.of hLL⟩, fun M nM => lc_list (K := K) (a := L) (xs := ws) (fun i H' => ∃ gs, MkA PartR HH H' M (rs.take i) gs) ⟨[], MkA.start nM⟩ (fun i H' _ ⟨_, h⟩ => SqL.of (h.same _ _ hLL)) ?_ ?_⟩
      · rintro i y H5 hy ⟨gs, hM⟩
        obtain ⟨r1, hr1, hR1⟩ := hW.at hy
        obtain ⟨hTr, hdr, hd6⟩ := hall r1 (List.mem_of_getElem? hr1)
        refine ⟨rfl, _, rfl, y, r1, rfl, hR1.same hM.same, hTr, hdr, hd6, fun H6 l hs6 hl => ?_⟩
        have hgl := hM.len
        rw [List.length_take] at hgl
        obtain ⟨hF6, hM6⟩ := hM.callL hs6 hl
        refine ⟨gs, hF6, lt_line (by omega), gs ++ [.ref l], ?_⟩
        rw [List.take_add_one, hr1]
        exact hM6
      rintro H5 ⟨gs, hM⟩
      rw [List.take_of_length_le (by omega)] at hM
      have hgl := hM.len
      have hMa := hM.at
      have hMf := MkA.fin (R := PartR) partR_mono hM
      have hs5 := hM.same
      clear hM
      refine ⟨_, rfl, M, rfl, ⟨_, SqL.of hMa⟩, fun N nN => lc_list (K := K) (a := M) (xs := gs) (fun i H' => Same H5 H' ∧ H' N = some (.lst [])) ⟨same_new nN _, upd_same⟩ (fun i H' _ h => SqL.of (h.1 _ _ hMa)) ?_ ?_⟩
      · rintro i y H6 hy ⟨hs6, hN⟩
        obtain ⟨r1, hr1, l1, rfl, hl1⟩ := hMf.at hy
        refine ⟨rfl, _, rfl, l1, _, _, _, rfl, rfl, SqL.of (hs6 _ _ hl1), rfl, rfl, _, rfl, iteN (fun z => ?_) ⟨hs6, hN⟩⟩
        have := siz_pos r1
        have := V.int.inj z
        omega
      rintro H6 ⟨hs6, hN⟩
      refine ⟨le_line (Nat.le_of_ble_eq_true rfl), fun E1 nE1 => ⟨_, _, .lst (SqL.of ((same_new nE1 _) _ _ hN)) .nil, .lst (SqL.of upd_same) .nil, rfl, rfl, _, rfl, not_true_eq rfl ?_⟩⟩
      have s7 := same_new nE1 (.lst [])
      have hMa7 := s7 _ _ (hs6 _ _ hMa)
      refine ⟨_, rfl, M, rfl, ⟨_, SqL.of hMa7⟩, fun N1 nN1 => lc_list (K := K) (a := M) (xs := gs) (fun i H' => Same (upd H6 E1 (.lst [])) H' ∧ H' N1 = some (.lst (((rs.take i).map sizI).map V.int))) ⟨same_new nN1 _, upd_same⟩ (fun i H' _ h => SqL.of (h.1 _ _ hMa7)) ?_ ?_⟩
      · rintro i y H8 hy ⟨hs8, hN1⟩
        obtain ⟨r1, hr1, l1, rfl, hl1⟩ := hMf.at hy
        refine ⟨rfl, _, rfl, l1, _, _, _, rfl, rfl, SqL.of (hs8 _ _ (s7 _ _ (hs6 _ _ hl1))), rfl, _, hN1, lt_line (by rw [List.length_map, List.length_map, List.length_take]; omega), same_upd hs8 nN1 _, ?_⟩
        rw [upd_same, take_map_snoc hr1, List.map_append]
        rfl
      rintro H8 ⟨hs8, hN1⟩
      rw [List.take_of_length_le (by omega)] at hN1
      refine ⟨N1, _, rfl, SqL.of hN1, _, _, rfl, rfl, ?_⟩
      have hMa8 := hs8 _ _ hMa7
      refine ⟨_, rfl, M, rfl, ⟨_, SqL.of hMa8⟩, fun N2 nN2 => lc_list (K := K) (a := M) (xs := gs) (fun i H' => Same H8 H' ∧ H' N2 = some (.lst (((rs.take i).map depI).map V.int))) ⟨same_new nN2 _, upd_same⟩ (fun i H' _ h => SqL.of (h.1 _ _ hMa8)) ?_ ?_⟩
      · rintro i y H9 hy ⟨hs9, hN2⟩
        obtain ⟨r1, hr1, l1, rfl, hl1⟩ := hMf.at hy
        refine ⟨rfl, _, rfl, l1, _, _, _, rfl, rfl, SqL.of (hs9 _ _ (hs8 _ _ (s7 _ _ (hs6 _ _ hl1)))), rfl, _, hN2, lt_line (by rw [List.length_map, List.length_map, List.length_take]; omega), same_upd hs9 nN2 _, ?_⟩
        rw [upd_same, take_map_snoc hr1, List.map_append]
        rfl
      rintro H9 ⟨hs9, hN2⟩
      rw [List.take_of_length_le (by omega)] at hN2
      refine ⟨N2, _, rfl, SqL.of hN2, by rw [List.length_map]; omega, fun m hm hmax => ⟨_, _, rfl, rfl, le_line (Nat.le_of_ble_eq_true rfl), fun lf nf => ?_⟩⟩
      refine q _ lf (sHH.trans (hs5.trans (hs6.trans (s7.trans (hs8.trans (hs9.trans (same_new nf _))))))) ?_
      rw [upd_same, hsz, hdp m hm hmax]
    | pick a b c => exact hT.elim
    | choose a ns =>
      obtain ⟨p, x, t2, rfl, hp, ha, ht2⟩ := hR
      obtain ⟨hTa, s0, rfl, hs⟩ := hT
      have hd1 : a.dep ≤ j ∧ a.dep ≤ 60 := by
        have e : (Rcp.choose a [s0]).dep = a.dep + 1 := rfl
        omega
      refine ⟨_, rfl, V.ref p, _, .type "tuple", _, true, rfl, .ty _, .base (.tup hp), kit_ty (by decide +kernel), _, rfl, not_true_eq rfl ?_⟩
      refine ⟨_, rfl, p, _, rfl, .inr (SqT.of hp), _, _, rfl, rfl, _, rfl, iteN (show ¬ ((3 : Nat) : Int) < 2 by decide) ?_⟩
      refine ⟨_, rfl, p, _, _, _, rfl, rfl, SqT.of hp, rfl, rfl, _, rfl, iteN (sne (by decide +kernel)) ?_⟩
      refine ⟨_, rfl, p, _, _, _, rfl, rfl, SqT.of hp, rfl, rfl, _, rfl, iteN (sne (by decide +kernel)) ?_⟩
      refine ⟨_, rfl, _, rfl, p, _, rfl, SqT.of hp, nh_tail _ _, fun t nt => ?_⟩
      rw [cut_tail5]
      have st := same_new nt (.tup [x, .ref t2])
      refine ⟨t, _, rfl, .inr (SqT.of upd_same), fun L nL => ?_⟩
      have sL := same_new nL (.lst [x, .ref t2])
      have hp2 := sL _ _ (st _ _ hp)
      refine ⟨_, rfl, p, _, _, _, rfl, rfl, SqT.of hp2, rfl, rfl, _, rfl, iteY rfl ?_⟩
      have ht22 := sL _ _ (st _ _ ht2)
      refine ⟨_, rfl, p, _, rfl, .inr (SqT.of hp2), rfl, _, rfl, iteY rfl ?_⟩
      refine ⟨_, rfl, p, _, _, _, rfl, rfl, SqT.of hp2, rfl, .ref t2, _, .type "tuple", _, true, rfl, .ty _, .base (.tup ht22), kit_ty (by decide +kernel), _, rfl, iteT ?_⟩
      refine ⟨_, rfl, p, _, _, _, rfl, rfl, SqT.of hp2, rfl, t2, _, rfl, .inr (SqT.of ht22), _, _, rfl, rfl, _, rfl, iteY (show (0 : Int) < ((1 : Nat) : Int) by decide) ?_⟩
      refine ⟨_, rfl, p, _, _, _, rfl, rfl, SqT.of hp2, rfl, t2, _, rfl, .inr (SqT.of ht22), _, _, rfl, rfl, _, rfl, iteY (show ((1 : Nat) : Int) < 10 by decide) ?_⟩
      refine ⟨_, rfl, p, _, _, _, rfl, rfl, SqT.of hp2, rfl, le_line (Nat.le_of_ble_eq_true rfl), fun L2 n2 => ?_⟩
      have sL2 := same_new n2 (.lst [x])
      have sHH := st.trans (sL.trans sL2)
      have hLL := upd_same (H := upd (upd H t (.tup [x, .ref t2])) L (.lst [x, .ref t2])) (a := L2) (o := .lst [x])
      have hW := Recs.keep (same_keep sHH) (rs := [a]) (vs := [x]) ⟨ha, trivial⟩
      obtain ⟨HH, hHH⟩ : ∃ HH, HH = upd (upd (upd H t (.tup [x, .ref t2])) L (.lst [x, .ref t2])) L2 (.lst [x]) := ⟨_, rfl⟩
      rw [← hHH] at sHH hLL hW
      rw [← hHH]
      have hall : ∀ r ∈ [a], r.Tw ∧ r.dep ≤ j ∧ r.dep ≤ 60 := fun r hr => by
        simp only [List.mem_cons, List.not_mem_nil, or_false] at hr
        rw [hr]
        exact ⟨hTa, hd1⟩
      have hsz : ((Rcp.choose a [s0]).siz : Int) = 1 + (([a].map sizI).sum) := by
        show ((a.siz + 1 : Nat) : Int) = 1 + ((a.siz : Int) + 0)
        omega
      have hdp : ∀ m, m ∈ [a].map depI → (∀ y, y ∈ [a].map depI → y ≤ m) → ((Rcp.choose a [s0]).dep : Int) = 1 + m := fun m hm _ => by
        have h3 : m = (a.dep : Int) := by
          simp only [List.map_cons, List.map_nil, List.mem_cons, List.not_mem_nil, or_false] at hm
          exact hm
        show ((a.dep + 1 : Nat) : Int) = 1 + m
        omega
      have hlen3 : 1 ≤ [a].length ∧ [a].length ≤ 3 := ⟨by show 1 ≤ 1; decide, by show 1 ≤ 3; decide⟩
      generalize hrs : [a] = rs at hW hall hsz hdp hlen3
      generalize hws : [x] = ws at hW hLL
      obtain ⟨L, hLe⟩ : ∃ L', L' = L2 := ⟨_, rfl⟩
      rw [← hLe] at hLL
      rw [← hLe]
      have hwl := hW.len
      refine ⟨_, rfl, L, rfl, ⟨_, SqL.of hLL⟩, fun M nM => lc_list (K := K) (a := L) (xs := ws) (fun i H' => ∃ gs, MkA PartR HH H' M (rs.take i) gs) ⟨[], MkA.start nM⟩ (fun i H' _ ⟨_, h⟩ => SqL.of (h.same _ _ hLL)) ?_ ?_⟩
      · rintro i y H5 hy ⟨gs, hM⟩
        obtain ⟨r1, hr1, hR1⟩ := hW.at hy
        obtain ⟨hTr, hdr, hd6⟩ := hall r1 (List.mem_of_getElem? hr1)
        refine ⟨rfl, _, rfl, y, r1, rfl, hR1.same hM.same, hTr, hdr, hd6, fun H6 l hs6 hl => ?_⟩
        have hgl := hM.len
        rw [List.length_take] at hgl
        obtain ⟨hF6, hM6⟩ := hM.callL hs6 hl
        refine ⟨gs, hF6, lt_line (by omega), gs ++ [.ref l], ?_⟩
        rw [List.take_add_one, hr1]
        exact hM6
      rintro H5 ⟨gs, hM⟩
      rw [List.take_of_length_le (by omega)] at hM
      have hgl := hM.len
      have hMa := hM.at
      have hMf := MkA.fin (R := PartR) partR_mono hM
      have hs5 := hM.same
      clear hM
      refine ⟨_, rfl, M, rfl, ⟨_, SqL.of hMa⟩, fun N nN => lc_list (K := K) (a := M) (xs := gs) (fun i H' => Same H5 H' ∧ H' N = some (.lst [])) ⟨same_new nN _, upd_same⟩ (fun i H' _ h => SqL.of (h.1 _ _ hMa)) ?_ ?_⟩
      · rintro i y H6 hy ⟨hs6, hN⟩
        obtain ⟨r1, hr1, l1, rfl, hl1⟩ := hMf.at hy
        refine ⟨rfl, _, rfl, l1, _, _, _, rfl, rfl, SqL.of (hs6 _ _ hl1), rfl, rfl, _, rfl, iteN (fun z => ?_) ⟨hs6, hN⟩⟩
        have := siz_pos r1
        have := V.int.inj z
        omega
      rintro H6 ⟨hs6, hN⟩
      refine ⟨le_line (Nat.le_of_ble_eq_true rfl), fun E1 nE1 => ⟨_, _, .lst (SqL.of ((same_new nE1 _) _ _ hN)) .nil, .lst (SqL.of upd_same) .nil, rfl, rfl, _, rfl, not_true_eq rfl ?_⟩⟩
      have s7 := same_new nE1 (.lst [])
      have hMa7 := s7 _ _ (hs6 _ _ hMa)
      refine ⟨_, rfl, M, rfl, ⟨_, SqL.of hMa7⟩, fun N1 nN1 => lc_list (K := K) (a := M) (xs := gs) (fun i H' => Same (upd H6 E1 (.lst [])) H' ∧ H' N1 = some (.lst (((rs.take i).map sizI).map V.int))) ⟨same_new nN1 _, upd_same⟩ (fun i H' _ h => SqL.of (h.1 _ _ hMa7)) ?_ ?_⟩
      · rintro i y H8 hy ⟨hs8, hN1⟩
        obtain ⟨r1, hr1, l1, rfl, hl1⟩ := hMf.at hy
        refine ⟨rfl, _, rfl, l1, _, _, _, rfl, rfl, SqL.of (hs8 _ _ (s7 _ _ (hs6 _ _ hl1))), rfl, _, hN1, lt_line (by rw [List.length_map, List.length_map, List.length_take]; omega), same_upd hs8 nN1 _, ?_⟩
        rw [upd_same, take_map_snoc hr1, List.map_append]
        rfl
      rintro H8 ⟨hs8, hN1⟩
      rw [List.take_of_length_le (by omega)] at hN1
      refine ⟨N1, _, rfl, SqL.of hN1, _, _, rfl, rfl, ?_⟩
      have hMa8 := hs8 _ _ hMa7
      refine ⟨_, rfl, M, rfl, ⟨_, SqL.of hMa8⟩, fun N2 nN2 => lc_list (K := K) (a := M) (xs := gs) (fun i H' => Same H8 H' ∧ H' N2 = some (.lst (((rs.take i).map depI).map V.int))) ⟨same_new nN2 _, upd_same⟩ (fun i H' _ h => SqL.of (h.1 _ _ hMa8)) ?_ ?_⟩
      · rintro i y H9 hy ⟨hs9, hN2⟩
        obtain ⟨r1, hr1, l1, rfl, hl1⟩ := hMf.at hy
        refine ⟨rfl, _, rfl, l1, _, _, _, rfl, rfl, SqL.of (hs9 _ _ (hs8 _ _ (s7 _ _ (hs6 _ _ hl1)))), rfl, _, hN2, lt_line (by rw [List.length_map, List.length_map, List.length_take]; omega), same_upd hs9 nN2 _, ?_⟩
        rw [upd_same, take_map_snoc hr1, List.map_append]
        rfl
      rintro H9 ⟨hs9, hN2⟩
      rw [List.take_of_length_le (by omega)] at hN2
      refine ⟨N2, _, rfl, SqL.of hN2, by rw [List.length_map]; omega, fun m hm hmax => ⟨_, _, rfl, rfl, le_line (Nat.le_of_ble_eq_true rfl), fun lf nf => ?_⟩⟩
      refine q _ lf (sHH.trans (hs5.trans (hs6.trans (s7.trans (hs8.trans (hs9.trans (same_new nf _))))))) ?_
      rw [upd_same, hsz, hdp m hm hmax]
end
/-! ### a recipe worked by the law -/
def okK (ν : List Nat → Int) (kvs : List (Key × V)) : Prop := ∀ s, valV kvs (kT (SX.S s)) = none ∨ valV kvs (kT (SX.S s)) = some (.int (ν s))
theorem okK_put {ν : List Nat → Int} {kvs : List (Key × V)} (h : okK ν kvs) (s : List Nat) : okK ν (putK kvs (kT (SX.S s)) (.int (ν s))) := fun z => by
  rw [valV_put]
  split
  · rename_i e
    have e2 : SX.S z = SX.S s := Sum.inr.inj e
    have e3 : z = s := beq_iff_eq.mp (by rw [← SX.S_beq]; exact beq_iff_eq.mpr e2)
    exact .inr (by rw [e3])
  · exact h z
theorem upd_self {H : Hp} {a : Addr} {o : HO} (h : H a = some o) : upd H a o = H := by
  funext b
  by_cases z : b = a
  · rw [z, upd_same, h]
  · rw [upd_ne z]
def spSettled : Sp := fun vs H Q _ => ∃ (h st N E W Rr : Addr) (s : List Nat) (nums kvs : List (Key × V)) (ν : List Nat → Int), vs = [.ref h, .str (SX.S s), .ref st] ∧ H h = some (.tup [.ref N, .ref E]) ∧ H N = some (.dK nums) ∧ H st = some (.lst [.ref W, .ref Rr]) ∧ H W = some (.dK kvs) ∧ W ≠ N ∧
  valV nums (kT (SX.S s)) = some (.int (ν s)) ∧ okK ν kvs ∧ kvs.length ≤ 1000 ∧ ∀ kvs', okK ν kvs' → kvs'.length ≤ kvs.length + 1 → Q (.int (ν s)) (upd H W (.dK kvs'))
def spNever : Sp := fun _ _ _ _ => False
/-- the law's state in the work: reads so far, worths so far -/
def Wk (H : Hp) (h st R W : Addr) (A : List Nat → Prop) (ν : List Nat → Int) (ps : List Pr) : Prop :=
  ∃ (N E Rr : Addr) (nums kvs : List (Key × V)) (xs : List V), H h = some (.tup [.ref N, .ref E]) ∧ H N = some (.dK nums) ∧ H st = some (.lst [.ref W, .ref Rr]) ∧ H W = some (.dK kvs) ∧ H R = some (.lst xs) ∧ W ≠ N ∧ st ≠ R ∧
  Prs H ps xs ∧ (∀ s, A s → valV nums (kT (SX.S s)) = some (.int (ν s))) ∧ okK ν kvs ∧ kvs.length ≤ ps.length ∧ (∀ p ∈ ps, Nm p.1)
/-- all stays but R and W -/
def Fr (R W : Addr) (H H' : Hp) : Prop := ∀ b u, b ≠ R → b ≠ W → H b = some u → H' b = some u
theorem Fr.refl (R W : Addr) (H : Hp) : Fr R W H H := fun _ _ _ _ e => e
theorem Fr.trans {R W : Addr} {A B C : Hp} (h : Fr R W A B) (k : Fr R W B C) : Fr R W A C := fun b u n m e => k b u n m (h b u n m e)
theorem Wk.fr_keep {H H' : Hp} {h st R W : Addr} {A : List Nat → Prop} {ν : List Nat → Int} {ps : List Pr} (k : Wk H h st R W A ν ps) (f : Fr R W H H') : Keep H H' := by
  obtain ⟨N, E, Rr, nums, kvs, xs, _, _, _, hW, hR, _⟩ := k
  exact fun b ys e => f b _ (fun z => by rw [z, hR] at e; cases e) (fun z => by rw [z, hW] at e; cases e) e
def readsOf (ν : List Nat → Int) (ns : List (List Nat)) : List Pr := ns.map fun s => (s, ν s)
def spLook : Sp := fun vs H Q _ => ∃ (h st R W : Addr) (s : List Nat) (A : List Nat → Prop) (ν : List Nat → Int) (ps : List Pr), vs = [.ref h, .str (SX.S s), .ref st, .ref R] ∧ Wk H h st R W A ν ps ∧ A s ∧ Nm s ∧ ¬ s ∈ ps.map (·.1) ∧ ps.length ≤ 100 ∧
  ∀ H', Fr R W H H' → Wk H' h st R W A ν (ps ++ [(s, ν s)]) → Q (.int (ν s)) H'
def spValue (j : Nat) : Sp := fun vs H Q _ => ∃ (h st R W : Addr) (v : V) (r : Rcp) (A : List Nat → Prop) (ν : List Nat → Int) (ps : List Pr), vs = [.ref h, v, .ref st, .ref R] ∧ Rec H r v ∧ r.Tw ∧ r.dep ≤ j ∧ Wk H h st R W A ν ps ∧ (∀ s ∈ r.rd, A s ∧ Nm s) ∧ (ps.map (·.1) ++ r.rd).Nodup ∧ ps.length + r.rd.length ≤ 100 ∧
  ∀ H', Fr R W H H' → Wk H' h st R W A ν (ps ++ readsOf ν r.rd) → Q (.int (r.val ν)) H'
section
variable {P : Program} {w : World} {K : PySem.W.Frag} {mg : Str → Option Value} {base : Heap}
abbrev s__law_settled : Stmt := topS 20
abbrev N__law_settled : List Str := ["house", "name", "state", "worths", "records", "reads", "worth"]
theorem sc__law_settled : FnScope N__law_settled ["house", "name", "state"] (defScope s__law_settled) := ⟨rfl, rfl, rfl, by decide +kernel, rfl, by decide +kernel, by decide +kernel⟩

theorem ok__law_settled (T : Txt K mg) (D : IsDef K mg "_law_settled" s__law_settled ["house", "name", "state"]) (C__law_value : Cal P w K mg base CX0 0 "_law_value" ["house", "r", "state", "reads"] spNever) : Cal P w K mg base CX0 1 "_law_settled" ["house", "name", "state"] spSettled := by
  refine D.cal sc__law_settled (fun vs H Q E h => ?_) (fun f cdv A outer s H vs Q E hr h => ?_)
  · obtain ⟨h, st, N, E, W, Rr, s, nums, kvs, ν, rfl, _⟩ := h
    rfl
  obtain ⟨h, st, N, E1, W, Rr, s0, nums, kvs, ν, rfl, hh, hN, hst, hW, hWN, hnum, hok, hkl, q⟩ := h
  have hu : (cxOf CX0 P w K mg base N__law_settled "_law_settled" (defScope s__law_settled) f cdv A outer s H E).nox.A.units + 1 < cLine := Nat.lt_of_le_of_lt (Nat.add_le_add_left (by decide : 1 ≤ 64) _) hr.units
  refine ⟨_, (pss_cons (ps_asg (pv 2) (pg_unl rfl (pgs_cons (pg_name (i := 3) sc__law_settled.nd rfl (Or.inl rfl)) (pgs_cons (pg_name (i := 4) sc__law_settled.nd rfl (Or.inl rfl)) pgs_nil))))
      (pss_cons (ps_if (PW.pt (pw_and (pt_cmp (pc_dnotin hu (pv 1) (pv 3))) (pw_and1 (pt_cmp (pc_din hu (pv 1) (pe_ix (r := rIxT K) ix_tup (pv 0) pe_int (fun _ _ => rfl)))))))
        (pss_one (ps_dput hu (pv 3) (pv 1) (pe_dget hu (pe_ix (r := rIxT K) ix_tup (pv 0) pe_int (fun _ _ => rfl)) (pv 1) (fun _ _ => rfl)) rfl))
        pss_nil)
      (pss_cons (ps_if (pt_cmp (pc_dnotin hu (pv 1) (pv 3)))
        (pss_cons (ps_set (i := 5) sc__law_settled.nd rfl (Or.inl rfl) (pe_lst pa_nil))
      (pss_cons (ps_set (i := 6) sc__law_settled.nd rfl (Or.inl rfl) (pe_cal C__law_value (hr.mono (by first | decide | omega)) pass0 (pa_cons (pv 0) (pa_cons (pe_dget hu (pe_ix (r := rIxT K) ix_tup (pv 0) pe_int (fun _ _ => rfl)) (pv 1) (fun _ _ => rfl)) (pa_cons (pv 2) (pa_cons (pv 5) pa_nil))))))
      (pss_cons (ps_dput hu (pv 4) (pv 1) (pe_tup (pa_cons (pe_dget hu (pe_ix (r := rIxT K) ix_tup (pv 0) pe_int (fun _ _ => rfl)) (pv 1) (fun _ _ => rfl)) (pa_cons (pv 5) (pa_cons (pv 6) pa_nil)))) rfl)
      (pss_one (ps_dput hu (pv 3) (pv 1) (pv 6) rfl)))))
        pss_nil)
      (pss_one (ps_ret (pe_dget hu (pv 3) (pv 1) (fun _ _ => rfl))))))), ?_⟩
  refine ⟨_, rfl, st, _, rfl, SqL.of hst, rfl, _, _, rfl, _, _, rfl, rfl, ?_⟩
  have dn : DGet H N (.str (SX.S s0)) (some (.int (ν s0))) := hnum ▸ DGet.k (k := kT (SX.S s0)) hN
  rcases hok s0 with hk | hk
  · have dw : DGet H W (.str (SX.S s0)) none := hk ▸ DGet.k (k := kT (SX.S s0)) hW
    have hput : valV (putK kvs (kT (SX.S s0)) (.int (ν s0))) (kT (SX.S s0)) = some (.int (ν s0)) := by rw [valV_put, if_pos rfl]
    have dw2 : DGet (upd H W (.dK (putK kvs (kT (SX.S s0)) (.int (ν s0))))) W (.str (SX.S s0)) (some (.int (ν s0))) := hput ▸ DGet.k (k := kT (SX.S s0)) upd_same
    refine ⟨_, rfl, _, rfl, W, _, rfl, dw, _, rfl, not_false_eq rfl ?_⟩
    refine ⟨_, rfl, _, rfl, h, _, _, _, rfl, rfl, SqT.of hh, rfl, N, _, rfl, dn, _, rfl, iteT ?_⟩
    refine ⟨_, rfl, h, _, _, _, rfl, rfl, SqT.of hh, rfl, _, rfl, N, _, rfl, dn, _, rfl, _, rfl, W, _, rfl, DPut.k (k := kT (SX.S s0)) hW (lt_line (by omega)), ?_⟩
    refine ⟨_, rfl, _, rfl, W, _, rfl, dw2, _, rfl, not_true_eq rfl ?_⟩
    exact ⟨_, rfl, _, rfl, W, _, rfl, dw2, q _ (okK_put hok s0) (length_putK _ _ _)⟩
  · have dw : DGet H W (.str (SX.S s0)) (some (.int (ν s0))) := hk ▸ DGet.k (k := kT (SX.S s0)) hW
    have q2 := q kvs hok (Nat.le_succ _)
    rw [upd_self hW] at q2
    refine ⟨_, rfl, _, rfl, W, _, rfl, dw, _, rfl, not_true_eq rfl ?_⟩
    refine ⟨_, rfl, _, rfl, W, _, rfl, dw, _, rfl, not_true_eq rfl ?_⟩
    exact ⟨_, rfl, _, rfl, W, _, rfl, dw, q2⟩
end
/-! ### looked for, worked -/
def pairTh (p : Pr) : Th := .tup [.str p.1, .int p.2]
theorem Prs.data {H : Hp} : ∀ {ps : List Pr} {vs : List V}, Prs H ps vs → DataL H (ps.map pairTh) vs
  | [], [], _ => rfl
  | _ :: _, _ :: _, ⟨⟨t, e, ht⟩, h⟩ => ⟨_, _, rfl, ⟨t, _, e, ht, _, _, rfl, rfl, _, _, rfl, rfl, rfl⟩, Prs.data h⟩
  | [], _ :: _, h => h.elim
  | _ :: _, [], h => h.elim
theorem prs_flat : ∀ ps : List Pr, Th.flatL (ps.map pairTh) = true
  | [] => rfl
  | p :: ps => by
    show ((pairTh p).flat && Th.flatL (ps.map pairTh)) = true
    rw [prs_flat ps]
    rfl
theorem prs_lay : ∀ {ps : List Pr}, (∀ p ∈ ps, Nm p.1) → PyData.canLayAll0 (Th.pyL (ps.map pairTh)) = true ∧ PyData.depthAll (Th.pyL (ps.map pairTh)) ≤ 1
  | [], _ => ⟨rfl, Nat.zero_le _⟩
  | p :: ps, h => by
    obtain ⟨h1, h2⟩ := prs_lay fun q hq => h q (List.mem_cons_of_mem _ hq)
    have h3 := nm_lay (h p (List.mem_cons_self ..))
    refine ⟨?_, ?_⟩
    · show (((PyData.str (SX.S p.1)).canLay0 && ((PyData.int p.2).canLay0 && true)) && PyData.canLayAll0 (Th.pyL (ps.map pairTh))) = true
      rw [h1, h3]
      rfl
    · show max (max 0 (max 0 0) + 1) (PyData.depthAll (Th.pyL (ps.map pairTh))) ≤ 1
      omega
theorem prs_shaped {ps : List Pr} (h : ∀ p ∈ ps, Nm p.1) : SeqAt.shaped (.list (Th.pyL (ps.map pairTh))) = true := by
  obtain ⟨h1, h2⟩ := prs_lay h
  show (PyData.canLayAll0 (Th.pyL (ps.map pairTh)) && decide (PyData.depthAll (Th.pyL (ps.map pairTh)) + 1 ≤ 64)) = true
  rw [h1, decide_eq_true (by omega)]
  rfl
theorem pair_shaped {p : Pr} (h : Nm p.1) : SeqAt.shaped (pairTh p).py = true := by
  show (((PyData.str (SX.S p.1)).canLay0 && ((PyData.int p.2).canLay0 && true)) && decide (max 0 (max 0 0) + 1 ≤ 64)) = true
  rw [nm_lay h]
  rfl
theorem pair_other {p q : Pr} (h : p.1 ≠ q.1) : PyData.eqv (pairTh p).py (pairTh q).py = false := by
  show ((SX.S p.1 == SX.S q.1) && ((p.2 == q.2) && true)) = false
  rw [SX.S_beq, beq_eq_false_iff_ne.mpr h]
  rfl
theorem prs_none {q : Pr} : ∀ {ps : List Pr}, ¬ q.1 ∈ ps.map (·.1) → (Th.pyL (ps.map pairTh)).any (fun z => PyData.eqv z (pairTh q).py) = false
  | [], _ => rfl
  | p :: ps, h => by
    show (PyData.eqv (pairTh p).py (pairTh q).py || (Th.pyL (ps.map pairTh)).any fun z => PyData.eqv z (pairTh q).py) = false
    rw [pair_other (fun e => h (by rw [List.map_cons, e]; exact List.mem_cons_self ..)), prs_none fun e => h (List.mem_cons_of_mem _ e)]
    rfl
section
variable {P : Program} {w : World} {K : PySem.W.Frag} {mg : Str → Option Value} {base : Heap}
abbrev s__law_look : Stmt := topS 19
abbrev N__law_look : List Str := ["house", "name", "state", "reads", "worth"]
theorem sc__law_look : FnScope N__law_look ["house", "name", "state", "reads"] (defScope s__law_look) := ⟨rfl, rfl, rfl, by decide +kernel, rfl, by decide +kernel, by decide +kernel⟩

theorem ok__law_look (T : Txt K mg) (D : IsDef K mg "_law_look" s__law_look ["house", "name", "state", "reads"]) (C__law_settled : Cal P w K mg base CX0 1 "_law_settled" ["house", "name", "state"] spSettled) : Cal P w K mg base CX0 2 "_law_look" ["house", "name", "state", "reads"] spLook := by
  refine D.cal sc__law_look (fun vs H Q E h => ?_) (fun f cdv A outer s H vs Q E hr h => ?_)
  · obtain ⟨h, st, R, W, s, A, ν, ps, rfl, _⟩ := h
    rfl
  obtain ⟨h, st, R, W, s0, A1, ν, ps, rfl, ⟨N, E1, Rr, nums, kvs, xs, hh, hN, hst, hW, hR, hWN, hstR, hP, hA, hok, hkl, hnm⟩, hs0, hns0, hnot, hps, q⟩ := h
  refine ⟨_, (pss_cons (ps_set (i := 4) sc__law_look.nd rfl (Or.inl rfl) (pe_cal C__law_settled (hr.mono (by first | decide | omega)) pass0 (pa_cons (pv 0) (pa_cons (pv 1) (pa_cons (pv 2) pa_nil)))))
      (pss_cons (ps_if (pt_cmpR (op_notInD (hu65 hr)) (pe_tup (pa_cons (pv 1) (pa_cons (pv 4) pa_nil))) (pv 3) (by with_unfolding_all rfl))
        (pss_one (ps_expr (pe_bm PySem.F.plainAttrs_list PySem.F.slot_list_append PySem.F.type_list_append mt_append (pv 3) (pa_cons (pe_tup (pa_cons (pv 1) (pa_cons (pv 4) pa_nil))) pa_nil))))
        pss_nil)
      (pss_one (ps_ret (pv 4))))), ?_⟩
  refine ⟨_, rfl, _, rfl, _, rfl, h, st, N, E1, W, Rr, s0, nums, kvs, ν, rfl, hh, hN, hst, hW, hWN, hA s0 hs0, hok, by omega, fun kvs' hok' hkl' => ?_⟩
  have hWR : W ≠ R := fun z => by rw [z, hR] at hW; cases hW
  obtain ⟨H1, hH1⟩ : ∃ H1, H1 = upd H W (.dK kvs') := ⟨_, rfl⟩
  have f1 : ∀ b u, b ≠ W → H b = some u → H1 b = some u := fun b u n e => by rw [hH1, upd_ne n]; exact e
  have hW1 : H1 W = some (.dK kvs') := by rw [hH1]; exact upd_same
  have k1 : Keep H H1 := fun b ys e => f1 b _ (fun z => by rw [z, hW] at e; cases e) e
  have hR1 := f1 _ _ hWR.symm hR
  have hP1 := hP.keep k1
  have hxl := hP.len
  rw [← hH1]
  refine ⟨_, rfl, _, rfl, le_line (Nat.le_of_ble_eq_true rfl), fun t nt => ?_⟩
  have st1 := same_new nt (.tup [.str (SX.S s0), .int (ν s0)])
  have dT : Data (upd H1 t (.tup [.str (SX.S s0), .int (ν s0)])) (pairTh (s0, ν s0)) (.ref t) := ⟨t, _, rfl, upd_same, _, _, rfl, rfl, _, _, rfl, rfl, rfl⟩
  have dL : Data (upd H1 t (.tup [.str (SX.S s0), .int (ν s0)])) (.lst (ps.map pairTh)) (.ref R) := ⟨R, _, rfl, st1 _ _ hR1, (hP1.same st1).data⟩
  refine ⟨_, rfl, (pairTh (s0, ν s0)).py, Th.pyL (ps.map pairTh), Data.dp rfl dT, Data.dp (t := .lst (ps.map pairTh)) (prs_flat ps) dL, pair_shaped hns0, prs_shaped hnm, _, rfl, ?_⟩
  rw [prs_none hnot]
  refine iteT ?_
  refine ⟨_, rfl, .inl ⟨rfl, _, SqL.of (st1 _ _ hR1)⟩, _, rfl, _, rfl, le_line (Nat.le_of_ble_eq_true rfl), fun t2 nt2 => ?_⟩
  have st2 := same_new nt2 (.tup [.str (SX.S s0), .int (ν s0)])
  have s12 := st1.trans st2
  refine ⟨R, _, _, rfl, rfl, s12 _ _ hR1, lt_line (by omega), _, rfl, q _ (fun b u nR nW e => ?_) ?_⟩
  · rw [upd_ne nR]
    exact s12 _ _ (f1 b u nW e)
  · have up : ∀ b u, b ≠ R → H1 b = some u → upd (upd (upd H1 t (.tup [.str (SX.S s0), .int (ν s0)])) t2 (.tup [.str (SX.S s0), .int (ν s0)])) R (.lst (xs ++ [.ref t2])) b = some u := fun b u n e => by rw [upd_ne n]; exact s12 _ _ e
    have nhR : h ≠ R := fun z => by rw [z, hR] at hh; cases hh
    have nhW : h ≠ W := fun z => by rw [z, hW] at hh; cases hh
    have nNR : N ≠ R := fun z => by rw [z, hR] at hN; cases hN
    have nsW : st ≠ W := fun z => by rw [z, hW] at hst; cases hst
    exact ⟨N, E1, Rr, nums, kvs', _, up _ _ nhR (f1 _ _ nhW hh), up _ _ nNR (f1 _ _ hWN.symm hN), up _ _ hstR (f1 _ _ nsW hst), up _ _ hWR hW1, upd_same, hWN, hstR, (Prs.snoc (p := (s0, ν s0)) upd_same (hP1.same s12)).keep (keep_lst (s12 _ _ hR1)), hA, hok', by rw [List.length_append]; show _ ≤ ps.length + 1; omega, fun p hp => by
      rcases List.mem_append.mp hp with h | h
      · exact hnm p h
      · rw [List.mem_singleton.mp h]; exact hns0⟩
theorem Wk.same {H H' : Hp} {h st R W : Addr} {A : List Nat → Prop} {ν : List Nat → Int} {ps : List Pr} (k : Wk H h st R W A ν ps) (s : Same H H') : Wk H' h st R W A ν ps := by
  obtain ⟨N, E, Rr, nums, kvs, xs, h1, h2, h3, h4, h5, h6, h7, h8, h9⟩ := k
  exact ⟨N, E, Rr, nums, kvs, xs, s _ _ h1, s _ _ h2, s _ _ h3, s _ _ h4, s _ _ h5, h6, h7, h8.same s, h9⟩
theorem readsOf_app (ν : List Nat → Int) (a b : List (List Nat)) : readsOf ν (a ++ b) = readsOf ν a ++ readsOf ν b := by unfold readsOf; rw [List.map_append]
theorem readsOf_names (ν : List Nat → Int) (a : List (List Nat)) : (readsOf ν a).map (·.1) = a := by unfold readsOf; rw [List.map_map]; exact (List.map_congr_left fun _ _ => rfl).trans (List.map_id _)
theorem readsOf_len (ν : List Nat → Int) (a : List (List Nat)) : (readsOf ν a).length = a.length := by unfold readsOf; rw [List.length_map]
abbrev s__law_value : Stmt := topS 18
abbrev N__law_value : List Str := ["house", "r", "state", "reads", "word", "one", "other"]
theorem sc__law_value : FnScope N__law_value ["house", "r", "state", "reads"] (defScope s__law_value) := ⟨rfl, rfl, rfl, by decide +kernel, rfl, by decide +kernel, by decide +kernel⟩

theorem ok__law_value (T : Txt K mg) (D : IsDef K mg "_law_value" s__law_value ["house", "r", "state", "reads"]) (C_look : Cal P w K mg base CX0 2 "_law_look" ["house", "name", "state", "reads"] spLook) : ∀ j, Cal P w K mg base CX0 (j + 2) "_law_value" ["house", "r", "state", "reads"] (spValue j)
  | 0 => cal_none D fun vs H Q E h => by
    obtain ⟨_, _, _, _, _, r, _, _, _, _, _, _, hd, _⟩ := h
    have := dep_pos r
    omega
  | j + 1 => by
    have C__law_value := ok__law_value T D C_look j
    have C__law_look := C_look.mono (show 2 ≤ j + 2 by omega)
    refine D.cal sc__law_value (fun vs H Q E h => ?_) (fun f cdv A outer s H vs Q E hr h => ?_)
    · obtain ⟨h, st, R, W, v, r, A, ν, ps, rfl, _⟩ := h
      rfl
    obtain ⟨h, st, R, W, v, r, A1, ν, ps, rfl, hRc, hT, hd, hW, hA, hnd, hlen, q⟩ := h
    refine ⟨_, (pss_cons (ps_set (i := 4) sc__law_value.nd rfl (Or.inl rfl) (pe_ix (r := rIxT K) ix_tup (pv 1) pe_int (fun _ _ => rfl)))
      (pss_cons (ps_if (pt_cmpR op_eq (pv 4) pe_str (nomark _))
        (pss_one (ps_ret (pe_ix (r := rIxT K) ix_tup (pv 1) pe_int (fun _ _ => rfl))))
        pss_nil)
      (pss_cons (ps_if (pt_cmpR op_eq (pv 4) pe_str (nomark _))
        (pss_one (ps_ret (pe_cal C__law_look (hr.mono (by first | decide | omega)) pass0 (pa_cons (pv 0) (pa_cons (pe_ix (r := rIxT K) ix_tup (pv 1) pe_int (fun _ _ => rfl)) (pa_cons (pv 2) (pa_cons (pv 3) pa_nil)))))))
        pss_nil)
      (pss_cons (ps_set (i := 5) sc__law_value.nd rfl (Or.inl rfl) (pe_cal C__law_value (hr.mono (by first | decide | omega)) pass0 (pa_cons (pv 0) (pa_cons (pe_ix (r := rIxT K) ix_tup (pv 1) pe_int (fun _ _ => rfl)) (pa_cons (pv 2) (pa_cons (pv 3) pa_nil))))))
      (pss_cons (ps_if (pt_cmpR op_eq (pv 4) pe_str (nomark _))
        (pss_one (ps_ret (pe_cal C__law_look (hr.mono (by first | decide | omega)) pass0 (pa_cons (pv 0) (pa_cons (pe_ix (r := rIxT K) ix_tup (pe_ix (r := rIxT K) ix_tup (pv 1) pe_int (fun _ _ => rfl)) (pe_op op_mod (pv 5) (pe_callB call_len_seq (by rfl) T.b_len PySem.boot_len (pa_cons (pe_ix (r := rIxT K) ix_tup (pv 1) pe_int (fun _ _ => rfl)) pa_nil))) (fun _ _ => rfl)) (pa_cons (pv 2) (pa_cons (pv 3) pa_nil)))))))
        pss_nil)
      (pss_cons (ps_if (pt_cmpR op_eq (pv 4) pe_str (nomark _))
        (pss_one (ps_ret (pe_cal C__law_value (hr.mono (by first | decide | omega)) pass0 (pa_cons (pv 0) (pa_cons (pe_ix (r := rIxT K) ix_tup (pv 1) (pe_ix (r := rIxL K) ix_list (pe_lst (pa_cons pe_int (pa_cons pe_int pa_nil))) (pe_callTy call_int1 (by rfl) T.b_int (by decide +kernel) (pa_cons (pe_cmpR op_gt (pv 5) pe_int (nomark _)) pa_nil)) (fun _ _ => rfl)) (fun _ _ => rfl)) (pa_cons (pv 2) (pa_cons (pv 3) pa_nil)))))))
        pss_nil)
      (pss_cons (ps_set (i := 6) sc__law_value.nd rfl (Or.inl rfl) (pe_cal C__law_value (hr.mono (by first | decide | omega)) pass0 (pa_cons (pv 0) (pa_cons (pe_ix (r := rIxT K) ix_tup (pv 1) pe_int (fun _ _ => rfl)) (pa_cons (pv 2) (pa_cons (pv 3) pa_nil))))))
      (pss_cons (ps_if (pt_cmpR op_eq (pv 4) pe_str (nomark _))
        (pss_one (ps_ret (pe_op op_mul (pv 5) (pv 6))))
        pss_nil)
      (pss_cons (ps_if (pt_cmpR op_eq (pv 4) pe_str (nomark _))
        (pss_one (ps_ret (pe_callB (call_max2 rfl) (by rfl) T.b_max (by decide +kernel) (pa_cons (pv 5) (pa_cons (pv 6) pa_nil)))))
        pss_nil)
      (pss_one (ps_ret (pe_op op_add (pv 5) (pe_ix (r := rIxL K) ix_list (pe_lst (pa_cons (pv 6) (pa_cons (pe_op op_sub pe_int (pv 6)) pa_nil))) (pe_callTy call_int1 (by rfl) T.b_int (by decide +kernel) (pa_cons (pe_cmpR op_eq (pv 4) pe_str (nomark _)) pa_nil)) (fun _ _ => rfl)))))))))))))), ?_⟩
    cases r with
    | num n =>
      obtain ⟨p, rfl, hp⟩ := hRc
      refine ⟨_, rfl, p, _, _, _, rfl, rfl, SqT.of hp, rfl, ?_⟩
      refine ⟨_, rfl, rfl, _, rfl, iteY rfl ?_⟩
      refine ⟨_, rfl, p, _, _, _, rfl, rfl, SqT.of hp, rfl, q H (Fr.refl R W H) ?_⟩
      rw [show readsOf ν (Rcp.num n).rd = [] from rfl, List.append_nil]
      exact hW
    | read s0 =>
      obtain ⟨p, rfl, hp⟩ := hRc
      obtain ⟨hA0, hn0⟩ := hA s0 (by show s0 ∈ [s0]; simp)
      have hnot : ¬ s0 ∈ ps.map (·.1) := fun z => (List.nodup_append.mp hnd).2.2 s0 z s0 (by show s0 ∈ [s0]; simp) rfl
      have hl1 : ps.length + 1 ≤ 100 := hlen
      refine ⟨_, rfl, p, _, _, _, rfl, rfl, SqT.of hp, rfl, ?_⟩
      refine ⟨_, rfl, rfl, _, rfl, iteN (sne (by decide +kernel)) ?_⟩
      refine ⟨_, rfl, rfl, _, rfl, iteY rfl ?_⟩
      exact ⟨_, rfl, _, rfl, p, _, _, _, rfl, rfl, SqT.of hp, rfl, _, rfl, _, rfl, h, st, R, W, s0, A1, ν, ps, rfl, hW, hA0, hn0, hnot, by omega, fun H' hf hw => q H' hf hw⟩
    | two k a b =>
      obtain ⟨p, x, y, rfl, hp, ha, hb⟩ := hRc
      obtain ⟨rfl, hTa, hTb⟩ := hT
      have hd1 : a.dep ≤ j ∧ b.dep ≤ j := by
        have e : (Rcp.two .plus a b).dep = max a.dep b.dep + 1 := rfl
        omega
      have erd : (Rcp.two .plus a b).rd = a.rd ++ b.rd := rfl
      rw [erd] at hA hnd hlen
      have hlen2 : ps.length + (a.rd.length + b.rd.length) ≤ 100 := by rw [List.length_append] at hlen; exact hlen
      rw [← List.append_assoc] at hnd
      refine ⟨_, rfl, p, _, _, _, rfl, rfl, SqT.of hp, rfl, ?_⟩
      refine ⟨_, rfl, rfl, _, rfl, iteN (sne (by decide +kernel)) ?_⟩
      refine ⟨_, rfl, rfl, _, rfl, iteN (sne (by decide +kernel)) ?_⟩
      refine ⟨_, rfl, _, rfl, p, _, _, _, rfl, rfl, SqT.of hp, rfl, _, rfl, _, rfl, h, st, R, W, x, a, A1, ν, ps, rfl, ha, hTa, hd1.1, hW, fun s hs => hA s (List.mem_append_left _ hs), (List.nodup_append.mp hnd).1, by omega, fun H1 hf1 hw1 => ?_⟩
      have k1 := hW.fr_keep hf1
      have hp1 := k1 _ _ hp
      refine ⟨_, rfl, rfl, _, rfl, iteN (sne (by decide +kernel)) ?_⟩
      refine ⟨_, rfl, rfl, _, rfl, iteN (sne (by decide +kernel)) ?_⟩
      refine ⟨_, rfl, _, rfl, p, _, _, _, rfl, rfl, SqT.of hp1, rfl, _, rfl, _, rfl, h, st, R, W, y, b, A1, ν, ps ++ readsOf ν a.rd, rfl, hb.keep k1, hTb, hd1.2, hw1, fun s hs => hA s (List.mem_append_right _ hs), by rw [List.map_append, readsOf_names]; exact hnd, by rw [List.length_append, readsOf_len]; omega, fun H2 hf2 hw2 => ?_⟩
      refine ⟨_, rfl, rfl, _, rfl, iteN (sne (by decide +kernel)) ?_⟩
      refine ⟨_, rfl, rfl, _, rfl, iteN (sne (by decide +kernel)) ?_⟩
      refine ⟨_, rfl, _, rfl, _, rfl, _, _, rfl, rfl, le_line (Nat.le_of_ble_eq_true rfl), fun L nL => ?_⟩
      have sL := same_new nL (.lst [.int (b.val ν), .int (0 - b.val ν)])
      refine ⟨_, rfl, rfl, .inr ⟨_, rfl, L, _, _, .int (b.val ν), rfl, rfl, SqL.of upd_same, ?_, _, _, rfl, rfl, ?_⟩⟩
      · rw [if_neg (fun z => sne (a := Kd.plus.name) (b := "minus") (by decide +kernel) (of_decide_eq_true z))]
        rfl
      · refine q _ ((hf1.trans hf2).trans fun b u _ _ e => sL b u e) ?_
        rw [erd, readsOf_app, ← List.append_assoc]
        exact hw2.same sL
    | pick a b c => exact hT.elim
    | choose a ns =>
      obtain ⟨p, x, t2, rfl, hp, ha, ht2⟩ := hRc
      obtain ⟨hTa, s0, rfl, hs0⟩ := hT
      have hd1 : a.dep ≤ j := by
        have e : (Rcp.choose a [s0]).dep = a.dep + 1 := rfl
        omega
      have erd : (Rcp.choose a [s0]).rd = a.rd ++ [s0] := rfl
      rw [erd] at hA hnd hlen
      have hlen2 : ps.length + (a.rd.length + 1) ≤ 100 := by rw [List.length_append] at hlen; exact hlen
      rw [← List.append_assoc] at hnd
      refine ⟨_, rfl, p, _, _, _, rfl, rfl, SqT.of hp, rfl, ?_⟩
      refine ⟨_, rfl, rfl, _, rfl, iteN (sne (by decide +kernel)) ?_⟩
      refine ⟨_, rfl, rfl, _, rfl, iteN (sne (by decide +kernel)) ?_⟩
      refine ⟨_, rfl, _, rfl, p, _, _, _, rfl, rfl, SqT.of hp, rfl, _, rfl, _, rfl, h, st, R, W, x, a, A1, ν, ps, rfl, ha, hTa, hd1, hW, fun s hs => hA s (List.mem_append_left _ hs), (List.nodup_append.mp hnd).1, by omega, fun H1 hf1 hw1 => ?_⟩
      have k1 := hW.fr_keep hf1
      have hp1 := k1 _ _ hp
      have ht21 := k1 _ _ ht2
      obtain ⟨hA0, hn0⟩ := hA s0 (by simp)
      have hnot : ¬ s0 ∈ (ps ++ readsOf ν a.rd).map (·.1) := fun z => by
        rw [List.map_append, readsOf_names] at z
        exact (List.nodup_append.mp hnd).2.2 s0 z s0 (by simp) rfl
      refine ⟨_, rfl, rfl, _, rfl, iteY rfl ?_⟩
      have e1 : a.val ν % ((1 : Nat) : Int) = 0 := by omega
      refine ⟨_, rfl, _, rfl, p, _, _, _, rfl, rfl, SqT.of hp1, rfl, _, rfl, _, rfl, p, _, _, _, rfl, rfl, SqT.of hp1, rfl, t2, _, rfl, .inr (SqT.of ht21), _, _, rfl, rfl, (by show (0 : Int) < ((1 : Nat) : Int); decide), t2, _, _, .str (SX.S s0), rfl, rfl, SqT.of ht21, ?_, _, rfl, _, rfl, h, st, R, W, s0, A1, ν, ps ++ readsOf ν a.rd, rfl, hw1, hA0, hn0, hnot, by rw [List.length_append, readsOf_len]; omega, fun H' hf hw => ?_⟩
      · show atI (txs [s0]) (a.val ν % ((1 : Nat) : Int)) = _
        rw [e1]
        rfl
      · refine q H' (hf1.trans hf) ?_
        rw [erd, readsOf_app, ← List.append_assoc]
        exact hw
def spWorked : Sp := fun vs H Q _ => ∃ (v : V) (N : Addr) (r : Rcp) (nums : List (Key × V)) (ν : List Nat → Int), vs = [v, .ref N] ∧ Rec H r v ∧ r.Tw ∧ r.dep ≤ 8 ∧ H N = some (.dK nums) ∧ (∀ s ∈ r.rd, valV nums (kT (SX.S s)) = some (.int (ν s)) ∧ Nm s) ∧ r.rd.Nodup ∧ r.rd.length ≤ 100 ∧
  ∀ (H' : Hp) (l R : Addr) (xs : List V), Same H H' → H' l = some (.lst [.int (r.val ν), .ref R]) → H' R = some (.lst xs) → Prs H' (readsOf ν r.rd) xs → Q (.ref l) H'
abbrev s__law_worked : Stmt := topS 26
abbrev N__law_worked : List Str := ["recipe", "numbers", "reads", "worth"]
theorem sc__law_worked : FnScope N__law_worked ["recipe", "numbers"] (defScope s__law_worked) := ⟨rfl, rfl, rfl, by decide +kernel, rfl, by decide +kernel, by decide +kernel⟩

theorem ok__law_worked (T : Txt K mg) (D : IsDef K mg "_law_worked" s__law_worked ["recipe", "numbers"]) (C__law_value : Cal P w K mg base CX0 10 "_law_value" ["house", "r", "state", "reads"] (spValue 8)) : Cal P w K mg base CX0 11 "_law_worked" ["recipe", "numbers"] spWorked := by
  refine D.cal sc__law_worked (fun vs H Q E h => ?_) (fun f cdv A outer s H vs Q E hr h => ?_)
  · obtain ⟨v, N, r, nums, ν, rfl, _⟩ := h
    rfl
  obtain ⟨v, N, r, nums, ν, rfl, hRc, hT, hd, hN, hA, hnd, hlen, q⟩ := h
  refine ⟨_, (pss_cons (ps_set (i := 2) sc__law_worked.nd rfl (Or.inl rfl) (pe_lst pa_nil))
      (pss_cons (ps_set (i := 3) sc__law_worked.nd rfl (Or.inl rfl) (pe_cal C__law_value (hr.mono (by first | decide | omega)) pass0 (pa_cons (pe_tup (pa_cons (pv 1) (pa_cons pe_dnewK pa_nil))) (pa_cons (pv 0) (pa_cons (pe_lst (pa_cons pe_dnewK (pa_cons pe_dnewK pa_nil))) (pa_cons (pv 2) pa_nil))))))
      (pss_one (ps_ret (pe_lst (pa_cons (pv 3) (pa_cons (pv 2) pa_nil))))))), ?_⟩
  refine ⟨le_line (Nat.le_of_ble_eq_true rfl), fun R nR => ?_⟩
  refine ⟨_, rfl, fun E1 nE => ⟨le_line (Nat.le_of_ble_eq_true rfl), fun h nh => ⟨_, rfl, fun W nW => fun Rr nRr => ⟨le_line (Nat.le_of_ble_eq_true rfl), fun st nst => ?_⟩⟩⟩⟩
  have s1 := same_new nR (.lst [])
  have s2 := same_new nE (.dK [])
  have s3 := same_new nh (.tup [.ref N, .ref E1])
  have s4 := same_new nW (.dK [])
  have s5 := same_new nRr (.dK [])
  have s6 := same_new nst (.lst [.ref W, .ref Rr])
  have s26 := s2.trans (s3.trans (s4.trans (s5.trans s6)))
  have sA := s1.trans s26
  have hRR := s26 _ _ upd_same
  have n0W : H W = none := (s1.trans (s2.trans s3)).free nW
  have wN : W ≠ N := fun z => by rw [z, hN] at n0W; cases n0W
  have stR : st ≠ R := ne_of_none (s2.trans (s3.trans (s4.trans s5)) _ _ upd_same) nst |>.symm
  refine ⟨_, rfl, h, st, R, W, v, r, (fun s => s ∈ r.rd), ν, [], rfl, hRc.same sA, hT, hd, ⟨N, E1, Rr, nums, [], [], s6 _ _ (s5 _ _ (s4 _ _ upd_same)), sA _ _ hN, upd_same, s6 _ _ (s5 _ _ upd_same), hRR, wN, stR, trivial, fun s hs => (hA s hs).1, fun s => .inl rfl, Nat.le_refl _, fun _ h => nomatch h⟩, fun s hs => ⟨hs, (hA s hs).2⟩, hnd, by show 0 + r.rd.length ≤ 100; omega, fun H1 hf hw => ?_⟩
  obtain ⟨_, _, _, _, _, xs, _, _, _, _, hR1, _, _, hP1, _⟩ := hw
  refine ⟨_, rfl, _, rfl, le_line (Nat.le_of_ble_eq_true rfl), fun l nl => ?_⟩
  have sl := same_new nl (.lst [.int (r.val ν), .ref R])
  refine q _ l R xs (Same.trans (fun b u e => hf b u (fun z => ?_) (fun z => ?_) (sA _ _ e)) sl) upd_same (sl _ _ hR1) (hP1.same sl)
  · rw [z, nR] at e; cases e
  · rw [z, n0W] at e; cases e
end
/-! ### one k asked -/
theorem sumOf_tw {ps : List Pr} (wo : Int) (h : ps.length ≤ 29) (hn : ∀ p ∈ ps, Nm p.1) : (sumOf ps wo).Tw ∧ (sumOf ps wo).dep ≤ 6 := by
  obtain ⟨r, q1, _, _, _, q5, q6⟩ := sumUp_is (fun _ => 0) 7 5 1 (ps.map (fun p => Rcp.read p.1) ++ [.num (wo - (ps.map (·.2)).sum)]) (by decide) (by rw [List.length_append, List.length_map]; show _ + 1 ≤ 32; omega) (by rw [List.length_append]; show 1 ≤ _ + 1; omega) (fun r hr => by
    rcases List.mem_append.mp hr with h | h
    · obtain ⟨p, hp, rfl⟩ := List.mem_map.mp h
      exact ⟨hn p hp, Nat.le_refl _⟩
    · rw [List.mem_singleton.mp h]
      exact ⟨trivial, Nat.le_refl _⟩)
  have e : sumOf ps wo = r := by unfold sumOf sumR; rw [q1]; rfl
  rw [e]
  exact ⟨q5, q6⟩
def recTh (r : Rcp) (ps : List Pr) (wo : Int) : Th := .tup [r.th, .lst (ps.map pairTh), .int wo]
theorem rec_flat (r : Rcp) (ps : List Pr) (wo : Int) : (recTh r ps wo).flat = true := by
  show (r.th.flat && (Th.flatL (ps.map pairTh) && true)) = true
  rw [Rcp.flat, prs_flat]
  rfl
theorem rec_lay {r : Rcp} {ps : List Pr} (wo : Int) (hg : r.Tw) (hn : ∀ p ∈ ps, Nm p.1) : (recTh r ps wo).py.canLay0 = true ∧ (recTh r ps wo).py.depth ≤ max r.dep 2 + 1 := by
  obtain ⟨h1, h2⟩ := Rcp.twlays hg
  obtain ⟨h3, h4⟩ := prs_lay hn
  refine ⟨?_, ?_⟩
  · show (r.th.py.canLay0 && (PyData.canLayAll0 (Th.pyL (ps.map pairTh)) && true)) = true
    rw [h1, h3]
    rfl
  · show max r.th.py.depth (max (PyData.depthAll (Th.pyL (ps.map pairTh)) + 1) (max 0 0)) + 1 ≤ max r.dep 2 + 1
    omega
def answTh (wo : Int) (ps : List Pr) : Th := .lst [.int wo, .lst (ps.map pairTh)]
theorem answ_flat (wo : Int) (ps : List Pr) : (answTh wo ps).flat = true := by
  show (true && (Th.flatL (ps.map pairTh) && true)) = true
  rw [prs_flat]
  rfl
theorem answ_lay {ps : List Pr} (wo : Int) (hn : ∀ p ∈ ps, Nm p.1) : (answTh wo ps).py.canLay0 = true ∧ (answTh wo ps).py.depth ≤ 3 := by
  obtain ⟨h3, h4⟩ := prs_lay hn
  refine ⟨?_, ?_⟩
  · show (true && (PyData.canLayAll0 (Th.pyL (ps.map pairTh)) && true)) = true
    rw [h3]
    rfl
  · show max 0 (max (PyData.depthAll (Th.pyL (ps.map pairTh)) + 1) 0) + 1 ≤ 3
    omega
/-! #### numbers out of reads -/
def numsK (ps : List Pr) : List (Key × V) := ps.map fun p => (kT (SX.S p.1), .int p.2)
theorem kS_inj {a b : List Nat} (h : kT (SX.S a) = kT (SX.S b)) : a = b := by
  have e2 : SX.S a = SX.S b := Sum.inr.inj h
  exact beq_iff_eq.mp (by rw [← SX.S_beq]; exact beq_iff_eq.mpr e2)
theorem merge_cons (acc : List (Key × V)) (kv : Key × V) (r : List (Key × V)) : mergeK acc (kv :: r) = mergeK (putK acc kv.1 kv.2) r := rfl
theorem merge_other {s : List Nat} : ∀ {ps : List Pr} {acc : List (Key × V)}, ¬ s ∈ ps.map (·.1) → valV (mergeK acc (numsK ps)) (kT (SX.S s)) = valV acc (kT (SX.S s))
  | [], _, _ => rfl
  | p :: ps, acc, h => by
    show valV (mergeK (putK acc (kT (SX.S p.1)) (.int p.2)) (numsK ps)) _ = _
    rw [merge_other fun z => h (List.mem_cons_of_mem _ z), valV_put, if_neg fun z => h (by rw [kS_inj z]; exact List.mem_cons_self ..)]
theorem merge_at : ∀ {ps : List Pr} {acc : List (Key × V)}, (ps.map (·.1)).Nodup → ∀ p ∈ ps, valV (mergeK acc (numsK ps)) (kT (SX.S p.1)) = some (.int p.2)
  | q :: ps, acc, nd, p, hp => by
    rw [List.map_cons, List.nodup_cons] at nd
    show valV (mergeK (putK acc (kT (SX.S q.1)) (.int q.2)) (numsK ps)) _ = _
    rcases List.mem_cons.mp hp with rfl | hp
    · rw [merge_other nd.1, valV_put, if_pos rfl]
    · exact merge_at nd.2 p hp
def nuOf (nums : List (Key × V)) (s : List Nat) : Int := match valV nums (kT (SX.S s)) with
  | some (.int n) => n
  | _ => 0
theorem nuOf_is {nums : List (Key × V)} {s : List Nat} {n : Int} (h : valV nums (kT (SX.S s)) = some (.int n)) : nuOf nums s = n := by
  unfold nuOf
  rw [h]
theorem readsOf_same {ν : List Nat → Int} : ∀ {ps : List Pr}, (∀ p ∈ ps, ν p.1 = p.2) → readsOf ν (ps.map (·.1)) = ps
  | [], _ => rfl
  | p :: ps, h => by
    show (p.1, ν p.1) :: readsOf ν (ps.map (·.1)) = _
    rw [h p (List.mem_cons_self ..), readsOf_same fun q hq => h q (List.mem_cons_of_mem _ hq)]
theorem prs_pairs {K : PySem.W.Frag} {H : Hp} : ∀ {ps : List Pr} {vs : List V}, Prs H ps vs → ∃ as : List Addr, vs = as.map V.ref ∧ Paired (fun p kv => SqT K H p [kV kv.1, kv.2]) as (numsK ps)
  | [], [], _ => ⟨[], rfl, .nil⟩
  | p :: ps, v :: vs, ⟨⟨t, e, ht⟩, h⟩ => by
    obtain ⟨as, e2, h2⟩ := prs_pairs h
    exact ⟨t :: as, by rw [e, e2]; rfl, .cons (SqT.of ht) h2⟩
  | [], _ :: _, h => h.elim
  | _ :: _, [], h => h.elim
def Fr1 (p : Addr) (H H' : Hp) : Prop := ∀ b u, b ≠ p → H b = some u → H' b = some u
theorem Fr1.trans {p : Addr} {A B C : Hp} (h : Fr1 p A B) (k : Fr1 p B C) : Fr1 p A C := fun b u n e => k b u n (h b u n e)
theorem Fr1.of {p : Addr} {A B : Hp} (h : Same A B) : Fr1 p A B := fun b u _ e => h b u e
def spGood37 : Sp := fun vs H Q _ => ∃ (t R p : Addr) (v : V) (xs : List V) (ps : List Pr) (wo k r : Int) (m : Bool) (c : Int), vs = [.ref t, .int k, .ref p] ∧ H t = some (.tup [v, .ref R, .int wo]) ∧ H R = some (.lst xs) ∧ Prs H ps xs ∧ Rec H (sumOf ps wo) v ∧ ps.length ≤ 29 ∧ (∀ p ∈ ps, Nm p.1) ∧ (ps.map (·.1)).Nodup ∧
  0 ≤ k ∧ k < ps.length ∧ H p = some (.dK (pool r m c)) ∧ 0 ≤ c ∧ c ≤ 100000 ∧ ∀ (H' : Hp) (r' c' : Int), Fr1 p H H' → H' p = some (.dK (pool r' m c')) → 0 ≤ c' → c' ≤ c + 4 → Q (.bl true) H'
section
variable {P : Program} {w : World} {K : PySem.W.Frag} {mg : Str → Option Value} {base : Heap}
abbrev s__law_good : Stmt := topS 27
abbrev N__law_good : List Str := ["record", "k", "pool", "recipe", "reads", "worth", "handed", "twin", "parts", "numbers", "way"]
theorem sc__law_good : FnScope N__law_good ["record", "k", "pool"] (defScope s__law_good) := ⟨rfl, rfl, rfl, by decide +kernel, rfl, by decide +kernel, by decide +kernel⟩

theorem ok__law_good (T : Txt K mg) (D : IsDef K mg "_law_good" s__law_good ["record", "k", "pool"]) (C_twin_of : Cal P w K mg base (L2.CX P w) 2 "twin_of" ["record", "k"] spTwinE) (C__law_parts : Cal P w K mg base CX0 8 "_law_parts" ["r"] (spParts 8))
    (C__law_worked : Cal P w K mg base CX0 11 "_law_worked" ["recipe", "numbers"] spWorked) (C__law_take : Cal P w K mg base CX0 1 "_law_take" ["pool", "many"] spTakeP) : Cal P w K mg base CX0 12 "_law_good" ["record", "k", "pool"] spGood37 := by
  refine D.cal sc__law_good (fun vs H Q E h => ?_) (fun f cdv A outer s H vs Q E hr h => ?_)
  · obtain ⟨t, R, p, v, xs, ps, wo, k, r, m, c, rfl, _⟩ := h
    rfl
  obtain ⟨t, R, p, v, xs, ps, wo, k, r0, m, c, rfl, ht, hR, hP, hv, h29, hnm, hnd, hk0, hk1, hp, c0, c1, q⟩ := h
  have hu : (cxOf CX0 P w K mg base N__law_good "_law_good" (defScope s__law_good) f cdv A outer s H E).nox.A.units + 1 < cLine := Nat.lt_of_le_of_lt (Nat.add_le_add_left (by decide : 1 ≤ 64) _) hr.units
  refine ⟨_, (pss_cons (ps_asg (pv 0) (pg_tup rfl (pgs_cons (pg_name (i := 3) sc__law_good.nd rfl (Or.inl rfl)) (pgs_cons (pg_name (i := 4) sc__law_good.nd rfl (Or.inl rfl)) (pgs_cons (pg_name (i := 5) sc__law_good.nd rfl (Or.inl rfl)) pgs_nil)))))
      (pss_cons (ps_set (i := 6) sc__law_good.nd rfl (Or.inl rfl) (pe_tup (pa_cons (pv 3) (pa_cons (pe_callTy call_list_of (by rfl) T.b_list (by decide +kernel) (pa_cons (pv 4) pa_nil)) (pa_cons (pv 5) pa_nil)))))
      (pss_cons (ps_set (i := 7) sc__law_good.nd rfl (Or.inl rfl) (pe_cal C_twin_of (hr.mono (by first | decide | omega)) passL (pa_cons (pv 6) (pa_cons (pv 1) pa_nil))))
      (pss_cons (ps_set (i := 8) sc__law_good.nd rfl (Or.inl rfl) (pe_cal C__law_parts (hr.mono (by first | decide | omega)) pass0 (pa_cons (pv 7) pa_nil)))
      (pss_cons (ps_if (PW.pt (pw_or (pt_cmpR op_lt (pe_ix (r := rIxL K) ix_list (pv 8) pe_int (fun _ _ => rfl)) pe_int (nomark _)) (pw_or (pt_cmpR op_gt (pe_ix (r := rIxL K) ix_list (pv 8) pe_int (fun _ _ => rfl)) pe_int (nomark _)) (pw_or (pt_cmpR op_gt (pe_ix (r := rIxL K) ix_list (pv 8) pe_int (fun _ _ => rfl)) pe_int (nomark _)) (pw_or1 (pt_cmpR (op_neD hr.units) (pv 6) (pv 0) (nomark _)))))))
        (pss_one (ps_ret pe_bl))
        pss_nil)
      (pss_cons (ps_set (i := 9) sc__law_good.nd rfl (Or.inl rfl) (pe_callTy (call_dictP rfl) (by rfl) T.b_dict (by decide +kernel) (pa_cons (pv 4) pa_nil)))
      (pss_cons (ps_if (pt_cmpR (op_neD hr.units) (pe_cal C__law_worked (hr.mono (by first | decide | omega)) pass0 (pa_cons (pv 7) (pa_cons (pv 9) pa_nil))) (pe_lst (pa_cons (pv 5) (pa_cons (pv 4) pa_nil))) (nomark _))
        (pss_one (ps_ret pe_bl))
        pss_nil)
      (pss_cons (ps_for PassesOwn.never rfl (pi_range1 rfl T.b_range (pa_cons pe_int pa_nil)) (pg_name (i := 10) sc__law_good.nd rfl (Or.inl rfl))
        (pss_cons (ps_dput hu (pv 9) (pe_ix (r := rIxT K) ix_tup (pe_ix (r := rIxL K) ix_list (pv 4) (pv 1) (fun _ _ => rfl)) pe_int (fun _ _ => rfl)) (pe_op op_add (pe_ix (r := rIxT K) ix_tup (pe_ix (r := rIxL K) ix_list (pv 4) (pv 1) (fun _ _ => rfl)) pe_int (fun _ _ => rfl)) (pe_ix (r := rIxL K) ix_list (pe_lst (pa_cons pe_int (pa_cons (pe_un un_neg pe_int) (pa_cons (pe_op op_pow pe_int pe_int) (pa_cons (pe_op op_sub (pe_un un_neg pe_int) (pe_cal C__law_take (hr.mono (by first | decide | omega)) pass0 (pa_cons (pv 2) (pa_cons (pe_op op_pow pe_int pe_int) pa_nil)))) pa_nil))))) (pe_cal C__law_take (hr.mono (by first | decide | omega)) pass0 (pa_cons (pv 2) (pa_cons pe_int pa_nil))) (fun _ _ => rfl))) rfl)
      (pss_one (ps_if (pt_cmpR op_eq (pe_ix (r := rIxL K) ix_list (pe_cal C__law_worked (hr.mono (by first | decide | omega)) pass0 (pa_cons (pv 7) (pa_cons (pv 9) pa_nil))) pe_int (fun _ _ => rfl)) (pv 5) (nomark _))
        (pss_one (ps_ret pe_bl))
        pss_nil))))
      (pss_one (ps_ret (pe_cmpR (op_eqD hr.units) (pe_cal C_twin_of (hr.mono (by first | decide | omega)) passL (pa_cons (pv 6) (pa_cons (pv 1) pa_nil))) (pv 7) (nomark _)))))))))))), ?_⟩
  have hkn : k.toNat < ps.length := by omega
  obtain ⟨tw1, _, tw3, tw4, tw5⟩ := twin_is (fun _ => 0) (wo := wo) h29 hkn hnm
  obtain ⟨so1, so2⟩ := sumOf_tw wo h29 hnm
  refine ⟨_, rfl, t, _, rfl, SqT.of ht, rfl, _, _, rfl, _, _, rfl, _, _, rfl, rfl, ?_⟩
  refine ⟨_, rfl, _, rfl, R, _, rfl, .inl (SqL.of hR), fun L nL => ⟨_, rfl, le_line (Nat.le_of_ble_eq_true rfl), fun t2 nt2 => ?_⟩⟩
  have sL := same_new nL (.lst xs)
  have s2 := same_new nt2 (.tup [v, .ref L, .int wo])
  have sA := sL.trans s2
  refine ⟨_, rfl, _, rfl, t2, L, v, wo, k, xs, ps, rfl, upd_same, s2 _ _ upd_same, hP.same sA, h29, hk0, hk1, fun H1 y hs1 hy => ?_⟩
  have sH1 := sA.trans hs1
  have ht21 := hs1 _ _ (upd_same (H := upd H L (.lst xs)) (a := t2) (o := .tup [v, .ref L, .int wo]))
  have hL1 := hs1 _ _ (s2 _ _ (upd_same (H := H) (a := L) (o := .lst xs)))
  refine ⟨_, rfl, y, twinR ps wo k.toNat, rfl, hy, tw4, by omega, by omega, fun H2 l hs2 hl => ?_⟩
  have sH2 := sH1.trans hs2
  have ht22 := hs2 _ _ ht21
  have hL2 := hs2 _ _ hL1
  have hy2 := hy.same hs2
  have hsz := siz_pos (twinR ps wo k.toNat)
  refine ⟨_, rfl, l, _, _, _, rfl, rfl, SqL.of hl, rfl, _, _, rfl, rfl, _, rfl, iteN (show ¬ ((twinR ps wo k.toNat).siz : Int) < 1 by omega) ?_⟩
  refine ⟨_, rfl, l, _, _, _, rfl, rfl, SqL.of hl, rfl, _, _, rfl, rfl, _, rfl, iteN (show ¬ ((twinR ps wo k.toNat).siz : Int) > 100 by omega) ?_⟩
  refine ⟨_, rfl, l, _, _, _, rfl, rfl, SqL.of hl, rfl, _, _, rfl, rfl, _, rfl, iteN (show ¬ ((twinR ps wo k.toNat).dep : Int) > 8 by omega) ?_⟩
  -- alike as data
  have dat : ∀ {H : Hp} {t' L' : Addr}, Rec H (sumOf ps wo) v → Prs H ps xs → H t' = some (.tup [v, .ref L', .int wo]) → H L' = some (.lst xs) → Data H (recTh (sumOf ps wo) ps wo) (.ref t') := fun h0 h1 h2 h3 => ⟨_, _, rfl, h2, _, _, rfl, h0.data, _, _, rfl, ⟨_, _, rfl, h3, h1.data⟩, _, _, rfl, rfl, rfl⟩
  have d1 := dat (hv.same sH2) (hP.same sH2) (sH2 _ _ ht) (sH2 _ _ hR)
  have d2 := dat (hv.same sH2) (hP.same sH2) ht22 hL2
  have hlay := rec_lay wo so1 hnm
  have hsh : SeqAt.shaped (recTh (sumOf ps wo) ps wo).py = true := by
    show ((recTh (sumOf ps wo) ps wo).py.canLay0 && decide ((recTh (sumOf ps wo) ps wo).py.depth ≤ 64)) = true
    rw [hlay.1, decide_eq_true (by omega)]
    rfl
  have heqv : PyData.eqv (recTh (sumOf ps wo) ps wo).py (recTh (sumOf ps wo) ps wo).py = true := SeqAt.eqv_refl _ hlay.1
  refine ⟨_, rfl, _, rfl, _, _, Data.dp (rec_flat _ _ _) d2, Data.dp (rec_flat _ _ _) d1, hsh, hsh, _, rfl, not_true_eq heqv ?_⟩
  -- the numbers
  have hR2 := sH2 _ _ hR
  have hP2 := hP.same sH2
  obtain ⟨as, has, hpair⟩ := prs_pairs (K := K) hP2
  refine ⟨_, rfl, R, as, numsK ps, rfl, has ▸ SqL.of hR2, hpair, fun N nN => ?_⟩
  obtain ⟨nums, hnums⟩ : ∃ nums, nums = mergeK [] (numsK ps) := ⟨_, rfl⟩
  have hat := fun p hp => (merge_at (acc := []) hnd p hp)
  rw [← hnums] at hat ⊢
  have s3 := same_new nN (.dK nums)
  have hlen := (readsOf_len (nuOf nums) (ps.map (·.1)))
  have hmem : ∀ s ∈ (twinR ps wo k.toNat).rd, ∃ p ∈ ps, p.1 = s := fun s hs => by rw [tw1] at hs; obtain ⟨p, hp, e⟩ := List.mem_map.mp hs; exact ⟨p, hp, e⟩
  have rdl : (twinR ps wo k.toNat).rd.length ≤ 100 := by rw [tw1, List.length_map]; omega
  have rdn : (twinR ps wo k.toNat).rd.Nodup := by rw [tw1]; exact hnd
  refine ⟨_, rfl, _, rfl, y, N, twinR ps wo k.toNat, nums, nuOf nums, rfl, hy2.same s3, tw4, by omega, upd_same, fun s hs => ?_, rdn, rdl, fun H4 l4 R4 xs4 hs4 hl4 hR4 hP4 => ?_⟩
  · obtain ⟨p, hp, e⟩ := hmem s hs
    rw [← e]
    exact ⟨by rw [hat p hp, nuOf_is (hat p hp)], hnm p hp⟩
  have hval : (twinR ps wo k.toNat).val (nuOf nums) = wo := twin_worth h29 hkn hnm fun p hp => nuOf_is (hat p hp)
  rw [tw1, readsOf_same fun p hp => nuOf_is (hat p hp)] at hP4
  rw [hval] at hl4
  have s24 := s3.trans hs4
  refine ⟨_, rfl, _, rfl, le_line (Nat.le_of_ble_eq_true rfl), fun l5 nl5 => ?_⟩
  have s5 := same_new nl5 (.lst [.int wo, .ref R])
  have da : Data (upd H4 l5 (.lst [.int wo, .ref R])) (answTh wo ps) (.ref l4) := ⟨_, _, rfl, s5 _ _ hl4, _, _, rfl, rfl, _, _, rfl, ⟨_, _, rfl, s5 _ _ hR4, (hP4.same s5).data⟩, rfl⟩
  have db : Data (upd H4 l5 (.lst [.int wo, .ref R])) (answTh wo ps) (.ref l5) := ⟨_, _, rfl, upd_same, _, _, rfl, rfl, _, _, rfl, ⟨_, _, rfl, s5 _ _ (s24 _ _ hR2), ((hP2.same s24).same s5).data⟩, rfl⟩
  have hal := answ_lay wo hnm
  have hsa : SeqAt.shaped (answTh wo ps).py = true := by
    show ((answTh wo ps).py.canLay0 && decide ((answTh wo ps).py.depth ≤ 64)) = true
    rw [hal.1, decide_eq_true (by omega)]
    rfl
  refine ⟨_, _, Data.dp (answ_flat _ _) da, Data.dp (answ_flat _ _) db, hsa, hsa, _, rfl, not_true_eq (SeqAt.eqv_refl _ hal.1) ?_⟩
  -- other numbers
  obtain ⟨H5, hH5⟩ : ∃ H5, H5 = upd H4 l5 (.lst [.int wo, .ref R]) := ⟨_, rfl⟩
  have s05 : Same H H5 := by rw [hH5]; exact sH2.trans (s24.trans s5)
  have s25 : Same H2 H5 := by rw [hH5]; exact s24.trans s5
  have hN5 : H5 N = some (.dK nums) := by rw [hH5]; exact s5 _ _ (hs4 _ _ upd_same)
  have hN0 : H N = none := sH2.free nN
  have hNp : N ≠ p := fun z => by rw [z, hp] at hN0; cases hN0
  rw [← hH5]
  clear da db s5 nl5 hH5
  have hp5 := s05 _ _ hp
  have hR5 := s05 _ _ hR
  have hP5 := hP.same s05
  have hy5 := hy2.same s25
  have ht25 := s25 _ _ ht22
  have hL5 := s25 _ _ hL2
  have nRN : R ≠ N := fun z => by rw [z, hN5] at hR5; cases hR5
  have nRp : R ≠ p := fun z => by rw [z, hp5] at hR5; cases hR5
  have hxl := hP.len
  obtain ⟨vk, hvk⟩ : ∃ vk, xs[k.toNat]? = some vk := ⟨xs[k.toNat], List.getElem?_eq_getElem (by omega)⟩
  obtain ⟨pk, tk, hpk, rfl, htk⟩ := hP5.at hvk
  have epk : ps[k.toNat] = pk := Option.some.inj ((List.getElem?_eq_getElem hkn).symm.trans hpk)
  have ntN : tk ≠ N := fun z => by rw [z, hN5] at htk; cases htk
  have ntp : tk ≠ p := fun z => by rw [z, hp5] at htk; cases htk
  have hatk : atI xs k = some (.ref tk) := atI_at hk0 hvk
  refine ⟨2, rfl, by decide, by decide, for_range (lo := 0) (n := 2) (fun i σ H' => ∃ (v10 : Option V) (nums' : List (Key × V)) (r' c' : Int), σ = [some (.ref t), some (.int k), some (.ref p), some v, some (.ref R), some (.int wo), some (.ref t2), some y, some (.ref l), some (.ref N), v10] ∧ Fr N p H5 H' ∧ H' N = some (.dK nums') ∧ nums'.length ≤ 29 + i ∧
    (∀ q ∈ ps, q.1 ≠ pk.1 → valV nums' (kT (SX.S q.1)) = some (.int q.2)) ∧ H' p = some (.dK (pool r' m c')) ∧ 0 ≤ c' ∧ c' ≤ c + 2 * i) ⟨none, nums, r0, c, rfl, Fr.refl N p H5, hN5, by rw [hnums]; exact Nat.le_trans (length_mergeK _ _) (by show 0 + (numsK ps).length ≤ 29; unfold numsK; rw [List.length_map]; omega), fun q hq _ => hat q hq, hp5, c0, by omega⟩ ?_ ?_⟩
  · rintro i σ H6 hi ⟨v10, nums', r', c', rfl, hf, hN6, hnl, hold, hp6, c0', c1'⟩
    have k6 : Keep H5 H6 := fun b ys e => hf b _ (fun z => by rw [z, hN5] at e; cases e) (fun z => by rw [z, hp5] at e; cases e) e
    have hR6 := hf _ _ nRN nRp hR5
    have htk6 := k6 _ _ htk
    refine ⟨_, rfl, _, rfl, R, _, _, _, rfl, rfl, SqL.of hR6, hatk, tk, _, _, _, rfl, rfl, SqT.of htk6, rfl, ?_⟩
    refine ⟨_, rfl, _, _, rfl, rfl, ⟨by decide, by decide, by decide⟩, _, rfl, _, rfl, _, _, rfl, rfl, ⟨by decide, by decide, by decide⟩, p, r', m, c', _, rfl, hp6, by decide +kernel, by decide +kernel, c0', by omega, fun H7 w1 r1 c1'' kf1 hp7 a0 a1 w10 w11 => ?_⟩
    refine ⟨_, _, rfl, rfl, le_line (Nat.le_of_ble_eq_true rfl), fun l7 nl7 => ?_⟩
    have np7 : p ≠ l7 := ne_of_none hp7 nl7
    refine ⟨_, rfl, p, r1, m, c1'', 4, rfl, by rw [upd_ne np7]; exact hp7, by decide, by decide, a0, by omega, fun H8 w2 r2 c2'' kf2 hp8 b0 b1 w20 w21 => ?_⟩
    have hl8 := (kf2 l7 np7.symm).trans upd_same
    have f68 : Fr N p H6 H8 := fun b u _ nb e => by
      rw [kf2 b nb]
      exact same_new nl7 _ _ _ (by rw [kf1 b nb]; exact e)
    have hN8 : H8 N = some (.dK nums') := by
      rw [kf2 N hNp]
      exact same_new nl7 _ _ _ (by rw [kf1 N hNp]; exact hN6)
    obtain ⟨x, hx, hatx⟩ := one_of (xs := ([.int 1, .int (-1), .int (10 ^ 30), .int (-2 - w1)] : List V)) w20 w21
    obtain ⟨δ, rfl, hδ⟩ : ∃ δ : Int, x = .int δ ∧ δ ≠ 0 := by
      simp only [List.mem_cons, List.not_mem_nil, or_false] at hx
      rcases hx with h | h | h | h
      · exact ⟨_, h, by decide⟩
      · exact ⟨_, h, by decide⟩
      · exact ⟨_, h, by decide⟩
      · exact ⟨_, h, by omega⟩
    have f58 := hf.trans f68
    have hR8 := f58 _ _ nRN nRp hR5
    have k8 : Keep H5 H8 := fun b ys e => f58 b _ (fun z => by rw [z, hN5] at e; cases e) (fun z => by rw [z, hp5] at e; cases e) e
    refine ⟨l7, _, w2, _, rfl, rfl, SqL.of hl8, hatx, _, _, rfl, rfl, ?_⟩
    refine ⟨_, rfl, _, rfl, _, rfl, R, _, _, _, rfl, rfl, SqL.of hR8, hatk, tk, _, _, _, rfl, rfl, SqT.of (k8 _ _ htk), rfl, N, _, rfl, DPut.k (k := kT (SX.S pk.1)) hN8 (lt_line (by omega)), ?_⟩
    obtain ⟨nums2, hn2⟩ : ∃ nums2, nums2 = putK nums' (kT (SX.S pk.1)) (.int (pk.2 + δ)) := ⟨_, rfl⟩
    have hput : ∀ s, valV nums2 (kT (SX.S s)) = if kT (SX.S s) = kT (SX.S pk.1) then some (.int (pk.2 + δ)) else valV nums' (kT (SX.S s)) := fun s => by rw [hn2, valV_put]
    have hn2l : nums2.length ≤ 29 + (i + 1) := by
      have := length_putK nums' (kT (SX.S pk.1)) (.int (pk.2 + δ))
      rw [hn2]
      omega
    have hkv : valV nums2 (kT (SX.S pk.1)) = some (.int (pk.2 + δ)) := by rw [hput, if_pos rfl]
    have hov : ∀ q ∈ ps, q.1 ≠ pk.1 → valV nums2 (kT (SX.S q.1)) = some (.int q.2) := fun q hq n => by rw [hput, if_neg fun z => n (kS_inj z)]; exact hold q hq n
    obtain ⟨H9, hH9⟩ : ∃ H9, H9 = upd H8 N (.dK nums2) := ⟨_, rfl⟩
    have hN9 : H9 N = some (.dK nums2) := by rw [hH9]; exact upd_same
    have f89 : Fr N p H8 H9 := fun b u na _ e => by rw [hH9, upd_ne na]; exact e
    have f59 := f58.trans f89
    have hp9 : H9 p = some (.dK (pool r2 m c2'')) := by rw [hH9, upd_ne hNp.symm]; exact hp8
    have k9 : Keep H5 H9 := fun b ys e => f59 b _ (fun z => by rw [z, hN5] at e; cases e) (fun z => by rw [z, hp5] at e; cases e) e
    rw [hn2] at hH9
    rw [← hH9]
    have hval2 : (twinR ps wo k.toNat).val (nuOf nums2) = wo + δ := twin_other h29 hkn hnm hnd (fun q hq n => nuOf_is (hov q hq (by rw [epk] at n; exact n))) (by rw [epk]; exact nuOf_is hkv)
    refine ⟨_, rfl, _, rfl, y, N, twinR ps wo k.toNat, nums2, nuOf nums2, rfl, hy5.keep k9, tw4, by omega, hN9, fun s hs => ?_, rdn, rdl, fun H10 l10 R10 xs10 hs10 hl10 _ _ => ?_⟩
    · obtain ⟨q, hq, e⟩ := hmem s hs
      rw [← e]
      refine ⟨?_, hnm q hq⟩
      by_cases n : q.1 = pk.1
      · rw [n, hkv, nuOf_is hkv]
      · rw [hov q hq n, nuOf_is (hov q hq n)]
    · rw [hval2] at hl10
      refine ⟨l10, _, _, _, rfl, rfl, SqL.of hl10, rfl, _, rfl, rfl, _, rfl, iteN (fun z => ?_) ?_⟩
      · have := V.int.inj z
        omega
      · exact ⟨_, nums2, r2, c2'', rfl, f59.trans fun b u _ _ e => hs10 _ _ e, hs10 _ _ hN9, hn2l, hov, hs10 _ _ hp9, b0, by omega⟩
  · rintro σ H6 ⟨v10, nums', r', c', rfl, hf, hN6, hnl, hold, hp6, c0', c1'⟩
    have k6 : Keep H5 H6 := fun b ys e => hf b _ (fun z => by rw [z, hN5] at e; cases e) (fun z => by rw [z, hp5] at e; cases e) e
    have nLN : L ≠ N := fun z => by rw [z, hN5] at hL5; cases hL5
    have nLp : L ≠ p := fun z => by rw [z, hp5] at hL5; cases hL5
    have hy6 := hy5.keep k6
    refine ⟨_, rfl, _, rfl, t2, L, v, wo, k, xs, ps, rfl, k6 _ _ ht25, hf _ _ nLN nLp hL5, hP5.keep k6, h29, hk0, hk1, fun H7 y2 hs7 hy7 => ?_⟩
    have htl := Rcp.twlays tw4
    have hst : SeqAt.shaped (twinR ps wo k.toNat).th.py = true := by
      show ((twinR ps wo k.toNat).th.py.canLay0 && decide ((twinR ps wo k.toNat).th.py.depth ≤ 64)) = true
      rw [htl.1, decide_eq_true (by omega)]
      rfl
    refine ⟨_, rfl, _, _, Data.dp (Rcp.flat _) hy7.data, Data.dp (Rcp.flat _) (hy6.same hs7).data, hst, hst, ?_⟩
    rw [SeqAt.eqv_refl _ htl.1]
    refine q H7 r' c' (fun b u nb e => hs7 _ _ (hf b u (fun z => ?_) nb (s05 _ _ e))) (hs7 _ _ hp6) c0' (by omega)
    rw [z, hN0] at e
    cases e
end
/-! ### the law -/
def spLaw (K : PySem.W.Frag) : Sp := fun vs H Q _ => ∃ (a : Addr) (ns : List Int), vs = [.ref a] ∧ SqL K H a (ns.map V.int) ∧ ns.length ≤ 63 ∧ ∀ H', Q (.bl true) H'
section
variable {P : Program} {w : World} {K : PySem.W.Frag} {mg : Str → Option Value} {base : Heap}
abbrev s_law : Stmt := topS 28
abbrev N_law : List Str := ["script", "record", "many", "pool", "k", "turn"]
theorem sc_law : FnScope N_law ["script"] (defScope s_law) := ⟨rfl, rfl, rfl, by decide +kernel, rfl, by decide +kernel, by decide +kernel⟩

theorem ok_law {fl : Addr} {fd : FuncData} (F : Fun K "law" "law" s_law fl fd) (T : Txt K mg) (C__law_record : Cal P w K mg base CX0 3 "_law_record" ["script"] (spRecord37 K)) (C__law_pool : Cal P w K mg base CX0 2 "_law_pool" ["script", "k"] (spPool K))
    (C__law_take : Cal P w K mg base CX0 1 "_law_take" ["pool", "many"] spTakeP) (C__law_good : Cal P w K mg base CX0 12 "_law_good" ["record", "k", "pool"] spGood37) : FnOk P w K mg base CX0 13 fl fd ["script"] (spLaw K) := by
  refine F.ok sc_law (fun vs H Q E h => ?_) (fun cdv A outer s H vs Q E hr h => ?_)
  · obtain ⟨a, ns, rfl, _⟩ := h
    rfl
  obtain ⟨a, ns, rfl, hS, h63, q⟩ := h
  refine ⟨_, (pss_cons (ps_set (i := 1) sc_law.nd rfl (Or.inl rfl) (pe_cal C__law_record (hr.mono (by first | decide | omega)) pass0 (pa_cons (pv 0) pa_nil)))
      (pss_cons (ps_set (i := 2) sc_law.nd rfl (Or.inr rfl) (pe_callB call_len_seq (by rfl) T.b_len PySem.boot_len (pa_cons (pe_ix (r := rIxT K) ix_tup (pv 1) pe_int (fun _ _ => rfl)) pa_nil)))
      (pss_cons (ps_set (i := 3) sc_law.nd rfl (Or.inr rfl) (pe_cal C__law_pool (hr.mono (by first | decide | omega)) pass0 (pa_cons (pv 0) (pa_cons pe_int pa_nil))))
      (pss_cons (ps_for PassesOwn.never rfl (pi_list (pe_op op_cat (pe_lst (pa_cons pe_int (pa_cons (pe_op op_sub (pv 2) pe_int) (pa_cons (pe_op op_fdivW (pv 2) pe_int) pa_nil)))) (pe_lc (own := [("turn", 5)]) (g := gName 5)  (by rfl) sc_law.nd  (pi_range1 rfl T.b_range (pa_cons pe_int pa_nil)) (blkOk_by (own := [("turn", 5)]) (N := N_law) (sc := defScope s_law) (by decide +kernel)) (fun _ _ _ _ _ => (pg_name (i := 5) sc_law.nd rfl (Or.inl rfl))) (fun _ _ _ _ _ => pts_nil) (fun _ _ _ _ _ => (pe_cal C__law_take (hr.mono (by first | decide | omega)) pass0 (pa_cons (pv 3) (pa_cons (pv 2) pa_nil))))))) (pg_name (i := 4) sc_law.nd rfl (Or.inl rfl))
        (pss_one (ps_if (pt_not (pt_val (pe_cal C__law_good (hr.mono (by first | decide | omega)) pass0 (pa_cons (pv 1) (pa_cons (pv 4) (pa_cons (pv 3) pa_nil))))))
        (pss_one (ps_ret pe_bl))
        pss_nil)))
      (pss_one (ps_ret pe_bl)))))), ?_⟩
  refine ⟨_, rfl, a, ns, rfl, hS, h63, fun H1 t R v xs ps wo hs1 ht hR hP hv l1 l29 hnm hnd => ?_⟩
  have hxl := hP.len
  refine ⟨_, rfl, t, _, _, _, rfl, rfl, SqT.of ht, rfl, R, _, rfl, .inl (SqL.of hR), ?_⟩
  have hS1 := hs1.seq hS
  refine ⟨_, rfl, a, ns, 61, rfl, hS1, h63, by decide, by decide, fun p r m c np c0 c1 => ?_⟩
  obtain ⟨H2, hH2⟩ : ∃ H2, H2 = upd H1 p (.dK (pool r m c)) := ⟨_, rfl⟩
  have s2 : Same H1 H2 := by rw [hH2]; exact same_new np _
  have hp2 : H2 p = some (.dK (pool r m c)) := by rw [hH2]; exact upd_same
  rw [← hH2]
  obtain ⟨many, hmany⟩ : ∃ many : Int, many = ((xs.length : Nat) : Int) := ⟨_, rfl⟩
  rw [← hmany]
  refine ⟨_, rfl, _, _, rfl, rfl, _, rfl, _, _, rfl, rfl, ⟨by decide, by decide +kernel⟩, le_line (Nat.le_of_ble_eq_true rfl), fun L nL => ?_⟩
  have sL := same_new nL (.lst [.int 0, .int (many - 1), .int (many / 2)])
  refine ⟨3, rfl, by decide, by decide, fun M nM => lc_range (lo := 0) (n := 3) (fun i H' => ∃ (ks : List Int) (r' c' : Int), Fr1 p (upd H2 L (.lst [.int 0, .int (many - 1), .int (many / 2)])) H' ∧ H' M = some (.lst (ks.map V.int)) ∧ ks.length = i ∧ (∀ k ∈ ks, 0 ≤ k ∧ k < many) ∧ H' p = some (.dK (pool r' m c')) ∧ 0 ≤ c' ∧ c' ≤ c + i) ⟨[], r, c, Fr1.of (same_new nM _), upd_same, rfl, fun _ h => (nomatch h), same_new nM _ _ _ (sL _ _ hp2), c0, by omega⟩ ?_ ?_⟩
  · rintro i H3 hi ⟨ks, r', c', hf, hM, hkl, hks, hp3, d0, d1⟩
    have nMp : M ≠ p := fun z => by rw [z, hp3] at hM; cases hM
    refine ⟨rfl, _, rfl, _, rfl, p, r', m, c', many, rfl, hp3, by omega, ?_, d0, by omega, fun H4 x r2 c2 kf hp4 e0 e1 x0 x1 => ?_⟩
    · have h1 : (2 : Nat) ^ 5 ≤ 2 ^ 200 := Nat.pow_le_pow_right (by decide) (by decide)
      have h2 : many.natAbs < 32 := by omega
      exact Nat.lt_of_lt_of_le h2 h1
    refine ⟨ks.map V.int, (kf M nMp).trans hM, lt_line (by rw [List.length_map]; omega), ks ++ [x], r2, c2, fun b u n e => ?_, by rw [upd_same, List.map_append]; rfl, by rw [List.length_append, hkl]; rfl, fun z hz => ?_, by rw [upd_ne nMp.symm]; exact hp4, e0, by omega⟩
    · have nb : b ≠ M := fun z => by rw [z, nM] at e; cases e
      rw [upd_ne nb, kf b n]
      exact hf b u n e
    · rcases List.mem_append.mp hz with h | h
      · exact hks z h
      · rw [List.mem_singleton.mp h]
        exact ⟨x0, x1⟩
  rintro H3 ⟨ks, r', c', hf, hM, hkl, hks, hp3, d0, d1⟩
  have npL : L ≠ p := fun z => by rw [z, hp2] at nL; cases nL
  have hL3 := hf L _ npL upd_same
  have f23 : Fr1 p H2 H3 := (Fr1.of sL).trans hf
  refine ⟨L, M, _, _, rfl, rfl, hL3, hM, le_line (by show 3 + (ks.map V.int).length ≤ _; rw [List.length_map, hkl]; decide), fun D nD => ?_⟩
  have sD := same_new nD (.lst ([.int 0, .int (many - 1), .int (many / 2)] ++ ks.map V.int))
  obtain ⟨js, hjs⟩ : ∃ js : List Int, js = [0, many - 1, many / 2] ++ ks := ⟨_, rfl⟩
  have ejs : ([.int 0, .int (many - 1), .int (many / 2)] ++ ks.map V.int : List V) = js.map V.int := by rw [hjs, List.map_append]; rfl
  have hj : ∀ k ∈ js, 0 ≤ k ∧ k < many := fun k hk => by
    rw [hjs] at hk
    rcases List.mem_append.mp hk with h | h
    · simp only [List.mem_cons, List.not_mem_nil, or_false] at h
      rcases h with h | h | h <;> omega
    · exact hks k h
  have hjl : js.length = 6 := by rw [hjs, List.length_append, hkl]; rfl
  have nDp : D ≠ p := fun z => by rw [z, hp3] at nD; cases nD
  have f13 : ∀ b u, b ≠ p → H1 b = some u → H3 b = some u := fun b u n e => f23 b u n (s2 _ _ e)
  have n1p : H1 p = none := np
  have ne1 : ∀ b u, H1 b = some u → b ≠ p := fun b u e z => by rw [z, n1p] at e; cases e
  obtain ⟨H5, hH5⟩ : ∃ H5, H5 = upd H3 D (.lst ([.int 0, .int (many - 1), .int (many / 2)] ++ ks.map V.int)) := ⟨_, rfl⟩
  have s15 : Same H1 H5 := fun b u e => by rw [hH5]; exact sD _ _ (f13 b u (ne1 b u e) e)
  have hD5 : H5 D = some (.lst (js.map V.int)) := by rw [hH5, ← ejs]; exact upd_same
  have hp5 : H5 p = some (.dK (pool r' m c')) := by rw [hH5]; exact sD _ _ hp3
  refine ⟨D, rfl, ⟨_, SqL.of upd_same⟩, for_list (K := K) (a := D) (xs := [.int 0, .int (many - 1), .int (many / 2)] ++ ks.map V.int) (fun i σ H' => ∃ (v4 : Option V) (r' c' : Int), σ = [some (.ref a), some (.ref t), some (.int many), some (.ref p), v4, none] ∧ Fr1 p H5 H' ∧ H' p = some (.dK (pool r' m c')) ∧ 0 ≤ c' ∧ c' ≤ 10000 + 4 * i) ⟨none, r', c', rfl, by rw [hH5]; exact Fr1.of (Same.refl _), by rw [← hH5]; exact hp5, d0, by omega⟩ (fun i σ H' _ ⟨_, _, _, _, h, _⟩ => SqL.of (by rw [ejs]; exact h D _ nDp hD5)) ?_ ?_⟩
  · rintro i w σ H6 hw ⟨v4, r6, c6, rfl, hf6, hp6, g0, g1⟩
    rw [ejs] at hw
    have hi := (List.getElem?_eq_some_iff.mp hw).1
    rw [List.length_map, hjl] at hi
    obtain ⟨k, hk, rfl⟩ := List.mem_map.mp (List.mem_of_getElem? hw)
    obtain ⟨k0, k1⟩ := hj k hk
    have up : ∀ b u, H1 b = some u → H6 b = some u := fun b u e => hf6 b u (ne1 b u e) (s15 _ _ e)
    refine ⟨_, rfl, _, rfl, _, rfl, t, R, p, v, xs, ps, wo, k, r6, m, c6, rfl, up _ _ ht, up _ _ hR, hP.same up, hv.same up, l29, hnm, hnd, k0, by omega, hp6, g0, by omega, fun H7 r7 c7 hf7 hp7 i0 i1 => ?_⟩
    exact ⟨_, rfl, not_true_eq rfl ⟨_, r7, c7, rfl, hf6.trans hf7, hp7, i0, by omega⟩⟩
  · rintro σ H6 ⟨v4, r6, c6, rfl, _⟩
    exact q _
end
theorem all_mk {l : PySem.W.OpenLaw} {w : World} {K : PySem.W.Frag} {h : Heap} {mg : Str → Option Value} {fa f_looked_through f_grouped f_summed_up f_twin_of f__law_cell_at f__law_pool f__law_take f__law_name f__law_settled f__law_look f__law_value f__law_summed f__law_record f__law_parts f__law_worked f__law_good f_law : Addr} (X : K.In h) (G : h.Ns mainGlobals mg) (hfa : mg "law" = some (.ref fa))
    {od_looked_through an_looked_through od_grouped an_grouped od_summed_up an_summed_up od_twin_of an_twin_of od__law_cell_at an__law_cell_at od__law_pool an__law_pool od__law_take an__law_take od__law_name an__law_name od__law_settled an__law_settled od__law_look an__law_look od__law_value an__law_value od__law_summed an__law_summed od__law_record an__law_record od__law_parts an__law_parts od__law_worked an__law_worked od__law_good an__law_good od_law an_law : Option Addr} {sl_looked_through sl_grouped sl_summed_up sl_twin_of sl__law_cell_at sl__law_pool sl__law_take sl__law_name sl__law_settled sl__law_look sl__law_value sl__law_summed sl__law_record sl__law_parts sl__law_worked sl__law_good sl_law : Array (Option Value)} {oc_looked_through kV_looked_through dc_looked_through pm_looked_through cd_looked_through ct_looked_through oc_grouped kV_grouped dc_grouped pm_grouped cd_grouped ct_grouped oc_summed_up kV_summed_up dc_summed_up pm_summed_up cd_summed_up ct_summed_up oc_twin_of kV_twin_of dc_twin_of pm_twin_of cd_twin_of ct_twin_of oc__law_cell_at kV__law_cell_at dc__law_cell_at pm__law_cell_at cd__law_cell_at ct__law_cell_at oc__law_pool kV__law_pool dc__law_pool pm__law_pool cd__law_pool ct__law_pool oc__law_take kV__law_take dc__law_take pm__law_take cd__law_take ct__law_take oc__law_name kV__law_name dc__law_name pm__law_name cd__law_name ct__law_name oc__law_settled kV__law_settled dc__law_settled pm__law_settled cd__law_settled ct__law_settled oc__law_look kV__law_look dc__law_look pm__law_look cd__law_look ct__law_look oc__law_value kV__law_value dc__law_value pm__law_value cd__law_value ct__law_value oc__law_summed kV__law_summed dc__law_summed pm__law_summed cd__law_summed ct__law_summed oc__law_record kV__law_record dc__law_record pm__law_record cd__law_record ct__law_record oc__law_parts kV__law_parts dc__law_parts pm__law_parts cd__law_parts ct__law_parts oc__law_worked kV__law_worked dc__law_worked pm__law_worked cd__law_worked ct__law_worked oc__law_good kV__law_good dc__law_good pm__law_good cd__law_good ct__law_good oc_law kV_law dc_law pm_law cd_law ct_law : Value}
    (a_looked_through : PySem.W.nsIn K mainGlobals "looked_through" = some (some (.ref f_looked_through))) (l_looked_through : K.lookup f_looked_through = some ⟨oc_looked_through, od_looked_through, .func (PySem.W.fnOf "looked_through" "looked_through" (defArgs s_looked_through) (defBody s_looked_through) (defScope s_looked_through) .none kV_looked_through dc_looked_through pm_looked_through an_looked_through cd_looked_through ct_looked_through), sl_looked_through⟩) (c_looked_through : PySem.W.codeIn K cd_looked_through "looked_through" = true) (k_looked_through : PySem.W.keepIn K (.ref f_looked_through) = true)
    (a_grouped : PySem.W.nsIn K mainGlobals "grouped" = some (some (.ref f_grouped))) (l_grouped : K.lookup f_grouped = some ⟨oc_grouped, od_grouped, .func (PySem.W.fnOf "grouped" "grouped" (defArgs s_grouped) (defBody s_grouped) (defScope s_grouped) .none kV_grouped dc_grouped pm_grouped an_grouped cd_grouped ct_grouped), sl_grouped⟩) (c_grouped : PySem.W.codeIn K cd_grouped "grouped" = true) (k_grouped : PySem.W.keepIn K (.ref f_grouped) = true)
    (a_summed_up : PySem.W.nsIn K mainGlobals "summed_up" = some (some (.ref f_summed_up))) (l_summed_up : K.lookup f_summed_up = some ⟨oc_summed_up, od_summed_up, .func (PySem.W.fnOf "summed_up" "summed_up" (defArgs s_summed_up) (defBody s_summed_up) (defScope s_summed_up) .none kV_summed_up dc_summed_up pm_summed_up an_summed_up cd_summed_up ct_summed_up), sl_summed_up⟩) (c_summed_up : PySem.W.codeIn K cd_summed_up "summed_up" = true) (k_summed_up : PySem.W.keepIn K (.ref f_summed_up) = true)
    (a_twin_of : PySem.W.nsIn K mainGlobals "twin_of" = some (some (.ref f_twin_of))) (l_twin_of : K.lookup f_twin_of = some ⟨oc_twin_of, od_twin_of, .func (PySem.W.fnOf "twin_of" "twin_of" (defArgs s_twin_of) (defBody s_twin_of) (defScope s_twin_of) .none kV_twin_of dc_twin_of pm_twin_of an_twin_of cd_twin_of ct_twin_of), sl_twin_of⟩) (c_twin_of : PySem.W.codeIn K cd_twin_of "twin_of" = true) (k_twin_of : PySem.W.keepIn K (.ref f_twin_of) = true)
    (a__law_cell_at : PySem.W.nsIn K mainGlobals "_law_cell_at" = some (some (.ref f__law_cell_at))) (l__law_cell_at : K.lookup f__law_cell_at = some ⟨oc__law_cell_at, od__law_cell_at, .func (PySem.W.fnOf "_law_cell_at" "_law_cell_at" (defArgs s__law_cell_at) (defBody s__law_cell_at) (defScope s__law_cell_at) .none kV__law_cell_at dc__law_cell_at pm__law_cell_at an__law_cell_at cd__law_cell_at ct__law_cell_at), sl__law_cell_at⟩) (c__law_cell_at : PySem.W.codeIn K cd__law_cell_at "_law_cell_at" = true) (k__law_cell_at : PySem.W.keepIn K (.ref f__law_cell_at) = true)
    (a__law_pool : PySem.W.nsIn K mainGlobals "_law_pool" = some (some (.ref f__law_pool))) (l__law_pool : K.lookup f__law_pool = some ⟨oc__law_pool, od__law_pool, .func (PySem.W.fnOf "_law_pool" "_law_pool" (defArgs s__law_pool) (defBody s__law_pool) (defScope s__law_pool) .none kV__law_pool dc__law_pool pm__law_pool an__law_pool cd__law_pool ct__law_pool), sl__law_pool⟩) (c__law_pool : PySem.W.codeIn K cd__law_pool "_law_pool" = true) (k__law_pool : PySem.W.keepIn K (.ref f__law_pool) = true)
    (a__law_take : PySem.W.nsIn K mainGlobals "_law_take" = some (some (.ref f__law_take))) (l__law_take : K.lookup f__law_take = some ⟨oc__law_take, od__law_take, .func (PySem.W.fnOf "_law_take" "_law_take" (defArgs s__law_take) (defBody s__law_take) (defScope s__law_take) .none kV__law_take dc__law_take pm__law_take an__law_take cd__law_take ct__law_take), sl__law_take⟩) (c__law_take : PySem.W.codeIn K cd__law_take "_law_take" = true) (k__law_take : PySem.W.keepIn K (.ref f__law_take) = true)
    (a__law_name : PySem.W.nsIn K mainGlobals "_law_name" = some (some (.ref f__law_name))) (l__law_name : K.lookup f__law_name = some ⟨oc__law_name, od__law_name, .func (PySem.W.fnOf "_law_name" "_law_name" (defArgs s__law_name) (defBody s__law_name) (defScope s__law_name) .none kV__law_name dc__law_name pm__law_name an__law_name cd__law_name ct__law_name), sl__law_name⟩) (c__law_name : PySem.W.codeIn K cd__law_name "_law_name" = true) (k__law_name : PySem.W.keepIn K (.ref f__law_name) = true)
    (a__law_settled : PySem.W.nsIn K mainGlobals "_law_settled" = some (some (.ref f__law_settled))) (l__law_settled : K.lookup f__law_settled = some ⟨oc__law_settled, od__law_settled, .func (PySem.W.fnOf "_law_settled" "_law_settled" (defArgs s__law_settled) (defBody s__law_settled) (defScope s__law_settled) .none kV__law_settled dc__law_settled pm__law_settled an__law_settled cd__law_settled ct__law_settled), sl__law_settled⟩) (c__law_settled : PySem.W.codeIn K cd__law_settled "_law_settled" = true) (k__law_settled : PySem.W.keepIn K (.ref f__law_settled) = true)
    (a__law_look : PySem.W.nsIn K mainGlobals "_law_look" = some (some (.ref f__law_look))) (l__law_look : K.lookup f__law_look = some ⟨oc__law_look, od__law_look, .func (PySem.W.fnOf "_law_look" "_law_look" (defArgs s__law_look) (defBody s__law_look) (defScope s__law_look) .none kV__law_look dc__law_look pm__law_look an__law_look cd__law_look ct__law_look), sl__law_look⟩) (c__law_look : PySem.W.codeIn K cd__law_look "_law_look" = true) (k__law_look : PySem.W.keepIn K (.ref f__law_look) = true)
    (a__law_value : PySem.W.nsIn K mainGlobals "_law_value" = some (some (.ref f__law_value))) (l__law_value : K.lookup f__law_value = some ⟨oc__law_value, od__law_value, .func (PySem.W.fnOf "_law_value" "_law_value" (defArgs s__law_value) (defBody s__law_value) (defScope s__law_value) .none kV__law_value dc__law_value pm__law_value an__law_value cd__law_value ct__law_value), sl__law_value⟩) (c__law_value : PySem.W.codeIn K cd__law_value "_law_value" = true) (k__law_value : PySem.W.keepIn K (.ref f__law_value) = true)
    (a__law_summed : PySem.W.nsIn K mainGlobals "_law_summed" = some (some (.ref f__law_summed))) (l__law_summed : K.lookup f__law_summed = some ⟨oc__law_summed, od__law_summed, .func (PySem.W.fnOf "_law_summed" "_law_summed" (defArgs s__law_summed) (defBody s__law_summed) (defScope s__law_summed) .none kV__law_summed dc__law_summed pm__law_summed an__law_summed cd__law_summed ct__law_summed), sl__law_summed⟩) (c__law_summed : PySem.W.codeIn K cd__law_summed "_law_summed" = true) (k__law_summed : PySem.W.keepIn K (.ref f__law_summed) = true)
    (a__law_record : PySem.W.nsIn K mainGlobals "_law_record" = some (some (.ref f__law_record))) (l__law_record : K.lookup f__law_record = some ⟨oc__law_record, od__law_record, .func (PySem.W.fnOf "_law_record" "_law_record" (defArgs s__law_record) (defBody s__law_record) (defScope s__law_record) .none kV__law_record dc__law_record pm__law_record an__law_record cd__law_record ct__law_record), sl__law_record⟩) (c__law_record : PySem.W.codeIn K cd__law_record "_law_record" = true) (k__law_record : PySem.W.keepIn K (.ref f__law_record) = true)
    (a__law_parts : PySem.W.nsIn K mainGlobals "_law_parts" = some (some (.ref f__law_parts))) (l__law_parts : K.lookup f__law_parts = some ⟨oc__law_parts, od__law_parts, .func (PySem.W.fnOf "_law_parts" "_law_parts" (defArgs s__law_parts) (defBody s__law_parts) (defScope s__law_parts) .none kV__law_parts dc__law_parts pm__law_parts an__law_parts cd__law_parts ct__law_parts), sl__law_parts⟩) (c__law_parts : PySem.W.codeIn K cd__law_parts "_law_parts" = true) (k__law_parts : PySem.W.keepIn K (.ref f__law_parts) = true)
    (a__law_worked : PySem.W.nsIn K mainGlobals "_law_worked" = some (some (.ref f__law_worked))) (l__law_worked : K.lookup f__law_worked = some ⟨oc__law_worked, od__law_worked, .func (PySem.W.fnOf "_law_worked" "_law_worked" (defArgs s__law_worked) (defBody s__law_worked) (defScope s__law_worked) .none kV__law_worked dc__law_worked pm__law_worked an__law_worked cd__law_worked ct__law_worked), sl__law_worked⟩) (c__law_worked : PySem.W.codeIn K cd__law_worked "_law_worked" = true) (k__law_worked : PySem.W.keepIn K (.ref f__law_worked) = true)
    (a__law_good : PySem.W.nsIn K mainGlobals "_law_good" = some (some (.ref f__law_good))) (l__law_good : K.lookup f__law_good = some ⟨oc__law_good, od__law_good, .func (PySem.W.fnOf "_law_good" "_law_good" (defArgs s__law_good) (defBody s__law_good) (defScope s__law_good) .none kV__law_good dc__law_good pm__law_good an__law_good cd__law_good ct__law_good), sl__law_good⟩) (c__law_good : PySem.W.codeIn K cd__law_good "_law_good" = true) (k__law_good : PySem.W.keepIn K (.ref f__law_good) = true)
    (a_law : PySem.W.nsIn K mainGlobals "law" = some (some (.ref f_law))) (l_law : K.lookup f_law = some ⟨oc_law, od_law, .func (PySem.W.fnOf "law" "law" (defArgs s_law) (defBody s_law) (defScope s_law) .none kV_law dc_law pm_law an_law cd_law ct_law), sl_law⟩) (c_law : PySem.W.codeIn K cd_law "law" = true) (k_law : PySem.W.keepIn K (.ref f_law) = true)
    (z_len : PySem.W.nsIn K mainGlobals "len" = some none)
    (z_list : PySem.W.nsIn K mainGlobals "list" = some none)
    (z_range : PySem.W.nsIn K mainGlobals "range" = some none)
    (z_tuple : PySem.W.nsIn K mainGlobals "tuple" = some none)
    (z_str : PySem.W.nsIn K mainGlobals "str" = some none)
    (z_int : PySem.W.nsIn K mainGlobals "int" = some none)
    (z_isinstance : PySem.W.nsIn K mainGlobals "isinstance" = some none)
    (z_bool : PySem.W.nsIn K mainGlobals "bool" = some none)
    (z_sum : PySem.W.nsIn K mainGlobals "sum" = some none)
    (z_dict : PySem.W.nsIn K mainGlobals "dict" = some none)
    (z_min : PySem.W.nsIn K mainGlobals "min" = some none)
    (z_max : PySem.W.nsIn K mainGlobals "max" = some none)
    (z_ValueError : PySem.W.nsIn K mainGlobals "ValueError" = some none)
    {tkl : Tok}
    (a_LONGEST : PySem.W.nsIn K mainGlobals "LONGEST" = some (some (.int 3 tkl)))
    {C_NoRead : Addr}
    (a_NoRead : PySem.W.nsIn K mainGlobals "NoRead" = some (some (.ref C_NoRead)))
    (x_NoRead : PySem.W.excIn K C_NoRead [.type "ValueError", .type "Exception", .type "BaseException", .type "object"] "ValueError.__new__" = true)
    (k_NoRead : PySem.W.keepIn K (.ref C_NoRead) = true)
    (b_NoRead : PySem.W.subIn K (.ref C_NoRead) (.type "BaseException") = some true)
    (t_NoRead : PySem.W.typeIn K (.ref C_NoRead) = some (.type "type"))
    : ∃ fd : FuncData, (∀ (s : Shared) (v : Value), BindsTo s fd ⟨[v], []⟩ [("script", v)]) ∧ ∀ base : Heap, K.In base → base.Ns mainGlobals mg → FnOk l.prog w K mg base CX0 13 fa fd ["script"] (spLaw K) := by
  have e := hfa.symm.trans (PySem.W.mg_of X G a_law)
  cases e
  have F_looked_through := fun_mk (st := s_looked_through) l_looked_through c_looked_through k_looked_through
  have D_looked_through : IsDef K mg "looked_through" s_looked_through ["reads"] := ⟨f_looked_through, _, F_looked_through, PySem.W.mg_of X G a_looked_through, F_looked_through.binds (ps := ["reads"]) fun _ _ _ _ _ _ us hl => match us, hl with | [_], _ => rfl⟩
  have F_grouped := fun_mk (st := s_grouped) l_grouped c_grouped k_grouped
  have D_grouped : IsDef K mg "grouped" s_grouped ["reads"] := ⟨f_grouped, _, F_grouped, PySem.W.mg_of X G a_grouped, F_grouped.binds (ps := ["reads"]) fun _ _ _ _ _ _ us hl => match us, hl with | [_], _ => rfl⟩
  have F_summed_up := fun_mk (st := s_summed_up) l_summed_up c_summed_up k_summed_up
  have D_summed_up : IsDef K mg "summed_up" s_summed_up ["parts"] := ⟨f_summed_up, _, F_summed_up, PySem.W.mg_of X G a_summed_up, F_summed_up.binds (ps := ["parts"]) fun _ _ _ _ _ _ us hl => match us, hl with | [_], _ => rfl⟩
  have F_twin_of := fun_mk (st := s_twin_of) l_twin_of c_twin_of k_twin_of
  have D_twin_of : IsDef K mg "twin_of" s_twin_of ["record", "k"] := ⟨f_twin_of, _, F_twin_of, PySem.W.mg_of X G a_twin_of, F_twin_of.binds (ps := ["record", "k"]) fun _ _ _ _ _ _ us hl => match us, hl with | [_, _], _ => rfl⟩
  have F__law_cell_at := fun_mk (st := s__law_cell_at) l__law_cell_at c__law_cell_at k__law_cell_at
  have D__law_cell_at : IsDef K mg "_law_cell_at" s__law_cell_at ["script", "k"] := ⟨f__law_cell_at, _, F__law_cell_at, PySem.W.mg_of X G a__law_cell_at, F__law_cell_at.binds (ps := ["script", "k"]) fun _ _ _ _ _ _ us hl => match us, hl with | [_, _], _ => rfl⟩
  have F__law_pool := fun_mk (st := s__law_pool) l__law_pool c__law_pool k__law_pool
  have D__law_pool : IsDef K mg "_law_pool" s__law_pool ["script", "k"] := ⟨f__law_pool, _, F__law_pool, PySem.W.mg_of X G a__law_pool, F__law_pool.binds (ps := ["script", "k"]) fun _ _ _ _ _ _ us hl => match us, hl with | [_, _], _ => rfl⟩
  have F__law_take := fun_mk (st := s__law_take) l__law_take c__law_take k__law_take
  have D__law_take : IsDef K mg "_law_take" s__law_take ["pool", "many"] := ⟨f__law_take, _, F__law_take, PySem.W.mg_of X G a__law_take, F__law_take.binds (ps := ["pool", "many"]) fun _ _ _ _ _ _ us hl => match us, hl with | [_, _], _ => rfl⟩
  have F__law_name := fun_mk (st := s__law_name) l__law_name c__law_name k__law_name
  have D__law_name : IsDef K mg "_law_name" s__law_name ["k"] := ⟨f__law_name, _, F__law_name, PySem.W.mg_of X G a__law_name, F__law_name.binds (ps := ["k"]) fun _ _ _ _ _ _ us hl => match us, hl with | [_], _ => rfl⟩
  have F__law_settled := fun_mk (st := s__law_settled) l__law_settled c__law_settled k__law_settled
  have D__law_settled : IsDef K mg "_law_settled" s__law_settled ["house", "name", "state"] := ⟨f__law_settled, _, F__law_settled, PySem.W.mg_of X G a__law_settled, F__law_settled.binds (ps := ["house", "name", "state"]) fun _ _ _ _ _ _ us hl => match us, hl with | [_, _, _], _ => rfl⟩
  have F__law_look := fun_mk (st := s__law_look) l__law_look c__law_look k__law_look
  have D__law_look : IsDef K mg "_law_look" s__law_look ["house", "name", "state", "reads"] := ⟨f__law_look, _, F__law_look, PySem.W.mg_of X G a__law_look, F__law_look.binds (ps := ["house", "name", "state", "reads"]) fun _ _ _ _ _ _ us hl => match us, hl with | [_, _, _, _], _ => rfl⟩
  have F__law_value := fun_mk (st := s__law_value) l__law_value c__law_value k__law_value
  have D__law_value : IsDef K mg "_law_value" s__law_value ["house", "r", "state", "reads"] := ⟨f__law_value, _, F__law_value, PySem.W.mg_of X G a__law_value, F__law_value.binds (ps := ["house", "r", "state", "reads"]) fun _ _ _ _ _ _ us hl => match us, hl with | [_, _, _, _], _ => rfl⟩
  have F__law_summed := fun_mk (st := s__law_summed) l__law_summed c__law_summed k__law_summed
  have D__law_summed : IsDef K mg "_law_summed" s__law_summed ["reads", "worth"] := ⟨f__law_summed, _, F__law_summed, PySem.W.mg_of X G a__law_summed, F__law_summed.binds (ps := ["reads", "worth"]) fun _ _ _ _ _ _ us hl => match us, hl with | [_, _], _ => rfl⟩
  have F__law_record := fun_mk (st := s__law_record) l__law_record c__law_record k__law_record
  have D__law_record : IsDef K mg "_law_record" s__law_record ["script"] := ⟨f__law_record, _, F__law_record, PySem.W.mg_of X G a__law_record, F__law_record.binds (ps := ["script"]) fun _ _ _ _ _ _ us hl => match us, hl with | [_], _ => rfl⟩
  have F__law_parts := fun_mk (st := s__law_parts) l__law_parts c__law_parts k__law_parts
  have D__law_parts : IsDef K mg "_law_parts" s__law_parts ["r"] := ⟨f__law_parts, _, F__law_parts, PySem.W.mg_of X G a__law_parts, F__law_parts.binds (ps := ["r"]) fun _ _ _ _ _ _ us hl => match us, hl with | [_], _ => rfl⟩
  have F__law_worked := fun_mk (st := s__law_worked) l__law_worked c__law_worked k__law_worked
  have D__law_worked : IsDef K mg "_law_worked" s__law_worked ["recipe", "numbers"] := ⟨f__law_worked, _, F__law_worked, PySem.W.mg_of X G a__law_worked, F__law_worked.binds (ps := ["recipe", "numbers"]) fun _ _ _ _ _ _ us hl => match us, hl with | [_, _], _ => rfl⟩
  have F__law_good := fun_mk (st := s__law_good) l__law_good c__law_good k__law_good
  have D__law_good : IsDef K mg "_law_good" s__law_good ["record", "k", "pool"] := ⟨f__law_good, _, F__law_good, PySem.W.mg_of X G a__law_good, F__law_good.binds (ps := ["record", "k", "pool"]) fun _ _ _ _ _ _ us hl => match us, hl with | [_, _, _], _ => rfl⟩
  have F_law := fun_mk (st := s_law) l_law c_law k_law
  have m_len := PySem.W.mg_none_of X G z_len
  have m_list := PySem.W.mg_none_of X G z_list
  have m_range := PySem.W.mg_none_of X G z_range
  have m_tuple := PySem.W.mg_none_of X G z_tuple
  have m_str := PySem.W.mg_none_of X G z_str
  have m_int := PySem.W.mg_none_of X G z_int
  have m_isinstance := PySem.W.mg_none_of X G z_isinstance
  have m_bool := PySem.W.mg_none_of X G z_bool
  have m_sum := PySem.W.mg_none_of X G z_sum
  have m_dict := PySem.W.mg_none_of X G z_dict
  have m_min := PySem.W.mg_none_of X G z_min
  have m_max := PySem.W.mg_none_of X G z_max
  have m_ValueError := PySem.W.mg_none_of X G z_ValueError
  have T : Txt K mg := ⟨m_len, m_list, m_range, m_tuple, m_str, m_int, m_isinstance, m_bool, m_sum, m_dict, m_min, m_max, m_ValueError⟩
  have XN : NoX K mg "NoRead" C_NoRead := ⟨x_NoRead, PySem.W.mg_of X G a_NoRead, k_NoRead, b_NoRead, t_NoRead⟩
  refine ⟨PySem.W.fnOf "law" "law" (defArgs s_law) (defBody s_law) (defScope s_law) .none kV_law dc_law pm_law an_law cd_law ct_law, fun s v => .of_eq rfl, fun base _ _ => ?_⟩
  have A1 := ok__law_cell_at (P := l.prog) (w := w) (base := base) T D__law_cell_at
  have A2 := ok__law_pool T D__law_pool A1
  have A3 := ok__law_take (P := l.prog) (w := w) (base := base) T D__law_take
  have A5 := ok_twin_of (P := l.prog) (w := w) (base := base) T XN D_twin_of (ok_grouped T ⟨_, PySem.W.mg_of X G a_LONGEST⟩ D_grouped) (ok_looked_through T D_looked_through) (ok_summed_up T D_summed_up)
  have A6 := ok__law_look (P := l.prog) (w := w) (base := base) T D__law_look (ok__law_settled T D__law_settled (cal_none D__law_value fun _ _ _ _ h => h))
  have A7 := ok__law_worked T D__law_worked (ok__law_value T D__law_value A6 8)
  have A8 := ok__law_record T D__law_record (ok__law_cellE T D__law_cell_at) A2 A3 (ok__law_name T D__law_name) (ok__law_summed T D__law_summed)
  exact ok_law F_law T A8 A2 A3 (ok__law_good T D__law_good A5 (ok__law_parts T D__law_parts 8) A7 A3)
theorem walk {l : PySem.W.OpenLaw} {q : Program} {loose : List Str} {XP : (Str → Option Value) → Heap → Prop} {YP : World → Heap → Prop} {d : DefRec} {K : Params → PySem.W.Frag} (hn : l.most = some 63) (hdf : d.params.defaults = [])
    (hY : ∀ (w : World) (h : Heap), YP w h → (K w.params).In h)
    (F : ∀ (w : World) (mg : Str → Option Value) (fa : Addr) (h : Heap), (K w.params).In h → h.Ns mainGlobals mg → mg d.name = some (.ref fa) →
      ∃ fd : FuncData, (∀ (s : Shared) (u : Value), BindsTo s fd ⟨[u], []⟩ [("script", u)]) ∧ ∀ base : Heap, (K w.params).In base → base.Ns mainGlobals mg → FnOk l.prog w (K w.params) mg base CX0 13 fa fd ["script"] (spLaw (K w.params))) :
    PySem.W.WalkO q loose XP YP l.row.toRowW d [] (fun f vs => PySem.call f vs) :=
  L2.walk_of (n := 63) (k := 13) (x := "script") (CX := fun _ => CX0) (sp := fun w => spLaw (K w.params)) hn (by decide) hdf ⟨rfl, by decide, by decide⟩ hY F (fun _ _ a ns hl _ hS => ⟨a, ns, rfl, hS, hl, fun _ => rfl⟩) fun _ _ _ _ _ z => z
end Mad
open PySem PySem.W PyProof.Rows
set_option maxRecDepth 100000 in
set_option maxHeartbeats 0 in
theorem PySem.Challenge.cw_madeagain_k37_twins_holds : PySem.Challenge.rw_madeagain_k37_twins.Holds := by
  w_on; o_law; k_head; (case hw => w_witness2)
  k_fill
  refine Mad.walk (l := PySem.Challenge.rw_madeagain_k37_twins) rfl rfl (fun w h Y => PySem.W.kIn_of Y) ?F
  case F =>
    intro w mg fa h KX G hmg
    refine' Mad.all_mk KX G hmg ?a_looked_through ?l_looked_through ?c_looked_through ?k_looked_through ?a_grouped ?l_grouped ?c_grouped ?k_grouped ?a_summed_up ?l_summed_up ?c_summed_up ?k_summed_up ?a_twin_of ?l_twin_of ?c_twin_of ?k_twin_of ?a__law_cell_at ?l__law_cell_at ?c__law_cell_at ?k__law_cell_at ?a__law_pool ?l__law_pool ?c__law_pool ?k__law_pool ?a__law_take ?l__law_take ?c__law_take ?k__law_take ?a__law_name ?l__law_name ?c__law_name ?k__law_name ?a__law_settled ?l__law_settled ?c__law_settled ?k__law_settled ?a__law_look ?l__law_look ?c__law_look ?k__law_look ?a__law_value ?l__law_value ?c__law_value ?k__law_value ?a__law_summed ?l__law_summed ?c__law_summed ?k__law_summed ?a__law_record ?l__law_record ?c__law_record ?k__law_record ?a__law_parts ?l__law_parts ?c__law_parts ?k__law_parts ?a__law_worked ?l__law_worked ?c__law_worked ?k__law_worked ?a__law_good ?l__law_good ?c__law_good ?k__law_good ?a_law ?l_law ?c_law ?k_law ?z_len ?z_list ?z_range ?z_tuple ?z_str ?z_int ?z_isinstance ?z_bool ?z_sum ?z_dict ?z_min ?z_max ?z_ValueError ?a_LONGEST ?a_NoRead ?x_NoRead ?k_NoRead ?b_NoRead ?t_NoRead
    (case a_looked_through => k_is)
    (case l_looked_through => k_is)
    (case c_looked_through => k_is)
    (case k_looked_through => k_is)
    (case a_grouped => k_is)
    (case l_grouped => k_is)
    (case c_grouped => k_is)
    (case k_grouped => k_is)
    (case a_summed_up => k_is)
    (case l_summed_up => k_is)
    (case c_summed_up => k_is)
    (case k_summed_up => k_is)
    (case a_twin_of => k_is)
    (case l_twin_of => k_is)
    (case c_twin_of => k_is)
    (case k_twin_of => k_is)
    (case a__law_cell_at => k_is)
    (case l__law_cell_at => k_is)
    (case c__law_cell_at => k_is)
    (case k__law_cell_at => k_is)
    (case a__law_pool => k_is)
    (case l__law_pool => k_is)
    (case c__law_pool => k_is)
    (case k__law_pool => k_is)
    (case a__law_take => k_is)
    (case l__law_take => k_is)
    (case c__law_take => k_is)
    (case k__law_take => k_is)
    (case a__law_name => k_is)
    (case l__law_name => k_is)
    (case c__law_name => k_is)
    (case k__law_name => k_is)
    (case a__law_settled => k_is)
    (case l__law_settled => k_is)
    (case c__law_settled => k_is)
    (case k__law_settled => k_is)
    (case a__law_look => k_is)
    (case l__law_look => k_is)
    (case c__law_look => k_is)
    (case k__law_look => k_is)
    (case a__law_value => k_is)
    (case l__law_value => k_is)
    (case c__law_value => k_is)
    (case k__law_value => k_is)
    (case a__law_summed => k_is)
    (case l__law_summed => k_is)
    (case c__law_summed => k_is)
    (case k__law_summed => k_is)
    (case a__law_record => k_is)
    (case l__law_record => k_is)
    (case c__law_record => k_is)
    (case k__law_record => k_is)
    (case a__law_parts => k_is)
    (case l__law_parts => k_is)
    (case c__law_parts => k_is)
    (case k__law_parts => k_is)
    (case a__law_worked => k_is)
    (case l__law_worked => k_is)
    (case c__law_worked => k_is)
    (case k__law_worked => k_is)
    (case a__law_good => k_is)
    (case l__law_good => k_is)
    (case c__law_good => k_is)
    (case k__law_good => k_is)
    (case a_law => k_is)
    (case l_law => k_is)
    (case c_law => k_is)
    (case k_law => k_is)
    (case z_len => k_is)
    (case z_list => k_is)
    (case z_range => k_is)
    (case z_tuple => k_is)
    (case z_str => k_is)
    (case z_int => k_is)
    (case z_isinstance => k_is)
    (case z_bool => k_is)
    (case z_sum => k_is)
    (case z_dict => k_is)
    (case z_min => k_is)
    (case z_max => k_is)
    (case z_ValueError => k_is)
    (case a_LONGEST => k_is)
    (case a_NoRead => k_is)
    (case x_NoRead => k_exc)
    (case k_NoRead => k_is)
    (case b_NoRead => k_is)
    (case t_NoRead => k_is)
#print axioms PySem.Challenge.cw_madeagain_k37_twins_holds
