import PyProof.Rows.All
import Wide.All
import OpenK.AllK
import Wide.FinOn
import HandS.ForMost
import HandS.Wide
import HandS.IsInst
import HandS.Codes
import HandS.More
import HandS.Style
import HandS.TupMul
import HandS.TupAny
import HandS.Dict
import HandS.Iter
import HandS.SortInts
import HandS.SortOrd
import KE.KEqSeq
import HandS.Exc
import HandS.ExcOwn
import HandS.WordsExc
import KE.IntTextLaws
import KE.IntTextText
import HandS.ExcValue
import HandS.TryOnly
import HandS.ExcIs
import PyProof.StrOps2
import HandS.Strs
import HandS.NoneIn
import HandS.Zip
import HandS.Deep
import PySem.Challenge.RW_madeagain_k50_behind_any_reads
set_option Elab.async false
set_option linter.all false
set_option maxRecDepth 100000
set_option maxHeartbeats 4000000
set_option pp.maxSteps 300
namespace Mad
open PySem PySem.Spec PyProof.Rows L2
def topS (i : Nat) : Stmt := PySem.Challenge.pw_madeagain_k50_behind_any_reads.main.body.getD i (.Pass ⟨0, 0, 0, 0⟩)
/-! ### short words over the layer -/
/-- the def x of the text stands in the module as st says -/
def IsDef (K : PySem.W.Frag) (mg : Str → Option Value) (x : Str) (st : Stmt) (ps : List Str) : Prop := ∃ (f : Addr) (fd : FuncData), Fun K x x st f fd ∧ mg x = some (.ref f) ∧ Binds K fd ps []
/-- the def x keeps the promise sp by at most k calls in one another -/
def Cal (P : Program) (w : World) (K : PySem.W.Frag) (mg : Str → Option Value) (base : Heap) (CX : CXT) (k : Nat) (x : Str) (ps : List Str) (sp : Sp) : Prop :=
  ∃ (f : Addr) (fd : FuncData), FnOk P w K mg base CX k f fd ps sp ∧ mg x = some (.ref f) ∧ PySem.W.keepIn K (.ref f) = true ∧ Binds K fd ps []
section
variable {P : Program} {w : World} {K : PySem.W.Frag} {mg : Str → Option Value} {base : Heap}
theorem Cal.mono {CX : CXT} {j k : Nat} {x : Str} {ps : List Str} {sp : Sp} (c : Cal P w K mg base CX j x ps sp) (h : j ≤ k) : Cal P w K mg base CX k x ps sp := by
  obtain ⟨f, fd, F, r⟩ := c
  exact ⟨f, fd, F.mono h, r⟩
theorem Cal.imp {CX : CXT} {k : Nat} {x : Str} {ps : List Str} {sp sp' : Sp} (c : Cal P w K mg base CX k x ps sp) (h : ∀ vs H Q E, sp' vs H Q E → sp vs H Q E) : Cal P w K mg base CX k x ps sp' := by
  obtain ⟨f, fd, F, r⟩ := c
  exact ⟨f, fd, F.imp h, r⟩
/-- of no depth none is asked -/
theorem cal_none {x : Str} {st : Stmt} {ps : List Str} {sp : Sp} {CX : CXT} {k : Nat} (D : IsDef K mg x st ps) (no : ∀ vs H Q E, ¬ sp vs H Q E) : Cal P w K mg base CX k x ps sp := by
  obtain ⟨f, fd, F, m, b⟩ := D
  exact ⟨f, fd, ⟨fun vs H Q E h => absurd h (no vs H Q E), fun A outer s H args us vs Q E _ _ _ _ h => absurd h (no vs H Q E)⟩, m, F.kp, b⟩
theorem IsDef.cal {x : Str} {st : Stmt} {N ps : List Str} {k : Nat} {sp : Sp} (D : IsDef K mg x st ps) (S : FnScope N ps (defScope st)) (len : ∀ vs H Q E, sp vs H Q E → vs.length = ps.length)
    (hbody : ∀ (f : Addr) (cdv : Value) (A : Around) (outer : List Env) (s : Shared) (H : Hp) (vs : List V) (Q : VK) (E : XK), Room k (A.deeper (envOfC x (defScope st) s.heap.objs.size f cdv)) → sp vs H Q E →
      ∃ t, PSs (cxOf CX0 P w K mg base N x (defScope st) f cdv A outer s H E).nox (defBody st) t ∧ t { nx := fun _ H' => Q .non H', rt := Q } (start N vs) H) : Cal P w K mg base CX0 (k + 1) x ps sp := by
  obtain ⟨f, fd, F, m, b⟩ := D
  exact ⟨f, fd, F.ok S len fun cdv A outer s H vs Q E => hbody f cdv A outer s H vs Q E, m, F.kp, b⟩
end
section
variable {X : Cx} {CX : CXT} {k : Nat} {ps : List Str} {sp : Sp} {E : XK} {x : Str} {p pos : Pos}
theorem pe_cal {e : Expr} {es : List Expr} {t : TA} (c : Cal X.prog X.w X.K X.mg X.base CX k x ps sp) (hr : Room k X.A) (hx : Passes CX X E) (ha : PA X (e :: es) t) (hg : Gl X x := by rfl)
    (hdb : (x == ("__debug__" : Str)) = false := by decide) (he : starEach (e :: es) X.env = (false, eval e X.env) :: starEach es X.env := by rfl) (hpl : (backTo pos (starEach es X.env)).any (·.1) = false := by rfl) :
    PE X (.Call (.Name x p) (e :: es) [] pos) (tCall sp [] E t) := by
  obtain ⟨f, fd, F, m, kp, b⟩ := c
  exact pe_call F hr hg m kp b .nil hx ha hdb he hpl
theorem pe_cal0 (c : Cal X.prog X.w X.K X.mg X.base CX k x ps sp) (hr : Room k X.A) (hx : Passes CX X E) (hg : Gl X x := by rfl) (hdb : (x == ("__debug__" : Str)) = false := by decide) :
    PE X (.Call (.Name x p) [] [] pos) (tCall sp [] E tNil) := by
  obtain ⟨f, fd, F, m, kp, b⟩ := c
  exact pe_call0 F hr hg m kp b .nil hx hdb
end
theorem le_line {n : Nat} (h : n ≤ 16777216) : n ≤ sizeLine := by rw [sizeLine_eq]; exact h
theorem lt_line {n : Nat} (h : n < 16777216) : n < sizeLine := by rw [sizeLine_eq]; exact h
theorem same_new {H : Hp} {p : Addr} (h : H p = none) (o : HO) : Same H (upd H p o) := fun b u q => by rw [upd_ne (ne_of_none q h)]; exact q
theorem same_upd {B H : Hp} {p : Addr} (s : Same B H) (h : B p = none) (o : HO) : Same B (upd H p o) := fun b u q => by
  have z : b ≠ p := fun e => by rw [e, h] at q; cases q
  rw [upd_ne z]; exact s _ _ q
theorem atI_at {α : Type} {xs : List α} {i : Int} {v : α} (h0 : 0 ≤ i) (h : xs[i.toNat]? = some v) : atI xs i = some v := by
  have e : i = ((i.toNat : Nat) : Int) := by omega
  rw [e]; exact atI_nat h
theorem ixN_at {n : Nat} {i : Int} (h0 : 0 ≤ i) (h : i < n) : ixN n i = some i.toNat := by
  unfold ixN
  rw [if_pos h0, if_pos h]
theorem int_at {ns : List Int} {i : Int} (h0 : 0 ≤ i) (h : i < ns.length) : ∃ v : Int, atI (ns.map V.int) i = some (.int v) := by
  have hk : i.toNat < ns.length := by omega
  exact ⟨ns[i.toNat], atI_at h0 (by rw [List.getElem?_map, List.getElem?_eq_getElem hk] <;> rfl)⟩
theorem if_true_eq {c : Bool} {A B : Prop} (h : c = true) (a : A) : if c = true then A else B := by rw [if_pos h]; exact a
theorem if_false_eq {c : Bool} {A B : Prop} (h : c = false) (b : B) : if c = true then A else B := by rw [h]; exact b
theorem not_true_eq {c : Bool} {A B : Prop} (h : c = true) (b : B) : if (!c) = true then A else B := by rw [h]; exact b
theorem not_false_eq {c : Bool} {A B : Prop} (h : c = false) (a : A) : if (!c) = true then A else B := by rw [h]; exact a
structure Txt (K : PySem.W.Frag) (mg : Str → Option Value) : Prop where
  b_len : mg "len" = none
  b_list : mg "list" = none
  b_range : mg "range" = none
  b_tuple : mg "tuple" = none
  b_str : mg "str" = none
  b_int : mg "int" = none
  b_isinstance : mg "isinstance" = none
  b_bool : mg "bool" = none
  b_sum : mg "sum" = none
  b_dict : mg "dict" = none
  b_min : mg "min" = none
  b_max : mg "max" = none
  b_ValueError : mg "ValueError" = none
/-! ### recipes as data -/
inductive Kd where
  | plus | minus | times | most
  deriving DecidableEq
def Kd.name : Kd → Str
  | .plus => "plus" | .minus => "minus" | .times => "times" | .most => "most"
inductive Rcp where
  | num (n : Int)
  | read (s : List Nat)
  | two (k : Kd) (a b : Rcp)
  | pick (a b c : Rcp)
  | choose (a : Rcp) (ns : List (List Nat))
def Rcp.dep : Rcp → Nat
  | .num _ => 1
  | .read _ => 1
  | .two _ a b => max a.dep b.dep + 1
  | .pick a b c => max a.dep (max b.dep c.dep) + 1
  | .choose a _ => a.dep + 1
def Rcp.siz : Rcp → Nat
  | .num _ => 1
  | .read _ => 1
  | .two _ a b => a.siz + b.siz + 1
  | .pick a b c => a.siz + b.siz + c.siz + 1
  | .choose a _ => a.siz + 1
/-- a name's signs -/
def Nm (s : List Nat) : Prop := 1 ≤ s.length ∧ s.length ≤ 8 ∧ ∀ c ∈ s, 97 ≤ c ∧ c ≤ 122
def Nms (ns : List (List Nat)) : Prop := 1 ≤ ns.length ∧ ns.length ≤ 9 ∧ ∀ s ∈ ns, Nm s
def Rcp.Good : Rcp → Prop
  | .num n => n.natAbs < 10 ^ 40
  | .read s => Nm s
  | .two _ a b => a.Good ∧ b.Good
  | .pick a b c => a.Good ∧ b.Good ∧ c.Good
  | .choose a ns => a.Good ∧ Nms ns
def txs (ns : List (List Nat)) : List V := (ns.map SX.S).map V.str
/-- the value v is the recipe r in H -/
def Rec (H : Hp) : Rcp → V → Prop
  | .num n, v => ∃ p, v = .ref p ∧ H p = some (.tup [.str "number", .int n])
  | .read s, v => ∃ p, v = .ref p ∧ H p = some (.tup [.str "read", .str (SX.S s)])
  | .two k a b, v => ∃ p x y, v = .ref p ∧ H p = some (.tup [.str k.name, x, y]) ∧ Rec H a x ∧ Rec H b y
  | .pick a b c, v => ∃ p x y z, v = .ref p ∧ H p = some (.tup [.str "pick", x, y, z]) ∧ Rec H a x ∧ Rec H b y ∧ Rec H c z
  | .choose a ns, v => ∃ p x q, v = .ref p ∧ H p = some (.tup [.str "choose", x, .ref q]) ∧ Rec H a x ∧ H q = some (.tup (txs ns))
/-- tuples stay -/
def Keep (H H' : Hp) : Prop := ∀ b xs, H b = some (.tup xs) → H' b = some (.tup xs)
theorem Keep.refl (H : Hp) : Keep H H := fun _ _ h => h
theorem Keep.trans {A B C : Hp} (h : Keep A B) (k : Keep B C) : Keep A C := fun b xs q => k b xs (h b xs q)
theorem same_keep {H H' : Hp} (s : Same H H') : Keep H H' := fun b xs q => s b _ q
theorem keep_lst {H : Hp} {l : Addr} {xs ys : List V} (h : H l = some (.lst xs)) : Keep H (upd H l (.lst ys)) := fun b zs q => by
  have z : b ≠ l := fun e => by rw [e, h] at q; cases q
  rw [upd_ne z]; exact q
theorem Rec.keep {H H' : Hp} (k : Keep H H') : ∀ {r : Rcp} {v : V}, Rec H r v → Rec H' r v
  | .num n, v, ⟨p, e, h⟩ => ⟨p, e, k _ _ h⟩
  | .read s, v, ⟨p, e, h⟩ => ⟨p, e, k _ _ h⟩
  | .two _ a b, v, ⟨p, x, y, e, h, ra, rb⟩ => ⟨p, x, y, e, k _ _ h, Rec.keep k ra, Rec.keep k rb⟩
  | .pick a b c, v, ⟨p, x, y, z, e, h, ra, rb, rc⟩ => ⟨p, x, y, z, e, k _ _ h, Rec.keep k ra, Rec.keep k rb, Rec.keep k rc⟩
  | .choose a ns, v, ⟨p, x, q, e, h, ra, hq⟩ => ⟨p, x, q, e, k _ _ h, Rec.keep k ra, k _ _ hq⟩
theorem Rec.same {H H' : Hp} (s : Same H H') {r : Rcp} {v : V} (h : Rec H r v) : Rec H' r v := h.keep (same_keep s)
theorem dep_pos : ∀ r : Rcp, 1 ≤ r.dep
  | .num _ => Nat.le_refl _
  | .read _ => Nat.le_refl _
  | .two _ _ _ => Nat.le_add_left _ _
  | .pick _ _ _ => Nat.le_add_left _ _
  | .choose _ _ => Nat.le_add_left _ _
theorem siz_pos : ∀ r : Rcp, 1 ≤ r.siz
  | .num _ => Nat.le_refl _
  | .read _ => Nat.le_refl _
  | .two _ _ _ => Nat.le_add_left _ _
  | .pick _ _ _ => Nat.le_add_left _ _
  | .choose _ _ => Nat.le_add_left _ _
theorem iteY {p A B : Prop} [Decidable p] (h : p) (a : A) : if decide p = true then A else B := by
  rw [if_pos (decide_eq_true h)]; exact a
theorem iteN {p A B : Prop} [Decidable p] (h : ¬p) (b : B) : if decide p = true then A else B := by
  rw [if_neg (fun z => h (of_decide_eq_true z))]; exact b
theorem txs_get {ns : List (List Nat)} {i : Nat} (h : i < ns.length) : (txs ns)[i]? = some (.str (SX.S ns[i])) := by
  unfold txs
  rw [List.getElem?_map, List.getElem?_map, List.getElem?_eq_getElem h]
  all_goals rfl
theorem txs_mem {ns : List (List Nat)} {x : V} (h : x ∈ txs ns) : ∃ s, s ∈ ns ∧ x = .str (SX.S s) := by
  obtain ⟨y, hy, rfl⟩ := List.mem_map.mp h
  obtain ⟨s, hs, rfl⟩ := List.mem_map.mp hy
  exact ⟨s, hs, rfl⟩
theorem txs_len (ns : List (List Nat)) : (txs ns).length = ns.length := by unfold txs; rw [List.length_map, List.length_map]
theorem txs_app (a b : List (List Nat)) : txs (a ++ b) = txs a ++ txs b := by unfold txs; rw [List.map_append, List.map_append]
/-- the signs, one by one -/
def ones (ss : List Nat) : List (List Nat) := ss.map fun c => [c]
theorem ones_flat (ss : List Nat) : (ones ss).flatten = ss := by
  induction ss with
  | nil => rfl
  | cons a r ih => show [a] ++ (ones r).flatten = _; rw [ih]; rfl
theorem ones_sum (ss : List Nat) : (((ones ss).map SX.S).map (·.length)).sum = ss.length := by
  induction ss with
  | nil => rfl
  | cons a r ih => show 1 + (((ones r).map SX.S).map (·.length)).sum = r.length + 1; rw [ih, Nat.add_comm]
theorem ones_len (ss : List Nat) : (ones ss).length = ss.length := List.length_map _
/-- the pick out of some things by a drawn number -/
theorem one_of {α : Type} {xs : List α} {v : Int} (h0 : 0 ≤ v) (h : v < xs.length) : ∃ x, x ∈ xs ∧ atI xs v = some x := by
  have hk : v.toNat < xs.length := by omega
  exact ⟨xs[v.toNat], List.getElem_mem hk, atI_at h0 (List.getElem?_eq_getElem hk)⟩
def letters : List Nat := [97, 98, 99, 100, 101, 102, 103, 104, 105, 106, 107, 108, 109, 110, 111, 112, 113, 114, 115, 116, 117, 118, 119, 120, 121, 122]
theorem letters_is : ("abcdefghijklmnopqrstuvwxyz" : Str) = SX.S letters := by decide +kernel
theorem letters_ok : ∀ c ∈ letters, 97 ≤ c ∧ c ≤ 122 := by decide
/-! ### rows of recipes -/
def Recs (H : Hp) : List Rcp → List V → Prop
  | [], [] => True
  | r :: rs, v :: vs => Rec H r v ∧ Recs H rs vs
  | _, _ => False
theorem Recs.keep {H H' : Hp} (k : Keep H H') : ∀ {rs : List Rcp} {vs : List V}, Recs H rs vs → Recs H' rs vs
  | [], [], _ => trivial
  | _ :: _, _ :: _, h => ⟨h.1.keep k, Recs.keep k h.2⟩
  | [], _ :: _, h => h.elim
  | _ :: _, [], h => h.elim
theorem Recs.len {H : Hp} : ∀ {rs : List Rcp} {vs : List V}, Recs H rs vs → vs.length = rs.length
  | [], [], _ => rfl
  | _ :: _, _ :: _, h => congrArg (· + 1) (Recs.len h.2)
  | [], _ :: _, h => h.elim
  | _ :: _, [], h => h.elim
theorem Recs.snoc {H : Hp} {r : Rcp} {v : V} (hr : Rec H r v) : ∀ {rs : List Rcp} {vs : List V}, Recs H rs vs → Recs H (rs ++ [r]) (vs ++ [v])
  | [], [], _ => ⟨hr, trivial⟩
  | _ :: _, _ :: _, h => ⟨h.1, Recs.snoc hr h.2⟩
  | [], _ :: _, h => h.elim
  | _ :: _, [], h => h.elim
theorem Recs.at {H : Hp} : ∀ {rs : List Rcp} {vs : List V} {i : Nat} {v : V}, Recs H rs vs → vs[i]? = some v → ∃ r, rs[i]? = some r ∧ Rec H r v
  | [], [], i, v, _, e => by simp at e
  | r :: _, _ :: _, 0, v, h, e => ⟨r, rfl, by cases e; exact h.1⟩
  | _ :: _, _ :: _, i + 1, v, h, e => Recs.at (i := i) h.2 (by simpa using e)
  | [], _ :: _, _, _, h, _ => h.elim
  | _ :: _, [], _, _, h, _ => h.elim
theorem Recs.get {H : Hp} {rs : List Rcp} {vs : List V} {i : Nat} (h : Recs H rs vs) (hi : i < rs.length) : ∃ v r, vs[i]? = some v ∧ rs[i]? = some r ∧ Rec H r v := by
  have hv : i < vs.length := by rw [h.len]; exact hi
  obtain ⟨r, e, hr⟩ := h.at (List.getElem?_eq_getElem hv)
  exact ⟨_, r, List.getElem?_eq_getElem hv, e, hr⟩
/-- a comprehension over a range with a step -/
theorem lcC {lo c : Int} {n : Nat} {g : TG} {tt : TT} {te : TE} {vs : List Nat} {σ : L2.St} {H1 : Hp} {D : Addr} {Qd : Hp → Prop} (Pv : Nat → Hp → Prop)
    (h0 : Pv 0 (upd H1 D (.lst [])))
    (hs : ∀ i H, i < n → Pv i H → g (.int (lo + (i : Nat) * c)) (wipe σ vs) H
      fun σ2 H2 => wipe σ2 vs = wipe σ vs ∧ tt σ2 H2
        fun b H3 => if b = true then te σ2 H3
          fun y H4 => ∃ acc, H4 D = some (.lst acc) ∧ acc.length < sizeLine ∧ Pv (i + 1) (upd H4 D (.lst (acc ++ [y])))
        else Pv (i + 1) H3)
    (hd : ∀ H, Pv n H → Qd H) :
    ∃ W : Nat → Nat → Hp → Prop, (∃ m, W 0 m (upd H1 D (.lst []))) ∧
      ∀ i m H, W i m H → ((Itc lo c n).stop i H ∧ Qd H) ∨ ((Itc lo c n).go i H ∧
        ∃ Nx : Hp → Prop, (∀ H', Nx H' → ∃ m', m' < m ∧ W (i + 1) m' H') ∧
          ∀ x H', (Itc lo c n).yld i H x H' → g x (wipe σ vs) H'
            fun σ2 H2 => wipe σ2 vs = wipe σ vs ∧ tt σ2 H2
              fun b H3 => if b = true then te σ2 H3
                fun y H4 => ∃ acc, H4 D = some (.lst acc) ∧ acc.length < sizeLine ∧ Nx (upd H4 D (.lst (acc ++ [y])))
              else Nx H3) := by
  refine ⟨fun i m H => m = n - i ∧ i ≤ n ∧ Pv i H, ⟨n, rfl, Nat.zero_le _, h0⟩, fun i m H w => ?_⟩
  obtain ⟨em, hi, p⟩ := w
  by_cases hlt : i < n
  · refine Or.inr ⟨hlt, Pv (i + 1), fun H' p' => ⟨n - (i + 1), by omega, rfl, hlt, p'⟩, fun x H' y => ?_⟩
    obtain ⟨e1, e2⟩ := y
    rw [e1, e2]
    exact hs i H hlt p
  · have e : i = n := by omega
    rw [e] at p
    exact Or.inl ⟨by show n ≤ i; omega, hd H p⟩
theorem cut_nat (xs : List V) {a b : Nat} (h : a ≤ b) : cutV xs (some (a : Int)) (some (b : Int)) = (xs.drop a).take (b - a) := by
  show (xs.drop (HT.sIx xs.length 0 (some (a : Int)))).take (HT.sIx xs.length xs.length (some (b : Int)) - HT.sIx xs.length 0 (some (a : Int))) = _
  rw [HT.sIx_nat, HT.sIx_nat]
  by_cases ha : a ≤ xs.length
  · rw [Nat.min_eq_left ha]
    by_cases hb : b ≤ xs.length
    · rw [Nat.min_eq_left hb]
    · rw [Nat.min_eq_right (by omega), List.take_of_length_le (by rw [List.length_drop]; omega), List.take_of_length_le (by rw [List.length_drop]; omega)]
  · have e1 : min a xs.length = xs.length := by omega
    rw [e1, List.drop_eq_nil_of_le (Nat.le_refl _), List.drop_eq_nil_of_le (by omega), List.take_nil, List.take_nil]
theorem cut_to (xs : List V) (b : Nat) : cutV xs none (some (b : Int)) = xs.take b := by
  show (xs.drop (HT.sIx xs.length 0 none)).take (HT.sIx xs.length xs.length (some (b : Int)) - HT.sIx xs.length 0 none) = _
  rw [HT.sIx_none, HT.sIx_nat, List.drop_zero, Nat.sub_zero]
  by_cases hb : b ≤ xs.length
  · rw [Nat.min_eq_left hb]
  · rw [Nat.min_eq_right (by omega), List.take_of_length_le (Nat.le_refl _), List.take_of_length_le (by omega)]
/-! ### any things as data -/
inductive Th where
  | non
  | bl (b : Bool)
  | int (i : Int)
  | str (s : List Nat)
  | tup (l : List Th)
  | lst (l : List Th)
  | dct
mutual
/-- the value stands for the thing in H -/
def Data (H : Hp) : Th → V → Prop
  | .non, v => v = .non
  | .bl b, v => v = .bl b
  | .int i, v => v = .int i
  | .str s, v => v = .str (SX.S s)
  | .tup l, v => ∃ p xs, v = .ref p ∧ H p = some (.tup xs) ∧ DataL H l xs
  | .lst l, v => ∃ p xs, v = .ref p ∧ H p = some (.lst xs) ∧ DataL H l xs
  | .dct, v => ∃ p kvs, v = .ref p ∧ H p = some (.dK kvs)
def DataL (H : Hp) : List Th → List V → Prop
  | [], xs => xs = []
  | t :: l, xs => ∃ x r, xs = x :: r ∧ Data H t x ∧ DataL H l r
end
mutual
theorem Data.same {H H' : Hp} (s : Same H H') : ∀ {t : Th} {v : V}, Data H t v → Data H' t v
  | .non, _, h => h
  | .bl _, _, h => h
  | .int _, _, h => h
  | .str _, _, h => h
  | .tup _, _, ⟨p, xs, e, hp, hl⟩ => ⟨p, xs, e, s _ _ hp, DataL.same s hl⟩
  | .lst _, _, ⟨p, xs, e, hp, hl⟩ => ⟨p, xs, e, s _ _ hp, DataL.same s hl⟩
  | .dct, _, ⟨p, kvs, e, hp⟩ => ⟨p, kvs, e, s _ _ hp⟩
theorem DataL.same {H H' : Hp} (s : Same H H') : ∀ {l : List Th} {xs : List V}, DataL H l xs → DataL H' l xs
  | [], _, h => h
  | _ :: _, _, ⟨x, r, e, h1, h2⟩ => ⟨x, r, e, Data.same s h1, DataL.same s h2⟩
end
theorem DataL.len {H : Hp} : ∀ {l : List Th} {xs : List V}, DataL H l xs → xs.length = l.length
  | [], _, h => by rw [show _ = [] from h]; rfl
  | _ :: _, _, ⟨x, r, e, _, h2⟩ => by rw [e, List.length_cons, DataL.len h2]; rfl
theorem DataL.at {H : Hp} : ∀ {l : List Th} {xs : List V} {i : Nat} {v : V}, DataL H l xs → xs[i]? = some v → ∃ t, l[i]? = some t ∧ Data H t v
  | [], _, i, v, h, e => by rw [show _ = [] from h] at e; simp at e
  | t :: _, _, 0, v, ⟨x, r, e1, h1, _⟩, e => by subst e1; cases e; exact ⟨t, rfl, h1⟩
  | _ :: _, _, i + 1, v, ⟨x, r, e1, _, h2⟩, e => by subst e1; exact DataL.at (i := i) h2 (by simpa using e)
theorem DataL.get {H : Hp} {l : List Th} {xs : List V} {i : Nat} {t : Th} (h : DataL H l xs) (e : l[i]? = some t) : ∃ v, xs[i]? = some v ∧ Data H t v := by
  have hi : i < xs.length := by
    rw [h.len]
    exact (List.getElem?_eq_some_iff.mp e).1
  obtain ⟨t', e', hd⟩ := h.at (List.getElem?_eq_getElem hi)
  rw [e] at e'
  cases e'
  exact ⟨_, List.getElem?_eq_getElem hi, hd⟩
theorem DataL.drop {H : Hp} : ∀ {l : List Th} {xs : List V} (n : Nat), DataL H l xs → DataL H (l.drop n) (xs.drop n)
  | _, _, 0, h => h
  | [], _, n + 1, h => by rw [show _ = [] from h]; exact rfl
  | _ :: _, _, n + 1, ⟨x, r, e, _, h2⟩ => by subst e; exact DataL.drop n h2
theorem DataL.take {H : Hp} : ∀ {l : List Th} {xs : List V} (n : Nat), DataL H l xs → DataL H (l.take n) (xs.take n)
  | _, _, 0, _ => rfl
  | [], _, n + 1, h => by rw [show _ = [] from h]; exact rfl
  | _ :: _, _, n + 1, ⟨x, r, e, h1, h2⟩ => by subst e; exact ⟨x, _, rfl, h1, DataL.take n h2⟩
theorem DataL.snoc {H : Hp} {t : Th} {v : V} (h : Data H t v) : ∀ {l : List Th} {xs : List V}, DataL H l xs → DataL H (l ++ [t]) (xs ++ [v])
  | [], _, e => by rw [show _ = [] from e]; exact ⟨v, [], rfl, h, rfl⟩
  | _ :: _, _, ⟨x, r, e, h1, h2⟩ => by subst e; exact ⟨x, _, rfl, h1, DataL.snoc h h2⟩
mutual
/-- without dicts -/
def Th.flat : Th → Bool
  | .dct => false
  | .tup l => Th.flatL l
  | .lst l => Th.flatL l
  | _ => true
def Th.flatL : List Th → Bool
  | [] => true
  | t :: l => t.flat && Th.flatL l
end
mutual
def Th.py : Th → PyData
  | .non => .none
  | .bl b => .bool b
  | .int i => .int i
  | .str s => .str (SX.S s)
  | .tup l => .tuple (Th.pyL l)
  | .lst l => .list (Th.pyL l)
  | .dct => .none
def Th.pyL : List Th → List PyData
  | [] => []
  | t :: l => t.py :: Th.pyL l
end
mutual
theorem Data.dp {K : PySem.W.Frag} {H : Hp} : ∀ {t : Th} {v : V}, t.flat = true → Data H t v → Dp K H v t.py
  | .non, _, _, h => by rw [show _ = V.non from h]; exact .non
  | .bl _, _, _, h => by rw [show _ = V.bl _ from h]; exact .bl _
  | .int _, _, _, h => by rw [show _ = V.int _ from h]; exact .int _
  | .str _, _, _, h => by rw [show _ = V.str _ from h]; exact .str _
  | .tup l, _, f, ⟨p, xs, e, hp, hl⟩ => by rw [e]; exact .tup (SqT.of hp) (DataL.dp f hl)
  | .lst l, _, f, ⟨p, xs, e, hp, hl⟩ => by rw [e]; exact .lst (SqL.of hp) (DataL.dp f hl)
theorem DataL.dp {K : PySem.W.Frag} {H : Hp} : ∀ {l : List Th} {xs : List V}, Th.flatL l = true → DataL H l xs → DpAll K H xs (Th.pyL l)
  | [], _, _, h => by rw [show _ = [] from h]; exact .nil
  | t :: l, _, f, ⟨x, r, e, h1, h2⟩ => by
    have f' : t.flat = true ∧ Th.flatL l = true := by
      have : (t.flat && Th.flatL l) = true := f
      exact Bool.and_eq_true_iff.mp this
    rw [e]
    exact .cons (Data.dp f'.1 h1) (DataL.dp f'.2 h2)
end
/-! ### what is a name, a recipe -/
def nmOk (s : List Nat) : Bool := decide (1 ≤ s.length) && decide (s.length ≤ 8) && s.all fun c => decide (97 ≤ c) && decide (c ≤ 122)
theorem nmOk_iff {s : List Nat} : nmOk s = true ↔ Nm s := by
  unfold nmOk Nm
  simp only [Bool.and_eq_true, decide_eq_true_eq, List.all_eq_true]
  exact ⟨fun ⟨⟨a, b⟩, c⟩ => ⟨a, b, c⟩, fun ⟨a, b, c⟩ => ⟨⟨a, b⟩, c⟩⟩
def Th.isNm : Th → Bool
  | .str s => nmOk s
  | _ => false
def Th.areNms : Th → Bool
  | .tup l => decide (1 ≤ l.length) && decide (l.length ≤ 9) && l.all Th.isNm
  | _ => false
def Th.isInt : Th → Bool
  | .int _ => true
  | _ => false
def w_number : List Nat := [110, 117, 109, 98, 101, 114]
def w_read : List Nat := [114, 101, 97, 100]
def w_pick : List Nat := [112, 105, 99, 107]
def w_choose : List Nat := [99, 104, 111, 111, 115, 101]
def w_plus : List Nat := [112, 108, 117, 115]
def w_minus : List Nat := [109, 105, 110, 117, 115]
def w_times : List Nat := [116, 105, 109, 101, 115]
def w_most : List Nat := [109, 111, 115, 116]
def twos : List (List Nat) := [w_plus, w_minus, w_times, w_most]
/-- the parts of a thing that has a recipe's form -/
def formParts (k : List Nat) (l : List Th) : Option (List Th) :=
  if k = w_number then (if l.length = 1 ∧ (l.headD .non).isInt = true then some [] else none)
  else if k = w_read then (if l.length = 1 ∧ (l.headD .non).isNm = true then some [] else none)
  else if k ∈ twos then (if l.length = 2 then some l else none)
  else if k = w_pick then (if l.length = 3 then some l else none)
  else if k = w_choose then (if l.length = 2 ∧ (l.getD 1 .non).areNms = true then some (l.take 1) else none)
  else none
def Th.parts : Th → Option (List Th)
  | .tup (.str k :: l) => formParts k l
  | _ => none
/-- all well formed, n deep at most -/
def Th.okay : Nat → Th → Bool
  | 0, _ => false
  | n + 1, t => match t.parts with
    | none => false
    | some ps => ps.all (Th.okay n)
def Th.count : Nat → Th → Nat
  | 0, _ => 1
  | n + 1, t => match t.parts with
    | none => 1
    | some ps => 1 + (ps.map (Th.count n)).sum
def Th.isRcp (t : Th) : Bool := t.okay 8 && decide (t.count 8 ≤ 100)
theorem count_pos : ∀ (n : Nat) (t : Th), 1 ≤ t.count n
  | 0, _ => Nat.le_refl _
  | n + 1, t => by
    unfold Th.count
    cases t.parts with
    | none => exact Nat.le_refl _
    | some ps => exact Nat.le_add_right _ _
theorem parts_tup {t : Th} {ps : List Th} (h : t.parts = some ps) : ∃ k l, t = .tup (.str k :: l) := by
  unfold Th.parts at h
  split at h
  · exact ⟨_, _, rfl⟩
  · cases h
/-- what the walk may meet: texts of ASCII signs, not too long; names without dicts -/
def tameS (s : List Nat) : Bool := decide (s.length ≤ 1000000) && s.all fun c => decide (c < 128)
def namesTame : List Th → Bool
  | [.str k, _, .tup m] => !decide (k = w_choose) || (Th.flatL m && SeqAt.shaped (.list (Th.pyL m)))
  | _ => true
mutual
def Th.tame : Th → Bool
  | .str s => tameS s
  | .tup l => Th.tameL l && decide (l.length ≤ 1000000) && namesTame l
  | _ => true
def Th.tameL : List Th → Bool
  | [] => true
  | t :: l => t.tame && Th.tameL l
end
theorem tameL_mem : ∀ {l : List Th}, Th.tameL l = true → ∀ t ∈ l, t.tame = true
  | [], _, t, h => by cases h
  | a :: l, f, t, h => by
    have f' : (a.tame && Th.tameL l) = true := f
    rw [Bool.and_eq_true] at f'
    rcases List.mem_cons.mp h with h | h
    · rw [h]; exact f'.1
    · exact tameL_mem f'.2 t h
theorem flatL_mem : ∀ {l : List Th}, Th.flatL l = true → ∀ t ∈ l, t.flat = true
  | [], _, t, h => by cases h
  | a :: l, f, t, h => by
    have f' : (a.flat && Th.flatL l) = true := f
    rw [Bool.and_eq_true] at f'
    rcases List.mem_cons.mp h with h | h
    · rw [h]; exact f'.1
    · exact flatL_mem f'.2 t h
theorem flatL_filter (p : Th → Bool) : ∀ {l : List Th}, Th.flatL l = true → Th.flatL (l.filter p) = true
  | [], _ => rfl
  | a :: l, f => by
    have f' : (a.flat && Th.flatL l) = true := f
    rw [Bool.and_eq_true] at f'
    rw [List.filter_cons]
    split
    · show (a.flat && Th.flatL (l.filter p)) = true
      rw [f'.1, flatL_filter p f'.2]; rfl
    · exact flatL_filter p f'.2
theorem shaped_parts {ds : List PyData} : SeqAt.shaped (.list ds) = true ↔ PyData.canLayAll0 ds = true ∧ PyData.depthAll ds + 1 ≤ 64 := by
  show (PyData.canLayAll0 ds && decide (PyData.depthAll ds + 1 ≤ 64)) = true ↔ _
  rw [Bool.and_eq_true, decide_eq_true_eq]
theorem py_filter (p : Th → Bool) : ∀ (l : List Th), PyData.canLayAll0 (Th.pyL l) = true → PyData.canLayAll0 (Th.pyL (l.filter p)) = true ∧ PyData.depthAll (Th.pyL (l.filter p)) ≤ PyData.depthAll (Th.pyL l)
  | [], _ => ⟨rfl, Nat.le_refl _⟩
  | a :: l, f => by
    have f' : (a.py.canLay0 && PyData.canLayAll0 (Th.pyL l)) = true := f
    rw [Bool.and_eq_true] at f'
    have ih := py_filter p l f'.2
    rw [List.filter_cons]
    split
    · refine ⟨?_, ?_⟩
      · show (a.py.canLay0 && PyData.canLayAll0 (Th.pyL (l.filter p))) = true
        rw [f'.1, ih.1]; rfl
      · show max a.py.depth (PyData.depthAll (Th.pyL (l.filter p))) ≤ max a.py.depth (PyData.depthAll (Th.pyL l))
        omega
    · refine ⟨ih.1, ?_⟩
      show _ ≤ max a.py.depth (PyData.depthAll (Th.pyL l))
      omega
theorem shaped_filter (p : Th → Bool) {l : List Th} (h : SeqAt.shaped (.list (Th.pyL l)) = true) : SeqAt.shaped (.list (Th.pyL (l.filter p))) = true := by
  rw [shaped_parts] at h ⊢
  have := py_filter p l h.1
  exact ⟨this.1, by omega⟩
def Th.tyName : Th → String
  | .non => "NoneType" | .bl _ => "bool" | .int _ => "int" | .str _ => "str" | .tup _ => "tuple" | .lst _ => "list" | .dct => "dict"
theorem Data.ty {K : PySem.W.Frag} {H : Hp} : ∀ {t : Th} {v : V}, Data H t v → TyX K H v (.type t.tyName)
  | .non, _, h => by rw [show _ = V.non from h]; exact .base .non
  | .bl _, _, h => by rw [show _ = V.bl _ from h]; exact .base (.bl _)
  | .int _, _, h => by rw [show _ = V.int _ from h]; exact .base (.int _)
  | .str _, _, h => by rw [show _ = V.str _ from h]; exact .base (.str _)
  | .tup l, _, ⟨p, xs, e, hp, hl⟩ => by rw [e]; exact .base (.tup hp)
  | .lst l, _, ⟨p, xs, e, hp, hl⟩ => by rw [e]; exact .base (.lst hp)
  | .dct, _, ⟨p, kvs, e, hp⟩ => by rw [e]; exact .base (.dK hp)
def Th.isTup : Th → Bool
  | .tup _ => true
  | _ => false
def Th.isStr : Th → Bool
  | .str _ => true
  | _ => false
def Th.isBl : Th → Bool
  | .bl _ => true
  | _ => false
def Th.isIntB : Th → Bool
  | .bl _ => true
  | .int _ => true
  | _ => false
theorem kit_tup {K : PySem.W.Frag} : ∀ t : Th, PySem.W.kitOne K (.type t.tyName) (.type "tuple") = some t.isTup
  | .non => kit_ty (show kitB "NoneType" "tuple" = some false by decide +kernel)
  | .bl _ => kit_ty (show kitB "bool" "tuple" = some false by decide +kernel)
  | .int _ => kit_ty (show kitB "int" "tuple" = some false by decide +kernel)
  | .str _ => kit_ty (show kitB "str" "tuple" = some false by decide +kernel)
  | .tup _ => kit_ty (show kitB "tuple" "tuple" = some true by decide +kernel)
  | .lst _ => kit_ty (show kitB "list" "tuple" = some false by decide +kernel)
  | .dct => kit_ty (show kitB "dict" "tuple" = some false by decide +kernel)
theorem kit_str {K : PySem.W.Frag} : ∀ t : Th, PySem.W.kitOne K (.type t.tyName) (.type "str") = some t.isStr
  | .non => kit_ty (show kitB "NoneType" "str" = some false by decide +kernel)
  | .bl _ => kit_ty (show kitB "bool" "str" = some false by decide +kernel)
  | .int _ => kit_ty (show kitB "int" "str" = some false by decide +kernel)
  | .str _ => kit_ty (show kitB "str" "str" = some true by decide +kernel)
  | .tup _ => kit_ty (show kitB "tuple" "str" = some false by decide +kernel)
  | .lst _ => kit_ty (show kitB "list" "str" = some false by decide +kernel)
  | .dct => kit_ty (show kitB "dict" "str" = some false by decide +kernel)
theorem kit_int {K : PySem.W.Frag} : ∀ t : Th, PySem.W.kitOne K (.type t.tyName) (.type "int") = some t.isIntB
  | .non => kit_ty (show kitB "NoneType" "int" = some false by decide +kernel)
  | .bl _ => kit_ty (show kitB "bool" "int" = some true by decide +kernel)
  | .int _ => kit_ty (show kitB "int" "int" = some true by decide +kernel)
  | .str _ => kit_ty (show kitB "str" "int" = some false by decide +kernel)
  | .tup _ => kit_ty (show kitB "tuple" "int" = some false by decide +kernel)
  | .lst _ => kit_ty (show kitB "list" "int" = some false by decide +kernel)
  | .dct => kit_ty (show kitB "dict" "int" = some false by decide +kernel)
theorem kit_bl {K : PySem.W.Frag} : ∀ t : Th, PySem.W.kitOne K (.type t.tyName) (.type "bool") = some t.isBl
  | .non => kit_ty (show kitB "NoneType" "bool" = some false by decide +kernel)
  | .bl _ => kit_ty (show kitB "bool" "bool" = some true by decide +kernel)
  | .int _ => kit_ty (show kitB "int" "bool" = some false by decide +kernel)
  | .str _ => kit_ty (show kitB "str" "bool" = some false by decide +kernel)
  | .tup _ => kit_ty (show kitB "tuple" "bool" = some false by decide +kernel)
  | .lst _ => kit_ty (show kitB "list" "bool" = some false by decide +kernel)
  | .dct => kit_ty (show kitB "dict" "bool" = some false by decide +kernel)
theorem isInt_is (t : Th) : (t.isIntB && !t.isBl) = t.isInt := by cases t <;> rfl
/-- a comprehension over a text -/
theorem lcS {z : Str} {g : TG} {tt : TT} {te : TE} {vs : List Nat} {σ : L2.St} {H1 : Hp} {D : Addr} {Qd : Hp → Prop} (Pv : Nat → Hp → Prop)
    (h0 : Pv 0 (upd H1 D (.lst [])))
    (hs : ∀ i c H, z.cps[i]? = some c → Pv i H → g (.str ⟨#[c]⟩) (wipe σ vs) H
      fun σ2 H2 => wipe σ2 vs = wipe σ vs ∧ tt σ2 H2
        fun b H3 => if b = true then te σ2 H3
          fun y H4 => ∃ acc, H4 D = some (.lst acc) ∧ acc.length < sizeLine ∧ Pv (i + 1) (upd H4 D (.lst (acc ++ [y])))
        else Pv (i + 1) H3)
    (hd : ∀ H, Pv z.cps.size H → Qd H) :
    ∃ W : Nat → Nat → Hp → Prop, (∃ m, W 0 m (upd H1 D (.lst []))) ∧
      ∀ i m H, W i m H → ((Its z).stop i H ∧ Qd H) ∨ ((Its z).go i H ∧
        ∃ Nx : Hp → Prop, (∀ H', Nx H' → ∃ m', m' < m ∧ W (i + 1) m' H') ∧
          ∀ x H', (Its z).yld i H x H' → g x (wipe σ vs) H'
            fun σ2 H2 => wipe σ2 vs = wipe σ vs ∧ tt σ2 H2
              fun b H3 => if b = true then te σ2 H3
                fun y H4 => ∃ acc, H4 D = some (.lst acc) ∧ acc.length < sizeLine ∧ Nx (upd H4 D (.lst (acc ++ [y])))
              else Nx H3) := by
  refine ⟨fun i m H => m = z.cps.size - i ∧ i ≤ z.cps.size ∧ Pv i H, ⟨z.cps.size, rfl, Nat.zero_le _, h0⟩, fun i m H w => ?_⟩
  obtain ⟨em, hi, p⟩ := w
  by_cases hlt : i < z.cps.size
  · refine Or.inr ⟨hlt, Pv (i + 1), fun H' p' => ⟨z.cps.size - (i + 1), by omega, rfl, hlt, p'⟩, fun x H' y => ?_⟩
    obtain ⟨e1, c, e2, e3⟩ := y
    rw [e1, e3]
    exact hs i c H e2 p
  · have e : i = z.cps.size := by omega
    rw [e] at p
    exact Or.inl ⟨by show z.cps.size ≤ i; omega, hd H p⟩
/-- a list of data against a new empty one -/
theorem eqv_nil (l : List Th) : PyData.eqv (.list (Th.pyL l)) (.list []) = l.isEmpty := by cases l <;> rfl
theorem kw {k : List Nat} {w : List Nat} {lit : Str} (h : lit = SX.S w) : V.str (SX.S k) = V.str lit ↔ k = w := by
  rw [h]
  exact ⟨fun e => SX.S_inj (by cases e; rfl), fun e => by rw [e]⟩
theorem q_number : ("number" : Str) = SX.S w_number := by decide +kernel
theorem q_read : ("read" : Str) = SX.S w_read := by decide +kernel
theorem q_pick : ("pick" : Str) = SX.S w_pick := by decide +kernel
theorem q_choose : ("choose" : Str) = SX.S w_choose := by decide +kernel
theorem q_plus : ("plus" : Str) = SX.S w_plus := by decide +kernel
theorem q_minus : ("minus" : Str) = SX.S w_minus := by decide +kernel
theorem q_times : ("times" : Str) = SX.S w_times := by decide +kernel
theorem q_most : ("most" : Str) = SX.S w_most := by decide +kernel
theorem in_twos (k : List Nat) : inV (.str (SX.S k)) [.str "plus", .str "minus", .str "times", .str "most"] = decide (k ∈ twos) := by
  rw [q_plus, q_minus, q_times, q_most]
  have e : ∀ w : List Nat, (SX.S w == SX.S k) = decide (k = w) := fun w => by
    rw [SX.S_beq_eq]
    exact decide_eq_decide.mpr ⟨Eq.symm, Eq.symm⟩
  show ((SX.S w_plus == SX.S k) || ((SX.S w_minus == SX.S k) || ((SX.S w_times == SX.S k) || ((SX.S w_most == SX.S k) || false)))) = _
  rw [e, e, e, e]
  unfold twos
  simp only [List.mem_cons, List.not_mem_nil, or_false]
  simp [Bool.decide_or]
theorem num_parts (k : List Nat) (h : k = w_number) (t1 : Th) : (t1.isInt = true → formParts k [t1] = some []) ∧ (t1.isInt = false → formParts k [t1] = none) := by
  unfold formParts
  rw [if_pos h]
  exact ⟨fun z => if_pos ⟨rfl, z⟩, fun z => if_neg fun y => by rw [show ([t1] : List Th).headD .non = t1 from rfl, z] at y; cases y.2⟩
theorem read_parts (k : List Nat) (h1 : k ≠ w_number) (h : k = w_read) (t1 : Th) : (t1.isNm = true → formParts k [t1] = some []) ∧ (t1.isNm = false → formParts k [t1] = none) := by
  unfold formParts
  rw [if_neg h1, if_pos h]
  exact ⟨fun z => if_pos ⟨rfl, z⟩, fun z => if_neg fun y => by rw [show ([t1] : List Th).headD .non = t1 from rfl, z] at y; cases y.2⟩
theorem one_none (k : List Nat) (h1 : k ≠ w_number) (h2 : k ≠ w_read) (t1 : Th) : formParts k [t1] = none := by
  unfold formParts
  rw [if_neg h1, if_neg h2]
  simp
theorem twos_parts (k : List Nat) (h : k ∈ twos) (t1 t2 : Th) : formParts k [t1, t2] = some [t1, t2] := by
  have n1 : k ≠ w_number := fun z => by rw [z] at h; revert h; decide
  have n2 : k ≠ w_read := fun z => by rw [z] at h; revert h; decide
  unfold formParts
  rw [if_neg n1, if_neg n2, if_pos h]
  rfl
theorem choose_parts (k : List Nat) (h : k = w_choose) (t1 t2 : Th) : (t2.areNms = true → formParts k [t1, t2] = some [t1]) ∧ (t2.areNms = false → formParts k [t1, t2] = none) := by
  have n1 : k ≠ w_number := by rw [h]; decide
  have n2 : k ≠ w_read := by rw [h]; decide
  have n3 : ¬ k ∈ twos := by rw [h]; decide
  have n4 : k ≠ w_pick := by rw [h]; decide
  unfold formParts
  rw [if_neg n1, if_neg n2, if_neg n3, if_neg n4, if_pos h]
  exact ⟨fun z => if_pos ⟨rfl, z⟩, fun z => if_neg fun y => by rw [show ([t1, t2] : List Th).getD 1 .non = t2 from rfl, z] at y; cases y.2⟩
theorem two_none (k : List Nat) (h1 : ¬ k ∈ twos) (h2 : k ≠ w_choose) (t1 t2 : Th) : formParts k [t1, t2] = none := by
  unfold formParts
  rw [if_neg h1, if_neg h2]
  simp
theorem pick_parts (k : List Nat) (h : k = w_pick) (t1 t2 t3 : Th) : formParts k [t1, t2, t3] = some [t1, t2, t3] := by
  have n1 : k ≠ w_number := by rw [h]; decide
  have n2 : k ≠ w_read := by rw [h]; decide
  have n3 : ¬ k ∈ twos := by rw [h]; decide
  unfold formParts
  rw [if_neg n1, if_neg n2, if_neg n3, if_pos h]
  rfl
theorem three_none (k : List Nat) (h1 : k ≠ w_pick) (t1 t2 t3 : Th) : formParts k [t1, t2, t3] = none := by
  unfold formParts
  rw [if_neg h1]
  simp
/-! ### recipes as things -/
def Kd.word : Kd → List Nat
  | .plus => w_plus | .minus => w_minus | .times => w_times | .most => w_most
theorem kd_word (k : Kd) : k.name = SX.S k.word := by cases k <;> decide +kernel
theorem kd_twos (k : Kd) : k.word ∈ twos := by cases k <;> decide
def nmsTh (ns : List (List Nat)) : List Th := ns.map Th.str
def Rcp.tail : Rcp → List Th × List Nat
  | .num n => ([.int n], w_number)
  | .read s => ([.str s], w_read)
  | _ => ([], [])
def Rcp.th : Rcp → Th
  | .num n => .tup [.str w_number, .int n]
  | .read s => .tup [.str w_read, .str s]
  | .two k a b => .tup [.str k.word, a.th, b.th]
  | .pick a b c => .tup [.str w_pick, a.th, b.th, c.th]
  | .choose a ns => .tup [.str w_choose, a.th, .tup (nmsTh ns)]
theorem nms_data (H : Hp) : ∀ ns : List (List Nat), DataL H (nmsTh ns) (txs ns)
  | [] => rfl
  | s :: ns => ⟨_, _, rfl, rfl, nms_data H ns⟩
theorem Rec.data {H : Hp} : ∀ {r : Rcp} {v : V}, Rec H r v → Data H r.th v
  | .num n, v, ⟨p, e, h⟩ => ⟨p, _, e, h, _, _, rfl, congrArg V.str q_number, _, _, rfl, rfl, rfl⟩
  | .read s, v, ⟨p, e, h⟩ => ⟨p, _, e, h, _, _, rfl, congrArg V.str q_read, _, _, rfl, rfl, rfl⟩
  | .two k a b, v, ⟨p, x, y, e, h, ra, rb⟩ => ⟨p, _, e, h, _, _, rfl, congrArg V.str (kd_word k), _, _, rfl, ra.data, _, _, rfl, rb.data, rfl⟩
  | .pick a b c, v, ⟨p, x, y, z, e, h, ra, rb, rc⟩ => ⟨p, _, e, h, _, _, rfl, congrArg V.str q_pick, _, _, rfl, ra.data, _, _, rfl, rb.data, _, _, rfl, rc.data, rfl⟩
  | .choose a ns, v, ⟨p, x, q, e, h, ra, hq⟩ => ⟨p, _, e, h, _, _, rfl, congrArg V.str q_choose, _, _, rfl, ra.data, _, _, rfl, ⟨q, _, rfl, hq, nms_data H ns⟩, rfl⟩
theorem Nm.tame {s : List Nat} (h : Nm s) : tameS s = true := by
  unfold tameS
  rw [Bool.and_eq_true, decide_eq_true_eq, List.all_eq_true]
  refine ⟨by have := h.2.1; omega, fun c hc => decide_eq_true ?_⟩
  have := h.2.2 c hc
  omega
theorem Nms.flat : ∀ {ns : List (List Nat)}, Th.flatL (nmsTh ns) = true
  | [] => rfl
  | s :: ns => by show (true && Th.flatL (nmsTh ns)) = true; rw [Nms.flat]; rfl
theorem nms_py : ∀ {ns : List (List Nat)}, (∀ s ∈ ns, Nm s) → PyData.canLayAll0 (Th.pyL (nmsTh ns)) = true ∧ PyData.depthAll (Th.pyL (nmsTh ns)) = 0
  | [], _ => ⟨rfl, rfl⟩
  | s :: ns, h => by
    have ih := nms_py (ns := ns) fun x hx => h x (List.mem_cons_of_mem _ hx)
    refine ⟨?_, ?_⟩
    · show ((SX.S s).cps.all (· < 0x110000) && PyData.canLayAll0 (Th.pyL (nmsTh ns))) = true
      rw [ih.1, Bool.and_true]
      have hs := (h s (List.mem_cons_self ..)).2.2
      rw [← Array.all_toList, List.all_eq_true]
      intro c hc
      have := hs c hc
      exact decide_eq_true (by omega)
    · show max 0 (PyData.depthAll (Th.pyL (nmsTh ns))) = 0
      rw [ih.2]
      rfl
theorem Nms.shaped {ns : List (List Nat)} (h : ∀ s ∈ ns, Nm s) : SeqAt.shaped (.list (Th.pyL (nmsTh ns))) = true := by
  rw [shaped_parts, (nms_py h).1, (nms_py h).2]
  exact ⟨rfl, by decide⟩
theorem nms_tame : ∀ {ns : List (List Nat)}, (∀ s ∈ ns, Nm s) → Th.tameL (nmsTh ns) = true
  | [], _ => rfl
  | s :: ns, h => by
    show (tameS s && Th.tameL (nmsTh ns)) = true
    rw [(h s (List.mem_cons_self ..)).tame, nms_tame fun x hx => h x (List.mem_cons_of_mem _ hx)]
    rfl
theorem tame_tup {l : List Th} (h : Th.tameL l = true) (hl : l.length ≤ 1000000) (hn : namesTame l = true) : (Th.tup l).tame = true := by
  show (Th.tameL l && decide (l.length ≤ 1000000) && namesTame l) = true
  rw [h, hn, decide_eq_true hl]
  rfl
theorem namesTame3 {k : List Nat} (hk : k ≠ w_choose) (a b : Th) : namesTame [.str k, a, b] = true := by
  cases b with
  | tup m => show (!decide (k = w_choose) || _) = true; rw [decide_eq_false hk]; rfl
  | _ => rfl
theorem namesTame4 (a b c d : Th) (r : List Th) : namesTame (a :: b :: c :: d :: r) = true := by cases a <;> cases c <;> rfl
theorem namesTame2 (a b : Th) : namesTame [a, b] = true := by cases a <;> rfl
theorem namesTameC {k : List Nat} {m : List Th} (a : Th) (h1 : Th.flatL m = true) (h2 : SeqAt.shaped (.list (Th.pyL m)) = true) : namesTame [.str k, a, .tup m] = true := by
  show (!decide (k = w_choose) || (Th.flatL m && SeqAt.shaped (.list (Th.pyL m)))) = true
  rw [h1, h2]; simp
theorem kd_nochoose (k : Kd) : k.word ≠ w_choose := by cases k <;> decide
theorem nms_names_tame {ns : List (List Nat)} (h : Nms ns) : (Th.tup (nmsTh ns)).tame = true := by
  refine tame_tup (nms_tame h.2.2) ?_ ?_
  · unfold nmsTh; rw [List.length_map]; have := h.2.1; omega
  · match ns with
    | [] => rfl
    | [a] => rfl
    | [a, b] => rfl
    | [a, b, c] => rfl
    | a :: b :: c :: d :: r => rfl
theorem Rcp.tame : ∀ {r : Rcp}, r.Good → r.th.tame = true
  | .num n, _ => tame_tup (by show (tameS w_number && (true && true)) = true; decide) (Nat.le_of_ble_eq_true rfl) rfl
  | .read s, h => tame_tup (by show (tameS w_read && (tameS s && true)) = true; rw [Nm.tame h]; decide) (Nat.le_of_ble_eq_true rfl) rfl
  | .two k a b, h => by
    refine tame_tup ?_ (Nat.le_of_ble_eq_true rfl) (namesTame3 (kd_nochoose k) _ _)
    show (tameS k.word && (a.th.tame && (b.th.tame && true))) = true
    rw [Rcp.tame h.1, Rcp.tame h.2]
    cases k <;> decide
  | .pick a b c, h => by
    refine tame_tup ?_ (Nat.le_of_ble_eq_true rfl) (namesTame4 _ _ _ _ _)
    show (tameS w_pick && (a.th.tame && (b.th.tame && (c.th.tame && true)))) = true
    rw [Rcp.tame h.1, Rcp.tame h.2.1, Rcp.tame h.2.2]
    decide
  | .choose a ns, h => by
    refine tame_tup ?_ (Nat.le_of_ble_eq_true rfl) (namesTameC _ Nms.flat (Nms.shaped h.2.2.2))
    show (tameS w_choose && (a.th.tame && ((Th.tup (nmsTh ns)).tame && true))) = true
    rw [Rcp.tame h.1, nms_names_tame h.2]
    decide
theorem nms_are {ns : List (List Nat)} (h : Nms ns) : (Th.tup (nmsTh ns)).areNms = true := by
  show (decide (1 ≤ (nmsTh ns).length) && decide ((nmsTh ns).length ≤ 9) && (nmsTh ns).all Th.isNm) = true
  have hl : (nmsTh ns).length = ns.length := List.length_map _
  rw [hl, decide_eq_true h.1, decide_eq_true h.2.1]
  show (nmsTh ns).all Th.isNm = true
  rw [List.all_eq_true]
  intro t ht
  obtain ⟨s, hs, rfl⟩ := List.mem_map.mp ht
  exact nmOk_iff.mpr (h.2.2 s hs)
def Rcp.subs : Rcp → List Rcp
  | .num _ => []
  | .read _ => []
  | .two _ a b => [a, b]
  | .pick a b c => [a, b, c]
  | .choose a _ => [a]
theorem Rcp.parts_th : ∀ {r : Rcp}, r.Good → r.th.parts = some (r.subs.map Rcp.th)
  | .num n, _ => (num_parts _ rfl _).1 rfl
  | .read s, h => (read_parts _ (by decide) rfl _).1 (nmOk_iff.mpr h)
  | .two k a b, _ => twos_parts _ (kd_twos k) _ _
  | .pick a b c, _ => pick_parts _ rfl _ _ _
  | .choose a ns, h => (choose_parts _ rfl _ _).1 (nms_are h.2)
theorem Rcp.subs_good : ∀ {r : Rcp}, r.Good → ∀ x ∈ r.subs, x.Good ∧ x.dep + 1 ≤ r.dep
  | .num n, _, x, hx => by cases hx
  | .read s, h, x, hx => by cases hx
  | .two k a b, h, x, hx => by
    have e : (Rcp.two k a b).dep = max a.dep b.dep + 1 := rfl
    simp only [Rcp.subs, List.mem_cons, List.not_mem_nil, or_false] at hx
    rcases hx with rfl | rfl
    · exact ⟨h.1, by omega⟩
    · exact ⟨h.2, by omega⟩
  | .pick a b c, h, x, hx => by
    have e : (Rcp.pick a b c).dep = max a.dep (max b.dep c.dep) + 1 := rfl
    simp only [Rcp.subs, List.mem_cons, List.not_mem_nil, or_false] at hx
    rcases hx with rfl | rfl | rfl
    · exact ⟨h.1, by omega⟩
    · exact ⟨h.2.1, by omega⟩
    · exact ⟨h.2.2, by omega⟩
  | .choose a ns, h, x, hx => by
    have e : (Rcp.choose a ns).dep = a.dep + 1 := rfl
    rw [List.mem_singleton.mp hx]
    exact ⟨h.1, by omega⟩
theorem Rcp.siz_subs : ∀ r : Rcp, r.siz = 1 + (r.subs.map Rcp.siz).sum
  | .num _ => rfl
  | .read _ => rfl
  | .two _ a b => by show a.siz + b.siz + 1 = 1 + (a.siz + (b.siz + 0)); omega
  | .pick a b c => by show a.siz + b.siz + c.siz + 1 = 1 + (a.siz + (b.siz + (c.siz + 0))); omega
  | .choose a _ => by show a.siz + 1 = 1 + (a.siz + 0); omega
theorem Rcp.okay : ∀ (n : Nat) {r : Rcp}, r.Good → r.dep ≤ n → r.th.okay n = true ∧ r.th.count n = r.siz
  | 0, r, _, h => by have := dep_pos r; omega
  | n + 1, r, hg, h => by
    have hp := r.parts_th hg
    have hs := r.subs_good hg
    refine ⟨?_, ?_⟩
    · show (match r.th.parts with | none => false | some ps => ps.all (Th.okay n)) = true
      rw [hp]
      show (r.subs.map Rcp.th).all (Th.okay n) = true
      rw [List.all_map, List.all_eq_true]
      intro x hx
      exact (Rcp.okay n (hs x hx).1 (by have := (hs x hx).2; omega)).1
    · show (match r.th.parts with | none => 1 | some ps => 1 + (ps.map (Th.count n)).sum) = r.siz
      rw [hp, Rcp.siz_subs r]
      show 1 + ((r.subs.map Rcp.th).map (Th.count n)).sum = _
      rw [List.map_map]
      congr 2
      exact List.map_congr_left fun x hx => (Rcp.okay n (hs x hx).1 (by have := (hs x hx).2; omega)).2
theorem Rcp.isRcp {r : Rcp} (hg : r.Good) (hd : r.dep ≤ 8) (hs : r.siz ≤ 100) : r.th.isRcp = true := by
  unfold Th.isRcp
  rw [(Rcp.okay 8 hg hd).1, (Rcp.okay 8 hg hd).2, decide_eq_true hs]
  rfl
/-! ### texts of recipes -/
def Kd.sign : Kd → Nat
  | .plus => 43 | .minus => 45 | .times => 42 | .most => 94
def Kd.signS : Kd → Str
  | .plus => " + " | .minus => " - " | .times => " * " | .most => " ^ "
def intL (n : Int) : List Nat := (Str.ofString (toString n)).cps.toList
theorem intL_S (n : Int) : Str.ofString (toString n) = SX.S (intL n) := (SX.S_tl _).symm
def Rcp.txt : Rcp → List Nat
  | .num n => intL n
  | .read s => s
  | .two k a b => 40 :: (a.txt ++ (32 :: k.sign :: 32 :: (b.txt ++ [41])))
  | .pick a b c => 91 :: (a.txt ++ (32 :: 63 :: 32 :: (b.txt ++ (32 :: 58 :: 32 :: (c.txt ++ [93])))))
  | .choose a ns => a.txt ++ (123 :: (TL.joinL [44] ns ++ [125]))
theorem intL_len {n : Int} (h : n.natAbs < 10 ^ 40) : (intL n).length ≤ 41 := by
  have z : ∀ m : Int, 0 ≤ m → m.natAbs < 10 ^ 40 → (Str.ofString (toString m)).length ≤ 40 := fun m m0 hm => by
    refine PyProof.Rows.toString_length_le m0 (by decide) ?_
    have e : (m.natAbs : Int) = m := Int.natAbs_of_nonneg m0
    rw [← e]
    exact Int.ofNat_lt.mpr hm
  have e : (intL n).length = (Str.ofString (toString n)).length := by
    rw [intL_S n, SX.S_len]
  rw [e]
  by_cases h0 : 0 ≤ n
  · exact Nat.le_succ_of_le (z n h0 h)
  · rw [PyProof.Rows.len_text_neg (by omega)]
    have := z (0 - n) (by omega) (by rw [show (0 - n).natAbs = n.natAbs by omega]; exact h)
    omega
theorem joinL_len : ∀ {ns : List (List Nat)} (m : Nat), (∀ s ∈ ns, s.length ≤ m) → (TL.joinL [44] ns).length ≤ (m + 1) * ns.length
  | [], _, _ => Nat.zero_le _
  | [p], m, h => by
    have := h p (by simp)
    show p.length ≤ _
    simp; omega
  | p :: q :: r, m, h => by
    have h1 := h p (by simp)
    have h2 := joinL_len (ns := q :: r) m fun s hs => h s (List.mem_cons_of_mem _ hs)
    have e : (TL.joinL [44] (p :: q :: r)).length = p.length + (1 + (TL.joinL [44] (q :: r)).length) := by
      show (p ++ ([44] ++ TL.joinL [44] (q :: r))).length = _
      rw [List.length_append, List.length_append]
      rfl
    have e2 : (m + 1) * (p :: q :: r).length = (m + 1) * (q :: r).length + (m + 1) := Nat.mul_succ _ _
    rw [e, e2]
    omega
theorem names_len {ns : List (List Nat)} (h : Nms ns) : (TL.joinL [44] ns).length ≤ 81 := by
  have := joinL_len 8 fun s hs => (h.2.2 s hs).2.1
  have := h.2.1
  omega
theorem names_sum : ∀ {ns : List (List Nat)}, (∀ s ∈ ns, Nm s) → ((ns.map SX.S).map (·.length)).sum ≤ 8 * ns.length
  | [], _ => Nat.zero_le _
  | p :: r, h => by
    have h1 := (h p (by simp)).2.1
    have h2 := names_sum (ns := r) fun s hs => h s (List.mem_cons_of_mem _ hs)
    rw [List.map_cons, List.map_cons, List.sum_cons, SX.S_len, List.length_cons]
    omega
theorem txt_len : ∀ {r : Rcp}, r.Good → r.txt.length ≤ 100 * r.siz
  | .num n, h => by
    have := intL_len h
    show (intL n).length ≤ 100
    omega
  | .read s, h => by
    have := h.2.1
    show s.length ≤ 100
    omega
  | .two k a b, h => by
    have h1 := txt_len h.1
    have h2 := txt_len h.2
    simp only [Rcp.txt, Rcp.siz, List.length_cons, List.length_append, List.length_nil]
    omega
  | .pick a b c, h => by
    have h1 := txt_len h.1
    have h2 := txt_len h.2.1
    have h3 := txt_len h.2.2
    simp only [Rcp.txt, Rcp.siz, List.length_cons, List.length_append, List.length_nil]
    omega
  | .choose a ns, h => by
    have h1 := txt_len h.1
    have h2 := names_len h.2
    simp only [Rcp.txt, Rcp.siz, List.length_cons, List.length_append, List.length_nil]
    omega
theorem q_open : ("(" : Str) = SX.S [40] := by decide +kernel
theorem q_close : (")" : Str) = SX.S [41] := by decide +kernel
theorem q_lb : ("[" : Str) = SX.S [91] := by decide +kernel
theorem q_rb : ("]" : Str) = SX.S [93] := by decide +kernel
theorem q_lc : ("{" : Str) = SX.S [123] := by decide +kernel
theorem q_rc : ("}" : Str) = SX.S [125] := by decide +kernel
theorem q_ask : (" ? " : Str) = SX.S [32, 63, 32] := by decide +kernel
theorem q_col : (" : " : Str) = SX.S [32, 58, 32] := by decide +kernel
theorem q_blank : (" " : Str) = SX.S [32] := by decide +kernel
theorem q_comma : ("," : Str) = SX.S [44] := by decide +kernel
theorem q_sign (k : Kd) : k.signS = SX.S [32, k.sign, 32] := by cases k <;> decide +kernel
theorem kn_num (k : Kd) : ¬ V.str k.name = V.str "number" := by cases k <;> decide +kernel
theorem kn_read (k : Kd) : ¬ V.str k.name = V.str "read" := by cases k <;> decide +kernel
theorem kn_pick (k : Kd) : ¬ V.str k.name = V.str "pick" := by cases k <;> decide +kernel
theorem kn_choose (k : Kd) : ¬ V.str k.name = V.str "choose" := by cases k <;> decide +kernel
theorem log_small {n : Int} (h : n.natAbs < 10 ^ 40) : n.natAbs.log2 < 1920 := by
  by_cases z : n.natAbs = 0
  · rw [z]; decide
  · exact (Nat.log2_lt z).mpr (Nat.lt_trans h (by decide +kernel))
theorem Rcp.flat : ∀ r : Rcp, r.th.flat = true
  | .num _ => rfl
  | .read _ => rfl
  | .two _ a b => by
    show (true && (a.th.flat && (b.th.flat && true))) = true
    rw [Rcp.flat a, Rcp.flat b]; rfl
  | .pick a b c => by
    show (true && (a.th.flat && (b.th.flat && (c.th.flat && true)))) = true
    rw [Rcp.flat a, Rcp.flat b, Rcp.flat c]; rfl
  | .choose a ns => by
    show (true && (a.th.flat && (Th.flatL (nmsTh ns) && true))) = true
    rw [Rcp.flat a, Nms.flat]; rfl
theorem nm_lay {s : List Nat} (h : Nm s) : (PyData.str (SX.S s)).canLay0 = true := by
  have := (nms_py (ns := [s]) fun x hx => by rw [List.mem_singleton.mp hx]; exact h).1
  have z : ((PyData.str (SX.S s)).canLay0 && true) = true := this
  rw [Bool.and_true] at z
  exact z
theorem str_lay {s : List Nat} (h : ∀ c ∈ s, c < 128) : (PyData.str (SX.S s)).canLay0 = true := by
  show (SX.S s).cps.all (· < 0x110000) = true
  rw [← Array.all_toList, List.all_eq_true]
  intro c hc
  have := h c hc
  exact decide_eq_true (by omega)
theorem Rcp.lays : ∀ {r : Rcp}, r.Good → r.th.py.canLay0 = true ∧ r.th.py.depth ≤ r.dep
  | .num n, _ => ⟨by show ((PyData.str (SX.S w_number)).canLay0 && ((PyData.int n).canLay0 && true)) = true; rw [str_lay (by decide)]; rfl, by show max 0 (max 0 0) + 1 ≤ 1; decide⟩
  | .read s, h => ⟨by show ((PyData.str (SX.S w_read)).canLay0 && ((PyData.str (SX.S s)).canLay0 && true)) = true; rw [nm_lay h, str_lay (s := w_read) (by decide)]; rfl, by show max 0 (max 0 0) + 1 ≤ 1; decide⟩
  | .two k a b, h => by
    have h1 := Rcp.lays h.1
    have h2 := Rcp.lays h.2
    refine ⟨?_, ?_⟩
    · show ((PyData.str (SX.S k.word)).canLay0 && (a.th.py.canLay0 && (b.th.py.canLay0 && true))) = true
      rw [h1.1, h2.1, str_lay (s := k.word) (by cases k <;> decide)]
      rfl
    · show max 0 (max a.th.py.depth (max b.th.py.depth 0)) + 1 ≤ max a.dep b.dep + 1
      omega
  | .pick a b c, h => by
    have h1 := Rcp.lays h.1
    have h2 := Rcp.lays h.2.1
    have h3 := Rcp.lays h.2.2
    refine ⟨?_, ?_⟩
    · show ((PyData.str (SX.S w_pick)).canLay0 && (a.th.py.canLay0 && (b.th.py.canLay0 && (c.th.py.canLay0 && true)))) = true
      rw [h1.1, h2.1, h3.1, str_lay (s := w_pick) (by decide)]
      rfl
    · show max 0 (max a.th.py.depth (max b.th.py.depth (max c.th.py.depth 0))) + 1 ≤ max a.dep (max b.dep c.dep) + 1
      omega
  | .choose a ns, h => by
    have h1 := Rcp.lays h.1
    have h2 := nms_py h.2.2.2
    have h3 := dep_pos a
    refine ⟨?_, ?_⟩
    · show ((PyData.str (SX.S w_choose)).canLay0 && (a.th.py.canLay0 && (PyData.canLayAll0 (Th.pyL (nmsTh ns)) && true))) = true
      rw [h1.1, h2.1, str_lay (s := w_choose) (by decide)]
      rfl
    · show max 0 (max a.th.py.depth (max (PyData.depthAll (Th.pyL (nmsTh ns)) + 1) 0)) + 1 ≤ a.dep + 1
      rw [h2.2]
      omega
theorem Rcp.shaped {r : Rcp} (hg : r.Good) (hd : r.dep ≤ 60) : SeqAt.shaped r.th.py = true := by
  have h := Rcp.lays hg
  show (r.th.py.canLay0 && decide (r.th.py.depth ≤ 64)) = true
  rw [h.1, decide_eq_true (by omega)]
  rfl
theorem Rcp.eqv {r : Rcp} (hg : r.Good) : PyData.eqv r.th.py r.th.py = true := SeqAt.eqv_refl _ (Rcp.lays hg).1
/-! ### rows of pairs -/
/-- rows of a name and a number each -/
def Prs (H : Hp) : List (List Nat × Int) → List V → Prop
  | [], [] => True
  | p :: ps, v :: vs => (∃ t, v = .ref t ∧ H t = some (.tup [.str (SX.S p.1), .int p.2])) ∧ Prs H ps vs
  | _, _ => False
theorem Prs.same {H H' : Hp} (k : Same H H') : ∀ {ps : List (List Nat × Int)} {vs : List V}, Prs H ps vs → Prs H' ps vs
  | [], [], _ => trivial
  | _ :: _, _ :: _, ⟨⟨t, e, ht⟩, h⟩ => ⟨⟨t, e, k _ _ ht⟩, Prs.same k h⟩
  | [], _ :: _, h => h.elim
  | _ :: _, [], h => h.elim
theorem Prs.keep {H H' : Hp} (k : Keep H H') : ∀ {ps : List (List Nat × Int)} {vs : List V}, Prs H ps vs → Prs H' ps vs
  | [], [], _ => trivial
  | _ :: _, _ :: _, ⟨⟨t, e, ht⟩, h⟩ => ⟨⟨t, e, k _ _ ht⟩, Prs.keep k h⟩
  | [], _ :: _, h => h.elim
  | _ :: _, [], h => h.elim
theorem Prs.len {H : Hp} : ∀ {ps : List (List Nat × Int)} {vs : List V}, Prs H ps vs → vs.length = ps.length
  | [], [], _ => rfl
  | _ :: _, _ :: _, h => congrArg (· + 1) (Prs.len h.2)
  | [], _ :: _, h => h.elim
  | _ :: _, [], h => h.elim
theorem Prs.at {H : Hp} : ∀ {ps : List (List Nat × Int)} {vs : List V} {i : Nat} {v : V}, Prs H ps vs → vs[i]? = some v → ∃ p t, ps[i]? = some p ∧ v = .ref t ∧ H t = some (.tup [.str (SX.S p.1), .int p.2])
  | [], [], i, v, _, e => by simp at e
  | p :: _, _ :: _, 0, v, h, e => by
    obtain ⟨⟨t, e1, ht⟩, _⟩ := h
    exact ⟨p, t, rfl, (Option.some.inj e).symm.trans e1, ht⟩
  | _ :: _, _ :: _, i + 1, v, h, e => Prs.at (i := i) h.2 (by simpa using e)
  | [], _ :: _, _, _, h, _ => h.elim
  | _ :: _, [], _, _, h, _ => h.elim
theorem Prs.snoc {H : Hp} {p : List Nat × Int} {t : Addr} (ht : H t = some (.tup [.str (SX.S p.1), .int p.2])) : ∀ {ps : List (List Nat × Int)} {vs : List V}, Prs H ps vs → Prs H (ps ++ [p]) (vs ++ [.ref t])
  | [], [], _ => ⟨⟨t, rfl, ht⟩, trivial⟩
  | _ :: _, _ :: _, h => ⟨h.1, Prs.snoc ht h.2⟩
  | [], _ :: _, h => h.elim
  | _ :: _, [], h => h.elim
theorem Prs.drop {H : Hp} : ∀ (n : Nat) {ps : List (List Nat × Int)} {vs : List V}, Prs H ps vs → Prs H (ps.drop n) (vs.drop n)
  | 0, _, _, h => h
  | _ + 1, [], [], h => h
  | n + 1, _ :: _, _ :: _, h => Prs.drop n h.2
  | _ + 1, [], _ :: _, h => h.elim
  | _ + 1, _ :: _, [], h => h.elim
theorem Prs.take {H : Hp} : ∀ (n : Nat) {ps : List (List Nat × Int)} {vs : List V}, Prs H ps vs → Prs H (ps.take n) (vs.take n)
  | 0, _, _, _ => trivial
  | _ + 1, [], [], h => h
  | n + 1, _ :: _, _ :: _, h => ⟨h.1, Prs.take n h.2⟩
  | _ + 1, [], _ :: _, h => h.elim
  | _ + 1, _ :: _, [], h => h.elim
/-! ### error classes: what a class answers when asked for another -/
theorem kit_self {K : PySem.W.Frag} {t : Value} : PySem.W.kitOne K t t = some true := by
  unfold PySem.W.kitOne
  rw [if_pos (beq_self_eq_true t)]
theorem kit_built {K : PySem.W.Frag} {C : Addr} {n : String} (hm : PySem.W.kitMeta n = true) (hs : PySem.W.subIn K (.ref C) (.type n) = some true) : PySem.W.kitOne K (.ref C) (.type n) = some true := by
  unfold PySem.W.kitOne
  split
  · rfl
  · show (if PySem.W.kitMeta n = true then PySem.W.subIn K (.ref C) (.type n) else none) = some true
    rw [if_pos hm]
    exact hs
theorem kit_own {K : PySem.W.Frag} {C D : Addr} {b : Bool} (hne : (C == D) = false) (hd : PySem.W.hasDictIn K D = true) (ht : PySem.W.typeIn K (.ref D) = some (.type "type")) (hs : PySem.W.subIn K (.ref C) (.ref D) = some b) : PySem.W.kitOne K (.ref C) (.ref D) = some b := by
  obtain ⟨cd, hc, _⟩ := PySem.W.any_some hd
  have e2 : ((PySem.W.clsIn K D).isSome && PySem.W.typeIn K (.ref D) == some (.type "type")) = true := by rw [hc, ht] <;> rfl
  have hz : ¬ ((Value.ref C == Value.ref D) = true) := fun q => by
    have e : C = D := Value.ref.inj (beq_iff_eq.mp q)
    rw [e, beq_self_eq_true] at hne
    cases hne
  unfold PySem.W.kitOne
  rw [if_neg hz]
  show (if ((PySem.W.clsIn K D).isSome && PySem.W.typeIn K (.ref D) == some (.type "type")) = true then PySem.W.subIn K (.ref C) (.ref D) else none) = some b
  rw [if_pos e2]
  exact hs
theorem kit_cons {K : PySem.W.Frag} {t c : Value} {r : List Value} {b : Bool} (h : PySem.W.kitOne K t c = some false) (g : PySem.W.kitAny K t r = some b) : PySem.W.kitAny K t (c :: r) = some b := by
  show (match PySem.W.kitOne K t c with | some true => some true | some false => PySem.W.kitAny K t r | none => none) = some b
  rw [h]
  exact g
/-! ### a recipe gone through with the numbers read: plain facts -/
abbrev Pr := List Nat × Int
inductive Res where
  | ok (v : Int) (n : Nat)
  | lack (s : List Nat)
  | bad
inductive Out where
  | read (s : List Nat)
  | worth (v : Int)
  | none
def Kd.ap : Kd → Int → Int → Int
  | .plus, a, b => a + b
  | .minus, a, b => a - b
  | .times, a, b => a * b
  | .most, a, b => if b > a then b else a
def seen (l : List Pr) (s : List Nat) : Option Int := (l.find? fun p => decide (p.1 = s)).map (·.2)
def lookG (rd : List Pr) (n : Nat) (s : List Nat) : Res :=
  match seen (rd.take n) s with
  | some v => .ok v n
  | none => match rd[n]? with
    | none => .lack s
    | some p => if p.1 = s then .ok p.2 (n + 1) else .bad
def Res.bind (r : Res) (f : Int → Nat → Res) : Res := match r with
  | .ok v n => f v n
  | .lack s => .lack s
  | .bad => .bad
def nthN (ns : List (List Nat)) (x : Int) : List Nat := ns.getD (x % (ns.length : Int)).toNat []
def go (rd : List Pr) : Rcp → Nat → Res
  | .num v, n => .ok v n
  | .read s, n => lookG rd n s
  | .two k a b, n => (go rd a n).bind fun x m => (go rd b m).bind fun y l => .ok (k.ap x y) l
  | .pick a b c, n => (go rd a n).bind fun x m => if x > 0 then go rd b m else go rd c m
  | .choose a ns, n => (go rd a n).bind fun x m => lookG rd m (nthN ns x)
def outOf (rd : List Pr) (r : Rcp) : Out := match go rd r 0 with
  | .ok v n => if n < rd.length then .none else .worth v
  | .lack s => .read s
  | .bad => .none
/-- names fine, numbers below 2 ^ 400 -/
def Rcp.Nb : Rcp → Prop
  | .num v => v.natAbs < 2 ^ 400
  | .read s => Nm s
  | .two _ a b => a.Nb ∧ b.Nb
  | .pick a b c => a.Nb ∧ b.Nb ∧ c.Nb
  | .choose a ns => a.Nb ∧ Nms ns
theorem nth_mem {ns : List (List Nat)} (h : 1 ≤ ns.length) (x : Int) : ∃ i : Nat, x % (ns.length : Int) = (i : Int) ∧ ns[i]? = some (nthN ns x) := by
  have h0 : 0 ≤ x % (ns.length : Int) := Int.emod_nonneg _ (by omega)
  have h1 : x % (ns.length : Int) < ns.length := Int.emod_lt_of_pos _ (by omega)
  refine ⟨(x % (ns.length : Int)).toNat, by omega, ?_⟩
  have hi : (x % (ns.length : Int)).toNat < ns.length := by omega
  unfold nthN
  rw [List.getD_eq_getElem?_getD, List.getElem?_eq_getElem hi]
  rfl
theorem seen_mem {l : List Pr} {s : List Nat} {v : Int} (h : seen l s = some v) : (s, v) ∈ l := by
  unfold seen at h
  cases e : l.find? fun p => decide (p.1 = s) with
  | none => rw [e] at h; cases h
  | some p =>
    rw [e] at h
    have h1 := List.mem_of_find?_eq_some e
    have h2 : p.1 = s := by
      have := List.find?_some e
      exact of_decide_eq_true this
    have h3 : p.2 = v := Option.some.inj h
    rw [← h2, ← h3]
    exact h1
theorem seen_none {l : List Pr} {s : List Nat} (h : seen l s = none) : ¬ s ∈ l.map (·.1) := fun z => by
  obtain ⟨p, hp, e⟩ := List.mem_map.mp z
  unfold seen at h
  rw [Option.map_eq_none_iff, List.find?_eq_none] at h
  exact h p hp (decide_eq_true e)
theorem seen_not {l : List Pr} {s : List Nat} (h : ¬ s ∈ l.map (·.1)) : seen l s = none := by
  unfold seen
  rw [Option.map_eq_none_iff, List.find?_eq_none]
  exact fun p hp e => h (List.mem_map.mpr ⟨p, hp, of_decide_eq_true e⟩)
theorem seen_cons (p : Pr) (l : List Pr) (s : List Nat) : seen (p :: l) s = if p.1 = s then some p.2 else seen l s := by
  unfold seen
  rw [List.find?_cons]
  by_cases c : p.1 = s
  · rw [if_pos c, decide_eq_true c]
    rfl
  · rw [if_neg c, decide_eq_false c]
theorem lookG_seen {rd : List Pr} {n : Nat} {s : List Nat} {v : Int} (e : seen (rd.take n) s = some v) : lookG rd n s = .ok v n := by unfold lookG; rw [e]
theorem lookG_last {rd : List Pr} {n : Nat} {s : List Nat} (e : seen (rd.take n) s = none) (e2 : rd[n]? = none) : lookG rd n s = .lack s := by unfold lookG; rw [e, e2]
theorem lookG_right {rd : List Pr} {n : Nat} {s : List Nat} {p : Pr} (e : seen (rd.take n) s = none) (e2 : rd[n]? = some p) (c : p.1 = s) : lookG rd n s = .ok p.2 (n + 1) := by unfold lookG; rw [e, e2]; exact if_pos c
theorem lookG_bad {rd : List Pr} {n : Nat} {s : List Nat} {p : Pr} (e : seen (rd.take n) s = none) (e2 : rd[n]? = some p) (c : ¬ p.1 = s) : lookG rd n s = .bad := by unfold lookG; rw [e, e2]; exact if_neg c
/-! #### the walk goes ahead, and no number grows too great -/
theorem lookG_ok {rd : List Pr} {n m : Nat} {s : List Nat} {v : Int} (hn : n ≤ rd.length) (h : lookG rd n s = .ok v m) : n ≤ m ∧ m ≤ rd.length ∧ (s, v) ∈ rd := by
  unfold lookG at h
  cases e : seen (rd.take n) s with
  | some w =>
    rw [e] at h
    cases h
    exact ⟨Nat.le_refl _, hn, List.mem_of_mem_take (seen_mem e)⟩
  | none =>
    rw [e] at h
    cases e2 : rd[n]? with
    | none => rw [e2] at h; cases h
    | some p =>
      rw [e2] at h
      by_cases c : p.1 = s
      · have h' : Res.ok p.2 (n + 1) = .ok v m := by have := h; simp only [if_pos c] at this; exact this
        cases h'
        have := (List.getElem?_eq_some_iff.mp e2).1
        exact ⟨Nat.le_succ _, this, by rw [← c]; exact List.mem_of_getElem? e2⟩
      · simp only [if_neg c] at h
        cases h
theorem bind_ok {r : Res} {f : Int → Nat → Res} {v : Int} {m : Nat} (h : r.bind f = .ok v m) : ∃ x l, r = .ok x l ∧ f x l = .ok v m := by
  cases r with
  | ok x l => exact ⟨x, l, rfl, h⟩
  | lack s => cases h
  | bad => cases h
theorem ap_small {k : Kd} {x y : Int} {e : Nat} (h1 : 1 ≤ e) (hx : x.natAbs < 2 ^ e) (hy : y.natAbs < 2 ^ e) : (k.ap x y).natAbs < 2 ^ (e + e) := by
  have hs : 2 ^ e + 2 ^ e ≤ 2 ^ (e + e) := by
    have h2 : 2 ^ e * 2 ≤ 2 ^ e * 2 ^ e := Nat.mul_le_mul_left _ (by
      have := Nat.pow_le_pow_right (show 0 < 2 by decide) h1
      simpa using this)
    rw [Nat.pow_add]
    omega
  cases k with
  | plus => show (x + y).natAbs < _; omega
  | minus => show (x - y).natAbs < _; omega
  | times =>
    show (x * y).natAbs < _
    rw [Int.natAbs_mul, Nat.pow_add]
    exact Nat.mul_lt_mul'' hx hy
  | most =>
    show (if y > x then y else x).natAbs < _
    split <;> omega
theorem go_ok {rd : List Pr} (hrd : ∀ p ∈ rd, p.2.natAbs < 2 ^ 400) : ∀ {r : Rcp} {n m : Nat} {v : Int}, r.Nb → n ≤ rd.length → go rd r n = .ok v m → n ≤ m ∧ m ≤ rd.length ∧ v.natAbs < 2 ^ (400 * 2 ^ r.dep)
  | .num w, n, m, v, hb, hn, h => by
    cases h
    exact ⟨Nat.le_refl _, hn, Nat.lt_of_lt_of_le hb (Nat.pow_le_pow_right (by decide) (by show 400 ≤ 400 * 2 ^ 1; decide))⟩
  | .read s, n, m, v, hb, hn, h => by
    obtain ⟨h1, h2, h3⟩ := lookG_ok hn h
    exact ⟨h1, h2, Nat.lt_of_lt_of_le (hrd _ h3) (Nat.pow_le_pow_right (by decide) (by show 400 ≤ 400 * 2 ^ 1; decide))⟩
  | .two k a b, n, m, v, hb, hn, h => by
    obtain ⟨x, l, ha, h2⟩ := bind_ok h
    obtain ⟨y, l2, hbb, h3⟩ := bind_ok h2
    cases h3
    obtain ⟨a1, a2, a3⟩ := go_ok hrd hb.1 hn ha
    obtain ⟨b1, b2, b3⟩ := go_ok hrd hb.2 a2 hbb
    have hx : x.natAbs < 2 ^ (400 * 2 ^ max a.dep b.dep) := Nat.lt_of_lt_of_le a3 (Nat.pow_le_pow_right (by decide) (Nat.mul_le_mul_left _ (Nat.pow_le_pow_right (by decide) (Nat.le_max_left ..))))
    have hy : y.natAbs < 2 ^ (400 * 2 ^ max a.dep b.dep) := Nat.lt_of_lt_of_le b3 (Nat.pow_le_pow_right (by decide) (Nat.mul_le_mul_left _ (Nat.pow_le_pow_right (by decide) (Nat.le_max_right ..))))
    have hp : 1 ≤ 2 ^ max a.dep b.dep := Nat.one_le_two_pow
    have := ap_small (k := k) (by omega) hx hy
    refine ⟨Nat.le_trans a1 b1, b2, ?_⟩
    show _ < 2 ^ (400 * 2 ^ (max a.dep b.dep + 1))
    rw [show 400 * 2 ^ (max a.dep b.dep + 1) = 400 * 2 ^ max a.dep b.dep + 400 * 2 ^ max a.dep b.dep by rw [Nat.pow_succ]; omega]
    exact this
  | .pick a b c, n, m, v, hb, hn, h => by
    obtain ⟨x, l, ha, h2⟩ := bind_ok h
    obtain ⟨a1, a2, a3⟩ := go_ok hrd hb.1 hn ha
    have mono : ∀ d, d ≤ (Rcp.pick a b c).dep → ∀ z : Int, z.natAbs < 2 ^ (400 * 2 ^ d) → z.natAbs < 2 ^ (400 * 2 ^ (Rcp.pick a b c).dep) := fun d hd z hz => Nat.lt_of_lt_of_le hz (Nat.pow_le_pow_right (by decide) (Nat.mul_le_mul_left _ (Nat.pow_le_pow_right (by decide) hd)))
    have e : (Rcp.pick a b c).dep = max a.dep (max b.dep c.dep) + 1 := rfl
    by_cases hx : x > 0
    · simp only [if_pos hx] at h2
      obtain ⟨b1, b2, b3⟩ := go_ok hrd hb.2.1 a2 h2
      exact ⟨Nat.le_trans a1 b1, b2, mono b.dep (by omega) _ b3⟩
    · simp only [if_neg hx] at h2
      obtain ⟨b1, b2, b3⟩ := go_ok hrd hb.2.2 a2 h2
      exact ⟨Nat.le_trans a1 b1, b2, mono c.dep (by omega) _ b3⟩
  | .choose a ns, n, m, v, hb, hn, h => by
    obtain ⟨x, l, ha, h2⟩ := bind_ok h
    obtain ⟨a1, a2, a3⟩ := go_ok hrd hb.1 hn ha
    obtain ⟨h4, h5, h6⟩ := lookG_ok a2 h2
    have hp : 1 ≤ 2 ^ (Rcp.choose a ns).dep := Nat.one_le_two_pow
    exact ⟨Nat.le_trans a1 h4, h5, Nat.lt_of_lt_of_le (hrd _ h6) (Nat.pow_le_pow_right (by decide) (by omega))⟩
/-! #### one more read behind the reads that were all looked for -/
theorem lookG_lack {rd : List Pr} {n : Nat} {s t : List Nat} (hn : n ≤ rd.length) (h : lookG rd n s = .lack t) : n = rd.length ∧ s = t ∧ seen rd s = none := by
  unfold lookG at h
  cases e : seen (rd.take n) s with
  | some w => rw [e] at h; cases h
  | none =>
    rw [e] at h
    cases e2 : rd[n]? with
    | none =>
      rw [e2] at h
      cases h
      have hl := List.getElem?_eq_none_iff.mp e2
      have : n = rd.length := by omega
      rw [this, List.take_length] at e
      exact ⟨this, rfl, e⟩
    | some p =>
      rw [e2] at h
      by_cases c : p.1 = s
      · simp only [if_pos c] at h; cases h
      · simp only [if_neg c] at h; cases h
theorem lookG_more {rd : List Pr} {n m : Nat} {s : List Nat} {v : Int} (q : Pr) (hn : n ≤ rd.length) (h : lookG rd n s = .ok v m) : lookG (rd ++ [q]) n s = .ok v m := by
  unfold lookG at h ⊢
  rw [List.take_append_of_le_length hn]
  cases e : seen (rd.take n) s with
  | some w => rw [e] at h; exact h
  | none =>
    rw [e] at h
    cases e2 : rd[n]? with
    | none => rw [e2] at h; cases h
    | some p =>
      rw [e2] at h
      have hl := (List.getElem?_eq_some_iff.mp e2).1
      rw [List.getElem?_append_left hl, e2]
      exact h
/-- with all reads gone, nothing is bad -/
theorem lookG_end {rd : List Pr} {s : List Nat} : (∃ v, lookG rd rd.length s = .ok v rd.length) ∨ lookG rd rd.length s = .lack s := by
  unfold lookG
  rw [List.take_length]
  cases e : seen rd s with
  | some w => exact .inl ⟨w, rfl⟩
  | none =>
    rw [List.getElem?_eq_none (Nat.le_refl _)]
    exact .inr rfl
theorem go_end {rd : List Pr} : ∀ {r : Rcp}, (∃ v, go rd r rd.length = .ok v rd.length) ∨ ∃ s, go rd r rd.length = .lack s
  | .num v => .inl ⟨v, rfl⟩
  | .read s => lookG_end.elim .inl fun h => .inr ⟨s, h⟩
  | .two k a b => by
    rcases go_end (rd := rd) (r := a) with ⟨x, hx⟩ | ⟨s, hs⟩
    · rcases go_end (rd := rd) (r := b) with ⟨y, hy⟩ | ⟨s, hs⟩
      · exact .inl ⟨k.ap x y, by unfold go; rw [hx]; show (go rd b rd.length).bind _ = _; rw [hy]; rfl⟩
      · exact .inr ⟨s, by unfold go; rw [hx]; show (go rd b rd.length).bind _ = _; rw [hs]; rfl⟩
    · exact .inr ⟨s, by unfold go; rw [hs]; rfl⟩
  | .pick a b c => by
    rcases go_end (rd := rd) (r := a) with ⟨x, hx⟩ | ⟨s, hs⟩
    · by_cases c0 : x > 0
      · rcases go_end (rd := rd) (r := b) with ⟨y, hy⟩ | ⟨s, hs⟩
        · exact .inl ⟨y, by unfold go; rw [hx]; show (if x > 0 then _ else _) = _; rw [if_pos c0, hy]⟩
        · exact .inr ⟨s, by unfold go; rw [hx]; show (if x > 0 then _ else _) = _; rw [if_pos c0, hs]⟩
      · rcases go_end (rd := rd) (r := c) with ⟨y, hy⟩ | ⟨s, hs⟩
        · exact .inl ⟨y, by unfold go; rw [hx]; show (if x > 0 then _ else _) = _; rw [if_neg c0, hy]⟩
        · exact .inr ⟨s, by unfold go; rw [hx]; show (if x > 0 then _ else _) = _; rw [if_neg c0, hs]⟩
    · exact .inr ⟨s, by unfold go; rw [hs]; rfl⟩
  | .choose a ns => by
    rcases go_end (rd := rd) (r := a) with ⟨x, hx⟩ | ⟨s, hs⟩
    · rcases lookG_end (rd := rd) (s := nthN ns x) with ⟨v, hv⟩ | hl
      · exact .inl ⟨v, by unfold go; rw [hx]; exact hv⟩
      · exact .inr ⟨_, by unfold go; rw [hx]; exact hl⟩
    · exact .inr ⟨s, by unfold go; rw [hs]; rfl⟩
theorem go_more {rd : List Pr} (q : Pr) : ∀ {r : Rcp} {n m : Nat} {v : Int}, n ≤ rd.length → go rd r n = .ok v m → go (rd ++ [q]) r n = .ok v m ∧ m ≤ rd.length
  | .num w, n, m, v, hn, h => by cases h; exact ⟨rfl, hn⟩
  | .read s, n, m, v, hn, h => ⟨lookG_more q hn h, (lookG_ok hn h).2.1⟩
  | .two k a b, n, m, v, hn, h => by
    obtain ⟨x, l, ha, h2⟩ := bind_ok h
    obtain ⟨y, l2, hb, h3⟩ := bind_ok h2
    cases h3
    obtain ⟨a1, a2⟩ := go_more q hn ha
    obtain ⟨b1, b2⟩ := go_more q a2 hb
    refine ⟨?_, b2⟩
    unfold go
    rw [a1]
    show (go (rd ++ [q]) b l).bind _ = _
    rw [b1]
    rfl
  | .pick a b c, n, m, v, hn, h => by
    obtain ⟨x, l, ha, h2⟩ := bind_ok h
    obtain ⟨a1, a2⟩ := go_more q hn ha
    unfold go
    rw [a1]
    show (if x > 0 then _ else _) = _ ∧ _
    by_cases c0 : x > 0
    · simp only [if_pos c0] at h2
      rw [if_pos c0]
      exact go_more q a2 h2
    · simp only [if_neg c0] at h2
      rw [if_neg c0]
      exact go_more q a2 h2
  | .choose a ns, n, m, v, hn, h => by
    obtain ⟨x, l, ha, h2⟩ := bind_ok h
    obtain ⟨a1, a2⟩ := go_more q hn ha
    unfold go
    rw [a1]
    exact ⟨lookG_more q a2 h2, (lookG_ok a2 h2).2.1⟩
theorem bind_lack {r : Res} {f : Int → Nat → Res} {s : List Nat} (h : r.bind f = .lack s) : r = .lack s ∨ ∃ x l, r = .ok x l ∧ f x l = .lack s := by
  cases r with
  | ok x l => exact .inr ⟨x, l, rfl, h⟩
  | lack s' => exact .inl h
  | bad => cases h
/-- where s lacked: with s read it comes to the end of the reads, or lacks another one -/
def Fine (rd : List Pr) (r : Res) : Prop := (∃ v, r = .ok v rd.length) ∨ ∃ s, r = .lack s
theorem look_next {rd : List Pr} {n : Nat} {s t : List Nat} (w : Int) (hn : n ≤ rd.length) (h : lookG rd n t = .lack s) : lookG (rd ++ [(s, w)]) n t = .ok w (rd ++ [(s, w)]).length := by
  obtain ⟨rfl, rfl, e⟩ := lookG_lack hn h
  unfold lookG
  rw [List.take_append_of_le_length (Nat.le_refl _), List.take_length, e, List.getElem?_append_right (Nat.le_refl _), Nat.sub_self]
  show (if t = t then Res.ok w (rd.length + 1) else .bad) = _
  rw [if_pos rfl, List.length_append]
  rfl
theorem go_next {rd : List Pr} {s : List Nat} (w : Int) : ∀ {r : Rcp} {n : Nat}, n ≤ rd.length → go rd r n = .lack s → Fine (rd ++ [(s, w)]) (go (rd ++ [(s, w)]) r n)
  | .num v, n, hn, h => by cases h
  | .read t, n, hn, h => .inl ⟨w, look_next w hn h⟩
  | .two k a b, n, hn, h => by
    rcases bind_lack h with ha | ⟨x, l, ha, h2⟩
    · rcases go_next w hn ha with ⟨v, hv⟩ | ⟨t, ht⟩
      · unfold go
        rw [hv]
        show Fine _ ((go (rd ++ [(s, w)]) b (rd ++ [(s, w)]).length).bind _)
        rcases go_end (rd := rd ++ [(s, w)]) (r := b) with ⟨y, hy⟩ | ⟨t, ht⟩
        · rw [hy]; exact .inl ⟨_, rfl⟩
        · rw [ht]; exact .inr ⟨_, rfl⟩
      · unfold go
        rw [ht]
        exact .inr ⟨_, rfl⟩
    · obtain ⟨a1, a2⟩ := go_more (s, w) hn ha
      unfold go
      rw [a1]
      show Fine _ ((go (rd ++ [(s, w)]) b l).bind _)
      rcases bind_lack h2 with hb | ⟨y, l2, hb, h3⟩
      · rcases go_next w a2 hb with ⟨v, hv⟩ | ⟨t, ht⟩
        · rw [hv]; exact .inl ⟨_, rfl⟩
        · rw [ht]; exact .inr ⟨_, rfl⟩
      · cases h3
  | .pick a b c, n, hn, h => by
    rcases bind_lack h with ha | ⟨x, l, ha, h2⟩
    · rcases go_next w hn ha with ⟨v, hv⟩ | ⟨t, ht⟩
      · unfold go
        rw [hv]
        show Fine _ (if v > 0 then go _ b _ else go _ c _)
        split
        · exact go_end
        · exact go_end
      · unfold go
        rw [ht]
        exact .inr ⟨_, rfl⟩
    · obtain ⟨a1, a2⟩ := go_more (s, w) hn ha
      unfold go
      rw [a1]
      show Fine _ (if x > 0 then go _ b _ else go _ c _)
      by_cases c0 : x > 0
      · simp only [if_pos c0] at h2
        rw [if_pos c0]
        exact go_next w a2 h2
      · simp only [if_neg c0] at h2
        rw [if_neg c0]
        exact go_next w a2 h2
  | .choose a ns, n, hn, h => by
    rcases bind_lack h with ha | ⟨x, l, ha, h2⟩
    · rcases go_next w hn ha with ⟨v, hv⟩ | ⟨t, ht⟩
      · unfold go
        rw [hv]
        exact lookG_end.elim .inl fun h => .inr ⟨_, h⟩
      · unfold go
        rw [ht]
        exact .inr ⟨_, rfl⟩
    · obtain ⟨a1, a2⟩ := go_more (s, w) hn ha
      unfold go
      rw [a1]
      exact .inl ⟨w, look_next w a2 h2⟩
/-- the names that a recipe may look for -/
def Rcp.nms : Rcp → List (List Nat)
  | .num _ => []
  | .read s => [s]
  | .two _ a b => a.nms ++ b.nms
  | .pick a b c => a.nms ++ (b.nms ++ c.nms)
  | .choose a ns => a.nms ++ ns
theorem go_name {rd : List Pr} {s : List Nat} : ∀ {r : Rcp} {n : Nat}, r.Nb → n ≤ rd.length → go rd r n = .lack s → s ∈ r.nms ∧ seen rd s = none
  | .num v, n, hb, hn, h => by cases h
  | .read t, n, hb, hn, h => by
    obtain ⟨_, e, e2⟩ := lookG_lack hn h
    exact ⟨by rw [← e]; exact List.mem_singleton.mpr rfl, by rw [← e]; exact e2⟩
  | .two k a b, n, hb, hn, h => by
    rcases bind_lack h with ha | ⟨x, l, ha, h2⟩
    · obtain ⟨h1, h2⟩ := go_name hb.1 hn ha
      exact ⟨List.mem_append_left _ h1, h2⟩
    · rcases bind_lack h2 with hbb | ⟨y, l2, hbb, h3⟩
      · obtain ⟨h1, h2⟩ := go_name hb.2 (go_more (s, 0) hn ha).2 hbb
        exact ⟨List.mem_append_right _ h1, h2⟩
      · cases h3
  | .pick a b c, n, hb, hn, h => by
    rcases bind_lack h with ha | ⟨x, l, ha, h2⟩
    · obtain ⟨h1, h2⟩ := go_name hb.1 hn ha
      exact ⟨List.mem_append_left _ h1, h2⟩
    · have hl := (go_more (s, 0) hn ha).2
      by_cases c0 : x > 0
      · simp only [if_pos c0] at h2
        obtain ⟨h1, h2⟩ := go_name hb.2.1 hl h2
        exact ⟨List.mem_append_right _ (List.mem_append_left _ h1), h2⟩
      · simp only [if_neg c0] at h2
        obtain ⟨h1, h2⟩ := go_name hb.2.2 hl h2
        exact ⟨List.mem_append_right _ (List.mem_append_right _ h1), h2⟩
  | .choose a ns, n, hb, hn, h => by
    rcases bind_lack h with ha | ⟨x, l, ha, h2⟩
    · obtain ⟨h1, h2⟩ := go_name hb.1 hn ha
      exact ⟨List.mem_append_left _ h1, h2⟩
    · obtain ⟨_, e, e2⟩ := lookG_lack (go_more (s, 0) hn ha).2 h2
      obtain ⟨i, _, hi⟩ := nth_mem hb.2.1 x
      exact ⟨List.mem_append_right _ (by rw [← e]; exact List.mem_of_getElem? hi), by rw [← e]; exact e2⟩
theorem nms_ok : ∀ {r : Rcp}, r.Nb → ∀ s ∈ r.nms, Nm s
  | .num _, _, s, h => nomatch h
  | .read t, hb, s, h => by rw [List.mem_singleton.mp h]; exact hb
  | .two _ a b, hb, s, h => (List.mem_append.mp h).elim (nms_ok hb.1 s) (nms_ok hb.2 s)
  | .pick a b c, hb, s, h => (List.mem_append.mp h).elim (nms_ok hb.1 s) fun h => (List.mem_append.mp h).elim (nms_ok hb.2.1 s) (nms_ok hb.2.2 s)
  | .choose a ns, hb, s, h => (List.mem_append.mp h).elim (nms_ok hb.1 s) (hb.2.2.2 s)
/-! ### rows of pairs as data -/
def pairTh (p : List Nat × Int) : Th := .tup [.str p.1, .int p.2]
theorem Prs.data {H : Hp} : ∀ {ps : List (List Nat × Int)} {vs : List V}, Prs H ps vs → DataL H (ps.map pairTh) vs
  | [], [], _ => rfl
  | _ :: _, _ :: _, ⟨⟨t, e, ht⟩, h⟩ => ⟨_, _, rfl, ⟨t, _, e, ht, _, _, rfl, rfl, _, _, rfl, rfl, rfl⟩, Prs.data h⟩
  | [], _ :: _, h => h.elim
  | _ :: _, [], h => h.elim
theorem prs_flat : ∀ ps : List (List Nat × Int), Th.flatL (ps.map pairTh) = true
  | [] => rfl
  | p :: ps => by
    show ((pairTh p).flat && Th.flatL (ps.map pairTh)) = true
    rw [prs_flat ps]
    rfl
theorem prs_lay : ∀ {ps : List (List Nat × Int)}, (∀ p ∈ ps, Nm p.1) → PyData.canLayAll0 (Th.pyL (ps.map pairTh)) = true ∧ PyData.depthAll (Th.pyL (ps.map pairTh)) ≤ 1
  | [], _ => ⟨rfl, Nat.zero_le _⟩
  | p :: ps, h => by
    obtain ⟨h1, h2⟩ := prs_lay fun q hq => h q (List.mem_cons_of_mem _ hq)
    have h3 := nm_lay (h p (List.mem_cons_self ..))
    refine ⟨?_, ?_⟩
    · show (((PyData.str (SX.S p.1)).canLay0 && ((PyData.int p.2).canLay0 && true)) && PyData.canLayAll0 (Th.pyL (ps.map pairTh))) = true
      rw [h1, h3]
      rfl
    · show max (max 0 (max 0 0) + 1) (PyData.depthAll (Th.pyL (ps.map pairTh))) ≤ 1
      omega
theorem prs_shaped {ps : List (List Nat × Int)} (h : ∀ p ∈ ps, Nm p.1) : SeqAt.shaped (.list (Th.pyL (ps.map pairTh))) = true := by
  obtain ⟨h1, h2⟩ := prs_lay h
  show (PyData.canLayAll0 (Th.pyL (ps.map pairTh)) && decide (PyData.depthAll (Th.pyL (ps.map pairTh)) + 1 ≤ 64)) = true
  rw [h1, decide_eq_true (by omega)]
  rfl
/-- names and numbers as a dict holds them -/
def kT (s : Str) : Key := Sum.inr s
def numsK (ps : List (List Nat × Int)) : List (Key × V) := ps.map fun p => (kT (SX.S p.1), .int p.2)
theorem kS_inj {a b : List Nat} (h : kT (SX.S a) = kT (SX.S b)) : a = b := by
  have e2 : SX.S a = SX.S b := Sum.inr.inj h
  exact beq_iff_eq.mp (by rw [← SX.S_beq]; exact beq_iff_eq.mpr e2)
theorem sne {a b : Str} (h : decide (a = b) = false) : ¬ V.str a = V.str b := fun z => (of_decide_eq_false h) (V.str.inj z)
theorem strS_inj {a b : List Nat} (h : V.str (SX.S a) = V.str (SX.S b)) : a = b := beq_iff_eq.mp (by rw [← SX.S_beq]; exact beq_iff_eq.mpr (V.str.inj h))
/-! ### the law's own going -/
theorem val_seen (s : List Nat) : ∀ l : List Pr, valV (numsK l) (kT (SX.S s)) = (seen l s).map V.int
  | [] => rfl
  | p :: l => by
    rw [seen_cons]
    by_cases c : p.1 = s
    · rw [show numsK (p :: l) = (kT (SX.S p.1), V.int p.2) :: numsK l from rfl, valV_pos (by rw [c]), if_pos c]
      rfl
    · rw [show numsK (p :: l) = (kT (SX.S p.1), V.int p.2) :: numsK l from rfl, valV_neg (fun z => c (kS_inj z)), val_seen s l, if_neg c]
theorem nums_put {l : List Pr} {s : List Nat} {v : Int} (h : seen l s = none) : putK (numsK l) (kT (SX.S s)) (.int v) = numsK (l ++ [(s, v)]) := by
  rw [putK_new _ (by rw [val_seen, h]; rfl)]
  unfold numsK
  rw [List.map_append]
  rfl
theorem numsK_len (l : List Pr) : (numsK l).length = l.length := by unfold numsK; rw [List.length_map]
def stK (L D : Addr) (due : V) (wr : Bool) : List (Key × V) := [(kT "left", .ref L), (kT "had", .ref D), (kT "due", due), (kT "wrong", .bl wr)]
theorem kT_ne {a b : Str} (h : decide (a = b) = false) : ¬ kT a = kT b := fun z => (of_decide_eq_false h) (Sum.inr.inj z)
theorem st_left (L D : Addr) (due : V) (wr : Bool) : valV (stK L D due wr) (kT "left") = some (.ref L) := valV_pos rfl
theorem st_had (L D : Addr) (due : V) (wr : Bool) : valV (stK L D due wr) (kT "had") = some (.ref D) := (valV_neg (kT_ne (by decide +kernel))).trans (valV_pos rfl)
theorem st_due (L D : Addr) (due : V) (wr : Bool) : valV (stK L D due wr) (kT "due") = some due := (valV_neg (kT_ne (by decide +kernel))).trans ((valV_neg (kT_ne (by decide +kernel))).trans (valV_pos rfl))
theorem st_wrong (L D : Addr) (due : V) (wr : Bool) : valV (stK L D due wr) (kT "wrong") = some (.bl wr) := (valV_neg (kT_ne (by decide +kernel))).trans ((valV_neg (kT_ne (by decide +kernel))).trans ((valV_neg (kT_ne (by decide +kernel))).trans (valV_pos rfl)))
theorem st_put_due (L D : Addr) (due x : V) (wr : Bool) : putK (stK L D due wr) (kT "due") x = stK L D x wr := by
  unfold putK
  rw [if_pos (by rw [valV_any, st_due]; rfl)]
  show [_, _, _, _] = [_, _, _, _]
  simp only [if_neg (kT_ne (a := "left") (b := "due") (by decide +kernel)), if_neg (kT_ne (a := "had") (b := "due") (by decide +kernel)), if_neg (kT_ne (a := "wrong") (b := "due") (by decide +kernel)), if_true]
theorem st_put_wrong (L D : Addr) (due : V) (wr b : Bool) : putK (stK L D due wr) (kT "wrong") (.bl b) = stK L D due b := by
  unfold putK
  rw [if_pos (by rw [valV_any, st_wrong]; rfl)]
  show [_, _, _, _] = [_, _, _, _]
  simp only [if_neg (kT_ne (a := "left") (b := "wrong") (by decide +kernel)), if_neg (kT_ne (a := "had") (b := "wrong") (by decide +kernel)), if_neg (kT_ne (a := "due") (b := "wrong") (by decide +kernel)), if_true]
def StL (H : Hp) (st L D : Addr) (rd : List Pr) (n : Nat) : Prop := H st = some (.dK (stK L D .non false)) ∧ ∃ xs, H L = some (.lst xs) ∧ Prs H (rd.drop n) xs ∧ H D = some (.dK (numsK (rd.take n)))
def Fr3 (a b c : Addr) (H H' : Hp) : Prop := ∀ x u, x ≠ a → x ≠ b → x ≠ c → H x = some u → H' x = some u
theorem Fr3.refl (a b c : Addr) (H : Hp) : Fr3 a b c H H := fun _ _ _ _ _ e => e
theorem Fr3.trans {a b c : Addr} {A B C : Hp} (h : Fr3 a b c A B) (k : Fr3 a b c B C) : Fr3 a b c A C := fun x u n m o e => k x u n m o (h x u n m o e)
theorem Fr3.of {a b c : Addr} {A B : Hp} (h : Same A B) : Fr3 a b c A B := fun x u _ _ _ e => h x u e
/-- what is told: by the outcome -/
def TellL (Q : VK) (rd : List Pr) (st L D : Addr) (H : Hp) (res : Res) : Prop :=
  (∀ v m H', res = .ok v m → Fr3 st L D H H' → StL H' st L D rd m → Q (.int v) H') ∧
  (∀ t a H', res = .lack t → Fr3 st L D H H' → H' st = some (.dK (stK L D (.ref a) false)) → H' a = some (.tup [.str "read", .str (SX.S t)]) → Q .non H') ∧
  (∀ due H', res = .bad → Fr3 st L D H H' → H' st = some (.dK (stK L D due true)) → Q .non H')
theorem StL.keep {H H' : Hp} {st L D : Addr} {rd : List Pr} {n : Nat} (k : StL H st L D rd n) (f : Fr3 st L D H H') : Keep H H' := by
  obtain ⟨h1, xs, h2, _, h3⟩ := k
  exact fun b ys e => f b _ (fun z => by rw [z, h1] at e; cases e) (fun z => by rw [z, h2] at e; cases e) (fun z => by rw [z, h3] at e; cases e) e
def spLLook : Sp := fun vs H Q _ => ∃ (st L D : Addr) (s : List Nat) (rd : List Pr) (n : Nat), vs = [.str (SX.S s), .ref st] ∧ StL H st L D rd n ∧ n ≤ rd.length ∧ rd.length ≤ 100 ∧ (∀ p ∈ rd, Nm p.1) ∧ TellL Q rd st L D H (lookG rd n s)
section
variable {P : Program} {w : World} {K : PySem.W.Frag} {mg : Str → Option Value} {base : Heap}
abbrev s__law_look : Stmt := topS 19
abbrev N__law_look : List Str := ["name", "state", "read", "number"]
theorem sc__law_look : FnScope N__law_look ["name", "state"] (defScope s__law_look) := ⟨rfl, rfl, rfl, by decide +kernel, rfl, by decide +kernel, by decide +kernel⟩

theorem ok__law_look (T : Txt K mg) (D : IsDef K mg "_law_look" s__law_look ["name", "state"]) : Cal P w K mg base CX0 1 "_law_look" ["name", "state"] spLLook := by
  refine D.cal sc__law_look (fun vs H Q E h => ?_) (fun f cdv A outer s H vs Q E hr h => ?_)
  · obtain ⟨st, L, D, s, rd, n, rfl, _⟩ := h
    rfl
  obtain ⟨st, L, D, s0, rd, n, rfl, ⟨hst, xs, hL, hP, hD⟩, hn, h100, hnm, q1, q2, q3⟩ := h
  have hu : (cxOf CX0 P w K mg base N__law_look "_law_look" (defScope s__law_look) f cdv A outer s H E).nox.A.units + 1 < cLine := Nat.lt_of_le_of_lt (Nat.add_le_add_left (by decide : 1 ≤ 64) _) hr.units
  refine ⟨_, (pss_cons (ps_if (pt_cmp (pc_din hu (pv 0) (pe_dget hu (pv 1) pe_str (fun _ _ => rfl))))
        (pss_one (ps_ret (pe_dget hu (pe_dget hu (pv 1) pe_str (fun _ _ => rfl)) (pv 0) (fun _ _ => rfl))))
        pss_nil)
      (pss_cons (ps_if (pt_cmpR (op_eqD hr.units) (pe_dget hu (pv 1) pe_str (fun _ _ => rfl)) (pe_lst pa_nil) (nomark _))
        (pss_cons (ps_dput hu (pv 1) pe_str (pe_tup (pa_cons pe_str (pa_cons (pv 0) pa_nil))) rfl)
      (pss_one (ps_ret pe_non)))
        pss_nil)
      (pss_cons (ps_asg (pe_bm PySem.F.plainAttrs_list PySem.F.slot_list_pop PySem.F.type_list_pop mt_popAt (pe_dget hu (pv 1) pe_str (fun _ _ => rfl)) (pa_cons pe_int pa_nil)) (pg_tup rfl (pgs_cons (pg_name (i := 2) sc__law_look.nd rfl (Or.inl rfl)) (pgs_cons (pg_name (i := 3) sc__law_look.nd rfl (Or.inl rfl)) pgs_nil))))
      (pss_cons (ps_if (pt_cmpR op_ne (pv 2) (pv 0) (nomark _))
        (pss_cons (ps_dput hu (pv 1) pe_str pe_non rfl)
      (pss_cons (ps_dput hu (pv 1) pe_str pe_bl rfl)
      (pss_one (ps_ret pe_non))))
        pss_nil)
      (pss_cons (ps_dput hu (pe_dget hu (pv 1) pe_str (fun _ _ => rfl)) (pv 0) (pv 3) rfl)
      (pss_one (ps_ret (pv 3)))))))), ?_⟩
  have dHad : ∀ {H : Hp} {due : V} {wr : Bool}, H st = some (.dK (stK L D due wr)) → DGet H st (.str "had") (some (.ref D)) := fun h => st_had _ _ _ _ ▸ DGet.k (k := kT "had") h
  have dLeft : ∀ {H : Hp} {due : V} {wr : Bool}, H st = some (.dK (stK L D due wr)) → DGet H st (.str "left") (some (.ref L)) := fun h => st_left _ _ _ _ ▸ DGet.k (k := kT "left") h
  have nSL : st ≠ L := fun z => by rw [z, hL] at hst; cases hst
  have nDL : D ≠ L := fun z => by rw [z, hL] at hD; cases hD
  refine ⟨_, rfl, _, rfl, st, _, rfl, dHad hst, D, _, rfl, DGet.k (k := kT (SX.S s0)) hD, _, rfl, ?_⟩
  rw [val_seen]
  cases e : seen (rd.take n) s0 with
  | some v =>
    have dV : DGet H D (.str (SX.S s0)) (some (.int v)) := (show valV (numsK (rd.take n)) (kT (SX.S s0)) = some (.int v) by rw [val_seen, e]; rfl) ▸ DGet.k (k := kT (SX.S s0)) hD
    refine iteT ?_
    exact ⟨_, rfl, st, _, rfl, dHad hst, _, rfl, D, _, rfl, dV, q1 v n H (lookG_seen e) (Fr3.refl st L D H) ⟨hst, xs, hL, hP, hD⟩⟩
  | none =>
    refine iteF ?_
    have dL : ∀ {H : Hp}, H L = some (.lst xs) → Prs H (rd.drop n) xs → Dp K H (.ref L) (.list (Th.pyL ((rd.drop n).map pairTh))) := fun {H} h1 h2 => Data.dp (t := .lst ((rd.drop n).map pairTh)) (prs_flat _) (show Data H (.lst ((rd.drop n).map pairTh)) (.ref L) from ⟨L, _, rfl, h1, h2.data⟩)
    refine ⟨_, rfl, st, _, rfl, dLeft hst, le_line (Nat.le_of_ble_eq_true rfl), fun E1 nE => ?_⟩
    have sE := same_new nE (.lst [])
    refine ⟨_, _, dL (sE _ _ hL) (hP.same sE), .lst (SqL.of upd_same) .nil, prs_shaped fun p hp => hnm p (List.mem_of_mem_drop hp), rfl, _, rfl, ?_⟩
    have eqv0 : PyData.eqv (.list (Th.pyL ((rd.drop n).map pairTh))) (.list []) = decide (rd[n]? = none) := by
      by_cases c : n < rd.length
      · rw [List.drop_eq_getElem_cons c, List.getElem?_eq_getElem c]
        rfl
      · rw [List.drop_eq_nil_of_le (by omega), List.getElem?_eq_none (by omega)]
        rfl
    rw [eqv0]
    refine ite2 (fun c => ?_) (fun c => ?_)
    · have e2 : rd[n]? = none := of_decide_eq_true c
      refine ⟨_, rfl, le_line (Nat.le_of_ble_eq_true rfl), fun t nt => ?_⟩
      have s2 := same_new nt (.tup [.str "read", .str (SX.S s0)])
      have hst2 := s2 _ _ (sE _ _ hst)
      refine ⟨_, rfl, st, _, rfl, DPut.k (k := kT "due") hst2 (lt_line (by show 4 < 16777216; decide)), ?_⟩
      rw [st_put_due]
      have nts : st ≠ t := ne_of_none (sE _ _ hst) nt
      exact q2 s0 t _ (lookG_last e e2) (fun x u n1 n2 n3 e => by rw [upd_ne n1]; exact s2 _ _ (sE _ _ e)) upd_same (by rw [upd_ne nts.symm]; exact upd_same)
    · have hlt : n < rd.length := by
        refine Nat.lt_of_not_le fun z => c (decide_eq_true (List.getElem?_eq_none z))
      have e2 : rd[n]? = some rd[n] := List.getElem?_eq_getElem hlt
      obtain ⟨p, hp⟩ : ∃ p, p = rd[n] := ⟨_, rfl⟩
      rw [← hp] at e2
      have edrop : rd.drop n = p :: rd.drop (n + 1) := by rw [hp]; exact List.drop_eq_getElem_cons hlt
      rw [edrop] at hP
      obtain ⟨y, ys, rfl⟩ : ∃ y ys, xs = y :: ys := by
        cases xs with
        | nil => exact hP.elim
        | cons y ys => exact ⟨y, ys, rfl⟩
      obtain ⟨⟨t, rfl, ht⟩, hP2⟩ := hP
      have hst1 := sE _ _ hst
      have hL1 := sE _ _ hL
      have nLt : t ≠ L := fun z => by rw [z, hL] at ht; cases ht
      have hsq : seqIndex? 0 (V.ref t :: ys).length = some 0 := (ixN_seq (ixN_at (by decide) (by show (0 : Int) < ((ys.length + 1 : Nat) : Int); omega))).1
      refine ⟨_, rfl, st, _, rfl, dLeft hst1, .inl ⟨rfl, _, SqL.of hL1⟩, L, _, 0, 0, _, rfl, rfl, hL1, by decide, by decide, hsq, rfl, ?_⟩
      show ∃ _, _
      obtain ⟨H1, hH1⟩ : ∃ H1, H1 = upd (upd H E1 (.lst [])) L (.lst ((V.ref t :: ys).eraseIdx 0)) := ⟨_, rfl⟩
      have fL : Fr3 st L D H H1 := fun x u _ n2 _ e => by rw [hH1, upd_ne n2]; exact sE _ _ e
      have hL2 : H1 L = some (.lst ys) := by rw [hH1]; exact upd_same
      have hst2 : H1 st = some (.dK (stK L D .non false)) := by rw [hH1, upd_ne nSL]; exact hst1
      have hD2 : H1 D = some (.dK (numsK (rd.take n))) := by rw [hH1, upd_ne nDL]; exact sE _ _ hD
      have ht2 : H1 t = some (.tup [.str (SX.S p.1), .int p.2]) := by rw [hH1, upd_ne nLt]; exact sE _ _ ht
      have hP3 : Prs H1 (rd.drop (n + 1)) ys := hP2.keep (fun b zs e => by
        have nb : b ≠ L := fun z => by rw [z, hL] at e; cases e
        rw [hH1, upd_ne nb]
        exact sE _ _ e)
      rw [← hH1]
      refine ⟨t, _, rfl, SqT.of ht2, rfl, _, _, rfl, _, _, rfl, rfl, ?_⟩
      refine ⟨_, rfl, _, rfl, rfl, _, rfl, ?_⟩
      have hl4 : (stK L D .non false).length < sizeLine := lt_line (by show 4 < 16777216; decide)
      by_cases cp : p.1 = s0
      · refine not_true_eq (decide_eq_true (by rw [cp])) ?_
        have etk : rd.take (n + 1) = rd.take n ++ [(s0, p.2)] := by
          rw [List.take_add_one, e2, ← cp]
          rfl
        refine ⟨_, rfl, _, rfl, st, _, rfl, dHad hst2, _, rfl, D, _, rfl, DPut.k (k := kT (SX.S s0)) hD2 (lt_line (by rw [numsK_len, List.length_take]; omega)), ?_⟩
        rw [nums_put e, ← etk]
        have nLD : L ≠ D := nDL.symm
        have nSD : st ≠ D := fun z => by
          have hD' := hD
          rw [← z, hst] at hD'
          have h1 := HO.dK.inj (Option.some.inj hD')
          cases h2 : rd.take n with
          | nil => rw [h2] at h1; cases h1
          | cons x l =>
            rw [h2] at h1
            have h3 := (List.cons.inj h1).1
            have h4 := congrArg Prod.snd h3
            cases h4
        refine ⟨_, rfl, q1 p.2 (n + 1) _ (lookG_right e e2 cp) (fL.trans fun x u _ _ n3 e => by rw [upd_ne n3]; exact e) ⟨by rw [upd_ne nSD]; exact hst2, ys, by rw [upd_ne nLD]; exact hL2, hP3.keep (fun b zs e => ?_), upd_same⟩⟩
        have nb : b ≠ D := fun z => by rw [z, hD2] at e; cases e
        rw [upd_ne nb]
        exact e
      · refine not_false_eq (decide_eq_false fun z => cp (strS_inj z)) ?_
        refine ⟨_, rfl, st, _, rfl, DPut.k (k := kT "due") hst2 hl4, ?_⟩
        rw [st_put_due]
        refine ⟨_, rfl, st, _, rfl, DPut.k (k := kT "wrong") upd_same hl4, ?_⟩
        rw [st_put_wrong]
        exact q3 .non _ (lookG_bad e e2 cp) (fL.trans fun x u n1 _ _ e => by rw [upd_ne n1, upd_ne n1]; exact e) upd_same
end
/-! ### the law's own going, all of a recipe -/
theorem StL.same {H H' : Hp} {st L D : Addr} {rd : List Pr} {n : Nat} (k : StL H st L D rd n) (s : Same H H') : StL H' st L D rd n := by
  obtain ⟨h1, xs, h2, h3, h4⟩ := k
  exact ⟨s _ _ h1, xs, s _ _ h2, h3.same s, s _ _ h4⟩
def opsK (a b c d : V) : List (Key × V) := [(kT "plus", a), (kT "minus", b), (kT "times", c), (kT "most", d)]
theorem merge_ops (a b c d : V) : mergeK [] (opsK a b c d) = opsK a b c d := by
  have h1 : decide (kT "plus" = kT "minus") = false := by decide +kernel
  have h2 : decide (kT "plus" = kT "times") = false := by decide +kernel
  have h3 : decide (kT "plus" = kT "most") = false := by decide +kernel
  have h4 : decide (kT "minus" = kT "times") = false := by decide +kernel
  have h5 : decide (kT "minus" = kT "most") = false := by decide +kernel
  have h6 : decide (kT "times" = kT "most") = false := by decide +kernel
  simp only [mergeK, opsK, List.foldl_cons, List.foldl_nil, putK, List.any_nil, List.any_cons, List.nil_append, List.cons_append, h1, h2, h3, h4, h5, h6, Bool.or_false, if_neg Bool.false_ne_true]
theorem ops_at (k : Kd) (x y : Int) : valV (opsK (.int (x + y)) (.int (x - y)) (.int (x * y)) (.int (if y > x then y else x))) (kT k.name) = some (.int (k.ap x y)) := by
  unfold opsK
  cases k with
  | plus => exact valV_pos rfl
  | minus => exact (valV_neg (kT_ne (by decide +kernel))).trans (valV_pos rfl)
  | times => exact (valV_neg (kT_ne (by decide +kernel))).trans ((valV_neg (kT_ne (by decide +kernel))).trans (valV_pos rfl))
  | most => exact (valV_neg (kT_ne (by decide +kernel))).trans ((valV_neg (kT_ne (by decide +kernel))).trans ((valV_neg (kT_ne (by decide +kernel))).trans (valV_pos rfl)))
def Small (rd : List Pr) : Prop := ∀ p ∈ rd, Nm p.1 ∧ p.2.natAbs < 2 ^ 400
theorem go_small {rd : List Pr} (hs : Small rd) {r : Rcp} {n m : Nat} {v : Int} (hb : r.Nb) (hd : r.dep ≤ 9) (hn : n ≤ rd.length) (h : go rd r n = .ok v m) : n ≤ m ∧ m ≤ rd.length ∧ ∃ e, 0 < e ∧ e ≤ 204800 ∧ v.natAbs < 2 ^ e := by
  obtain ⟨h1, h2, h3⟩ := go_ok (fun p hp => (hs p hp).2) hb hn h
  have h4 : 2 ^ r.dep ≤ 2 ^ 9 := Nat.pow_le_pow_right (by decide) hd
  have h5 : 1 ≤ 2 ^ r.dep := Nat.one_le_two_pow
  have h6 : (2 : Nat) ^ 9 = 512 := by decide
  exact ⟨h1, h2, 400 * 2 ^ r.dep, by omega, by omega, h3⟩
def spLGone (j : Nat) : Sp := fun vs H Q _ => ∃ (st L D : Addr) (v : V) (r : Rcp) (rd : List Pr) (n : Nat), vs = [v, .ref st] ∧ Rec H r v ∧ r.Nb ∧ r.dep ≤ j ∧ r.dep ≤ 9 ∧ StL H st L D rd n ∧ n ≤ rd.length ∧ rd.length ≤ 100 ∧ Small rd ∧ TellL Q rd st L D H (go rd r n)
section
variable {P : Program} {w : World} {K : PySem.W.Frag} {mg : Str → Option Value} {base : Heap}
abbrev s__law_gone : Stmt := topS 20
abbrev N__law_gone : List Str := ["r", "state", "one", "other"]
theorem sc__law_gone : FnScope N__law_gone ["r", "state"] (defScope s__law_gone) := ⟨rfl, rfl, rfl, by decide +kernel, rfl, by decide +kernel, by decide +kernel⟩

theorem ok__law_gone (T : Txt K mg) (D : IsDef K mg "_law_gone" s__law_gone ["r", "state"]) (C_look : Cal P w K mg base CX0 1 "_law_look" ["name", "state"] spLLook) : ∀ j, Cal P w K mg base CX0 (j + 1) "_law_gone" ["r", "state"] (spLGone j)
  | 0 => cal_none D fun vs H Q E h => by
    obtain ⟨_, _, _, _, r, _, _, _, _, _, hd, _⟩ := h
    have := dep_pos r
    omega
  | j + 1 => by
    have C__law_gone := ok__law_gone T D C_look j
    have C__law_look := C_look.mono (show 1 ≤ j + 1 by omega)
    refine D.cal sc__law_gone (fun vs H Q E h => ?_) (fun f cdv A outer s H vs Q E hr h => ?_)
    · obtain ⟨st, L, D, v, r, rd, n, rfl, _⟩ := h
      rfl
    obtain ⟨st, L, D, v, r, rd, n, rfl, hRc, hNb, hd, h9, hS, hn, h100, hsm, q1, q2, q3⟩ := h
    have hu : (cxOf CX0 P w K mg base N__law_gone "_law_gone" (defScope s__law_gone) f cdv A outer s H E).nox.A.units + 1 < cLine := Nat.lt_of_le_of_lt (Nat.add_le_add_left (by decide : 1 ≤ 64) _) hr.units
    have hnm : ∀ p ∈ rd, Nm p.1 := fun p hp => (hsm p hp).1
    refine ⟨_, (pss_cons (ps_if (pt_cmpR op_eq (pe_ix (r := rIxT K) ix_tup (pv 0) pe_int (fun _ _ => rfl)) pe_str (nomark _))
        (pss_one (ps_ret (pe_ix (r := rIxT K) ix_tup (pv 0) pe_int (fun _ _ => rfl))))
        pss_nil)
      (pss_cons (ps_if (pt_cmpR op_eq (pe_ix (r := rIxT K) ix_tup (pv 0) pe_int (fun _ _ => rfl)) pe_str (nomark _))
        (pss_one (ps_ret (pe_cal C__law_look (hr.mono (by first | decide | omega)) pass0 (pa_cons (pe_ix (r := rIxT K) ix_tup (pv 0) pe_int (fun _ _ => rfl)) (pa_cons (pv 1) pa_nil)))))
        pss_nil)
      (pss_cons (ps_set (i := 2) sc__law_gone.nd rfl (Or.inl rfl) (pe_cal C__law_gone (hr.mono (by first | decide | omega)) pass0 (pa_cons (pe_ix (r := rIxT K) ix_tup (pv 0) pe_int (fun _ _ => rfl)) (pa_cons (pv 1) pa_nil))))
      (pss_cons (ps_if (pt_cmpR op_isN (pv 2) pe_non (nomark _))
        (pss_one (ps_ret pe_non))
        pss_nil)
      (pss_cons (ps_if (pt_cmpR op_eq (pe_ix (r := rIxT K) ix_tup (pv 0) pe_int (fun _ _ => rfl)) pe_str (nomark _))
        (pss_one (ps_ret (pe_cal C__law_look (hr.mono (by first | decide | omega)) pass0 (pa_cons (pe_ix (r := rIxT K) ix_tup (pe_ix (r := rIxT K) ix_tup (pv 0) pe_int (fun _ _ => rfl)) (pe_op op_mod (pv 2) (pe_callB call_len_seq (by rfl) T.b_len PySem.boot_len (pa_cons (pe_ix (r := rIxT K) ix_tup (pv 0) pe_int (fun _ _ => rfl)) pa_nil))) (fun _ _ => rfl)) (pa_cons (pv 1) pa_nil)))))
        pss_nil)
      (pss_cons (ps_if (pt_cmpR op_eq (pe_ix (r := rIxT K) ix_tup (pv 0) pe_int (fun _ _ => rfl)) pe_str (nomark _))
        (pss_one (ps_ret (pe_cal C__law_gone (hr.mono (by first | decide | omega)) pass0 (pa_cons (pe_ix (r := rIxL K) ix_list (pe_lst (pa_cons (pe_ix (r := rIxT K) ix_tup (pv 0) pe_int (fun _ _ => rfl)) (pa_cons (pe_ix (r := rIxT K) ix_tup (pv 0) pe_int (fun _ _ => rfl)) pa_nil))) (pe_callTy call_int1 (by rfl) T.b_int (by decide +kernel) (pa_cons (pe_cmpR op_gt (pv 2) pe_int (nomark _)) pa_nil)) (fun _ _ => rfl)) (pa_cons (pv 1) pa_nil)))))
        pss_nil)
      (pss_cons (ps_set (i := 3) sc__law_gone.nd rfl (Or.inl rfl) (pe_cal C__law_gone (hr.mono (by first | decide | omega)) pass0 (pa_cons (pe_ix (r := rIxT K) ix_tup (pv 0) pe_int (fun _ _ => rfl)) (pa_cons (pv 1) pa_nil))))
      (pss_cons (ps_if (pt_cmpR op_isN (pv 3) pe_non (nomark _))
        (pss_one (ps_ret pe_non))
        pss_nil)
      (pss_one (ps_ret (pe_dget hu (pe_disp (pps_cons pe_str (pe_op op_add (pv 2) (pv 3)) (pps_cons pe_str (pe_op op_sub (pv 2) (pv 3)) (pps_cons pe_str (pe_op op_mulW (pv 2) (pv 3)) (pps_cons pe_str (pe_callB (call_max2 rfl) (by rfl) T.b_max (by decide +kernel) (pa_cons (pv 2) (pa_cons (pv 3) pa_nil))) pps_nil)))) (by rfl) (by rfl) (fun z => by cases z) (by decide)) (pe_ix (r := rIxT K) ix_tup (pv 0) pe_int (fun _ _ => rfl)) (fun _ _ => rfl)))))))))))), ?_⟩
    cases r with
    | num x =>
      obtain ⟨p, rfl, hp⟩ := hRc
      refine ⟨_, rfl, p, _, _, _, rfl, rfl, SqT.of hp, rfl, rfl, _, rfl, iteY rfl ?_⟩
      exact ⟨_, rfl, p, _, _, _, rfl, rfl, SqT.of hp, rfl, q1 x n H rfl (Fr3.refl st L D H) hS⟩
    | read s0 =>
      obtain ⟨p, rfl, hp⟩ := hRc
      refine ⟨_, rfl, p, _, _, _, rfl, rfl, SqT.of hp, rfl, rfl, _, rfl, iteN (sne (by decide +kernel)) ?_⟩
      refine ⟨_, rfl, p, _, _, _, rfl, rfl, SqT.of hp, rfl, rfl, _, rfl, iteY rfl ?_⟩
      exact ⟨_, rfl, p, _, _, _, rfl, rfl, SqT.of hp, rfl, _, rfl, st, L, D, s0, rd, n, rfl, hS, hn, h100, hnm, q1, q2, q3⟩
    | two k a b =>
      obtain ⟨p, x, y, rfl, hp, ha, hb⟩ := hRc
      have hd1 : a.dep ≤ j ∧ b.dep ≤ j ∧ a.dep ≤ 9 ∧ b.dep ≤ 9 := by
        have e : (Rcp.two k a b).dep = max a.dep b.dep + 1 := rfl
        omega
      refine ⟨_, rfl, p, _, _, _, rfl, rfl, SqT.of hp, rfl, rfl, _, rfl, iteN (sne (by cases k <;> decide +kernel)) ?_⟩
      refine ⟨_, rfl, p, _, _, _, rfl, rfl, SqT.of hp, rfl, rfl, _, rfl, iteN (sne (by cases k <;> decide +kernel)) ?_⟩
      refine ⟨_, rfl, p, _, _, _, rfl, rfl, SqT.of hp, rfl, _, rfl, st, L, D, x, a, rd, n, rfl, ha, hNb.1, hd1.1, hd1.2.2.1, hS, hn, h100, hsm, ?_⟩
      refine ⟨fun vx m H1 h1 f1 S1 => ?_, fun t a H1 h1 f1 e1 e2 => ⟨_, rfl, rfl, _, rfl, iteY rfl (q2 t a H1 (by show Res.bind _ _ = _; rw [h1]; rfl) f1 e1 e2)⟩, fun due H1 h1 f1 e1 => ⟨_, rfl, rfl, _, rfl, iteY rfl (q3 due H1 (by show Res.bind _ _ = _; rw [h1]; rfl) f1 e1)⟩⟩
      obtain ⟨_, hm, e1, e10, e11, e12⟩ := go_small hsm hNb.1 hd1.2.2.1 hn h1
      have k1 := hS.keep f1
      have hp1 := k1 _ _ hp
      refine ⟨_, rfl, rfl, _, rfl, iteN (fun z => by cases z) ?_⟩
      refine ⟨_, rfl, p, _, _, _, rfl, rfl, SqT.of hp1, rfl, rfl, _, rfl, iteN (sne (by cases k <;> decide +kernel)) ?_⟩
      refine ⟨_, rfl, p, _, _, _, rfl, rfl, SqT.of hp1, rfl, rfl, _, rfl, iteN (sne (by cases k <;> decide +kernel)) ?_⟩
      refine ⟨_, rfl, p, _, _, _, rfl, rfl, SqT.of hp1, rfl, _, rfl, st, L, D, y, b, rd, m, rfl, hb.keep k1, hNb.2, hd1.2.1, hd1.2.2.2, S1, hm, h100, hsm, ?_⟩
      have e0 : go rd (.two k a b) n = (go rd b m).bind fun vy l => .ok (k.ap vx vy) l := by show Res.bind _ _ = _; rw [h1]; rfl
      rw [e0] at q1 q2 q3
      refine ⟨fun vy l H2 h2 f2 S2 => ?_, fun t a H2 h2 f2 g1 g2 => ⟨_, rfl, rfl, _, rfl, iteY rfl (q2 t a H2 (by rw [h2]; rfl) (f1.trans f2) g1 g2)⟩, fun due H2 h2 f2 g1 => ⟨_, rfl, rfl, _, rfl, iteY rfl (q3 due H2 (by rw [h2]; rfl) (f1.trans f2) g1)⟩⟩
      obtain ⟨_, _, d1, d10, d11, d12⟩ := go_small hsm hNb.2 hd1.2.2.2 hm h2
      have hp2 := S1.keep f2 _ _ hp1
      refine ⟨_, rfl, rfl, _, rfl, iteN (fun z => by cases z) ?_⟩
      refine fun dd nd => ⟨_, rfl, _, rfl, _, _, rfl, rfl, _, rfl, _, rfl, _, _, rfl, rfl, _, rfl, _, rfl, _, _, rfl, rfl, wide_mul e12 d12 e10 d10 (by omega), _, rfl, _, rfl, _, _, rfl, upd_same, opsK (.int (vx + vy)) (.int (vx - vy)) (.int (vx * vy)) (.int (if vy > vx then vy else vx)), rfl, (by show 4 ≤ 15; decide), ?_⟩
      rw [merge_ops, upd_upd]
      have sd := same_new nd (.dK (opsK (.int (vx + vy)) (.int (vx - vy)) (.int (vx * vy)) (.int (if vy > vx then vy else vx))))
      have dg : DGet (upd H2 dd (.dK (opsK (.int (vx + vy)) (.int (vx - vy)) (.int (vx * vy)) (.int (if vy > vx then vy else vx))))) dd (.str k.name) (some (.int (k.ap vx vy))) := ops_at k vx vy ▸ DGet.k (k := kT k.name) upd_same
      exact ⟨_, rfl, p, _, _, _, rfl, rfl, SqT.of (sd _ _ hp2), rfl, dd, _, rfl, dg, q1 (k.ap vx vy) l _ (by rw [h2]; rfl) (f1.trans (f2.trans (Fr3.of sd))) (S2.same sd)⟩
    | pick a b c =>
      obtain ⟨p, x, y, z, rfl, hp, ha, hb, hc⟩ := hRc
      have hd1 : a.dep ≤ j ∧ b.dep ≤ j ∧ c.dep ≤ j ∧ a.dep ≤ 9 ∧ b.dep ≤ 9 ∧ c.dep ≤ 9 := by
        have e : (Rcp.pick a b c).dep = max a.dep (max b.dep c.dep) + 1 := rfl
        omega
      refine ⟨_, rfl, p, _, _, _, rfl, rfl, SqT.of hp, rfl, rfl, _, rfl, iteN (sne (by decide +kernel)) ?_⟩
      refine ⟨_, rfl, p, _, _, _, rfl, rfl, SqT.of hp, rfl, rfl, _, rfl, iteN (sne (by decide +kernel)) ?_⟩
      refine ⟨_, rfl, p, _, _, _, rfl, rfl, SqT.of hp, rfl, _, rfl, st, L, D, x, a, rd, n, rfl, ha, hNb.1, hd1.1, hd1.2.2.2.1, hS, hn, h100, hsm, ?_⟩
      refine ⟨fun vx m H1 h1 f1 S1 => ?_, fun t a H1 h1 f1 e1 e2 => ⟨_, rfl, rfl, _, rfl, iteY rfl (q2 t a H1 (by show Res.bind _ _ = _; rw [h1]; rfl) f1 e1 e2)⟩, fun due H1 h1 f1 e1 => ⟨_, rfl, rfl, _, rfl, iteY rfl (q3 due H1 (by show Res.bind _ _ = _; rw [h1]; rfl) f1 e1)⟩⟩
      obtain ⟨_, hm, _⟩ := go_small hsm hNb.1 hd1.2.2.2.1 hn h1
      have k1 := hS.keep f1
      have hp1 := k1 _ _ hp
      have e0 : go rd (.pick a b c) n = if vx > 0 then go rd b m else go rd c m := by show Res.bind _ _ = _; rw [h1]; rfl
      rw [e0] at q1 q2 q3
      refine ⟨_, rfl, rfl, _, rfl, iteN (fun z => by cases z) ?_⟩
      refine ⟨_, rfl, p, _, _, _, rfl, rfl, SqT.of hp1, rfl, rfl, _, rfl, iteN (sne (by decide +kernel)) ?_⟩
      refine ⟨_, rfl, p, _, _, _, rfl, rfl, SqT.of hp1, rfl, rfl, _, rfl, iteY rfl ?_⟩
      refine ⟨_, rfl, p, _, _, _, rfl, rfl, SqT.of hp1, rfl, _, rfl, p, _, _, _, rfl, rfl, SqT.of hp1, rfl, le_line (Nat.le_of_ble_eq_true rfl), fun l nl => ?_⟩
      have sl := same_new nl (.lst [z, y])
      by_cases c0 : vx > 0
      · rw [if_pos c0] at q1 q2 q3
        refine ⟨_, rfl, _, _, rfl, rfl, .inr ⟨_, rfl, l, _, _, y, rfl, rfl, SqL.of upd_same, ?_, _, rfl, st, L, D, y, b, rd, m, rfl, (hb.keep k1).same sl, hNb.2.1, hd1.2.1, hd1.2.2.2.2.1, S1.same sl, hm, h100, hsm, ?_⟩⟩
        · show atI [z, y] (if decide (vx > 0) = true then 1 else 0) = _
          rw [if_pos (decide_eq_true c0)]
          rfl
        · exact ⟨fun v m' H' h f S => q1 v m' H' h (f1.trans ((Fr3.of sl).trans f)) S, fun t a H' h f g1 g2 => q2 t a H' h (f1.trans ((Fr3.of sl).trans f)) g1 g2, fun due H' h f g => q3 due H' h (f1.trans ((Fr3.of sl).trans f)) g⟩
      · rw [if_neg c0] at q1 q2 q3
        refine ⟨_, rfl, _, _, rfl, rfl, .inr ⟨_, rfl, l, _, _, z, rfl, rfl, SqL.of upd_same, ?_, _, rfl, st, L, D, z, c, rd, m, rfl, (hc.keep k1).same sl, hNb.2.2, hd1.2.2.1, hd1.2.2.2.2.2, S1.same sl, hm, h100, hsm, ?_⟩⟩
        · show atI [z, y] (if decide (vx > 0) = true then 1 else 0) = _
          rw [if_neg (fun z => c0 (of_decide_eq_true z))]
          rfl
        · exact ⟨fun v m' H' h f S => q1 v m' H' h (f1.trans ((Fr3.of sl).trans f)) S, fun t a H' h f g1 g2 => q2 t a H' h (f1.trans ((Fr3.of sl).trans f)) g1 g2, fun due H' h f g => q3 due H' h (f1.trans ((Fr3.of sl).trans f)) g⟩
    | choose a ns =>
      obtain ⟨p, x, t2, rfl, hp, ha, ht2⟩ := hRc
      have hd1 : a.dep ≤ j ∧ a.dep ≤ 9 := by
        have e : (Rcp.choose a ns).dep = a.dep + 1 := rfl
        omega
      refine ⟨_, rfl, p, _, _, _, rfl, rfl, SqT.of hp, rfl, rfl, _, rfl, iteN (sne (by decide +kernel)) ?_⟩
      refine ⟨_, rfl, p, _, _, _, rfl, rfl, SqT.of hp, rfl, rfl, _, rfl, iteN (sne (by decide +kernel)) ?_⟩
      refine ⟨_, rfl, p, _, _, _, rfl, rfl, SqT.of hp, rfl, _, rfl, st, L, D, x, a, rd, n, rfl, ha, hNb.1, hd1.1, hd1.2, hS, hn, h100, hsm, ?_⟩
      refine ⟨fun vx m H1 h1 f1 S1 => ?_, fun t a H1 h1 f1 e1 e2 => ⟨_, rfl, rfl, _, rfl, iteY rfl (q2 t a H1 (by show Res.bind _ _ = _; rw [h1]; rfl) f1 e1 e2)⟩, fun due H1 h1 f1 e1 => ⟨_, rfl, rfl, _, rfl, iteY rfl (q3 due H1 (by show Res.bind _ _ = _; rw [h1]; rfl) f1 e1)⟩⟩
      obtain ⟨_, hm, _⟩ := go_small hsm hNb.1 hd1.2 hn h1
      have k1 := hS.keep f1
      have hp1 := k1 _ _ hp
      have ht21 := k1 _ _ ht2
      have e0 : go rd (.choose a ns) n = lookG rd m (nthN ns vx) := by show Res.bind _ _ = _; rw [h1]; rfl
      rw [e0] at q1 q2 q3
      obtain ⟨i, hi, hi2⟩ := nth_mem hNb.2.1 vx
      have hi3 := (List.getElem?_eq_some_iff.mp hi2).1
      refine ⟨_, rfl, rfl, _, rfl, iteN (fun z => by cases z) ?_⟩
      refine ⟨_, rfl, p, _, _, _, rfl, rfl, SqT.of hp1, rfl, rfl, _, rfl, iteY rfl ?_⟩
      refine ⟨_, rfl, p, _, _, _, rfl, rfl, SqT.of hp1, rfl, _, rfl, _, rfl, p, _, _, _, rfl, rfl, SqT.of hp1, rfl, t2, _, rfl, .inr (SqT.of ht21), _, _, rfl, rfl, ?_, t2, _, _, .str (SX.S (nthN ns vx)), rfl, rfl, SqT.of ht21, ?_, _, rfl, st, L, D, nthN ns vx, rd, m, rfl, S1, hm, h100, hnm, ?_⟩
      · show (0 : Int) < ((txs ns).length : Nat)
        rw [txs_len]
        have := hNb.2.1
        omega
      · show atI (txs ns) (vx % (((txs ns).length : Nat) : Int)) = _
        rw [txs_len, hi]
        refine atI_nat ?_
        rw [txs_get hi3, Option.some.inj ((List.getElem?_eq_getElem hi3).symm.trans hi2)]
      · exact ⟨fun v m' H' h f S => q1 v m' H' h (f1.trans f) S, fun t a H' h f g1 g2 => q2 t a H' h (f1.trans f) g1 g2, fun due H' h f g => q3 due H' h (f1.trans f) g⟩
end
/-! ### what is told behind reads; all reads -/
def TellO (Q : VK) (qn : Hp → Prop) (o : Out) (H : Hp) : Prop :=
  (∀ s t H', o = .read s → Same H H' → H' t = some (.tup [.str "read", .str (SX.S s)]) → Q (.ref t) H') ∧ (∀ x t H', o = .worth x → Same H H' → H' t = some (.tup [.str "worth", .int x]) → Q (.ref t) H') ∧ (∀ H', o = .none → Same H H' → qn H')
theorem merge_st (L D : Addr) (due : V) (wr : Bool) : mergeK [] (stK L D due wr) = stK L D due wr := by
  have h1 : decide (kT "left" = kT "had") = false := by decide +kernel
  have h2 : decide (kT "left" = kT "due") = false := by decide +kernel
  have h3 : decide (kT "left" = kT "wrong") = false := by decide +kernel
  have h4 : decide (kT "had" = kT "due") = false := by decide +kernel
  have h5 : decide (kT "had" = kT "wrong") = false := by decide +kernel
  have h6 : decide (kT "due" = kT "wrong") = false := by decide +kernel
  simp only [mergeK, stK, List.foldl_cons, List.foldl_nil, putK, List.any_nil, List.any_cons, List.nil_append, List.cons_append, h1, h2, h3, h4, h5, h6, Bool.or_false, if_neg Bool.false_ne_true]
theorem out_ok {rd : List Pr} {r : Rcp} {v : Int} {m : Nat} (h : go rd r 0 = .ok v m) : outOf rd r = if m < rd.length then .none else .worth v := by unfold outOf; rw [h]
theorem out_lack {rd : List Pr} {r : Rcp} {s : List Nat} (h : go rd r 0 = .lack s) : outOf rd r = .read s := by unfold outOf; rw [h]
theorem out_bad {rd : List Pr} {r : Rcp} (h : go rd r 0 = .bad) : outOf rd r = .none := by unfold outOf; rw [h]
def spLBehind : Sp := fun vs H Q _ => ∃ (v : V) (R : Addr) (r : Rcp) (rd : List Pr) (xs : List V), vs = [v, .ref R] ∧ Rec H r v ∧ r.Nb ∧ r.dep ≤ 9 ∧ H R = some (.lst xs) ∧ Prs H rd xs ∧ rd.length ≤ 100 ∧ Small rd ∧ TellO Q (fun H' => Q .non H') (outOf rd r) H
section
variable {P : Program} {w : World} {K : PySem.W.Frag} {mg : Str → Option Value} {base : Heap}
abbrev s__law_behind : Stmt := topS 21
abbrev N__law_behind : List Str := ["r", "reads", "state", "worth"]
theorem sc__law_behind : FnScope N__law_behind ["r", "reads"] (defScope s__law_behind) := ⟨rfl, rfl, rfl, by decide +kernel, rfl, by decide +kernel, by decide +kernel⟩

theorem ok__law_behind (T : Txt K mg) (D : IsDef K mg "_law_behind" s__law_behind ["r", "reads"]) (C__law_gone : Cal P w K mg base CX0 10 "_law_gone" ["r", "state"] (spLGone 9)) : Cal P w K mg base CX0 11 "_law_behind" ["r", "reads"] spLBehind := by
  refine D.cal sc__law_behind (fun vs H Q E h => ?_) (fun f cdv A outer s H vs Q E hr h => ?_)
  · obtain ⟨v, R, r, rd, xs, rfl, _⟩ := h
    rfl
  obtain ⟨v, R, r, rd, xs, rfl, hRc, hNb, h9, hR, hP, h100, hsm, q1, q2, q3⟩ := h
  have hu : (cxOf CX0 P w K mg base N__law_behind "_law_behind" (defScope s__law_behind) f cdv A outer s H E).nox.A.units + 1 < cLine := Nat.lt_of_le_of_lt (Nat.add_le_add_left (by decide : 1 ≤ 64) _) hr.units
  refine ⟨_, (pss_cons (ps_set (i := 2) sc__law_behind.nd rfl (Or.inl rfl) (pe_disp (pps_cons pe_str (pe_callTy call_list_of (by rfl) T.b_list (by decide +kernel) (pa_cons (pv 1) pa_nil)) (pps_cons pe_str pe_dnewK (pps_cons pe_str pe_non (pps_cons pe_str pe_bl pps_nil)))) (by rfl) (by rfl) (fun z => by cases z) (by decide)))
      (pss_cons (ps_set (i := 3) sc__law_behind.nd rfl (Or.inl rfl) (pe_cal C__law_gone (hr.mono (by first | decide | omega)) pass0 (pa_cons (pv 0) (pa_cons (pv 2) pa_nil))))
      (pss_cons (ps_if (PW.pt (pw_or (pt_val (pe_dget hu (pv 2) pe_str (fun _ _ => rfl))) (pw_or1 (PW.pt (pw_and (pt_cmpR op_isN (pe_dget hu (pv 2) pe_str (fun _ _ => rfl)) pe_non (nomark _)) (pw_and1 (pt_cmpR (op_neD hr.units) (pe_dget hu (pv 2) pe_str (fun _ _ => rfl)) (pe_lst pa_nil) (nomark _))))))))
        (pss_one (ps_ret pe_non))
        pss_nil)
      (pss_cons (ps_if (pt_cmpR op_notN (pe_dget hu (pv 2) pe_str (fun _ _ => rfl)) pe_non (nomark _))
        (pss_one (ps_ret (pe_dget hu (pv 2) pe_str (fun _ _ => rfl))))
        pss_nil)
      (pss_one (ps_ret (pe_tup (pa_cons pe_str (pa_cons (pv 3) pa_nil))))))))), ?_⟩
  have dLeft : ∀ {st L D : Addr} {H : Hp} {due : V} {wr : Bool}, H st = some (.dK (stK L D due wr)) → DGet H st (.str "left") (some (.ref L)) := fun h => st_left _ _ _ _ ▸ DGet.k (k := kT "left") h
  have dDue : ∀ {st L D : Addr} {H : Hp} {due : V} {wr : Bool}, H st = some (.dK (stK L D due wr)) → DGet H st (.str "due") (some due) := fun h => st_due _ _ _ _ ▸ DGet.k (k := kT "due") h
  have dWrong : ∀ {st L D : Addr} {H : Hp} {due : V} {wr : Bool}, H st = some (.dK (stK L D due wr)) → DGet H st (.str "wrong") (some (.bl wr)) := fun h => st_wrong _ _ _ _ ▸ DGet.k (k := kT "wrong") h
  refine fun st nst => ⟨_, rfl, R, _, rfl, .inl (SqL.of (same_new nst _ _ _ hR)), fun L nL => fun D nD => ?_⟩
  have s1 := same_new nst (.dK [])
  have s2 := same_new nL (.lst xs)
  have s3 := same_new nD (.dK [])
  refine ⟨s3 _ _ (s2 _ _ upd_same), stK L D .non false, rfl, (by show 4 ≤ 15; decide), ?_⟩
  rw [merge_st]
  obtain ⟨H1, hH1⟩ : ∃ H1, H1 = upd (upd (upd (upd H st (.dK [])) L (.lst xs)) D (.dK [])) st (.dK (stK L D .non false)) := ⟨_, rfl⟩
  have sH : Same H H1 := by rw [hH1]; exact same_upd (s1.trans (s2.trans s3)) nst _
  have nLst : L ≠ st := fun z => by rw [z, upd_same] at nL; cases nL
  have nDst : D ≠ st := fun z => by
    rw [z] at nD
    have := s2 _ _ (upd_same (H := H) (a := st) (o := .dK []))
    rw [this] at nD
    cases nD
  have nDL : L ≠ D := ne_of_none upd_same nD
  have hst1 : H1 st = some (.dK (stK L D .non false)) := by rw [hH1]; exact upd_same
  have hL1 : H1 L = some (.lst xs) := by rw [hH1, upd_ne nLst]; exact s3 _ _ upd_same
  have hD1 : H1 D = some (.dK (numsK (rd.take 0))) := by rw [hH1, upd_ne nDst]; exact upd_same
  have n0L : H L = none := s1.free nL
  have n0D : H D = none := (s1.trans s2).free nD
  rw [← hH1]
  have fin : ∀ {H' : Hp}, Fr3 st L D H1 H' → Same H H' := fun {H'} f b u e => f b u (fun z => by rw [z, nst] at e; cases e) (fun z => by rw [z, n0L] at e; cases e) (fun z => by rw [z, n0D] at e; cases e) (sH _ _ e)
  refine ⟨_, rfl, _, rfl, st, L, D, v, r, rd, 0, rfl, hRc.same sH, hNb, h9, h9, ⟨hst1, xs, hL1, by rw [List.drop_zero]; exact hP.same sH, hD1⟩, Nat.zero_le _, h100, hsm, ?_, ?_, ?_⟩
  · rintro x m H2 h2 f2 ⟨hst2, ys, hL2, hP2, hD2⟩
    have hml := (go_small hsm hNb h9 (Nat.zero_le _) h2).2.1
    refine ⟨_, rfl, st, _, rfl, dWrong hst2, _, rfl, iteF ?_⟩
    refine ⟨_, rfl, st, _, rfl, dDue hst2, rfl, _, rfl, iteY rfl ?_⟩
    refine ⟨_, rfl, st, _, rfl, dLeft hst2, le_line (Nat.le_of_ble_eq_true rfl), fun E1 nE => ?_⟩
    have sE := same_new nE (.lst [])
    have dl : Data (upd H2 E1 (.lst [])) (.lst ((rd.drop m).map pairTh)) (.ref L) := ⟨L, _, rfl, sE _ _ hL2, (hP2.same sE).data⟩
    refine ⟨_, _, Data.dp (t := .lst ((rd.drop m).map pairTh)) (prs_flat _) dl, .lst (SqL.of upd_same) .nil, prs_shaped fun p hp => (hsm p (List.mem_of_mem_drop hp)).1, rfl, _, rfl, ?_⟩
    have eqv0 : PyData.eqv (.list (Th.pyL ((rd.drop m).map pairTh))) (.list []) = decide (¬ m < rd.length) := by
      by_cases c : m < rd.length
      · rw [List.drop_eq_getElem_cons c, decide_eq_false (fun z => z c)]
        rfl
      · rw [List.drop_eq_nil_of_le (by omega), decide_eq_true c]
        rfl
    rw [show (Th.lst ((rd.drop m).map pairTh)).py = .list (Th.pyL ((rd.drop m).map pairTh)) from rfl, eqv0]
    by_cases c : m < rd.length
    · refine not_false_eq (decide_eq_false (fun z => z c)) ?_
      exact q3 _ ((out_ok h2).trans (if_pos c)) ((fin f2).trans sE)
    · refine not_true_eq (decide_eq_true c) ?_
      refine ⟨_, rfl, st, _, rfl, dDue (sE _ _ hst2), rfl, _, rfl, not_true_eq (decide_eq_true rfl) ?_⟩
      refine ⟨_, rfl, le_line (Nat.le_of_ble_eq_true rfl), fun t nt => ?_⟩
      exact q2 x t _ ((out_ok h2).trans (if_neg c)) ((fin f2).trans (sE.trans (same_new nt _))) upd_same
  · intro s0 a H2 h2 f2 hst2 ha
    refine ⟨_, rfl, st, _, rfl, dWrong hst2, _, rfl, iteF ?_⟩
    refine ⟨_, rfl, st, _, rfl, dDue hst2, rfl, _, rfl, iteN (fun z => by cases z) ?_⟩
    refine iteF ⟨_, rfl, st, _, rfl, dDue hst2, rfl, _, rfl, not_false_eq (decide_eq_false fun z => by cases z) ?_⟩
    exact ⟨_, rfl, st, _, rfl, dDue hst2, q1 s0 a H2 (out_lack h2) (fin f2) ha⟩
  · intro due H2 h2 f2 hst2
    refine ⟨_, rfl, st, _, rfl, dWrong hst2, _, rfl, iteT ?_⟩
    exact q3 H2 (out_bad h2) (fin f2)
end
/-! ### all reads, by the numbers at hand -/
theorem sub_len {α : Type} [DecidableEq α] : ∀ {l m : List α}, l.Nodup → (∀ x ∈ l, x ∈ m) → l.length ≤ m.length
  | [], _, _, _ => Nat.zero_le _
  | a :: l, m, nd, h => by
    obtain ⟨h1, h2⟩ := List.nodup_cons.mp nd
    have ha := h a (List.mem_cons_self ..)
    have := sub_len (m := m.erase a) h2 fun x hx => (List.mem_erase_of_ne (fun e => h1 (by rw [← e]; exact hx))).mpr (h x (List.mem_cons_of_mem _ hx))
    rw [List.length_erase_of_mem ha] at this
    have : 0 < m.length := List.length_pos_of_mem ha
    show l.length + 1 ≤ m.length
    omega
theorem out_next {rd : List Pr} {r : Rcp} {s : List Nat} (w : Int) (h : outOf rd r = .read s) : go rd r 0 = .lack s ∧ ((∃ t, outOf (rd ++ [(s, w)]) r = .read t) ∨ ∃ v, outOf (rd ++ [(s, w)]) r = .worth v) := by
  have hg : go rd r 0 = .lack s := by
    unfold outOf at h
    cases e : go rd r 0 with
    | ok v n =>
      rw [e] at h
      by_cases c : n < rd.length
      · simp only [if_pos c] at h; cases h
      · simp only [if_neg c] at h; cases h
    | lack t => rw [e] at h; cases h; rfl
    | bad => rw [e] at h; cases h
  refine ⟨hg, ?_⟩
  rcases go_next w (Nat.zero_le _) hg with ⟨v, hv⟩ | ⟨t, ht⟩
  · exact .inr ⟨v, (out_ok hv).trans (if_neg (by omega))⟩
  · exact .inl ⟨t, out_lack ht⟩
theorem out_first (r : Rcp) : (∃ t, outOf [] r = .read t) ∨ ∃ v, outOf [] r = .worth v := by
  rcases go_end (rd := []) (r := r) with ⟨v, hv⟩ | ⟨t, ht⟩
  · exact .inr ⟨v, (out_ok hv).trans (if_neg (by show ¬ 0 < 0; omega))⟩
  · exact .inl ⟨t, out_lack ht⟩
/-- what is due stands in a tuple -/
def DueAt (H : Hp) (d : V) (o : Out) : Prop := (∃ t s, d = .ref t ∧ o = .read s ∧ H t = some (.tup [.str "read", .str (SX.S s)])) ∨ ∃ t x, d = .ref t ∧ o = .worth x ∧ H t = some (.tup [.str "worth", .int x])
structure Gone (r : Rcp) (ν : List Nat → Int) (rd : List Pr) : Prop where
  sm : Small rd
  nd : (rd.map (·.1)).Nodup
  mem : ∀ p ∈ rd, p.1 ∈ r.nms
  val : ∀ p ∈ rd, p.2 = ν p.1
def spLAll : Sp := fun vs H Q _ => ∃ (v : V) (N : Addr) (r : Rcp) (nums : List (Key × V)) (ν : List Nat → Int) (ns : List (List Nat)), vs = [v, .ref N] ∧ Rec H r v ∧ r.Nb ∧ r.dep ≤ 9 ∧ H N = some (.dK nums) ∧ (∀ s ∈ r.nms, s ∈ ns ∧ valV nums (kT (SX.S s)) = some (.int (ν s)) ∧ (ν s).natAbs < 2 ^ 400) ∧ ns.length ≤ 90 ∧
  ∀ (H' : Hp) (t R : Addr) (xs : List V) (rd : List Pr) (x : Int), Same H H' → H' t = some (.tup [.ref R, .int x]) → H' R = some (.lst xs) → Prs H' rd xs → outOf rd r = .worth x → Gone r ν rd → rd.length ≤ 90 → Q (.ref t) H'
section
variable {P : Program} {w : World} {K : PySem.W.Frag} {mg : Str → Option Value} {base : Heap}
abbrev s__law_all_reads : Stmt := topS 22
abbrev N__law_all_reads : List Str := ["r", "numbers", "reads", "due"]
theorem sc__law_all_reads : FnScope N__law_all_reads ["r", "numbers"] (defScope s__law_all_reads) := ⟨rfl, rfl, rfl, by decide +kernel, rfl, by decide +kernel, by decide +kernel⟩

theorem ok__law_all_reads (T : Txt K mg) (D : IsDef K mg "_law_all_reads" s__law_all_reads ["r", "numbers"]) (C__law_behind : Cal P w K mg base CX0 11 "_law_behind" ["r", "reads"] spLBehind) : Cal P w K mg base CX0 12 "_law_all_reads" ["r", "numbers"] spLAll := by
  refine D.cal sc__law_all_reads (fun vs H Q E h => ?_) (fun f cdv A outer s H vs Q E hr h => ?_)
  · obtain ⟨v, N, r, nums, ν, ns, rfl, _⟩ := h
    rfl
  obtain ⟨v, N, r, nums, ν, ns, rfl, hRc, hNb, h9, hN, hA, h90, q⟩ := h
  have hu : (cxOf CX0 P w K mg base N__law_all_reads "_law_all_reads" (defScope s__law_all_reads) f cdv A outer s H E).nox.A.units + 1 < cLine := Nat.lt_of_le_of_lt (Nat.add_le_add_left (by decide : 1 ≤ 64) _) hr.units
  refine ⟨_, (pss_cons (ps_set (i := 2) sc__law_all_reads.nd rfl (Or.inl rfl) (pe_lst pa_nil))
      (pss_cons (ps_set (i := 3) sc__law_all_reads.nd rfl (Or.inl rfl) (pe_cal C__law_behind (hr.mono (by first | decide | omega)) pass0 (pa_cons (pv 0) (pa_cons (pv 2) pa_nil))))
      (pss_cons (ps_while PassesOwn.never (pt_cmpR op_eq (pe_ix (r := rIxT K) ix_tup (pv 3) pe_int (fun _ _ => rfl)) pe_str (nomark _))
        (pss_cons (ps_expr (pe_bm PySem.F.plainAttrs_list PySem.F.slot_list_append PySem.F.type_list_append mt_append (pv 2) (pa_cons (pe_tup (pa_cons (pe_ix (r := rIxT K) ix_tup (pv 3) pe_int (fun _ _ => rfl)) (pa_cons (pe_dget hu (pv 1) (pe_ix (r := rIxT K) ix_tup (pv 3) pe_int (fun _ _ => rfl)) (fun _ _ => rfl)) pa_nil))) pa_nil)))
      (pss_one (ps_set (i := 3) sc__law_all_reads.nd rfl (Or.inl rfl) (pe_cal C__law_behind (hr.mono (by first | decide | omega)) pass0 (pa_cons (pv 0) (pa_cons (pv 2) pa_nil)))))))
      (pss_one (ps_ret (pe_tup (pa_cons (pv 2) (pa_cons (pe_ix (r := rIxT K) ix_tup (pv 3) pe_int (fun _ _ => rfl)) pa_nil)))))))), ?_⟩
  refine ⟨le_line (Nat.le_of_ble_eq_true rfl), fun R nR => ?_⟩
  have sR := same_new nR (.lst [])
  have low : ∀ {rd : List Pr}, Gone r ν rd → rd.length ≤ ns.length := fun {rd} g => by
    have := sub_len (m := ns) g.nd fun s hs => by
      obtain ⟨p, hp, e⟩ := List.mem_map.mp hs
      rw [← e]
      exact (hA _ (g.mem p hp)).1
    rw [List.length_map] at this
    exact this
  -- a call of _law_behind: what is due is told
  have tell : ∀ {H1 : Hp} {rd : List Pr} {xs : List V} {Q1 : VK}, ((∃ t, outOf rd r = .read t) ∨ ∃ x, outOf rd r = .worth x) → (∀ d H', Same H1 H' → DueAt H' d (outOf rd r) → Q1 d H') → TellO Q1 (fun H' => Q1 .non H') (outOf rd r) H1 := fun {H1 rd xs Q1} ho k =>
    ⟨fun s t H' e s1 ht => k _ H' s1 (.inl ⟨t, s, rfl, e, ht⟩), fun x t H' e s1 ht => k _ H' s1 (.inr ⟨t, x, rfl, e, ht⟩), fun H' e _ => by
      rcases ho with ⟨t, h⟩ | ⟨x, h⟩
      · rw [h] at e; cases e
      · rw [h] at e; cases e⟩
  refine ⟨_, rfl, _, rfl, v, R, r, [], [], rfl, hRc.same sR, hNb, h9, upd_same, trivial, Nat.zero_le _, fun _ h => (nomatch h), tell (xs := []) (out_first r) fun d H1 hs1 hd => ?_⟩
  refine ⟨fun m σ H' => ∃ (d : V) (rd : List Pr) (xs : List V), σ = [some v, some (.ref N), some (.ref R), some d] ∧ Same H H' ∧ H' R = some (.lst xs) ∧ Prs H' rd xs ∧ DueAt H' d (outOf rd r) ∧ Gone r ν rd ∧ m = ns.length - rd.length,
    ⟨_, d, [], [], rfl, sR.trans hs1, hs1 _ _ upd_same, trivial, hd, ⟨fun _ h => (nomatch h), List.nodup_nil, fun _ h => (nomatch h), fun _ h => (nomatch h)⟩, rfl⟩, ?_⟩
  rintro m σ H2 ⟨d, rd, xs, rfl, hs2, hR2, hP2, hd2, hg, rfl⟩
  have hrl := low hg
  have hxl := hP2.len
  rcases hd2 with ⟨t, s0, rfl, ho, ht⟩ | ⟨t, x, rfl, ho, ht⟩
  · obtain ⟨hgo, hnext⟩ := out_next (ν s0) ho
    obtain ⟨hmem, hseen⟩ := go_name hNb (Nat.zero_le _) hgo
    obtain ⟨hns, hval, hsm⟩ := hA s0 hmem
    have hg2 : Gone r ν (rd ++ [(s0, ν s0)]) := by
      refine ⟨fun p hp => ?_, ?_, fun p hp => ?_, fun p hp => ?_⟩
      · rcases List.mem_append.mp hp with h | h
        · exact hg.sm p h
        · rw [List.mem_singleton.mp h]; exact ⟨nms_ok hNb s0 hmem, hsm⟩
      · rw [List.map_append]
        refine List.nodup_append.mpr ⟨hg.nd, by simp, fun a ha b hb e => ?_⟩
        rw [List.mem_singleton.mp hb] at e
        have e' : a = s0 := e
        exact seen_none hseen (by rw [← e']; exact ha)
      · rcases List.mem_append.mp hp with h | h
        · exact hg.mem p h
        · rw [List.mem_singleton.mp h]; exact hmem
      · rcases List.mem_append.mp hp with h | h
        · exact hg.val p h
        · rw [List.mem_singleton.mp h]
    have hrl2 := low hg2
    rw [List.length_append] at hrl2
    have hrl3 : rd.length + 1 ≤ ns.length := hrl2
    have hN2 := hs2 _ _ hN
    have dg : DGet H2 N (.str (SX.S s0)) (some (.int (ν s0))) := hval ▸ DGet.k (k := kT (SX.S s0)) hN2
    refine ⟨_, rfl, t, _, _, _, rfl, rfl, SqT.of ht, rfl, rfl, _, rfl, iteY rfl ?_⟩
    refine ⟨_, fun σ' H' h => h, ?_⟩
    refine ⟨_, rfl, .inl ⟨rfl, _, SqL.of hR2⟩, _, rfl, t, _, _, _, rfl, rfl, SqT.of ht, rfl, _, rfl, _, rfl, t, _, _, _, rfl, rfl, SqT.of ht, rfl, N, _, rfl, dg, le_line (Nat.le_of_ble_eq_true rfl), fun u nu => ?_⟩
    have su := same_new nu (.tup [.str (SX.S s0), .int (ν s0)])
    refine ⟨R, _, _, rfl, rfl, su _ _ hR2, lt_line (by omega), ?_⟩
    obtain ⟨H3, hH3⟩ : ∃ H3, H3 = upd (upd H2 u (.tup [.str (SX.S s0), .int (ν s0)])) R (.lst (xs ++ [.ref u])) := ⟨_, rfl⟩
    have hs3 : Same H H3 := by rw [hH3]; exact same_upd (hs2.trans su) nR _
    have hR3 : H3 R = some (.lst (xs ++ [.ref u])) := by rw [hH3]; exact upd_same
    have hP3 : Prs H3 (rd ++ [(s0, ν s0)]) (xs ++ [.ref u]) := by rw [hH3]; exact (Prs.snoc (p := (s0, ν s0)) upd_same (hP2.same su)).keep (keep_lst (su _ _ hR2))
    rw [← hH3]
    refine ⟨_, rfl, _, rfl, v, R, r, rd ++ [(s0, ν s0)], _, rfl, hRc.same hs3, hNb, h9, hR3, hP3, by rw [List.length_append]; show rd.length + 1 ≤ 100; omega, hg2.sm, tell (xs := []) hnext fun d H4 hs4 hd4 => ?_⟩
    exact ⟨_, by rw [List.length_append]; show ns.length - (rd.length + 1) < _; omega, d, rd ++ [(s0, ν s0)], _, rfl, hs3.trans hs4, hs4 _ _ hR3, hP3.same hs4, hd4, hg2, rfl⟩
  · refine ⟨_, rfl, t, _, _, _, rfl, rfl, SqT.of ht, rfl, rfl, _, rfl, iteN (sne (by decide +kernel)) ?_⟩
    refine ⟨_, rfl, _, rfl, t, _, _, _, rfl, rfl, SqT.of ht, rfl, le_line (Nat.le_of_ble_eq_true rfl), fun u nu => ?_⟩
    have su := same_new nu (.tup [.ref R, .int x])
    exact q _ u R xs rd x (hs2.trans su) upd_same (su _ _ hR2) (hP2.same su) ho hg (by omega)
end
end Mad
/-! ### try .. except X as n, where the caught error is tracked behind the suite -/
namespace L2
open PySem PySem.Spec PyProof.Rows
def EzO (cls : Value) (d : Option Addr) (a : Addr) : HO := .ext fun h =>
  ∃ (oe : Obj) (vs : Array Value), h.get? a = some oe ∧ Zc cls d oe ∧
    oe.data = .fields vs
theorem ezO_ok {P : Program} {w : World} {H : Hp} {h : Heap} {a : Addr} {cls : Value} {d : Option Addr} {oe : Obj} {vs : Array Value}
    (e : h.get? a = some oe) (z : Zc cls d oe) (k : oe.data = .fields vs) : ObjOk P w H h a (EzO cls d a) :=
  ⟨⟨oe, vs, e, z, k⟩, ⟨oe, e⟩, fun _ _ y r => by
    obtain ⟨o, v, q, t⟩ := y
    exact ⟨o, v, r o q, t⟩⟩
section
variable {X : Cx} {pins : List (Addr × Obj)} {σ : St} {H : Hp} {B : Heap} {sI s' : Shared}
theorem Inv.landedT {a : Addr} {o : HO} (I : Inv X pins σ H sI) (nb : ∀ b u, sI.heap.get? b = some u → b ∉ frs X.stack → B.get? b = some u)
    (st : B.StaysIn s'.heap) (up : sI.heap.UpToSlots s'.heap) (os : s'.os = sI.os) (ag : AllBare s'.gens)
    (n0 : sI.heap.get? a = none) (na : H a = none) (new : ObjOk X.prog X.w (upd H a o) s'.heap a o) : Inv X pins σ (upd H a o) s' := by
  have nf : ∀ b ∈ frs X.stack, ∀ u, sI.heap.get? b = some u → ∃ sl, s'.heap.get? b = some { u with slots := sl } := by
    intro b hb u e
    obtain ⟨_, u', e', hd⟩ := I.stack.mem hb
    rw [e] at e'
    cases e'
    exact up b u e hd
  have U : Un (frs X.stack) [] H (upd H a o) sI.heap s'.heap := by
    refine ⟨fun b u e _ hb _ => st b u (nb b u e hb), fun b u e _ hb _ => nf b hb u e, fun b u e n _ => ?_, fun b u e _ => ?_, fun b xs q => ?_, fun b u xs q => ?_, fun b ps q => ?_⟩
    · have z : b ≠ a := fun z => by rw [z, n0] at e; cases e
      rw [upd_ne z]
      exact n
    · by_cases hb : b ∈ frs X.stack
      · obtain ⟨sl, q⟩ := nf b hb u e
        exact ⟨_, q⟩
      · exact ⟨u, st b u (nb b u e hb)⟩
    · rw [upd_ne (ne_of_none q na)]
      exact q
    · rw [upd_ne (ne_of_none q na)]
      exact q
    · exact ⟨#[], by rw [upd_ne (ne_of_none q na), q]; simp⟩
  have J := I.call (ch := []) (h' := s'.heap) (g' := s'.gens) (t' := s'.toks) (d' := s'.drawn) U
    (HOk.laidN ((I.inGround nb).kept st) (fun _ _ h => h) na new) ag (fun _ z => nomatch z)
  obtain ⟨a1, a2, a3, a4, a5⟩ := s'
  have e5 : a5 = sI.os := os
  subst e5
  exact J
theorem Inv.suiteN {s : Shared} (I : Inv X pins σ H s) (a : Addr) : Inv (X.suite a (X.pn ++ pins)) [] σ H s :=
  ⟨I.ok.suite _ _, I.os, I.bare, I.base, I.loc,
    I.cell, I.free, I.freeC,
    fun p hp => I.pin p (by rw [List.append_nil] at hp; exact hp), I.hok, I.len⟩
theorem Inv.unsuiteN {s : Shared} {a : Addr} (I : Inv (X.suite a (X.pn ++ pins)) [] σ H s) (ok : X.Ok) : Inv X pins σ H s :=
  ⟨ok, I.os, I.bare, I.base, I.loc,
    I.cell, I.free, I.freeC,
    fun p hp => I.pin p (List.mem_append_left _ hp), I.hok, I.len⟩
end
/-- what the clause wishes of an error of the body: slot i is n's; the error is tracked from here on -/
def wKeep (K : PySem.W.Frag) (c : Value) (i : Nat) (ts : Addr → Value → Option Addr → TS) (Wout : WX) (D : Ends) : WX := fun cls d σ H =>
  ∃ b, PySem.W.exmOne K cls c = some b ∧
    (b = true → ∀ a, H a = none → ts a cls d
      { nx := fun σ2 H2 => D.nx (σ2.set i none) H2, rt := D.rt, bk := fun σ2 H2 => D.bk (σ2.set i none) H2, ct := fun σ2 H2 => D.ct (σ2.set i none) H2 }
      (σ.set i (some (.ref a))) (upd H a (EzO cls d a))) ∧
    (b = false → Wout cls d σ H)
section
variable {X : Cx} {x n : Str} {c : Value} {i : Nat} {body suite : List Stmt} {b₀ : Stmt} {np pos pos' : Pos} {tb : WX → TS} {ts : Addr → Value → Option Addr → TS} {Wout : WX}
theorem ps_try_keep (hs : X.stack = X.env :: X.outer) (hf : X.env.frame = some X.env.locals) (hN : X.N.Nodup)
    (hi : X.N[i]? = some n) (hln : X.env.kindOf n = some .local) (hc : Names X x c) (tk : Takes X Wout)
    (hb : ∀ (W : WX) (pn : List (Addr × Obj)) (xe : Value → Shared → Prop), Takes (X.tr pn xe) W →
      PassesOwn (model X.prog X.w) X.A X.env xe → PSs (X.tr pn xe) body (tb W))
    (hsu : ∀ (a : Addr) (cls : Value) (d : Option Addr) (pn : List (Addr × Obj)),
      PSs (X.suite a pn) (b₀ :: suite) (ts a cls d)) :
    PS X (.Try body [.ExceptHandler (some (.Name x np)) (some n) (b₀ :: suite) pos'] [] [] pos)
      (fun D σ H => tb (wKeep X.K c i ts Wout D) D σ H) := by
  refine ⟨fun pins s σ H D I h => ?_⟩
  have okX := I.ok
  have hfr : X.A.frames = some (X.env :: X.outer) := by
    rw [okX.frames, hs]
  have hlc : Loc X.env.scope n := .inl hln
  refine wpAny_Try_except ?_
  refine wpAny_mono
    ((hb (wKeep X.K c i ts Wout D) (X.pn ++ pins)
      (fun e t1 => wpAny (model X.prog X.w) X.A (noteFrame e X.env)
        (fun _ t2 => wpAny (model X.prog X.w) X.A (setFlight e none)
          (fun _ t3 => wpAny (model X.prog X.w) X.A (handleBy e X.env [.ExceptHandler (some (.Name x np)) (some n) (b₀ :: suite) pos']) (SP X pins D) X.xe t3)
          X.xe t2)
        X.xe t1)
      (fun u t xx => ?_) PassesOwn.looking).run [] s σ H D (I.toTry _) h)
    (fun f s1 hsp => ?_) (fun e s1 he => he)
  · obtain ⟨a, B, sI, pn2, σ2, H2, cls, d, rfl, J0, nb, up, sky, na, os, ag, b, hb1, hyes, hno⟩ := xx
    have J : Inv X pins σ2 H2 sI := J0.ofTry okX
    have sky2 : Sky B (X.env :: X.outer) a (Zc cls d) X.env.locals t.heap := by
      rw [← hs]
      exact sky
    show wpAny (model X.prog X.w) X.A (noteFrame (.ref a) X.env) _ _ _
    refine Sky.land Zc.steady hfr hf sky2 fun h3 fl3 up3 => ?_
    have J3 : Inv X pins σ2 H2 { t with heap := h3 } :=
      J.landed nb fl3.1 (up.trans up3) os ag
    obtain ⟨oe3, vs3, he3, hz3, hd3⟩ := fl3.there
    have nfr : a ∉ frs (X.env :: X.outer) := fun hm => by
      obtain ⟨_, o', e', hnf⟩ := fl3.2.2.1.mem hm
      rw [he3] at e'
      cases e'
      exact hnf _ hd3
    have n0 : sI.heap.get? a = none := by
      cases q : sI.heap.get? a with
      | none => rfl
      | some u =>
        have z := nb a u q (by rw [hs]; exact nfr)
        rw [fl3.2.1] at z
        cases z
    have S3 := J3.suiteN a
    refine wpAny_handleBy_cons (codeAny_handlers_test ?_) (by intro q; cases q)
    have LT : PySem.W.Looks (model X.prog X.w) h3 (typeOf (.ref a)) cls := fun A Q E s k q =>
      wpAny_typeOf_ref (k _ _ he3) (by rw [hz3.1]; exact q)
    have LM := PySem.W.exm_one (M := model X.prog X.w) (J3.kIn) LT hb1
    have test : ∀ {Q : Value → Shared → Prop} {E : Value → Shared → Prop}, Q c { t with heap := h3 } →
        wpAny (model X.prog X.w) (X.A.mark (some (.ref a))) (eval (.Name x np) X.env) Q E { t with heap := h3 } := by
      intro Q E q
      obtain ⟨hg, hdbg, hm | ⟨hm, hv, hnn⟩⟩ := hc
      · exact ld_glob (X := X.suite a (X.pn ++ pins)) S3 hg hm q hdbg
      · exact ld_blt (X := X.suite a (X.pn ++ pins)) S3 hg hm hv q hnn hdbg
    refine test (LM.here ?_)
    cases b with
    | true =>
      refine codeAny_handlers_suite_as ?_
      refine HandSPX.lands_againZ fl3 fun h4 fl4 up4 => ?_
      obtain ⟨oe4, vs4, he4, hz4, hd4⟩ := fl4.there
      have J4 : Inv X pins σ2 (upd H2 a (EzO cls d a)) { t with heap := h4 } :=
        J.landedT nb fl4.1 ((up.trans up3).trans up4) os ag n0 na (ezO_ok he4 hz4 hd4)
      have S4 := J4.suiteN a
      refine store_ok (X := X.suite a (X.pn ++ pins)) (v := .ref a) S4 hN hi hlc rfl (fun s5 S5 => ?_) (.inr hln)
      refine wpAny_mono ((hsu a cls d (X.pn ++ pins)).run [] s5 _ _ _ S5 (hyes rfl a na)) (fun f s6 hsp => ?_) (fun _ _ z => False.elim z)
      have fin : ∀ {σ6 : St} {H6 : Hp} {Q : Shared → Prop}, Inv (X.suite a (X.pn ++ pins)) [] σ6 H6 s6 →
          (∀ s7, Inv X pins (σ6.set i none) H6 s7 → Q s7) →
          wpAny (model X.prog X.w) X.A (do bindName X.env n .none; unbindBehindTheSuite X.env n pos') (fun _ s7 => Q s7) X.xe s6 := by
        intro σ6 H6 Q S6 hq
        exact gone_ok (S6.unsuiteN okX) hN hi hln hq
      cases f with
      | ret u =>
        obtain ⟨v6, σ6, H6, S6, r6, q6⟩ := hsp
        exact fin S6 fun s7 J7 => ⟨_, _, _, J7, r6, q6⟩
      | next =>
        obtain ⟨σ6, H6, S6, q6⟩ := hsp
        exact fin S6 fun s7 J7 => ⟨_, _, J7, q6⟩
      | brk =>
        obtain ⟨σ6, H6, S6, q6⟩ := hsp
        exact fin S6 fun s7 J7 => ⟨_, _, J7, q6⟩
      | cont =>
        obtain ⟨σ6, H6, S6, q6⟩ := hsp
        exact fin S6 fun s7 J7 => ⟨_, _, J7, q6⟩
    | false =>
      show wpAny _ X.A (handleBy (.ref a) X.env []) _ _ _
      refine wpAny_handleBy_nil ?_
      obtain ⟨k1, k2, k3, oe, vs, T, oT, ts', he, hz, hd, h1, hr⟩ := id fl3
      unfold PySem.passOn
      refine wpAny_bind (wpAny_field he hd h1 ?_)
      rw [if_neg (show ¬ ((Value.ref T == Value.none) = true) from by simp)]
      have fin : wpAny (model X.prog X.w) X.A (setFlight (.ref a) X.env.frame)
          (fun _ t4 => wpAny (model X.prog X.w) X.A (throw (.ref a) : Sem Flow) (SP X pins D) X.xe t4) X.xe { t with heap := h3 } := by
        rw [hf]
        refine HandSPX.setFlight_upZ fl3 fun h4 hh4 up4 => wpAny_throw (tk _ _ ?_)
        exact ⟨a, B, sI, pins, σ2, H2, cls, d, rfl, J, nb,
          (up.trans up3).trans up4, .inr (.inr (by rw [hs]; exact hh4)), na, os, ag, hno rfl⟩
      first
        | exact wpAny_bind (wpAny_pure (wpAny_bind fin))
        | exact wpAny_bind fin
  · cases f with
    | next =>
      obtain ⟨σ2, H2, J2, q⟩ := hsp
      exact wpAny_execs_nil ⟨σ2, H2, J2.ofTry okX, q⟩
    | brk =>
      obtain ⟨σ2, H2, J2, q⟩ := hsp
      exact ⟨σ2, H2, J2.ofTry okX, q⟩
    | cont =>
      obtain ⟨σ2, H2, J2, q⟩ := hsp
      exact ⟨σ2, H2, J2.ofTry okX, q⟩
    | ret u =>
      obtain ⟨v, σ2, H2, J2, r, q⟩ := hsp
      exact ⟨v, σ2, H2, J2.ofTry okX, r, q⟩
end
/-- the object of a tracked error -/
theorem ezO_inst {X : Cx} {pins : List (Addr × Obj)} {σ : St} {H : Hp} {s : Shared} {a D : Addr} (I : Inv X pins σ H s) (h : H a = some (EzO (.ref D) none a)) :
    ∃ oe, PySem.W.InstAt s.heap a oe D none := by
  obtain ⟨⟨oe, vs, he, hz, hd⟩, _⟩ := (show ObjOk X.prog X.w H s.heap a (EzO (.ref D) none a) from I.hok a _ h)
  obtain ⟨oc, od, oda, osl⟩ := oe
  obtain ⟨h1, h2⟩ := hz
  dsimp only at h1 h2 hd
  subst h1 h2 hd
  exact ⟨_, he, rfl, rfl, trivial⟩
/-- isinstance(e, T), e a tracked error -/
def rIsX (K : PySem.W.Frag) : List V → Hp → VK → Prop := fun xs H Q => ∃ (a D : Addr) (c : V) (cv : Value) (b : Bool),
  xs = [.ref a, c] ∧ H a = some (EzO (.ref D) none a) ∧ ExcC K D ∧ ClsV c cv ∧
  PySem.W.kitOne K (.ref D) cv = some b ∧ Q (.bl b) H
/-- isinstance(e, (T1, T2)) -/
def rIsXT (K : PySem.W.Frag) : List V → Hp → VK → Prop := fun xs H Q => ∃ (a D tp : Addr) (cs : List V) (us : List Value) (b : Bool),
  xs = [.ref a, .ref tp] ∧ H tp = some (.tup cs) ∧ Paired ClsV cs us ∧ H a = some (EzO (.ref D) none a) ∧ ExcC K D ∧
  PySem.W.kitAny K (.ref D) us = some b ∧ Q (.bl b) H
section
variable {X : Cx}
theorem call_isX : CallR X (.builtin "isinstance") (rIsX X.K) := by
  intro pins s σ H xs us Q I r h
  obtain ⟨a, D, c, cv, b, rfl, hH, C, k, e, q⟩ := h
  obtain ⟨u1, u2, rfl, r1, r2⟩ := vals2 r
  have e2 := k.eq r2
  subst e2
  cases r1
  obtain ⟨oe, J⟩ := ezO_inst I hH
  exact PySem.W.kia_one (PySem.W.handS_kitx_exc C.hg C.hk C.hs C.hd C.ha C.hn C.ht C.hm) I.kIn J e (fun z => nomatch z)
    fun tk => ⟨.bl b, H, I.tok tk, rfl, q⟩
theorem call_isXT : CallR X (.builtin "isinstance") (rIsXT X.K) := by
  intro pins s σ H xs us Q I r h
  obtain ⟨a, D, tp, cs, ws, b, rfl, hT, k, hH, C, e, q⟩ := h
  obtain ⟨u1, u2, rfl, r1, r2⟩ := vals2 r
  cases r1
  cases (show u2 = Value.ref tp from r2)
  obtain ⟨oe, J⟩ := ezO_inst I hH
  obtain ⟨_, its, rv, o, h1, h2, n, h3⟩ := (show ObjOk X.prog X.w H s.heap tp (.tup cs) from I.hok tp _ hT)
  have e3 := ClsV.all k rv
  subst e3
  obtain ⟨oc, od, dt, sl⟩ := o
  simp only at h2 h3
  subst h2 h3
  exact PySem.W.kia_tup (PySem.W.handS_kitx_exc C.hg C.hk C.hs C.hd C.ha C.hn C.ht C.hm) I.kIn J h1 e (fun z => nomatch z)
    fun tk => ⟨.bl b, H, I.tok tk, rfl, q⟩
end
end L2
namespace Mad
open PySem PySem.Spec PyProof.Rows L2
/-! ### defs that raise, an own error class without a word of its own -/
theorem IsDef.calX2 {P : Program} {w : World} {K : PySem.W.Frag} {mg : Str → Option Value} {base : Heap} {x : Str} {st : Stmt} {N ps : List Str} {k : Nat} {sp : Sp} (D : IsDef K mg x st ps) (S : FnScope N ps (defScope st)) (len : ∀ vs H Q E, sp vs H Q E → vs.length = ps.length)
    (hbody : ∀ (f : Addr) (cdv : Value) (A : Around) (outer : List Env) (s : Shared) (H : Hp) (vs : List V) (Q : VK) (E : XK), Room k (A.deeper (envOfC x (defScope st) s.heap.objs.size f cdv)) → sp vs H Q E →
      ∃ t, PSs (cxOf (L2.CX P w) P w K mg base N x (defScope st) f cdv A outer s H E) (defBody st) t ∧ t { nx := fun _ H' => Q .non H', rt := Q } (start N vs) H) : Cal P w K mg base (L2.CX P w) (k + 1) x ps sp := by
  obtain ⟨f, fd, F, m, b⟩ := D
  exact ⟨f, fd, F.okX S len fun cdv A outer s H vs Q E => hbody f cdv A outer s H vs Q E, m, F.kp, b⟩
structure NoX (K : PySem.W.Frag) (mg : Str → Option Value) (n : Str) (C : Addr) : Prop where
  x : PySem.W.excIn K C [.type "ValueError", .type "Exception", .type "BaseException", .type "object"] "ValueError.__new__" = true
  g : mg n = some (.ref C)
  k : PySem.W.keepIn K (.ref C) = true
  b : PySem.W.subIn K (.ref C) (.type "BaseException") = some true
  t : PySem.W.typeIn K (.ref C) = some (.type "type")
theorem call_isXK {X : Cx} {K : PySem.W.Frag} (h : X.K = K) : CallR X (.builtin "isinstance") (rIsX K) := by
  subst h
  exact call_isX
/-! ### own classes: methods by their promises -/
/-- the method m of the class at C stands in the text as st says -/
def IsMet (K : PySem.W.Frag) (C : Addr) (m nm : Str) (st : Stmt) (ps : List Str) : Prop := ∃ (f : Addr) (fd : FuncData), Fun K m nm st f fd ∧ Meth K C m f ∧ Binds K fd ps []
def Met (P : Program) (w : World) (K : PySem.W.Frag) (mg : Str → Option Value) (base : Heap) (CX : CXT) (k : Nat) (C : Addr) (m : Str) (ps : List Str) (sp : Sp) : Prop := ∃ (f : Addr) (fd : FuncData), FnOk P w K mg base CX k f fd ps sp ∧ Meth K C m f ∧ Binds K fd ps []
section
variable {P : Program} {w : World} {K : PySem.W.Frag} {mg : Str → Option Value} {base : Heap} {C : Addr}
theorem Met.mono {CX : CXT} {j k : Nat} {m : Str} {ps : List Str} {sp : Sp} (c : Met P w K mg base CX j C m ps sp) (h : j ≤ k) : Met P w K mg base CX k C m ps sp := by
  obtain ⟨f, fd, F, r⟩ := c
  exact ⟨f, fd, F.mono h, r⟩
theorem met_none {m nm : Str} {st : Stmt} {ps : List Str} {sp : Sp} {CX : CXT} {k : Nat} (D : IsMet K C m nm st ps) (no : ∀ vs H Q E, ¬ sp vs H Q E) : Met P w K mg base CX k C m ps sp := by
  obtain ⟨f, fd, F, m, b⟩ := D
  exact ⟨f, fd, ⟨fun vs H Q E h => absurd h (no vs H Q E), fun A outer s H args us vs Q E _ _ _ _ h => absurd h (no vs H Q E)⟩, m, b⟩
theorem IsMet.met {m nm : Str} {st : Stmt} {N ps : List Str} {k : Nat} {sp : Sp} (D : IsMet K C m nm st ps) (S : FnScope N ps (defScope st)) (len : ∀ vs H Q E, sp vs H Q E → vs.length = ps.length)
    (hbody : ∀ (f : Addr) (cdv : Value) (A : Around) (outer : List Env) (s : Shared) (H : Hp) (vs : List V) (Q : VK) (E : XK), Room k (A.deeper (envOfC nm (defScope st) s.heap.objs.size f cdv)) → sp vs H Q E →
      ∃ t, PSs (cxOf CX0 P w K mg base N nm (defScope st) f cdv A outer s H E).nox (defBody st) t ∧ t { nx := fun _ H' => Q .non H', rt := Q } (start N vs) H) : Met P w K mg base CX0 (k + 1) C m ps sp := by
  obtain ⟨f, fd, F, m, b⟩ := D
  exact ⟨f, fd, F.ok S len fun cdv A outer s H vs Q E => hbody f cdv A outer s H vs Q E, m, b⟩
theorem IsMet.metX {m nm : Str} {st : Stmt} {N ps : List Str} {k : Nat} {sp : Sp} (D : IsMet K C m nm st ps) (S : FnScope N ps (defScope st)) (len : ∀ vs H Q E, sp vs H Q E → vs.length = ps.length)
    (hbody : ∀ (f : Addr) (cdv : Value) (A : Around) (outer : List Env) (s : Shared) (H : Hp) (vs : List V) (Q : VK) (E : XK), Room k (A.deeper (envOfC nm (defScope st) s.heap.objs.size f cdv)) → sp vs H Q E →
      ∃ t, PSs (cxOf (L2.CX P w) P w K mg base N nm (defScope st) f cdv A outer s H E) (defBody st) t ∧ t { nx := fun _ H' => Q .non H', rt := Q } (start N vs) H) : Met P w K mg base (L2.CX P w) (k + 1) C m ps sp := by
  obtain ⟨f, fd, F, m, b⟩ := D
  exact ⟨f, fd, F.okX S len fun cdv A outer s H vs Q E => hbody f cdv A outer s H vs Q E, m, b⟩
end
section
variable {X : Cx} {CX : CXT} {k : Nat} {ps : List Str} {sp : Sp} {E : L2.St → XK} {x : Str} {p pos : Pos}
theorem pe_calS {e : Expr} {es : List Expr} {t : TA} (c : Cal X.prog X.w X.K X.mg X.base CX k x ps sp) (hr : Room k X.A) (hx : ∀ σ, PassesAt CX X σ (E σ)) (ha : PA X (e :: es) t) (hg : Gl X x := by rfl)
    (hdb : (x == ("__debug__" : Str)) = false := by decide) (he : starEach (e :: es) X.env = (false, eval e X.env) :: starEach es X.env := by rfl) (hpl : (backTo pos (starEach es X.env)).any (·.1) = false := by rfl) :
    PE X (.Call (.Name x p) (e :: es) [] pos) (tCallS sp E t) := by
  obtain ⟨f, fd, F, m, kp, b⟩ := c
  exact pe_callS F hr hg m kp b hx ha hdb he hpl
end
/-! ### the class Going -/
structure GoT (K : PySem.W.Frag) (mg : Str → Option Value) (C fI : Addr) : Prop where
  cl : Cls K C
  nR : NoAttr K C "reads"
  nH : NoAttr K C "had"
  nL : NoAttr K C "lacking"
  g : mg "Going" = some (.ref C)
  mkI : Mk K C fI
def ObG (H : Hp) (g C R D : Addr) (lk : V) : Prop := ∃ dx fs, H g = some (.ins C dx fs) ∧ fs.lookup ("reads" : Str) = some (.ref R) ∧ fs.lookup ("had" : Str) = some (.ref D) ∧ fs.lookup ("lacking" : Str) = some lk ∧
  fs.lookup ("look" : Str) = none ∧ fs.lookup ("worth" : Str) = none ∧ fs.lookup ("two" : Str) = none ∧ fs.length = 3
theorem ObG.same {H H' : Hp} {g C R D : Addr} {lk : V} (h : ObG H g C R D lk) (s : H' g = H g) : ObG H' g C R D lk := by
  obtain ⟨dx, fs, h1, h2⟩ := h
  exact ⟨dx, fs, s.trans h1, h2⟩
theorem putF_len {f : Str} {v x : V} : ∀ {fs : List (Str × V)}, fs.lookup f = some x → (putF f v fs).length = fs.length
  | [], h => by cases h
  | (g, y) :: r, h => by
    unfold putF
    by_cases c : g = f
    · rw [if_pos c]
      rfl
    · rw [if_neg c]
      have hb : (f == g) = false := beq_eq_false_iff_ne.mpr fun z => c z.symm
      have h' : r.lookup f = some x := by
        rw [List.lookup, hb] at h
        exact h
      show (putF f v r).length + 1 = r.length + 1
      rw [putF_len h']
theorem ObG.lack {H : Hp} {g C R D : Addr} {lk : V} (h : ObG H g C R D lk) (x : V) : ∃ dx fs, H g = some (.ins C dx fs) ∧ fs.length < 1000 ∧ ObG (upd H g (.ins C dx (putF "lacking" x fs))) g C R D x := by
  obtain ⟨dx, fs, h1, h2, h3, h4, h5, h6, h7, h8⟩ := h
  refine ⟨dx, fs, h1, by omega, dx, putF "lacking" x fs, upd_same, ?_, ?_, ?_, ?_, ?_, ?_, ?_⟩
  · rw [lookup_putF, if_neg (by decide +kernel)]; exact h2
  · rw [lookup_putF, if_neg (by decide +kernel)]; exact h3
  · rw [lookup_putF, if_pos rfl]
  · rw [lookup_putF, if_neg (by decide +kernel)]; exact h5
  · rw [lookup_putF, if_neg (by decide +kernel)]; exact h6
  · rw [lookup_putF, if_neg (by decide +kernel)]; exact h7
  · rw [putF_len h4]; exact h8
def Fr2 (a b : Addr) (H H' : Hp) : Prop := ∀ x u, x ≠ a → x ≠ b → H x = some u → H' x = some u
theorem Fr2.refl (a b : Addr) (H : Hp) : Fr2 a b H H := fun _ _ _ _ e => e
theorem Fr2.trans {a b : Addr} {A B C : Hp} (h : Fr2 a b A B) (k : Fr2 a b B C) : Fr2 a b A C := fun x u n m e => k x u n m (h x u n m e)
theorem Fr2.of {a b : Addr} {A B : Hp} (h : Same A B) : Fr2 a b A B := fun x u _ _ e => h x u e
/-- a Going in the work: n reads of rd were looked for -/
def StG (C : Addr) (H : Hp) (g R D : Addr) (rd : List Pr) (n : Nat) : Prop := ObG H g C R D .non ∧ H D = some (.dK (numsK (rd.take n))) ∧ ∃ xs, H R = some (.lst xs) ∧ Prs H rd xs
theorem StG.keep {C : Addr} {H H' : Hp} {g R D : Addr} {rd : List Pr} {n : Nat} (k : StG C H g R D rd n) (f : Fr2 g D H H') : Keep H H' := by
  obtain ⟨⟨dx, fs, h1, _⟩, h2, _⟩ := k
  exact fun b ys e => f b _ (fun z => by rw [z, h1] at e; cases e) (fun z => by rw [z, h2] at e; cases e) e
def TellG (Q : VK) (E : XK) (C CN : Addr) (rd : List Pr) (g R D : Addr) (H : Hp) (res : Res) : Prop :=
  (∀ v m H', res = .ok v m → Fr2 g D H H' → StG C H' g R D rd m → Q (.int v) H') ∧
  (∀ t H', res = .lack t → Fr2 g D H H' → ObG H' g C R D (.str (SX.S t)) → Q .non H') ∧
  (∀ H', res = .bad → Fr2 g D H H' → E (.ref CN) none H')
def spGInit (C : Addr) : Sp := fun vs H Q _ => ∃ (g R dx : Addr), vs = [.ref g, .ref R] ∧ H g = some (.ins C dx []) ∧ ∀ (D : Addr) (H' : Hp), H D = none → ObG H' g C R D .non → H' D = some (.dK []) → (∀ b o, b ≠ g → H b = some o → H' b = some o) → Q .non H'
def spGLook (C CN : Addr) : Sp := fun vs H Q E => ∃ (g R D : Addr) (s : List Nat) (rd : List Pr) (n : Nat), vs = [.ref g, .str (SX.S s)] ∧ StG C H g R D rd n ∧ n ≤ rd.length ∧ rd.length ≤ 100 ∧ TellG Q E C CN rd g R D H (lookG rd n s)
section
variable {P : Program} {w : World} {K : PySem.W.Frag} {mg : Str → Option Value} {base : Heap} {C fI CN : Addr}
abbrev s_Going___init__ : Stmt := inClass (topS 10) 0
abbrev N_Going___init__ : List Str := ["self", "reads"]
theorem sc_Going___init__ : FnScope N_Going___init__ ["self", "reads"] (defScope s_Going___init__) := ⟨rfl, rfl, rfl, by decide +kernel, rfl, by decide +kernel, by decide +kernel⟩

theorem ok_Going_init (T : Txt K mg) (ZGoing : GoT K mg C fI) {fd : FuncData} (F : Fun K "__init__" "Going.__init__" s_Going___init__ fI fd) : FnOk P w K mg base CX0 1 fI fd ["self", "reads"] (spGInit C) := by
  refine F.ok sc_Going___init__ (fun vs H Q E h => ?_) (fun cdv A outer s H vs Q E hr h => ?_)
  · obtain ⟨g, R, dx, rfl, _⟩ := h
    rfl
  obtain ⟨g, R, dx, rfl, hg, q⟩ := h
  refine ⟨_, (pss_cons (ps_fld (pv 0) (pv 1) rfl)
      (pss_cons (ps_fld (pv 0) pe_dnewK rfl)
      (pss_one (ps_fld (pv 0) pe_non rfl)))), ?_⟩
  refine ⟨_, rfl, _, rfl, g, C, dx, _, rfl, hg, ZGoing.cl, ZGoing.nR, (by show 0 < 1000; decide), ?_⟩
  refine fun D nD => ?_
  have ngD : g ≠ D := ne_of_none (H := upd H g (.ins C dx (putF "reads" (.ref R) []))) upd_same nD
  refine ⟨_, rfl, g, C, dx, _, rfl, (by rw [upd_ne ngD]; exact upd_same), ZGoing.cl, ZGoing.nH, (by show 1 < 1000; decide), _, rfl, g, C, dx, _, rfl, upd_same, ZGoing.cl, ZGoing.nL, ?_, ?_⟩
  · show (putF "had" (.ref D) [(("reads" : Str), V.ref R)]).length < 1000
    unfold putF
    rw [if_neg (by decide +kernel)]
    show 2 < 1000
    decide
  have e3 : putF "lacking" .non (putF "had" (.ref D) (putF "reads" (.ref R) [])) = ([("reads", .ref R), ("had", .ref D), ("lacking", .non)] : List (Str × V)) := by
    show putF "lacking" .non (putF "had" (.ref D) [(("reads" : Str), V.ref R)]) = _
    rw [show putF "had" (.ref D) [(("reads" : Str), V.ref R)] = [(("reads" : Str), V.ref R), ("had", .ref D)] by unfold putF; rw [if_neg (by decide +kernel)]; rfl]
    unfold putF
    rw [if_neg (by decide +kernel)]
    unfold putF
    rw [if_neg (by decide +kernel)]
    rfl
  have nD0 : H D = none := by rw [upd_ne ngD.symm] at nD; exact nD
  refine q D _ nD0 ⟨dx, _, upd_same, ?_⟩ (by rw [upd_ne ngD.symm, upd_ne ngD.symm]; exact upd_same) (fun b o nb e => ?_)
  · have lk : ∀ f : Str, (putF "lacking" V.non (putF "had" (.ref D) (putF "reads" (.ref R) []))).lookup f = if f = "lacking" then some .non else if f = "had" then some (.ref D) else if f = "reads" then some (.ref R) else none := fun f => by
      rw [lookup_putF, lookup_putF, lookup_putF]
      rfl
    refine ⟨?_, ?_, ?_, ?_, ?_, ?_, by rw [e3]; rfl⟩
    · rw [lk, if_neg (by decide +kernel), if_neg (by decide +kernel), if_pos rfl]
    · rw [lk, if_neg (by decide +kernel), if_pos rfl]
    · rw [lk, if_pos rfl]
    · rw [lk, if_neg (by decide +kernel), if_neg (by decide +kernel), if_neg (by decide +kernel)]
    · rw [lk, if_neg (by decide +kernel), if_neg (by decide +kernel), if_neg (by decide +kernel)]
    · rw [lk, if_neg (by decide +kernel), if_neg (by decide +kernel), if_neg (by decide +kernel)]
  · rw [upd_ne nb, upd_ne nb, upd_ne (fun z => by rw [z, nD0] at e; cases e), upd_ne nb]
    exact e
abbrev s_Going_look : Stmt := inClass (topS 10) 1
abbrev N_Going_look : List Str := ["self", "name", "read", "number"]
theorem sc_Going_look : FnScope N_Going_look ["self", "name"] (defScope s_Going_look) := ⟨rfl, rfl, rfl, by decide +kernel, rfl, by decide +kernel, by decide +kernel⟩

theorem ok_Going_look (T : Txt K mg) (ZGoing : GoT K mg C fI) (XNoRead : NoX K mg "NoRead" CN) (D : IsMet K C "look" "Going.look" s_Going_look ["self", "name"]) : Met P w K mg base (L2.CX P w) 1 C "look" ["self", "name"] (spGLook C CN) := by
  refine D.metX sc_Going_look (fun vs H Q E h => ?_) (fun f cdv A outer s H vs Q E hr h => ?_)
  · obtain ⟨g, R, D, s, rd, n, rfl, _⟩ := h
    rfl
  obtain ⟨g, R, D, s0, rd, n, rfl, ⟨hO, hD, xs, hR, hP⟩, hn, h100, q1, q2, q3⟩ := h
  have hu : (cxOf (L2.CX P w) P w K mg base N_Going_look "Going.look" (defScope s_Going_look) f cdv A outer s H E).A.units + 1 < cLine := Nat.lt_of_le_of_lt (Nat.add_le_add_left (by decide : 1 ≤ 64) _) hr.units
  refine ⟨_, (pss_cons (ps_if (pt_cmp (pc_din hu (pv 1) (pe_fld (pv 0) rfl)))
        (pss_one (ps_ret (pe_dget hu (pe_fld (pv 0) rfl) (pv 1) (fun _ _ => rfl))))
        pss_nil)
      (pss_cons (ps_if (pt_cmpR op_eq (pe_callB call_lenD (by rfl) T.b_len PySem.boot_len (pa_cons (pe_fld (pv 0) rfl) pa_nil)) (pe_callB call_len_seq (by rfl) T.b_len PySem.boot_len (pa_cons (pe_fld (pv 0) rfl) pa_nil)) (nomark _))
        (pss_cons (ps_fld (pv 0) (pv 1) rfl)
      (pss_one (ps_ret pe_non)))
        pss_nil)
      (pss_cons (ps_asg (pe_ix (r := rIxL K) ix_list (pe_fld (pv 0) rfl) (pe_callB call_lenD (by rfl) T.b_len PySem.boot_len (pa_cons (pe_fld (pv 0) rfl) pa_nil)) (fun _ _ => rfl)) (pg_tup rfl (pgs_cons (pg_name (i := 2) sc_Going_look.nd rfl (Or.inl rfl)) (pgs_cons (pg_name (i := 3) sc_Going_look.nd rfl (Or.inl rfl)) pgs_nil))))
      (pss_cons (ps_if (pt_cmpR op_ne (pv 2) (pv 1) (nomark _))
        (pss_one (ps_raise rfl (takes_of rfl rfl rfl rfl) (pmk_own PySem.F.excBase_ValueError XNoRead.x XNoRead.g XNoRead.k (raises_own XNoRead.b XNoRead.t) rfl)))
        pss_nil)
      (pss_cons (ps_dput hu (pe_fld (pv 0) rfl) (pv 1) (pv 3) rfl)
      (pss_one (ps_ret (pv 3)))))))), ?_⟩
  obtain ⟨dx, fs, hg, l1, l2, l3, l4, l5, l6, l7⟩ := id hO
  have ngD : g ≠ D := fun z => by rw [z, hD] at hg; cases hg
  have hln : (numsK (rd.take n)).length = n := by rw [numsK_len, List.length_take]; omega
  have hxl := hP.len
  refine ⟨_, rfl, _, rfl, g, C, dx, _, _, rfl, hg, ZGoing.cl, ZGoing.nH, l2, D, _, rfl, DGet.k (k := kT (SX.S s0)) hD, _, rfl, ?_⟩
  rw [val_seen]
  cases e : seen (rd.take n) s0 with
  | some v =>
    have dV : DGet H D (.str (SX.S s0)) (some (.int v)) := (show valV (numsK (rd.take n)) (kT (SX.S s0)) = some (.int v) by rw [val_seen, e]; rfl) ▸ DGet.k (k := kT (SX.S s0)) hD
    refine iteT ?_
    exact ⟨_, rfl, g, C, dx, _, _, rfl, hg, ZGoing.cl, ZGoing.nH, l2, _, rfl, D, _, rfl, dV, q1 v n H (lookG_seen e) (Fr2.refl g D H) ⟨hO, hD, xs, hR, hP⟩⟩
  | none =>
    refine iteF ?_
    refine ⟨_, rfl, g, C, dx, _, _, rfl, hg, ZGoing.cl, ZGoing.nH, l2, D, _, rfl, hD, _, rfl, g, C, dx, _, _, rfl, hg, ZGoing.cl, ZGoing.nR, l1, R, _, rfl, .inl (SqL.of hR), rfl, _, rfl, ?_⟩
    rw [hln, hxl]
    by_cases c : n = rd.length
    · refine iteY (by rw [c]) ?_
      obtain ⟨dx', fs', hg', hl', hO'⟩ := hO.lack (.str (SX.S s0))
      refine ⟨_, rfl, _, rfl, g, C, dx', _, rfl, hg', ZGoing.cl, ZGoing.nL, hl', ?_⟩
      exact q2 s0 _ (lookG_last e (List.getElem?_eq_none (by omega))) (fun x u n1 _ e => by rw [upd_ne n1]; exact e) hO'
    · refine iteN (fun z => c (by have := V.int.inj z; omega)) ?_
      have hlt : n < rd.length := by omega
      have e2 : rd[n]? = some rd[n] := List.getElem?_eq_getElem hlt
      obtain ⟨p, hp⟩ : ∃ p, p = rd[n] := ⟨_, rfl⟩
      rw [← hp] at e2
      have hxn : xs[n]? = some xs[n] := List.getElem?_eq_getElem (by omega)
      obtain ⟨p', t, hp', ht0, ht⟩ := hP.at hxn
      obtain rfl : p' = p := Option.some.inj (hp'.symm.trans e2)
      rw [ht0] at hxn
      refine ⟨_, rfl, g, C, dx, _, _, rfl, hg, ZGoing.cl, ZGoing.nR, l1, _, rfl, g, C, dx, _, _, rfl, hg, ZGoing.cl, ZGoing.nH, l2, D, _, rfl, hD, R, _, _, _, rfl, rfl, SqL.of hR, by rw [hln]; exact atI_nat hxn, t, _, rfl, SqT.of ht, rfl, _, _, rfl, _, _, rfl, rfl, ?_⟩
      refine ⟨_, rfl, _, rfl, rfl, _, rfl, ?_⟩
      by_cases cp : p'.1 = s0
      · refine not_true_eq (decide_eq_true (by rw [cp])) ?_
        have etk : rd.take (n + 1) = rd.take n ++ [(s0, p'.2)] := by
          rw [List.take_add_one, e2, ← cp]
          rfl
        refine ⟨_, rfl, _, rfl, g, C, dx, _, _, rfl, hg, ZGoing.cl, ZGoing.nH, l2, _, rfl, D, _, rfl, DPut.k (k := kT (SX.S s0)) hD (lt_line (by omega)), ?_⟩
        rw [nums_put e, ← etk]
        have nRD : R ≠ D := fun z => by rw [z, hD] at hR; cases hR
        refine ⟨_, rfl, q1 p'.2 (n + 1) _ (lookG_right e e2 cp) (fun x u _ n2 e => by rw [upd_ne n2]; exact e) ⟨hO.same (upd_ne ngD), upd_same, xs, by rw [upd_ne nRD]; exact hR, hP.keep fun b zs e => ?_⟩⟩
        have nb : b ≠ D := fun z => by rw [z, hD] at e; cases e
        rw [upd_ne nb]
        exact e
      · refine not_false_eq (decide_eq_false fun z => cp (strS_inj z)) ?_
        exact q3 _ (lookG_bad e e2 cp) (Fr2.refl g D H)
end
/-! ### Going through a recipe; behind -/
theorem StG.same {C : Addr} {H H' : Hp} {g R D : Addr} {rd : List Pr} {n : Nat} (k : StG C H g R D rd n) (s : Same H H') : StG C H' g R D rd n := by
  obtain ⟨⟨dx, fs, h1, h2⟩, h3, xs, h4, h5⟩ := k
  exact ⟨⟨dx, fs, s _ _ h1, h2⟩, s _ _ h3, xs, s _ _ h4, h5.same s⟩
def spGTwo (C CN : Addr) (j : Nat) : Sp := fun vs H Q E => ∃ (g R D : Addr) (k : Kd) (x : Int) (v : V) (b : Rcp) (rd : List Pr) (m e : Nat), vs = [.ref g, .str k.name, .int x, v] ∧ Rec H b v ∧ b.Nb ∧ b.dep ≤ j ∧ b.dep ≤ 9 ∧ StG C H g R D rd m ∧ m ≤ rd.length ∧ rd.length ≤ 100 ∧ Small rd ∧ 0 < e ∧ e ≤ 204800 ∧ x.natAbs < 2 ^ e ∧
  TellG Q E C CN rd g R D H ((go rd b m).bind fun y l => .ok (k.ap x y) l)
def spGWorth (C CN : Addr) (j : Nat) : Sp := fun vs H Q E => ∃ (g R D : Addr) (v : V) (r : Rcp) (rd : List Pr) (n : Nat), vs = [.ref g, v] ∧ Rec H r v ∧ r.Nb ∧ r.dep ≤ j ∧ r.dep ≤ 9 ∧ StG C H g R D rd n ∧ n ≤ rd.length ∧ rd.length ≤ 100 ∧ Small rd ∧ TellG Q E C CN rd g R D H (go rd r n)
section
variable {P : Program} {w : World} {K : PySem.W.Frag} {mg : Str → Option Value} {base : Heap} {C fI CN : Addr}
abbrev s_Going_two : Stmt := inClass (topS 10) 2
abbrev N_Going_two : List Str := ["self", "kind", "one", "r", "other"]
theorem sc_Going_two : FnScope N_Going_two ["self", "kind", "one", "r"] (defScope s_Going_two) := ⟨rfl, rfl, rfl, by decide +kernel, rfl, by decide +kernel, by decide +kernel⟩

theorem ok_Going_two {j : Nat} (T : Txt K mg) (ZGoing : GoT K mg C fI) (D : IsMet K C "two" "Going.two" s_Going_two ["self", "kind", "one", "r"]) (MW : Met P w K mg base (L2.CX P w) (2 * j + 1) C "worth" ["self", "r"] (spGWorth C CN j)) :
    Met P w K mg base (L2.CX P w) (2 * j + 2) C "two" ["self", "kind", "one", "r"] (spGTwo C CN j) := by
  obtain ⟨f_w, fd_w, F_Going_worth, M_Going_worth, B_Going_worth⟩ := MW
  refine D.metX sc_Going_two (fun vs H Q E h => ?_) (fun f cdv A outer s H vs Q E hr h => ?_)
  · obtain ⟨g, R, D, k, x, v, b, rd, m, e, rfl, _⟩ := h
    rfl
  obtain ⟨g, R, D, k, x, v, b, rd, m, e, rfl, hRc, hNb, hd, h9, hS, hm, h100, hsm, e0, e1, ex, q1, q2, q3⟩ := h
  refine ⟨_, (pss_cons (ps_set (i := 4) sc_Going_two.nd rfl (Or.inl rfl) (pe_meth (pv 0) ZGoing.cl M_Going_worth F_Going_worth (hr.mono (by first | decide | omega)) B_Going_worth .nil (passes_call (takes_of rfl rfl rfl rfl) (fun _ _ _ _ h => h)) (pa_cons (pv 3) pa_nil)))
      (pss_cons (ps_if (pt_cmpR op_isN (pv 4) pe_non (nomark _))
        (pss_one (ps_ret pe_non))
        pss_nil)
      (pss_cons (ps_if (pt_cmpR op_eq (pv 1) pe_str (nomark _))
        (pss_one (ps_ret (pe_op op_add (pv 2) (pv 4))))
        pss_nil)
      (pss_cons (ps_if (pt_cmpR op_eq (pv 1) pe_str (nomark _))
        (pss_one (ps_ret (pe_op op_sub (pv 2) (pv 4))))
        pss_nil)
      (pss_cons (ps_if (pt_cmpR op_eq (pv 1) pe_str (nomark _))
        (pss_one (ps_ret (pe_op op_mulW (pv 2) (pv 4))))
        pss_nil)
      (pss_one (ps_ret (pe_callB (call_max2 rfl) (by rfl) T.b_max (by decide +kernel) (pa_cons (pv 2) (pa_cons (pv 4) pa_nil)))))))))), ?_⟩
  obtain ⟨dx, fs, hg, _, _, _, _, l5, _⟩ := hS.1
  refine ⟨_, rfl, g, dx, fs, rfl, hg, l5, _, rfl, g, R, D, v, b, rd, m, rfl, hRc, hNb, hd, h9, hS, hm, h100, hsm, ?_, ?_, ?_⟩
  · intro y l H1 h1 f1 S1
    obtain ⟨_, _, d, d0, d1, dy⟩ := go_small hsm hNb h9 hm h1
    have q1' := q1 (k.ap x y) l H1 (by rw [h1]; rfl) f1 S1
    refine ⟨_, rfl, rfl, _, rfl, iteN (fun z => by cases z) ?_⟩
    cases k with
    | plus => exact ⟨_, rfl, rfl, _, rfl, iteY rfl ⟨_, rfl, _, rfl, _, _, rfl, rfl, q1'⟩⟩
    | minus => exact ⟨_, rfl, rfl, _, rfl, iteN (sne (by decide +kernel)) ⟨_, rfl, rfl, _, rfl, iteY rfl ⟨_, rfl, _, rfl, _, _, rfl, rfl, q1'⟩⟩⟩
    | times => exact ⟨_, rfl, rfl, _, rfl, iteN (sne (by decide +kernel)) ⟨_, rfl, rfl, _, rfl, iteN (sne (by decide +kernel)) ⟨_, rfl, rfl, _, rfl, iteY rfl ⟨_, rfl, _, rfl, _, _, rfl, rfl, wide_mul ex dy e0 d0 (by omega), q1'⟩⟩⟩⟩
    | most => exact ⟨_, rfl, rfl, _, rfl, iteN (sne (by decide +kernel)) ⟨_, rfl, rfl, _, rfl, iteN (sne (by decide +kernel)) ⟨_, rfl, rfl, _, rfl, iteN (sne (by decide +kernel)) ⟨_, rfl, _, rfl, _, _, rfl, q1'⟩⟩⟩⟩
  · intro t H1 h1 f1 O1
    exact ⟨_, rfl, rfl, _, rfl, iteY rfl (q2 t H1 (by rw [h1]; rfl) f1 O1)⟩
  · intro H1 h1 f1
    exact q3 H1 (by rw [h1]; rfl) f1
abbrev s_Going_worth : Stmt := inClass (topS 10) 3
abbrev N_Going_worth : List Str := ["self", "r", "one"]
theorem sc_Going_worth : FnScope N_Going_worth ["self", "r"] (defScope s_Going_worth) := ⟨rfl, rfl, rfl, by decide +kernel, rfl, by decide +kernel, by decide +kernel⟩

theorem ok_Going_worth (T : Txt K mg) (ZGoing : GoT K mg C fI) (D : IsMet K C "worth" "Going.worth" s_Going_worth ["self", "r"]) (D2 : IsMet K C "two" "Going.two" s_Going_two ["self", "kind", "one", "r"]) (ML : Met P w K mg base (L2.CX P w) 1 C "look" ["self", "name"] (spGLook C CN)) :
    ∀ j, Met P w K mg base (L2.CX P w) (2 * j + 1) C "worth" ["self", "r"] (spGWorth C CN j)
  | 0 => met_none D fun vs H Q E h => by
    obtain ⟨_, _, _, _, r, _, _, _, _, _, hd, _⟩ := h
    have := dep_pos r
    omega
  | j + 1 => by
    have MW := ok_Going_worth T ZGoing D D2 ML j
    have M2 := ok_Going_two T ZGoing D2 MW
    obtain ⟨f_w, fd_w, F_Going_worth, M_Going_worth, B_Going_worth⟩ := MW
    obtain ⟨f_t, fd_t, F_Going_two, M_Going_two, B_Going_two⟩ := M2
    obtain ⟨f_l, fd_l, F_Going_look, M_Going_look, B_Going_look⟩ := ML
    refine D.metX (k := 2 * j + 2) sc_Going_worth (fun vs H Q E h => ?_) (fun f cdv A outer s H vs Q E hr h => ?_)
    · obtain ⟨g, R, D, v, r, rd, n, rfl, _⟩ := h
      rfl
    obtain ⟨g, R, D, v, r, rd, n, rfl, hRc, hNb, hd, h9, hS, hn, h100, hsm, q1, q2, q3⟩ := h
    refine ⟨_, (pss_cons (ps_if (pt_cmpR op_eq (pe_ix (r := rIxT K) ix_tup (pv 1) pe_int (fun _ _ => rfl)) pe_str (nomark _))
        (pss_one (ps_ret (pe_ix (r := rIxT K) ix_tup (pv 1) pe_int (fun _ _ => rfl))))
        pss_nil)
      (pss_cons (ps_if (pt_cmpR op_eq (pe_ix (r := rIxT K) ix_tup (pv 1) pe_int (fun _ _ => rfl)) pe_str (nomark _))
        (pss_one (ps_ret (pe_meth (pv 0) ZGoing.cl M_Going_look F_Going_look (hr.mono (by first | decide | omega)) B_Going_look .nil (passes_call (takes_of rfl rfl rfl rfl) (fun _ _ _ _ h => h)) (pa_cons (pe_ix (r := rIxT K) ix_tup (pv 1) pe_int (fun _ _ => rfl)) pa_nil))))
        pss_nil)
      (pss_cons (ps_set (i := 2) sc_Going_worth.nd rfl (Or.inl rfl) (pe_meth (pv 0) ZGoing.cl M_Going_worth F_Going_worth (hr.mono (by first | decide | omega)) B_Going_worth .nil (passes_call (takes_of rfl rfl rfl rfl) (fun _ _ _ _ h => h)) (pa_cons (pe_ix (r := rIxT K) ix_tup (pv 1) pe_int (fun _ _ => rfl)) pa_nil)))
      (pss_cons (ps_if (pt_cmpR op_isN (pv 2) pe_non (nomark _))
        (pss_one (ps_ret pe_non))
        pss_nil)
      (pss_cons (ps_if (pt_cmpR op_eq (pe_ix (r := rIxT K) ix_tup (pv 1) pe_int (fun _ _ => rfl)) pe_str (nomark _))
        (pss_one (ps_ret (pe_meth (pv 0) ZGoing.cl M_Going_look F_Going_look (hr.mono (by first | decide | omega)) B_Going_look .nil (passes_call (takes_of rfl rfl rfl rfl) (fun _ _ _ _ h => h)) (pa_cons (pe_ix (r := rIxT K) ix_tup (pe_ix (r := rIxT K) ix_tup (pv 1) pe_int (fun _ _ => rfl)) (pe_op op_mod (pv 2) (pe_callB call_len_seq (by rfl) T.b_len PySem.boot_len (pa_cons (pe_ix (r := rIxT K) ix_tup (pv 1) pe_int (fun _ _ => rfl)) pa_nil))) (fun _ _ => rfl)) pa_nil))))
        pss_nil)
      (pss_cons (ps_if (pt_cmpR op_eq (pe_ix (r := rIxT K) ix_tup (pv 1) pe_int (fun _ _ => rfl)) pe_str (nomark _))
        (pss_one (ps_ret (pe_meth (pv 0) ZGoing.cl M_Going_worth F_Going_worth (hr.mono (by first | decide | omega)) B_Going_worth .nil (passes_call (takes_of rfl rfl rfl rfl) (fun _ _ _ _ h => h)) (pa_cons (pe_ix (r := rIxT K) ix_tup (pv 1) (pe_op op_add pe_int (pe_callTy call_int1 (by rfl) T.b_int (by decide +kernel) (pa_cons (pe_cmpR op_le (pv 2) pe_int (nomark _)) pa_nil))) (fun _ _ => rfl)) pa_nil))))
        pss_nil)
      (pss_one (ps_ret (pe_meth (pv 0) ZGoing.cl M_Going_two F_Going_two (hr.mono (by first | decide | omega)) B_Going_two .nil (passes_call (takes_of rfl rfl rfl rfl) (fun _ _ _ _ h => h)) (pa_cons (pe_ix (r := rIxT K) ix_tup (pv 1) pe_int (fun _ _ => rfl)) (pa_cons (pv 2) (pa_cons (pe_ix (r := rIxT K) ix_tup (pv 1) pe_int (fun _ _ => rfl)) pa_nil)))))))))))), ?_⟩
    obtain ⟨dx, fs, hg, _, _, _, l4, l5, l6, _⟩ := id hS.1
    cases r with
    | num x =>
      obtain ⟨p, rfl, hp⟩ := hRc
      refine ⟨_, rfl, p, _, _, _, rfl, rfl, SqT.of hp, rfl, rfl, _, rfl, iteY rfl ?_⟩
      exact ⟨_, rfl, p, _, _, _, rfl, rfl, SqT.of hp, rfl, q1 x n H rfl (Fr2.refl g D H) hS⟩
    | read s0 =>
      obtain ⟨p, rfl, hp⟩ := hRc
      refine ⟨_, rfl, p, _, _, _, rfl, rfl, SqT.of hp, rfl, rfl, _, rfl, iteN (sne (by decide +kernel)) ?_⟩
      refine ⟨_, rfl, p, _, _, _, rfl, rfl, SqT.of hp, rfl, rfl, _, rfl, iteY rfl ?_⟩
      exact ⟨_, rfl, g, dx, fs, rfl, hg, l4, _, rfl, p, _, _, _, rfl, rfl, SqT.of hp, rfl, g, R, D, s0, rd, n, rfl, hS, hn, h100, q1, q2, q3⟩
    | two k a b =>
      obtain ⟨p, x, y, rfl, hp, ha, hb⟩ := hRc
      have hd1 : a.dep ≤ j ∧ b.dep ≤ j ∧ a.dep ≤ 9 ∧ b.dep ≤ 9 := by
        have e : (Rcp.two k a b).dep = max a.dep b.dep + 1 := rfl
        omega
      refine ⟨_, rfl, p, _, _, _, rfl, rfl, SqT.of hp, rfl, rfl, _, rfl, iteN (sne (by cases k <;> decide +kernel)) ?_⟩
      refine ⟨_, rfl, p, _, _, _, rfl, rfl, SqT.of hp, rfl, rfl, _, rfl, iteN (sne (by cases k <;> decide +kernel)) ?_⟩
      refine ⟨_, rfl, g, dx, fs, rfl, hg, l5, _, rfl, p, _, _, _, rfl, rfl, SqT.of hp, rfl, g, R, D, x, a, rd, n, rfl, ha, hNb.1, hd1.1, hd1.2.2.1, hS, hn, h100, hsm, ?_⟩
      refine ⟨fun vx m H1 h1 f1 S1 => ?_, fun t H1 h1 f1 O1 => ⟨_, rfl, rfl, _, rfl, iteY rfl (q2 t H1 (by show Res.bind _ _ = _; rw [h1]; rfl) f1 O1)⟩, fun H1 h1 f1 => q3 H1 (by show Res.bind _ _ = _; rw [h1]; rfl) f1⟩
      obtain ⟨_, hm, e1, e10, e11, e12⟩ := go_small hsm hNb.1 hd1.2.2.1 hn h1
      have k1 := hS.keep f1
      have hp1 := k1 _ _ hp
      obtain ⟨dx1, fs1, hg1, _, _, _, l41, l51, l61, _⟩ := id S1.1
      have e0 : go rd (.two k a b) n = (go rd b m).bind fun vy l => .ok (k.ap vx vy) l := by show Res.bind _ _ = _; rw [h1]; rfl
      rw [e0] at q1 q2 q3
      refine ⟨_, rfl, rfl, _, rfl, iteN (fun z => by cases z) ?_⟩
      refine ⟨_, rfl, p, _, _, _, rfl, rfl, SqT.of hp1, rfl, rfl, _, rfl, iteN (sne (by cases k <;> decide +kernel)) ?_⟩
      refine ⟨_, rfl, p, _, _, _, rfl, rfl, SqT.of hp1, rfl, rfl, _, rfl, iteN (sne (by cases k <;> decide +kernel)) ?_⟩
      refine ⟨_, rfl, g, dx1, fs1, rfl, hg1, l61, _, rfl, p, _, _, _, rfl, rfl, SqT.of hp1, rfl, _, rfl, _, rfl, p, _, _, _, rfl, rfl, SqT.of hp1, rfl, g, R, D, k, vx, y, b, rd, m, e1, rfl, hb.keep k1, hNb.2, hd1.2.1, hd1.2.2.2, S1, hm, h100, hsm, e10, e11, e12, ?_⟩
      exact ⟨fun v m' H' h f S => q1 v m' H' h (f1.trans f) S, fun t H' h f O => q2 t H' h (f1.trans f) O, fun H' h f => q3 H' h (f1.trans f)⟩
    | pick a b c =>
      obtain ⟨p, x, y, z, rfl, hp, ha, hb, hc⟩ := hRc
      have hd1 : a.dep ≤ j ∧ b.dep ≤ j ∧ c.dep ≤ j ∧ a.dep ≤ 9 ∧ b.dep ≤ 9 ∧ c.dep ≤ 9 := by
        have e : (Rcp.pick a b c).dep = max a.dep (max b.dep c.dep) + 1 := rfl
        omega
      refine ⟨_, rfl, p, _, _, _, rfl, rfl, SqT.of hp, rfl, rfl, _, rfl, iteN (sne (by decide +kernel)) ?_⟩
      refine ⟨_, rfl, p, _, _, _, rfl, rfl, SqT.of hp, rfl, rfl, _, rfl, iteN (sne (by decide +kernel)) ?_⟩
      refine ⟨_, rfl, g, dx, fs, rfl, hg, l5, _, rfl, p, _, _, _, rfl, rfl, SqT.of hp, rfl, g, R, D, x, a, rd, n, rfl, ha, hNb.1, hd1.1, hd1.2.2.2.1, hS, hn, h100, hsm, ?_⟩
      refine ⟨fun vx m H1 h1 f1 S1 => ?_, fun t H1 h1 f1 O1 => ⟨_, rfl, rfl, _, rfl, iteY rfl (q2 t H1 (by show Res.bind _ _ = _; rw [h1]; rfl) f1 O1)⟩, fun H1 h1 f1 => q3 H1 (by show Res.bind _ _ = _; rw [h1]; rfl) f1⟩
      obtain ⟨_, hm, _⟩ := go_small hsm hNb.1 hd1.2.2.2.1 hn h1
      have k1 := hS.keep f1
      have hp1 := k1 _ _ hp
      obtain ⟨dx1, fs1, hg1, _, _, _, l41, l51, l61, _⟩ := id S1.1
      have e0 : go rd (.pick a b c) n = if vx > 0 then go rd b m else go rd c m := by show Res.bind _ _ = _; rw [h1]; rfl
      rw [e0] at q1 q2 q3
      refine ⟨_, rfl, rfl, _, rfl, iteN (fun z => by cases z) ?_⟩
      refine ⟨_, rfl, p, _, _, _, rfl, rfl, SqT.of hp1, rfl, rfl, _, rfl, iteN (sne (by decide +kernel)) ?_⟩
      refine ⟨_, rfl, p, _, _, _, rfl, rfl, SqT.of hp1, rfl, rfl, _, rfl, iteY rfl ?_⟩
      by_cases c0 : vx > 0
      · rw [if_pos c0] at q1 q2 q3
        refine ⟨_, rfl, g, dx1, fs1, rfl, hg1, l51, _, rfl, _, rfl, _, _, rfl, rfl, .inr ⟨_, rfl, _, _, rfl, rfl, p, _, _, y, rfl, rfl, SqT.of hp1, ?_, g, R, D, y, b, rd, m, rfl, hb.keep k1, hNb.2.1, hd1.2.1, hd1.2.2.2.2.1, S1, hm, h100, hsm, ?_⟩⟩
        · show atI [.str "pick", x, y, z] (2 + (if decide (vx ≤ 0) = true then 1 else 0)) = _
          rw [if_neg (fun z => by have := of_decide_eq_true z; omega)]
          rfl
        · exact ⟨fun v m' H' h f S => q1 v m' H' h (f1.trans f) S, fun t H' h f O => q2 t H' h (f1.trans f) O, fun H' h f => q3 H' h (f1.trans f)⟩
      · rw [if_neg c0] at q1 q2 q3
        refine ⟨_, rfl, g, dx1, fs1, rfl, hg1, l51, _, rfl, _, rfl, _, _, rfl, rfl, .inr ⟨_, rfl, _, _, rfl, rfl, p, _, _, z, rfl, rfl, SqT.of hp1, ?_, g, R, D, z, c, rd, m, rfl, hc.keep k1, hNb.2.2, hd1.2.2.1, hd1.2.2.2.2.2, S1, hm, h100, hsm, ?_⟩⟩
        · show atI [.str "pick", x, y, z] (2 + (if decide (vx ≤ 0) = true then 1 else 0)) = _
          rw [if_pos (decide_eq_true (by omega))]
          rfl
        · exact ⟨fun v m' H' h f S => q1 v m' H' h (f1.trans f) S, fun t H' h f O => q2 t H' h (f1.trans f) O, fun H' h f => q3 H' h (f1.trans f)⟩
    | choose a ns =>
      obtain ⟨p, x, t2, rfl, hp, ha, ht2⟩ := hRc
      have hd1 : a.dep ≤ j ∧ a.dep ≤ 9 := by
        have e : (Rcp.choose a ns).dep = a.dep + 1 := rfl
        omega
      refine ⟨_, rfl, p, _, _, _, rfl, rfl, SqT.of hp, rfl, rfl, _, rfl, iteN (sne (by decide +kernel)) ?_⟩
      refine ⟨_, rfl, p, _, _, _, rfl, rfl, SqT.of hp, rfl, rfl, _, rfl, iteN (sne (by decide +kernel)) ?_⟩
      refine ⟨_, rfl, g, dx, fs, rfl, hg, l5, _, rfl, p, _, _, _, rfl, rfl, SqT.of hp, rfl, g, R, D, x, a, rd, n, rfl, ha, hNb.1, hd1.1, hd1.2, hS, hn, h100, hsm, ?_⟩
      refine ⟨fun vx m H1 h1 f1 S1 => ?_, fun t H1 h1 f1 O1 => ⟨_, rfl, rfl, _, rfl, iteY rfl (q2 t H1 (by show Res.bind _ _ = _; rw [h1]; rfl) f1 O1)⟩, fun H1 h1 f1 => q3 H1 (by show Res.bind _ _ = _; rw [h1]; rfl) f1⟩
      obtain ⟨_, hm, _⟩ := go_small hsm hNb.1 hd1.2 hn h1
      have k1 := hS.keep f1
      have hp1 := k1 _ _ hp
      have ht21 := k1 _ _ ht2
      obtain ⟨dx1, fs1, hg1, _, _, _, l41, l51, l61, _⟩ := id S1.1
      have e0 : go rd (.choose a ns) n = lookG rd m (nthN ns vx) := by show Res.bind _ _ = _; rw [h1]; rfl
      rw [e0] at q1 q2 q3
      obtain ⟨i, hi, hi2⟩ := nth_mem hNb.2.1 vx
      have hi3 := (List.getElem?_eq_some_iff.mp hi2).1
      refine ⟨_, rfl, rfl, _, rfl, iteN (fun z => by cases z) ?_⟩
      refine ⟨_, rfl, p, _, _, _, rfl, rfl, SqT.of hp1, rfl, rfl, _, rfl, iteY rfl ?_⟩
      refine ⟨_, rfl, g, dx1, fs1, rfl, hg1, l41, _, rfl, p, _, _, _, rfl, rfl, SqT.of hp1, rfl, _, rfl, _, rfl, p, _, _, _, rfl, rfl, SqT.of hp1, rfl, t2, _, rfl, .inr (SqT.of ht21), _, _, rfl, rfl, ?_, t2, _, _, .str (SX.S (nthN ns vx)), rfl, rfl, SqT.of ht21, ?_, g, R, D, nthN ns vx, rd, m, rfl, S1, hm, h100, ?_⟩
      · show (0 : Int) < ((txs ns).length : Nat)
        rw [txs_len]
        have := hNb.2.1
        omega
      · show atI (txs ns) (vx % (((txs ns).length : Nat) : Int)) = _
        rw [txs_len, hi]
        refine atI_nat ?_
        rw [txs_get hi3, Option.some.inj ((List.getElem?_eq_getElem hi3).symm.trans hi2)]
      · exact ⟨fun v m' H' h f S => q1 v m' H' h (f1.trans f) S, fun t H' h f O => q2 t H' h (f1.trans f) O, fun H' h f => q3 H' h (f1.trans f)⟩
end
/-! ### behind -/
def spBehind (CN : Addr) : Sp := fun vs H Q E => ∃ (v : V) (R : Addr) (r : Rcp) (rd : List Pr) (xs : List V), vs = [v, .ref R] ∧ Rec H r v ∧ r.Nb ∧ r.dep ≤ 9 ∧ H R = some (.lst xs) ∧ Prs H rd xs ∧ rd.length ≤ 100 ∧ Small rd ∧ TellO Q (fun H' => E (.ref CN) none H') (outOf rd r) H
section
variable {P : Program} {w : World} {K : PySem.W.Frag} {mg : Str → Option Value} {base : Heap} {C fI CN : Addr}
abbrev s_behind : Stmt := topS 11
abbrev N_behind : List Str := ["r", "reads", "going", "worth"]
theorem sc_behind : FnScope N_behind ["r", "reads"] (defScope s_behind) := ⟨rfl, rfl, rfl, by decide +kernel, rfl, by decide +kernel, by decide +kernel⟩

theorem ok_behind (T : Txt K mg) (ZGoing : GoT K mg C fI) (XNoRead : NoX K mg "NoRead" CN) (D : IsDef K mg "behind" s_behind ["r", "reads"]) {fdI : FuncData} (F_Going___init__ : FnOk P w K mg base CX0 1 fI fdI ["self", "reads"] (spGInit C)) (B_Going___init__ : Binds K fdI ["self", "reads"] [])
    (MW : Met P w K mg base (L2.CX P w) 19 C "worth" ["self", "r"] (spGWorth C CN 9)) : Cal P w K mg base (L2.CX P w) 20 "behind" ["r", "reads"] (spBehind CN) := by
  obtain ⟨f_w, fd_w, F_Going_worth, M_Going_worth, B_Going_worth⟩ := MW
  refine D.calX2 sc_behind (fun vs H Q E h => ?_) (fun f cdv A outer s H vs Q E hr h => ?_)
  · obtain ⟨v, R, r, rd, xs, rfl, _⟩ := h
    rfl
  obtain ⟨v, R, r, rd, xs, rfl, hRc, hNb, h9, hR, hP, h100, hsm, q1, q2, q3⟩ := h
  refine ⟨_, (pss_cons (ps_set (i := 2) sc_behind.nd rfl (Or.inl rfl) (pe_make ZGoing.mkI F_Going___init__ (hr.mono (by first | decide | omega)) rfl ZGoing.g B_Going___init__ .nil pass0 (pa_cons (pv 1) pa_nil)))
      (pss_cons (ps_set (i := 3) sc_behind.nd rfl (Or.inl rfl) (pe_meth (pv 2) ZGoing.cl M_Going_worth F_Going_worth (hr.mono (by first | decide | omega)) B_Going_worth .nil (passes_call (takes_of rfl rfl rfl rfl) (fun _ _ _ _ h => h)) (pa_cons (pv 0) pa_nil)))
      (pss_cons (ps_if (pt_cmpR op_notN (pe_fld (pv 2) rfl) pe_non (nomark _))
        (pss_one (ps_ret (pe_tup (pa_cons pe_str (pa_cons (pe_fld (pv 2) rfl) pa_nil)))))
        pss_nil)
      (pss_cons (ps_if (pt_cmpR op_lt (pe_callB call_lenD (by rfl) T.b_len PySem.boot_len (pa_cons (pe_fld (pv 2) rfl) pa_nil)) (pe_callB call_len_seq (by rfl) T.b_len PySem.boot_len (pa_cons (pv 1) pa_nil)) (nomark _))
        (pss_one (ps_raise rfl (takes_of rfl rfl rfl rfl) (pmk_own PySem.F.excBase_ValueError XNoRead.x XNoRead.g XNoRead.k (raises_own XNoRead.b XNoRead.t) rfl)))
        pss_nil)
      (pss_one (ps_ret (pe_tup (pa_cons pe_str (pa_cons (pv 3) pa_nil))))))))), ?_⟩
  refine ⟨_, rfl, fun g dx ng ndx ne => ⟨g, R, dx, rfl, upd_same, fun D H1 nD hO hD hk => ⟨rfl, ?_⟩⟩⟩
  have ng0 : H g = none := ng
  have s0 : Same H (upd (upd H dx (.own g)) g (.ins C dx [])) := fun b o e => by
    rw [upd_ne (ne_of_none e ng), upd_ne (ne_of_none e ndx)]
    exact e
  have s1 : Same H H1 := fun b o e => hk b o (ne_of_none e ng) (s0 b o e)
  have nD0 : H D = none := s0.free nD
  obtain ⟨dx1, fs1, hg1, _, _, _, l4, l5, l6, _⟩ := id hO
  have fin : ∀ {H' : Hp}, Fr2 g D H1 H' → Same H H' := fun {H'} f b u e => f b u (fun z => by rw [z, ng0] at e; cases e) (fun z => by rw [z, nD0] at e; cases e) (s1 _ _ e)
  refine ⟨_, rfl, g, dx1, fs1, rfl, hg1, l5, _, rfl, g, R, D, v, r, rd, 0, rfl, hRc.same s1, hNb, h9, h9, ⟨hO, hD, xs, s1 _ _ hR, hP.same s1⟩, Nat.zero_le _, h100, hsm, ?_, ?_, ?_⟩
  · rintro x m H2 h2 f2 ⟨⟨dx2, fs2, hg2, _, l22, l32, _⟩, hD2, ys, hR2, hP2⟩
    have hml := (go_small hsm hNb h9 (Nat.zero_le _) h2).2.1
    have hln : (numsK (rd.take m)).length = m := by rw [numsK_len, List.length_take]; omega
    have hyl := hP2.len
    refine ⟨_, rfl, g, C, dx2, _, _, rfl, hg2, ZGoing.cl, ZGoing.nL, l32, rfl, _, rfl, not_true_eq (decide_eq_true rfl) ?_⟩
    refine ⟨_, rfl, g, C, dx2, _, _, rfl, hg2, ZGoing.cl, ZGoing.nH, l22, D, _, rfl, hD2, _, rfl, R, _, rfl, .inl (SqL.of hR2), _, _, rfl, rfl, _, rfl, ?_⟩
    rw [hln, hyl]
    by_cases c : m < rd.length
    · refine iteY (by omega) ?_
      exact q3 H2 ((out_ok h2).trans (if_pos c)) (fin f2)
    · refine iteN (by omega) ?_
      refine ⟨_, rfl, le_line (Nat.le_of_ble_eq_true rfl), fun t nt => ?_⟩
      exact q2 x t _ ((out_ok h2).trans (if_neg c)) ((fin f2).trans (same_new nt _)) upd_same
  · rintro s0 H2 h2 f2 ⟨dx2, fs2, hg2, _, l22, l32, _⟩
    refine ⟨_, rfl, g, C, dx2, _, _, rfl, hg2, ZGoing.cl, ZGoing.nL, l32, rfl, _, rfl, not_false_eq (decide_eq_false fun z => by cases z) ?_⟩
    refine ⟨_, rfl, g, C, dx2, _, _, rfl, hg2, ZGoing.cl, ZGoing.nL, l32, le_line (Nat.le_of_ble_eq_true rfl), fun t nt => ?_⟩
    exact q1 s0 t _ (out_lack h2) ((fin f2).trans (same_new nt _)) upd_same
  · intro H2 h2 f2
    exact q3 H2 (out_bad h2) (fin f2)
end
/-! ### what the law draws -/
def pl (r m c : Int) : List V := [.int r, .int m, .int c]
def spPoolL (K : PySem.W.Frag) : Sp := fun vs H Q _ => ∃ (a : Addr) (ns : List Int) (k : Int), vs = [.ref a, .int k] ∧ SqL K H a (ns.map V.int) ∧ ns.length ≤ 63 ∧ 0 ≤ k ∧ k ≤ 1000 ∧ ∀ (p : Addr) (r m c : Int), H p = none → 0 ≤ c → c ≤ 11000 → Q (.ref p) (upd H p (.lst (pl r m c)))
def Fr1 (p : Addr) (H H' : Hp) : Prop := ∀ b u, b ≠ p → H b = some u → H' b = some u
theorem Fr1.refl (p : Addr) (H : Hp) : Fr1 p H H := fun _ _ _ e => e
theorem Fr1.trans {p : Addr} {A B C : Hp} (h : Fr1 p A B) (k : Fr1 p B C) : Fr1 p A C := fun b u n e => k b u n (h b u n e)
theorem Fr1.of {p : Addr} {A B : Hp} (h : Same A B) : Fr1 p A B := fun b u _ e => h b u e
theorem Fr1.keep {p : Addr} {A B : Hp} {xs : List V} (h : A p = some (.lst xs)) (f : Fr1 p A B) : Keep A B := fun b ys e => f b _ (fun z => by rw [z, h] at e; cases e) e
def spTakeL : Sp := fun vs H Q _ => ∃ (p : Addr) (r m c many : Int), vs = [.ref p, .int many] ∧ H p = some (.lst (pl r m c)) ∧ 0 < many ∧ many.natAbs < 2 ^ 400 ∧ 0 ≤ c ∧ c ≤ 1000000 ∧
  ∀ (H' : Hp) (v r' c' : Int), (∀ b, b ≠ p → H' b = H b) → H' p = some (.lst (pl r' m c')) → 0 ≤ c' → c' ≤ c + 1 → 0 ≤ v → v < many → Q (.int v) H'
section
variable {P : Program} {w : World} {K : PySem.W.Frag} {mg : Str → Option Value} {base : Heap}
abbrev s__law_pool : Stmt := topS 13
abbrev N__law_pool : List Str := ["script", "k", "cell"]
theorem sc__law_pool : FnScope N__law_pool ["script", "k"] (defScope s__law_pool) := ⟨rfl, rfl, rfl, by decide +kernel, rfl, by decide +kernel, by decide +kernel⟩

theorem ok__law_pool (T : Txt K mg) (D : IsDef K mg "_law_pool" s__law_pool ["script", "k"]) : Cal P w K mg base CX0 1 "_law_pool" ["script", "k"] (spPoolL K) := by
  refine D.cal sc__law_pool (fun vs H Q E h => ?_) (fun f cdv A outer s H vs Q E hr h => ?_)
  · obtain ⟨a, ns, k, rfl, _⟩ := h
    rfl
  obtain ⟨a, ns, k, rfl, hS, h63, k0, k1, q⟩ := h
  refine ⟨_, (pss_cons (ps_set (i := 2) sc__law_pool.nd rfl (Or.inl rfl) pe_int)
      (pss_cons (ps_if (pt_cmpR op_lt (pv 1) (pe_callB call_len_seq (by rfl) T.b_len PySem.boot_len (pa_cons (pv 0) pa_nil)) (nomark _))
        (pss_one (ps_set (i := 2) sc__law_pool.nd rfl (Or.inl rfl) (pe_ix (r := rIxL K) ix_list (pv 0) (pv 1) (fun _ _ => rfl))))
        pss_nil)
      (pss_cons (ps_if (pt_cmpR op_ge (pv 2) (pe_op op_pow pe_int pe_int) (nomark _))
        (pss_one (ps_ret (pe_lst (pa_cons (pe_op op_sub (pv 2) (pe_op op_pow pe_int pe_int)) (pa_cons pe_int (pa_cons pe_int pa_nil))))))
        pss_nil)
      (pss_one (ps_ret (pe_lst (pa_cons (pv 2) (pa_cons pe_int (pa_cons (pe_op op_mul pe_int (pv 1)) pa_nil))))))))), ?_⟩
  have fin : ∀ cell : Int, (∃ x, (V.int cell) = .int x) := fun c => ⟨c, rfl⟩
  refine ⟨_, rfl, _, rfl, a, _, rfl, .inl hS, _, _, rfl, rfl, _, rfl, ?_⟩
  refine ite2 (fun c => ?_) (fun c => ?_)
  · have c' : k < (((ns.map V.int).length : Nat) : Int) := of_decide_eq_true c
    rw [List.length_map] at c'
    obtain ⟨v, hv⟩ := int_at k0 c'
    refine ⟨_, rfl, _, rfl, a, _, _, _, rfl, rfl, hS, hv, ?_⟩
    refine ⟨_, rfl, _, _, rfl, rfl, ⟨by decide, by decide, by decide⟩, _, _, rfl, rfl, _, rfl, ?_⟩
    refine ite2 (fun _ => ?_) (fun _ => ?_)
    · exact ⟨_, rfl, _, _, rfl, rfl, ⟨by decide, by decide, by decide⟩, _, _, rfl, rfl, le_line (Nat.le_of_ble_eq_true rfl), fun p np => q p _ 1 0 np (by decide) (by decide)⟩
    · exact ⟨_, rfl, _, rfl, _, _, rfl, rfl, .inl ⟨by decide, by decide⟩, le_line (Nat.le_of_ble_eq_true rfl), fun p np => q p _ 0 (11 * k) np (by omega) (by omega)⟩
  · refine ⟨_, rfl, _, _, rfl, rfl, ⟨by decide, by decide, by decide⟩, _, _, rfl, rfl, _, rfl, ?_⟩
    refine ite2 (fun _ => ?_) (fun _ => ?_)
    · exact ⟨_, rfl, _, _, rfl, rfl, ⟨by decide, by decide, by decide⟩, _, _, rfl, rfl, le_line (Nat.le_of_ble_eq_true rfl), fun p np => q p _ 1 0 np (by decide) (by decide)⟩
    · exact ⟨_, rfl, _, rfl, _, _, rfl, rfl, .inl ⟨by decide, by decide⟩, le_line (Nat.le_of_ble_eq_true rfl), fun p np => q p _ 0 (11 * k) np (by omega) (by omega)⟩
abbrev s__law_take : Stmt := topS 14
abbrev N__law_take : List Str := ["pool", "many", "found", "step", "mark"]
theorem sc__law_take : FnScope N__law_take ["pool", "many"] (defScope s__law_take) := ⟨rfl, rfl, rfl, by decide +kernel, rfl, by decide +kernel, by decide +kernel⟩

theorem ok__law_take (T : Txt K mg) (D : IsDef K mg "_law_take" s__law_take ["pool", "many"]) : Cal P w K mg base CX0 1 "_law_take" ["pool", "many"] spTakeL := by
  refine D.cal sc__law_take (fun vs H Q E h => ?_) (fun f cdv A outer s H vs Q E hr h => ?_)
  · obtain ⟨p, r, m, c, many, rfl, _⟩ := h
    rfl
  obtain ⟨p, r, m, c, many, rfl, hp, m0, mb, c0, c1, q⟩ := h
  refine ⟨_, (pss_cons (ps_if (pt_cmpR op_eq (pe_ix (r := rIxL K) ix_list (pv 0) pe_int (fun _ _ => rfl)) pe_int (nomark _))
        (pss_cons (ps_set (i := 2) sc__law_take.nd rfl (Or.inl rfl) (pe_op op_mod (pe_ix (r := rIxL K) ix_list (pv 0) pe_int (fun _ _ => rfl)) (pv 1)))
      (pss_cons (ps_asg (pe_op op_fdivW (pe_ix (r := rIxL K) ix_list (pv 0) pe_int (fun _ _ => rfl)) (pv 1)) (pg_sub (pv 0) pe_int set_list))
      (pss_one (ps_ret (pv 2)))))
        pss_nil)
      (pss_cons (ps_asg (pe_op op_add (pe_ix (r := rIxL K) ix_list (pv 0) pe_int (fun _ _ => rfl)) pe_int) (pg_sub (pv 0) pe_int set_list))
      (pss_cons (ps_set (i := 3) sc__law_take.nd rfl (Or.inl rfl) (pe_ix (r := rIxL K) ix_list (pv 0) pe_int (fun _ _ => rfl)))
      (pss_cons (ps_set (i := 4) sc__law_take.nd rfl (Or.inl rfl) (pe_op op_mul (pe_op op_add (pe_op op_mod (pe_ix (r := rIxL K) ix_list (pv 0) pe_int (fun _ _ => rfl)) pe_int) pe_int) (pe_op op_add (pe_op op_mul pe_int (pv 3)) pe_int)))
      (pss_cons (ps_set (i := 4) sc__law_take.nd rfl (Or.inl rfl) (pe_op op_add (pv 4) (pe_op op_mul (pe_op op_mul pe_int (pv 3)) (pv 3))))
      (pss_cons (ps_set (i := 4) sc__law_take.nd rfl (Or.inl rfl) (pe_op op_mod (pe_op op_mul (pv 4) (pv 4)) pe_int))
      (pss_one (ps_ret (pe_op op_mod (pe_op op_fdivW (pe_op op_mod (pe_op op_mul (pv 4) (pe_op op_add (pv 4) pe_int)) pe_int) pe_int) (pv 1)))))))))), ?_⟩
  have at0 : ∀ r m c : Int, atI (pl r m c) 0 = some (.int r) := fun _ _ _ => rfl
  have at1 : ∀ r m c : Int, atI (pl r m c) 1 = some (.int m) := fun _ _ _ => rfl
  have at2 : ∀ r m c : Int, atI (pl r m c) 2 = some (.int c) := fun _ _ _ => rfl
  refine ⟨_, rfl, p, _, _, _, rfl, rfl, SqL.of hp, at1 r m c, rfl, _, rfl, ?_⟩
  refine ite2 (fun cm => ?_) (fun cm => ?_)
  · refine ⟨_, rfl, p, _, _, _, rfl, rfl, SqL.of hp, at0 r m c, _, rfl, _, _, rfl, rfl, m0, ?_⟩
    refine ⟨_, rfl, p, _, _, _, rfl, rfl, SqL.of hp, at0 r m c, _, rfl, _, _, rfl, rfl, wide_div m0 mb (by decide) (by decide), _, rfl, p, _, 0, 0, rfl, rfl, hp, rfl, ?_⟩
    exact ⟨_, rfl, q _ _ (r / many) c (fun b hb => upd_ne hb) upd_same c0 (by omega) (Int.emod_nonneg _ (by omega)) (Int.emod_lt_of_pos _ m0)⟩
  · refine ⟨_, rfl, p, _, _, _, rfl, rfl, SqL.of hp, at2 r m c, _, _, rfl, rfl, _, rfl, p, _, 2, 2, rfl, rfl, hp, rfl, ?_⟩
    have hp1 : upd H p (.lst (pl r m (c + 1))) p = some (.lst (pl r m (c + 1))) := upd_same
    refine ⟨_, rfl, p, _, _, _, rfl, rfl, SqL.of hp1, at2 r m (c + 1), ?_⟩
    refine ⟨_, rfl, p, _, _, _, rfl, rfl, SqL.of hp1, at0 r m (c + 1), _, _, rfl, rfl, (by show (0 : Int) < 9999999851; decide), _, _, rfl, rfl, _, rfl, _, _, rfl, rfl, .inl ⟨by decide, by decide⟩, _, _, rfl, rfl, _, _, rfl, rfl, ?_⟩
    have y0 : 0 ≤ r % 9999999851 := Int.emod_nonneg _ (by decide)
    have y1 : r % 9999999851 < 9999999851 := Int.emod_lt_of_pos _ (by decide)
    refine ⟨.inl ⟨by show -(2 ^ 64) < r % 9999999851 + 577; omega, by show r % 9999999851 + 577 < 2 ^ 64; omega⟩, ?_⟩
    show gName 4 (V.int ((r % 9999999851 + 577) * (5 * (c + 1) + 23))) _ _ _
    obtain ⟨M, hM, M0, M1⟩ : ∃ M, (r % 9999999851 + 577) * (5 * (c + 1) + 23) = M ∧ 0 ≤ M ∧ M ≤ 10000000428 * 5000028 := ⟨_, rfl, Int.mul_nonneg (by omega) (by omega), Int.mul_le_mul (by omega) (by omega) (by omega) (by decide)⟩
    rw [hM]
    refine ⟨_, rfl, _, rfl, _, _, rfl, rfl, .inl ⟨by decide, by decide⟩, _, rfl, _, _, rfl, rfl, .inr ⟨by show -(2 ^ 64) < c + 1; omega, by show c + 1 < 2 ^ 64; omega⟩, _, _, rfl, rfl, ?_⟩
    show gName 4 (V.int (M + 2711 * (c + 1) * (c + 1))) _ _ _
    obtain ⟨M2, hM2, N0, N1⟩ : ∃ M2, M + 2711 * (c + 1) * (c + 1) = M2 ∧ 0 ≤ M2 ∧ M2 < 2 ^ 64 := by
      have h1 : 0 ≤ 2711 * (c + 1) * (c + 1) := Int.mul_nonneg (by omega) (by omega)
      have h2 : 2711 * (c + 1) * (c + 1) ≤ 2711000000000 * 1000001 := Int.mul_le_mul (by omega) (by omega) (by omega) (by decide)
      exact ⟨_, rfl, by omega, by omega⟩
    rw [hM2]
    refine ⟨_, rfl, _, rfl, _, _, rfl, rfl, .inl ⟨by omega, N1⟩, _, _, rfl, rfl, (by show (0 : Int) < 99999999871; decide), ?_⟩
    show gName 4 (V.int (M2 * M2 % 99999999871)) _ _ _
    have z0 : 0 ≤ M2 * M2 % 99999999871 := Int.emod_nonneg _ (by decide)
    have z1 : M2 * M2 % 99999999871 < 99999999871 := Int.emod_lt_of_pos _ (by decide)
    generalize M2 * M2 % 99999999871 = M3 at z0 z1
    refine ⟨_, rfl, _, rfl, _, _, rfl, rfl, _, _, rfl, rfl, .inl ⟨by omega, by omega⟩, _, _, rfl, rfl, (by show (0 : Int) < 99999999907; decide), _, _, rfl, rfl, ⟨by decide, by decide +kernel⟩, _, rfl, _, _, rfl, rfl, m0, ?_⟩
    exact q _ _ r (c + 1) (fun b hb => upd_ne hb) upd_same (by omega) (Int.le_refl _) (Int.emod_nonneg _ (by omega)) (Int.emod_lt_of_pos _ m0)
end
/-! ### names, leaves, recipes drawn -/
def keysOf (kvs : List (Key × V)) : List Key := kvs.map (·.1)
theorem keys_put_old {kvs : List (Key × V)} {k : Key} {v : V} (h : k ∈ keysOf kvs) : keysOf (putK kvs k v) = keysOf kvs := by
  unfold putK
  rw [if_pos (by
    obtain ⟨kv, hk, e⟩ := List.mem_map.mp h
    exact List.any_eq_true.mpr ⟨kv, hk, decide_eq_true e⟩)]
  unfold keysOf
  rw [List.map_map]
  refine List.map_congr_left fun kv _ => ?_
  show (if kv.1 = k then (kv.1, v) else kv).1 = kv.1
  split <;> rfl
theorem keys_put_new {kvs : List (Key × V)} {k : Key} {v : V} (h : ¬ k ∈ keysOf kvs) : keysOf (putK kvs k v) = keysOf kvs ++ [k] := by
  unfold putK
  rw [if_neg (fun z => by
    obtain ⟨kv, hk, e⟩ := List.any_eq_true.mp z
    exact h (List.mem_map.mpr ⟨kv, hk, of_decide_eq_true e⟩))]
  unfold keysOf
  rw [List.map_append]
  rfl
theorem joinL_nil5 : ∀ l : List (List Nat), TL.joinL [] l = l.flatten
  | [] => rfl
  | [p] => by simp [TL.joinL]
  | p :: q :: r => by
    show p ++ ([] ++ TL.joinL [] (q :: r)) = _
    rw [joinL_nil5 (q :: r)]
    simp
theorem cutS_to (z : List Nat) (k : Nat) : cutS (SX.S z) none (some (k : Int)) = SX.S (z.take k) := by
  have h1 : HT.sIx (SX.S z).length 0 none = 0 := HT.sIx_none _ _
  have h2 : HT.sIx (SX.S z).length (SX.S z).length (some (k : Int)) = min k (SX.S z).length := HT.sIx_nat _ _ _
  unfold cutS
  rw [h1, h2, Nat.sub_zero, List.drop_zero, SX.S_len]
  show (⟨(z.toArray.toList.take (min k z.length)).toArray⟩ : Str) = SX.S (z.take k)
  rw [List.toList_toArray]
  by_cases c : k ≤ z.length
  · rw [Nat.min_eq_left c]
    try rfl
  · rw [Nat.min_eq_right (by omega), List.take_of_length_le (Nat.le_refl _), List.take_of_length_le (by omega)]
    try rfl
def spNamesL : Sp := fun vs H Q _ => ∃ (p : Addr) (r m c : Int), vs = [.ref p] ∧ H p = some (.lst (pl r m c)) ∧ 0 ≤ c ∧ c ≤ 900000 ∧
  ∀ (H' : Hp) (l : Addr) (ns : List (List Nat)) (r' c' : Int), Fr1 p H H' → H' l = some (.lst (txs ns)) → H l = none → 1 ≤ ns.length → ns.length ≤ 7 → (∀ s ∈ ns, Nm s) → ns.Nodup → H' p = some (.lst (pl r' m c')) → 0 ≤ c' → c' ≤ c + 100 → Q (.ref l) H'
section
variable {P : Program} {w : World} {K : PySem.W.Frag} {mg : Str → Option Value} {base : Heap}
abbrev s__law_names : Stmt := topS 15
abbrev N__law_names : List Str := ["pool", "letters", "found", "k", "wide", "word", "at"]
theorem sc__law_names : FnScope N__law_names ["pool"] (defScope s__law_names) := ⟨rfl, rfl, rfl, by decide +kernel, rfl, by decide +kernel, by decide +kernel⟩

theorem ok__law_names (T : Txt K mg) (D : IsDef K mg "_law_names" s__law_names ["pool"]) (C__law_take : Cal P w K mg base CX0 1 "_law_take" ["pool", "many"] spTakeL) : Cal P w K mg base CX0 2 "_law_names" ["pool"] spNamesL := by
  refine D.cal sc__law_names (fun vs H Q E h => ?_) (fun f cdv A outer s H vs Q E hr h => ?_)
  · obtain ⟨p, r, m, c, rfl, _⟩ := h
    rfl
  obtain ⟨p, r, m, c, rfl, hp, c0, c1, q⟩ := h
  have hu : (cxOf CX0 P w K mg base N__law_names "_law_names" (defScope s__law_names) f cdv A outer s H E).nox.A.units + 1 < cLine := Nat.lt_of_le_of_lt (Nat.add_le_add_left (by decide : 1 ≤ 64) _) hr.units
  refine ⟨_, (pss_cons (ps_set (i := 1) sc__law_names.nd rfl (Or.inr rfl) pe_str)
      (pss_cons (ps_set (i := 2) sc__law_names.nd rfl (Or.inl rfl) pe_dnewK)
      (pss_cons (ps_for PassesOwn.never rfl (pi_range1 rfl T.b_range (pa_cons pe_int pa_nil)) (pg_name (i := 3) sc__law_names.nd rfl (Or.inl rfl))
        (pss_cons (ps_set (i := 4) sc__law_names.nd rfl (Or.inr rfl) (pe_ix (r := rIxL K) ix_list (pe_lst (pa_cons pe_int (pa_cons pe_int pa_nil))) (pe_cal C__law_take (hr.mono (by first | decide | omega)) pass0 (pa_cons (pv 0) (pa_cons pe_int pa_nil))) (fun _ _ => rfl)))
      (pss_cons (ps_set (i := 5) sc__law_names.nd rfl (Or.inl rfl) (pe_join pe_str (pe_lc (own := [("at", 6)]) (g := gName 6)  (by rfl) sc__law_names.nd  (pi_range1 rfl T.b_range (pa_cons pe_int pa_nil)) (blkOk_by (own := [("at", 6)]) (N := N__law_names) (sc := defScope s__law_names) (by decide +kernel)) (fun _ _ _ _ _ => (pg_name (i := 6) sc__law_names.nd rfl (Or.inl rfl))) (fun _ _ _ _ _ => pts_nil) (fun _ _ _ _ _ => (pe_item_str (pv 1) (pe_cal C__law_take (hr.mono (by first | decide | omega)) pass0 (pa_cons (pv 0) (pa_cons (pv 4) pa_nil))) (fun _ _ => rfl))))))
      (pss_one (ps_dput hu (pv 2) (pe_slice sl_str (pv 5) po_none (po_some (pe_op op_add pe_int (pe_cal C__law_take (hr.mono (by first | decide | omega)) pass0 (pa_cons (pv 0) (pa_cons pe_int pa_nil)))))) pe_bl rfl)))))
      (pss_one (ps_ret (pe_callTy (call_listD rfl) (by rfl) T.b_list (by decide +kernel) (pa_cons (pv 2) pa_nil))))))), ?_⟩
  refine fun D nD => ?_
  have npD : p ≠ D := ne_of_none hp nD
  have big : ∀ {n : Nat}, n ≤ 30 → ((n : Int)).natAbs < 2 ^ 400 := fun {n} h => by
    have h1 : (2 : Nat) ^ 5 ≤ 2 ^ 400 := Nat.pow_le_pow_right (by decide) (by decide)
    exact Nat.lt_of_lt_of_le (show ((n : Int)).natAbs < 32 by omega) h1
  have hlen : ("abcdefghijklmnopqrstuvwxyz" : Str).length = 26 := by rw [letters_is, SX.S_len]; rfl
  have let26 : ∀ v : Int, 0 ≤ v → v < 26 → ∃ c, ("abcdefghijklmnopqrstuvwxyz" : Str).cps[v.toNat]? = some c ∧ 97 ≤ c ∧ c ≤ 122 := fun v v0 v26 => by
    have hv : v.toNat < letters.length := by show v.toNat < 26; omega
    refine ⟨letters[v.toNat], ?_, letters_ok _ (List.getElem_mem hv)⟩
    rw [letters_is]
    show letters.toArray[v.toNat]? = _
    rw [List.getElem?_toArray, List.getElem?_eq_getElem hv]
  refine ⟨7, rfl, by decide, by decide, for_range (lo := 0) (n := 7) (fun i σ H' => ∃ (v3 v4 v5 v6 : Option V) (kvs : List (Key × V)) (ns : List (List Nat)) (r' c' : Int), σ = [some (.ref p), some (.str "abcdefghijklmnopqrstuvwxyz"), some (.ref D), v3, v4, v5, v6] ∧ Fr2 p D H H' ∧ H' p = some (.lst (pl r' m c')) ∧ 0 ≤ c' ∧ c' ≤ c + 10 * i ∧ H' D = some (.dK kvs) ∧ keysOf kvs = ns.map (fun s => kT (SX.S s)) ∧ ns.length ≤ i ∧ (1 ≤ i → 1 ≤ ns.length) ∧ (∀ s ∈ ns, Nm s) ∧ ns.Nodup) ⟨none, none, none, none, [], [], r, c, rfl, Fr2.of (same_new nD _), by rw [upd_ne npD]; exact hp, c0, by omega, upd_same, rfl, Nat.le_refl _, by omega, fun _ h => (nomatch h), List.nodup_nil⟩ ?_ ?_⟩
  · rintro i σ H1 hi ⟨v3, v4, v5, v6, kvs, ns, r1, c1', rfl, f1, p1, d0, d1, hD1, hk, hnl, hn1, hnm, hnd⟩
    refine ⟨le_line (Nat.le_of_ble_eq_true rfl), fun l nl => ?_⟩
    have pl1 : p ≠ l := ne_of_none p1 nl
    have Dl1 : D ≠ l := ne_of_none hD1 nl
    refine ⟨_, rfl, p, r1, m, c1', 2, rfl, by rw [upd_ne pl1]; exact p1, by decide, big (n := 2) (by decide), d0, by omega, fun H2 w1 r2 c2 k2 p2 e0 e1 w10 w11 => ?_⟩
    have hl2 := (k2 l pl1.symm).trans upd_same
    obtain ⟨x, hx, hat⟩ := one_of (xs := ([.int 2, .int 26] : List V)) w10 w11
    obtain ⟨wd, rfl, wd0, wd26⟩ : ∃ wd : Int, x = .int wd ∧ 0 < wd ∧ wd ≤ 26 := by
      simp only [List.mem_cons, List.not_mem_nil, or_false] at hx
      rcases hx with h | h <;> exact ⟨_, h, by decide, by decide⟩
    refine ⟨l, _, w1, _, rfl, rfl, SqL.of hl2, hat, ?_⟩
    have hD2 : H2 D = some (.dK kvs) := (k2 D npD.symm).trans ((upd_ne Dl1).trans hD1)
    have f2 : Fr2 p D H1 H2 := fun b u n1 n2 e => by rw [k2 b n1]; exact same_new nl _ _ _ e
    refine ⟨⟨_, rfl⟩, 8, rfl, by decide, by decide, fun L nL => lc_range (lo := 0) (n := 8) (fun i H' => ∃ (ss : List Nat) (r' c' : Int), Fr1 p H2 H' ∧ H' p = some (.lst (pl r' m c')) ∧ 0 ≤ c' ∧ c' ≤ c2 + i ∧ H' L = some (.lst (txs (ones ss))) ∧ ss.length = i ∧ ∀ c ∈ ss, 97 ≤ c ∧ c ≤ 122)
      ⟨[], r2, c2, Fr1.of (same_new nL _), by rw [upd_ne (ne_of_none p2 nL)]; exact p2, e0, by omega, upd_same, rfl, fun _ h => (nomatch h)⟩ ?_ ?_⟩
    · rintro j H3 hj ⟨ss, r3, c3, f3, p3, g0, g1, hL3, hn, hc⟩
      have nLp : L ≠ p := (ne_of_none p2 nL).symm
      refine ⟨rfl, _, rfl, _, rfl, _, rfl, p, r3, m, c3, wd, rfl, p3, wd0, ?_, g0, by omega, fun H4 v r4 c4 k4 p4 i0 i1 v0 v26 => ?_⟩
      · have := big (n := wd.toNat) (by omega)
        rw [show ((wd.toNat : Nat) : Int) = wd by omega] at this
        exact this
      obtain ⟨cc, hcc, hc1⟩ := let26 v v0 (by omega)
      refine ⟨_, v, cc, rfl, rfl, v0, by omega, by rw [hlen]; omega, hcc, _, (k4 L nLp).trans hL3, lt_line (by rw [txs_len, ones_len]; omega), ss ++ [cc], r4, c4, fun b u n e => ?_, by rw [upd_ne nLp.symm]; exact p4, i0, by omega, ?_, by rw [List.length_append, hn]; rfl, fun x hx => ?_⟩
      · have nb : b ≠ L := fun z => by rw [z, nL] at e; cases e
        rw [upd_ne nb, k4 b n]
        exact f3 b u n e
      · rw [upd_same]
        unfold ones
        rw [List.map_append, txs_app]
        rfl
      · rcases List.mem_append.mp hx with h | h
        · exact hc x h
        · rw [List.mem_singleton.mp h]
          exact hc1
    rintro H3 ⟨ss, r3, c3, f3, p3, g0, g1, hL3, hn, hc⟩
    have ee : ("" : Str) = SX.S [] := by decide +kernel
    have ej : Txt.join "" ((ones ss).map SX.S) = SX.S ss := by
      rw [ee]
      refine (SX.join_S [] (ones ss)).trans ?_
      rw [joinL_nil5, ones_flat]
    refine ⟨"", L, (ones ss).map SX.S, rfl, rfl, .inl (SqL.of hL3), ?_, ?_⟩
    · rw [ones_sum, List.length_map, ones_len, ee, SX.S_len]
      show ss.length + ss.length * 0 ≤ 16777216
      omega
    rw [ej]
    have hD3 := f3 D _ npD.symm hD2
    have n10 : ∀ b u, H b = some u → b ≠ p → b ≠ D → H3 b = some u := fun b u e n1 n2 => f3 b u n1 (f2 b u n1 n2 (f1 b u n1 n2 e))
    refine ⟨_, rfl, _, rfl, _, rfl, p, r3, m, c3, 8, rfl, p3, by decide, big (n := 8) (by decide), g0, by omega, fun H4 v r4 c4 k4 p4 i0 i1 v0 v8 => ⟨_, _, rfl, rfl, 1 + v, rfl, _, rfl, le_line (by rw [SX.S_len]; omega), ?_⟩⟩
    obtain ⟨kn, hkn, kn1, kn8⟩ : ∃ kn : Nat, 1 + v = (kn : Int) ∧ 1 ≤ kn ∧ kn ≤ 8 := ⟨(1 + v).toNat, by omega, by omega, by omega⟩
    have hcut : cutS (SX.S ss) none (some (1 + v)) = SX.S (ss.take kn) := by rw [hkn]; exact cutS_to ss kn
    have hD4 : H4 D = some (.dK kvs) := (k4 D npD.symm).trans hD3
    have hkl : kvs.length = ns.length := by have := congrArg List.length hk; rw [List.length_map] at this; unfold keysOf at this; rw [List.length_map] at this; exact this
    have hNw : Nm (ss.take kn) := ⟨by rw [List.length_take]; omega, by rw [List.length_take]; omega, fun x hx => hc x (List.mem_of_mem_take hx)⟩
    rw [hcut]
    refine ⟨D, _, rfl, DPut.k (k := kT (SX.S (ss.take kn))) hD4 (lt_line (by omega)), ?_⟩
    have fin : Fr2 p D H (upd H4 D (.dK (putK kvs (kT (SX.S (ss.take kn))) (.bl true)))) := fun b u n1 n2 e => by
      rw [upd_ne n2, k4 b n1]
      exact n10 b u e n1 n2
    by_cases hin : ss.take kn ∈ ns
    · refine ⟨_, _, _, _, _, ns, r4, c4, rfl, fin, by rw [upd_ne npD]; exact p4, i0, by omega, upd_same, ?_, by omega, fun _ => List.length_pos_of_mem hin, hnm, hnd⟩
      rw [keys_put_old (by rw [hk]; exact List.mem_map.mpr ⟨_, hin, rfl⟩)]
      exact hk
    · refine ⟨_, _, _, _, _, ns ++ [ss.take kn], r4, c4, rfl, fin, by rw [upd_ne npD]; exact p4, i0, by omega, upd_same, ?_, by rw [List.length_append]; show ns.length + 1 ≤ i + 1; omega, fun _ => by rw [List.length_append]; show 1 ≤ ns.length + 1; omega, fun s hs => ?_, ?_⟩
      · rw [keys_put_new (fun z => by
          rw [hk] at z
          obtain ⟨t, ht, e⟩ := List.mem_map.mp z
          exact hin (by rw [← kS_inj e]; exact ht)), hk, List.map_append]
        rfl
      · rcases List.mem_append.mp hs with h | h
        · exact hnm s h
        · rw [List.mem_singleton.mp h]; exact hNw
      · refine List.nodup_append.mpr ⟨hnd, by simp, fun a ha b hb e => ?_⟩
        rw [List.mem_singleton.mp hb] at e
        exact hin (by rw [← e]; exact ha)
  · rintro σ H1 ⟨v3, v4, v5, v6, kvs, ns, r1, c1', rfl, f1, p1, d0, d1, hD1, hk, hnl, hn1, hnm, hnd⟩
    refine ⟨_, rfl, D, kvs, rfl, .inl hD1, fun l nl => ?_⟩
    have ev : (kvs.map fun kv => kV kv.1) = txs ns := by
      have : (kvs.map fun kv => kV kv.1) = (keysOf kvs).map kV := by unfold keysOf; rw [List.map_map]; rfl
      rw [this, hk, List.map_map]
      unfold txs
      rw [List.map_map]
      rfl
    rw [ev]
    have s1 := same_new nl (.lst (txs ns))
    have nlH : H l = none := by
      cases e : H l with
      | none => rfl
      | some u =>
        have n1 : l ≠ p := fun z => by rw [z, p1] at nl; cases nl
        have n2 : l ≠ D := fun z => by rw [z, hD1] at nl; cases nl
        rw [f1 l u n1 n2 e] at nl
        cases nl
    exact q _ l ns r1 c1' (fun b u n1 e => s1 _ _ (f1 b u n1 (fun z => by rw [z, nD] at e; cases e) e)) upd_same nlH (hn1 (by decide)) hnl hnm hnd (by rw [upd_ne (ne_of_none p1 nl)]; exact p1) d0 (by omega)
end
/-! ### leaves -/
theorem txs_pl {ns : List (List Nat)} {r m c : Int} : ¬ txs ns = pl r m c := fun z => by
  cases ns with
  | nil => cases z
  | cons a l =>
    have h := (List.cons.inj (show V.str (SX.S a) :: txs l = V.int r :: [.int m, .int c] from z)).1
    cases h
def spLeafL : Sp := fun vs H Q _ => ∃ (p N : Addr) (r m c most : Int) (ns : List (List Nat)), vs = [.ref p, .ref N, .int most] ∧ H p = some (.lst (pl r m c)) ∧ H N = some (.lst (txs ns)) ∧ 1 ≤ ns.length ∧ ns.length ≤ 7 ∧ (∀ s ∈ ns, Nm s) ∧ 0 ≤ most ∧ most < 2 ^ 100 ∧ 0 ≤ c ∧ c ≤ 990000 ∧
  ∀ (H' : Hp) (v : V) (x : Rcp) (r' c' : Int), Fr1 p H H' → Rec H' x v → x.Nb → x.dep ≤ 1 → (∀ s ∈ x.nms, s ∈ ns) → H' p = some (.lst (pl r' m c')) → 0 ≤ c' → c' ≤ c + 10 → Q v H'
theorem small400 {x : Int} (h0 : -(2 ^ 100) - 8 ≤ x) (h1 : x ≤ 2 ^ 101 + 8) : x.natAbs < 2 ^ 400 := by
  have h2 : (2 : Nat) ^ 102 ≤ 2 ^ 400 := Nat.pow_le_pow_right (by decide) (by decide)
  exact Nat.lt_of_lt_of_le (show x.natAbs < 2 ^ 102 by omega) h2
section
variable {P : Program} {w : World} {K : PySem.W.Frag} {mg : Str → Option Value} {base : Heap}
theorem names_dp (K : PySem.W.Frag) {H : Hp} {N : Addr} {ns : List (List Nat)} (h : H N = some (.lst (txs ns))) : Dp K H (.ref N) (.list (Th.pyL (nmsTh ns))) := by
  have key : ∀ ns : List (List Nat), DpAll K H (txs ns) (Th.pyL (nmsTh ns)) := fun ns => by
    induction ns with
    | nil => exact .nil
    | cons a l ih => exact .cons (.str _) ih
  exact .lst (SqL.of h) (key ns)
theorem names_shaped {ns : List (List Nat)} (h : ∀ s ∈ ns, Nm s) : SeqAt.shaped (.list (Th.pyL (nmsTh ns))) = true := by
  have h2 := nms_py (ns := ns) h
  show (PyData.canLayAll0 (Th.pyL (nmsTh ns)) && decide (PyData.depthAll (Th.pyL (nmsTh ns)) + 1 ≤ 64)) = true
  rw [h2.1, decide_eq_true (by have := h2.2; omega)]
  rfl
theorem names_empty {ns : List (List Nat)} (h : 1 ≤ ns.length) : PyData.eqv (.list (Th.pyL (nmsTh ns))) (.list []) = false := by
  cases ns with
  | nil => exact absurd h (by decide)
  | cons a l => rfl
abbrev s__law_leaf : Stmt := topS 16
abbrev N__law_leaf : List Str := ["pool", "names", "most", "some", "number"]
theorem sc__law_leaf : FnScope N__law_leaf ["pool", "names", "most"] (defScope s__law_leaf) := ⟨rfl, rfl, rfl, by decide +kernel, rfl, by decide +kernel, by decide +kernel⟩

theorem ok__law_leaf (T : Txt K mg) (D : IsDef K mg "_law_leaf" s__law_leaf ["pool", "names", "most"]) (C__law_take : Cal P w K mg base CX0 1 "_law_take" ["pool", "many"] spTakeL) : Cal P w K mg base CX0 2 "_law_leaf" ["pool", "names", "most"] spLeafL := by
  refine D.cal sc__law_leaf (fun vs H Q E h => ?_) (fun f cdv A outer s H vs Q E hr h => ?_)
  · obtain ⟨p, N, r, m, c, most, ns, rfl, _⟩ := h
    rfl
  obtain ⟨p, N, r, m, c, most, ns, rfl, hp, hN, n1, n7, hnm, m0, mb, c0, c1, q⟩ := h
  refine ⟨_, (pss_cons (ps_set (i := 3) sc__law_leaf.nd rfl (Or.inl rfl) (pe_lst (pa_cons (pe_cal C__law_take (hr.mono (by first | decide | omega)) pass0 (pa_cons (pv 0) (pa_cons pe_int pa_nil))) (pa_cons (pe_op op_sub (pe_cal C__law_take (hr.mono (by first | decide | omega)) pass0 (pa_cons (pv 0) (pa_cons pe_int pa_nil))) pe_int) (pa_cons (pe_op op_sub (pe_cal C__law_take (hr.mono (by first | decide | omega)) pass0 (pa_cons (pv 0) (pa_cons (pe_op op_add (pe_op op_mul pe_int (pv 2)) pe_int) pa_nil))) (pv 2)) pa_nil)))))
      (pss_cons (ps_set (i := 4) sc__law_leaf.nd rfl (Or.inl rfl) (pe_ix (r := rIxL K) ix_list (pv 3) (pe_cal C__law_take (hr.mono (by first | decide | omega)) pass0 (pa_cons (pv 0) (pa_cons pe_int pa_nil))) (fun _ _ => rfl)))
      (pss_cons (ps_if (PW.pt (pw_or (pt_cmpR (op_eqD hr.units) (pv 1) (pe_lst pa_nil) (nomark _)) (pw_or1 (pt_cmpR op_eq (pe_cal C__law_take (hr.mono (by first | decide | omega)) pass0 (pa_cons (pv 0) (pa_cons pe_int pa_nil))) pe_int (nomark _)))))
        (pss_one (ps_ret (pe_tup (pa_cons pe_str (pa_cons (pv 4) pa_nil)))))
        pss_nil)
      (pss_one (ps_ret (pe_tup (pa_cons pe_str (pa_cons (pe_ix (r := rIxL K) ix_list (pv 1) (pe_cal C__law_take (hr.mono (by first | decide | omega)) pass0 (pa_cons (pv 0) (pa_cons (pe_callB call_len_seq (by rfl) T.b_len PySem.boot_len (pa_cons (pv 1) pa_nil)) pa_nil))) (fun _ _ => rfl)) pa_nil)))))))), ?_⟩
  have nNp : N ≠ p := fun z => by rw [z, hp] at hN; exact txs_pl (HO.lst.inj (Option.some.inj hN)).symm
  refine ⟨_, rfl, p, r, m, c, 4, rfl, hp, by decide, small400 (by decide) (by decide), c0, by omega, fun H1 v1 r1 c1' k1 p1 d0 d1 v10 v11 => ?_⟩
  refine ⟨_, rfl, p, r1, m, c1', 9, rfl, p1, by decide, small400 (by decide) (by decide), d0, by omega, fun H2 v2 r2 c2 k2 p2 e0 e1 v20 v21 => ?_⟩
  refine ⟨_, _, rfl, rfl, _, rfl, _, rfl, _, _, rfl, rfl, .inl ⟨by decide, by decide⟩, _, _, rfl, rfl, p, r2, m, c2, _, rfl, p2, by omega, small400 (by omega) (by omega), e0, by omega, fun H3 v3 r3 c3 k3 p3 f0 f1 v30 v31 => ?_⟩
  refine ⟨_, rfl, _, _, rfl, rfl, le_line (Nat.le_of_ble_eq_true rfl), fun L nL => ?_⟩
  have npL : p ≠ L := ne_of_none p3 nL
  refine ⟨_, rfl, _, rfl, p, r3, m, c3, 3, rfl, by rw [upd_ne npL]; exact p3, by decide, small400 (by decide) (by decide), f0, by omega, fun H4 v4 r4 c4 k4 p4 g0 g1 v40 v41 => ?_⟩
  have hL4 := (k4 L npL.symm).trans upd_same
  have f04 : Fr1 p H H4 := fun b u n e => by
    rw [k4 b n]
    refine same_new nL _ _ _ ?_
    rw [k3 b n, k2 b n, k1 b n]
    exact e
  obtain ⟨x, hx, hat⟩ := one_of (xs := ([.int v1, .int (v2 - 4), .int (v3 - most)] : List V)) v40 v41
  obtain ⟨num, rfl, hnum⟩ : ∃ num : Int, x = .int num ∧ num.natAbs < 2 ^ 400 := by
    simp only [List.mem_cons, List.not_mem_nil, or_false] at hx
    rcases hx with h | h | h
    · exact ⟨_, h, small400 (by omega) (by omega)⟩
    · exact ⟨_, h, small400 (by omega) (by omega)⟩
    · exact ⟨_, h, small400 (by omega) (by omega)⟩
  refine ⟨L, _, v4, _, rfl, rfl, SqL.of hL4, hat, ?_⟩
  have hN4 := f04 N _ nNp hN
  refine ⟨_, rfl, le_line (Nat.le_of_ble_eq_true rfl), fun E1 nE => ?_⟩
  have sE := same_new nE (.lst [])
  have npE : p ≠ E1 := ne_of_none p4 nE
  refine ⟨_, _, names_dp K (sE _ _ hN4), .lst (SqL.of upd_same) .nil, names_shaped hnm, rfl, _, rfl, ?_⟩
  rw [names_empty n1]
  refine iteF ?_
  refine ⟨_, rfl, p, r4, m, c4, 3, rfl, by rw [upd_ne npE]; exact p4, by decide, small400 (by decide) (by decide), g0, by omega, fun H5 v5 r5 c5 k5 p5 h0 h1 v50 v51 => ?_⟩
  have f05 : Fr1 p H H5 := fun b u n e => by
    rw [k5 b n]
    exact sE _ _ (f04 b u n e)
  refine ⟨rfl, _, rfl, ?_⟩
  refine ite2 (fun _ => ?_) (fun _ => ?_)
  · refine ⟨_, rfl, le_line (Nat.le_of_ble_eq_true rfl), fun t nt => ?_⟩
    exact q _ (.ref t) (.num num) r5 c5 (f05.trans (Fr1.of (same_new nt _))) ⟨t, rfl, upd_same⟩ hnum (Nat.le_refl _) (fun _ h => (nomatch h)) (by rw [upd_ne (ne_of_none p5 nt)]; exact p5) h0 (by omega)
  · have hN5 := f05 N _ nNp hN
    refine ⟨_, rfl, _, rfl, _, rfl, N, _, rfl, .inl (SqL.of hN5), p, r5, m, c5, _, rfl, p5, ?_, ?_, h0, by omega, fun H6 v6 r6 c6 k6 p6 i0 i1 v60 v61 => ?_⟩
    · rw [txs_len]; omega
    · rw [txs_len]; exact small400 (by omega) (by omega)
    have hN6 := (k6 N nNp).trans hN5
    rw [txs_len] at v61
    have hi : v6.toNat < ns.length := by omega
    refine ⟨N, _, v6, .str (SX.S ns[v6.toNat]), rfl, rfl, SqL.of hN6, atI_at v60 (txs_get hi), le_line (Nat.le_of_ble_eq_true rfl), fun t nt => ?_⟩
    have hm := List.getElem_mem hi
    exact q _ (.ref t) (.read ns[v6.toNat]) r6 c6 (fun b u n e => same_new nt _ _ _ (by rw [k6 b n]; exact f05 b u n e)) ⟨t, rfl, upd_same⟩ (hnm _ hm) (Nat.le_refl _) (fun s hs => by rw [List.mem_singleton.mp hs]; exact hm) (by rw [upd_ne (ne_of_none p6 nt)]; exact p6) i0 (by omega)
end
/-! ### parts and recipes drawn -/
theorem call_len_seqK {X : Cx} {K : PySem.W.Frag} (h : X.K = K) : CallR X (.builtin "len") (fun xs H Q => ∃ p ys, xs = [V.ref p] ∧ (SqL K H p ys ∨ SqT K H p ys) ∧ Q (V.int (ys.length : Int)) H) := by
  subst h
  exact call_len_seq
def cst : Nat → Int
  | 0 => 12
  | n + 1 => 3 * cst n + 15
theorem cst_pos : ∀ n, 0 ≤ cst n
  | 0 => by decide
  | n + 1 => by have := cst_pos n; show 0 ≤ 3 * cst n + 15; omega
def spPartL (j : Nat) : Sp := fun vs H Q _ => ∃ (p N : Addr) (r m c most : Int) (d : Nat) (ns : List (List Nat)), vs = [.ref p, .ref N, .int (d : Int), .int most] ∧ d < j ∧ H p = some (.lst (pl r m c)) ∧ H N = some (.lst (txs ns)) ∧ 1 ≤ ns.length ∧ ns.length ≤ 7 ∧ (∀ s ∈ ns, Nm s) ∧ 0 ≤ most ∧ most < 2 ^ 100 ∧ 0 ≤ c ∧ c + cst d ≤ 950000 ∧
  ∀ (H' : Hp) (v : V) (x : Rcp) (r' c' : Int), Fr1 p H H' → Rec H' x v → x.Nb → x.dep ≤ d + 1 → (∀ s ∈ x.nms, s ∈ ns) → H' p = some (.lst (pl r' m c')) → 0 ≤ c' → c' ≤ c + cst d → Q v H'
theorem kind3 {n : Int} (h0 : 0 ≤ n) (h : n < 3) : ∃ k : Kd, atI ([.str "plus", .str "minus", .str "most"] : List V) n = some (.str k.name) := by
  have e : n = 0 ∨ n = 1 ∨ n = 2 := by omega
  rcases e with e | e | e <;> subst e
  · exact ⟨.plus, rfl⟩
  · exact ⟨.minus, rfl⟩
  · exact ⟨.most, rfl⟩
section
variable {P : Program} {w : World} {K : PySem.W.Frag} {mg : Str → Option Value} {base : Heap}
abbrev s__law_part : Stmt := topS 17
abbrev N__law_part : List Str := ["pool", "names", "deep", "most", "kind", "one", "some", "other", "k"]
theorem sc__law_part : FnScope N__law_part ["pool", "names", "deep", "most"] (defScope s__law_part) := ⟨rfl, rfl, rfl, by decide +kernel, rfl, by decide +kernel, by decide +kernel⟩

theorem ok__law_part (T : Txt K mg) (D : IsDef K mg "_law_part" s__law_part ["pool", "names", "deep", "most"]) (C_take : Cal P w K mg base CX0 1 "_law_take" ["pool", "many"] spTakeL) (C_leaf : Cal P w K mg base CX0 2 "_law_leaf" ["pool", "names", "most"] spLeafL) : ∀ j, Cal P w K mg base CX0 (j + 2) "_law_part" ["pool", "names", "deep", "most"] (spPartL j)
  | 0 => cal_none D fun vs H Q E h => by
    obtain ⟨_, _, _, _, _, _, d, _, _, hd, _⟩ := h
    omega
  | j + 1 => by
    have C__law_part := ok__law_part T D C_take C_leaf j
    have C__law_take := C_take.mono (show 1 ≤ j + 2 by omega)
    have C__law_leaf := C_leaf.mono (show 2 ≤ j + 2 by omega)
    refine D.cal sc__law_part (fun vs H Q E h => ?_) (fun f cdv A outer s H vs Q E hr h => ?_)
    · obtain ⟨p, N, r, m, c, most, d, ns, rfl, _⟩ := h
      rfl
    obtain ⟨p, N, r, m, c, most, d, ns, rfl, hdj, hp, hN, n1, n7, hnm, m0, mb, c0, c1, q⟩ := h
    refine ⟨_, (pss_cons (ps_set (i := 4) sc__law_part.nd rfl (Or.inl rfl) (pe_cal C__law_take (hr.mono (by first | decide | omega)) pass0 (pa_cons (pv 0) (pa_cons pe_int pa_nil))))
      (pss_cons (ps_if (PW.pt (pw_or (pt_cmpR op_eq (pv 2) pe_int (nomark _)) (pw_or1 (pt_cmpR op_lt (pv 4) pe_int (nomark _)))))
        (pss_one (ps_ret (pe_cal C__law_leaf (hr.mono (by first | decide | omega)) pass0 (pa_cons (pv 0) (pa_cons (pv 1) (pa_cons (pv 3) pa_nil))))))
        pss_nil)
      (pss_cons (ps_set (i := 5) sc__law_part.nd rfl (Or.inl rfl) (pe_cal C__law_part (hr.mono (by first | decide | omega)) pass0 (pa_cons (pv 0) (pa_cons (pv 1) (pa_cons (pe_op op_sub (pv 2) pe_int) (pa_cons (pv 3) pa_nil))))))
      (pss_cons (ps_if (PW.pt (pw_and (pt_cmpR op_lt (pv 4) pe_int (nomark _)) (pw_and1 (pt_cmpR (op_neD hr.units) (pv 1) (pe_lst pa_nil) (nomark _)))))
        (pss_cons (ps_setLc (i := 6) (own := [("k", 8)]) (g := gName 8)  (by rfl) sc__law_part.nd rfl rfl (sw_true rfl rfl rfl (by decide +kernel)) (pi_range1 rfl T.b_range (pa_cons (pe_op op_add pe_int (pe_cal C__law_take (hr.mono (by first | decide | omega)) pass0 (pa_cons (pv 0) (pa_cons pe_int pa_nil)))) pa_nil)) (blkOk_by (own := [("k", 8)]) (N := N__law_part) (sc := defScope s__law_part) (by decide +kernel)) (fun _ _ _ _ _ => (pg_name (i := 8) sc__law_part.nd rfl (Or.inl rfl))) (fun _ _ _ _ _ => pts_nil) (fun _ _ _ _ _ => (pe_ix (r := rIxL K) ix_list (pv 1) (pe_cal C__law_take (hr.mono (by first | decide | omega)) pass0 (pa_cons (pv 0) (pa_cons (pe_callB (call_len_seqK (K := K) rfl) (by rfl) T.b_len PySem.boot_len (pa_cons (pv 1) pa_nil)) pa_nil))) (fun _ _ => rfl))))
      (pss_one (ps_ret (pe_tup (pa_cons pe_str (pa_cons (pv 5) (pa_cons (pe_callTy call_tuple_of (by rfl) T.b_tuple (by decide +kernel) (pa_cons (pv 6) pa_nil)) pa_nil)))))))
        pss_nil)
      (pss_cons (ps_set (i := 7) sc__law_part.nd rfl (Or.inl rfl) (pe_cal C__law_part (hr.mono (by first | decide | omega)) pass0 (pa_cons (pv 0) (pa_cons (pv 1) (pa_cons (pe_op op_sub (pv 2) pe_int) (pa_cons (pv 3) pa_nil))))))
      (pss_cons (ps_if (pt_cmpR op_lt (pv 4) pe_int (nomark _))
        (pss_one (ps_ret (pe_tup (pa_cons pe_str (pa_cons (pv 5) (pa_cons (pv 7) (pa_cons (pe_cal C__law_part (hr.mono (by first | decide | omega)) pass0 (pa_cons (pv 0) (pa_cons (pv 1) (pa_cons (pe_op op_sub (pv 2) pe_int) (pa_cons (pv 3) pa_nil))))) pa_nil)))))))
        pss_nil)
      (pss_cons (ps_if (PW.pt (pw_and (pt_cmpR op_eq (pv 2) pe_int (nomark _)) (pw_and1 (pt_cmpR op_eq (pv 4) pe_int (nomark _)))))
        (pss_one (ps_ret (pe_tup (pa_cons pe_str (pa_cons (pv 5) (pa_cons (pv 7) pa_nil))))))
        pss_nil)
      (pss_one (ps_ret (pe_tup (pa_cons (pe_ix (r := rIxL K) ix_list (pe_lst (pa_cons pe_str (pa_cons pe_str (pa_cons pe_str pa_nil)))) (pe_op op_mod (pv 4) pe_int) (fun _ _ => rfl)) (pa_cons (pv 5) (pa_cons (pv 7) pa_nil))))))))))))), ?_⟩
    have nNp : N ≠ p := fun z => by rw [z, hp] at hN; exact txs_pl (HO.lst.inj (Option.some.inj hN)).symm
    have hcd : 12 ≤ cst d := by
      cases d with
      | zero => decide
      | succ d => have := cst_pos d; show 12 ≤ 3 * cst d + 15; omega
    refine ⟨_, rfl, p, r, m, c, 10, rfl, hp, by decide, small400 (by decide) (by decide), c0, by omega, fun H1 kd r1 c1' k1 p1 d0 d1 kd0 kd1 => ?_⟩
    have f1 : Fr1 p H H1 := fun b u n e => by rw [k1 b n]; exact e
    have hN1 := f1 N _ nNp hN
    have leaf : ∀ {Q1 : VK}, (∀ x H, Q1 x H → Q x H) → True := fun _ => trivial
    refine ⟨_, rfl, rfl, _, rfl, ?_⟩
    by_cases dz : d = 0
    · refine iteY (by rw [dz]; rfl) ?_
      refine ⟨_, rfl, _, rfl, _, rfl, p, N, r1, m, c1', most, ns, rfl, p1, hN1, n1, n7, hnm, m0, mb, d0, by omega, fun H2 v x r2 c2 f2 hv hb hd hs p2 e0 e1 => ?_⟩
      exact q H2 v x r2 c2 (f1.trans f2) hv hb (by omega) hs p2 e0 (by omega)
    refine iteN (fun z => dz (by have := V.int.inj z; omega)) ?_
    refine ⟨_, rfl, _, _, rfl, rfl, _, rfl, ?_⟩
    by_cases k2 : kd < 2
    · refine iteY k2 ?_
      refine ⟨_, rfl, _, rfl, _, rfl, p, N, r1, m, c1', most, ns, rfl, p1, hN1, n1, n7, hnm, m0, mb, d0, by omega, fun H2 v x r2 c2 f2 hv hb hd hs p2 e0 e1 => ?_⟩
      exact q H2 v x r2 c2 (f1.trans f2) hv hb (by omega) hs p2 e0 (by omega)
    refine iteN k2 ?_
    obtain ⟨d', rfl⟩ : ∃ d', d = d' + 1 := ⟨d - 1, by omega⟩
    have ecst : cst (d' + 1) = 3 * cst d' + 15 := rfl
    have pos := cst_pos d'
    have hdm : ((d' + 1 : Nat) : Int) - 1 = (d' : Int) := by omega
    refine ⟨_, rfl, _, rfl, _, rfl, _, _, rfl, rfl, _, rfl, p, N, r1, m, c1', most, d', ns, congrArg (fun z => [V.ref p, V.ref N, V.int z, V.int most]) hdm, by omega, p1, hN1, n1, n7, hnm, m0, mb, d0, by omega, fun H2 v1 x1 r2 c2 f2 hv1 hb1 hd1 hs1 p2 e0 e1 => ?_⟩
    have hN2 := f2 N _ nNp hN1
    refine ⟨_, rfl, _, _, rfl, rfl, _, rfl, ?_⟩
    by_cases k4 : kd < 4
    · refine iteY k4 ?_
      refine ⟨_, rfl, le_line (Nat.le_of_ble_eq_true rfl), fun E1 nE => ?_⟩
      have sE := same_new nE (.lst [])
      have npE : p ≠ E1 := ne_of_none p2 nE
      refine ⟨_, _, names_dp K (sE _ _ hN2), .lst (SqL.of upd_same) .nil, names_shaped hnm, rfl, _, rfl, ?_⟩
      rw [names_empty n1]
      refine not_false_eq rfl ?_
      refine ⟨_, rfl, p, r2, m, c2, 9, rfl, by rw [upd_ne npE]; exact p2, by decide, small400 (by decide) (by decide), e0, by omega, fun H3 w r3 c3 k3 p3 g0 g1 w0 w1 => ?_⟩
      have f23 : Fr1 p H2 H3 := fun b u n e => by rw [k3 b n]; exact sE _ _ e
      refine ⟨_, _, rfl, rfl, 1 + w, rfl, by omega, by omega, fun S nS => lc_range (lo := 0) (n := (1 + w).toNat) (fun i H' => ∃ (ss : List (List Nat)) (r' c' : Int), Fr1 p H3 H' ∧ H' p = some (.lst (pl r' m c')) ∧ 0 ≤ c' ∧ c' ≤ c3 + i ∧ H' S = some (.lst (txs ss)) ∧ ss.length = i ∧ ∀ s ∈ ss, s ∈ ns)
        ⟨[], r3, c3, Fr1.of (same_new nS _), by rw [upd_ne (ne_of_none p3 nS)]; exact p3, g0, by omega, upd_same, rfl, fun _ h => (nomatch h)⟩ ?_ ?_⟩
      · rintro i H4 hi ⟨ss, r4, c4, f4, p4, i0, i1, hS, hn, hss⟩
        have nSp : S ≠ p := (ne_of_none p3 nS).symm
        have hN4 := f4 N _ nNp (f23 N _ nNp hN2)
        refine ⟨rfl, _, rfl, _, rfl, _, rfl, N, _, rfl, .inl (SqL.of hN4), p, r4, m, c4, _, rfl, p4, ?_, ?_, i0, by omega, fun H5 u r5 c5 k5 p5 j0 j1 u0 u1 => ?_⟩
        · rw [txs_len]; omega
        · rw [txs_len]; exact small400 (by omega) (by omega)
        have hN5 := (k5 N nNp).trans hN4
        rw [txs_len] at u1
        have hiu : u.toNat < ns.length := by omega
        refine ⟨N, _, u, .str (SX.S ns[u.toNat]), rfl, rfl, SqL.of hN5, atI_at u0 (txs_get hiu), _, (k5 S nSp).trans hS, lt_line (by rw [txs_len]; omega), ss ++ [ns[u.toNat]], r5, c5, fun b x n e => ?_, by rw [upd_ne nSp.symm]; exact p5, j0, by omega, ?_, by rw [List.length_append, hn]; rfl, fun s hs => ?_⟩
        · have nb : b ≠ S := fun z => by rw [z, nS] at e; cases e
          rw [upd_ne nb, k5 b n]
          exact f4 b x n e
        · rw [upd_same, txs_app]
          rfl
        · rcases List.mem_append.mp hs with h | h
          · exact hss s h
          · rw [List.mem_singleton.mp h]; exact List.getElem_mem hiu
      · rintro H4 ⟨ss, r4, c4, f4, p4, i0, i1, hS, hn, hss⟩
        refine ⟨_, rfl, _, rfl, S, _, rfl, .inl ⟨SqL.of hS, fun tt nt => ⟨le_line (Nat.le_of_ble_eq_true rfl), fun t nt2 => ?_⟩⟩⟩
        have s1 := same_new nt (.tup (txs ss))
        have s2 := same_new nt2 (.tup [.str "choose", v1, .ref tt])
        have f24 : Fr1 p H2 (upd (upd H4 tt (.tup (txs ss))) t (.tup [.str "choose", v1, .ref tt])) := f23.trans (f4.trans (Fr1.of (s1.trans s2)))
        refine q _ (.ref t) (.choose x1 ss) r4 c4 (f1.trans (f2.trans f24)) ⟨t, v1, tt, rfl, upd_same, hv1.keep (Fr1.keep p2 f24), s2 _ _ upd_same⟩ ⟨hb1, by omega, by omega, fun s hs => hnm s (hss s hs)⟩ (by show x1.dep + 1 ≤ _; omega) (fun s hs => ?_) (s2 _ _ (s1 _ _ p4)) i0 (by omega)
        rcases List.mem_append.mp hs with h | h
        · exact hs1 s h
        · exact hss s h
    · refine iteN k4 ?_
      refine iteF ⟨_, rfl, _, rfl, _, rfl, _, _, rfl, rfl, _, rfl, p, N, r2, m, c2, most, d', ns, congrArg (fun z => [V.ref p, V.ref N, V.int z, V.int most]) hdm, by omega, p2, hN2, n1, n7, hnm, m0, mb, e0, by omega, fun H3 v2 x2 r3 c3 f3 hv2 hb2 hd2 hs2 p3 g0 g1 => ?_⟩
      have hN3 := f3 N _ nNp hN2
      have hv13 := hv1.keep (Fr1.keep p2 f3)
      refine ⟨_, rfl, _, _, rfl, rfl, _, rfl, ?_⟩
      by_cases k6 : kd < 6
      · refine iteY k6 ?_
        refine ⟨_, rfl, _, rfl, _, rfl, _, rfl, _, rfl, _, _, rfl, rfl, _, rfl, p, N, r3, m, c3, most, d', ns, congrArg (fun z => [V.ref p, V.ref N, V.int z, V.int most]) hdm, by omega, p3, hN3, n1, n7, hnm, m0, mb, g0, by omega, fun H4 v3 x3 r4 c4 f4 hv3 hb3 hd3 hs3 p4 i0 i1 => ?_⟩
        refine ⟨le_line (Nat.le_of_ble_eq_true rfl), fun t nt => ?_⟩
        have st := same_new nt (.tup [.str "pick", v1, v2, v3])
        have k34 := (Fr1.keep p3 f4).trans (same_keep st)
        refine q _ (.ref t) (.pick x1 x2 x3) r4 c4 (f1.trans (f2.trans (f3.trans (f4.trans (Fr1.of st))))) ⟨t, v1, v2, v3, rfl, upd_same, hv13.keep k34, hv2.keep k34, hv3.same st⟩ ⟨hb1, hb2, hb3⟩ (by show max x1.dep (max x2.dep x3.dep) + 1 ≤ _; omega) (fun s hs => ?_) (st _ _ p4) i0 (by omega)
        rcases List.mem_append.mp hs with h | h
        · exact hs1 s h
        · exact (List.mem_append.mp h).elim (hs2 s) (hs3 s)
      · refine iteN k6 ?_
        have tail : ∀ (k : Kd) (t : Addr), H3 t = none → Q (.ref t) (upd H3 t (.tup [.str k.name, v1, v2])) := fun k t nt => by
          have st := same_new nt (.tup [.str k.name, v1, v2])
          refine q _ (.ref t) (.two k x1 x2) r3 c3 (f1.trans (f2.trans (f3.trans (Fr1.of st)))) ⟨t, v1, v2, rfl, upd_same, hv13.same st, hv2.same st⟩ ⟨hb1, hb2⟩ (by show max x1.dep x2.dep + 1 ≤ _; omega) (fun s hs => ?_) (st _ _ p3) g0 (by omega)
          exact (List.mem_append.mp hs).elim (hs1 s) (hs2 s)
        have kd9 : ∃ k : Kd, atI ([.str "plus", .str "minus", .str "most"] : List V) (kd % 3) = some (.str k.name) := kind3 (Int.emod_nonneg _ (by decide)) (Int.emod_lt_of_pos _ (by decide))
        obtain ⟨kk, hkk⟩ := kd9
        have rest : ∀ {A B : Prop}, B → B := fun b => b
        refine ⟨_, rfl, rfl, _, rfl, ?_⟩
        by_cases c1 : d' = 0
        · refine iteY (by rw [c1]; rfl) ?_
          refine ⟨_, rfl, rfl, _, rfl, ?_⟩
          by_cases c9 : kd = 9
          · refine iteY (by rw [c9]) ?_
            exact ⟨_, rfl, _, rfl, le_line (Nat.le_of_ble_eq_true rfl), fun t nt => tail .times t nt⟩
          · refine iteN (fun z => c9 (V.int.inj z)) ?_
            refine ⟨le_line (Nat.le_of_ble_eq_true rfl), fun l nl => ⟨_, rfl, _, _, rfl, rfl, (by show (0 : Int) < 3; decide), l, _, _, .str kk.name, rfl, rfl, SqL.of upd_same, hkk, _, rfl, _, rfl, le_line (Nat.le_of_ble_eq_true rfl), fun t nt => ?_⟩⟩
            have sl := same_new nl (.lst [.str "plus", .str "minus", .str "most"])
            have st := same_new nt (.tup [.str kk.name, v1, v2])
            refine q _ (.ref t) (.two kk x1 x2) r3 c3 (f1.trans (f2.trans (f3.trans (Fr1.of (sl.trans st))))) ⟨t, v1, v2, rfl, upd_same, hv13.same (sl.trans st), hv2.same (sl.trans st)⟩ ⟨hb1, hb2⟩ (by show max x1.dep x2.dep + 1 ≤ _; omega) (fun s hs => ?_) (st _ _ (sl _ _ p3)) g0 (by omega)
            exact (List.mem_append.mp hs).elim (hs1 s) (hs2 s)
        · refine iteN (fun z => c1 (by have := V.int.inj z; omega)) ?_
          refine iteF ⟨le_line (Nat.le_of_ble_eq_true rfl), fun l nl => ⟨_, rfl, _, _, rfl, rfl, (by show (0 : Int) < 3; decide), l, _, _, .str kk.name, rfl, rfl, SqL.of upd_same, hkk, _, rfl, _, rfl, le_line (Nat.le_of_ble_eq_true rfl), fun t nt => ?_⟩⟩
          have sl := same_new nl (.lst [.str "plus", .str "minus", .str "most"])
          have st := same_new nt (.tup [.str kk.name, v1, v2])
          refine q _ (.ref t) (.two kk x1 x2) r3 c3 (f1.trans (f2.trans (f3.trans (Fr1.of (sl.trans st))))) ⟨t, v1, v2, rfl, upd_same, hv13.same (sl.trans st), hv2.same (sl.trans st)⟩ ⟨hb1, hb2⟩ (by show max x1.dep x2.dep + 1 ≤ _; omega) (fun s hs => ?_) (st _ _ (sl _ _ p3)) g0 (by omega)
          exact (List.mem_append.mp hs).elim (hs1 s) (hs2 s)
end
/-! ### recipes drawn -/
def spRecipeL : Sp := fun vs H Q _ => ∃ (p N : Addr) (r m c most : Int) (ns : List (List Nat)), vs = [.ref p, .ref N, .int most] ∧ H p = some (.lst (pl r m c)) ∧ H N = some (.lst (txs ns)) ∧ 1 ≤ ns.length ∧ ns.length ≤ 7 ∧ (∀ s ∈ ns, Nm s) ∧ 0 ≤ most ∧ most < 2 ^ 100 ∧ 0 ≤ c ∧ c ≤ 900000 ∧
  ∀ (H' : Hp) (v : V) (x : Rcp) (r' c' : Int), Fr1 p H H' → Rec H' x v → x.Nb → x.dep ≤ 9 → (∀ s ∈ x.nms, s ∈ ns) → H' p = some (.lst (pl r' m c')) → 0 ≤ c' → c' ≤ c + 2000 → Q v H'
theorem cst4 : ∀ d : Nat, d < 4 → cst d ≤ 700 := by decide +kernel
section
variable {P : Program} {w : World} {K : PySem.W.Frag} {mg : Str → Option Value} {base : Heap}
abbrev s__law_recipe : Stmt := topS 18
abbrev N__law_recipe : List Str := ["pool", "names", "most", "found", "k"]
theorem sc__law_recipe : FnScope N__law_recipe ["pool", "names", "most"] (defScope s__law_recipe) := ⟨rfl, rfl, rfl, by decide +kernel, rfl, by decide +kernel, by decide +kernel⟩

theorem ok__law_recipe (T : Txt K mg) (D : IsDef K mg "_law_recipe" s__law_recipe ["pool", "names", "most"]) (C_take : Cal P w K mg base CX0 1 "_law_take" ["pool", "many"] spTakeL) (C_leaf : Cal P w K mg base CX0 2 "_law_leaf" ["pool", "names", "most"] spLeafL) (C__law_part : Cal P w K mg base CX0 6 "_law_part" ["pool", "names", "deep", "most"] (spPartL 4)) : Cal P w K mg base CX0 7 "_law_recipe" ["pool", "names", "most"] spRecipeL := by
  have C__law_take := C_take.mono (show 1 ≤ 6 by omega)
  have C__law_leaf := C_leaf.mono (show 2 ≤ 6 by omega)
  refine D.cal sc__law_recipe (fun vs H Q E h => ?_) (fun f cdv A outer s H vs Q E hr h => ?_)
  · obtain ⟨p, N, r, m, c, most, ns, rfl, _⟩ := h
    rfl
  obtain ⟨p, N, r, m, c, most, ns, rfl, hp, hN, n1, n7, hnm, m0, mb, c0, c1, q⟩ := h
  refine ⟨_, (pss_cons (ps_set (i := 3) sc__law_recipe.nd rfl (Or.inl rfl) (pe_cal C__law_part (hr.mono (by first | decide | omega)) pass0 (pa_cons (pv 0) (pa_cons (pv 1) (pa_cons (pe_cal C__law_take (hr.mono (by first | decide | omega)) pass0 (pa_cons (pv 0) (pa_cons pe_int pa_nil))) (pa_cons (pv 2) pa_nil))))))
      (pss_cons (ps_for PassesOwn.never rfl (pi_range1 rfl T.b_range (pa_cons (pe_ix (r := rIxL K) ix_list (pe_lst (pa_cons pe_int (pa_cons (pe_cal C__law_take (hr.mono (by first | decide | omega)) pass0 (pa_cons (pv 0) (pa_cons pe_int pa_nil))) pa_nil))) (pe_cal C__law_take (hr.mono (by first | decide | omega)) pass0 (pa_cons (pv 0) (pa_cons pe_int pa_nil))) (fun _ _ => rfl)) pa_nil)) (pg_name (i := 4) sc__law_recipe.nd rfl (Or.inl rfl))
        (pss_one (ps_set (i := 3) sc__law_recipe.nd rfl (Or.inl rfl) (pe_tup (pa_cons (pe_ix (r := rIxL K) ix_list (pe_lst (pa_cons pe_str (pa_cons pe_str (pa_cons pe_str pa_nil)))) (pe_cal C__law_take (hr.mono (by first | decide | omega)) pass0 (pa_cons (pv 0) (pa_cons pe_int pa_nil))) (fun _ _ => rfl)) (pa_cons (pv 3) (pa_cons (pe_cal C__law_leaf (hr.mono (by first | decide | omega)) pass0 (pa_cons (pv 0) (pa_cons (pv 1) (pa_cons (pv 2) pa_nil)))) pa_nil)))))))
      (pss_one (ps_ret (pv 3))))), ?_⟩
  have nNp : N ≠ p := fun z => by rw [z, hp] at hN; exact txs_pl (HO.lst.inj (Option.some.inj hN)).symm
  refine ⟨_, rfl, _, rfl, _, rfl, p, r, m, c, 4, rfl, hp, by decide, small400 (by decide) (by decide), c0, by omega, fun H1 kd r1 c1' k1 p1 d0 d1 kd0 kd1 => ?_⟩
  have f1 : Fr1 p H H1 := fun b u n e => by rw [k1 b n]; exact e
  have hN1 := f1 N _ nNp hN
  obtain ⟨d, rfl⟩ : ∃ d : Nat, kd = (d : Int) := ⟨kd.toNat, by omega⟩
  have hc4 := cst4 d (by omega)
  refine ⟨_, rfl, p, N, r1, m, c1', most, d, ns, rfl, by omega, p1, hN1, n1, n7, hnm, m0, mb, d0, by omega, fun H2 v1 x1 r2 c2 f2 hv1 hb1 hd1 hs1 p2 e0 e1 => ?_⟩
  refine ⟨_, rfl, p, r2, m, c2, 5, rfl, p2, by decide, small400 (by decide) (by decide), e0, by omega, fun H3 w r3 c3 k3 p3 g0 g1 w0 w1 => ?_⟩
  refine ⟨le_line (Nat.le_of_ble_eq_true rfl), fun L nL => ?_⟩
  have npL : p ≠ L := ne_of_none p3 nL
  refine ⟨_, rfl, p, r3, m, c3, 2, rfl, by rw [upd_ne npL]; exact p3, by decide, small400 (by decide) (by decide), g0, by omega, fun H4 u r4 c4 k4 p4 i0 i1 u0 u1 => ?_⟩
  have hL4 := (k4 L npL.symm).trans upd_same
  have f24 : Fr1 p H2 H4 := fun b x n e => by
    rw [k4 b n]
    refine same_new nL _ _ _ ?_
    rw [k3 b n]
    exact e
  obtain ⟨x, hx, hat⟩ := one_of (xs := ([.int 0, .int w] : List V)) u0 u1
  obtain ⟨times, rfl, t0, t4⟩ : ∃ times : Int, x = .int times ∧ 0 ≤ times ∧ times ≤ 4 := by
    simp only [List.mem_cons, List.not_mem_nil, or_false] at hx
    rcases hx with h | h
    · exact ⟨_, h, by decide, by decide⟩
    · exact ⟨_, h, w0, by omega⟩
  refine ⟨L, _, u, _, rfl, rfl, SqL.of hL4, hat, ?_⟩
  refine ⟨times, rfl, by omega, by omega, for_range (lo := 0) (n := times.toNat) (fun i σ H' => ∃ (v : V) (x : Rcp) (v4 : Option V) (r' c' : Int), σ = [some (.ref p), some (.ref N), some (.int most), some v, v4] ∧ Fr1 p H4 H' ∧ Rec H' x v ∧ x.Nb ∧ x.dep ≤ 4 + i ∧ (∀ s ∈ x.nms, s ∈ ns) ∧ H' p = some (.lst (pl r' m c')) ∧ 0 ≤ c' ∧ c' ≤ c4 + 20 * i) ⟨v1, x1, none, r4, c4, rfl, Fr1.refl p H4, hv1.keep (Fr1.keep p2 f24), hb1, by omega, hs1, p4, i0, by omega⟩ ?_ ?_⟩
  · rintro i σ H5 hi ⟨v, y, v4, r5, c5, rfl, f5, hv, hb, hd, hs, p5, j0, j1⟩
    refine ⟨le_line (Nat.le_of_ble_eq_true rfl), fun l nl => ?_⟩
    have npl : p ≠ l := ne_of_none p5 nl
    refine ⟨_, rfl, p, r5, m, c5, 3, rfl, by rw [upd_ne npl]; exact p5, by decide, small400 (by decide) (by decide), j0, by omega, fun H6 z r6 c6 k6 p6 a0 a1 z0 z1 => ?_⟩
    have hl6 := (k6 l npl.symm).trans upd_same
    have f56 : Fr1 p H5 H6 := fun b x n e => by rw [k6 b n]; exact same_new nl _ _ _ e
    obtain ⟨kk, hkk⟩ := kind3 z0 z1
    have hN6 := f56 N _ nNp (f5 N _ nNp (f24 N _ nNp (f2 N _ nNp hN1)))
    refine ⟨l, _, z, .str kk.name, rfl, rfl, SqL.of hl6, hkk, _, rfl, _, rfl, _, rfl, _, rfl, p, N, r6, m, c6, most, ns, rfl, p6, hN6, n1, n7, hnm, m0, mb, a0, by omega, fun H7 v2 x2 r7 c7 f7 hv2 hb2 hd2 hs2 p7 b0 b1 => ?_⟩
    refine ⟨le_line (Nat.le_of_ble_eq_true rfl), fun t nt => ?_⟩
    have st := same_new nt (.tup [.str kk.name, v, v2])
    exact ⟨.ref t, .two kk y x2, _, r7, c7, rfl, f5.trans (f56.trans (f7.trans (Fr1.of st))), ⟨t, v, v2, rfl, upd_same, (hv.keep (Fr1.keep p5 (f56.trans f7))).same st, hv2.same st⟩, ⟨hb, hb2⟩, (by show max y.dep x2.dep + 1 ≤ 4 + (i + 1); have := dep_pos y; omega), fun s h => (List.mem_append.mp h).elim (hs s) (hs2 s), st _ _ p7, b0, by omega⟩
  · rintro σ H5 ⟨v, y, v4, r5, c5, rfl, f5, hv, hb, hd, hs, p5, j0, j1⟩
    exact ⟨_, rfl, q _ v y r5 c5 (f1.trans (f2.trans (f24.trans f5))) hv hb (by omega) hs p5 j0 (by omega)⟩
end
/-! ### the kinds of what was caught -/
/-- the class C among the seven: hits says which of them it is -/
structure Kin7 (K : PySem.W.Frag) (mg : Str → Option Value) (C CM c0 c1 c2 c3 c4 c5 c6 : Addr) (due : Nat) : Prop where
  gM : mg "MadeError" = some (.ref CM)
  g0 : mg "NoRead" = some (.ref c0)
  g1 : mg "NoRecord" = some (.ref c1)
  g2 : mg "NoText" = some (.ref c2)
  g3 : mg "NoName" = some (.ref c3)
  g4 : mg "Ring" = some (.ref c4)
  g5 : mg "NoDeed" = some (.ref c5)
  g6 : mg "NoRow" = some (.ref c6)
  exm : PySem.W.exmOne K (.ref C) (.ref CM) = some true
  exc : ExcC K C
  isV : PySem.W.kitOne K (.ref C) (.type "ValueError") = some true
  i0 : PySem.W.kitOne K (.ref C) (.ref c0) = some (decide (0 = due))
  i1 : PySem.W.kitOne K (.ref C) (.ref c1) = some (decide (1 = due))
  i2 : PySem.W.kitOne K (.ref C) (.ref c2) = some (decide (2 = due))
  i3 : PySem.W.kitOne K (.ref C) (.ref c3) = some (decide (3 = due))
  i4 : PySem.W.kitOne K (.ref C) (.ref c4) = some (decide (4 = due))
  i5 : PySem.W.kitOne K (.ref C) (.ref c5) = some (decide (5 = due))
  i6 : PySem.W.kitOne K (.ref C) (.ref c6) = some (decide (6 = due))
  lt : due < 7
def spKinds (C : Addr) (due : Nat) : Sp := fun vs H Q _ => ∃ e : Addr, vs = [.ref e, .int (due : Int)] ∧ H e = some (EzO (.ref C) none e) ∧ ∀ H', Same H H' → Q (.bl true) H'
section
variable {P : Program} {w : World} {K : PySem.W.Frag} {mg : Str → Option Value} {base : Heap}
abbrev s__law_kinds : Stmt := topS 23
abbrev N__law_kinds : List Str := ["caught", "due", "kinds", "k"]
theorem sc__law_kinds : FnScope N__law_kinds ["caught", "due"] (defScope s__law_kinds) := ⟨rfl, rfl, rfl, by decide +kernel, rfl, by decide +kernel, by decide +kernel⟩

theorem ok__law_kinds {C CM c0 c1 c2 c3 c4 c5 c6 : Addr} {due : Nat} (T : Txt K mg) (R : Kin7 K mg C CM c0 c1 c2 c3 c4 c5 c6 due) (D : IsDef K mg "_law_kinds" s__law_kinds ["caught", "due"]) : Cal P w K mg base CX0 1 "_law_kinds" ["caught", "due"] (spKinds C due) := by
  refine D.cal sc__law_kinds (fun vs H Q E h => ?_) (fun f cdv A outer s H vs Q E hr h => ?_)
  · obtain ⟨e, rfl, _⟩ := h
    rfl
  obtain ⟨e, rfl, he, q⟩ := h
  have GNoRead := R.g0
  have GNoRecord := R.g1
  have GNoText := R.g2
  have GNoName := R.g3
  have GRing := R.g4
  have GNoDeed := R.g5
  have GNoRow := R.g6
  refine ⟨_, (pss_cons (ps_set (i := 2) sc__law_kinds.nd rfl (Or.inl rfl) (pe_lst (pa_cons (pe_callB (call_isXK (K := K) rfl) (by rfl) T.b_isinstance (by decide +kernel) (pa_cons (pv 0) (pa_cons (pe_glob (v := .ref _) rfl GNoRead rfl) pa_nil))) (pa_cons (pe_callB (call_isXK (K := K) rfl) (by rfl) T.b_isinstance (by decide +kernel) (pa_cons (pv 0) (pa_cons (pe_glob (v := .ref _) rfl GNoRecord rfl) pa_nil))) (pa_cons (pe_callB (call_isXK (K := K) rfl) (by rfl) T.b_isinstance (by decide +kernel) (pa_cons (pv 0) (pa_cons (pe_glob (v := .ref _) rfl GNoText rfl) pa_nil))) pa_nil)))))
      (pss_cons (ps_set (i := 2) sc__law_kinds.nd rfl (Or.inl rfl) (pe_op op_cat (pv 2) (pe_lst (pa_cons (pe_callB (call_isXK (K := K) rfl) (by rfl) T.b_isinstance (by decide +kernel) (pa_cons (pv 0) (pa_cons (pe_glob (v := .ref _) rfl GNoName rfl) pa_nil))) (pa_cons (pe_callB (call_isXK (K := K) rfl) (by rfl) T.b_isinstance (by decide +kernel) (pa_cons (pv 0) (pa_cons (pe_glob (v := .ref _) rfl GRing rfl) pa_nil))) (pa_cons (pe_callB (call_isXK (K := K) rfl) (by rfl) T.b_isinstance (by decide +kernel) (pa_cons (pv 0) (pa_cons (pe_glob (v := .ref _) rfl GNoDeed rfl) pa_nil))) pa_nil))))))
      (pss_cons (ps_set (i := 2) sc__law_kinds.nd rfl (Or.inl rfl) (pe_op op_cat (pv 2) (pe_lst (pa_cons (pe_callB (call_isXK (K := K) rfl) (by rfl) T.b_isinstance (by decide +kernel) (pa_cons (pv 0) (pa_cons (pe_glob (v := .ref _) rfl GNoRow rfl) pa_nil))) (pa_cons (pe_not (pe_callB (call_isXK (K := K) rfl) (by rfl) T.b_isinstance (by decide +kernel) (pa_cons (pv 0) (pa_cons (pe_bltn (v := .ty "ValueError") (by rfl) T.b_ValueError (by decide +kernel) rfl) pa_nil)))) pa_nil)))))
      (pss_one (ps_ret (pe_and (pe_cmpR op_notN (pv 0) pe_non (nomark _)) (pe_one (pe_cmpR (op_eqD hr.units) (pv 2) (pe_lc (own := [("k", 3)]) (g := gName 3)  (by rfl) sc__law_kinds.nd  (pi_range1 rfl T.b_range (pa_cons pe_int pa_nil)) (blkOk_by (own := [("k", 3)]) (N := N__law_kinds) (sc := defScope s__law_kinds) (by decide +kernel)) (fun _ _ _ _ _ => (pg_name (i := 3) sc__law_kinds.nd rfl (Or.inl rfl))) (fun _ _ _ _ _ => pts_nil) (fun _ _ _ _ _ => (pe_cmpR op_eq (pv 3) (pv 1) (nomark _)))) (nomark _))))))))), ?_⟩
  refine ⟨_, rfl, e, C, _, _, _, rfl, he, R.exc, .own c0, R.i0, _, rfl, e, C, _, _, _, rfl, he, R.exc, .own c1, R.i1, _, rfl, e, C, _, _, _, rfl, he, R.exc, .own c2, R.i2, le_line (Nat.le_of_ble_eq_true rfl), fun L1 n1 => ?_⟩
  have s1 := same_new n1 (.lst [.bl (decide (0 = due)), .bl (decide (1 = due)), .bl (decide (2 = due))])
  have he1 := s1 _ _ he
  refine ⟨_, rfl, _, rfl, e, C, _, _, _, rfl, he1, R.exc, .own c3, R.i3, _, rfl, e, C, _, _, _, rfl, he1, R.exc, .own c4, R.i4, _, rfl, e, C, _, _, _, rfl, he1, R.exc, .own c5, R.i5, le_line (Nat.le_of_ble_eq_true rfl), fun L2 n2 => ?_⟩
  have s2 := same_new n2 (.lst [.bl (decide (3 = due)), .bl (decide (4 = due)), .bl (decide (5 = due))])
  refine ⟨L1, L2, _, _, rfl, rfl, s2 _ _ upd_same, upd_same, le_line (Nat.le_of_ble_eq_true rfl), fun L3 n3 => ?_⟩
  have s3 := same_new n3 (.lst [.bl (decide (0 = due)), .bl (decide (1 = due)), .bl (decide (2 = due)), .bl (decide (3 = due)), .bl (decide (4 = due)), .bl (decide (5 = due))])
  have he3 := s3 _ _ (s2 _ _ he1)
  refine ⟨_, rfl, _, rfl, e, C, _, _, _, rfl, he3, R.exc, .own c6, R.i6, _, rfl, e, C, _, _, _, rfl, he3, R.exc, .ty _, R.isV, _, rfl, le_line (Nat.le_of_ble_eq_true rfl), fun L4 n4 => ?_⟩
  have s4 := same_new n4 (.lst [.bl (decide (6 = due)), .bl (!true)])
  refine ⟨L3, L4, _, _, rfl, rfl, s4 _ _ upd_same, upd_same, le_line (Nat.le_of_ble_eq_true rfl), fun L5 n5 => ?_⟩
  have s5 := same_new n5 (.lst [.bl (decide (0 = due)), .bl (decide (1 = due)), .bl (decide (2 = due)), .bl (decide (3 = due)), .bl (decide (4 = due)), .bl (decide (5 = due)), .bl (decide (6 = due)), .bl (!true)])
  obtain ⟨H5, hH5⟩ : ∃ H5, H5 = upd (upd (upd (upd (upd H L1 (.lst [.bl (decide (0 = due)), .bl (decide (1 = due)), .bl (decide (2 = due))])) L2 (.lst [.bl (decide (3 = due)), .bl (decide (4 = due)), .bl (decide (5 = due))])) L3 (.lst [.bl (decide (0 = due)), .bl (decide (1 = due)), .bl (decide (2 = due)), .bl (decide (3 = due)), .bl (decide (4 = due)), .bl (decide (5 = due))])) L4 (.lst [.bl (decide (6 = due)), .bl (!true)])) L5 (.lst [.bl (decide (0 = due)), .bl (decide (1 = due)), .bl (decide (2 = due)), .bl (decide (3 = due)), .bl (decide (4 = due)), .bl (decide (5 = due)), .bl (decide (6 = due)), .bl (!true)]) := ⟨_, rfl⟩
  have sA : Same H H5 := by rw [hH5]; exact s1.trans (s2.trans (s3.trans (s4.trans s5)))
  have hL5 : H5 L5 = some (.lst [.bl (decide (0 = due)), .bl (decide (1 = due)), .bl (decide (2 = due)), .bl (decide (3 = due)), .bl (decide (4 = due)), .bl (decide (5 = due)), .bl (decide (6 = due)), .bl (!true)]) := by rw [hH5]; exact upd_same
  show ∃ _, _
  refine ⟨_, rfl, rfl, _, rfl, not_false_eq (decide_eq_false fun z => by cases z) ?_⟩
  refine ⟨_, rfl, ?_⟩
  have lead : ∀ {G : Hp → Prop}, G H5 → G (upd (upd (upd (upd (upd H L1 (.lst [.bl (decide (0 = due)), .bl (decide (1 = due)), .bl (decide (2 = due))])) L2 (.lst [.bl (decide (3 = due)), .bl (decide (4 = due)), .bl (decide (5 = due))])) L3 (.lst [.bl (decide (0 = due)), .bl (decide (1 = due)), .bl (decide (2 = due)), .bl (decide (3 = due)), .bl (decide (4 = due)), .bl (decide (5 = due))])) L4 (.lst [.bl (decide (6 = due)), .bl (!true)])) L5 (.lst [.bl (decide (0 = due)), .bl (decide (1 = due)), .bl (decide (2 = due)), .bl (decide (3 = due)), .bl (decide (4 = due)), .bl (decide (5 = due)), .bl (decide (6 = due)), .bl (!true)])) := fun g => by rw [← hH5]; exact g
  refine ⟨8, rfl, by decide, by decide, fun M nM => lc_range (lo := 0) (n := 8) (fun i H' => Same H5 H' ∧ H' M = some (.lst ((List.range i).map fun j => V.bl (decide (j = due))))) ⟨by rw [hH5]; exact same_new nM _, upd_same⟩ ?_ ?_⟩
  · rintro i H6 hi ⟨hs6, hM⟩
    have nM5 : H5 M = none := by rw [hH5]; exact nM
    refine ⟨rfl, _, rfl, _, rfl, rfl, _, hM, lt_line (by rw [List.length_map, List.length_range]; omega), same_upd hs6 nM5 _, ?_⟩
    rw [upd_same, List.range_succ, List.map_append]
    have e : decide (V.int (0 + (i : Int)) = V.int (due : Int)) = decide (i = due) := decide_eq_decide.mpr ⟨fun z => by have := V.int.inj z; omega, fun z => congrArg V.int (by omega)⟩
    rw [e]
    rfl
  rintro H6 ⟨hs6, hM⟩
  have bls : ∀ {H : Hp} {L : Addr} {b0 b1 b2 b3 b4 b5 b6 b7 : Bool}, H L = some (.lst [.bl b0, .bl b1, .bl b2, .bl b3, .bl b4, .bl b5, .bl b6, .bl b7]) → Dp K H (.ref L) (.list [.bool b0, .bool b1, .bool b2, .bool b3, .bool b4, .bool b5, .bool b6, .bool b7]) := fun h =>
    .lst (SqL.of h) (.cons (.bl _) (.cons (.bl _) (.cons (.bl _) (.cons (.bl _) (.cons (.bl _) (.cons (.bl _) (.cons (.bl _) (.cons (.bl _) .nil))))))))
  have hM2 : H6 M = some (.lst [.bl (decide (0 = due)), .bl (decide (1 = due)), .bl (decide (2 = due)), .bl (decide (3 = due)), .bl (decide (4 = due)), .bl (decide (5 = due)), .bl (decide (6 = due)), .bl (decide (7 = due))]) := hM
  have e7 : decide (7 = due) = (!true) := decide_eq_false (by have := R.lt; omega)
  rw [e7] at hM2
  refine ⟨_, _, bls (hs6 _ _ hL5), bls hM2, rfl, rfl, ?_⟩
  rw [SeqAt.eqv_refl _ (by rfl)]
  exact q _ (sA.trans hs6)
end
/-! ### reads spoilt -/
/-- a list of at most n reads stands at L -/
def Piece (H : Hp) (n : Nat) (L : Addr) : Prop := ∃ xs rd, H L = some (.lst xs) ∧ Prs H rd xs ∧ Small rd ∧ rd.length ≤ n
theorem Piece.same {H H' : Hp} {n : Nat} {L : Addr} (h : Piece H n L) (s : Same H H') : Piece H' n L := by
  obtain ⟨xs, rd, h1, h2, h3⟩ := h
  exact ⟨xs, rd, s _ _ h1, h2.same s, h3⟩
theorem Prs.rev {H : Hp} : ∀ {ps : List Pr} {vs : List V}, Prs H ps vs → Prs H ps.reverse vs.reverse
  | [], [], _ => trivial
  | p :: ps, v :: vs, ⟨⟨t, e, ht⟩, h⟩ => by
    rw [List.reverse_cons, List.reverse_cons, e]
    exact Prs.snoc ht (Prs.rev h)
  | [], _ :: _, h => h.elim
  | _ :: _, [], h => h.elim
theorem Prs.app {H : Hp} : ∀ {ps qs : List Pr} {vs ws : List V}, Prs H ps vs → Prs H qs ws → Prs H (ps ++ qs) (vs ++ ws)
  | [], _, [], _, _, k => k
  | _ :: _, _, _ :: _, _, h, k => ⟨h.1, Prs.app h.2 k⟩
  | [], _, _ :: _, _, h, _ => h.elim
  | _ :: _, _, [], _, h, _ => h.elim
theorem go_cut {K : PySem.W.Frag} {H : Hp} {n : Nat} {R : Addr} {lo hi : Option Int} {Q : VK} (h : Piece H n R) (q : ∀ p H', H p = none → Same H H' → Piece H' n p → Q (.ref p) H') : rSlL K (.ref R) lo hi H Q := by
  obtain ⟨xs, rd, h1, h2, h3, h4⟩ := h
  refine ⟨R, xs, rfl, SqL.of h1, fun p np => ?_⟩
  have s := same_new np (.lst (cutV xs lo hi))
  refine q p _ np s ⟨_, (rd.drop (HT.sIx xs.length 0 lo)).take (HT.sIx xs.length xs.length hi - HT.sIx xs.length 0 lo), upd_same, ((h2.drop _).take _).same s, fun p hp => h3 p (List.mem_of_mem_drop (List.mem_of_mem_take hp)), ?_⟩
  rw [List.length_take, List.length_drop]
  omega
theorem go_cat {H : Hp} {n m : Nat} {L M : Addr} {Q : VK} (h : Piece H n L) (k : Piece H m M) (le : n + m ≤ 16777216) (q : ∀ p H', H p = none → Same H H' → Piece H' (n + m) p → Q (.ref p) H') : rCat (.ref L) (.ref M) H Q := by
  obtain ⟨xs, rd, h1, h2, h3, h4⟩ := h
  obtain ⟨ys, re, k1, k2, k3, k4⟩ := k
  have hl := h2.len
  have kl := k2.len
  refine ⟨L, M, xs, ys, rfl, rfl, h1, k1, le_line (by omega), fun p np => ?_⟩
  have s := same_new np (.lst (xs ++ ys))
  refine q p _ np s ⟨_, rd ++ re, upd_same, (h2.app k2).same s, fun p hp => (List.mem_append.mp hp).elim (h3 p) (k3 p), ?_⟩
  rw [List.length_append]
  omega
theorem go_cutF {K : PySem.W.Frag} {σ : L2.St} {H : Hp} {n : Nat} {R : Addr} {lo : Option Int} {Q : VK} (h : Piece H n R) (q : ∀ p H', H p = none → Same H H' → Piece H' n p → Q (.ref p) H') : tNoPart σ H fun u H3 => rSlL K (.ref R) lo u H3 Q := go_cut h q
theorem small_lit {v : Int} (h : v.natAbs < 2 ^ 20) : v.natAbs < 2 ^ 400 := Nat.lt_of_lt_of_le h (Nat.pow_le_pow_right (by decide) (by decide))
def spSpoilt : Sp := fun vs H Q _ => ∃ (R N p : Addr) (r m c : Int) (n : Nat) (ns : List (List Nat)), vs = [.ref R, .ref N, .ref p] ∧ Piece H n R ∧ n ≤ 20 ∧ H N = some (.lst (txs ns)) ∧ 1 ≤ ns.length ∧ ns.length ≤ 7 ∧ (∀ s ∈ ns, Nm s) ∧ H p = some (.lst (pl r m c)) ∧ 0 ≤ c ∧ c ≤ 900000 ∧
  ∀ (H' : Hp) (L : Addr) (r' c' : Int), Fr1 p H H' → Piece H' 100 L → H' p = some (.lst (pl r' m c')) → 0 ≤ c' → c' ≤ c + 10 → Q (.ref L) H'
theorem Prs.pl_ne {H : Hp} {rd : List Pr} {r m c : Int} (h : Prs H rd (pl r m c)) : False := by
  match rd, h with
  | _ :: _, ⟨⟨t, e, _⟩, _⟩ => cases e
section
variable {P : Program} {w : World} {K : PySem.W.Frag} {mg : Str → Option Value} {base : Heap}
abbrev s__law_spoilt : Stmt := topS 24
abbrev N__law_spoilt : List Str := ["reads", "names", "pool", "at", "to", "other", "way", "name", "number"]
theorem sc__law_spoilt : FnScope N__law_spoilt ["reads", "names", "pool"] (defScope s__law_spoilt) := ⟨rfl, rfl, rfl, by decide +kernel, rfl, by decide +kernel, by decide +kernel⟩

theorem ok__law_spoilt (T : Txt K mg) (D : IsDef K mg "_law_spoilt" s__law_spoilt ["reads", "names", "pool"]) (C__law_take : Cal P w K mg base CX0 1 "_law_take" ["pool", "many"] spTakeL) : Cal P w K mg base CX0 2 "_law_spoilt" ["reads", "names", "pool"] spSpoilt := by
  refine D.cal sc__law_spoilt (fun vs H Q E h => ?_) (fun f cdv A outer s H vs Q E hr h => ?_)
  · obtain ⟨R, N, p, r, m, c, n, ns, rfl, _⟩ := h
    rfl
  obtain ⟨R, N, p, r, m, c, n, ns, rfl, hR, n20, hN, n1, n7, hnm, hp, c0, c1, q⟩ := h
  refine ⟨_, (pss_cons (ps_set (i := 3) sc__law_spoilt.nd rfl (Or.inl rfl) (pe_cal C__law_take (hr.mono (by first | decide | omega)) pass0 (pa_cons (pv 2) (pa_cons (pe_op op_add (pe_callB call_len_seq (by rfl) T.b_len PySem.boot_len (pa_cons (pv 0) pa_nil)) pe_int) pa_nil))))
      (pss_cons (ps_set (i := 4) sc__law_spoilt.nd rfl (Or.inl rfl) (pe_cal C__law_take (hr.mono (by first | decide | omega)) pass0 (pa_cons (pv 2) (pa_cons (pe_op op_add (pe_callB call_len_seq (by rfl) T.b_len PySem.boot_len (pa_cons (pv 0) pa_nil)) pe_int) pa_nil))))
      (pss_cons (ps_set (i := 5) sc__law_spoilt.nd rfl (Or.inr rfl) (pe_tup (pa_cons (pe_ix (r := rIxL K) ix_list (pv 1) (pe_cal C__law_take (hr.mono (by first | decide | omega)) pass0 (pa_cons (pv 2) (pa_cons (pe_callB call_len_seq (by rfl) T.b_len PySem.boot_len (pa_cons (pv 1) pa_nil)) pa_nil))) (fun _ _ => rfl)) (pa_cons (pe_op op_sub (pe_cal C__law_take (hr.mono (by first | decide | omega)) pass0 (pa_cons (pv 2) (pa_cons pe_int pa_nil))) pe_int) pa_nil))))
      (pss_cons (ps_set (i := 6) sc__law_spoilt.nd rfl (Or.inl rfl) (pe_cal C__law_take (hr.mono (by first | decide | omega)) pass0 (pa_cons (pv 2) (pa_cons pe_int pa_nil))))
      (pss_cons (ps_if (pt_cmpR op_eq (pv 6) pe_int (nomark _))
        (pss_one (ps_ret (pe_op op_cat (pe_op op_cat (pe_slice (r := rSlL K) sl_list (pv 0) po_none (po_some (pv 3))) (pe_lst (pa_cons (pv 5) pa_nil))) (pe_slice (r := rSlL K) sl_list (pv 0) (po_some (pv 3)) po_none))))
        pss_nil)
      (pss_cons (ps_if (pt_cmpR op_eq (pv 6) pe_int (nomark _))
        (pss_one (ps_ret (pe_op op_cat (pe_op op_cat (pe_slice (r := rSlL K) sl_list (pv 0) po_none (po_some (pv 3))) (pe_lst (pa_cons (pv 5) pa_nil))) (pe_slice (r := rSlL K) sl_list (pv 0) (po_some (pe_op op_add (pv 3) pe_int)) po_none))))
        pss_nil)
      (pss_cons (ps_if (pt_cmpR op_eq (pv 6) pe_int (nomark _))
        (pss_one (ps_ret (pe_op op_cat (pe_slice (r := rSlL K) sl_list (pv 0) po_none (po_some (pv 3))) (pe_slice (r := rSlL K) sl_list (pv 0) (po_some (pe_op op_add (pv 3) pe_int)) po_none))))
        pss_nil)
      (pss_cons (ps_if (pt_cmpR op_eq (pv 6) pe_int (nomark _))
        (pss_one (ps_ret (pe_op op_cat (pe_op op_cat (pe_slice (r := rSlL K) sl_list (pv 0) po_none (po_some (pv 3))) (pe_slice (r := rSlL K) sl_list (pv 0) (po_some (pv 3)) (po_some (pe_op op_add (pv 3) pe_int)))) (pe_slice (r := rSlL K) sl_list (pv 0) (po_some (pv 3)) po_none))))
        pss_nil)
      (pss_cons (ps_if (pt_cmpR op_eq (pv 6) pe_int (nomark _))
        (pss_one (ps_ret (pe_op op_cat (pe_op op_cat (pe_slice (r := rSlL K) sl_list (pv 0) po_none (po_some (pv 3))) (pe_lc (own := [("name", 7), ("number", 8)]) (g := gTup K 2 (gCons (gName 7) (gCons (gName 8) gNil)))  (by rfl) sc__law_spoilt.nd  (pi_list (pe_slice (r := rSlL K) sl_list (pv 0) (po_some (pv 3)) (po_some (pe_op op_add (pv 3) pe_int)))) (blkOk_by (own := [("name", 7), ("number", 8)]) (N := N__law_spoilt) (sc := defScope s__law_spoilt) (by decide +kernel)) (fun _ _ _ _ _ => (pg_tup rfl (pgs_cons (pg_name (i := 7) sc__law_spoilt.nd rfl (Or.inl rfl)) (pgs_cons (pg_name (i := 8) sc__law_spoilt.nd rfl (Or.inl rfl)) pgs_nil)))) (fun _ _ _ _ _ => pts_nil) (fun _ _ _ _ _ => (pe_tup (pa_cons (pv 7) (pa_cons (pe_ix (r := rIxT K) ix_tup (pv 5) pe_int (fun _ _ => rfl)) pa_nil)))))) (pe_slice (r := rSlL K) sl_list (pv 0) (po_some (pe_op op_add (pv 3) pe_int)) po_none))))
        pss_nil)
      (pss_cons (ps_if (pt_cmpR op_eq (pv 6) pe_int (nomark _))
        (pss_one (ps_ret (pe_op op_cat (pe_op op_cat (pe_slice (r := rSlL K) sl_list (pv 0) po_none (po_some (pv 3))) (pe_slice (r := rSlL K) sl_list (pv 0) (po_some (pv 4)) po_none)) (pe_slice (r := rSlL K) sl_list (pv 0) (po_some (pv 3)) (po_some (pv 4))))))
        pss_nil)
      (pss_one (ps_ret (pe_revL (pv 0)))))))))))))), ?_⟩
  have nNp : N ≠ p := fun z => by rw [z, hp] at hN; exact txs_pl (HO.lst.inj (Option.some.inj hN)).symm
  have nRp : R ≠ p := fun z => by
    obtain ⟨xs, rd, h1, h2, _⟩ := hR
    rw [z, hp] at h1
    rw [← HO.lst.inj (Option.some.inj h1)] at h2
    exact h2.pl_ne
  have fr : ∀ {H1 H2 : Hp} {r m c : Int}, H1 p = some (.lst (pl r m c)) → (∀ b, b ≠ p → H2 b = H1 b) → ∀ {k : Nat} {L : Addr}, L ≠ p → Piece H1 k L → Piece H2 k L := fun {H1 H2 r m c} hp k {k1 L} nL h => by
    obtain ⟨xs, rd, h1, h2, h3⟩ := h
    have f1 : Fr1 p H1 H2 := fun b u n e => by rw [k b n]; exact e
    exact ⟨xs, rd, f1 _ _ nL h1, h2.keep (f1.keep hp), h3⟩
  obtain ⟨xs, rd, hR1, hR2, hR3, hR4⟩ := id hR
  have hxl := hR2.len
  have lenOk : 0 < ((xs.length : Nat) : Int) + 1 ∧ (((xs.length : Nat) : Int) + 1).natAbs < 2 ^ 400 := ⟨by omega, small400 (by omega) (by omega)⟩
  refine ⟨_, rfl, _, rfl, R, _, rfl, .inl (SqL.of hR1), _, _, rfl, rfl, p, r, m, c, _, rfl, hp, lenOk.1, lenOk.2, c0, by omega, fun H1 a r1 c1' k1 p1 d0 d1 a0 a1 => ?_⟩
  have hR1' := (k1 R nRp).trans hR1
  refine ⟨_, rfl, _, rfl, R, _, rfl, .inl (SqL.of hR1'), _, _, rfl, rfl, p, r1, m, c1', _, rfl, p1, lenOk.1, lenOk.2, d0, by omega, fun H2 b r2 c2 k2 p2 e0 e1 b0 b1 => ?_⟩
  have hN2 : H2 N = some (.lst (txs ns)) := by rw [k2 N nNp, k1 N nNp]; exact hN
  refine ⟨_, rfl, _, rfl, _, rfl, N, _, rfl, .inl (SqL.of hN2), p, r2, m, c2, _, rfl, p2, ?_, small400 ?_ ?_, e0, by omega, fun H3 i r3 c3 k3 p3 f0 f1 i0 i1 => ?_⟩
  · show (0 : Int) < ((txs ns).length : Nat)
    rw [txs_len]
    omega
  · show -(2 ^ 100) - 8 ≤ (((txs ns).length : Nat) : Int)
    omega
  · show (((txs ns).length : Nat) : Int) ≤ 2 ^ 101 + 8
    rw [txs_len]
    omega
  have hN3 := (k3 N nNp).trans hN2
  rw [txs_len] at i1
  have hi : i.toNat < ns.length := by omega
  have hat : atI (txs ns) i = some (.str (SX.S ns[i.toNat])) := atI_at i0 (by rw [txs_get hi])
  obtain ⟨s0, hs0, hs0m⟩ : ∃ s0, ns[i.toNat] = s0 ∧ Nm s0 := ⟨_, rfl, hnm _ (List.getElem_mem hi)⟩
  rw [hs0] at hat
  refine ⟨N, _, _, _, rfl, rfl, SqL.of hN3, hat, _, rfl, p, r3, m, c3, 9, rfl, p3, by decide, small400 (by decide) (by decide), f0, by omega, fun H4 v r4 c4 k4 p4 g0 g1 v0 v1 => ?_⟩
  refine ⟨_, _, rfl, rfl, le_line (Nat.le_of_ble_eq_true rfl), fun t nt => ?_⟩
  have npt : p ≠ t := ne_of_none p4 nt
  have st := same_new nt (.tup [.str (SX.S s0), .int (v - 4)])
  refine ⟨_, rfl, p, r4, m, c4, 7, rfl, st _ _ p4, by decide, small400 (by decide) (by decide), g0, by omega, fun H5 way r5 c5 k5 p5 j0 j1 w0 w1 => ?_⟩
  have ht5 : H5 t = some (.tup [.str (SX.S s0), .int (v - 4)]) := (k5 t npt.symm).trans upd_same
  have hR5 : Piece H5 n R := fr (st _ _ p4) k5 nRp ((fr p3 k4 nRp (fr p2 k3 nRp (fr p1 k2 nRp (fr hp k1 nRp hR)))).same st)
  have f5 : Fr1 p H H5 := fun x u nx e => by
    rw [k5 x nx]
    refine st _ _ ?_
    rw [k4 x nx, k3 x nx, k2 x nx, k1 x nx]
    exact e
  have hv4 : (v - 4).natAbs < 2 ^ 400 := small400 (by omega) (by omega)
  have fin : ∀ {G : Hp} {L : Addr} {k : Nat}, Same H5 G → Piece G k L → k ≤ 100 → Q (.ref L) G := fun {G L k} s hP hk => by
    obtain ⟨xs, rd, h1, h2, h3, h4⟩ := hP
    exact q G L r5 c5 (f5.trans (Fr1.of s)) ⟨xs, rd, h1, h2, h3, by omega⟩ (s _ _ p5) j0 (by omega)
  have one : ∀ {G : Hp} {L : Addr}, Same H5 G → G L = none → Piece (upd G L (.lst [.ref t])) 1 L := fun {G L} s nL =>
    ⟨_, [(s0, v - 4)], upd_same, ⟨⟨t, rfl, same_new nL _ _ _ (s _ _ ht5)⟩, trivial⟩, fun p hp => by rw [List.mem_singleton.mp hp]; exact ⟨hs0m, hv4⟩, Nat.le_refl _⟩
  refine ⟨_, rfl, rfl, _, rfl, ite2 (fun _ => ?_) (fun _ => ?_)⟩
  · refine ⟨_, rfl, _, rfl, _, rfl, go_cut hR5 fun A1 G1 _ s1 P1 => ⟨_, rfl, le_line (Nat.le_of_ble_eq_true rfl), fun A2 n2 => ?_⟩⟩
    have sn2 := same_new n2 (.lst [.ref t])
    refine go_cat (P1.same sn2) (one s1 n2) (by omega) fun A3 G3 _ s3 P3 => ⟨_, rfl, _, rfl, _, rfl, go_cutF (hR5.same (s1.trans (sn2.trans s3))) fun A4 G4 _ s4 P4 => go_cat (P3.same s4) P4 (by omega) fun A5 G5 _ s5 P5 => ?_⟩
    exact fin (s1.trans (sn2.trans (s3.trans (s4.trans s5)))) P5 (by omega)
  refine ⟨_, rfl, rfl, _, rfl, ite2 (fun _ => ?_) (fun _ => ?_)⟩
  · refine ⟨_, rfl, _, rfl, _, rfl, go_cut hR5 fun A1 G1 _ s1 P1 => ⟨_, rfl, le_line (Nat.le_of_ble_eq_true rfl), fun A2 n2 => ?_⟩⟩
    have sn2 := same_new n2 (.lst [.ref t])
    refine go_cat (P1.same sn2) (one s1 n2) (by omega) fun A3 G3 _ s3 P3 => ⟨_, rfl, _, rfl, _, _, rfl, rfl, _, rfl, go_cutF (hR5.same (s1.trans (sn2.trans s3))) fun A4 G4 _ s4 P4 => go_cat (P3.same s4) P4 (by omega) fun A5 G5 _ s5 P5 => ?_⟩
    exact fin (s1.trans (sn2.trans (s3.trans (s4.trans s5)))) P5 (by omega)
  refine ⟨_, rfl, rfl, _, rfl, ite2 (fun _ => ?_) (fun _ => ?_)⟩
  · refine ⟨_, rfl, _, rfl, _, rfl, go_cut hR5 fun A1 G1 _ s1 P1 => ⟨_, rfl, _, rfl, _, _, rfl, rfl, _, rfl, go_cutF (hR5.same s1) fun A2 G2 _ s2 P2 => go_cat (P1.same s2) P2 (by omega) fun A5 G5 _ s5 P5 => ?_⟩⟩
    exact fin (s1.trans (s2.trans s5)) P5 (by omega)
  refine ⟨_, rfl, rfl, _, rfl, ite2 (fun _ => ?_) (fun _ => ?_)⟩
  · refine ⟨_, rfl, _, rfl, _, rfl, go_cut hR5 fun A1 G1 _ s1 P1 => ⟨_, rfl, _, rfl, _, rfl, _, rfl, _, _, rfl, rfl, _, rfl, go_cut (hR5.same s1) fun A2 G2 _ s2 P2 => go_cat (P1.same s2) P2 (by omega) fun A3 G3 _ s3 P3 => ?_⟩⟩
    refine ⟨_, rfl, _, rfl, _, rfl, go_cutF (hR5.same (s1.trans (s2.trans s3))) fun A4 G4 _ s4 P4 => go_cat (P3.same s4) P4 (by omega) fun A5 G5 _ s5 P5 => ?_⟩
    exact fin (s1.trans (s2.trans (s3.trans (s4.trans s5)))) P5 (by omega)
  refine ⟨_, rfl, rfl, _, rfl, ite2 (fun _ => ?_) (fun _ => ?_)⟩
  · refine ⟨_, rfl, _, rfl, _, rfl, go_cut hR5 fun A1 G1 _ s1 P1 => ⟨_, rfl, _, rfl, _, rfl, _, rfl, _, _, rfl, rfl, _, rfl, go_cut (hR5.same s1) fun A2 G2 _ s2 P2 => ?_⟩⟩
    obtain ⟨ys, re, y1, y2, y3, y4⟩ := P2
    have yl := y2.len
    refine ⟨A2, rfl, ⟨_, SqL.of y1⟩, fun M nM => lc_list (K := K) (xs := ys) (fun i G => ∃ acc re', Same G2 G ∧ G M = some (.lst acc) ∧ Prs G re' acc ∧ Small re' ∧ re'.length ≤ i) ⟨[], [], same_new nM _, upd_same, trivial, fun _ h => (nomatch h), Nat.le_refl _⟩ (fun i G _ ⟨_, _, s, _⟩ => SqL.of (s _ _ y1)) (fun i x G hx ⟨acc, re', sG, hM, hPr, hSm, hln⟩ => ?_) (fun G ⟨acc, re', sG, hM, hPr, hSm, hln⟩ => ?_)⟩
    · obtain ⟨pr, u, hu1, rfl, hu2⟩ := y2.at hx
      have hm := List.mem_of_getElem? hu1
      have il : i < ys.length := (List.getElem?_eq_some_iff.mp hx).1
      have al := hPr.len
      refine ⟨u, _, rfl, SqT.of (sG _ _ hu2), rfl, _, _, rfl, _, _, rfl, rfl, rfl, _, rfl, _, rfl, t, _, _, _, rfl, rfl, SqT.of (sG _ _ (s2 _ _ (s1 _ _ ht5))), rfl, le_line (Nat.le_of_ble_eq_true rfl), fun z nz => ?_⟩
      have sz := same_new nz (.tup [.str (SX.S pr.1), .int (v - 4)])
      have nM2 : G2 M = none := nM
      refine ⟨_, sz _ _ hM, lt_line (by omega), _, re' ++ [(pr.1, v - 4)], same_upd (sG.trans sz) nM2 _, upd_same, (Prs.snoc (p := (pr.1, v - 4)) upd_same (hPr.same sz)).keep (keep_lst (sz _ _ hM)), fun p hp => ?_, by rw [List.length_append]; exact Nat.succ_le_succ hln⟩
      rcases List.mem_append.mp hp with h | h
      · exact hSm p h
      · rw [List.mem_singleton.mp h]
        exact ⟨(y3 _ hm).1, hv4⟩
    · have hP3 : Piece G n M := ⟨_, _, hM, hPr, hSm, by omega⟩
      refine go_cat (P1.same (s2.trans sG)) hP3 (by omega) fun A3 G3 _ s3 P3 => ⟨_, rfl, _, rfl, _, _, rfl, rfl, _, rfl, go_cutF (hR5.same (s1.trans (s2.trans (sG.trans s3)))) fun A4 G4 _ s4 P4 => go_cat (P3.same s4) P4 (by omega) fun A5 G5 _ s5 P5 => ?_⟩
      exact fin (s1.trans (s2.trans (sG.trans (s3.trans (s4.trans s5))))) P5 (by omega)
  refine ⟨_, rfl, rfl, _, rfl, ite2 (fun _ => ?_) (fun _ => ?_)⟩
  · refine ⟨_, rfl, _, rfl, _, rfl, go_cut hR5 fun A1 G1 _ s1 P1 => ⟨_, rfl, _, rfl, _, rfl, go_cutF (hR5.same s1) fun A2 G2 _ s2 P2 => go_cat (P1.same s2) P2 (by omega) fun A3 G3 _ s3 P3 => ?_⟩⟩
    refine ⟨_, rfl, _, rfl, _, rfl, _, rfl, _, rfl, go_cut (hR5.same (s1.trans (s2.trans s3))) fun A4 G4 _ s4 P4 => go_cat (P3.same s4) P4 (by omega) fun A5 G5 _ s5 P5 => ?_⟩
    exact fin (s1.trans (s2.trans (s3.trans (s4.trans s5)))) P5 (by omega)
  obtain ⟨ys, re, y1, y2, y3, y4⟩ := hR5
  refine ⟨_, rfl, R, _, rfl, SqL.of y1, fun A1 n1 => ?_⟩
  have s1 := same_new n1 (.lst ys.reverse)
  exact fin s1 ⟨_, re.reverse, upd_same, y2.rev.same s1, fun p hp => y3 p (List.mem_reverse.mp hp), Nat.le_refl _⟩ (by rw [List.length_reverse]; omega)
end
/-! ### what behind tells is right -/
def spRight : Sp := fun vs H Q _ => ∃ (v : V) (R : Addr) (r : Rcp), vs = [v, .ref R] ∧ Rec H r v ∧ r.Nb ∧ r.dep ≤ 9 ∧ Piece H 100 R ∧ ∀ H', Same H H' → Q (.bl true) H'
theorem dp_read (K : PySem.W.Frag) {H : Hp} {t : Addr} {s : List Nat} (h : H t = some (.tup [.str "read", .str (SX.S s)])) (hs : Nm s) : Dp K H (.ref t) (.tuple [.str "read", .str (SX.S s)]) ∧ SeqAt.shaped (.tuple [.str "read", .str (SX.S s)]) = true ∧ PyData.eqv (.tuple [.str "read", .str (SX.S s)]) (.tuple [.str "read", .str (SX.S s)]) = true := by
  have h3 : (PyData.str (SX.S s)).canLay0 = true := nm_lay hs
  have h4 : (PyData.str "read").canLay0 = true := by decide +kernel
  have hc : (PyData.tuple [.str "read", .str (SX.S s)]).canLay0 = true := by
    show ((PyData.str "read").canLay0 && ((PyData.str (SX.S s)).canLay0 && true)) = true
    rw [h3, h4]
    rfl
  refine ⟨.tup (SqT.of h) (.cons (.str _) (.cons (.str _) .nil)), ?_, SeqAt.eqv_refl _ hc⟩
  show (((PyData.str "read").canLay0 && ((PyData.str (SX.S s)).canLay0 && true)) && decide (PyData.depthAll [.str "read", .str (SX.S s)] + 1 ≤ 64)) = true
  rw [h3, h4]
  rfl
theorem dp_worth (K : PySem.W.Frag) {H : Hp} {t : Addr} {x : Int} (h : H t = some (.tup [.str "worth", .int x])) : Dp K H (.ref t) (.tuple [.str "worth", .int x]) ∧ SeqAt.shaped (.tuple [.str "worth", .int x]) = true ∧ PyData.eqv (.tuple [.str "worth", .int x]) (.tuple [.str "worth", .int x]) = true := by
  have h3 : (PyData.int x).canLay0 = true := rfl
  have h4 : (PyData.str "worth").canLay0 = true := by decide +kernel
  have hc : (PyData.tuple [.str "worth", .int x]).canLay0 = true := by
    show ((PyData.str "worth").canLay0 && ((PyData.int x).canLay0 && true)) = true
    rw [h3, h4]
    rfl
  refine ⟨.tup (SqT.of h) (.cons (.str _) (.cons (.int _) .nil)), ?_, SeqAt.eqv_refl _ hc⟩
  show (((PyData.str "worth").canLay0 && ((PyData.int x).canLay0 && true)) && decide (PyData.depthAll [.str "worth", .int x] + 1 ≤ 64)) = true
  rw [h3, h4]
  rfl
theorem dp_reads (K : PySem.W.Frag) {H : Hp} {R : Addr} {rd : List Pr} {xs : List V} (h : H R = some (.lst xs)) (hP : Prs H rd xs) : Dp K H (.ref R) (.list (Th.pyL (rd.map pairTh))) :=
  Data.dp (t := .lst (rd.map pairTh)) (prs_flat _) ⟨R, _, rfl, h, hP.data⟩
theorem reads_eqv {rd : List Pr} (h : ∀ p ∈ rd, Nm p.1) : PyData.eqv (.list (Th.pyL (rd.map pairTh))) (.list (Th.pyL (rd.map pairTh))) = true := by
  obtain ⟨h1, _⟩ := prs_lay h
  exact SeqAt.eqv_refl _ h1
theorem out_nm {rd : List Pr} {r : Rcp} {s : List Nat} (hb : r.Nb) (h : outOf rd r = .read s) : Nm s :=
  nms_ok hb s (go_name hb (Nat.zero_le _) (out_next 0 h).1).1
section
variable {P : Program} {w : World} {K : PySem.W.Frag} {mg : Str → Option Value} {base : Heap}
abbrev s__law_right : Stmt := topS 25
abbrev N__law_right : List Str := ["r", "reads", "due", "handed", "caught", "found", "e"]
theorem sc__law_right : FnScope N__law_right ["r", "reads"] (defScope s__law_right) := ⟨rfl, rfl, rfl, by decide +kernel, rfl, by decide +kernel, by decide +kernel⟩

theorem ok__law_right {C CM c0 c1 c2 c3 c4 c5 c6 : Addr} (T : Txt K mg) (R7 : Kin7 K mg C CM c0 c1 c2 c3 c4 c5 c6 0) (D : IsDef K mg "_law_right" s__law_right ["r", "reads"]) (C_behind0 : Cal P w K mg base (L2.CX P w) 20 "behind" ["r", "reads"] (spBehind C))
    (C_lb : Cal P w K mg base CX0 11 "_law_behind" ["r", "reads"] spLBehind) (C_lk : Cal P w K mg base CX0 1 "_law_kinds" ["caught", "due"] (spKinds C 0)) : Cal P w K mg base CX0 21 "_law_right" ["r", "reads"] spRight := by
  have C_behind := C_behind0
  have C__law_behind := C_lb.mono (show 11 ≤ 20 by omega)
  have C__law_kinds := C_lk.mono (show 1 ≤ 20 by omega)
  have GMadeError := R7.gM
  refine D.cal sc__law_right (fun vs H Q E h => ?_) (fun f cdv A outer s H vs Q E hr h => ?_)
  · obtain ⟨v, R, r, rfl, _⟩ := h
    rfl
  obtain ⟨v, R, r, rfl, hRc, hNb, h9, ⟨xs, rd, hR, hP, hsm, h100⟩, q⟩ := h
  have hnm : ∀ p ∈ rd, Nm p.1 := fun p hp => (hsm p hp).1
  refine ⟨_, (pss_cons (ps_set (i := 2) sc__law_right.nd rfl (Or.inl rfl) (pe_cal C__law_behind (hr.mono (by first | decide | omega)) pass0 (pa_cons (pv 0) (pa_cons (pv 1) pa_nil))))
      (pss_cons (ps_set (i := 3) sc__law_right.nd rfl (Or.inl rfl) (pe_callTy call_list_of (by rfl) T.b_list (by decide +kernel) (pa_cons (pv 1) pa_nil)))
      (pss_cons (ps_set (i := 4) sc__law_right.nd rfl (Or.inl rfl) pe_non)
      (pss_cons (ps_set (i := 5) sc__law_right.nd rfl (Or.inl rfl) pe_non)
      (pss_cons (ps_try_keep (i := 6) rfl rfl sc__law_right.nd rfl rfl ⟨rfl, by decide, .inl GMadeError⟩ takes0 (fun W pn xe tk _ => (pss_one (ps_set (i := 5) sc__law_right.nd rfl (Or.inl rfl) (pe_calS C_behind (hr.mono (by first | decide | omega)) (fun σ => passAt tk σ) (pa_cons (pv 0) (pa_cons (pv 3) pa_nil))))))
        (fun a cls d pn => (pss_one (ps_set (i := 4) sc__law_right.nd rfl (Or.inl rfl) (pv 6)))))
      (pss_cons (ps_if (pt_cmpR (op_neD hr.units) (pv 3) (pv 1) (nomark _))
        (pss_one (ps_ret pe_bl))
        pss_nil)
      (pss_cons (ps_if (pt_cmpR op_isN (pv 2) pe_non (nomark _))
        (pss_one (ps_ret (pe_cal C__law_kinds (hr.mono (by first | decide | omega)) pass0 (pa_cons (pv 4) (pa_cons pe_int pa_nil)))))
        pss_nil)
      (pss_cons (ps_if (PW.pt (pw_or (pt_cmpR op_notN (pv 4) pe_non (nomark _)) (pw_or (pt_not (pt_val (pe_callB call_isi (by rfl) T.b_isinstance (by decide +kernel) (pa_cons (pv 5) (pa_cons (pe_bltn (v := .ty "tuple") (by rfl) T.b_tuple (by decide +kernel) rfl) pa_nil))))) (pw_or (pt_cmpR (op_neD hr.units) (pv 5) (pv 2) (nomark _)) (pw_or1 (pt_cmpR (op_neD hr.units) (pe_cal C_behind (hr.mono (by first | decide | omega)) passL (pa_cons (pv 0) (pa_cons (pv 3) pa_nil))) (pv 2) (nomark _)))))))
        (pss_one (ps_ret pe_bl))
        pss_nil)
      (pss_one (ps_ret (pe_or (pe_cmpR op_eq (pe_ix (r := rIxT K) ix_tup (pv 2) pe_int (fun _ _ => rfl)) pe_str (nomark _)) (pe_one (pe_and (pe_callB call_isi (by rfl) T.b_isinstance (by decide +kernel) (pa_cons (pe_ix (r := rIxT K) ix_tup (pv 5) pe_int (fun _ _ => rfl)) (pa_cons (pe_bltn (v := .ty "int") (by rfl) T.b_int (by decide +kernel) rfl) pa_nil))) (pe_one (pe_not (pe_callB call_isi (by rfl) T.b_isinstance (by decide +kernel) (pa_cons (pe_ix (r := rIxT K) ix_tup (pv 5) pe_int (fun _ _ => rfl)) (pa_cons (pe_bltn (v := .ty "bool") (by rfl) T.b_bool (by decide +kernel) rfl) pa_nil)))))))))))))))))), ?_⟩
  refine ⟨_, rfl, _, rfl, v, R, r, rd, xs, rfl, hRc, hNb, h9, hR, hP, h100, hsm, fun s0 t H1 e s1 ht => ?_, fun x t H1 e s1 ht => ?_, fun H1 e s1 => ?_⟩
  · skip
    refine ⟨_, rfl, R, xs, rfl, .inl (SqL.of (s1 _ _ hR)), fun L nL => ?_⟩
    have sL := same_new nL (.lst xs)
    have hL : upd H1 L (.lst xs) L = some (.lst xs) := upd_same
    generalize upd H1 L (.lst xs) = HL at sL hL ⊢
    have sH := s1.trans sL
    refine ⟨_, rfl, _, rfl, v, L, r, rd, xs, rfl, hRc.same sH, hNb, h9, hL, hP.same sH, h100, hsm, ?_⟩
    have DP : ∀ {G : Hp} {u : Addr} (h : G u = some (.tup [.str "read", .str (SX.S s0)])), _ := fun {G u} h => dp_read K h (out_nm hNb e)
    refine ⟨fun x t2 H2 e2 s2 ht2 => ?_, fun x t2 H2 e2 => (by rw [e] at e2; cases e2), fun H2 e2 => (by rw [e] at e2; cases e2)⟩
    obtain rfl : s0 = x := Out.read.inj (e.symm.trans e2)
    refine ⟨_, rfl, _, rfl, _, _, dp_reads K (s2 _ _ hL) (hP.same (sH.trans s2)), dp_reads K ((sH.trans s2) _ _ hR) (hP.same (sH.trans s2)), prs_shaped hnm, prs_shaped hnm, _, rfl, ?_⟩
    rw [reads_eqv hnm]
    refine iteF ?_
    refine ⟨_, rfl, rfl, _, rfl, iteN (fun z => nomatch z) ?_⟩
    have htA := (sL.trans s2) _ _ ht
    refine ⟨_, rfl, rfl, _, rfl, not_true_eq (decide_eq_true rfl) ?_⟩
    refine ⟨_, rfl, _, _, .type "tuple", _, true, rfl, .ty _, .base (.tup ht2), kit_ty (by decide +kernel), _, rfl, not_true_eq rfl ?_⟩
    refine ⟨_, rfl, _, rfl, _, _, (DP ht2).1, (DP htA).1, (DP ht2).2.1, (DP ht2).2.1, _, rfl, ?_⟩
    rw [(DP ht2).2.2]
    refine iteF ?_
    have sB := sH.trans s2
    refine ⟨_, rfl, _, rfl, v, L, r, rd, xs, rfl, hRc.same sB, hNb, h9, s2 _ _ hL, hP.same sB, h100, hsm, ?_⟩
    refine ⟨fun x t3 H3 e3 s3 ht3 => ?_, fun x t2 H2 e2 => (by rw [e] at e2; cases e2), fun H2 e2 => (by rw [e] at e2; cases e2)⟩
    obtain rfl : s0 = x := Out.read.inj (e.symm.trans e3)
    have htB := s3 _ _ htA
    have htC := s3 _ _ ht2
    refine ⟨_, rfl, _, _, (DP ht3).1, (DP htB).1, (DP ht3).2.1, (DP ht3).2.1, _, rfl, ?_⟩
    rw [(DP ht3).2.2]
    refine iteF ?_
    refine ⟨_, rfl, t, _, _, _, rfl, rfl, SqT.of htB, rfl, rfl, _, rfl, iteY rfl ?_⟩
    exact q _ (sB.trans s3)
  · skip
    refine ⟨_, rfl, R, xs, rfl, .inl (SqL.of (s1 _ _ hR)), fun L nL => ?_⟩
    have sL := same_new nL (.lst xs)
    have hL : upd H1 L (.lst xs) L = some (.lst xs) := upd_same
    generalize upd H1 L (.lst xs) = HL at sL hL ⊢
    have sH := s1.trans sL
    refine ⟨_, rfl, _, rfl, v, L, r, rd, xs, rfl, hRc.same sH, hNb, h9, hL, hP.same sH, h100, hsm, ?_⟩
    have DP : ∀ {G : Hp} {u : Addr} (h : G u = some (.tup [.str "worth", .int x])), _ := fun {G u} h => dp_worth K h
    refine ⟨fun y t2 H2 e2 => (by rw [e] at e2; cases e2), fun y t2 H2 e2 s2 ht2 => ?_, fun H2 e2 => (by rw [e] at e2; cases e2)⟩
    obtain rfl : x = y := Out.worth.inj (e.symm.trans e2)
    refine ⟨_, rfl, _, rfl, _, _, dp_reads K (s2 _ _ hL) (hP.same (sH.trans s2)), dp_reads K ((sH.trans s2) _ _ hR) (hP.same (sH.trans s2)), prs_shaped hnm, prs_shaped hnm, _, rfl, ?_⟩
    rw [reads_eqv hnm]
    refine iteF ?_
    refine ⟨_, rfl, rfl, _, rfl, iteN (fun z => nomatch z) ?_⟩
    have htA := (sL.trans s2) _ _ ht
    refine ⟨_, rfl, rfl, _, rfl, not_true_eq (decide_eq_true rfl) ?_⟩
    refine ⟨_, rfl, _, _, .type "tuple", _, true, rfl, .ty _, .base (.tup ht2), kit_ty (by decide +kernel), _, rfl, not_true_eq rfl ?_⟩
    refine ⟨_, rfl, _, rfl, _, _, (DP ht2).1, (DP htA).1, (DP ht2).2.1, (DP ht2).2.1, _, rfl, ?_⟩
    rw [(DP ht2).2.2]
    refine iteF ?_
    have sB := sH.trans s2
    refine ⟨_, rfl, _, rfl, v, L, r, rd, xs, rfl, hRc.same sB, hNb, h9, s2 _ _ hL, hP.same sB, h100, hsm, ?_⟩
    refine ⟨fun y t2 H2 e2 => (by rw [e] at e2; cases e2), fun y t3 H3 e3 s3 ht3 => ?_, fun H2 e2 => (by rw [e] at e2; cases e2)⟩
    obtain rfl : x = y := Out.worth.inj (e.symm.trans e3)
    have htB := s3 _ _ htA
    have htC := s3 _ _ ht2
    refine ⟨_, rfl, _, _, (DP ht3).1, (DP htB).1, (DP ht3).2.1, (DP ht3).2.1, _, rfl, ?_⟩
    rw [(DP ht3).2.2]
    refine iteF ?_
    refine ⟨_, rfl, t, _, _, _, rfl, rfl, SqT.of htB, rfl, rfl, _, rfl, iteN (sne (by decide +kernel)) ?_⟩
    refine ⟨_, rfl, t2, _, _, _, rfl, rfl, SqT.of htC, rfl, _, _, .type "int", _, true, rfl, .ty _, .base (.int _), kit_ty (by decide +kernel), _, rfl, iteT ?_⟩
    refine ⟨_, rfl, t2, _, _, _, rfl, rfl, SqT.of htC, rfl, _, _, .type "int", _, false, rfl, .ty _, .base (.int _), kit_bl (.int x), _, rfl, ?_⟩
    exact q _ (sB.trans s3)
  · skip
    refine ⟨_, rfl, R, xs, rfl, .inl (SqL.of (s1 _ _ hR)), fun L nL => ?_⟩
    have sL := same_new nL (.lst xs)
    have hL : upd H1 L (.lst xs) L = some (.lst xs) := upd_same
    generalize upd H1 L (.lst xs) = HL at sL hL ⊢
    have sH := s1.trans sL
    refine ⟨_, rfl, _, rfl, v, L, r, rd, xs, rfl, hRc.same sH, hNb, h9, hL, hP.same sH, h100, hsm, ?_⟩
    refine ⟨fun y t2 H2 e2 => (by rw [e] at e2; cases e2), fun y t2 H2 e2 => (by rw [e] at e2; cases e2), fun H2 e2 s2 => ?_⟩
    refine ⟨true, R7.exm, fun _ z nz => ?_, fun z => nomatch z⟩
    have sz := same_new nz (EzO (.ref C) none z)
    have hz : upd H2 z (EzO (.ref C) none z) z = some (EzO (.ref C) none z) := upd_same
    generalize upd H2 z (EzO (.ref C) none z) = H3 at sz hz ⊢
    have s3 := s2.trans sz
    refine ⟨_, rfl, ?_⟩
    refine ⟨_, rfl, _, rfl, _, _, dp_reads K (s3 _ _ hL) (hP.same (sH.trans s3)), dp_reads K ((sH.trans s3) _ _ hR) (hP.same (sH.trans s3)), prs_shaped hnm, prs_shaped hnm, _, rfl, ?_⟩
    rw [reads_eqv hnm]
    refine iteF ?_
    refine ⟨_, rfl, rfl, _, rfl, iteY rfl ?_⟩
    exact ⟨_, rfl, z, rfl, hz, fun H' s' => q H' (sH.trans (s3.trans s'))⟩
end
/-! ### the law -/
def spLaw (K : PySem.W.Frag) : Sp := fun vs H Q _ => ∃ (a : Addr) (ns : List Int), vs = [.ref a] ∧ SqL K H a (ns.map V.int) ∧ ns.length ≤ 63 ∧ ∀ H', Q (.bl true) H'
theorem Piece.fr1 {H H' : Hp} {n : Nat} {R p : Addr} {r m c : Int} (h : Piece H n R) (hp : H p = some (.lst (pl r m c))) (f : Fr1 p H H') : Piece H' n R := by
  obtain ⟨xs, rd, h1, h2, h3⟩ := h
  have nRp : R ≠ p := fun z => by
    rw [z, hp] at h1
    rw [← HO.lst.inj (Option.some.inj h1)] at h2
    exact h2.pl_ne
  exact ⟨xs, rd, f _ _ nRp h1, h2.keep (f.keep hp), h3⟩
theorem Piece.mono {H : Hp} {n m : Nat} {R : Addr} (h : Piece H n R) (le : n ≤ m) : Piece H m R := by
  obtain ⟨xs, rd, h1, h2, h3, h4⟩ := h
  exact ⟨xs, rd, h1, h2, h3, by omega⟩
section
variable {P : Program} {w : World} {K : PySem.W.Frag} {mg : Str → Option Value} {base : Heap}
abbrev s_law : Stmt := topS 26
abbrev N_law : List Str := ["script", "k", "pool", "names", "r", "numbers", "name", "some", "reads", "worth", "at", "turn"]
theorem sc_law : FnScope N_law ["script"] (defScope s_law) := ⟨rfl, rfl, rfl, by decide +kernel, rfl, by decide +kernel, by decide +kernel⟩

theorem ok_law {fl : Addr} {fd : FuncData} (F : Fun K "law" "law" s_law fl fd) (T : Txt K mg) (C_pool : Cal P w K mg base CX0 1 "_law_pool" ["script", "k"] (spPoolL K)) (C_names : Cal P w K mg base CX0 2 "_law_names" ["pool"] spNamesL) (C_recipe : Cal P w K mg base CX0 7 "_law_recipe" ["pool", "names", "most"] spRecipeL)
    (C_take : Cal P w K mg base CX0 1 "_law_take" ["pool", "many"] spTakeL) (C_all : Cal P w K mg base CX0 12 "_law_all_reads" ["r", "numbers"] spLAll) (C__law_right : Cal P w K mg base CX0 21 "_law_right" ["r", "reads"] spRight) (C_spoilt : Cal P w K mg base CX0 2 "_law_spoilt" ["reads", "names", "pool"] spSpoilt) :
    FnOk P w K mg base CX0 22 fl fd ["script"] (spLaw K) := by
  have C__law_pool := C_pool.mono (show 1 ≤ 21 by omega)
  have C__law_names := C_names.mono (show 2 ≤ 21 by omega)
  have C__law_recipe := C_recipe.mono (show 7 ≤ 21 by omega)
  have C__law_take := C_take.mono (show 1 ≤ 21 by omega)
  have C__law_all_reads := C_all.mono (show 12 ≤ 21 by omega)
  have C__law_spoilt := C_spoilt.mono (show 2 ≤ 21 by omega)
  refine F.ok sc_law (fun vs H Q E h => ?_) (fun cdv A outer s H vs Q E hr h => ?_)
  · obtain ⟨a, ns, rfl, _⟩ := h
    rfl
  obtain ⟨a, ns, rfl, hS, h63, q⟩ := h
  have hu : (cxOf CX0 P w K mg base N_law "law" (defScope s_law) fl cdv A outer s H E).nox.A.units + 1 < cLine := Nat.lt_of_le_of_lt (Nat.add_le_add_left (by decide : 1 ≤ 64) _) hr.units
  refine ⟨_, (pss_cons (ps_for PassesOwn.never rfl (pi_range1 rfl T.b_range (pa_cons (pe_callB (call_max2 rfl) (by rfl) T.b_max (by decide +kernel) (pa_cons pe_int (pa_cons (pe_callB (call_min2 rfl) (by rfl) T.b_min (by decide +kernel) (pa_cons pe_int (pa_cons (pe_callB call_len_seq (by rfl) T.b_len PySem.boot_len (pa_cons (pv 0) pa_nil)) pa_nil))) pa_nil))) pa_nil)) (pg_name (i := 1) sc_law.nd rfl (Or.inl rfl))
        (pss_cons (ps_set (i := 2) sc_law.nd rfl (Or.inl rfl) (pe_cal C__law_pool (hr.mono (by first | decide | omega)) pass0 (pa_cons (pv 0) (pa_cons (pv 1) pa_nil))))
      (pss_cons (ps_set (i := 3) sc_law.nd rfl (Or.inl rfl) (pe_cal C__law_names (hr.mono (by first | decide | omega)) pass0 (pa_cons (pv 2) pa_nil)))
      (pss_cons (ps_set (i := 4) sc_law.nd rfl (Or.inl rfl) (pe_cal C__law_recipe (hr.mono (by first | decide | omega)) pass0 (pa_cons (pv 2) (pa_cons (pv 3) (pa_cons (pe_op op_pow pe_int pe_int) pa_nil)))))
      (pss_cons (ps_set (i := 5) sc_law.nd rfl (Or.inl rfl) pe_dnewK)
      (pss_cons (ps_for PassesOwn.never rfl (pi_list (pv 3)) (pg_name (i := 6) sc_law.nd rfl (Or.inl rfl))
        (pss_cons (ps_set (i := 7) sc_law.nd rfl (Or.inl rfl) (pe_lst (pa_cons (pe_op op_sub (pe_cal C__law_take (hr.mono (by first | decide | omega)) pass0 (pa_cons (pv 2) (pa_cons pe_int pa_nil))) pe_int) (pa_cons (pe_op op_sub (pe_cal C__law_take (hr.mono (by first | decide | omega)) pass0 (pa_cons (pv 2) (pa_cons (pe_op op_add (pe_op op_mul pe_int (pe_op op_pow pe_int pe_int)) pe_int) pa_nil))) (pe_op op_pow pe_int pe_int)) pa_nil))))
      (pss_one (ps_dput hu (pv 5) (pv 6) (pe_ix (r := rIxL K) ix_list (pv 7) (pe_cal C__law_take (hr.mono (by first | decide | omega)) pass0 (pa_cons (pv 2) (pa_cons pe_int pa_nil))) (fun _ _ => rfl)) rfl))))
      (pss_cons (ps_asg (pe_cal C__law_all_reads (hr.mono (by first | decide | omega)) pass0 (pa_cons (pv 4) (pa_cons (pv 5) pa_nil))) (pg_tup rfl (pgs_cons (pg_name (i := 8) sc_law.nd rfl (Or.inl rfl)) (pgs_cons (pg_name (i := 9) sc_law.nd rfl (Or.inl rfl)) pgs_nil))))
      (pss_cons (ps_for PassesOwn.never rfl (pi_range1 rfl T.b_range (pa_cons (pe_op op_add (pe_callB call_len_seq (by rfl) T.b_len PySem.boot_len (pa_cons (pv 8) pa_nil)) pe_int) pa_nil)) (pg_name (i := 10) sc_law.nd rfl (Or.inl rfl))
        (pss_one (ps_if (pt_not (pt_val (pe_cal C__law_right (hr.mono (by first | decide | omega)) pass0 (pa_cons (pv 4) (pa_cons (pe_slice (r := rSlL K) sl_list (pv 8) po_none (po_some (pv 10))) pa_nil)))))
        (pss_one (ps_ret pe_bl))
        pss_nil)))
      (pss_one (ps_for PassesOwn.never rfl (pi_range1 rfl T.b_range (pa_cons pe_int pa_nil)) (pg_name (i := 11) sc_law.nd rfl (Or.inl rfl))
        (pss_one (ps_if (pt_not (pt_val (pe_cal C__law_right (hr.mono (by first | decide | omega)) pass0 (pa_cons (pv 4) (pa_cons (pe_cal C__law_spoilt (hr.mono (by first | decide | omega)) pass0 (pa_cons (pv 8) (pa_cons (pv 3) (pa_cons (pv 2) pa_nil)))) pa_nil)))))
        (pss_one (ps_ret pe_bl))
        pss_nil))))))))))))
      (pss_one (ps_ret pe_bl))), ?_⟩
  refine ⟨_, rfl, a, _, rfl, .inl hS, _, _, rfl, _, _, rfl, ?_⟩
  obtain ⟨N, hN, N1, N12⟩ : ∃ N : Nat, (if (if ((((ns.map V.int).length : Nat) : Int) < 12) then (((ns.map V.int).length : Nat) : Int) else 12) > 1 then (if ((((ns.map V.int).length : Nat) : Int) < 12) then (((ns.map V.int).length : Nat) : Int) else 12) else 1) = (N : Int) ∧ 1 ≤ N ∧ N ≤ 12 := by
    rw [List.length_map]
    refine ⟨(if (if ((ns.length : Int) < 12) then (ns.length : Int) else 12) > 1 then (if ((ns.length : Int) < 12) then (ns.length : Int) else 12) else 1).toNat, ?_⟩
    split <;> split at * <;> omega
  rw [hN]
  refine ⟨(N : Int), rfl, by omega, by omega, for_range (lo := 0) (n := ((N : Int)).toNat) (fun i σ H' => ∃ v1 v2 v3 v4 v5 v6 v7 v8 v9 v10 v11 : Option V, σ = [some (.ref a), v1, v2, v3, v4, v5, v6, v7, v8, v9, v10, v11] ∧ Same H H') ⟨none, none, none, none, none, none, none, none, none, none, none, rfl, Same.refl _⟩ ?_ ?_⟩
  · rintro i σ H1 hi ⟨v1, v2, v3, v4, v5, v6, v7, v8, v9, v10, v11, rfl, hs1⟩
    refine ⟨_, rfl, _, rfl, a, ns, _, rfl, hs1.seq hS, h63, by omega, by omega, fun p r m c np c0 c1 => ?_⟩
    have hs2 := hs1.trans (same_new np (.lst (pl r m c)))
    obtain ⟨H2, hH2⟩ : ∃ H2, H2 = upd H1 p (.lst (pl r m c)) := ⟨_, rfl⟩
    have hp2 : H2 p = some (.lst (pl r m c)) := by rw [hH2]; exact upd_same
    rw [← hH2] at hs2 ⊢
    have npH : H p = none := hs1.free np
    refine ⟨_, rfl, p, r, m, c, rfl, hp2, c0, by omega, fun H3 L nms r3 c3 f3 hL nL n1 n7 hnm hnd hp3 d0 d1 => ?_⟩
    have nLp : L ≠ p := fun z => by rw [z, hp2] at nL; cases nL
    refine ⟨_, rfl, _, rfl, _, _, rfl, rfl, ⟨by decide, by decide, by decide⟩, p, L, r3, m, c3, _, nms, rfl, hp3, hL, n1, n7, hnm, (by decide +kernel), (by decide +kernel), d0, by omega, fun H4 v x r4 c4 f4 hv hb hd hsub hp4 e0 e1 => ?_⟩
    have hL4 := f4 L _ nLp hL
    have s14 : Same H H4 := fun b u e => f4 b u (fun z => by rw [z, npH] at e; cases e) (f3 b u (fun z => by rw [z, npH] at e; cases e) (hs2 b u e))
    refine fun D nD => ?_
    have npD : p ≠ D := ne_of_none hp4 nD
    have hLD : L ≠ D := ne_of_none hL4 nD
    have nDH : H D = none := s14.free nD
    refine ⟨_, rfl, L, rfl, ⟨_, SqL.of (by rw [upd_ne hLD]; exact hL4)⟩, for_list (K := K) (xs := txs nms) (fun j σ H' => ∃ (w6 w7 : Option V) (kvs : List (Key × V)) (r' c' : Int), σ = [some (.ref a), some (.int (0 + (i : Int))), some (.ref p), some (.ref L), some v, some (.ref D), w6, w7, v8, v9, v10, v11] ∧ Fr2 p D H4 H' ∧ H' p = some (.lst (pl r' m c')) ∧ 0 ≤ c' ∧ c' ≤ c4 + 10 * j ∧ H' D = some (.dK kvs) ∧ kvs.length ≤ j ∧ ∀ s ∈ nms.take j, ∃ y, valV kvs (kT (SX.S s)) = some (.int y) ∧ y.natAbs < 2 ^ 400)
      ⟨v6, v7, [], r4, c4, rfl, Fr2.of (same_new nD _), by rw [upd_ne npD]; exact hp4, e0, by omega, upd_same, Nat.le_refl _, fun _ h => (nomatch h)⟩ (fun j σ H' _ ⟨_, _, _, _, _, _, f, _⟩ => SqL.of (f L _ nLp hLD hL4)) ?_ ?_⟩
    · rintro j x0 σ H5 hx ⟨w6, w7, kvs, r5, c5, rfl, f5, hp5, g0, g1, hD5, hkl, hval⟩
      have hj : j < nms.length := by
        have := (List.getElem?_eq_some_iff.mp hx).1
        rw [txs_len] at this
        exact this
      rw [txs_get hj] at hx
      obtain rfl := Option.some.inj hx
      refine ⟨_, rfl, p, r5, m, c5, 9, rfl, hp5, by decide, small400 (by decide) (by decide), g0, by omega, fun H6 y1 r6 c6 k6 hp6 i0 i1 y10 y11 => ?_⟩
      refine ⟨_, _, rfl, rfl, _, rfl, _, _, rfl, rfl, ⟨by decide, by decide, by decide⟩, _, _, rfl, rfl, .inl ⟨by decide, by decide⟩, _, _, rfl, rfl, p, r6, m, c6, _, rfl, hp6, (by decide +kernel), (by decide +kernel), i0, by omega, fun H7 y2 r7 c7 k7 hp7 j0 j1 y20 y21 => ?_⟩
      have y22 : y2 < 2000001 := y21
      refine ⟨_, _, rfl, rfl, ⟨by decide, by decide, by decide⟩, _, _, rfl, rfl, le_line (Nat.le_of_ble_eq_true rfl), fun l nl => ?_⟩
      have npl : p ≠ l := ne_of_none hp7 nl
      refine ⟨_, rfl, _, rfl, p, r7, m, c7, 2, rfl, by rw [upd_ne npl]; exact hp7, by decide, small400 (by decide) (by decide), j0, by omega, fun H8 y3 r8 c8 k8 hp8 l0 l1 y30 y31 => ?_⟩
      have hl8 := (k8 l npl.symm).trans upd_same
      have k58 : Fr1 p H5 H8 := fun b u n e => by
        rw [k8 b n]
        refine same_new nl _ _ _ ?_
        rw [k7 b n, k6 b n]
        exact e
      obtain ⟨z, hz, hat⟩ := one_of (xs := ([.int (y1 - 4), .int (y2 - 10 ^ (6 : Int).toNat)] : List V)) y30 y31
      obtain ⟨num, rfl, hnum⟩ : ∃ num : Int, z = .int num ∧ num.natAbs < 2 ^ 400 := by
        simp only [List.mem_cons, List.not_mem_nil, or_false] at hz
        rcases hz with h | h
        · exact ⟨_, h, small400 (by omega) (by omega)⟩
        · refine ⟨_, h, small400 ?_ ?_⟩
          · show -(2 ^ 100) - 8 ≤ y2 - 1000000
            omega
          · show y2 - 1000000 ≤ 2 ^ 101 + 8
            omega
      have hD8 := k58 D _ npD.symm hD5
      refine ⟨l, _, y3, _, rfl, rfl, SqL.of hl8, hat, _, rfl, _, rfl, D, _, rfl, DPut.k (k := kT (SX.S nms[j])) hD8 (lt_line (by omega)), ?_⟩
      refine ⟨_, _, _, r8, c8, rfl, fun b u n1 n2 e => ?_, by rw [upd_ne npD]; exact hp8, l0, by omega, upd_same, Nat.le_trans (length_putK _ _ _) (by omega), fun s hs => ?_⟩
      · rw [upd_ne n2]
        exact k58 b u n1 (f5 b u n1 n2 e)
      · rw [valV_put]
        by_cases c : kT (SX.S s) = kT (SX.S nms[j])
        · rw [if_pos c]
          exact ⟨num, rfl, hnum⟩
        · rw [if_neg c]
          refine hval s ?_
          rw [List.take_add_one, List.getElem?_eq_getElem hj] at hs
          rcases List.mem_append.mp hs with h | h
          · exact h
          · rw [show s = nms[j] from List.mem_singleton.mp h] at c
            exact absurd rfl c
    · rintro σ H5 ⟨w6, w7, kvs, r5, c5, rfl, f5, hp5, g0, g1, hD5, hkl, hval⟩
      rw [txs_len] at hkl g1 hval
      rw [List.take_of_length_le (Nat.le_refl _)] at hval
      have hval2 : ∀ s ∈ nms, valV kvs (kT (SX.S s)) = some (.int (match valV kvs (kT (SX.S s)) with | some (.int y) => y | _ => 0)) ∧ (match valV kvs (kT (SX.S s)) with | some (.int y) => y | _ => (0 : Int)).natAbs < 2 ^ 400 := fun s hs => by
        obtain ⟨y, h1, h2⟩ := hval s hs
        rw [h1]
        exact ⟨rfl, h2⟩
      have hv5 : Rec H5 x v := hv.keep fun b ys e => f5 b _ (fun z => by rw [z, hp4] at e; cases e) (fun z => by rw [z, nD] at e; cases e) e
      have hL5 := f5 L _ nLp hLD hL4
      have s5 : Same H H5 := fun b u e => f5 b u (fun z => by rw [z, npH] at e; cases e) (fun z => by rw [z, nDH] at e; cases e) (s14 b u e)
      refine ⟨_, rfl, _, rfl, v, D, x, kvs, fun s => match valV kvs (kT (SX.S s)) with | some (.int y) => y | _ => 0, nms, rfl, hv5, hb, hd, hD5, fun s hs => ⟨hsub s hs, hval2 s (hsub s hs)⟩, by omega, fun H6 t R ys rd y s6 ht hR hP hout hg h90 => ?_⟩
      have hrl : rd.length ≤ 7 := by
        have := sub_len (m := nms) hg.nd fun s hs => by
          obtain ⟨p, hp, e⟩ := List.mem_map.mp hs
          rw [← e]
          exact hsub _ (hg.mem p hp)
        rw [List.length_map] at this
        omega
      have hPc : Piece H6 7 R := ⟨ys, rd, hR, hP, hg.sm, hrl⟩
      have hyl := hP.len
      refine ⟨t, _, rfl, SqT.of ht, rfl, _, _, rfl, _, _, rfl, rfl, ?_⟩
      refine ⟨_, rfl, R, _, rfl, .inl (SqL.of hR), _, _, rfl, rfl, _, rfl, ?_, ?_, for_range (lo := 0) (n := ((((ys.length : Nat) : Int)) + 1).toNat) (fun j σ H' => ∃ u10 : Option V, σ = [some (.ref a), some (.int (0 + (i : Int))), some (.ref p), some (.ref L), some v, some (.ref D), w6, w7, some (.ref R), some (.int y), u10, v11] ∧ Same H6 H') ⟨v10, rfl, Same.refl _⟩ ?_ ?_⟩
      · have : (0 : Int) ≤ ((ys.length : Nat) : Int) := by omega
        exact Int.le_trans (by decide) (Int.add_le_add this (Int.le_refl 1))
      · have h8 : ((ys.length : Nat) : Int) + 1 ≤ 8 := by omega
        have h9 : ((ys.length : Nat) : Int) + 1 + 1 ≤ 9 := by omega
        first
          | exact Int.le_trans h8 (by decide)
          | exact Int.le_trans h9 (by decide)
      · rintro j σ H7 hj ⟨u10, rfl, s7⟩
        refine ⟨_, rfl, _, rfl, _, rfl, _, rfl, go_cut (hPc.same s7) fun L8 H8 _ s8 P8 => ⟨v, L8, x, rfl, hv5.same (s6.trans (s7.trans s8)), hb, hd, P8.mono (by omega), fun H9 s9 => ⟨_, rfl, not_true_eq rfl ?_⟩⟩⟩
        exact ⟨_, rfl, s7.trans (s8.trans s9)⟩
      · rintro σ H7 ⟨u10, rfl, s7⟩
        refine ⟨6, rfl, by decide, by decide, for_range (lo := 0) (n := 6) (fun j σ H' => ∃ (u11 : Option V) (r' c' : Int), σ = [some (.ref a), some (.int (0 + (i : Int))), some (.ref p), some (.ref L), some v, some (.ref D), w6, w7, some (.ref R), some (.int y), u10, u11] ∧ Fr1 p H7 H' ∧ H' p = some (.lst (pl r' m c')) ∧ 0 ≤ c' ∧ c' ≤ c5 + 20 * j) ⟨v11, r5, c5, rfl, Fr1.refl p H7, s7 _ _ (s6 _ _ hp5), g0, by omega⟩ ?_ ?_⟩
        · rintro j σ H8 hj ⟨u11, r8, c8, rfl, f8, hp8, l0, l1⟩
          have hp7 := s7 _ _ (s6 _ _ hp5)
          have P8 : Piece H8 7 R := (hPc.same s7).fr1 hp7 f8
          have hL8 := f8 L _ nLp (s7 _ _ (s6 _ _ hL5))
          have hv8 : Rec H8 x v := (hv5.same (s6.trans s7)).keep (f8.keep hp7)
          refine ⟨_, rfl, _, rfl, _, rfl, _, rfl, R, L, p, r8, m, c8, 7, nms, rfl, P8, by decide, hL8, n1, n7, hnm, hp8, l0, by omega, fun H9 L9 r9 c9 f9 P9 hp9 m0 m1 => ⟨v, L9, x, rfl, hv8.keep (f9.keep hp8), hb, hd, P9, fun H10 s10 => ⟨_, rfl, not_true_eq rfl ?_⟩⟩⟩
          exact ⟨_, r9, c9, rfl, f8.trans (f9.trans (Fr1.of s10)), s10 _ _ hp9, m0, by omega⟩
        · rintro σ H8 ⟨u11, r8, c8, rfl, f8, hp8, l0, l1⟩
          exact ⟨_, _, _, _, _, _, _, _, _, _, _, rfl, fun b u e => f8 b u (fun z => by rw [z, npH] at e; cases e) (s7 _ _ (s6 _ _ (s5 _ _ e)))⟩
  · rintro σ H1 ⟨v1, v2, v3, v4, v5, v6, v7, v8, v9, v10, v11, rfl, hs1⟩
    exact q H1
end
theorem all_mk {l : PySem.W.OpenLaw} {w : World} {K : PySem.W.Frag} {h : Heap} {mg : Str → Option Value} {fa f_behind f__law_pool f__law_take f__law_names f__law_leaf f__law_part f__law_recipe f__law_look f__law_gone f__law_behind f__law_all_reads f__law_kinds f__law_spoilt f__law_right f_law : Addr} (X : K.In h) (G : h.Ns mainGlobals mg) (hfa : mg "law" = some (.ref fa))
    {od_behind an_behind od__law_pool an__law_pool od__law_take an__law_take od__law_names an__law_names od__law_leaf an__law_leaf od__law_part an__law_part od__law_recipe an__law_recipe od__law_look an__law_look od__law_gone an__law_gone od__law_behind an__law_behind od__law_all_reads an__law_all_reads od__law_kinds an__law_kinds od__law_spoilt an__law_spoilt od__law_right an__law_right od_law an_law : Option Addr} {sl_behind sl__law_pool sl__law_take sl__law_names sl__law_leaf sl__law_part sl__law_recipe sl__law_look sl__law_gone sl__law_behind sl__law_all_reads sl__law_kinds sl__law_spoilt sl__law_right sl_law : Array (Option Value)} {oc_behind kV_behind dc_behind pm_behind cd_behind ct_behind oc__law_pool kV__law_pool dc__law_pool pm__law_pool cd__law_pool ct__law_pool oc__law_take kV__law_take dc__law_take pm__law_take cd__law_take ct__law_take oc__law_names kV__law_names dc__law_names pm__law_names cd__law_names ct__law_names oc__law_leaf kV__law_leaf dc__law_leaf pm__law_leaf cd__law_leaf ct__law_leaf oc__law_part kV__law_part dc__law_part pm__law_part cd__law_part ct__law_part oc__law_recipe kV__law_recipe dc__law_recipe pm__law_recipe cd__law_recipe ct__law_recipe oc__law_look kV__law_look dc__law_look pm__law_look cd__law_look ct__law_look oc__law_gone kV__law_gone dc__law_gone pm__law_gone cd__law_gone ct__law_gone oc__law_behind kV__law_behind dc__law_behind pm__law_behind cd__law_behind ct__law_behind oc__law_all_reads kV__law_all_reads dc__law_all_reads pm__law_all_reads cd__law_all_reads ct__law_all_reads oc__law_kinds kV__law_kinds dc__law_kinds pm__law_kinds cd__law_kinds ct__law_kinds oc__law_spoilt kV__law_spoilt dc__law_spoilt pm__law_spoilt cd__law_spoilt ct__law_spoilt oc__law_right kV__law_right dc__law_right pm__law_right cd__law_right ct__law_right oc_law kV_law dc_law pm_law cd_law ct_law : Value}
    (a_behind : PySem.W.nsIn K mainGlobals "behind" = some (some (.ref f_behind))) (l_behind : K.lookup f_behind = some ⟨oc_behind, od_behind, .func (PySem.W.fnOf "behind" "behind" (defArgs s_behind) (defBody s_behind) (defScope s_behind) .none kV_behind dc_behind pm_behind an_behind cd_behind ct_behind), sl_behind⟩) (c_behind : PySem.W.codeIn K cd_behind "behind" = true) (k_behind : PySem.W.keepIn K (.ref f_behind) = true)
    (a__law_pool : PySem.W.nsIn K mainGlobals "_law_pool" = some (some (.ref f__law_pool))) (l__law_pool : K.lookup f__law_pool = some ⟨oc__law_pool, od__law_pool, .func (PySem.W.fnOf "_law_pool" "_law_pool" (defArgs s__law_pool) (defBody s__law_pool) (defScope s__law_pool) .none kV__law_pool dc__law_pool pm__law_pool an__law_pool cd__law_pool ct__law_pool), sl__law_pool⟩) (c__law_pool : PySem.W.codeIn K cd__law_pool "_law_pool" = true) (k__law_pool : PySem.W.keepIn K (.ref f__law_pool) = true)
    (a__law_take : PySem.W.nsIn K mainGlobals "_law_take" = some (some (.ref f__law_take))) (l__law_take : K.lookup f__law_take = some ⟨oc__law_take, od__law_take, .func (PySem.W.fnOf "_law_take" "_law_take" (defArgs s__law_take) (defBody s__law_take) (defScope s__law_take) .none kV__law_take dc__law_take pm__law_take an__law_take cd__law_take ct__law_take), sl__law_take⟩) (c__law_take : PySem.W.codeIn K cd__law_take "_law_take" = true) (k__law_take : PySem.W.keepIn K (.ref f__law_take) = true)
    (a__law_names : PySem.W.nsIn K mainGlobals "_law_names" = some (some (.ref f__law_names))) (l__law_names : K.lookup f__law_names = some ⟨oc__law_names, od__law_names, .func (PySem.W.fnOf "_law_names" "_law_names" (defArgs s__law_names) (defBody s__law_names) (defScope s__law_names) .none kV__law_names dc__law_names pm__law_names an__law_names cd__law_names ct__law_names), sl__law_names⟩) (c__law_names : PySem.W.codeIn K cd__law_names "_law_names" = true) (k__law_names : PySem.W.keepIn K (.ref f__law_names) = true)
    (a__law_leaf : PySem.W.nsIn K mainGlobals "_law_leaf" = some (some (.ref f__law_leaf))) (l__law_leaf : K.lookup f__law_leaf = some ⟨oc__law_leaf, od__law_leaf, .func (PySem.W.fnOf "_law_leaf" "_law_leaf" (defArgs s__law_leaf) (defBody s__law_leaf) (defScope s__law_leaf) .none kV__law_leaf dc__law_leaf pm__law_leaf an__law_leaf cd__law_leaf ct__law_leaf), sl__law_leaf⟩) (c__law_leaf : PySem.W.codeIn K cd__law_leaf "_law_leaf" = true) (k__law_leaf : PySem.W.keepIn K (.ref f__law_leaf) = true)
    (a__law_part : PySem.W.nsIn K mainGlobals "_law_part" = some (some (.ref f__law_part))) (l__law_part : K.lookup f__law_part = some ⟨oc__law_part, od__law_part, .func (PySem.W.fnOf "_law_part" "_law_part" (defArgs s__law_part) (defBody s__law_part) (defScope s__law_part) .none kV__law_part dc__law_part pm__law_part an__law_part cd__law_part ct__law_part), sl__law_part⟩) (c__law_part : PySem.W.codeIn K cd__law_part "_law_part" = true) (k__law_part : PySem.W.keepIn K (.ref f__law_part) = true)
    (a__law_recipe : PySem.W.nsIn K mainGlobals "_law_recipe" = some (some (.ref f__law_recipe))) (l__law_recipe : K.lookup f__law_recipe = some ⟨oc__law_recipe, od__law_recipe, .func (PySem.W.fnOf "_law_recipe" "_law_recipe" (defArgs s__law_recipe) (defBody s__law_recipe) (defScope s__law_recipe) .none kV__law_recipe dc__law_recipe pm__law_recipe an__law_recipe cd__law_recipe ct__law_recipe), sl__law_recipe⟩) (c__law_recipe : PySem.W.codeIn K cd__law_recipe "_law_recipe" = true) (k__law_recipe : PySem.W.keepIn K (.ref f__law_recipe) = true)
    (a__law_look : PySem.W.nsIn K mainGlobals "_law_look" = some (some (.ref f__law_look))) (l__law_look : K.lookup f__law_look = some ⟨oc__law_look, od__law_look, .func (PySem.W.fnOf "_law_look" "_law_look" (defArgs s__law_look) (defBody s__law_look) (defScope s__law_look) .none kV__law_look dc__law_look pm__law_look an__law_look cd__law_look ct__law_look), sl__law_look⟩) (c__law_look : PySem.W.codeIn K cd__law_look "_law_look" = true) (k__law_look : PySem.W.keepIn K (.ref f__law_look) = true)
    (a__law_gone : PySem.W.nsIn K mainGlobals "_law_gone" = some (some (.ref f__law_gone))) (l__law_gone : K.lookup f__law_gone = some ⟨oc__law_gone, od__law_gone, .func (PySem.W.fnOf "_law_gone" "_law_gone" (defArgs s__law_gone) (defBody s__law_gone) (defScope s__law_gone) .none kV__law_gone dc__law_gone pm__law_gone an__law_gone cd__law_gone ct__law_gone), sl__law_gone⟩) (c__law_gone : PySem.W.codeIn K cd__law_gone "_law_gone" = true) (k__law_gone : PySem.W.keepIn K (.ref f__law_gone) = true)
    (a__law_behind : PySem.W.nsIn K mainGlobals "_law_behind" = some (some (.ref f__law_behind))) (l__law_behind : K.lookup f__law_behind = some ⟨oc__law_behind, od__law_behind, .func (PySem.W.fnOf "_law_behind" "_law_behind" (defArgs s__law_behind) (defBody s__law_behind) (defScope s__law_behind) .none kV__law_behind dc__law_behind pm__law_behind an__law_behind cd__law_behind ct__law_behind), sl__law_behind⟩) (c__law_behind : PySem.W.codeIn K cd__law_behind "_law_behind" = true) (k__law_behind : PySem.W.keepIn K (.ref f__law_behind) = true)
    (a__law_all_reads : PySem.W.nsIn K mainGlobals "_law_all_reads" = some (some (.ref f__law_all_reads))) (l__law_all_reads : K.lookup f__law_all_reads = some ⟨oc__law_all_reads, od__law_all_reads, .func (PySem.W.fnOf "_law_all_reads" "_law_all_reads" (defArgs s__law_all_reads) (defBody s__law_all_reads) (defScope s__law_all_reads) .none kV__law_all_reads dc__law_all_reads pm__law_all_reads an__law_all_reads cd__law_all_reads ct__law_all_reads), sl__law_all_reads⟩) (c__law_all_reads : PySem.W.codeIn K cd__law_all_reads "_law_all_reads" = true) (k__law_all_reads : PySem.W.keepIn K (.ref f__law_all_reads) = true)
    (a__law_kinds : PySem.W.nsIn K mainGlobals "_law_kinds" = some (some (.ref f__law_kinds))) (l__law_kinds : K.lookup f__law_kinds = some ⟨oc__law_kinds, od__law_kinds, .func (PySem.W.fnOf "_law_kinds" "_law_kinds" (defArgs s__law_kinds) (defBody s__law_kinds) (defScope s__law_kinds) .none kV__law_kinds dc__law_kinds pm__law_kinds an__law_kinds cd__law_kinds ct__law_kinds), sl__law_kinds⟩) (c__law_kinds : PySem.W.codeIn K cd__law_kinds "_law_kinds" = true) (k__law_kinds : PySem.W.keepIn K (.ref f__law_kinds) = true)
    (a__law_spoilt : PySem.W.nsIn K mainGlobals "_law_spoilt" = some (some (.ref f__law_spoilt))) (l__law_spoilt : K.lookup f__law_spoilt = some ⟨oc__law_spoilt, od__law_spoilt, .func (PySem.W.fnOf "_law_spoilt" "_law_spoilt" (defArgs s__law_spoilt) (defBody s__law_spoilt) (defScope s__law_spoilt) .none kV__law_spoilt dc__law_spoilt pm__law_spoilt an__law_spoilt cd__law_spoilt ct__law_spoilt), sl__law_spoilt⟩) (c__law_spoilt : PySem.W.codeIn K cd__law_spoilt "_law_spoilt" = true) (k__law_spoilt : PySem.W.keepIn K (.ref f__law_spoilt) = true)
    (a__law_right : PySem.W.nsIn K mainGlobals "_law_right" = some (some (.ref f__law_right))) (l__law_right : K.lookup f__law_right = some ⟨oc__law_right, od__law_right, .func (PySem.W.fnOf "_law_right" "_law_right" (defArgs s__law_right) (defBody s__law_right) (defScope s__law_right) .none kV__law_right dc__law_right pm__law_right an__law_right cd__law_right ct__law_right), sl__law_right⟩) (c__law_right : PySem.W.codeIn K cd__law_right "_law_right" = true) (k__law_right : PySem.W.keepIn K (.ref f__law_right) = true)
    (a_law : PySem.W.nsIn K mainGlobals "law" = some (some (.ref f_law))) (l_law : K.lookup f_law = some ⟨oc_law, od_law, .func (PySem.W.fnOf "law" "law" (defArgs s_law) (defBody s_law) (defScope s_law) .none kV_law dc_law pm_law an_law cd_law ct_law), sl_law⟩) (c_law : PySem.W.codeIn K cd_law "law" = true) (k_law : PySem.W.keepIn K (.ref f_law) = true)
    (z_len : PySem.W.nsIn K mainGlobals "len" = some none)
    (z_list : PySem.W.nsIn K mainGlobals "list" = some none)
    (z_range : PySem.W.nsIn K mainGlobals "range" = some none)
    (z_tuple : PySem.W.nsIn K mainGlobals "tuple" = some none)
    (z_str : PySem.W.nsIn K mainGlobals "str" = some none)
    (z_int : PySem.W.nsIn K mainGlobals "int" = some none)
    (z_isinstance : PySem.W.nsIn K mainGlobals "isinstance" = some none)
    (z_bool : PySem.W.nsIn K mainGlobals "bool" = some none)
    (z_sum : PySem.W.nsIn K mainGlobals "sum" = some none)
    (z_dict : PySem.W.nsIn K mainGlobals "dict" = some none)
    (z_min : PySem.W.nsIn K mainGlobals "min" = some none)
    (z_max : PySem.W.nsIn K mainGlobals "max" = some none)
    (z_ValueError : PySem.W.nsIn K mainGlobals "ValueError" = some none)
    {C_NoRead : Addr}
    (a_NoRead : PySem.W.nsIn K mainGlobals "NoRead" = some (some (.ref C_NoRead)))
    (x_NoRead : PySem.W.excIn K C_NoRead [.type "ValueError", .type "Exception", .type "BaseException", .type "object"] "ValueError.__new__" = true)
    (k_NoRead : PySem.W.keepIn K (.ref C_NoRead) = true)
    (b_NoRead : PySem.W.subIn K (.ref C_NoRead) (.type "BaseException") = some true)
    (t_NoRead : PySem.W.typeIn K (.ref C_NoRead) = some (.type "type"))
    {C_MadeError C_NoRecord C_NoText C_NoName C_Ring C_NoDeed C_NoRow : Addr}
    (a_MadeError : PySem.W.nsIn K mainGlobals "MadeError" = some (some (.ref C_MadeError)))
    (a_NoRecord : PySem.W.nsIn K mainGlobals "NoRecord" = some (some (.ref C_NoRecord)))
    (a_NoText : PySem.W.nsIn K mainGlobals "NoText" = some (some (.ref C_NoText)))
    (a_NoName : PySem.W.nsIn K mainGlobals "NoName" = some (some (.ref C_NoName)))
    (a_Ring : PySem.W.nsIn K mainGlobals "Ring" = some (some (.ref C_Ring)))
    (a_NoDeed : PySem.W.nsIn K mainGlobals "NoDeed" = some (some (.ref C_NoDeed)))
    (a_NoRow : PySem.W.nsIn K mainGlobals "NoRow" = some (some (.ref C_NoRow)))
    (d_MadeError : PySem.W.hasDictIn K C_MadeError = true)
    (d_NoRecord : PySem.W.hasDictIn K C_NoRecord = true)
    (d_NoText : PySem.W.hasDictIn K C_NoText = true)
    (d_NoName : PySem.W.hasDictIn K C_NoName = true)
    (d_Ring : PySem.W.hasDictIn K C_Ring = true)
    (d_NoDeed : PySem.W.hasDictIn K C_NoDeed = true)
    (d_NoRow : PySem.W.hasDictIn K C_NoRow = true)
    (y_MadeError : PySem.W.typeIn K (.ref C_MadeError) = some (.type "type"))
    (y_NoRecord : PySem.W.typeIn K (.ref C_NoRecord) = some (.type "type"))
    (y_NoText : PySem.W.typeIn K (.ref C_NoText) = some (.type "type"))
    (y_NoName : PySem.W.typeIn K (.ref C_NoName) = some (.type "type"))
    (y_Ring : PySem.W.typeIn K (.ref C_Ring) = some (.type "type"))
    (y_NoDeed : PySem.W.typeIn K (.ref C_NoDeed) = some (.type "type"))
    (y_NoRow : PySem.W.typeIn K (.ref C_NoRow) = some (.type "type"))
    (u_MadeError : PySem.W.subIn K (.ref C_NoRead) (.ref C_MadeError) = some true)
    (u_NoRecord : PySem.W.subIn K (.ref C_NoRead) (.ref C_NoRecord) = some false)
    (u_NoText : PySem.W.subIn K (.ref C_NoRead) (.ref C_NoText) = some false)
    (u_NoName : PySem.W.subIn K (.ref C_NoRead) (.ref C_NoName) = some false)
    (u_Ring : PySem.W.subIn K (.ref C_NoRead) (.ref C_Ring) = some false)
    (u_NoDeed : PySem.W.subIn K (.ref C_NoRead) (.ref C_NoDeed) = some false)
    (u_NoRow : PySem.W.subIn K (.ref C_NoRead) (.ref C_NoRow) = some false)
    (w_NoRecord : (C_NoRead == C_NoRecord) = false)
    (w_NoText : (C_NoRead == C_NoText) = false)
    (w_NoName : (C_NoRead == C_NoName) = false)
    (w_Ring : (C_NoRead == C_Ring) = false)
    (w_NoDeed : (C_NoRead == C_NoDeed) = false)
    (w_NoRow : (C_NoRead == C_NoRow) = false)
    (b_MadeError : PySem.W.subIn K (.ref C_MadeError) (.type "BaseException") = some true)
    (u_ValueError : PySem.W.subIn K (.ref C_NoRead) (.type "ValueError") = some true)
    (q_hg : PySem.W.findIn K (.ref C_NoRead) "__getattribute__" = some (some (.builtin "BaseException.__getattribute__")))
    (q_hk : PySem.W.findIn K (.ref C_NoRead) "__getattr__" = some none)
    (q_hd : PySem.W.hasDictIn K C_NoRead = true)
    (q_ha : PySem.W.findIn K (.ref C_NoRead) "__class__" = some (some (.builtin "object.__class__")))
    (q_hn : PySem.W.specialIn K (.builtin "object.__class__") "__get__" = some (some (.builtin "getset_descriptor.__get__")))
    (q_ht : PySem.W.takesIn K (.builtin "object.__class__") = some true)
    (q_hm : PySem.W.mroIn K C_NoRead (.type "object") = some true)
    {C_Going : Addr}
    {f_Going___init__ f_Going_look f_Going_two f_Going_worth : Addr}
    {od_Going___init__ an_Going___init__ od_Going_look an_Going_look od_Going_two an_Going_two od_Going_worth an_Going_worth : Option Addr}
    {sl_Going___init__ sl_Going_look sl_Going_two sl_Going_worth : Array (Option Value)}
    {oc_Going___init__ kV_Going___init__ dc_Going___init__ pm_Going___init__ cd_Going___init__ ct_Going___init__ oc_Going_look kV_Going_look dc_Going_look pm_Going_look cd_Going_look ct_Going_look oc_Going_two kV_Going_two dc_Going_two pm_Going_two cd_Going_two ct_Going_two oc_Going_worth kV_Going_worth dc_Going_worth pm_Going_worth cd_Going_worth ct_Going_worth : Value}
    (a_Going : PySem.W.nsIn K mainGlobals "Going" = some (some (.ref C_Going)))
    (a_Going___init__ : PySem.W.findIn K (.ref C_Going) "__init__" = some (some (.ref f_Going___init__)))
    (i_Going___init__ : PySem.W.isFn K (.ref f_Going___init__) = true)
    (l_Going___init__ : K.lookup f_Going___init__ = some ⟨oc_Going___init__, od_Going___init__, .func (PySem.W.fnOf "__init__" "Going.__init__" (defArgs s_Going___init__) (defBody s_Going___init__) (defScope s_Going___init__) .none kV_Going___init__ dc_Going___init__ pm_Going___init__ an_Going___init__ cd_Going___init__ ct_Going___init__), sl_Going___init__⟩)
    (c_Going___init__ : PySem.W.codeIn K cd_Going___init__ "Going.__init__" = true)
    (k_Going___init__ : PySem.W.keepIn K (.ref f_Going___init__) = true)
    (a_Going_look : PySem.W.findIn K (.ref C_Going) "look" = some (some (.ref f_Going_look)))
    (i_Going_look : PySem.W.isFn K (.ref f_Going_look) = true)
    (l_Going_look : K.lookup f_Going_look = some ⟨oc_Going_look, od_Going_look, .func (PySem.W.fnOf "look" "Going.look" (defArgs s_Going_look) (defBody s_Going_look) (defScope s_Going_look) .none kV_Going_look dc_Going_look pm_Going_look an_Going_look cd_Going_look ct_Going_look), sl_Going_look⟩)
    (c_Going_look : PySem.W.codeIn K cd_Going_look "Going.look" = true)
    (k_Going_look : PySem.W.keepIn K (.ref f_Going_look) = true)
    (a_Going_two : PySem.W.findIn K (.ref C_Going) "two" = some (some (.ref f_Going_two)))
    (i_Going_two : PySem.W.isFn K (.ref f_Going_two) = true)
    (l_Going_two : K.lookup f_Going_two = some ⟨oc_Going_two, od_Going_two, .func (PySem.W.fnOf "two" "Going.two" (defArgs s_Going_two) (defBody s_Going_two) (defScope s_Going_two) .none kV_Going_two dc_Going_two pm_Going_two an_Going_two cd_Going_two ct_Going_two), sl_Going_two⟩)
    (c_Going_two : PySem.W.codeIn K cd_Going_two "Going.two" = true)
    (k_Going_two : PySem.W.keepIn K (.ref f_Going_two) = true)
    (a_Going_worth : PySem.W.findIn K (.ref C_Going) "worth" = some (some (.ref f_Going_worth)))
    (i_Going_worth : PySem.W.isFn K (.ref f_Going_worth) = true)
    (l_Going_worth : K.lookup f_Going_worth = some ⟨oc_Going_worth, od_Going_worth, .func (PySem.W.fnOf "worth" "Going.worth" (defArgs s_Going_worth) (defBody s_Going_worth) (defScope s_Going_worth) .none kV_Going_worth dc_Going_worth pm_Going_worth an_Going_worth cd_Going_worth ct_Going_worth), sl_Going_worth⟩)
    (c_Going_worth : PySem.W.codeIn K cd_Going_worth "Going.worth" = true)
    (k_Going_worth : PySem.W.keepIn K (.ref f_Going_worth) = true)
    (pg_Going : PySem.W.plainGet K C_Going Str.empty = true)
    (hd_Going : PySem.W.hasDictIn K C_Going = true)
    (po_Going : PySem.W.plainOver K C_Going = true)
    (sa_Going : PySem.W.findIn K (.ref C_Going) "__setattr__" = some (some (.builtin "object.__setattr__")))
    (mk_Going : PySem.W.makesIn K C_Going = true)
    (k_Going : PySem.W.keepIn K (.ref C_Going) = true)
    (n_Going_reads : PySem.W.findIn K (.ref C_Going) "reads" = some none)
    (n_Going_had : PySem.W.findIn K (.ref C_Going) "had" = some none)
    (n_Going_lacking : PySem.W.findIn K (.ref C_Going) "lacking" = some none)
    : ∃ fd : FuncData, (∀ (s : Shared) (v : Value), BindsTo s fd ⟨[v], []⟩ [("script", v)]) ∧ ∀ base : Heap, K.In base → base.Ns mainGlobals mg → FnOk l.prog w K mg base CX0 22 fa fd ["script"] (spLaw K) := by
  have e := hfa.symm.trans (PySem.W.mg_of X G a_law)
  cases e
  have F_behind := fun_mk (st := s_behind) l_behind c_behind k_behind
  have D_behind : IsDef K mg "behind" s_behind ["r", "reads"] := ⟨f_behind, _, F_behind, PySem.W.mg_of X G a_behind, F_behind.binds (ps := ["r", "reads"]) fun _ _ _ _ _ _ us hl => match us, hl with | [_, _], _ => rfl⟩
  have F__law_pool := fun_mk (st := s__law_pool) l__law_pool c__law_pool k__law_pool
  have D__law_pool : IsDef K mg "_law_pool" s__law_pool ["script", "k"] := ⟨f__law_pool, _, F__law_pool, PySem.W.mg_of X G a__law_pool, F__law_pool.binds (ps := ["script", "k"]) fun _ _ _ _ _ _ us hl => match us, hl with | [_, _], _ => rfl⟩
  have F__law_take := fun_mk (st := s__law_take) l__law_take c__law_take k__law_take
  have D__law_take : IsDef K mg "_law_take" s__law_take ["pool", "many"] := ⟨f__law_take, _, F__law_take, PySem.W.mg_of X G a__law_take, F__law_take.binds (ps := ["pool", "many"]) fun _ _ _ _ _ _ us hl => match us, hl with | [_, _], _ => rfl⟩
  have F__law_names := fun_mk (st := s__law_names) l__law_names c__law_names k__law_names
  have D__law_names : IsDef K mg "_law_names" s__law_names ["pool"] := ⟨f__law_names, _, F__law_names, PySem.W.mg_of X G a__law_names, F__law_names.binds (ps := ["pool"]) fun _ _ _ _ _ _ us hl => match us, hl with | [_], _ => rfl⟩
  have F__law_leaf := fun_mk (st := s__law_leaf) l__law_leaf c__law_leaf k__law_leaf
  have D__law_leaf : IsDef K mg "_law_leaf" s__law_leaf ["pool", "names", "most"] := ⟨f__law_leaf, _, F__law_leaf, PySem.W.mg_of X G a__law_leaf, F__law_leaf.binds (ps := ["pool", "names", "most"]) fun _ _ _ _ _ _ us hl => match us, hl with | [_, _, _], _ => rfl⟩
  have F__law_part := fun_mk (st := s__law_part) l__law_part c__law_part k__law_part
  have D__law_part : IsDef K mg "_law_part" s__law_part ["pool", "names", "deep", "most"] := ⟨f__law_part, _, F__law_part, PySem.W.mg_of X G a__law_part, F__law_part.binds (ps := ["pool", "names", "deep", "most"]) fun _ _ _ _ _ _ us hl => match us, hl with | [_, _, _, _], _ => rfl⟩
  have F__law_recipe := fun_mk (st := s__law_recipe) l__law_recipe c__law_recipe k__law_recipe
  have D__law_recipe : IsDef K mg "_law_recipe" s__law_recipe ["pool", "names", "most"] := ⟨f__law_recipe, _, F__law_recipe, PySem.W.mg_of X G a__law_recipe, F__law_recipe.binds (ps := ["pool", "names", "most"]) fun _ _ _ _ _ _ us hl => match us, hl with | [_, _, _], _ => rfl⟩
  have F__law_look := fun_mk (st := s__law_look) l__law_look c__law_look k__law_look
  have D__law_look : IsDef K mg "_law_look" s__law_look ["name", "state"] := ⟨f__law_look, _, F__law_look, PySem.W.mg_of X G a__law_look, F__law_look.binds (ps := ["name", "state"]) fun _ _ _ _ _ _ us hl => match us, hl with | [_, _], _ => rfl⟩
  have F__law_gone := fun_mk (st := s__law_gone) l__law_gone c__law_gone k__law_gone
  have D__law_gone : IsDef K mg "_law_gone" s__law_gone ["r", "state"] := ⟨f__law_gone, _, F__law_gone, PySem.W.mg_of X G a__law_gone, F__law_gone.binds (ps := ["r", "state"]) fun _ _ _ _ _ _ us hl => match us, hl with | [_, _], _ => rfl⟩
  have F__law_behind := fun_mk (st := s__law_behind) l__law_behind c__law_behind k__law_behind
  have D__law_behind : IsDef K mg "_law_behind" s__law_behind ["r", "reads"] := ⟨f__law_behind, _, F__law_behind, PySem.W.mg_of X G a__law_behind, F__law_behind.binds (ps := ["r", "reads"]) fun _ _ _ _ _ _ us hl => match us, hl with | [_, _], _ => rfl⟩
  have F__law_all_reads := fun_mk (st := s__law_all_reads) l__law_all_reads c__law_all_reads k__law_all_reads
  have D__law_all_reads : IsDef K mg "_law_all_reads" s__law_all_reads ["r", "numbers"] := ⟨f__law_all_reads, _, F__law_all_reads, PySem.W.mg_of X G a__law_all_reads, F__law_all_reads.binds (ps := ["r", "numbers"]) fun _ _ _ _ _ _ us hl => match us, hl with | [_, _], _ => rfl⟩
  have F__law_kinds := fun_mk (st := s__law_kinds) l__law_kinds c__law_kinds k__law_kinds
  have D__law_kinds : IsDef K mg "_law_kinds" s__law_kinds ["caught", "due"] := ⟨f__law_kinds, _, F__law_kinds, PySem.W.mg_of X G a__law_kinds, F__law_kinds.binds (ps := ["caught", "due"]) fun _ _ _ _ _ _ us hl => match us, hl with | [_, _], _ => rfl⟩
  have F__law_spoilt := fun_mk (st := s__law_spoilt) l__law_spoilt c__law_spoilt k__law_spoilt
  have D__law_spoilt : IsDef K mg "_law_spoilt" s__law_spoilt ["reads", "names", "pool"] := ⟨f__law_spoilt, _, F__law_spoilt, PySem.W.mg_of X G a__law_spoilt, F__law_spoilt.binds (ps := ["reads", "names", "pool"]) fun _ _ _ _ _ _ us hl => match us, hl with | [_, _, _], _ => rfl⟩
  have F__law_right := fun_mk (st := s__law_right) l__law_right c__law_right k__law_right
  have D__law_right : IsDef K mg "_law_right" s__law_right ["r", "reads"] := ⟨f__law_right, _, F__law_right, PySem.W.mg_of X G a__law_right, F__law_right.binds (ps := ["r", "reads"]) fun _ _ _ _ _ _ us hl => match us, hl with | [_, _], _ => rfl⟩
  have F_law := fun_mk (st := s_law) l_law c_law k_law
  have m_len := PySem.W.mg_none_of X G z_len
  have m_list := PySem.W.mg_none_of X G z_list
  have m_range := PySem.W.mg_none_of X G z_range
  have m_tuple := PySem.W.mg_none_of X G z_tuple
  have m_str := PySem.W.mg_none_of X G z_str
  have m_int := PySem.W.mg_none_of X G z_int
  have m_isinstance := PySem.W.mg_none_of X G z_isinstance
  have m_bool := PySem.W.mg_none_of X G z_bool
  have m_sum := PySem.W.mg_none_of X G z_sum
  have m_dict := PySem.W.mg_none_of X G z_dict
  have m_min := PySem.W.mg_none_of X G z_min
  have m_max := PySem.W.mg_none_of X G z_max
  have m_ValueError := PySem.W.mg_none_of X G z_ValueError
  have T : Txt K mg := ⟨m_len, m_list, m_range, m_tuple, m_str, m_int, m_isinstance, m_bool, m_sum, m_dict, m_min, m_max, m_ValueError⟩
  have XN : NoX K mg "NoRead" C_NoRead := ⟨x_NoRead, PySem.W.mg_of X G a_NoRead, k_NoRead, b_NoRead, t_NoRead⟩
  have F_Going___init__ := fun_mk (st := s_Going___init__) l_Going___init__ c_Going___init__ k_Going___init__
  have B_Going___init__ := F_Going___init__.binds (ps := ["self", "reads"]) fun _ _ _ _ _ _ us hl => match us, hl with | [_, _], _ => rfl
  have F_Going_look := fun_mk (st := s_Going_look) l_Going_look c_Going_look k_Going_look
  have B_Going_look := F_Going_look.binds (ps := ["self", "name"]) fun _ _ _ _ _ _ us hl => match us, hl with | [_, _], _ => rfl
  have M_Going_look : IsMet K C_Going "look" "Going.look" s_Going_look ["self", "name"] := ⟨f_Going_look, _, F_Going_look, ⟨a_Going_look, i_Going_look, k_Going_look⟩, B_Going_look⟩
  have F_Going_two := fun_mk (st := s_Going_two) l_Going_two c_Going_two k_Going_two
  have B_Going_two := F_Going_two.binds (ps := ["self", "kind", "one", "r"]) fun _ _ _ _ _ _ us hl => match us, hl with | [_, _, _, _], _ => rfl
  have M_Going_two : IsMet K C_Going "two" "Going.two" s_Going_two ["self", "kind", "one", "r"] := ⟨f_Going_two, _, F_Going_two, ⟨a_Going_two, i_Going_two, k_Going_two⟩, B_Going_two⟩
  have F_Going_worth := fun_mk (st := s_Going_worth) l_Going_worth c_Going_worth k_Going_worth
  have B_Going_worth := F_Going_worth.binds (ps := ["self", "r"]) fun _ _ _ _ _ _ us hl => match us, hl with | [_, _], _ => rfl
  have M_Going_worth : IsMet K C_Going "worth" "Going.worth" s_Going_worth ["self", "r"] := ⟨f_Going_worth, _, F_Going_worth, ⟨a_Going_worth, i_Going_worth, k_Going_worth⟩, B_Going_worth⟩
  have ZG : GoT K mg C_Going f_Going___init__ := ⟨⟨pg_Going, hd_Going, po_Going, sa_Going⟩, n_Going_reads, n_Going_had, n_Going_lacking, PySem.W.mg_of X G a_Going, ⟨mk_Going, a_Going___init__, i_Going___init__, k_Going⟩⟩
  have R7 : Kin7 K mg C_NoRead C_MadeError C_NoRead C_NoRecord C_NoText C_NoName C_Ring C_NoDeed C_NoRow 0 := ⟨PySem.W.mg_of X G a_MadeError, PySem.W.mg_of X G a_NoRead, PySem.W.mg_of X G a_NoRecord, PySem.W.mg_of X G a_NoText, PySem.W.mg_of X G a_NoName, PySem.W.mg_of X G a_Ring, PySem.W.mg_of X G a_NoDeed, PySem.W.mg_of X G a_NoRow, PySem.W.exm_ref b_MadeError d_MadeError y_MadeError u_MadeError, ⟨q_hg, q_hk, b_NoRead, q_hd, q_ha, q_hn, q_ht, q_hm⟩, kit_built (by decide +kernel) u_ValueError, kit_self, kit_own w_NoRecord d_NoRecord y_NoRecord u_NoRecord, kit_own w_NoText d_NoText y_NoText u_NoText, kit_own w_NoName d_NoName y_NoName u_NoName, kit_own w_Ring d_Ring y_Ring u_Ring, kit_own w_NoDeed d_NoDeed y_NoDeed u_NoDeed, kit_own w_NoRow d_NoRow y_NoRow u_NoRow, by decide⟩
  refine ⟨PySem.W.fnOf "law" "law" (defArgs s_law) (defBody s_law) (defScope s_law) .none kV_law dc_law pm_law an_law cd_law ct_law, fun s v => .of_eq rfl, fun base _ _ => ?_⟩
  have A1 := ok__law_pool (P := l.prog) (w := w) (base := base) T D__law_pool
  have A2 := ok__law_take (P := l.prog) (w := w) (base := base) T D__law_take
  have A3 := ok__law_names T D__law_names A2
  have A4 := ok__law_leaf T D__law_leaf A2
  have A5 := ok__law_recipe T D__law_recipe A2 A4 (ok__law_part T D__law_part A2 A4 4)
  have A6 := ok__law_behind T D__law_behind (ok__law_gone T D__law_gone (ok__law_look (P := l.prog) (w := w) (base := base) T D__law_look) 9)
  have A7 := ok__law_all_reads T D__law_all_reads A6
  have A8 := ok__law_kinds (P := l.prog) (w := w) (base := base) T R7 D__law_kinds
  have A9 := ok__law_spoilt T D__law_spoilt A2
  have G1 := ok_Going_init (P := l.prog) (w := w) (base := base) T ZG F_Going___init__
  have G2 := ok_Going_look (P := l.prog) (w := w) (base := base) T ZG XN M_Going_look
  have G3 := ok_Going_worth T ZG M_Going_worth M_Going_two G2 9
  have G4 := ok_behind T ZG XN D_behind G1 B_Going___init__ G3
  exact ok_law F_law T A1 A3 A5 A2 A7 (ok__law_right T R7 D__law_right G4 A6 A8) A9
theorem walk {l : PySem.W.OpenLaw} {q : Program} {loose : List Str} {XP : (Str → Option Value) → Heap → Prop} {YP : World → Heap → Prop} {d : DefRec} {K : Params → PySem.W.Frag} (hn : l.most = some 63) (hdf : d.params.defaults = [])
    (hY : ∀ (w : World) (h : Heap), YP w h → (K w.params).In h)
    (F : ∀ (w : World) (mg : Str → Option Value) (fa : Addr) (h : Heap), (K w.params).In h → h.Ns mainGlobals mg → mg d.name = some (.ref fa) →
      ∃ fd : FuncData, (∀ (s : Shared) (u : Value), BindsTo s fd ⟨[u], []⟩ [("script", u)]) ∧ ∀ base : Heap, (K w.params).In base → base.Ns mainGlobals mg → FnOk l.prog w (K w.params) mg base CX0 22 fa fd ["script"] (spLaw (K w.params))) :
    PySem.W.WalkO q loose XP YP l.row.toRowW d [] (fun f vs => PySem.call f vs) :=
  L2.walk_of (n := 63) (k := 22) (x := "script") (CX := fun _ => CX0) (sp := fun w => spLaw (K w.params)) hn (by decide) hdf ⟨rfl, by decide, by decide⟩ hY F (fun _ _ a ns hl _ hS => ⟨a, ns, rfl, hS, hl, fun _ => rfl⟩) fun _ _ _ _ _ z => z
end Mad
open PySem PySem.W PyProof.Rows
set_option maxRecDepth 100000 in
set_option maxHeartbeats 0 in
theorem PySem.Challenge.cw_madeagain_k50_behind_any_reads_holds : PySem.Challenge.rw_madeagain_k50_behind_any_reads.Holds := by
  w_on; o_law; k_head; (case hw => w_witness2)
  k_fill
  refine Mad.walk (l := PySem.Challenge.rw_madeagain_k50_behind_any_reads) rfl rfl (fun w h Y => PySem.W.kIn_of Y) ?F
  case F =>
    intro w mg fa h KX G hmg
    refine' Mad.all_mk KX G hmg ?a_behind ?l_behind ?c_behind ?k_behind ?a__law_pool ?l__law_pool ?c__law_pool ?k__law_pool ?a__law_take ?l__law_take ?c__law_take ?k__law_take ?a__law_names ?l__law_names ?c__law_names ?k__law_names ?a__law_leaf ?l__law_leaf ?c__law_leaf ?k__law_leaf ?a__law_part ?l__law_part ?c__law_part ?k__law_part ?a__law_recipe ?l__law_recipe ?c__law_recipe ?k__law_recipe ?a__law_look ?l__law_look ?c__law_look ?k__law_look ?a__law_gone ?l__law_gone ?c__law_gone ?k__law_gone ?a__law_behind ?l__law_behind ?c__law_behind ?k__law_behind ?a__law_all_reads ?l__law_all_reads ?c__law_all_reads ?k__law_all_reads ?a__law_kinds ?l__law_kinds ?c__law_kinds ?k__law_kinds ?a__law_spoilt ?l__law_spoilt ?c__law_spoilt ?k__law_spoilt ?a__law_right ?l__law_right ?c__law_right ?k__law_right ?a_law ?l_law ?c_law ?k_law ?z_len ?z_list ?z_range ?z_tuple ?z_str ?z_int ?z_isinstance ?z_bool ?z_sum ?z_dict ?z_min ?z_max ?z_ValueError ?a_NoRead ?x_NoRead ?k_NoRead ?b_NoRead ?t_NoRead ?a_MadeError ?a_NoRecord ?a_NoText ?a_NoName ?a_Ring ?a_NoDeed ?a_NoRow ?d_MadeError ?d_NoRecord ?d_NoText ?d_NoName ?d_Ring ?d_NoDeed ?d_NoRow ?y_MadeError ?y_NoRecord ?y_NoText ?y_NoName ?y_Ring ?y_NoDeed ?y_NoRow ?u_MadeError ?u_NoRecord ?u_NoText ?u_NoName ?u_Ring ?u_NoDeed ?u_NoRow ?w_NoRecord ?w_NoText ?w_NoName ?w_Ring ?w_NoDeed ?w_NoRow ?b_MadeError ?u_ValueError ?q_hg ?q_hk ?q_hd ?q_ha ?q_hn ?q_ht ?q_hm ?a_Going ?a_Going___init__ ?i_Going___init__ ?l_Going___init__ ?c_Going___init__ ?k_Going___init__ ?a_Going_look ?i_Going_look ?l_Going_look ?c_Going_look ?k_Going_look ?a_Going_two ?i_Going_two ?l_Going_two ?c_Going_two ?k_Going_two ?a_Going_worth ?i_Going_worth ?l_Going_worth ?c_Going_worth ?k_Going_worth ?pg_Going ?hd_Going ?po_Going ?sa_Going ?mk_Going ?k_Going ?n_Going_reads ?n_Going_had ?n_Going_lacking
    (case a_behind => k_is)
    (case l_behind => k_is)
    (case c_behind => k_is)
    (case k_behind => k_is)
    (case a__law_pool => k_is)
    (case l__law_pool => k_is)
    (case c__law_pool => k_is)
    (case k__law_pool => k_is)
    (case a__law_take => k_is)
    (case l__law_take => k_is)
    (case c__law_take => k_is)
    (case k__law_take => k_is)
    (case a__law_names => k_is)
    (case l__law_names => k_is)
    (case c__law_names => k_is)
    (case k__law_names => k_is)
    (case a__law_leaf => k_is)
    (case l__law_leaf => k_is)
    (case c__law_leaf => k_is)
    (case k__law_leaf => k_is)
    (case a__law_part => k_is)
    (case l__law_part => k_is)
    (case c__law_part => k_is)
    (case k__law_part => k_is)
    (case a__law_recipe => k_is)
    (case l__law_recipe => k_is)
    (case c__law_recipe => k_is)
    (case k__law_recipe => k_is)
    (case a__law_look => k_is)
    (case l__law_look => k_is)
    (case c__law_look => k_is)
    (case k__law_look => k_is)
    (case a__law_gone => k_is)
    (case l__law_gone => k_is)
    (case c__law_gone => k_is)
    (case k__law_gone => k_is)
    (case a__law_behind => k_is)
    (case l__law_behind => k_is)
    (case c__law_behind => k_is)
    (case k__law_behind => k_is)
    (case a__law_all_reads => k_is)
    (case l__law_all_reads => k_is)
    (case c__law_all_reads => k_is)
    (case k__law_all_reads => k_is)
    (case a__law_kinds => k_is)
    (case l__law_kinds => k_is)
    (case c__law_kinds => k_is)
    (case k__law_kinds => k_is)
    (case a__law_spoilt => k_is)
    (case l__law_spoilt => k_is)
    (case c__law_spoilt => k_is)
    (case k__law_spoilt => k_is)
    (case a__law_right => k_is)
    (case l__law_right => k_is)
    (case c__law_right => k_is)
    (case k__law_right => k_is)
    (case a_law => k_is)
    (case l_law => k_is)
    (case c_law => k_is)
    (case k_law => k_is)
    (case z_len => k_is)
    (case z_list => k_is)
    (case z_range => k_is)
    (case z_tuple => k_is)
    (case z_str => k_is)
    (case z_int => k_is)
    (case z_isinstance => k_is)
    (case z_bool => k_is)
    (case z_sum => k_is)
    (case z_dict => k_is)
    (case z_min => k_is)
    (case z_max => k_is)
    (case z_ValueError => k_is)
    (case a_NoRead => k_is)
    (case x_NoRead => k_exc)
    (case k_NoRead => k_is)
    (case b_NoRead => k_is)
    (case t_NoRead => k_is)
    (case a_MadeError => k_is)
    (case a_NoRecord => k_is)
    (case a_NoText => k_is)
    (case a_NoName => k_is)
    (case a_Ring => k_is)
    (case a_NoDeed => k_is)
    (case a_NoRow => k_is)
    (case d_MadeError => k_is)
    (case d_NoRecord => k_is)
    (case d_NoText => k_is)
    (case d_NoName => k_is)
    (case d_Ring => k_is)
    (case d_NoDeed => k_is)
    (case d_NoRow => k_is)
    (case y_MadeError => k_is)
    (case y_NoRecord => k_is)
    (case y_NoText => k_is)
    (case y_NoName => k_is)
    (case y_Ring => k_is)
    (case y_NoDeed => k_is)
    (case y_NoRow => k_is)
    (case u_MadeError => k_is)
    (case u_NoRecord => k_is)
    (case u_NoText => k_is)
    (case u_NoName => k_is)
    (case u_Ring => k_is)
    (case u_NoDeed => k_is)
    (case u_NoRow => k_is)
    (case w_NoRecord => first | rfl | decide)
    (case w_NoText => first | rfl | decide)
    (case w_NoName => first | rfl | decide)
    (case w_Ring => first | rfl | decide)
    (case w_NoDeed => first | rfl | decide)
    (case w_NoRow => first | rfl | decide)
    (case b_MadeError => k_is)
    (case u_ValueError => k_is)
    (case q_hg => k_is)
    (case q_hk => k_is)
    (case q_hd => k_is)
    (case q_ha => k_is)
    (case q_hn => k_is)
    (case q_ht => k_is)
    (case q_hm => k_is)
    (case a_Going => k_is)
    (case a_Going___init__ => k_is)
    (case i_Going___init__ => k_is)
    (case l_Going___init__ => k_is)
    (case c_Going___init__ => k_is)
    (case k_Going___init__ => k_is)
    (case a_Going_look => k_is)
    (case i_Going_look => k_is)
    (case l_Going_look => k_is)
    (case c_Going_look => k_is)
    (case k_Going_look => k_is)
    (case a_Going_two => k_is)
    (case i_Going_two => k_is)
    (case l_Going_two => k_is)
    (case c_Going_two => k_is)
    (case k_Going_two => k_is)
    (case a_Going_worth => k_is)
    (case i_Going_worth => k_is)
    (case l_Going_worth => k_is)
    (case c_Going_worth => k_is)
    (case k_Going_worth => k_is)
    (case pg_Going => k_is)
    (case hd_Going => k_is)
    (case po_Going => k_is)
    (case sa_Going => k_is)
    (case mk_Going => k_is)
    (case k_Going => k_is)
    (case n_Going_reads => k_is)
    (case n_Going_had => k_is)
    (case n_Going_lacking => k_is)
#print axioms PySem.Challenge.cw_madeagain_k50_behind_any_reads_holds
