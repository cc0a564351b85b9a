import PyProof.Rows.All
import Wide.All
import OpenK.AllK
import Wide.FinOn
import HandS.ForMost
import HandS.Wide
import HandS.IsInst
import HandS.Codes
import HandS.More
import HandS.Style
import HandS.TupMul
import HandS.TupAny
import HandS.Dict
import HandS.Iter
import HandS.SortInts
import HandS.SortOrd
import KE.KEqSeq
import HandS.Exc
import HandS.ExcOwn
import HandS.WordsExc
import KE.IntTextLaws
import KE.IntTextText
import HandS.ExcValue
import HandS.TryOnly
import HandS.ExcIs
import PyProof.StrOps2
import HandS.Strs
import HandS.NoneIn
import HandS.Zip
import PySem.Challenge.RW_madeagain_k38_no_read
set_option Elab.async false
set_option linter.all false
set_option maxRecDepth 100000
set_option maxHeartbeats 4000000
set_option pp.maxSteps 300
namespace Mad
open PySem PySem.Spec PyProof.Rows L2
def topS (i : Nat) : Stmt := PySem.Challenge.pw_madeagain_k38_no_read.main.body.getD i (.Pass ⟨0, 0, 0, 0⟩)
/-! ### short words over the layer -/
/-- the def x of the text stands in the module as st says -/
def IsDef (K : PySem.W.Frag) (mg : Str → Option Value) (x : Str) (st : Stmt) (ps : List Str) : Prop := ∃ (f : Addr) (fd : FuncData), Fun K x x st f fd ∧ mg x = some (.ref f) ∧ Binds K fd ps []
/-- the def x keeps the promise sp by at most k calls in one another -/
def Cal (P : Program) (w : World) (K : PySem.W.Frag) (mg : Str → Option Value) (base : Heap) (CX : CXT) (k : Nat) (x : Str) (ps : List Str) (sp : Sp) : Prop :=
  ∃ (f : Addr) (fd : FuncData), FnOk P w K mg base CX k f fd ps sp ∧ mg x = some (.ref f) ∧ PySem.W.keepIn K (.ref f) = true ∧ Binds K fd ps []
section
variable {P : Program} {w : World} {K : PySem.W.Frag} {mg : Str → Option Value} {base : Heap}
theorem Cal.mono {CX : CXT} {j k : Nat} {x : Str} {ps : List Str} {sp : Sp} (c : Cal P w K mg base CX j x ps sp) (h : j ≤ k) : Cal P w K mg base CX k x ps sp := by
  obtain ⟨f, fd, F, r⟩ := c
  exact ⟨f, fd, F.mono h, r⟩
theorem Cal.imp {CX : CXT} {k : Nat} {x : Str} {ps : List Str} {sp sp' : Sp} (c : Cal P w K mg base CX k x ps sp) (h : ∀ vs H Q E, sp' vs H Q E → sp vs H Q E) : Cal P w K mg base CX k x ps sp' := by
  obtain ⟨f, fd, F, r⟩ := c
  exact ⟨f, fd, F.imp h, r⟩
/-- of no depth none is asked -/
theorem cal_none {x : Str} {st : Stmt} {ps : List Str} {sp : Sp} {CX : CXT} {k : Nat} (D : IsDef K mg x st ps) (no : ∀ vs H Q E, ¬ sp vs H Q E) : Cal P w K mg base CX k x ps sp := by
  obtain ⟨f, fd, F, m, b⟩ := D
  exact ⟨f, fd, ⟨fun vs H Q E h => absurd h (no vs H Q E), fun A outer s H args us vs Q E _ _ _ _ h => absurd h (no vs H Q E)⟩, m, F.kp, b⟩
theorem IsDef.cal {x : Str} {st : Stmt} {N ps : List Str} {k : Nat} {sp : Sp} (D : IsDef K mg x st ps) (S : FnScope N ps (defScope st)) (len : ∀ vs H Q E, sp vs H Q E → vs.length = ps.length)
    (hbody : ∀ (f : Addr) (cdv : Value) (A : Around) (outer : List Env) (s : Shared) (H : Hp) (vs : List V) (Q : VK) (E : XK), Room k (A.deeper (envOfC x (defScope st) s.heap.objs.size f cdv)) → sp vs H Q E →
      ∃ t, PSs (cxOf CX0 P w K mg base N x (defScope st) f cdv A outer s H E).nox (defBody st) t ∧ t { nx := fun _ H' => Q .non H', rt := Q } (start N vs) H) : Cal P w K mg base CX0 (k + 1) x ps sp := by
  obtain ⟨f, fd, F, m, b⟩ := D
  exact ⟨f, fd, F.ok S len fun cdv A outer s H vs Q E => hbody f cdv A outer s H vs Q E, m, F.kp, b⟩
end
section
variable {X : Cx} {CX : CXT} {k : Nat} {ps : List Str} {sp : Sp} {E : XK} {x : Str} {p pos : Pos}
theorem pe_cal {e : Expr} {es : List Expr} {t : TA} (c : Cal X.prog X.w X.K X.mg X.base CX k x ps sp) (hr : Room k X.A) (hx : Passes CX X E) (ha : PA X (e :: es) t) (hg : Gl X x := by rfl)
    (hdb : (x == ("__debug__" : Str)) = false := by decide) (he : starEach (e :: es) X.env = (false, eval e X.env) :: starEach es X.env := by rfl) (hpl : (backTo pos (starEach es X.env)).any (·.1) = false := by rfl) :
    PE X (.Call (.Name x p) (e :: es) [] pos) (tCall sp [] E t) := by
  obtain ⟨f, fd, F, m, kp, b⟩ := c
  exact pe_call F hr hg m kp b .nil hx ha hdb he hpl
theorem pe_cal0 (c : Cal X.prog X.w X.K X.mg X.base CX k x ps sp) (hr : Room k X.A) (hx : Passes CX X E) (hg : Gl X x := by rfl) (hdb : (x == ("__debug__" : Str)) = false := by decide) :
    PE X (.Call (.Name x p) [] [] pos) (tCall sp [] E tNil) := by
  obtain ⟨f, fd, F, m, kp, b⟩ := c
  exact pe_call0 F hr hg m kp b .nil hx hdb
end
theorem le_line {n : Nat} (h : n ≤ 16777216) : n ≤ sizeLine := by rw [sizeLine_eq]; exact h
theorem lt_line {n : Nat} (h : n < 16777216) : n < sizeLine := by rw [sizeLine_eq]; exact h
theorem same_new {H : Hp} {p : Addr} (h : H p = none) (o : HO) : Same H (upd H p o) := fun b u q => by rw [upd_ne (ne_of_none q h)]; exact q
theorem same_upd {B H : Hp} {p : Addr} (s : Same B H) (h : B p = none) (o : HO) : Same B (upd H p o) := fun b u q => by
  have z : b ≠ p := fun e => by rw [e, h] at q; cases q
  rw [upd_ne z]; exact s _ _ q
theorem atI_at {α : Type} {xs : List α} {i : Int} {v : α} (h0 : 0 ≤ i) (h : xs[i.toNat]? = some v) : atI xs i = some v := by
  have e : i = ((i.toNat : Nat) : Int) := by omega
  rw [e]; exact atI_nat h
theorem ixN_at {n : Nat} {i : Int} (h0 : 0 ≤ i) (h : i < n) : ixN n i = some i.toNat := by
  unfold ixN
  rw [if_pos h0, if_pos h]
theorem int_at {ns : List Int} {i : Int} (h0 : 0 ≤ i) (h : i < ns.length) : ∃ v : Int, atI (ns.map V.int) i = some (.int v) := by
  have hk : i.toNat < ns.length := by omega
  exact ⟨ns[i.toNat], atI_at h0 (by rw [List.getElem?_map, List.getElem?_eq_getElem hk] <;> rfl)⟩
theorem if_true_eq {c : Bool} {A B : Prop} (h : c = true) (a : A) : if c = true then A else B := by rw [if_pos h]; exact a
theorem if_false_eq {c : Bool} {A B : Prop} (h : c = false) (b : B) : if c = true then A else B := by rw [h]; exact b
theorem not_true_eq {c : Bool} {A B : Prop} (h : c = true) (b : B) : if (!c) = true then A else B := by rw [h]; exact b
theorem not_false_eq {c : Bool} {A B : Prop} (h : c = false) (a : A) : if (!c) = true then A else B := by rw [h]; exact a
structure Txt (K : PySem.W.Frag) (mg : Str → Option Value) : Prop where
  b_len : mg "len" = none
  b_list : mg "list" = none
  b_range : mg "range" = none
  b_tuple : mg "tuple" = none
  b_isinstance : mg "isinstance" = none
  b_sum : mg "sum" = none
  b_min : mg "min" = none
  b_max : mg "max" = none
  b_ValueError : mg "ValueError" = none
/-! ### recipes as data -/
inductive Kd where
  | plus | minus | times | most
  deriving DecidableEq
def Kd.name : Kd → Str
  | .plus => "plus" | .minus => "minus" | .times => "times" | .most => "most"
inductive Rcp where
  | num (n : Int)
  | read (s : List Nat)
  | two (k : Kd) (a b : Rcp)
  | pick (a b c : Rcp)
  | choose (a : Rcp) (ns : List (List Nat))
def Rcp.dep : Rcp → Nat
  | .num _ => 1
  | .read _ => 1
  | .two _ a b => max a.dep b.dep + 1
  | .pick a b c => max a.dep (max b.dep c.dep) + 1
  | .choose a _ => a.dep + 1
def Rcp.siz : Rcp → Nat
  | .num _ => 1
  | .read _ => 1
  | .two _ a b => a.siz + b.siz + 1
  | .pick a b c => a.siz + b.siz + c.siz + 1
  | .choose a _ => a.siz + 1
/-- a name's signs -/
def Nm (s : List Nat) : Prop := 1 ≤ s.length ∧ s.length ≤ 8 ∧ ∀ c ∈ s, 97 ≤ c ∧ c ≤ 122
def Nms (ns : List (List Nat)) : Prop := 1 ≤ ns.length ∧ ns.length ≤ 9 ∧ ∀ s ∈ ns, Nm s
def Rcp.Good : Rcp → Prop
  | .num n => n.natAbs < 10 ^ 40
  | .read s => Nm s
  | .two _ a b => a.Good ∧ b.Good
  | .pick a b c => a.Good ∧ b.Good ∧ c.Good
  | .choose a ns => a.Good ∧ Nms ns
def txs (ns : List (List Nat)) : List V := (ns.map SX.S).map V.str
/-- the value v is the recipe r in H -/
def Rec (H : Hp) : Rcp → V → Prop
  | .num n, v => ∃ p, v = .ref p ∧ H p = some (.tup [.str "number", .int n])
  | .read s, v => ∃ p, v = .ref p ∧ H p = some (.tup [.str "read", .str (SX.S s)])
  | .two k a b, v => ∃ p x y, v = .ref p ∧ H p = some (.tup [.str k.name, x, y]) ∧ Rec H a x ∧ Rec H b y
  | .pick a b c, v => ∃ p x y z, v = .ref p ∧ H p = some (.tup [.str "pick", x, y, z]) ∧ Rec H a x ∧ Rec H b y ∧ Rec H c z
  | .choose a ns, v => ∃ p x q, v = .ref p ∧ H p = some (.tup [.str "choose", x, .ref q]) ∧ Rec H a x ∧ H q = some (.tup (txs ns))
/-- tuples stay -/
def Keep (H H' : Hp) : Prop := ∀ b xs, H b = some (.tup xs) → H' b = some (.tup xs)
theorem Keep.refl (H : Hp) : Keep H H := fun _ _ h => h
theorem Keep.trans {A B C : Hp} (h : Keep A B) (k : Keep B C) : Keep A C := fun b xs q => k b xs (h b xs q)
theorem same_keep {H H' : Hp} (s : Same H H') : Keep H H' := fun b xs q => s b _ q
theorem keep_lst {H : Hp} {l : Addr} {xs ys : List V} (h : H l = some (.lst xs)) : Keep H (upd H l (.lst ys)) := fun b zs q => by
  have z : b ≠ l := fun e => by rw [e, h] at q; cases q
  rw [upd_ne z]; exact q
theorem Rec.keep {H H' : Hp} (k : Keep H H') : ∀ {r : Rcp} {v : V}, Rec H r v → Rec H' r v
  | .num n, v, ⟨p, e, h⟩ => ⟨p, e, k _ _ h⟩
  | .read s, v, ⟨p, e, h⟩ => ⟨p, e, k _ _ h⟩
  | .two _ a b, v, ⟨p, x, y, e, h, ra, rb⟩ => ⟨p, x, y, e, k _ _ h, Rec.keep k ra, Rec.keep k rb⟩
  | .pick a b c, v, ⟨p, x, y, z, e, h, ra, rb, rc⟩ => ⟨p, x, y, z, e, k _ _ h, Rec.keep k ra, Rec.keep k rb, Rec.keep k rc⟩
  | .choose a ns, v, ⟨p, x, q, e, h, ra, hq⟩ => ⟨p, x, q, e, k _ _ h, Rec.keep k ra, k _ _ hq⟩
theorem Rec.same {H H' : Hp} (s : Same H H') {r : Rcp} {v : V} (h : Rec H r v) : Rec H' r v := h.keep (same_keep s)
theorem dep_pos : ∀ r : Rcp, 1 ≤ r.dep
  | .num _ => Nat.le_refl _
  | .read _ => Nat.le_refl _
  | .two _ _ _ => Nat.le_add_left _ _
  | .pick _ _ _ => Nat.le_add_left _ _
  | .choose _ _ => Nat.le_add_left _ _
theorem siz_pos : ∀ r : Rcp, 1 ≤ r.siz
  | .num _ => Nat.le_refl _
  | .read _ => Nat.le_refl _
  | .two _ _ _ => Nat.le_add_left _ _
  | .pick _ _ _ => Nat.le_add_left _ _
  | .choose _ _ => Nat.le_add_left _ _
theorem iteY {p A B : Prop} [Decidable p] (h : p) (a : A) : if decide p = true then A else B := by
  rw [if_pos (decide_eq_true h)]; exact a
theorem iteN {p A B : Prop} [Decidable p] (h : ¬p) (b : B) : if decide p = true then A else B := by
  rw [if_neg (fun z => h (of_decide_eq_true z))]; exact b
theorem txs_get {ns : List (List Nat)} {i : Nat} (h : i < ns.length) : (txs ns)[i]? = some (.str (SX.S ns[i])) := by
  unfold txs
  rw [List.getElem?_map, List.getElem?_map, List.getElem?_eq_getElem h]
  all_goals rfl
theorem txs_mem {ns : List (List Nat)} {x : V} (h : x ∈ txs ns) : ∃ s, s ∈ ns ∧ x = .str (SX.S s) := by
  obtain ⟨y, hy, rfl⟩ := List.mem_map.mp h
  obtain ⟨s, hs, rfl⟩ := List.mem_map.mp hy
  exact ⟨s, hs, rfl⟩
theorem txs_len (ns : List (List Nat)) : (txs ns).length = ns.length := by unfold txs; rw [List.length_map, List.length_map]
theorem txs_app (a b : List (List Nat)) : txs (a ++ b) = txs a ++ txs b := by unfold txs; rw [List.map_append, List.map_append]
/-- the signs, one by one -/
def ones (ss : List Nat) : List (List Nat) := ss.map fun c => [c]
theorem ones_flat (ss : List Nat) : (ones ss).flatten = ss := by
  induction ss with
  | nil => rfl
  | cons a r ih => show [a] ++ (ones r).flatten = _; rw [ih]; rfl
theorem ones_sum (ss : List Nat) : (((ones ss).map SX.S).map (·.length)).sum = ss.length := by
  induction ss with
  | nil => rfl
  | cons a r ih => show 1 + (((ones r).map SX.S).map (·.length)).sum = r.length + 1; rw [ih, Nat.add_comm]
theorem ones_len (ss : List Nat) : (ones ss).length = ss.length := List.length_map _
/-- the pick out of some things by a drawn number -/
theorem one_of {α : Type} {xs : List α} {v : Int} (h0 : 0 ≤ v) (h : v < xs.length) : ∃ x, x ∈ xs ∧ atI xs v = some x := by
  have hk : v.toNat < xs.length := by omega
  exact ⟨xs[v.toNat], List.getElem_mem hk, atI_at h0 (List.getElem?_eq_getElem hk)⟩
def letters : List Nat := [97, 98, 99, 100, 101, 102, 103, 104, 105, 106, 107, 108, 109, 110, 111, 112, 113, 114, 115, 116, 117, 118, 119, 120, 121, 122]
theorem letters_is : ("abcdefghijklmnopqrstuvwxyz" : Str) = SX.S letters := by decide +kernel
theorem letters_ok : ∀ c ∈ letters, 97 ≤ c ∧ c ≤ 122 := by decide
/-! ### rows of recipes -/
def Recs (H : Hp) : List Rcp → List V → Prop
  | [], [] => True
  | r :: rs, v :: vs => Rec H r v ∧ Recs H rs vs
  | _, _ => False
theorem Recs.keep {H H' : Hp} (k : Keep H H') : ∀ {rs : List Rcp} {vs : List V}, Recs H rs vs → Recs H' rs vs
  | [], [], _ => trivial
  | _ :: _, _ :: _, h => ⟨h.1.keep k, Recs.keep k h.2⟩
  | [], _ :: _, h => h.elim
  | _ :: _, [], h => h.elim
theorem Recs.len {H : Hp} : ∀ {rs : List Rcp} {vs : List V}, Recs H rs vs → vs.length = rs.length
  | [], [], _ => rfl
  | _ :: _, _ :: _, h => congrArg (· + 1) (Recs.len h.2)
  | [], _ :: _, h => h.elim
  | _ :: _, [], h => h.elim
theorem Recs.snoc {H : Hp} {r : Rcp} {v : V} (hr : Rec H r v) : ∀ {rs : List Rcp} {vs : List V}, Recs H rs vs → Recs H (rs ++ [r]) (vs ++ [v])
  | [], [], _ => ⟨hr, trivial⟩
  | _ :: _, _ :: _, h => ⟨h.1, Recs.snoc hr h.2⟩
  | [], _ :: _, h => h.elim
  | _ :: _, [], h => h.elim
theorem Recs.at {H : Hp} : ∀ {rs : List Rcp} {vs : List V} {i : Nat} {v : V}, Recs H rs vs → vs[i]? = some v → ∃ r, rs[i]? = some r ∧ Rec H r v
  | [], [], i, v, _, e => by simp at e
  | r :: _, _ :: _, 0, v, h, e => ⟨r, rfl, by cases e; exact h.1⟩
  | _ :: _, _ :: _, i + 1, v, h, e => Recs.at (i := i) h.2 (by simpa using e)
  | [], _ :: _, _, _, h, _ => h.elim
  | _ :: _, [], _, _, h, _ => h.elim
theorem Recs.get {H : Hp} {rs : List Rcp} {vs : List V} {i : Nat} (h : Recs H rs vs) (hi : i < rs.length) : ∃ v r, vs[i]? = some v ∧ rs[i]? = some r ∧ Rec H r v := by
  have hv : i < vs.length := by rw [h.len]; exact hi
  obtain ⟨r, e, hr⟩ := h.at (List.getElem?_eq_getElem hv)
  exact ⟨_, r, List.getElem?_eq_getElem hv, e, hr⟩
/-- a comprehension over a range with a step -/
theorem lcC {lo c : Int} {n : Nat} {g : TG} {tt : TT} {te : TE} {vs : List Nat} {σ : L2.St} {H1 : Hp} {D : Addr} {Qd : Hp → Prop} (Pv : Nat → Hp → Prop)
    (h0 : Pv 0 (upd H1 D (.lst [])))
    (hs : ∀ i H, i < n → Pv i H → g (.int (lo + (i : Nat) * c)) (wipe σ vs) H
      fun σ2 H2 => wipe σ2 vs = wipe σ vs ∧ tt σ2 H2
        fun b H3 => if b = true then te σ2 H3
          fun y H4 => ∃ acc, H4 D = some (.lst acc) ∧ acc.length < sizeLine ∧ Pv (i + 1) (upd H4 D (.lst (acc ++ [y])))
        else Pv (i + 1) H3)
    (hd : ∀ H, Pv n H → Qd H) :
    ∃ W : Nat → Nat → Hp → Prop, (∃ m, W 0 m (upd H1 D (.lst []))) ∧
      ∀ i m H, W i m H → ((Itc lo c n).stop i H ∧ Qd H) ∨ ((Itc lo c n).go i H ∧
        ∃ Nx : Hp → Prop, (∀ H', Nx H' → ∃ m', m' < m ∧ W (i + 1) m' H') ∧
          ∀ x H', (Itc lo c n).yld i H x H' → g x (wipe σ vs) H'
            fun σ2 H2 => wipe σ2 vs = wipe σ vs ∧ tt σ2 H2
              fun b H3 => if b = true then te σ2 H3
                fun y H4 => ∃ acc, H4 D = some (.lst acc) ∧ acc.length < sizeLine ∧ Nx (upd H4 D (.lst (acc ++ [y])))
              else Nx H3) := by
  refine ⟨fun i m H => m = n - i ∧ i ≤ n ∧ Pv i H, ⟨n, rfl, Nat.zero_le _, h0⟩, fun i m H w => ?_⟩
  obtain ⟨em, hi, p⟩ := w
  by_cases hlt : i < n
  · refine Or.inr ⟨hlt, Pv (i + 1), fun H' p' => ⟨n - (i + 1), by omega, rfl, hlt, p'⟩, fun x H' y => ?_⟩
    obtain ⟨e1, e2⟩ := y
    rw [e1, e2]
    exact hs i H hlt p
  · have e : i = n := by omega
    rw [e] at p
    exact Or.inl ⟨by show n ≤ i; omega, hd H p⟩
theorem cut_nat (xs : List V) {a b : Nat} (h : a ≤ b) : cutV xs (some (a : Int)) (some (b : Int)) = (xs.drop a).take (b - a) := by
  show (xs.drop (HT.sIx xs.length 0 (some (a : Int)))).take (HT.sIx xs.length xs.length (some (b : Int)) - HT.sIx xs.length 0 (some (a : Int))) = _
  rw [HT.sIx_nat, HT.sIx_nat]
  by_cases ha : a ≤ xs.length
  · rw [Nat.min_eq_left ha]
    by_cases hb : b ≤ xs.length
    · rw [Nat.min_eq_left hb]
    · rw [Nat.min_eq_right (by omega), List.take_of_length_le (by rw [List.length_drop]; omega), List.take_of_length_le (by rw [List.length_drop]; omega)]
  · have e1 : min a xs.length = xs.length := by omega
    rw [e1, List.drop_eq_nil_of_le (Nat.le_refl _), List.drop_eq_nil_of_le (by omega), List.take_nil, List.take_nil]
theorem cut_to (xs : List V) (b : Nat) : cutV xs none (some (b : Int)) = xs.take b := by
  show (xs.drop (HT.sIx xs.length 0 none)).take (HT.sIx xs.length xs.length (some (b : Int)) - HT.sIx xs.length 0 none) = _
  rw [HT.sIx_none, HT.sIx_nat, List.drop_zero, Nat.sub_zero]
  by_cases hb : b ≤ xs.length
  · rw [Nat.min_eq_left hb]
  · rw [Nat.min_eq_right (by omega), List.take_of_length_le (Nat.le_refl _), List.take_of_length_le (by omega)]
/-! ### any things as data -/
inductive Th where
  | non
  | bl (b : Bool)
  | int (i : Int)
  | str (s : List Nat)
  | tup (l : List Th)
  | lst (l : List Th)
  | dct
mutual
/-- the value stands for the thing in H -/
def Data (H : Hp) : Th → V → Prop
  | .non, v => v = .non
  | .bl b, v => v = .bl b
  | .int i, v => v = .int i
  | .str s, v => v = .str (SX.S s)
  | .tup l, v => ∃ p xs, v = .ref p ∧ H p = some (.tup xs) ∧ DataL H l xs
  | .lst l, v => ∃ p xs, v = .ref p ∧ H p = some (.lst xs) ∧ DataL H l xs
  | .dct, v => ∃ p kvs, v = .ref p ∧ H p = some (.dK kvs)
def DataL (H : Hp) : List Th → List V → Prop
  | [], xs => xs = []
  | t :: l, xs => ∃ x r, xs = x :: r ∧ Data H t x ∧ DataL H l r
end
mutual
theorem Data.same {H H' : Hp} (s : Same H H') : ∀ {t : Th} {v : V}, Data H t v → Data H' t v
  | .non, _, h => h
  | .bl _, _, h => h
  | .int _, _, h => h
  | .str _, _, h => h
  | .tup _, _, ⟨p, xs, e, hp, hl⟩ => ⟨p, xs, e, s _ _ hp, DataL.same s hl⟩
  | .lst _, _, ⟨p, xs, e, hp, hl⟩ => ⟨p, xs, e, s _ _ hp, DataL.same s hl⟩
  | .dct, _, ⟨p, kvs, e, hp⟩ => ⟨p, kvs, e, s _ _ hp⟩
theorem DataL.same {H H' : Hp} (s : Same H H') : ∀ {l : List Th} {xs : List V}, DataL H l xs → DataL H' l xs
  | [], _, h => h
  | _ :: _, _, ⟨x, r, e, h1, h2⟩ => ⟨x, r, e, Data.same s h1, DataL.same s h2⟩
end
theorem DataL.len {H : Hp} : ∀ {l : List Th} {xs : List V}, DataL H l xs → xs.length = l.length
  | [], _, h => by rw [show _ = [] from h]; rfl
  | _ :: _, _, ⟨x, r, e, _, h2⟩ => by rw [e, List.length_cons, DataL.len h2]; rfl
theorem DataL.at {H : Hp} : ∀ {l : List Th} {xs : List V} {i : Nat} {v : V}, DataL H l xs → xs[i]? = some v → ∃ t, l[i]? = some t ∧ Data H t v
  | [], _, i, v, h, e => by rw [show _ = [] from h] at e; simp at e
  | t :: _, _, 0, v, ⟨x, r, e1, h1, _⟩, e => by subst e1; cases e; exact ⟨t, rfl, h1⟩
  | _ :: _, _, i + 1, v, ⟨x, r, e1, _, h2⟩, e => by subst e1; exact DataL.at (i := i) h2 (by simpa using e)
theorem DataL.get {H : Hp} {l : List Th} {xs : List V} {i : Nat} {t : Th} (h : DataL H l xs) (e : l[i]? = some t) : ∃ v, xs[i]? = some v ∧ Data H t v := by
  have hi : i < xs.length := by
    rw [h.len]
    exact (List.getElem?_eq_some_iff.mp e).1
  obtain ⟨t', e', hd⟩ := h.at (List.getElem?_eq_getElem hi)
  rw [e] at e'
  cases e'
  exact ⟨_, List.getElem?_eq_getElem hi, hd⟩
theorem DataL.drop {H : Hp} : ∀ {l : List Th} {xs : List V} (n : Nat), DataL H l xs → DataL H (l.drop n) (xs.drop n)
  | _, _, 0, h => h
  | [], _, n + 1, h => by rw [show _ = [] from h]; exact rfl
  | _ :: _, _, n + 1, ⟨x, r, e, _, h2⟩ => by subst e; exact DataL.drop n h2
theorem DataL.take {H : Hp} : ∀ {l : List Th} {xs : List V} (n : Nat), DataL H l xs → DataL H (l.take n) (xs.take n)
  | _, _, 0, _ => rfl
  | [], _, n + 1, h => by rw [show _ = [] from h]; exact rfl
  | _ :: _, _, n + 1, ⟨x, r, e, h1, h2⟩ => by subst e; exact ⟨x, _, rfl, h1, DataL.take n h2⟩
theorem DataL.snoc {H : Hp} {t : Th} {v : V} (h : Data H t v) : ∀ {l : List Th} {xs : List V}, DataL H l xs → DataL H (l ++ [t]) (xs ++ [v])
  | [], _, e => by rw [show _ = [] from e]; exact ⟨v, [], rfl, h, rfl⟩
  | _ :: _, _, ⟨x, r, e, h1, h2⟩ => by subst e; exact ⟨x, _, rfl, h1, DataL.snoc h h2⟩
mutual
/-- without dicts -/
def Th.flat : Th → Bool
  | .dct => false
  | .tup l => Th.flatL l
  | .lst l => Th.flatL l
  | _ => true
def Th.flatL : List Th → Bool
  | [] => true
  | t :: l => t.flat && Th.flatL l
end
mutual
def Th.py : Th → PyData
  | .non => .none
  | .bl b => .bool b
  | .int i => .int i
  | .str s => .str (SX.S s)
  | .tup l => .tuple (Th.pyL l)
  | .lst l => .list (Th.pyL l)
  | .dct => .none
def Th.pyL : List Th → List PyData
  | [] => []
  | t :: l => t.py :: Th.pyL l
end
mutual
theorem Data.dp {K : PySem.W.Frag} {H : Hp} : ∀ {t : Th} {v : V}, t.flat = true → Data H t v → Dp K H v t.py
  | .non, _, _, h => by rw [show _ = V.non from h]; exact .non
  | .bl _, _, _, h => by rw [show _ = V.bl _ from h]; exact .bl _
  | .int _, _, _, h => by rw [show _ = V.int _ from h]; exact .int _
  | .str _, _, _, h => by rw [show _ = V.str _ from h]; exact .str _
  | .tup l, _, f, ⟨p, xs, e, hp, hl⟩ => by rw [e]; exact .tup (SqT.of hp) (DataL.dp f hl)
  | .lst l, _, f, ⟨p, xs, e, hp, hl⟩ => by rw [e]; exact .lst (SqL.of hp) (DataL.dp f hl)
theorem DataL.dp {K : PySem.W.Frag} {H : Hp} : ∀ {l : List Th} {xs : List V}, Th.flatL l = true → DataL H l xs → DpAll K H xs (Th.pyL l)
  | [], _, _, h => by rw [show _ = [] from h]; exact .nil
  | t :: l, _, f, ⟨x, r, e, h1, h2⟩ => by
    have f' : t.flat = true ∧ Th.flatL l = true := by
      have : (t.flat && Th.flatL l) = true := f
      exact Bool.and_eq_true_iff.mp this
    rw [e]
    exact .cons (Data.dp f'.1 h1) (DataL.dp f'.2 h2)
end
/-! ### what is a name, a recipe -/
def nmOk (s : List Nat) : Bool := decide (1 ≤ s.length) && decide (s.length ≤ 8) && s.all fun c => decide (97 ≤ c) && decide (c ≤ 122)
theorem nmOk_iff {s : List Nat} : nmOk s = true ↔ Nm s := by
  unfold nmOk Nm
  simp only [Bool.and_eq_true, decide_eq_true_eq, List.all_eq_true]
  exact ⟨fun ⟨⟨a, b⟩, c⟩ => ⟨a, b, c⟩, fun ⟨a, b, c⟩ => ⟨⟨a, b⟩, c⟩⟩
def Th.isNm : Th → Bool
  | .str s => nmOk s
  | _ => false
def Th.areNms : Th → Bool
  | .tup l => decide (1 ≤ l.length) && decide (l.length ≤ 9) && l.all Th.isNm
  | _ => false
def Th.isInt : Th → Bool
  | .int _ => true
  | _ => false
def w_number : List Nat := [110, 117, 109, 98, 101, 114]
def w_read : List Nat := [114, 101, 97, 100]
def w_pick : List Nat := [112, 105, 99, 107]
def w_choose : List Nat := [99, 104, 111, 111, 115, 101]
def w_plus : List Nat := [112, 108, 117, 115]
def w_minus : List Nat := [109, 105, 110, 117, 115]
def w_times : List Nat := [116, 105, 109, 101, 115]
def w_most : List Nat := [109, 111, 115, 116]
def twos : List (List Nat) := [w_plus, w_minus, w_times, w_most]
/-- the parts of a thing that has a recipe's form -/
def formParts (k : List Nat) (l : List Th) : Option (List Th) :=
  if k = w_number then (if l.length = 1 ∧ (l.headD .non).isInt = true then some [] else none)
  else if k = w_read then (if l.length = 1 ∧ (l.headD .non).isNm = true then some [] else none)
  else if k ∈ twos then (if l.length = 2 then some l else none)
  else if k = w_pick then (if l.length = 3 then some l else none)
  else if k = w_choose then (if l.length = 2 ∧ (l.getD 1 .non).areNms = true then some (l.take 1) else none)
  else none
def Th.parts : Th → Option (List Th)
  | .tup (.str k :: l) => formParts k l
  | _ => none
/-- all well formed, n deep at most -/
def Th.okay : Nat → Th → Bool
  | 0, _ => false
  | n + 1, t => match t.parts with
    | none => false
    | some ps => ps.all (Th.okay n)
def Th.count : Nat → Th → Nat
  | 0, _ => 1
  | n + 1, t => match t.parts with
    | none => 1
    | some ps => 1 + (ps.map (Th.count n)).sum
def Th.isRcp (t : Th) : Bool := t.okay 8 && decide (t.count 8 ≤ 100)
theorem count_pos : ∀ (n : Nat) (t : Th), 1 ≤ t.count n
  | 0, _ => Nat.le_refl _
  | n + 1, t => by
    unfold Th.count
    cases t.parts with
    | none => exact Nat.le_refl _
    | some ps => exact Nat.le_add_right _ _
theorem parts_tup {t : Th} {ps : List Th} (h : t.parts = some ps) : ∃ k l, t = .tup (.str k :: l) := by
  unfold Th.parts at h
  split at h
  · exact ⟨_, _, rfl⟩
  · cases h
/-- what the walk may meet: texts of ASCII signs, not too long; names without dicts -/
def tameS (s : List Nat) : Bool := decide (s.length ≤ 1000000) && s.all fun c => decide (c < 128)
def namesTame : List Th → Bool
  | [.str k, _, .tup m] => !decide (k = w_choose) || (Th.flatL m && SeqAt.shaped (.list (Th.pyL m)))
  | _ => true
mutual
def Th.tame : Th → Bool
  | .str s => tameS s
  | .tup l => Th.tameL l && decide (l.length ≤ 1000000) && namesTame l
  | _ => true
def Th.tameL : List Th → Bool
  | [] => true
  | t :: l => t.tame && Th.tameL l
end
theorem tameL_mem : ∀ {l : List Th}, Th.tameL l = true → ∀ t ∈ l, t.tame = true
  | [], _, t, h => by cases h
  | a :: l, f, t, h => by
    have f' : (a.tame && Th.tameL l) = true := f
    rw [Bool.and_eq_true] at f'
    rcases List.mem_cons.mp h with h | h
    · rw [h]; exact f'.1
    · exact tameL_mem f'.2 t h
theorem flatL_mem : ∀ {l : List Th}, Th.flatL l = true → ∀ t ∈ l, t.flat = true
  | [], _, t, h => by cases h
  | a :: l, f, t, h => by
    have f' : (a.flat && Th.flatL l) = true := f
    rw [Bool.and_eq_true] at f'
    rcases List.mem_cons.mp h with h | h
    · rw [h]; exact f'.1
    · exact flatL_mem f'.2 t h
theorem flatL_filter (p : Th → Bool) : ∀ {l : List Th}, Th.flatL l = true → Th.flatL (l.filter p) = true
  | [], _ => rfl
  | a :: l, f => by
    have f' : (a.flat && Th.flatL l) = true := f
    rw [Bool.and_eq_true] at f'
    rw [List.filter_cons]
    split
    · show (a.flat && Th.flatL (l.filter p)) = true
      rw [f'.1, flatL_filter p f'.2]; rfl
    · exact flatL_filter p f'.2
theorem shaped_parts {ds : List PyData} : SeqAt.shaped (.list ds) = true ↔ PyData.canLayAll0 ds = true ∧ PyData.depthAll ds + 1 ≤ 64 := by
  show (PyData.canLayAll0 ds && decide (PyData.depthAll ds + 1 ≤ 64)) = true ↔ _
  rw [Bool.and_eq_true, decide_eq_true_eq]
theorem py_filter (p : Th → Bool) : ∀ (l : List Th), PyData.canLayAll0 (Th.pyL l) = true → PyData.canLayAll0 (Th.pyL (l.filter p)) = true ∧ PyData.depthAll (Th.pyL (l.filter p)) ≤ PyData.depthAll (Th.pyL l)
  | [], _ => ⟨rfl, Nat.le_refl _⟩
  | a :: l, f => by
    have f' : (a.py.canLay0 && PyData.canLayAll0 (Th.pyL l)) = true := f
    rw [Bool.and_eq_true] at f'
    have ih := py_filter p l f'.2
    rw [List.filter_cons]
    split
    · refine ⟨?_, ?_⟩
      · show (a.py.canLay0 && PyData.canLayAll0 (Th.pyL (l.filter p))) = true
        rw [f'.1, ih.1]; rfl
      · show max a.py.depth (PyData.depthAll (Th.pyL (l.filter p))) ≤ max a.py.depth (PyData.depthAll (Th.pyL l))
        omega
    · refine ⟨ih.1, ?_⟩
      show _ ≤ max a.py.depth (PyData.depthAll (Th.pyL l))
      omega
theorem shaped_filter (p : Th → Bool) {l : List Th} (h : SeqAt.shaped (.list (Th.pyL l)) = true) : SeqAt.shaped (.list (Th.pyL (l.filter p))) = true := by
  rw [shaped_parts] at h ⊢
  have := py_filter p l h.1
  exact ⟨this.1, by omega⟩
def Th.tyName : Th → String
  | .non => "NoneType" | .bl _ => "bool" | .int _ => "int" | .str _ => "str" | .tup _ => "tuple" | .lst _ => "list" | .dct => "dict"
theorem Data.ty {K : PySem.W.Frag} {H : Hp} : ∀ {t : Th} {v : V}, Data H t v → TyX K H v (.type t.tyName)
  | .non, _, h => by rw [show _ = V.non from h]; exact .base .non
  | .bl _, _, h => by rw [show _ = V.bl _ from h]; exact .base (.bl _)
  | .int _, _, h => by rw [show _ = V.int _ from h]; exact .base (.int _)
  | .str _, _, h => by rw [show _ = V.str _ from h]; exact .base (.str _)
  | .tup l, _, ⟨p, xs, e, hp, hl⟩ => by rw [e]; exact .base (.tup hp)
  | .lst l, _, ⟨p, xs, e, hp, hl⟩ => by rw [e]; exact .base (.lst hp)
  | .dct, _, ⟨p, kvs, e, hp⟩ => by rw [e]; exact .base (.dK hp)
def Th.isTup : Th → Bool
  | .tup _ => true
  | _ => false
def Th.isStr : Th → Bool
  | .str _ => true
  | _ => false
def Th.isBl : Th → Bool
  | .bl _ => true
  | _ => false
def Th.isIntB : Th → Bool
  | .bl _ => true
  | .int _ => true
  | _ => false
theorem kit_tup {K : PySem.W.Frag} : ∀ t : Th, PySem.W.kitOne K (.type t.tyName) (.type "tuple") = some t.isTup
  | .non => kit_ty (show kitB "NoneType" "tuple" = some false by decide +kernel)
  | .bl _ => kit_ty (show kitB "bool" "tuple" = some false by decide +kernel)
  | .int _ => kit_ty (show kitB "int" "tuple" = some false by decide +kernel)
  | .str _ => kit_ty (show kitB "str" "tuple" = some false by decide +kernel)
  | .tup _ => kit_ty (show kitB "tuple" "tuple" = some true by decide +kernel)
  | .lst _ => kit_ty (show kitB "list" "tuple" = some false by decide +kernel)
  | .dct => kit_ty (show kitB "dict" "tuple" = some false by decide +kernel)
theorem kit_str {K : PySem.W.Frag} : ∀ t : Th, PySem.W.kitOne K (.type t.tyName) (.type "str") = some t.isStr
  | .non => kit_ty (show kitB "NoneType" "str" = some false by decide +kernel)
  | .bl _ => kit_ty (show kitB "bool" "str" = some false by decide +kernel)
  | .int _ => kit_ty (show kitB "int" "str" = some false by decide +kernel)
  | .str _ => kit_ty (show kitB "str" "str" = some true by decide +kernel)
  | .tup _ => kit_ty (show kitB "tuple" "str" = some false by decide +kernel)
  | .lst _ => kit_ty (show kitB "list" "str" = some false by decide +kernel)
  | .dct => kit_ty (show kitB "dict" "str" = some false by decide +kernel)
theorem kit_int {K : PySem.W.Frag} : ∀ t : Th, PySem.W.kitOne K (.type t.tyName) (.type "int") = some t.isIntB
  | .non => kit_ty (show kitB "NoneType" "int" = some false by decide +kernel)
  | .bl _ => kit_ty (show kitB "bool" "int" = some true by decide +kernel)
  | .int _ => kit_ty (show kitB "int" "int" = some true by decide +kernel)
  | .str _ => kit_ty (show kitB "str" "int" = some false by decide +kernel)
  | .tup _ => kit_ty (show kitB "tuple" "int" = some false by decide +kernel)
  | .lst _ => kit_ty (show kitB "list" "int" = some false by decide +kernel)
  | .dct => kit_ty (show kitB "dict" "int" = some false by decide +kernel)
theorem kit_bl {K : PySem.W.Frag} : ∀ t : Th, PySem.W.kitOne K (.type t.tyName) (.type "bool") = some t.isBl
  | .non => kit_ty (show kitB "NoneType" "bool" = some false by decide +kernel)
  | .bl _ => kit_ty (show kitB "bool" "bool" = some true by decide +kernel)
  | .int _ => kit_ty (show kitB "int" "bool" = some false by decide +kernel)
  | .str _ => kit_ty (show kitB "str" "bool" = some false by decide +kernel)
  | .tup _ => kit_ty (show kitB "tuple" "bool" = some false by decide +kernel)
  | .lst _ => kit_ty (show kitB "list" "bool" = some false by decide +kernel)
  | .dct => kit_ty (show kitB "dict" "bool" = some false by decide +kernel)
theorem isInt_is (t : Th) : (t.isIntB && !t.isBl) = t.isInt := by cases t <;> rfl
/-- a comprehension over a text -/
theorem lcS {z : Str} {g : TG} {tt : TT} {te : TE} {vs : List Nat} {σ : L2.St} {H1 : Hp} {D : Addr} {Qd : Hp → Prop} (Pv : Nat → Hp → Prop)
    (h0 : Pv 0 (upd H1 D (.lst [])))
    (hs : ∀ i c H, z.cps[i]? = some c → Pv i H → g (.str ⟨#[c]⟩) (wipe σ vs) H
      fun σ2 H2 => wipe σ2 vs = wipe σ vs ∧ tt σ2 H2
        fun b H3 => if b = true then te σ2 H3
          fun y H4 => ∃ acc, H4 D = some (.lst acc) ∧ acc.length < sizeLine ∧ Pv (i + 1) (upd H4 D (.lst (acc ++ [y])))
        else Pv (i + 1) H3)
    (hd : ∀ H, Pv z.cps.size H → Qd H) :
    ∃ W : Nat → Nat → Hp → Prop, (∃ m, W 0 m (upd H1 D (.lst []))) ∧
      ∀ i m H, W i m H → ((Its z).stop i H ∧ Qd H) ∨ ((Its z).go i H ∧
        ∃ Nx : Hp → Prop, (∀ H', Nx H' → ∃ m', m' < m ∧ W (i + 1) m' H') ∧
          ∀ x H', (Its z).yld i H x H' → g x (wipe σ vs) H'
            fun σ2 H2 => wipe σ2 vs = wipe σ vs ∧ tt σ2 H2
              fun b H3 => if b = true then te σ2 H3
                fun y H4 => ∃ acc, H4 D = some (.lst acc) ∧ acc.length < sizeLine ∧ Nx (upd H4 D (.lst (acc ++ [y])))
              else Nx H3) := by
  refine ⟨fun i m H => m = z.cps.size - i ∧ i ≤ z.cps.size ∧ Pv i H, ⟨z.cps.size, rfl, Nat.zero_le _, h0⟩, fun i m H w => ?_⟩
  obtain ⟨em, hi, p⟩ := w
  by_cases hlt : i < z.cps.size
  · refine Or.inr ⟨hlt, Pv (i + 1), fun H' p' => ⟨z.cps.size - (i + 1), by omega, rfl, hlt, p'⟩, fun x H' y => ?_⟩
    obtain ⟨e1, c, e2, e3⟩ := y
    rw [e1, e3]
    exact hs i c H e2 p
  · have e : i = z.cps.size := by omega
    rw [e] at p
    exact Or.inl ⟨by show z.cps.size ≤ i; omega, hd H p⟩
/-- a list of data against a new empty one -/
theorem eqv_nil (l : List Th) : PyData.eqv (.list (Th.pyL l)) (.list []) = l.isEmpty := by cases l <;> rfl
theorem kw {k : List Nat} {w : List Nat} {lit : Str} (h : lit = SX.S w) : V.str (SX.S k) = V.str lit ↔ k = w := by
  rw [h]
  exact ⟨fun e => SX.S_inj (by cases e; rfl), fun e => by rw [e]⟩
theorem q_number : ("number" : Str) = SX.S w_number := by decide +kernel
theorem q_read : ("read" : Str) = SX.S w_read := by decide +kernel
theorem q_pick : ("pick" : Str) = SX.S w_pick := by decide +kernel
theorem q_choose : ("choose" : Str) = SX.S w_choose := by decide +kernel
theorem q_plus : ("plus" : Str) = SX.S w_plus := by decide +kernel
theorem q_minus : ("minus" : Str) = SX.S w_minus := by decide +kernel
theorem q_times : ("times" : Str) = SX.S w_times := by decide +kernel
theorem q_most : ("most" : Str) = SX.S w_most := by decide +kernel
theorem in_twos (k : List Nat) : inV (.str (SX.S k)) [.str "plus", .str "minus", .str "times", .str "most"] = decide (k ∈ twos) := by
  rw [q_plus, q_minus, q_times, q_most]
  have e : ∀ w : List Nat, (SX.S w == SX.S k) = decide (k = w) := fun w => by
    rw [SX.S_beq_eq]
    exact decide_eq_decide.mpr ⟨Eq.symm, Eq.symm⟩
  show ((SX.S w_plus == SX.S k) || ((SX.S w_minus == SX.S k) || ((SX.S w_times == SX.S k) || ((SX.S w_most == SX.S k) || false)))) = _
  rw [e, e, e, e]
  unfold twos
  simp only [List.mem_cons, List.not_mem_nil, or_false]
  simp [Bool.decide_or]
theorem num_parts (k : List Nat) (h : k = w_number) (t1 : Th) : (t1.isInt = true → formParts k [t1] = some []) ∧ (t1.isInt = false → formParts k [t1] = none) := by
  unfold formParts
  rw [if_pos h]
  exact ⟨fun z => if_pos ⟨rfl, z⟩, fun z => if_neg fun y => by rw [show ([t1] : List Th).headD .non = t1 from rfl, z] at y; cases y.2⟩
theorem read_parts (k : List Nat) (h1 : k ≠ w_number) (h : k = w_read) (t1 : Th) : (t1.isNm = true → formParts k [t1] = some []) ∧ (t1.isNm = false → formParts k [t1] = none) := by
  unfold formParts
  rw [if_neg h1, if_pos h]
  exact ⟨fun z => if_pos ⟨rfl, z⟩, fun z => if_neg fun y => by rw [show ([t1] : List Th).headD .non = t1 from rfl, z] at y; cases y.2⟩
theorem one_none (k : List Nat) (h1 : k ≠ w_number) (h2 : k ≠ w_read) (t1 : Th) : formParts k [t1] = none := by
  unfold formParts
  rw [if_neg h1, if_neg h2]
  simp
theorem twos_parts (k : List Nat) (h : k ∈ twos) (t1 t2 : Th) : formParts k [t1, t2] = some [t1, t2] := by
  have n1 : k ≠ w_number := fun z => by rw [z] at h; revert h; decide
  have n2 : k ≠ w_read := fun z => by rw [z] at h; revert h; decide
  unfold formParts
  rw [if_neg n1, if_neg n2, if_pos h]
  rfl
theorem choose_parts (k : List Nat) (h : k = w_choose) (t1 t2 : Th) : (t2.areNms = true → formParts k [t1, t2] = some [t1]) ∧ (t2.areNms = false → formParts k [t1, t2] = none) := by
  have n1 : k ≠ w_number := by rw [h]; decide
  have n2 : k ≠ w_read := by rw [h]; decide
  have n3 : ¬ k ∈ twos := by rw [h]; decide
  have n4 : k ≠ w_pick := by rw [h]; decide
  unfold formParts
  rw [if_neg n1, if_neg n2, if_neg n3, if_neg n4, if_pos h]
  exact ⟨fun z => if_pos ⟨rfl, z⟩, fun z => if_neg fun y => by rw [show ([t1, t2] : List Th).getD 1 .non = t2 from rfl, z] at y; cases y.2⟩
theorem two_none (k : List Nat) (h1 : ¬ k ∈ twos) (h2 : k ≠ w_choose) (t1 t2 : Th) : formParts k [t1, t2] = none := by
  unfold formParts
  rw [if_neg h1, if_neg h2]
  simp
theorem pick_parts (k : List Nat) (h : k = w_pick) (t1 t2 t3 : Th) : formParts k [t1, t2, t3] = some [t1, t2, t3] := by
  have n1 : k ≠ w_number := by rw [h]; decide
  have n2 : k ≠ w_read := by rw [h]; decide
  have n3 : ¬ k ∈ twos := by rw [h]; decide
  unfold formParts
  rw [if_neg n1, if_neg n2, if_neg n3, if_pos h]
  rfl
theorem three_none (k : List Nat) (h1 : k ≠ w_pick) (t1 t2 t3 : Th) : formParts k [t1, t2, t3] = none := by
  unfold formParts
  rw [if_neg h1]
  simp
/-! ### recipes as things -/
def Kd.word : Kd → List Nat
  | .plus => w_plus | .minus => w_minus | .times => w_times | .most => w_most
theorem kd_word (k : Kd) : k.name = SX.S k.word := by cases k <;> decide +kernel
theorem kd_twos (k : Kd) : k.word ∈ twos := by cases k <;> decide
def nmsTh (ns : List (List Nat)) : List Th := ns.map Th.str
def Rcp.tail : Rcp → List Th × List Nat
  | .num n => ([.int n], w_number)
  | .read s => ([.str s], w_read)
  | _ => ([], [])
def Rcp.th : Rcp → Th
  | .num n => .tup [.str w_number, .int n]
  | .read s => .tup [.str w_read, .str s]
  | .two k a b => .tup [.str k.word, a.th, b.th]
  | .pick a b c => .tup [.str w_pick, a.th, b.th, c.th]
  | .choose a ns => .tup [.str w_choose, a.th, .tup (nmsTh ns)]
theorem nms_data (H : Hp) : ∀ ns : List (List Nat), DataL H (nmsTh ns) (txs ns)
  | [] => rfl
  | s :: ns => ⟨_, _, rfl, rfl, nms_data H ns⟩
theorem Rec.data {H : Hp} : ∀ {r : Rcp} {v : V}, Rec H r v → Data H r.th v
  | .num n, v, ⟨p, e, h⟩ => ⟨p, _, e, h, _, _, rfl, congrArg V.str q_number, _, _, rfl, rfl, rfl⟩
  | .read s, v, ⟨p, e, h⟩ => ⟨p, _, e, h, _, _, rfl, congrArg V.str q_read, _, _, rfl, rfl, rfl⟩
  | .two k a b, v, ⟨p, x, y, e, h, ra, rb⟩ => ⟨p, _, e, h, _, _, rfl, congrArg V.str (kd_word k), _, _, rfl, ra.data, _, _, rfl, rb.data, rfl⟩
  | .pick a b c, v, ⟨p, x, y, z, e, h, ra, rb, rc⟩ => ⟨p, _, e, h, _, _, rfl, congrArg V.str q_pick, _, _, rfl, ra.data, _, _, rfl, rb.data, _, _, rfl, rc.data, rfl⟩
  | .choose a ns, v, ⟨p, x, q, e, h, ra, hq⟩ => ⟨p, _, e, h, _, _, rfl, congrArg V.str q_choose, _, _, rfl, ra.data, _, _, rfl, ⟨q, _, rfl, hq, nms_data H ns⟩, rfl⟩
theorem Nm.tame {s : List Nat} (h : Nm s) : tameS s = true := by
  unfold tameS
  rw [Bool.and_eq_true, decide_eq_true_eq, List.all_eq_true]
  refine ⟨by have := h.2.1; omega, fun c hc => decide_eq_true ?_⟩
  have := h.2.2 c hc
  omega
theorem Nms.flat : ∀ {ns : List (List Nat)}, Th.flatL (nmsTh ns) = true
  | [] => rfl
  | s :: ns => by show (true && Th.flatL (nmsTh ns)) = true; rw [Nms.flat]; rfl
theorem nms_py : ∀ {ns : List (List Nat)}, (∀ s ∈ ns, Nm s) → PyData.canLayAll0 (Th.pyL (nmsTh ns)) = true ∧ PyData.depthAll (Th.pyL (nmsTh ns)) = 0
  | [], _ => ⟨rfl, rfl⟩
  | s :: ns, h => by
    have ih := nms_py (ns := ns) fun x hx => h x (List.mem_cons_of_mem _ hx)
    refine ⟨?_, ?_⟩
    · show ((SX.S s).cps.all (· < 0x110000) && PyData.canLayAll0 (Th.pyL (nmsTh ns))) = true
      rw [ih.1, Bool.and_true]
      have hs := (h s (List.mem_cons_self ..)).2.2
      rw [← Array.all_toList, List.all_eq_true]
      intro c hc
      have := hs c hc
      exact decide_eq_true (by omega)
    · show max 0 (PyData.depthAll (Th.pyL (nmsTh ns))) = 0
      rw [ih.2]
      rfl
theorem Nms.shaped {ns : List (List Nat)} (h : ∀ s ∈ ns, Nm s) : SeqAt.shaped (.list (Th.pyL (nmsTh ns))) = true := by
  rw [shaped_parts, (nms_py h).1, (nms_py h).2]
  exact ⟨rfl, by decide⟩
theorem nms_tame : ∀ {ns : List (List Nat)}, (∀ s ∈ ns, Nm s) → Th.tameL (nmsTh ns) = true
  | [], _ => rfl
  | s :: ns, h => by
    show (tameS s && Th.tameL (nmsTh ns)) = true
    rw [(h s (List.mem_cons_self ..)).tame, nms_tame fun x hx => h x (List.mem_cons_of_mem _ hx)]
    rfl
theorem tame_tup {l : List Th} (h : Th.tameL l = true) (hl : l.length ≤ 1000000) (hn : namesTame l = true) : (Th.tup l).tame = true := by
  show (Th.tameL l && decide (l.length ≤ 1000000) && namesTame l) = true
  rw [h, hn, decide_eq_true hl]
  rfl
theorem namesTame3 {k : List Nat} (hk : k ≠ w_choose) (a b : Th) : namesTame [.str k, a, b] = true := by
  cases b with
  | tup m => show (!decide (k = w_choose) || _) = true; rw [decide_eq_false hk]; rfl
  | _ => rfl
theorem namesTame4 (a b c d : Th) (r : List Th) : namesTame (a :: b :: c :: d :: r) = true := by cases a <;> cases c <;> rfl
theorem namesTame2 (a b : Th) : namesTame [a, b] = true := by cases a <;> rfl
theorem namesTameC {k : List Nat} {m : List Th} (a : Th) (h1 : Th.flatL m = true) (h2 : SeqAt.shaped (.list (Th.pyL m)) = true) : namesTame [.str k, a, .tup m] = true := by
  show (!decide (k = w_choose) || (Th.flatL m && SeqAt.shaped (.list (Th.pyL m)))) = true
  rw [h1, h2]; simp
theorem kd_nochoose (k : Kd) : k.word ≠ w_choose := by cases k <;> decide
theorem nms_names_tame {ns : List (List Nat)} (h : Nms ns) : (Th.tup (nmsTh ns)).tame = true := by
  refine tame_tup (nms_tame h.2.2) ?_ ?_
  · unfold nmsTh; rw [List.length_map]; have := h.2.1; omega
  · match ns with
    | [] => rfl
    | [a] => rfl
    | [a, b] => rfl
    | [a, b, c] => rfl
    | a :: b :: c :: d :: r => rfl
theorem Rcp.tame : ∀ {r : Rcp}, r.Good → r.th.tame = true
  | .num n, _ => tame_tup (by show (tameS w_number && (true && true)) = true; decide) (Nat.le_of_ble_eq_true rfl) rfl
  | .read s, h => tame_tup (by show (tameS w_read && (tameS s && true)) = true; rw [Nm.tame h]; decide) (Nat.le_of_ble_eq_true rfl) rfl
  | .two k a b, h => by
    refine tame_tup ?_ (Nat.le_of_ble_eq_true rfl) (namesTame3 (kd_nochoose k) _ _)
    show (tameS k.word && (a.th.tame && (b.th.tame && true))) = true
    rw [Rcp.tame h.1, Rcp.tame h.2]
    cases k <;> decide
  | .pick a b c, h => by
    refine tame_tup ?_ (Nat.le_of_ble_eq_true rfl) (namesTame4 _ _ _ _ _)
    show (tameS w_pick && (a.th.tame && (b.th.tame && (c.th.tame && true)))) = true
    rw [Rcp.tame h.1, Rcp.tame h.2.1, Rcp.tame h.2.2]
    decide
  | .choose a ns, h => by
    refine tame_tup ?_ (Nat.le_of_ble_eq_true rfl) (namesTameC _ Nms.flat (Nms.shaped h.2.2.2))
    show (tameS w_choose && (a.th.tame && ((Th.tup (nmsTh ns)).tame && true))) = true
    rw [Rcp.tame h.1, nms_names_tame h.2]
    decide
theorem nms_are {ns : List (List Nat)} (h : Nms ns) : (Th.tup (nmsTh ns)).areNms = true := by
  show (decide (1 ≤ (nmsTh ns).length) && decide ((nmsTh ns).length ≤ 9) && (nmsTh ns).all Th.isNm) = true
  have hl : (nmsTh ns).length = ns.length := List.length_map _
  rw [hl, decide_eq_true h.1, decide_eq_true h.2.1]
  show (nmsTh ns).all Th.isNm = true
  rw [List.all_eq_true]
  intro t ht
  obtain ⟨s, hs, rfl⟩ := List.mem_map.mp ht
  exact nmOk_iff.mpr (h.2.2 s hs)
def Rcp.subs : Rcp → List Rcp
  | .num _ => []
  | .read _ => []
  | .two _ a b => [a, b]
  | .pick a b c => [a, b, c]
  | .choose a _ => [a]
theorem Rcp.parts_th : ∀ {r : Rcp}, r.Good → r.th.parts = some (r.subs.map Rcp.th)
  | .num n, _ => (num_parts _ rfl _).1 rfl
  | .read s, h => (read_parts _ (by decide) rfl _).1 (nmOk_iff.mpr h)
  | .two k a b, _ => twos_parts _ (kd_twos k) _ _
  | .pick a b c, _ => pick_parts _ rfl _ _ _
  | .choose a ns, h => (choose_parts _ rfl _ _).1 (nms_are h.2)
theorem Rcp.subs_good : ∀ {r : Rcp}, r.Good → ∀ x ∈ r.subs, x.Good ∧ x.dep + 1 ≤ r.dep
  | .num n, _, x, hx => by cases hx
  | .read s, h, x, hx => by cases hx
  | .two k a b, h, x, hx => by
    have e : (Rcp.two k a b).dep = max a.dep b.dep + 1 := rfl
    simp only [Rcp.subs, List.mem_cons, List.not_mem_nil, or_false] at hx
    rcases hx with rfl | rfl
    · exact ⟨h.1, by omega⟩
    · exact ⟨h.2, by omega⟩
  | .pick a b c, h, x, hx => by
    have e : (Rcp.pick a b c).dep = max a.dep (max b.dep c.dep) + 1 := rfl
    simp only [Rcp.subs, List.mem_cons, List.not_mem_nil, or_false] at hx
    rcases hx with rfl | rfl | rfl
    · exact ⟨h.1, by omega⟩
    · exact ⟨h.2.1, by omega⟩
    · exact ⟨h.2.2, by omega⟩
  | .choose a ns, h, x, hx => by
    have e : (Rcp.choose a ns).dep = a.dep + 1 := rfl
    rw [List.mem_singleton.mp hx]
    exact ⟨h.1, by omega⟩
theorem Rcp.siz_subs : ∀ r : Rcp, r.siz = 1 + (r.subs.map Rcp.siz).sum
  | .num _ => rfl
  | .read _ => rfl
  | .two _ a b => by show a.siz + b.siz + 1 = 1 + (a.siz + (b.siz + 0)); omega
  | .pick a b c => by show a.siz + b.siz + c.siz + 1 = 1 + (a.siz + (b.siz + (c.siz + 0))); omega
  | .choose a _ => by show a.siz + 1 = 1 + (a.siz + 0); omega
theorem Rcp.okay : ∀ (n : Nat) {r : Rcp}, r.Good → r.dep ≤ n → r.th.okay n = true ∧ r.th.count n = r.siz
  | 0, r, _, h => by have := dep_pos r; omega
  | n + 1, r, hg, h => by
    have hp := r.parts_th hg
    have hs := r.subs_good hg
    refine ⟨?_, ?_⟩
    · show (match r.th.parts with | none => false | some ps => ps.all (Th.okay n)) = true
      rw [hp]
      show (r.subs.map Rcp.th).all (Th.okay n) = true
      rw [List.all_map, List.all_eq_true]
      intro x hx
      exact (Rcp.okay n (hs x hx).1 (by have := (hs x hx).2; omega)).1
    · show (match r.th.parts with | none => 1 | some ps => 1 + (ps.map (Th.count n)).sum) = r.siz
      rw [hp, Rcp.siz_subs r]
      show 1 + ((r.subs.map Rcp.th).map (Th.count n)).sum = _
      rw [List.map_map]
      congr 2
      exact List.map_congr_left fun x hx => (Rcp.okay n (hs x hx).1 (by have := (hs x hx).2; omega)).2
theorem Rcp.isRcp {r : Rcp} (hg : r.Good) (hd : r.dep ≤ 8) (hs : r.siz ≤ 100) : r.th.isRcp = true := by
  unfold Th.isRcp
  rw [(Rcp.okay 8 hg hd).1, (Rcp.okay 8 hg hd).2, decide_eq_true hs]
  rfl
/-! ### texts of recipes -/
def Kd.sign : Kd → Nat
  | .plus => 43 | .minus => 45 | .times => 42 | .most => 94
def Kd.signS : Kd → Str
  | .plus => " + " | .minus => " - " | .times => " * " | .most => " ^ "
def intL (n : Int) : List Nat := (Str.ofString (toString n)).cps.toList
theorem intL_S (n : Int) : Str.ofString (toString n) = SX.S (intL n) := (SX.S_tl _).symm
def Rcp.txt : Rcp → List Nat
  | .num n => intL n
  | .read s => s
  | .two k a b => 40 :: (a.txt ++ (32 :: k.sign :: 32 :: (b.txt ++ [41])))
  | .pick a b c => 91 :: (a.txt ++ (32 :: 63 :: 32 :: (b.txt ++ (32 :: 58 :: 32 :: (c.txt ++ [93])))))
  | .choose a ns => a.txt ++ (123 :: (TL.joinL [44] ns ++ [125]))
theorem intL_len {n : Int} (h : n.natAbs < 10 ^ 40) : (intL n).length ≤ 41 := by
  have z : ∀ m : Int, 0 ≤ m → m.natAbs < 10 ^ 40 → (Str.ofString (toString m)).length ≤ 40 := fun m m0 hm => by
    refine PyProof.Rows.toString_length_le m0 (by decide) ?_
    have e : (m.natAbs : Int) = m := Int.natAbs_of_nonneg m0
    rw [← e]
    exact Int.ofNat_lt.mpr hm
  have e : (intL n).length = (Str.ofString (toString n)).length := by
    rw [intL_S n, SX.S_len]
  rw [e]
  by_cases h0 : 0 ≤ n
  · exact Nat.le_succ_of_le (z n h0 h)
  · rw [PyProof.Rows.len_text_neg (by omega)]
    have := z (0 - n) (by omega) (by rw [show (0 - n).natAbs = n.natAbs by omega]; exact h)
    omega
theorem joinL_len : ∀ {ns : List (List Nat)} (m : Nat), (∀ s ∈ ns, s.length ≤ m) → (TL.joinL [44] ns).length ≤ (m + 1) * ns.length
  | [], _, _ => Nat.zero_le _
  | [p], m, h => by
    have := h p (by simp)
    show p.length ≤ _
    simp; omega
  | p :: q :: r, m, h => by
    have h1 := h p (by simp)
    have h2 := joinL_len (ns := q :: r) m fun s hs => h s (List.mem_cons_of_mem _ hs)
    have e : (TL.joinL [44] (p :: q :: r)).length = p.length + (1 + (TL.joinL [44] (q :: r)).length) := by
      show (p ++ ([44] ++ TL.joinL [44] (q :: r))).length = _
      rw [List.length_append, List.length_append]
      rfl
    have e2 : (m + 1) * (p :: q :: r).length = (m + 1) * (q :: r).length + (m + 1) := Nat.mul_succ _ _
    rw [e, e2]
    omega
theorem names_len {ns : List (List Nat)} (h : Nms ns) : (TL.joinL [44] ns).length ≤ 81 := by
  have := joinL_len 8 fun s hs => (h.2.2 s hs).2.1
  have := h.2.1
  omega
theorem names_sum : ∀ {ns : List (List Nat)}, (∀ s ∈ ns, Nm s) → ((ns.map SX.S).map (·.length)).sum ≤ 8 * ns.length
  | [], _ => Nat.zero_le _
  | p :: r, h => by
    have h1 := (h p (by simp)).2.1
    have h2 := names_sum (ns := r) fun s hs => h s (List.mem_cons_of_mem _ hs)
    rw [List.map_cons, List.map_cons, List.sum_cons, SX.S_len, List.length_cons]
    omega
theorem txt_len : ∀ {r : Rcp}, r.Good → r.txt.length ≤ 100 * r.siz
  | .num n, h => by
    have := intL_len h
    show (intL n).length ≤ 100
    omega
  | .read s, h => by
    have := h.2.1
    show s.length ≤ 100
    omega
  | .two k a b, h => by
    have h1 := txt_len h.1
    have h2 := txt_len h.2
    simp only [Rcp.txt, Rcp.siz, List.length_cons, List.length_append, List.length_nil]
    omega
  | .pick a b c, h => by
    have h1 := txt_len h.1
    have h2 := txt_len h.2.1
    have h3 := txt_len h.2.2
    simp only [Rcp.txt, Rcp.siz, List.length_cons, List.length_append, List.length_nil]
    omega
  | .choose a ns, h => by
    have h1 := txt_len h.1
    have h2 := names_len h.2
    simp only [Rcp.txt, Rcp.siz, List.length_cons, List.length_append, List.length_nil]
    omega
theorem q_open : ("(" : Str) = SX.S [40] := by decide +kernel
theorem q_close : (")" : Str) = SX.S [41] := by decide +kernel
theorem q_lb : ("[" : Str) = SX.S [91] := by decide +kernel
theorem q_rb : ("]" : Str) = SX.S [93] := by decide +kernel
theorem q_lc : ("{" : Str) = SX.S [123] := by decide +kernel
theorem q_rc : ("}" : Str) = SX.S [125] := by decide +kernel
theorem q_ask : (" ? " : Str) = SX.S [32, 63, 32] := by decide +kernel
theorem q_col : (" : " : Str) = SX.S [32, 58, 32] := by decide +kernel
theorem q_blank : (" " : Str) = SX.S [32] := by decide +kernel
theorem q_comma : ("," : Str) = SX.S [44] := by decide +kernel
theorem q_sign (k : Kd) : k.signS = SX.S [32, k.sign, 32] := by cases k <;> decide +kernel
theorem kn_num (k : Kd) : ¬ V.str k.name = V.str "number" := by cases k <;> decide +kernel
theorem kn_read (k : Kd) : ¬ V.str k.name = V.str "read" := by cases k <;> decide +kernel
theorem kn_pick (k : Kd) : ¬ V.str k.name = V.str "pick" := by cases k <;> decide +kernel
theorem kn_choose (k : Kd) : ¬ V.str k.name = V.str "choose" := by cases k <;> decide +kernel
theorem log_small {n : Int} (h : n.natAbs < 10 ^ 40) : n.natAbs.log2 < 1920 := by
  by_cases z : n.natAbs = 0
  · rw [z]; decide
  · exact (Nat.log2_lt z).mpr (Nat.lt_trans h (by decide +kernel))
theorem Rcp.flat : ∀ r : Rcp, r.th.flat = true
  | .num _ => rfl
  | .read _ => rfl
  | .two _ a b => by
    show (true && (a.th.flat && (b.th.flat && true))) = true
    rw [Rcp.flat a, Rcp.flat b]; rfl
  | .pick a b c => by
    show (true && (a.th.flat && (b.th.flat && (c.th.flat && true)))) = true
    rw [Rcp.flat a, Rcp.flat b, Rcp.flat c]; rfl
  | .choose a ns => by
    show (true && (a.th.flat && (Th.flatL (nmsTh ns) && true))) = true
    rw [Rcp.flat a, Nms.flat]; rfl
theorem nm_lay {s : List Nat} (h : Nm s) : (PyData.str (SX.S s)).canLay0 = true := by
  have := (nms_py (ns := [s]) fun x hx => by rw [List.mem_singleton.mp hx]; exact h).1
  have z : ((PyData.str (SX.S s)).canLay0 && true) = true := this
  rw [Bool.and_true] at z
  exact z
theorem str_lay {s : List Nat} (h : ∀ c ∈ s, c < 128) : (PyData.str (SX.S s)).canLay0 = true := by
  show (SX.S s).cps.all (· < 0x110000) = true
  rw [← Array.all_toList, List.all_eq_true]
  intro c hc
  have := h c hc
  exact decide_eq_true (by omega)
theorem Rcp.lays : ∀ {r : Rcp}, r.Good → r.th.py.canLay0 = true ∧ r.th.py.depth ≤ r.dep
  | .num n, _ => ⟨by show ((PyData.str (SX.S w_number)).canLay0 && ((PyData.int n).canLay0 && true)) = true; rw [str_lay (by decide)]; rfl, by show max 0 (max 0 0) + 1 ≤ 1; decide⟩
  | .read s, h => ⟨by show ((PyData.str (SX.S w_read)).canLay0 && ((PyData.str (SX.S s)).canLay0 && true)) = true; rw [nm_lay h, str_lay (s := w_read) (by decide)]; rfl, by show max 0 (max 0 0) + 1 ≤ 1; decide⟩
  | .two k a b, h => by
    have h1 := Rcp.lays h.1
    have h2 := Rcp.lays h.2
    refine ⟨?_, ?_⟩
    · show ((PyData.str (SX.S k.word)).canLay0 && (a.th.py.canLay0 && (b.th.py.canLay0 && true))) = true
      rw [h1.1, h2.1, str_lay (s := k.word) (by cases k <;> decide)]
      rfl
    · show max 0 (max a.th.py.depth (max b.th.py.depth 0)) + 1 ≤ max a.dep b.dep + 1
      omega
  | .pick a b c, h => by
    have h1 := Rcp.lays h.1
    have h2 := Rcp.lays h.2.1
    have h3 := Rcp.lays h.2.2
    refine ⟨?_, ?_⟩
    · show ((PyData.str (SX.S w_pick)).canLay0 && (a.th.py.canLay0 && (b.th.py.canLay0 && (c.th.py.canLay0 && true)))) = true
      rw [h1.1, h2.1, h3.1, str_lay (s := w_pick) (by decide)]
      rfl
    · show max 0 (max a.th.py.depth (max b.th.py.depth (max c.th.py.depth 0))) + 1 ≤ max a.dep (max b.dep c.dep) + 1
      omega
  | .choose a ns, h => by
    have h1 := Rcp.lays h.1
    have h2 := nms_py h.2.2.2
    have h3 := dep_pos a
    refine ⟨?_, ?_⟩
    · show ((PyData.str (SX.S w_choose)).canLay0 && (a.th.py.canLay0 && (PyData.canLayAll0 (Th.pyL (nmsTh ns)) && true))) = true
      rw [h1.1, h2.1, str_lay (s := w_choose) (by decide)]
      rfl
    · show max 0 (max a.th.py.depth (max (PyData.depthAll (Th.pyL (nmsTh ns)) + 1) 0)) + 1 ≤ a.dep + 1
      rw [h2.2]
      omega
theorem Rcp.shaped {r : Rcp} (hg : r.Good) (hd : r.dep ≤ 60) : SeqAt.shaped r.th.py = true := by
  have h := Rcp.lays hg
  show (r.th.py.canLay0 && decide (r.th.py.depth ≤ 64)) = true
  rw [h.1, decide_eq_true (by omega)]
  rfl
theorem Rcp.eqv {r : Rcp} (hg : r.Good) : PyData.eqv r.th.py r.th.py = true := SeqAt.eqv_refl _ (Rcp.lays hg).1
/-! ### a text times a number of two or more -/
def rRepS : R2 := fun x y H Q => ∃ (z : List Nat) (k : Nat), x = .str (SX.S z) ∧ y = .int (k : Int) ∧ 2 ≤ k ∧ k ≤ 1000 ∧ 1 ≤ z.length ∧ z.length ≤ 1000 ∧ Q (.str (SX.S (List.replicate k z).flatten)) H
theorem rep_flat (z : List Nat) : ∀ (k : Nat) (acc : Array Nat), (List.replicate k z.toArray).foldl (· ++ ·) acc = (acc.toList ++ (List.replicate k z).flatten).toArray
  | 0, acc => by simp
  | k + 1, acc => by
    rw [List.replicate_succ, List.foldl_cons, rep_flat z k, List.replicate_succ, List.flatten_cons]
    simp
section
variable {X : Cx}
theorem op_repS : OpR X (binaryOp .Mult) rRepS := by
  intro pins s σ H x y v u Q I rx ry h
  obtain ⟨z, k, rfl, rfl, h2, hk, h1, hz, q⟩ := h
  obtain ⟨t, rfl⟩ := rx
  obtain ⟨t', rfl⟩ := ry
  have hlen := SX.S_len z
  have hn1 : ¬ ((k : Nat) : Int) < 1 := by omega
  have hn2 : (((k : Nat) : Int) == 1 || (SX.S z).length == 0) = false := by
    rw [hlen, Bool.or_eq_false_iff]
    exact ⟨beq_eq_false_iff_ne.mpr (by omega), beq_eq_false_iff_ne.mpr (by omega)⟩
  have hmul : z.length * k ≤ 1000 * 1000 := Nat.mul_le_mul hz hk
  have hsz : 1000 * 1000 ≤ sizeLine := le_line (Nat.le_of_ble_eq_true rfl)
  refine PySem.P.mul_str ?_ (fun _ _ => ?_) (fun _ _ => ?_) ?_
  · rw [decide_eq_false (by omega), decide_eq_false (by omega)]
    rfl
  · rw [hlen]
    have : (1000 : Int) ≤ (2 ^ 63 - 1) / (k : Int) := (Int.le_ediv_iff_mul_le (by omega)).mpr (by omega)
    omega
  · rw [hlen]
    refine decide_eq_false ?_
    show ¬ _
    rw [Int.toNat_natCast]
    omega
  · rw [if_neg hn1, hn2, if_neg Bool.false_ne_true]
    rw [Int.toNat_natCast, show (SX.S z).cps = z.toArray from rfl, rep_flat]
    refine ⟨?_, ⟨.str _, H, I.tok _, ⟨_, rfl⟩, q⟩⟩
    have e : (List.replicate k z).flatten.length ≤ sizeLine := by
      rw [List.length_flatten, List.map_replicate, List.sum_replicate_nat, Nat.mul_comm]
      omega
    have e2 : (SX.S (List.replicate k z).flatten).length ≤ sizeLine := by rw [SX.S_len]; exact e
    exact e2
end
/-! ### a text times a number, nought and one too -/
def rRepA : R2 := fun x y H Q => ∃ (z : List Nat) (k : Nat), x = .str (SX.S z) ∧ y = .int (k : Int) ∧ k ≤ 1000 ∧ 1 ≤ z.length ∧ z.length ≤ 1000 ∧ Q (.str (SX.S (List.replicate k z).flatten)) H
section
variable {X : Cx}
theorem op_repA : OpR X (binaryOp .Mult) rRepA := by
  intro pins s σ H x y v u Q I rx ry h
  obtain ⟨z, k, rfl, rfl, hk, h1, hz, q⟩ := h
  by_cases h2 : 2 ≤ k
  · exact op_repS pins s σ H _ _ v u Q I rx ry ⟨z, k, rfl, rfl, h2, hk, h1, hz, q⟩
  obtain ⟨t, rfl⟩ := rx
  obtain ⟨t', rfl⟩ := ry
  have hlen := SX.S_len z
  have hk2 : k = 0 ∨ k = 1 := by omega
  rcases hk2 with rfl | rfl
  · exact PySem.P.mul_str_none (by decide) (by decide) ⟨.str _, H, I.tok _, ⟨_, rfl⟩, q⟩
  · refine PySem.P.mul_str (by decide) (fun _ e => ?_) (fun _ e => ?_) ?_
    · exact absurd e (by simp)
    · exact absurd e (by simp)
    · rw [if_neg (by decide)]
      have e : ((((1 : Nat) : Int) == 1) || (SX.S z).length == 0) = true := rfl
      rw [if_pos e]
      refine ⟨.str (SX.S z), H, I, ⟨_, rfl⟩, ?_⟩
      have e2 : (List.replicate 1 z).flatten = z := by simp
      rw [e2] at q
      exact q
end
section
variable {X : Cx} {CX : CXT} {k : Nat} {ps : List Str} {sp : Sp} {E : L2.St → XK} {x : Str} {p pos : Pos}
theorem pe_calS {e : Expr} {es : List Expr} {t : TA} (c : Cal X.prog X.w X.K X.mg X.base CX k x ps sp) (hr : Room k X.A) (hx : ∀ σ, PassesAt CX X σ (E σ)) (ha : PA X (e :: es) t) (hg : Gl X x := by rfl)
    (hdb : (x == ("__debug__" : Str)) = false := by decide) (he : starEach (e :: es) X.env = (false, eval e X.env) :: starEach es X.env := by rfl) (hpl : (backTo pos (starEach es X.env)).any (·.1) = false := by rfl) :
    PE X (.Call (.Name x p) (e :: es) [] pos) (tCallS sp E t) := by
  obtain ⟨f, fd, F, m, kp, b⟩ := c
  exact pe_callS F hr hg m kp b hx ha hdb he hpl
end
/-! ### error classes: what a class answers when asked for another -/
theorem kit_self {K : PySem.W.Frag} {t : Value} : PySem.W.kitOne K t t = some true := by
  unfold PySem.W.kitOne
  rw [if_pos (beq_self_eq_true t)]
theorem kit_built {K : PySem.W.Frag} {C : Addr} {n : String} (hm : PySem.W.kitMeta n = true) (hs : PySem.W.subIn K (.ref C) (.type n) = some true) : PySem.W.kitOne K (.ref C) (.type n) = some true := by
  unfold PySem.W.kitOne
  split
  · rfl
  · show (if PySem.W.kitMeta n = true then PySem.W.subIn K (.ref C) (.type n) else none) = some true
    rw [if_pos hm]
    exact hs
theorem kit_own {K : PySem.W.Frag} {C D : Addr} {b : Bool} (hne : (C == D) = false) (hd : PySem.W.hasDictIn K D = true) (ht : PySem.W.typeIn K (.ref D) = some (.type "type")) (hs : PySem.W.subIn K (.ref C) (.ref D) = some b) : PySem.W.kitOne K (.ref C) (.ref D) = some b := by
  obtain ⟨cd, hc, _⟩ := PySem.W.any_some hd
  have e2 : ((PySem.W.clsIn K D).isSome && PySem.W.typeIn K (.ref D) == some (.type "type")) = true := by rw [hc, ht] <;> rfl
  have hz : ¬ ((Value.ref C == Value.ref D) = true) := fun q => by
    have e : C = D := Value.ref.inj (beq_iff_eq.mp q)
    rw [e, beq_self_eq_true] at hne
    cases hne
  unfold PySem.W.kitOne
  rw [if_neg hz]
  show (if ((PySem.W.clsIn K D).isSome && PySem.W.typeIn K (.ref D) == some (.type "type")) = true then PySem.W.subIn K (.ref C) (.ref D) else none) = some b
  rw [if_pos e2]
  exact hs
theorem kit_cons {K : PySem.W.Frag} {t c : Value} {r : List Value} {b : Bool} (h : PySem.W.kitOne K t c = some false) (g : PySem.W.kitAny K t r = some b) : PySem.W.kitAny K t (c :: r) = some b := by
  show (match PySem.W.kitOne K t c with | some true => some true | some false => PySem.W.kitAny K t r | none => none) = some b
  rw [h]
  exact g
end Mad
/-! ### try .. except X as n, where the caught error is tracked behind the suite -/
namespace L2
open PySem PySem.Spec PyProof.Rows
def EzO (cls : Value) (d : Option Addr) (a : Addr) : HO := .ext fun h =>
  ∃ (oe : Obj) (vs : Array Value), h.get? a = some oe ∧ Zc cls d oe ∧
    oe.data = .fields vs
theorem ezO_ok {P : Program} {w : World} {H : Hp} {h : Heap} {a : Addr} {cls : Value} {d : Option Addr} {oe : Obj} {vs : Array Value}
    (e : h.get? a = some oe) (z : Zc cls d oe) (k : oe.data = .fields vs) : ObjOk P w H h a (EzO cls d a) :=
  ⟨⟨oe, vs, e, z, k⟩, ⟨oe, e⟩, fun _ _ y r => by
    obtain ⟨o, v, q, t⟩ := y
    exact ⟨o, v, r o q, t⟩⟩
section
variable {X : Cx} {pins : List (Addr × Obj)} {σ : St} {H : Hp} {B : Heap} {sI s' : Shared}
theorem Inv.landedT {a : Addr} {o : HO} (I : Inv X pins σ H sI) (nb : ∀ b u, sI.heap.get? b = some u → b ∉ frs X.stack → B.get? b = some u)
    (st : B.StaysIn s'.heap) (up : sI.heap.UpToSlots s'.heap) (os : s'.os = sI.os) (ag : AllBare s'.gens)
    (n0 : sI.heap.get? a = none) (na : H a = none) (new : ObjOk X.prog X.w (upd H a o) s'.heap a o) : Inv X pins σ (upd H a o) s' := by
  have nf : ∀ b ∈ frs X.stack, ∀ u, sI.heap.get? b = some u → ∃ sl, s'.heap.get? b = some { u with slots := sl } := by
    intro b hb u e
    obtain ⟨_, u', e', hd⟩ := I.stack.mem hb
    rw [e] at e'
    cases e'
    exact up b u e hd
  have U : Un (frs X.stack) [] H (upd H a o) sI.heap s'.heap := by
    refine ⟨fun b u e _ hb _ => st b u (nb b u e hb), fun b u e _ hb _ => nf b hb u e, fun b u e n _ => ?_, fun b u e _ => ?_, fun b xs q => ?_, fun b u xs q => ?_, fun b ps q => ?_⟩
    · have z : b ≠ a := fun z => by rw [z, n0] at e; cases e
      rw [upd_ne z]
      exact n
    · by_cases hb : b ∈ frs X.stack
      · obtain ⟨sl, q⟩ := nf b hb u e
        exact ⟨_, q⟩
      · exact ⟨u, st b u (nb b u e hb)⟩
    · rw [upd_ne (ne_of_none q na)]
      exact q
    · rw [upd_ne (ne_of_none q na)]
      exact q
    · exact ⟨#[], by rw [upd_ne (ne_of_none q na), q]; simp⟩
  have J := I.call (ch := []) (h' := s'.heap) (g' := s'.gens) (t' := s'.toks) (d' := s'.drawn) U
    (HOk.laidN ((I.inGround nb).kept st) (fun _ _ h => h) na new) ag (fun _ z => nomatch z)
  obtain ⟨a1, a2, a3, a4, a5⟩ := s'
  have e5 : a5 = sI.os := os
  subst e5
  exact J
theorem Inv.suiteN {s : Shared} (I : Inv X pins σ H s) (a : Addr) : Inv (X.suite a (X.pn ++ pins)) [] σ H s :=
  ⟨I.ok.suite _ _, I.os, I.bare, I.base, I.loc,
    I.cell, I.free, I.freeC,
    fun p hp => I.pin p (by rw [List.append_nil] at hp; exact hp), I.hok, I.len⟩
theorem Inv.unsuiteN {s : Shared} {a : Addr} (I : Inv (X.suite a (X.pn ++ pins)) [] σ H s) (ok : X.Ok) : Inv X pins σ H s :=
  ⟨ok, I.os, I.bare, I.base, I.loc,
    I.cell, I.free, I.freeC,
    fun p hp => I.pin p (List.mem_append_left _ hp), I.hok, I.len⟩
end
/-- what the clause wishes of an error of the body: slot i is n's; the error is tracked from here on -/
def wKeep (K : PySem.W.Frag) (c : Value) (i : Nat) (ts : Addr → Value → Option Addr → TS) (Wout : WX) (D : Ends) : WX := fun cls d σ H =>
  ∃ b, PySem.W.exmOne K cls c = some b ∧
    (b = true → ∀ a, H a = none → ts a cls d
      { nx := fun σ2 H2 => D.nx (σ2.set i none) H2, rt := D.rt, bk := fun σ2 H2 => D.bk (σ2.set i none) H2, ct := fun σ2 H2 => D.ct (σ2.set i none) H2 }
      (σ.set i (some (.ref a))) (upd H a (EzO cls d a))) ∧
    (b = false → Wout cls d σ H)
section
variable {X : Cx} {x n : Str} {c : Value} {i : Nat} {body suite : List Stmt} {b₀ : Stmt} {np pos pos' : Pos} {tb : WX → TS} {ts : Addr → Value → Option Addr → TS} {Wout : WX}
theorem ps_try_keep (hs : X.stack = X.env :: X.outer) (hf : X.env.frame = some X.env.locals) (hN : X.N.Nodup)
    (hi : X.N[i]? = some n) (hln : X.env.kindOf n = some .local) (hc : Names X x c) (tk : Takes X Wout)
    (hb : ∀ (W : WX) (pn : List (Addr × Obj)) (xe : Value → Shared → Prop), Takes (X.tr pn xe) W →
      PassesOwn (model X.prog X.w) X.A X.env xe → PSs (X.tr pn xe) body (tb W))
    (hsu : ∀ (a : Addr) (cls : Value) (d : Option Addr) (pn : List (Addr × Obj)),
      PSs (X.suite a pn) (b₀ :: suite) (ts a cls d)) :
    PS X (.Try body [.ExceptHandler (some (.Name x np)) (some n) (b₀ :: suite) pos'] [] [] pos)
      (fun D σ H => tb (wKeep X.K c i ts Wout D) D σ H) := by
  refine ⟨fun pins s σ H D I h => ?_⟩
  have okX := I.ok
  have hfr : X.A.frames = some (X.env :: X.outer) := by
    rw [okX.frames, hs]
  have hlc : Loc X.env.scope n := .inl hln
  refine wpAny_Try_except ?_
  refine wpAny_mono
    ((hb (wKeep X.K c i ts Wout D) (X.pn ++ pins)
      (fun e t1 => wpAny (model X.prog X.w) X.A (noteFrame e X.env)
        (fun _ t2 => wpAny (model X.prog X.w) X.A (setFlight e none)
          (fun _ t3 => wpAny (model X.prog X.w) X.A (handleBy e X.env [.ExceptHandler (some (.Name x np)) (some n) (b₀ :: suite) pos']) (SP X pins D) X.xe t3)
          X.xe t2)
        X.xe t1)
      (fun u t xx => ?_) PassesOwn.looking).run [] s σ H D (I.toTry _) h)
    (fun f s1 hsp => ?_) (fun e s1 he => he)
  · obtain ⟨a, B, sI, pn2, σ2, H2, cls, d, rfl, J0, nb, up, sky, na, os, ag, b, hb1, hyes, hno⟩ := xx
    have J : Inv X pins σ2 H2 sI := J0.ofTry okX
    have sky2 : Sky B (X.env :: X.outer) a (Zc cls d) X.env.locals t.heap := by
      rw [← hs]
      exact sky
    show wpAny (model X.prog X.w) X.A (noteFrame (.ref a) X.env) _ _ _
    refine Sky.land Zc.steady hfr hf sky2 fun h3 fl3 up3 => ?_
    have J3 : Inv X pins σ2 H2 { t with heap := h3 } :=
      J.landed nb fl3.1 (up.trans up3) os ag
    obtain ⟨oe3, vs3, he3, hz3, hd3⟩ := fl3.there
    have nfr : a ∉ frs (X.env :: X.outer) := fun hm => by
      obtain ⟨_, o', e', hnf⟩ := fl3.2.2.1.mem hm
      rw [he3] at e'
      cases e'
      exact hnf _ hd3
    have n0 : sI.heap.get? a = none := by
      cases q : sI.heap.get? a with
      | none => rfl
      | some u =>
        have z := nb a u q (by rw [hs]; exact nfr)
        rw [fl3.2.1] at z
        cases z
    have S3 := J3.suiteN a
    refine wpAny_handleBy_cons (codeAny_handlers_test ?_) (by intro q; cases q)
    have LT : PySem.W.Looks (model X.prog X.w) h3 (typeOf (.ref a)) cls := fun A Q E s k q =>
      wpAny_typeOf_ref (k _ _ he3) (by rw [hz3.1]; exact q)
    have LM := PySem.W.exm_one (M := model X.prog X.w) (J3.kIn) LT hb1
    have test : ∀ {Q : Value → Shared → Prop} {E : Value → Shared → Prop}, Q c { t with heap := h3 } →
        wpAny (model X.prog X.w) (X.A.mark (some (.ref a))) (eval (.Name x np) X.env) Q E { t with heap := h3 } := by
      intro Q E q
      obtain ⟨hg, hdbg, hm | ⟨hm, hv, hnn⟩⟩ := hc
      · exact ld_glob (X := X.suite a (X.pn ++ pins)) S3 hg hm q hdbg
      · exact ld_blt (X := X.suite a (X.pn ++ pins)) S3 hg hm hv q hnn hdbg
    refine test (LM.here ?_)
    cases b with
    | true =>
      refine codeAny_handlers_suite_as ?_
      refine HandSPX.lands_againZ fl3 fun h4 fl4 up4 => ?_
      obtain ⟨oe4, vs4, he4, hz4, hd4⟩ := fl4.there
      have J4 : Inv X pins σ2 (upd H2 a (EzO cls d a)) { t with heap := h4 } :=
        J.landedT nb fl4.1 ((up.trans up3).trans up4) os ag n0 na (ezO_ok he4 hz4 hd4)
      have S4 := J4.suiteN a
      refine store_ok (X := X.suite a (X.pn ++ pins)) (v := .ref a) S4 hN hi hlc rfl (fun s5 S5 => ?_) (.inr hln)
      refine wpAny_mono ((hsu a cls d (X.pn ++ pins)).run [] s5 _ _ _ S5 (hyes rfl a na)) (fun f s6 hsp => ?_) (fun _ _ z => False.elim z)
      have fin : ∀ {σ6 : St} {H6 : Hp} {Q : Shared → Prop}, Inv (X.suite a (X.pn ++ pins)) [] σ6 H6 s6 →
          (∀ s7, Inv X pins (σ6.set i none) H6 s7 → Q s7) →
          wpAny (model X.prog X.w) X.A (do bindName X.env n .none; unbindBehindTheSuite X.env n pos') (fun _ s7 => Q s7) X.xe s6 := by
        intro σ6 H6 Q S6 hq
        exact gone_ok (S6.unsuiteN okX) hN hi hln hq
      cases f with
      | ret u =>
        obtain ⟨v6, σ6, H6, S6, r6, q6⟩ := hsp
        exact fin S6 fun s7 J7 => ⟨_, _, _, J7, r6, q6⟩
      | next =>
        obtain ⟨σ6, H6, S6, q6⟩ := hsp
        exact fin S6 fun s7 J7 => ⟨_, _, J7, q6⟩
      | brk =>
        obtain ⟨σ6, H6, S6, q6⟩ := hsp
        exact fin S6 fun s7 J7 => ⟨_, _, J7, q6⟩
      | cont =>
        obtain ⟨σ6, H6, S6, q6⟩ := hsp
        exact fin S6 fun s7 J7 => ⟨_, _, J7, q6⟩
    | false =>
      show wpAny _ X.A (handleBy (.ref a) X.env []) _ _ _
      refine wpAny_handleBy_nil ?_
      obtain ⟨k1, k2, k3, oe, vs, T, oT, ts', he, hz, hd, h1, hr⟩ := id fl3
      unfold PySem.passOn
      refine wpAny_bind (wpAny_field he hd h1 ?_)
      rw [if_neg (show ¬ ((Value.ref T == Value.none) = true) from by simp)]
      have fin : wpAny (model X.prog X.w) X.A (setFlight (.ref a) X.env.frame)
          (fun _ t4 => wpAny (model X.prog X.w) X.A (throw (.ref a) : Sem Flow) (SP X pins D) X.xe t4) X.xe { t with heap := h3 } := by
        rw [hf]
        refine HandSPX.setFlight_upZ fl3 fun h4 hh4 up4 => wpAny_throw (tk _ _ ?_)
        exact ⟨a, B, sI, pins, σ2, H2, cls, d, rfl, J, nb,
          (up.trans up3).trans up4, .inr (.inr (by rw [hs]; exact hh4)), na, os, ag, hno rfl⟩
      first
        | exact wpAny_bind (wpAny_pure (wpAny_bind fin))
        | exact wpAny_bind fin
  · cases f with
    | next =>
      obtain ⟨σ2, H2, J2, q⟩ := hsp
      exact wpAny_execs_nil ⟨σ2, H2, J2.ofTry okX, q⟩
    | brk =>
      obtain ⟨σ2, H2, J2, q⟩ := hsp
      exact ⟨σ2, H2, J2.ofTry okX, q⟩
    | cont =>
      obtain ⟨σ2, H2, J2, q⟩ := hsp
      exact ⟨σ2, H2, J2.ofTry okX, q⟩
    | ret u =>
      obtain ⟨v, σ2, H2, J2, r, q⟩ := hsp
      exact ⟨v, σ2, H2, J2.ofTry okX, r, q⟩
end
/-- the object of a tracked error -/
theorem ezO_inst {X : Cx} {pins : List (Addr × Obj)} {σ : St} {H : Hp} {s : Shared} {a D : Addr} (I : Inv X pins σ H s) (h : H a = some (EzO (.ref D) none a)) :
    ∃ oe, PySem.W.InstAt s.heap a oe D none := by
  obtain ⟨⟨oe, vs, he, hz, hd⟩, _⟩ := (show ObjOk X.prog X.w H s.heap a (EzO (.ref D) none a) from I.hok a _ h)
  obtain ⟨oc, od, oda, osl⟩ := oe
  obtain ⟨h1, h2⟩ := hz
  dsimp only at h1 h2 hd
  subst h1 h2 hd
  exact ⟨_, he, rfl, rfl, trivial⟩
/-- isinstance(e, T), e a tracked error -/
def rIsX (K : PySem.W.Frag) : List V → Hp → VK → Prop := fun xs H Q => ∃ (a D : Addr) (c : V) (cv : Value) (b : Bool),
  xs = [.ref a, c] ∧ H a = some (EzO (.ref D) none a) ∧ ExcC K D ∧ ClsV c cv ∧
  PySem.W.kitOne K (.ref D) cv = some b ∧ Q (.bl b) H
/-- isinstance(e, (T1, T2)) -/
def rIsXT (K : PySem.W.Frag) : List V → Hp → VK → Prop := fun xs H Q => ∃ (a D tp : Addr) (cs : List V) (us : List Value) (b : Bool),
  xs = [.ref a, .ref tp] ∧ H tp = some (.tup cs) ∧ Paired ClsV cs us ∧ H a = some (EzO (.ref D) none a) ∧ ExcC K D ∧
  PySem.W.kitAny K (.ref D) us = some b ∧ Q (.bl b) H
section
variable {X : Cx}
theorem call_isX : CallR X (.builtin "isinstance") (rIsX X.K) := by
  intro pins s σ H xs us Q I r h
  obtain ⟨a, D, c, cv, b, rfl, hH, C, k, e, q⟩ := h
  obtain ⟨u1, u2, rfl, r1, r2⟩ := vals2 r
  have e2 := k.eq r2
  subst e2
  cases r1
  obtain ⟨oe, J⟩ := ezO_inst I hH
  exact PySem.W.kia_one (PySem.W.handS_kitx_exc C.hg C.hk C.hs C.hd C.ha C.hn C.ht C.hm) I.kIn J e (fun z => nomatch z)
    fun tk => ⟨.bl b, H, I.tok tk, rfl, q⟩
theorem call_isXT : CallR X (.builtin "isinstance") (rIsXT X.K) := by
  intro pins s σ H xs us Q I r h
  obtain ⟨a, D, tp, cs, ws, b, rfl, hT, k, hH, C, e, q⟩ := h
  obtain ⟨u1, u2, rfl, r1, r2⟩ := vals2 r
  cases r1
  cases (show u2 = Value.ref tp from r2)
  obtain ⟨oe, J⟩ := ezO_inst I hH
  obtain ⟨_, its, rv, o, h1, h2, n, h3⟩ := (show ObjOk X.prog X.w H s.heap tp (.tup cs) from I.hok tp _ hT)
  have e3 := ClsV.all k rv
  subst e3
  obtain ⟨oc, od, dt, sl⟩ := o
  simp only at h2 h3
  subst h2 h3
  exact PySem.W.kia_tup (PySem.W.handS_kitx_exc C.hg C.hk C.hs C.hd C.ha C.hn C.ht C.hm) I.kIn J h1 e (fun z => nomatch z)
    fun tk => ⟨.bl b, H, I.tok tk, rfl, q⟩
end
end L2
namespace Mad
open PySem PySem.Spec PyProof.Rows L2
/-! ### join with the heap's frame named, for comprehensions -/
def rJoinK (K : PySem.W.Frag) : V → List V → Hp → VK → Prop := fun x xs H Q => ∃ a p, ∃ ys : List Str, x = .str a ∧ xs = [.ref p] ∧ (SqL K H p (ys.map V.str) ∨ SqT K H p (ys.map V.str)) ∧ (ys.map (·.length)).sum + ys.length * a.length ≤ 16777216 ∧ Q (.str (Txt.join a ys)) H
theorem pe_joinK {X : Cx} {o e : Expr} {to te : TE} {K : PySem.W.Frag} {apos pos : Pos} (hK : X.K = K) (ho : PE X o to) (he : PE X e te) (hs : starEach [e] X.env = [(false, eval e X.env)] := by rfl) (hb : attributeBase o "join" X.env (eval o X.env) = eval o X.env := by rfl) (hl : (apos.endLine == pos.line) = true := by rfl) :
    PE X (.Call (.Attribute o "join" apos) [e] [] pos) (tM1 (rJoinK K) to te) := by
  subst hK
  exact pe_join ho he hs hb hl
theorem tcut_nat (ts : List (List Nat)) {a b : Nat} (h : a ≤ b) : cutV (txs ts) (some (a : Int)) (some (b : Int)) = txs ((ts.drop a).take (b - a)) := by
  rw [cut_nat _ h]
  unfold txs
  rw [← List.map_drop, ← List.map_take, ← List.map_drop, ← List.map_take]
theorem tcut_from (ts : List (List Nat)) {a : Nat} (h : a ≤ ts.length) : cutV (txs ts) (some (a : Int)) none = txs (ts.drop a) := by
  show ((txs ts).drop (HT.sIx (txs ts).length 0 (some (a : Int)))).take (HT.sIx (txs ts).length (txs ts).length none - HT.sIx (txs ts).length 0 (some (a : Int))) = _
  rw [HT.sIx_nat, HT.sIx_none, txs_len, Nat.min_eq_left h, List.take_of_length_le (by rw [List.length_drop, txs_len]; exact Nat.le_refl _)]
  unfold txs
  rw [← List.map_drop, ← List.map_drop]
/-! ### the pools that laws draw from: a dict of rest, mixed, count -/
def kT (s : Str) : Key := Sum.inr s
def pool (r : Int) (m : Bool) (c : Int) : List (Key × V) := [(kT "rest", .int r), (kT "mixed", .bl m), (kT "count", .int c)]
theorem pool_rest (r : Int) (m : Bool) (c : Int) : valV (pool r m c) (kT "rest") = some (.int r) := rfl
theorem pool_mixed (r : Int) (m : Bool) (c : Int) : valV (pool r m c) (kT "mixed") = some (.bl m) := by
  have h1 : decide (kT "rest" = kT "mixed") = false := by decide +kernel
  have h2 : decide (kT "mixed" = kT "mixed") = true := by decide +kernel
  simp only [valV, pool, List.find?_cons, h1, h2, Option.map_some]
  rfl
theorem pool_count (r : Int) (m : Bool) (c : Int) : valV (pool r m c) (kT "count") = some (.int c) := by
  have h1 : decide (kT "rest" = kT "count") = false := by decide +kernel
  have h2 : decide (kT "mixed" = kT "count") = false := by decide +kernel
  have h3 : decide (kT "count" = kT "count") = true := by decide +kernel
  simp only [valV, pool, List.find?_cons, h1, h2, h3, Option.map_some]
  rfl
theorem kT_ne {a b : Str} (h : a ≠ b) : ¬ kT a = kT b := fun z => h (Sum.inr.inj z)
theorem put_rest (r : Int) (m : Bool) (c v : Int) : putK (pool r m c) (kT "rest") (.int v) = pool v m c := by
  unfold putK pool
  have h1 : ¬ kT "mixed" = kT "rest" := by decide +kernel
  have h2 : ¬ kT "count" = kT "rest" := by decide +kernel
  rw [if_pos (by simp)]
  simp only [List.map_cons, List.map_nil, if_pos, if_neg h1, if_neg h2]
theorem put_count (r : Int) (m : Bool) (c v : Int) : putK (pool r m c) (kT "count") (.int v) = pool r m v := by
  unfold putK pool
  have h1 : ¬ kT "rest" = kT "count" := by decide +kernel
  have h2 : ¬ kT "mixed" = kT "count" := by decide +kernel
  rw [if_pos (by simp)]
  simp only [List.map_cons, List.map_nil, if_pos, if_neg h1, if_neg h2]
theorem merge_pool (r : Int) (m : Bool) (c : Int) : mergeK [] (pool r m c) = pool r m c := by
  have h1 : decide (kT "rest" = kT "mixed") = false := by decide +kernel
  have h2 : decide (kT "rest" = kT "count") = false := by decide +kernel
  have h3 : decide (kT "mixed" = kT "count") = false := by decide +kernel
  simp only [mergeK, pool, List.foldl_cons, List.foldl_nil, putK, List.any_nil, List.any_cons, List.nil_append, List.cons_append, h1, h2, h3, Bool.or_false, if_neg Bool.false_ne_true]
/-- a cell of the script, or nought -/
def spCellAt (K : PySem.W.Frag) : Sp := fun vs H Q _ => ∃ (a : Addr) (ns : List Int) (k : Int), vs = [.ref a, .int k] ∧ SqL K H a (ns.map V.int) ∧ ns.length ≤ 63 ∧ 0 ≤ k ∧ ∀ v, Q (.int v) H
def spPool (K : PySem.W.Frag) : Sp := fun vs H Q _ => ∃ (a : Addr) (ns : List Int) (k : Int), vs = [.ref a, .int k] ∧ SqL K H a (ns.map V.int) ∧ ns.length ≤ 63 ∧ 0 ≤ k ∧ k ≤ 1000 ∧ ∀ (p : Addr) (r : Int) (m : Bool) (c : Int), H p = none → 0 ≤ c → c ≤ 5003 → Q (.ref p) (upd H p (.dK (pool r m c)))
def spTakeP : Sp := fun vs H Q _ => ∃ (p : Addr) (r : Int) (m : Bool) (c many : Int), vs = [.ref p, .int many] ∧ H p = some (.dK (pool r m c)) ∧ 0 < many ∧ many.natAbs < 2 ^ 200 ∧ 0 ≤ c ∧ c ≤ 1000000 ∧
  ∀ (H' : Hp) (v r' c' : Int), (∀ b, b ≠ p → H' b = H b) → H' p = some (.dK (pool r' m c')) → 0 ≤ c' → c' ≤ c + 1 → 0 ≤ v → v < many → Q (.int v) H'
section
variable {P : Program} {w : World} {K : PySem.W.Frag} {mg : Str → Option Value} {base : Heap}
abbrev s__law_cell_at : Stmt := topS 16
abbrev N__law_cell_at : List Str := ["script", "k"]
theorem sc__law_cell_at : FnScope N__law_cell_at ["script", "k"] (defScope s__law_cell_at) := ⟨rfl, rfl, rfl, by decide +kernel, rfl, by decide +kernel, by decide +kernel⟩

theorem ok__law_cell_at (T : Txt K mg) (D : IsDef K mg "_law_cell_at" s__law_cell_at ["script", "k"]) : Cal P w K mg base CX0 1 "_law_cell_at" ["script", "k"] (spCellAt K) := by
  refine D.cal sc__law_cell_at (fun vs H Q E h => ?_) (fun f cdv A outer s H vs Q E hr h => ?_)
  · obtain ⟨a, ns, k, rfl, _⟩ := h
    rfl
  obtain ⟨a, ns, k, rfl, hS, h63, k0, q⟩ := h
  refine ⟨_, (pss_cons (ps_if (pt_cmpR op_lt (pv 1) (pe_callB call_len_seq (by rfl) T.b_len PySem.boot_len (pa_cons (pv 0) pa_nil)) (nomark _))
        (pss_one (ps_ret (pe_ix (r := rIxL K) ix_list (pv 0) (pv 1) (fun _ _ => rfl))))
        pss_nil)
      (pss_one (ps_ret pe_int))), ?_⟩
  refine ⟨_, rfl, _, rfl, a, _, rfl, .inl hS, _, _, rfl, rfl, _, rfl, ?_⟩
  refine ite2 (fun c => ?_) (fun _ => q _)
  have c' : k < (((ns.map V.int).length : Nat) : Int) := of_decide_eq_true c
  rw [List.length_map] at c'
  obtain ⟨v, hv⟩ := int_at k0 c'
  exact ⟨_, rfl, _, rfl, a, _, _, _, rfl, rfl, hS, hv, q v⟩
abbrev s__law_pool : Stmt := topS 17
abbrev N__law_pool : List Str := ["script", "k"]
theorem sc__law_pool : FnScope N__law_pool ["script", "k"] (defScope s__law_pool) := ⟨rfl, rfl, rfl, by decide +kernel, rfl, by decide +kernel, by decide +kernel⟩

theorem ok__law_pool (T : Txt K mg) (D : IsDef K mg "_law_pool" s__law_pool ["script", "k"]) (C__law_cell_at : Cal P w K mg base CX0 1 "_law_cell_at" ["script", "k"] (spCellAt K)) : Cal P w K mg base CX0 2 "_law_pool" ["script", "k"] (spPool K) := by
  refine D.cal sc__law_pool (fun vs H Q E h => ?_) (fun f cdv A outer s H vs Q E hr h => ?_)
  · obtain ⟨a, ns, k, rfl, _⟩ := h
    rfl
  obtain ⟨a, ns, k, rfl, hS, h63, k0, k1, q⟩ := h
  refine ⟨_, (pss_one (ps_ret (pe_disp (pps_cons pe_str (pe_cal C__law_cell_at (hr.mono (by first | decide | omega)) pass0 (pa_cons (pv 0) (pa_cons (pv 1) pa_nil))) (pps_cons pe_str (pe_cmpR op_eq (pe_op op_mod (pe_cal C__law_cell_at (hr.mono (by first | decide | omega)) pass0 (pa_cons (pv 0) (pa_cons pe_int pa_nil))) pe_int) pe_int (nomark _)) (pps_cons pe_str (pe_op op_add pe_int (pe_op op_mul pe_int (pv 1))) pps_nil))) (by rfl) (by rfl) (fun z => by cases z) (by decide)))), ?_⟩
  refine fun p np => ?_
  have hS' := (same_new np (.dK [])).seq hS
  refine ⟨_, rfl, _, rfl, a, ns, k, rfl, hS', h63, k0, fun v => ?_⟩
  refine ⟨_, rfl, a, ns, 0, rfl, hS', h63, Int.le_refl 0, fun v2 => ?_⟩
  refine ⟨_, _, rfl, rfl, (by show (0 : Int) < 2; decide), ?_⟩
  refine ⟨rfl, _, rfl, _, _, rfl, rfl, .inl ⟨by decide, by decide⟩, _, _, rfl, rfl, upd_same, pool v (decide (V.int (v2 % 2) = V.int 1)) (3 + 5 * k), rfl, (by show 3 ≤ 15; decide), ?_⟩
  rw [merge_pool, upd_upd]
  exact q p _ _ _ np (by omega) (by omega)
abbrev s__law_take : Stmt := topS 18
abbrev N__law_take : List Str := ["pool", "many", "rest"]
theorem sc__law_take : FnScope N__law_take ["pool", "many"] (defScope s__law_take) := ⟨rfl, rfl, rfl, by decide +kernel, rfl, by decide +kernel, by decide +kernel⟩

theorem ok__law_take (T : Txt K mg) (D : IsDef K mg "_law_take" s__law_take ["pool", "many"]) : Cal P w K mg base CX0 1 "_law_take" ["pool", "many"] spTakeP := by
  refine D.cal sc__law_take (fun vs H Q E h => ?_) (fun f cdv A outer s H vs Q E hr h => ?_)
  · obtain ⟨p, r, m, c, many, rfl, _⟩ := h
    rfl
  obtain ⟨p, r, m, c, many, rfl, hp, m0, mb, c0, c1, q⟩ := h
  have hu : (cxOf CX0 P w K mg base N__law_take "_law_take" (defScope s__law_take) f cdv A outer s H E).nox.A.units + 1 < cLine := by
    exact Nat.lt_of_le_of_lt (Nat.add_le_add_left (by decide : 1 ≤ 64) _) hr.units
  refine ⟨_, (pss_cons (ps_set (i := 2) sc__law_take.nd rfl (Or.inl rfl) (pe_dget hu (pv 0) pe_str (fun _ _ => rfl)))
      (pss_cons (ps_if (pt_not (pt_val (pe_dget hu (pv 0) pe_str (fun _ _ => rfl))))
        (pss_cons (ps_dput hu (pv 0) pe_str (pe_op op_fdivW (pv 2) (pv 1)) rfl)
      (pss_one (ps_ret (pe_op op_mod (pv 2) (pv 1)))))
        pss_nil)
      (pss_cons (ps_dput hu (pv 0) pe_str (pe_op op_add (pe_dget hu (pv 0) pe_str (fun _ _ => rfl)) pe_int) rfl)
      (pss_cons (ps_set (i := 2) sc__law_take.nd rfl (Or.inl rfl) (pe_op op_add (pe_op op_mod (pv 2) pe_int) (pe_op op_mul pe_int (pe_dget hu (pv 0) pe_str (fun _ _ => rfl)))))
      (pss_cons (ps_set (i := 2) sc__law_take.nd rfl (Or.inl rfl) (pe_op op_mod (pe_op op_mul (pv 2) (pe_op op_add (pv 2) pe_int)) pe_int))
      (pss_cons (ps_set (i := 2) sc__law_take.nd rfl (Or.inl rfl) (pe_op op_mod (pe_op op_mul (pv 2) (pv 2)) pe_int))
      (pss_cons (ps_dput hu (pv 0) pe_str (pv 2) rfl)
      (pss_one (ps_ret (pe_op op_mod (pe_op op_fdivW (pv 2) pe_int) (pv 1))))))))))), ?_⟩
  refine ⟨_, rfl, p, _, rfl, (pool_rest r m c) ▸ DGet.k (k := kT "rest") hp, ?_⟩
  refine ⟨_, rfl, p, _, rfl, (pool_mixed r m c) ▸ DGet.k (k := kT "mixed") hp, ?_⟩
  have hlt : ∀ (r : Int) (m : Bool) (c : Int), (pool r m c).length < sizeLine := fun _ _ _ => lt_line (by show 3 < 16777216; decide)
  cases m with
  | false =>
    refine ⟨_, rfl, iteT ?_⟩
    refine ⟨_, rfl, _, rfl, _, _, rfl, rfl, wide_div m0 mb (by decide) (by decide), _, rfl, p, _, rfl, DPut.k (k := kT "rest") hp (hlt _ _ _), ?_⟩
    rw [put_rest]
    exact ⟨_, rfl, _, rfl, _, _, rfl, rfl, m0, q _ _ _ _ (fun b hb => upd_ne hb) upd_same c0 (by omega) (Int.emod_nonneg _ (by omega)) (Int.emod_lt_of_pos _ m0)⟩
  | true =>
    refine ⟨_, rfl, iteF ?_⟩
    refine ⟨_, rfl, p, _, rfl, (pool_count r true c) ▸ DGet.k (k := kT "count") hp, _, _, rfl, rfl, _, rfl, p, _, rfl, DPut.k (k := kT "count") hp (hlt _ _ _), ?_⟩
    rw [put_count]
    have h1 : upd H p (.dK (pool r true (c + 1))) p = some (.dK (pool r true (c + 1))) := upd_same
    refine ⟨_, rfl, _, _, rfl, rfl, (by show (0 : Int) < 1000000000163; decide), _, rfl, p, _, rfl, (pool_count r true (c + 1)) ▸ DGet.k (k := kT "count") h1, _, _, rfl, rfl, .inl ⟨by decide, by decide⟩, _, _, rfl, rfl, ?_⟩
    have y0 : 0 ≤ r % 1000000000163 := Int.emod_nonneg _ (by decide)
    have y1 : r % 1000000000163 < 1000000000163 := Int.emod_lt_of_pos _ (by decide)
    refine ⟨_, rfl, _, rfl, _, _, rfl, rfl, _, _, rfl, rfl, .inl ⟨by show -(2 ^ 64) < r % 1000000000163 + 70001 * (c + 1); omega, by show r % 1000000000163 + 70001 * (c + 1) < 2 ^ 64; omega⟩, _, _, rfl, rfl, (by show (0 : Int) < 1000000000193; decide), ?_⟩
    have z0 : 0 ≤ ((r % 1000000000163 + 70001 * (c + 1)) * (r % 1000000000163 + 70001 * (c + 1) + 29)) % 1000000000193 := Int.emod_nonneg _ (by decide)
    have z1 : ((r % 1000000000163 + 70001 * (c + 1)) * (r % 1000000000163 + 70001 * (c + 1) + 29)) % 1000000000193 < 1000000000193 := Int.emod_lt_of_pos _ (by decide)
    refine ⟨_, rfl, _, rfl, _, _, rfl, rfl, .inl ⟨Int.lt_of_lt_of_le (by decide) z0, Int.lt_trans z1 (by decide)⟩, _, _, rfl, rfl, (by show (0 : Int) < 999999999959; decide), ?_⟩
    refine ⟨_, rfl, _, rfl, p, _, rfl, DPut.k (k := kT "rest") h1 (hlt _ _ _), ?_⟩
    rw [put_rest]
    refine ⟨_, rfl, _, _, rfl, rfl, ⟨by decide, by decide +kernel⟩, _, rfl, _, _, rfl, rfl, m0, q _ _ _ (c + 1) (fun b hb => ?_) upd_same (by omega) (Int.le_refl _) (Int.emod_nonneg _ (by omega)) (Int.emod_lt_of_pos _ m0)⟩
    rw [upd_ne hb, upd_ne hb]
end
/-! ### names, reads, sums of reads -/
def spName3 : Sp := fun vs H Q _ => ∃ k : Int, vs = [.int k] ∧ 0 ≤ k ∧ k ≤ 1000 ∧ ∀ s, Nm s → Q (.str (SX.S s)) H
/-- rows of a name and a number each -/
def Prs (H : Hp) : List (List Nat × Int) → List V → Prop
  | [], [] => True
  | p :: ps, v :: vs => (∃ t, v = .ref t ∧ H t = some (.tup [.str (SX.S p.1), .int p.2])) ∧ Prs H ps vs
  | _, _ => False
theorem Prs.same {H H' : Hp} (k : Same H H') : ∀ {ps : List (List Nat × Int)} {vs : List V}, Prs H ps vs → Prs H' ps vs
  | [], [], _ => trivial
  | _ :: _, _ :: _, ⟨⟨t, e, ht⟩, h⟩ => ⟨⟨t, e, k _ _ ht⟩, Prs.same k h⟩
  | [], _ :: _, h => h.elim
  | _ :: _, [], h => h.elim
theorem Prs.keep {H H' : Hp} (k : Keep H H') : ∀ {ps : List (List Nat × Int)} {vs : List V}, Prs H ps vs → Prs H' ps vs
  | [], [], _ => trivial
  | _ :: _, _ :: _, ⟨⟨t, e, ht⟩, h⟩ => ⟨⟨t, e, k _ _ ht⟩, Prs.keep k h⟩
  | [], _ :: _, h => h.elim
  | _ :: _, [], h => h.elim
theorem Prs.len {H : Hp} : ∀ {ps : List (List Nat × Int)} {vs : List V}, Prs H ps vs → vs.length = ps.length
  | [], [], _ => rfl
  | _ :: _, _ :: _, h => congrArg (· + 1) (Prs.len h.2)
  | [], _ :: _, h => h.elim
  | _ :: _, [], h => h.elim
theorem Prs.at {H : Hp} : ∀ {ps : List (List Nat × Int)} {vs : List V} {i : Nat} {v : V}, Prs H ps vs → vs[i]? = some v → ∃ p t, ps[i]? = some p ∧ v = .ref t ∧ H t = some (.tup [.str (SX.S p.1), .int p.2])
  | [], [], i, v, _, e => by simp at e
  | p :: _, _ :: _, 0, v, h, e => by
    obtain ⟨⟨t, e1, ht⟩, _⟩ := h
    exact ⟨p, t, rfl, (Option.some.inj e).symm.trans e1, ht⟩
  | _ :: _, _ :: _, i + 1, v, h, e => Prs.at (i := i) h.2 (by simpa using e)
  | [], _ :: _, _, _, h, _ => h.elim
  | _ :: _, [], _, _, h, _ => h.elim
theorem Prs.snoc {H : Hp} {p : List Nat × Int} {t : Addr} (ht : H t = some (.tup [.str (SX.S p.1), .int p.2])) : ∀ {ps : List (List Nat × Int)} {vs : List V}, Prs H ps vs → Prs H (ps ++ [p]) (vs ++ [.ref t])
  | [], [], _ => ⟨⟨t, rfl, ht⟩, trivial⟩
  | _ :: _, _ :: _, h => ⟨h.1, Prs.snoc ht h.2⟩
  | [], _ :: _, h => h.elim
  | _ :: _, [], h => h.elim
theorem Prs.drop {H : Hp} : ∀ (n : Nat) {ps : List (List Nat × Int)} {vs : List V}, Prs H ps vs → Prs H (ps.drop n) (vs.drop n)
  | 0, _, _, h => h
  | _ + 1, [], [], h => h
  | n + 1, _ :: _, _ :: _, h => Prs.drop n h.2
  | _ + 1, [], _ :: _, h => h.elim
  | _ + 1, _ :: _, [], h => h.elim
theorem Prs.take {H : Hp} : ∀ (n : Nat) {ps : List (List Nat × Int)} {vs : List V}, Prs H ps vs → Prs H (ps.take n) (vs.take n)
  | 0, _, _, _ => trivial
  | _ + 1, [], [], h => h
  | n + 1, _ :: _, _ :: _, h => ⟨h.1, Prs.take n h.2⟩
  | _ + 1, [], _ :: _, h => h.elim
  | _ + 1, _ :: _, [], h => h.elim
/-- a tuple stands there -/
def Tp (H : Hp) (x : V) : Prop := ∃ t ys, x = .ref t ∧ H t = some (.tup ys)
theorem Tp.same {H H' : Hp} {x : V} (h : Tp H x) (k : Same H H') : Tp H' x := by
  obtain ⟨t, ys, e, ht⟩ := h
  exact ⟨t, ys, e, k _ _ ht⟩
/-- a group of reads -/
def Grp (H : Hp) (x : V) : Prop := ∃ l xs ps, x = .ref l ∧ H l = some (.lst xs) ∧ Prs H ps xs ∧ 1 ≤ xs.length ∧ xs.length ≤ 60
theorem Grp.same {H H' : Hp} {x : V} (h : Grp H x) (k : Same H H') : Grp H' x := by
  obtain ⟨l, xs, ps, e, hl, hp, h1, h2⟩ := h
  exact ⟨l, xs, ps, e, k _ _ hl, hp.same k, h1, h2⟩
theorem cut_from (xs : List V) (a : Nat) : cutV xs (some (a : Int)) none = xs.drop a := by
  show (xs.drop (HT.sIx xs.length 0 (some (a : Int)))).take (HT.sIx xs.length xs.length none - HT.sIx xs.length 0 (some (a : Int))) = _
  rw [HT.sIx_nat, HT.sIx_none]
  by_cases h : a ≤ xs.length
  · rw [Nat.min_eq_left h, List.take_of_length_le (by rw [List.length_drop]; exact Nat.le_refl _)]
  · rw [Nat.min_eq_right (by omega), List.drop_eq_nil_of_le (Nat.le_refl _), List.drop_eq_nil_of_le (by omega), List.take_nil]
/-- a list in the making at F: what stands otherwise stands in B -/
def Mk (P : Hp → V → Prop) (H H' : Hp) (F : Addr) (gs : List V) : Prop := ∃ B, Same H B ∧ B F = none ∧ Same B H' ∧ H' F = some (.lst gs) ∧ ∀ x ∈ gs, P B x
theorem Mk.start {P : Hp → V → Prop} {H : Hp} {F : Addr} (n : H F = none) : Mk P H (upd H F (.lst [])) F [] := ⟨H, Same.refl _, n, same_new n _, upd_same, fun _ h => nomatch h⟩
theorem Mk.same {P : Hp → V → Prop} {H H' : Hp} {F : Addr} {gs : List V} (k : Mk P H H' F gs) : Same H H' := by
  obtain ⟨B, h1, _, h2, _⟩ := k
  exact h1.trans h2
theorem Mk.at {P : Hp → V → Prop} {H H' : Hp} {F : Addr} {gs : List V} (k : Mk P H H' F gs) : H' F = some (.lst gs) := by
  obtain ⟨B, _, _, _, h, _⟩ := k
  exact h
theorem grp_mono : ∀ (H H' : Hp) (x : V), Grp H x → Same H H' → Grp H' x := fun _ _ _ h k => h.same k
theorem tp_mono : ∀ (H H' : Hp) (x : V), Tp H x → Same H H' → Tp H' x := fun _ _ _ h k => h.same k
/-- one more, made anew -/
theorem Mk.more {P : Hp → V → Prop} (mono : ∀ (H H' : Hp) (x : V), P H x → Same H H' → P H' x) {H H' : Hp} {F q : Addr} {gs : List V} {o : HO} {x : V} (k : Mk P H H' F gs) (nq : H' q = none) (hx : ∀ B, Same H B → B q = none → P (upd B q o) x) :
    Mk P H (upd (upd H' q o) F (.lst (gs ++ [x]))) F (gs ++ [x]) ∧ upd H' q o F = some (.lst gs) := by
  obtain ⟨B, h1, h2, h3, h4, h5⟩ := k
  have nB : B q = none := h3.free nq
  have sB := same_new nB o
  have hF : upd H' q o F = some (.lst gs) := same_new nq o _ _ h4
  have fq : F ≠ q := ne_of_none h4 nq
  refine ⟨⟨upd B q o, h1.trans sB, by rw [upd_ne fq]; exact h2, ?_, upd_same, fun y hy => ?_⟩, hF⟩
  · refine same_upd (fun b u e => ?_) (by rw [upd_ne fq]; exact h2) _
    by_cases z : b = q
    · subst z; rw [upd_same] at e ⊢; exact e
    · rw [upd_ne z] at e ⊢; exact h3 _ _ e
  · rcases List.mem_append.mp hy with h | h
    · exact mono _ _ _ (h5 y h) sB
    · rw [List.mem_singleton.mp h]
      exact hx B h1 nB
/-- one more, that stood before -/
theorem Mk.old {P : Hp → V → Prop} {H H' : Hp} {F : Addr} {gs : List V} {x : V} (k : Mk P H H' F gs) (hx : ∀ B, Same H B → P B x) : Mk P H (upd H' F (.lst (gs ++ [x]))) F (gs ++ [x]) ∧ H' F = some (.lst gs) := by
  obtain ⟨B, h1, h2, h3, h4, h5⟩ := k
  refine ⟨⟨B, h1, h2, same_upd h3 h2 _, upd_same, fun y hy => ?_⟩, h4⟩
  rcases List.mem_append.mp hy with h | h
  · exact h5 y h
  · rw [List.mem_singleton.mp h]
    exact hx B h1
theorem Mk.fin {P : Hp → V → Prop} (mono : ∀ (H H' : Hp) (x : V), P H x → Same H H' → P H' x) {H H' : Hp} {F : Addr} {gs : List V} (k : Mk P H H' F gs) : ∀ x ∈ gs, P H' x := by
  obtain ⟨B, _, _, h3, _, h5⟩ := k
  exact fun x hx => mono _ _ _ (h5 x hx) h3
def spLooked : Sp := fun vs H Q _ => ∃ x, vs = [x] ∧ Grp H x ∧ ∀ (H' : Hp) (y : V), Same H H' → Tp H' y → Q y H'
def spGrouped : Sp := fun vs H Q _ => ∃ (a : Addr) (xs : List V) (ps : List (List Nat × Int)), vs = [.ref a] ∧ H a = some (.lst xs) ∧ Prs H ps xs ∧ xs.length ≤ 60 ∧
  ∀ (H' : Hp) (g : Addr) (gs : List V), Same H H' → H' g = some (.lst gs) → gs.length ≤ 61 → (∀ x ∈ gs, Grp H' x) → Q (.ref g) H'
def spSummedUp : Sp := fun vs H Q _ => ∃ (a : Addr) (xs : List V), vs = [.ref a] ∧ H a = some (.lst xs) ∧ 1 ≤ xs.length ∧ xs.length ≤ 150 ∧ (∀ x ∈ xs, Tp H x) ∧ ∀ (H' : Hp) (y : V), Same H H' → Tp H' y → Q y H'
def spSummed3 : Sp := fun vs H Q _ => ∃ (a : Addr) (xs : List V) (ps : List (List Nat × Int)) (wo : Int), vs = [.ref a, .int wo] ∧ H a = some (.lst xs) ∧ Prs H ps xs ∧ ps.length ≤ 29 ∧ (∀ p ∈ ps, Nm p.1) ∧ (wo - (ps.map (·.2)).sum).natAbs < 10 ^ 40 ∧
  ∀ (H' : Hp) (v : V) (r : Rcp), Same H H' → Rec H' r v → r.Good → r.dep ≤ 6 → Q v H'
section
variable {P : Program} {w : World} {K : PySem.W.Frag} {mg : Str → Option Value} {base : Heap}
abbrev s__law_name : Stmt := topS 19
abbrev N__law_name : List Str := ["k", "letters"]
theorem sc__law_name : FnScope N__law_name ["k"] (defScope s__law_name) := ⟨rfl, rfl, rfl, by decide +kernel, rfl, by decide +kernel, by decide +kernel⟩

theorem ok__law_name (T : Txt K mg) (D : IsDef K mg "_law_name" s__law_name ["k"]) : Cal P w K mg base CX0 1 "_law_name" ["k"] spName3 := by
  refine D.cal sc__law_name (fun vs H Q E h => ?_) (fun f cdv A outer s H vs Q E hr h => ?_)
  · obtain ⟨k, rfl, _⟩ := h
    rfl
  obtain ⟨k, rfl, k0, k1, q⟩ := h
  refine ⟨_, (pss_cons (ps_set (i := 1) sc__law_name.nd rfl (Or.inl rfl) pe_str)
      (pss_one (ps_ret (pe_op op_add_str (pe_item_str (pv 1) (pe_op op_mod (pv 0) pe_int) (fun _ _ => rfl)) (pe_op op_repA (pe_item_str (pv 1) (pe_op op_mod (pe_op op_mul (pv 0) pe_int) pe_int) (fun _ _ => rfl)) (pe_op op_mod (pe_op op_mul (pv 0) pe_int) pe_int)))))), ?_⟩
  have a0 : 0 ≤ k % 26 := Int.emod_nonneg _ (by decide)
  have a1 : k % 26 < 26 := Int.emod_lt_of_pos _ (by decide)
  have b0 : 0 ≤ k * 7 % 26 := Int.emod_nonneg _ (by decide)
  have b1 : k * 7 % 26 < 26 := Int.emod_lt_of_pos _ (by decide)
  have c0 : 0 ≤ k * 5 % 8 := Int.emod_nonneg _ (by decide)
  have c1 : k * 5 % 8 < 8 := Int.emod_lt_of_pos _ (by decide)
  have let26 : ∀ v : Int, 0 ≤ v → v < 26 → ∃ c, ("abcdefghijklmnopqrstuvwxyz" : Str).cps[v.toNat]? = some c ∧ 97 ≤ c ∧ c ≤ 122 := fun v v0 v26 => by
    have hv : v.toNat < letters.length := by show v.toNat < 26; omega
    refine ⟨letters[v.toNat], ?_, letters_ok _ (List.getElem_mem hv)⟩
    rw [letters_is]
    show letters.toArray[v.toNat]? = _
    rw [List.getElem?_toArray, List.getElem?_eq_getElem hv]
  have hlen : ("abcdefghijklmnopqrstuvwxyz" : Str).length = 26 := by rw [letters_is, SX.S_len]; rfl
  obtain ⟨x, hx, x1⟩ := let26 _ a0 a1
  obtain ⟨y, hy, y1⟩ := let26 _ b0 b1
  obtain ⟨n, hn⟩ : ∃ n : Nat, k * 5 % 8 = (n : Int) := ⟨(k * 5 % 8).toNat, by omega⟩
  refine ⟨_, rfl, _, rfl, _, _, rfl, rfl, (by show (0 : Int) < 26; decide), _, _, x, rfl, rfl, a0, by show k % 26 < 2 ^ 63; omega, by rw [hlen]; exact a1, hx, ?_⟩
  refine ⟨_, rfl, _, rfl, _, _, rfl, rfl, .inr ⟨by decide, by decide⟩, _, _, rfl, rfl, (by show (0 : Int) < 26; decide), _, _, y, rfl, rfl, b0, by show k * 7 % 26 < 2 ^ 63; omega, by rw [hlen]; exact b1, hy, ?_⟩
  refine ⟨_, rfl, _, _, rfl, rfl, .inr ⟨by decide, by decide⟩, _, _, rfl, rfl, (by show (0 : Int) < 8; decide), ?_⟩
  refine ⟨[y], n, rfl, congrArg V.int hn, by omega, (by show 1 ≤ 1; decide), (by show 1 ≤ 1000; decide), _, _, rfl, rfl, ?_, ?_⟩
  · show (SX.S [x]).length + _ ≤ _
    rw [SX.S_len, SX.S_len, List.length_flatten, List.map_replicate, List.sum_replicate_nat]
    exact le_line (by show 1 + n * 1 ≤ _; omega)
  · show Q (.str (SX.S [x] ++ SX.S (List.replicate n [y]).flatten)) H
    rw [SX.S_cat]
    have hl : (List.replicate n [y]).flatten.length = n := by
      rw [List.length_flatten, List.map_replicate, List.sum_replicate_nat]
      show n * 1 = n
      omega
    refine q _ ⟨by simp, by rw [List.length_append, hl]; show 1 + n ≤ 8; omega, fun c hc => ?_⟩
    rcases List.mem_append.mp hc with h | h
    · rw [List.mem_singleton.mp h]; exact x1
    · obtain ⟨l, hl, hc'⟩ := List.mem_flatten.mp h
      rw [List.eq_of_mem_replicate hl] at hc'
      rw [List.mem_singleton.mp hc']; exact y1
abbrev s_looked_through : Stmt := topS 11
abbrev N_looked_through : List Str := ["reads", "found", "name", "number"]
theorem sc_looked_through : FnScope N_looked_through ["reads"] (defScope s_looked_through) := ⟨rfl, rfl, rfl, by decide +kernel, rfl, by decide +kernel, by decide +kernel⟩

theorem ok_looked_through (T : Txt K mg) (D : IsDef K mg "looked_through" s_looked_through ["reads"]) : Cal P w K mg base CX0 1 "looked_through" ["reads"] spLooked := by
  refine D.cal sc_looked_through (fun vs H Q E h => ?_) (fun f cdv A outer s H vs Q E hr h => ?_)
  · obtain ⟨x, rfl, _⟩ := h
    rfl
  obtain ⟨x, rfl, ⟨l, xs, ps, rfl, hl, hp, h1, h60⟩, q⟩ := h
  refine ⟨_, (pss_cons (ps_set (i := 1) sc_looked_through.nd rfl (Or.inl rfl) (pe_tup (pa_cons pe_str (pa_cons (pe_ix (r := rIxT K) ix_tup (pe_ix (r := rIxL K) ix_list (pv 0) pe_int (fun _ _ => rfl)) pe_int (fun _ _ => rfl)) pa_nil))))
      (pss_cons (ps_for PassesOwn.never rfl (pi_list (pe_slice (r := rSlL K) sl_list (pv 0) (po_some pe_int) po_none)) (pg_tup rfl (pgs_cons (pg_name (i := 2) sc_looked_through.nd rfl (Or.inl rfl)) (pgs_cons (pg_name (i := 3) sc_looked_through.nd rfl (Or.inl rfl)) pgs_nil)))
        (pss_one (ps_set (i := 1) sc_looked_through.nd rfl (Or.inl rfl) (pe_tup (pa_cons pe_str (pa_cons (pv 1) (pa_cons (pe_tup (pa_cons (pv 2) pa_nil)) pa_nil)))))))
      (pss_one (ps_ret (pv 1))))), ?_⟩
  obtain ⟨v0, hv0⟩ : ∃ v0, xs[0]? = some v0 := ⟨xs[0], List.getElem?_eq_getElem (by omega)⟩
  obtain ⟨p0, t0, _, rfl, ht0⟩ := hp.at hv0
  refine ⟨_, rfl, l, _, _, _, rfl, rfl, SqL.of hl, atI_at (by decide) hv0, t0, _, _, _, rfl, rfl, SqT.of ht0, rfl, le_line (Nat.le_of_ble_eq_true rfl), fun t nt => ?_⟩
  have s1 := same_new nt (.tup [.str "read", .str (SX.S p0.1)])
  refine ⟨_, rfl, _, rfl, l, _, rfl, SqL.of (s1 _ _ hl), fun z nz => ?_⟩
  have s2 := same_new nz (.lst (cutV xs (some 1) none))
  have ec : cutV xs (some 1) none = xs.drop 1 := cut_from xs 1
  refine ⟨z, rfl, ⟨_, SqL.of upd_same⟩, for_list (K := K) (a := z) (xs := cutV xs (some 1) none) (fun i σ H' => ∃ (y : V) (v2 v3 : Option V), σ = [some (.ref l), some y, v2, v3] ∧ Same (upd (upd H t (.tup [.str "read", .str (SX.S p0.1)])) z (.lst (cutV xs (some 1) none))) H' ∧ Tp H' y)
    ⟨_, none, none, rfl, Same.refl _, t, _, rfl, s2 _ _ upd_same⟩ (fun i σ H' _ ⟨_, _, _, _, h, _⟩ => SqL.of (h _ _ upd_same)) ?_ ?_⟩
  · rintro i v σ H1 hv ⟨y, v2, v3, rfl, hs1, hy⟩
    rw [ec] at hv
    obtain ⟨p1, t1, _, rfl, ht1⟩ := (hp.drop 1).at hv
    refine ⟨t1, _, rfl, SqT.of (hs1 _ _ (s2 _ _ (s1 _ _ ht1))), rfl, _, _, rfl, _, _, rfl, rfl, ?_⟩
    refine ⟨_, rfl, _, rfl, le_line (Nat.le_of_ble_eq_true rfl), fun u nu => ⟨le_line (Nat.le_of_ble_eq_true rfl), fun t2 nt2 => ?_⟩⟩
    exact ⟨_, _, _, rfl, hs1.trans ((same_new nu _).trans (same_new nt2 _)), t2, _, rfl, upd_same⟩
  · rintro σ H1 ⟨y, v2, v3, rfl, hs1, hy⟩
    exact ⟨_, rfl, q _ y (s1.trans (s2.trans hs1)) hy⟩
theorem rg3 : ∀ n : Nat, n < 61 → ∀ f : Nat, f < 3 → f ≤ n → Builtin.Range.small f n 3 = true ∧ Builtin.Range.rangeSize f n 3 = (((n - f + 2) / 3 : Nat) : Int) := by decide +kernel
abbrev s_grouped : Stmt := topS 12
abbrev N_grouped : List Str := ["reads", "first", "found", "at"]
theorem sc_grouped : FnScope N_grouped ["reads"] (defScope s_grouped) := ⟨rfl, rfl, rfl, by decide +kernel, rfl, by decide +kernel, by decide +kernel⟩

theorem ok_grouped (T : Txt K mg) (gL : ∃ t, mg "LONGEST" = some (.int 3 t)) (D : IsDef K mg "grouped" s_grouped ["reads"]) : Cal P w K mg base CX0 1 "grouped" ["reads"] spGrouped := by
  refine D.cal sc_grouped (fun vs H Q E h => ?_) (fun f cdv A outer s H vs Q E hr h => ?_)
  · obtain ⟨a, xs, ps, rfl, _⟩ := h
    rfl
  obtain ⟨a, xs, ps, rfl, ha, hp, h60, q⟩ := h
  obtain ⟨_, g_LONGEST⟩ := gL
  refine ⟨_, (pss_cons (ps_set (i := 1) sc_grouped.nd rfl (Or.inl rfl) (pe_op op_mod (pe_callB call_len_seq (by rfl) T.b_len PySem.boot_len (pa_cons (pv 0) pa_nil)) (pe_glob (v := .int _) rfl g_LONGEST ⟨_, rfl⟩)))
      (pss_cons (ps_set (i := 2) sc_grouped.nd rfl (Or.inl rfl) (pe_lst pa_nil))
      (pss_cons (ps_if (pt_cmpR op_gt (pv 1) pe_int (nomark _))
        (pss_one (ps_expr (pe_bm PySem.F.plainAttrs_list PySem.F.slot_list_append PySem.F.type_list_append mt_append (pv 2) (pa_cons (pe_slice (r := rSlL K) sl_list (pv 0) po_none (po_some (pv 1))) pa_nil))))
        pss_nil)
      (pss_cons (ps_for PassesOwn.never rfl (pi_range3 rfl T.b_range (pa_cons (pv 1) (pa_cons (pe_callB call_len_seq (by rfl) T.b_len PySem.boot_len (pa_cons (pv 0) pa_nil)) (pa_cons (pe_glob (v := .int _) rfl g_LONGEST ⟨_, rfl⟩) pa_nil)))) (pg_name (i := 3) sc_grouped.nd rfl (Or.inl rfl))
        (pss_one (ps_expr (pe_bm PySem.F.plainAttrs_list PySem.F.slot_list_append PySem.F.type_list_append mt_append (pv 2) (pa_cons (pe_slice (r := rSlL K) sl_list (pv 0) (po_some (pv 3)) (po_some (pe_op op_add (pv 3) (pe_glob (v := .int _) rfl g_LONGEST ⟨_, rfl⟩)))) pa_nil)))))
      (pss_one (ps_ret (pv 2))))))), ?_⟩
  have m0 : 0 ≤ ((xs.length : Nat) : Int) % 3 := Int.emod_nonneg _ (by decide)
  have m1 : ((xs.length : Nat) : Int) % 3 < 3 := Int.emod_lt_of_pos _ (by decide)
  refine ⟨_, rfl, a, _, rfl, .inl (SqL.of ha), _, _, rfl, rfl, (by show (0 : Int) < 3; decide), ?_⟩
  refine ⟨le_line (Nat.le_of_ble_eq_true rfl), fun F nF => ?_⟩
  refine ⟨_, rfl, _, _, rfl, rfl, _, rfl, ?_⟩
  have hlF : a ≠ F := ne_of_none ha nF
  have rg := rg3 xs.length (by omega) (((xs.length : Nat) : Int) % 3).toNat (by omega) (by omega)
  rw [show ((((((xs.length : Nat) : Int) % 3).toNat : Nat) : Int)) = ((xs.length : Nat) : Int) % 3 by omega] at rg
  refine ite2 (fun c => ?_) (fun c => ?_)
  · have c2 : ((xs.length : Nat) : Int) % 3 > 0 := of_decide_eq_true c
    refine ⟨_, rfl, .inl ⟨rfl, _, SqL.of upd_same⟩, _, rfl, _, rfl, _, rfl, a, _, rfl, SqL.of ((same_new nF _) _ _ ha), fun z nz => ?_⟩
    have hc : cutV xs none (some (((xs.length : Nat) : Int) % 3)) = xs.take (((xs.length : Nat) : Int) % 3).toNat := by
      have := cut_to xs (((xs.length : Nat) : Int) % 3).toNat
      rw [show ((((((xs.length : Nat) : Int) % 3).toNat : Nat) : Int)) = ((xs.length : Nat) : Int) % 3 by omega] at this
      exact this
    rw [hc]
    obtain ⟨hM, hF⟩ := Mk.more (P := Grp) grp_mono (Mk.start nF) (q := z) (o := .lst (xs.take (((xs.length : Nat) : Int) % 3).toNat)) (x := .ref z) nz fun B hB nB => ⟨z, _, ps.take (((xs.length : Nat) : Int) % 3).toNat, rfl, upd_same, (hp.same (hB.trans (same_new nB _))).take _, by rw [List.length_take]; omega, by rw [List.length_take]; omega⟩
    refine ⟨F, _, _, rfl, rfl, hF, lt_line (by decide), ?_⟩
    refine ⟨_, rfl, _, rfl, a, _, rfl, .inl (SqL.of (hM.same _ _ ha)), _, _, 3, (xs.length - (((xs.length : Nat) : Int) % 3).toNat + 2) / 3, rfl, ⟨by decide, by decide, rg.1, rg.2⟩, for_rangeC (lo := ((xs.length : Nat) : Int) % 3) (c := 3) (n := (xs.length - (((xs.length : Nat) : Int) % 3).toNat + 2) / 3)
      (fun i σ H' => ∃ (v3 : Option V) (gs : List V), σ = [some (.ref a), some (.int (((xs.length : Nat) : Int) % 3)), some (.ref F), v3] ∧ Mk Grp H H' F gs ∧ gs.length = i + 1) ⟨none, [.ref z], rfl, hM, rfl⟩ ?_ ?_⟩
    · rintro i σ H3 hi ⟨v3, gs, rfl, hM3, hn⟩
      refine ⟨_, rfl, .inl ⟨rfl, _, SqL.of hM3.at⟩, _, rfl, _, rfl, _, rfl, _, rfl, _, _, rfl, rfl, _, rfl, a, _, rfl, SqL.of (hM3.same _ _ ha), fun z nz => ?_⟩
      have hc : cutV xs (some (((xs.length : Nat) : Int) % 3 + (i : Int) * 3)) (some (((xs.length : Nat) : Int) % 3 + (i : Int) * 3 + 3)) = (xs.drop ((((xs.length : Nat) : Int) % 3).toNat + i * 3)).take 3 := by
        have := cut_nat xs (a := (((xs.length : Nat) : Int) % 3).toNat + i * 3) (b := (((xs.length : Nat) : Int) % 3).toNat + i * 3 + 3) (by omega)
        rw [show ((((((xs.length : Nat) : Int) % 3).toNat + i * 3 : Nat) : Int)) = ((xs.length : Nat) : Int) % 3 + (i : Int) * 3 by omega, show ((((((xs.length : Nat) : Int) % 3).toNat + i * 3 + 3 : Nat) : Int)) = ((xs.length : Nat) : Int) % 3 + (i : Int) * 3 + 3 by omega] at this
        rw [this]
        congr 1
        omega
      rw [hc]
      obtain ⟨hM4, hF4⟩ := Mk.more (P := Grp) grp_mono hM3 (q := z) (o := .lst ((xs.drop ((((xs.length : Nat) : Int) % 3).toNat + i * 3)).take 3)) (x := .ref z) nz fun B hB nB => ⟨z, _, (ps.drop ((((xs.length : Nat) : Int) % 3).toNat + i * 3)).take 3, rfl, upd_same, ((hp.same (hB.trans (same_new nB _))).drop _).take _, by rw [List.length_take, List.length_drop]; omega, by rw [List.length_take]; omega⟩
      exact ⟨F, _, _, rfl, rfl, hF4, lt_line (by omega), _, _, rfl, hM4, by rw [List.length_append, hn]; show i + 1 + 1 = _; omega⟩
    · rintro σ H3 ⟨v3, gs, rfl, hM3, hn⟩
      obtain ⟨B, h1, h2, h3, h4, h5⟩ := id hM3
      exact ⟨_, rfl, q _ F gs hM3.same h4 (by omega) (Mk.fin (P := Grp) grp_mono hM3)⟩
  ·
    have hM := Mk.start (P := Grp) nF
    refine ⟨_, rfl, _, rfl, a, _, rfl, .inl (SqL.of (hM.same _ _ ha)), _, _, 3, (xs.length - (((xs.length : Nat) : Int) % 3).toNat + 2) / 3, rfl, ⟨by decide, by decide, rg.1, rg.2⟩, for_rangeC (lo := ((xs.length : Nat) : Int) % 3) (c := 3) (n := (xs.length - (((xs.length : Nat) : Int) % 3).toNat + 2) / 3)
      (fun i σ H' => ∃ (v3 : Option V) (gs : List V), σ = [some (.ref a), some (.int (((xs.length : Nat) : Int) % 3)), some (.ref F), v3] ∧ Mk Grp H H' F gs ∧ gs.length = i + 0) ⟨none, [], rfl, hM, rfl⟩ ?_ ?_⟩
    · rintro i σ H3 hi ⟨v3, gs, rfl, hM3, hn⟩
      refine ⟨_, rfl, .inl ⟨rfl, _, SqL.of hM3.at⟩, _, rfl, _, rfl, _, rfl, _, rfl, _, _, rfl, rfl, _, rfl, a, _, rfl, SqL.of (hM3.same _ _ ha), fun z nz => ?_⟩
      have hc : cutV xs (some (((xs.length : Nat) : Int) % 3 + (i : Int) * 3)) (some (((xs.length : Nat) : Int) % 3 + (i : Int) * 3 + 3)) = (xs.drop ((((xs.length : Nat) : Int) % 3).toNat + i * 3)).take 3 := by
        have := cut_nat xs (a := (((xs.length : Nat) : Int) % 3).toNat + i * 3) (b := (((xs.length : Nat) : Int) % 3).toNat + i * 3 + 3) (by omega)
        rw [show ((((((xs.length : Nat) : Int) % 3).toNat + i * 3 : Nat) : Int)) = ((xs.length : Nat) : Int) % 3 + (i : Int) * 3 by omega, show ((((((xs.length : Nat) : Int) % 3).toNat + i * 3 + 3 : Nat) : Int)) = ((xs.length : Nat) : Int) % 3 + (i : Int) * 3 + 3 by omega] at this
        rw [this]
        congr 1
        omega
      rw [hc]
      obtain ⟨hM4, hF4⟩ := Mk.more (P := Grp) grp_mono hM3 (q := z) (o := .lst ((xs.drop ((((xs.length : Nat) : Int) % 3).toNat + i * 3)).take 3)) (x := .ref z) nz fun B hB nB => ⟨z, _, (ps.drop ((((xs.length : Nat) : Int) % 3).toNat + i * 3)).take 3, rfl, upd_same, ((hp.same (hB.trans (same_new nB _))).drop _).take _, by rw [List.length_take, List.length_drop]; omega, by rw [List.length_take]; omega⟩
      exact ⟨F, _, _, rfl, rfl, hF4, lt_line (by omega), _, _, rfl, hM4, by rw [List.length_append, hn]; show i + 0 + 1 = _; omega⟩
    · rintro σ H3 ⟨v3, gs, rfl, hM3, hn⟩
      obtain ⟨B, h1, h2, h3, h4, h5⟩ := id hM3
      exact ⟨_, rfl, q _ F gs hM3.same h4 (by omega) (Mk.fin (P := Grp) grp_mono hM3)⟩
theorem rg2t : ∀ n : Nat, n < 151 → Builtin.Range.small 0 n 2 = true ∧ Builtin.Range.rangeSize 0 n 2 = (((n + 1) / 2 : Nat) : Int) := by decide +kernel
theorem at_two {xs : List V} {i : Nat} {x : V} (j : Int) (hj : j = 2 * (i : Int)) (h : xs[2 * i]? = some x) : atI xs j = some x := by
  rw [hj, show 2 * (i : Int) = ((2 * i : Nat) : Int) by omega]
  exact atI_nat h
theorem at_two1 {xs : List V} {i : Nat} {x : V} (j : Int) (hj : j = 2 * (i : Int) + 1) (h : xs[2 * i + 1]? = some x) : atI xs j = some x := by
  rw [hj, show 2 * (i : Int) + 1 = ((2 * i + 1 : Nat) : Int) by omega]
  exact atI_nat h
abbrev s_summed_up : Stmt := topS 13
abbrev N_summed_up : List Str := ["parts", "left", "pairs", "k"]
theorem sc_summed_up : FnScope N_summed_up ["parts"] (defScope s_summed_up) := ⟨rfl, rfl, rfl, by decide +kernel, rfl, by decide +kernel, by decide +kernel⟩

theorem ok_summed_up (T : Txt K mg) (D : IsDef K mg "summed_up" s_summed_up ["parts"]) : Cal P w K mg base CX0 1 "summed_up" ["parts"] spSummedUp := by
  refine D.cal sc_summed_up (fun vs H Q E h => ?_) (fun f cdv A outer s H vs Q E hr h => ?_)
  · obtain ⟨a, xs, rfl, _⟩ := h
    rfl
  obtain ⟨a, xs0, rfl, ha, h1, h150, htp, q⟩ := h
  refine ⟨_, (pss_cons (ps_set (i := 1) sc_summed_up.nd rfl (Or.inl rfl) (pe_callTy call_list_of (by rfl) T.b_list (by decide +kernel) (pa_cons (pv 0) pa_nil)))
      (pss_cons (ps_while PassesOwn.never (pt_cmpR op_gt (pe_callB call_len_seq (by rfl) T.b_len PySem.boot_len (pa_cons (pv 1) pa_nil)) pe_int (nomark _))
        (pss_cons (ps_set (i := 2) sc_summed_up.nd rfl (Or.inl rfl) (pe_lst pa_nil))
      (pss_cons (ps_for PassesOwn.never rfl (pi_range3 rfl T.b_range (pa_cons pe_int (pa_cons (pe_op op_sub (pe_callB call_len_seq (by rfl) T.b_len PySem.boot_len (pa_cons (pv 1) pa_nil)) pe_int) (pa_cons pe_int pa_nil)))) (pg_name (i := 3) sc_summed_up.nd rfl (Or.inl rfl))
        (pss_one (ps_expr (pe_bm PySem.F.plainAttrs_list PySem.F.slot_list_append PySem.F.type_list_append mt_append (pv 2) (pa_cons (pe_tup (pa_cons pe_str (pa_cons (pe_ix (r := rIxL K) ix_list (pv 1) (pv 3) (fun _ _ => rfl)) (pa_cons (pe_ix (r := rIxL K) ix_list (pv 1) (pe_op op_add (pv 3) pe_int) (fun _ _ => rfl)) pa_nil)))) pa_nil)))))
      (pss_cons (ps_if (pt_cmpR op_eq (pe_op op_mod (pe_callB call_len_seq (by rfl) T.b_len PySem.boot_len (pa_cons (pv 1) pa_nil)) pe_int) pe_int (nomark _))
        (pss_one (ps_expr (pe_bm PySem.F.plainAttrs_list PySem.F.slot_list_append PySem.F.type_list_append mt_append (pv 2) (pa_cons (pe_ix (r := rIxL K) ix_list (pv 1) (pe_un un_neg pe_int) (fun _ _ => rfl)) pa_nil))))
        pss_nil)
      (pss_one (ps_set (i := 1) sc_summed_up.nd rfl (Or.inl rfl) (pv 2)))))))
      (pss_one (ps_ret (pe_ix (r := rIxL K) ix_list (pv 1) pe_int (fun _ _ => rfl)))))), ?_⟩
  refine ⟨_, rfl, a, xs0, rfl, .inl (SqL.of ha), fun L0 nL0 => ?_⟩
  refine ⟨fun m σ H' => ∃ (L : Addr) (xs : List V) (v2 v3 : Option V), σ = [some (.ref a), some (.ref L), v2, v3] ∧ Same H H' ∧ H' L = some (.lst xs) ∧ 1 ≤ xs.length ∧ xs.length ≤ 150 ∧ (∀ x ∈ xs, Tp H' x) ∧ m = xs.length,
    ⟨_, L0, xs0, none, none, rfl, same_new nL0 _, upd_same, h1, h150, fun x hx => (htp x hx).same (same_new nL0 _), rfl⟩, ?_⟩
  rintro m σ H2 ⟨L, xs, v2, v3, rfl, hs, hL, l1, l150, ht, rfl⟩
  refine ⟨_, rfl, L, _, rfl, .inl (SqL.of hL), _, _, rfl, rfl, _, rfl, ?_⟩
  refine ite2 (fun c => ?_) (fun c => ?_)
  · have c2 : ((xs.length : Nat) : Int) > 1 := of_decide_eq_true c
    refine ⟨_, fun σ' H' h => h, ?_⟩
    have rg := rg2t (xs.length - 1) (by omega)
    have en : ((xs.length : Nat) : Int) - 1 = ((xs.length - 1 : Nat) : Int) := by omega
    refine ⟨le_line (Nat.le_of_ble_eq_true rfl), fun F nF => ?_⟩
    refine ⟨_, rfl, L, _, rfl, .inl (SqL.of (same_new nF _ _ _ hL)), _, _, rfl, rfl, 0, _, 2, (xs.length - 1 + 1) / 2, rfl, ⟨by decide, by decide, by rw [en]; exact rg.1, by rw [en]; exact rg.2⟩, for_rangeC (lo := 0) (c := 2) (n := (xs.length - 1 + 1) / 2)
      (fun i σ H' => ∃ (v3 : Option V) (gs : List V), σ = [some (.ref a), some (.ref L), some (.ref F), v3] ∧ Mk Tp H2 H' F gs ∧ gs.length = i) ⟨_, [], rfl, Mk.start nF, rfl⟩ ?_ ?_⟩
    · rintro i σ H3 hi ⟨w3, gs, rfl, hM, hn⟩
      have hL3 := hM.same _ _ hL
      have i1 : 2 * i < xs.length := by omega
      have i2 : 2 * i + 1 < xs.length := by omega
      refine ⟨_, rfl, .inl ⟨rfl, _, SqL.of hM.at⟩, _, rfl, _, rfl, L, _, _, _, rfl, rfl, SqL.of hL3, at_two _ (by omega) (List.getElem?_eq_getElem i1), _, rfl, _, rfl, _, _, rfl, rfl, L, _, _, _, rfl, rfl, SqL.of hL3, at_two1 _ (by omega) (List.getElem?_eq_getElem i2), le_line (Nat.le_of_ble_eq_true rfl), fun u nu => ?_⟩
      obtain ⟨hM4, hF4⟩ := Mk.more (P := Tp) tp_mono hM (q := u) (o := .tup [.str "plus", xs[2 * i], xs[2 * i + 1]]) (x := .ref u) nu fun B hB nB => ⟨u, _, rfl, upd_same⟩
      exact ⟨F, _, _, rfl, rfl, hF4, lt_line (by omega), _, _, rfl, hM4, by rw [List.length_append, hn]; rfl⟩
    · rintro σ H3 ⟨w3, gs, rfl, hM, hn⟩
      have hL3 := hM.same _ _ hL
      refine ⟨_, rfl, L, _, rfl, .inl (SqL.of hL3), _, _, rfl, rfl, (by show (0 : Int) < 2; decide), rfl, _, rfl, ?_⟩
      refine ite2 (fun c3 => ?_) (fun c3 => ?_)
      · have c4 : ((xs.length : Nat) : Int) % 2 = 1 := V.int.inj (of_decide_eq_true c3)
        obtain ⟨ys, y, hy⟩ : ∃ ys y, xs = ys ++ [y] := by
          refine ⟨xs.dropLast, xs.getLast (by intro e; rw [e] at l1; cases l1), ?_⟩
          rw [List.dropLast_concat_getLast]
        have hat : atI xs (-1) = some y := by rw [hy]; exact atI_last _ _
        obtain ⟨hM4, hF4⟩ := hM.old (x := y) fun B hB => (ht y (by rw [hy]; simp)).same hB
        refine ⟨_, rfl, .inl ⟨rfl, _, SqL.of hM.at⟩, _, rfl, _, rfl, L, _, _, _, rfl, rfl, SqL.of hL3, hat, F, _, _, rfl, rfl, hF4, lt_line (by omega), ?_⟩
        have hgl : (gs ++ [y]).length = gs.length + 1 := by simp
        exact ⟨_, rfl, _, by rw [hgl]; omega, F, _, _, _, rfl, hs.trans hM4.same, hM4.at, by omega, by omega, Mk.fin (P := Tp) tp_mono hM4, rfl⟩
      · have c4 : ¬ ((xs.length : Nat) : Int) % 2 = 1 := fun z => c3 (decide_eq_true (congrArg V.int z))
        exact ⟨_, rfl, _, by omega, F, _, _, _, rfl, hs.trans hM.same, hM.at, by omega, by omega, Mk.fin (P := Tp) tp_mono hM, rfl⟩
  · have c2 : ¬ ((xs.length : Nat) : Int) > 1 := fun z => c (decide_eq_true z)
    have e0 : xs[0]? = some xs[0] := List.getElem?_eq_getElem (by omega)
    exact ⟨_, rfl, L, _, _, _, rfl, rfl, SqL.of hL, atI_at (by decide) e0, q _ _ hs (ht _ (List.getElem_mem _))⟩
end
/-! ### sums of reads as recipes -/
theorem Recs.app {H : Hp} : ∀ {rs ss : List Rcp} {vs us : List V}, Recs H rs vs → Recs H ss us → Recs H (rs ++ ss) (vs ++ us)
  | [], _, [], _, _, h => h
  | _ :: _, _, _ :: _, _, h, g => ⟨h.1, Recs.app h.2 g⟩
  | [], _, _ :: _, _, h, _ => h.elim
  | _ :: _, _, [], _, h, _ => h.elim
theorem Recs.drop {H : Hp} : ∀ (n : Nat) {rs : List Rcp} {vs : List V}, Recs H rs vs → Recs H (rs.drop n) (vs.drop n)
  | 0, _, _, h => h
  | _ + 1, [], [], h => h
  | n + 1, _ :: _, _ :: _, h => Recs.drop n h.2
  | _ + 1, [], _ :: _, h => h.elim
  | _ + 1, _ :: _, [], h => h.elim
theorem recs_lst {H : Hp} {D : Addr} {xs ys : List V} {rs : List Rcp} {vs : List V} (h : Recs H rs vs) (hD : H D = some (.lst xs)) : Recs (upd H D (.lst ys)) rs vs := h.keep (keep_lst hD)
def Long3 (H0 H : Hp) (D : Addr) (rs : List Rcp) (j : Nat) : Prop := Same H0 H ∧ (∃ xs, H D = some (.lst xs) ∧ Recs H rs xs) ∧ ∀ r ∈ rs, r.Good ∧ r.dep ≤ j
theorem Long3.put {H0 H H1 : Hp} {D : Addr} {rs : List Rcp} {j : Nat} {r : Rcp} {v : V} (k : Long3 H0 H D rs j) (n0 : H0 D = none) (s : Same H H1) (hr : Rec H1 r v) (hg : r.Good ∧ r.dep ≤ j) :
    ∃ xs, H1 D = some (.lst xs) ∧ xs.length = rs.length ∧ Long3 H0 (upd H1 D (.lst (xs ++ [v]))) D (rs ++ [r]) j := by
  obtain ⟨h1, ⟨xs, hD, hR⟩, h3⟩ := k
  refine ⟨xs, s _ _ hD, hR.len, same_upd (h1.trans s) n0 _, ⟨_, upd_same, recs_lst (Recs.snoc hr (hR.keep (same_keep s))) (s _ _ hD)⟩, fun x hx => ?_⟩
  rcases List.mem_append.mp hx with h | h
  · exact h3 x h
  · rw [List.mem_singleton.mp h]
    exact hg
theorem pow6 : ∀ j : Nat, 1 ≤ j → j ≤ 6 → ∀ m : Nat, m ≤ 2 ^ (6 - j) → 2 ≤ m → j + 1 ≤ 6 ∧ (m + 1) / 2 ≤ 2 ^ (6 - (j + 1)) := by
  intro j h1 h7 m hm h2
  have e : j = 1 ∨ j = 2 ∨ j = 3 ∨ j = 4 ∨ j = 5 ∨ j = 6 := by omega
  rcases e with rfl | rfl | rfl | rfl | rfl | rfl <;> simp at hm ⊢ <;> omega
section
variable {P : Program} {w : World} {K : PySem.W.Frag} {mg : Str → Option Value} {base : Heap}
abbrev s__law_summed : Stmt := topS 29
abbrev N__law_summed : List Str := ["reads", "worth", "parts", "pairs", "name", "number", "k"]
theorem sc__law_summed : FnScope N__law_summed ["reads", "worth"] (defScope s__law_summed) := ⟨rfl, rfl, rfl, by decide +kernel, rfl, by decide +kernel, by decide +kernel⟩

theorem ok__law_summed (T : Txt K mg) (D : IsDef K mg "_law_summed" s__law_summed ["reads", "worth"]) : Cal P w K mg base CX0 1 "_law_summed" ["reads", "worth"] spSummed3 := by
  refine D.cal sc__law_summed (fun vs H Q E h => ?_) (fun f cdv A outer s H vs Q E hr h => ?_)
  · obtain ⟨a, xs, ps, wo, rfl, _⟩ := h
    rfl
  obtain ⟨a, xs0, ps, wo, rfl, ha, hp, h29, hnm, hwo, q⟩ := h
  refine ⟨_, (pss_cons (ps_set (i := 2) sc__law_summed.nd rfl (Or.inr rfl) (pe_lc (own := [("name", 4), ("number", 5)]) (g := gTup K 2 (gCons (gName 4) (gCons (gName 5) gNil)))  (by rfl) sc__law_summed.nd  (pi_list (pv 0)) (blkOk_by (own := [("name", 4), ("number", 5)]) (N := N__law_summed) (sc := defScope s__law_summed) (by decide +kernel)) (fun _ _ _ _ _ => (pg_tup rfl (pgs_cons (pg_name (i := 4) sc__law_summed.nd rfl (Or.inl rfl)) (pgs_cons (pg_name (i := 5) sc__law_summed.nd rfl (Or.inl rfl)) pgs_nil)))) (fun _ _ _ _ _ => pts_nil) (fun _ _ _ _ _ => (pe_tup (pa_cons pe_str (pa_cons (pv 4) pa_nil))))))
      (pss_cons (ps_expr (pe_bm PySem.F.plainAttrs_list PySem.F.slot_list_append PySem.F.type_list_append mt_append (pv 2) (pa_cons (pe_tup (pa_cons pe_str (pa_cons (pe_op op_sub (pv 1) (pe_callB (cr_sum rfl) (by rfl) T.b_sum (by decide +kernel) (pa_cons (pe_lc (own := [("name", 4), ("number", 5)]) (g := gTup K 2 (gCons (gName 4) (gCons (gName 5) gNil)))  (by rfl) sc__law_summed.nd  (pi_list (pv 0)) (blkOk_by (own := [("name", 4), ("number", 5)]) (N := N__law_summed) (sc := defScope s__law_summed) (by decide +kernel)) (fun _ _ _ _ _ => (pg_tup rfl (pgs_cons (pg_name (i := 4) sc__law_summed.nd rfl (Or.inl rfl)) (pgs_cons (pg_name (i := 5) sc__law_summed.nd rfl (Or.inl rfl)) pgs_nil)))) (fun _ _ _ _ _ => pts_nil) (fun _ _ _ _ _ => (pv 5))) pa_nil))) pa_nil))) pa_nil)))
      (pss_cons (ps_while PassesOwn.never (pt_cmpR op_gt (pe_callB call_len_seq (by rfl) T.b_len PySem.boot_len (pa_cons (pv 2) pa_nil)) pe_int (nomark _))
        (pss_cons (ps_setLc (i := 3) (own := [("k", 6)]) (g := gName 6)  (by rfl) sc__law_summed.nd rfl rfl (sw_true rfl rfl rfl (by decide +kernel)) (pi_range3 rfl T.b_range (pa_cons pe_int (pa_cons (pe_op op_sub (pe_callB call_len_seq (by rfl) T.b_len PySem.boot_len (pa_cons (pv 2) pa_nil)) pe_int) (pa_cons pe_int pa_nil)))) (blkOk_by (own := [("k", 6)]) (N := N__law_summed) (sc := defScope s__law_summed) (by decide +kernel)) (fun _ _ _ _ _ => (pg_name (i := 6) sc__law_summed.nd rfl (Or.inl rfl))) (fun _ _ _ _ _ => pts_nil) (fun _ _ _ _ _ => (pe_tup (pa_cons pe_str (pa_cons (pe_ix (r := rIxL K) ix_list (pv 2) (pv 6) (fun _ _ => rfl)) (pa_cons (pe_ix (r := rIxL K) ix_list (pv 2) (pe_op op_add (pv 6) pe_int) (fun _ _ => rfl)) pa_nil))))))
      (pss_one (ps_set (i := 2) sc__law_summed.nd rfl (Or.inr rfl) (pe_op op_cat (pv 3) (pe_slice (r := rSlL K) sl_list (pv 2) (po_some (pe_op op_mul (pe_callB call_len_seq (by rfl) T.b_len PySem.boot_len (pa_cons (pv 3) pa_nil)) pe_int)) po_none))))))
      (pss_one (ps_ret (pe_ix (r := rIxL K) ix_list (pv 2) pe_int (fun _ _ => rfl))))))), ?_⟩
  have hxl := hp.len
  refine ⟨_, rfl, a, rfl, ⟨_, SqL.of ha⟩, fun L nL => lc_list (K := K) (a := a) (xs := xs0) (fun i H' => ∃ rs, Long3 H H' L rs 1 ∧ rs.length = i) ⟨[], ⟨same_new nL _, ⟨[], upd_same, trivial⟩, fun r h => nomatch h⟩, rfl⟩ (fun i H' _ ⟨_, h, _⟩ => SqL.of (h.1 _ _ ha)) ?_ ?_⟩
  · rintro i x H1 hx ⟨rs, hL, hn⟩
    obtain ⟨p, t, hpi, rfl, ht⟩ := hp.at hx
    refine ⟨t, _, rfl, SqT.of (hL.1 _ _ ht), rfl, _, _, rfl, _, _, rfl, rfl, rfl, _, rfl, le_line (Nat.le_of_ble_eq_true rfl), fun u nu => ?_⟩
    obtain ⟨ys, hy, hl, hL2⟩ := hL.put nL (same_new nu (.tup [.str "read", .str (SX.S p.1)])) (r := .read p.1) (v := .ref u) ⟨u, rfl, upd_same⟩ ⟨hnm p (List.mem_of_getElem? hpi), Nat.le_refl _⟩
    have := (List.getElem?_eq_some_iff.mp hx).1
    exact ⟨ys, hy, lt_line (by omega), _, hL2, by rw [List.length_append, hn]; rfl⟩
  rintro H1 ⟨rs, hL, hn⟩
  obtain ⟨ys, hy, hR⟩ := hL.2.1
  refine ⟨_, rfl, .inl ⟨rfl, _, SqL.of hy⟩, _, rfl, _, rfl, a, rfl, ⟨_, SqL.of (hL.1 _ _ ha)⟩, fun N nN => lc_list (K := K) (a := a) (xs := xs0) (fun i H' => Same H1 H' ∧ H' N = some (.lst (((ps.take i).map (·.2)).map V.int))) ⟨same_new nN _, upd_same⟩ (fun i H' _ h => SqL.of (h.1 _ _ (hL.1 _ _ ha))) ?_ ?_⟩
  · rintro i x H2 hx ⟨hs, hN⟩
    obtain ⟨p, t, hpi, rfl, ht⟩ := hp.at hx
    refine ⟨t, _, rfl, SqT.of (hs _ _ (hL.1 _ _ ht)), rfl, _, _, rfl, _, _, rfl, rfl, rfl, _, rfl, _, hN, ?_, same_upd hs nN _, ?_⟩
    · rw [List.length_map, List.length_map, List.length_take]
      exact lt_line (by omega)
    · rw [upd_same, List.take_add_one, hpi, List.map_append, List.map_append]
      rfl
  rintro H2 ⟨hs2, hN2⟩
  rw [List.take_of_length_le (by omega)] at hN2
  refine ⟨N, ps.map (·.2), rfl, SqL.of hN2, _, _, rfl, rfl, le_line (Nat.le_of_ble_eq_true rfl), fun u nu => ?_⟩
  obtain ⟨ys2, hy2, hl2, hL2⟩ := hL.put nL (hs2.trans (same_new nu (.tup [.str "number", .int (wo - (ps.map (·.2)).sum)]))) (r := .num (wo - (ps.map (·.2)).sum)) (v := .ref u) ⟨u, rfl, upd_same⟩ ⟨hwo, Nat.le_refl _⟩
  refine ⟨L, _, _, rfl, rfl, hy2, lt_line (by omega), ?_⟩
  refine ⟨fun m σ H' => ∃ (D2 : Addr) (rs : List Rcp) (j : Nat) (v3 : Option V), σ = [some (.ref a), some (.int wo), some (.ref D2), v3, none, none, none] ∧ Long3 H H' D2 rs j ∧ 1 ≤ j ∧ j ≤ 6 ∧ rs.length ≤ 2 ^ (6 - j) ∧ 1 ≤ rs.length ∧ rs.length ≤ 32 ∧ m = rs.length,
    ⟨_, L, _, 1, none, rfl, hL2, Nat.le_refl _, by decide, by rw [List.length_append]; show _ + 1 ≤ 32; omega, by rw [List.length_append]; show 1 ≤ _ + 1; omega, by rw [List.length_append]; show _ + 1 ≤ 32; omega, rfl⟩, ?_⟩
  rintro m σ H3 ⟨D2, rs, j, v3, rfl, hL3, j1, j6, hm, l1, l32, rfl⟩
  obtain ⟨hs3, ⟨xs, hD, hR⟩, hg⟩ := id hL3
  have hxl := hR.len
  refine ⟨_, rfl, D2, _, rfl, .inl (SqL.of hD), _, _, rfl, rfl, _, rfl, ?_⟩
  refine ite2 (fun c => ?_) (fun c => ?_)
  · have c2 : ((xs.length : Nat) : Int) > 1 := of_decide_eq_true c
    have h2 : 2 ≤ rs.length := by omega
    obtain ⟨j7, hm2⟩ := pow6 j j1 j6 _ hm h2
    refine ⟨_, fun σ' H' h => h, ?_⟩
    have rg := rg2t (xs.length - 1) (by omega)
    have en : ((xs.length : Nat) : Int) - 1 = ((xs.length - 1 : Nat) : Int) := by omega
    refine ⟨_, rfl, D2, _, rfl, .inl (SqL.of hD), _, _, rfl, rfl, 0, _, 2, (xs.length - 1 + 1) / 2, rfl, ⟨by decide, by decide, by rw [en]; exact rg.1, by rw [en]; exact rg.2⟩, fun D3 nD3 => lcC (lo := 0) (c := 2) (n := (xs.length - 1 + 1) / 2)
      (fun i H' => ∃ rs', Long3 H3 H' D3 rs' (j + 1) ∧ rs'.length = i) ⟨[], ⟨same_new nD3 _, ⟨[], upd_same, trivial⟩, fun r h => nomatch h⟩, rfl⟩ ?_ ?_⟩
    · rintro i H4 hi ⟨rs', hL4, hn4⟩
      have hD4 := hL4.1 _ _ hD
      have i1 : 2 * i < xs.length := by omega
      have i2 : 2 * i + 1 < xs.length := by omega
      obtain ⟨v1, r1, hv1, hr1, hR1⟩ := hR.get (i := 2 * i) (by omega)
      obtain ⟨v2, r2, hv2, hr2, hR2⟩ := hR.get (i := 2 * i + 1) (by omega)
      obtain ⟨g1, d1⟩ := hg r1 (List.mem_of_getElem? hr1)
      obtain ⟨g2, d2⟩ := hg r2 (List.mem_of_getElem? hr2)
      refine ⟨rfl, _, rfl, _, rfl, D2, _, _, _, rfl, rfl, SqL.of hD4, at_two _ (by omega) hv1, _, rfl, _, rfl, _, _, rfl, rfl, D2, _, _, _, rfl, rfl, SqL.of hD4, at_two1 _ (by omega) hv2, le_line (Nat.le_of_ble_eq_true rfl), fun u nu => ?_⟩
      have su := same_new nu (.tup [.str "plus", v1, v2])
      obtain ⟨zs, hz, hlz, hL5⟩ := hL4.put nD3 su (r := .two .plus r1 r2) (v := .ref u) ⟨u, v1, v2, rfl, upd_same, (hR1.same hL4.1).same su, (hR2.same hL4.1).same su⟩ ⟨⟨g1, g2⟩, by show max r1.dep r2.dep + 1 ≤ j + 1; omega⟩
      exact ⟨zs, hz, lt_line (by omega), _, hL5, by rw [List.length_append, hn4]; rfl⟩
    · rintro H4 ⟨rs', hL4, hn4⟩
      obtain ⟨zs, hz, hRz⟩ := hL4.2.1
      have hzl := hRz.len
      have hD4 := hL4.1 _ _ hD
      refine ⟨_, rfl, _, rfl, _, rfl, D3, _, rfl, .inl (SqL.of hz), _, _, rfl, rfl, .inr ⟨by decide, by decide⟩, _, rfl, D2, _, rfl, SqL.of hD4, fun p np => ?_⟩
      have hc : cutV xs (some (((zs.length : Nat) : Int) * 2)) none = xs.drop (zs.length * 2) := by
        have := cut_from xs (zs.length * 2)
        rw [show (((zs.length * 2 : Nat) : Int)) = ((zs.length : Nat) : Int) * 2 by omega] at this
        exact this
      rw [hc]
      have sp := same_new np (.lst (xs.drop (zs.length * 2)))
      refine ⟨D3, p, _, _, rfl, rfl, sp _ _ hz, upd_same, le_line (by rw [List.length_drop]; omega), fun D4 nD4 => ?_⟩
      have s4 := same_new nD4 (.lst (zs ++ xs.drop (zs.length * 2)))
      have hlen : (rs' ++ rs.drop (zs.length * 2)).length = (rs.length + 1) / 2 := by
        rw [List.length_append, List.length_drop]
        omega
      refine ⟨(rs' ++ rs.drop (zs.length * 2)).length, by rw [hlen]; omega, D4, rs' ++ rs.drop (zs.length * 2), j + 1, _, rfl, ⟨hs3.trans (hL4.1.trans (sp.trans s4)), ⟨_, upd_same, ((hRz.keep (same_keep (sp.trans s4))).app ((hR.drop _).keep (same_keep (hL4.1.trans (sp.trans s4)))))⟩, fun r hr => ?_⟩, by omega, j7, by rw [hlen]; exact hm2, by omega, by omega, rfl⟩
      rcases List.mem_append.mp hr with h | h
      · exact hL4.2.2 r h
      · obtain ⟨g1, d1⟩ := hg r (List.mem_of_mem_drop h)
        exact ⟨g1, by omega⟩
  · have c2 : ¬ ((xs.length : Nat) : Int) > 1 := fun z => c (decide_eq_true z)
    obtain ⟨v, r, hv, hr, hRv⟩ := hR.get (i := 0) (by omega)
    obtain ⟨g1, d1⟩ := hg r (List.mem_of_getElem? hr)
    exact ⟨_, rfl, D2, _, _, _, rfl, rfl, SqL.of hD, atI_at (by decide) hv, q _ v r hs3 hRv g1 (by omega)⟩
end
/-! ### defs that raise, an own error class without a word of its own -/
theorem IsDef.calX2 {P : Program} {w : World} {K : PySem.W.Frag} {mg : Str → Option Value} {base : Heap} {x : Str} {st : Stmt} {N ps : List Str} {k : Nat} {sp : Sp} (D : IsDef K mg x st ps) (S : FnScope N ps (defScope st)) (len : ∀ vs H Q E, sp vs H Q E → vs.length = ps.length)
    (hbody : ∀ (f : Addr) (cdv : Value) (A : Around) (outer : List Env) (s : Shared) (H : Hp) (vs : List V) (Q : VK) (E : XK), Room k (A.deeper (envOfC x (defScope st) s.heap.objs.size f cdv)) → sp vs H Q E →
      ∃ t, PSs (cxOf (L2.CX P w) P w K mg base N x (defScope st) f cdv A outer s H E) (defBody st) t ∧ t { nx := fun _ H' => Q .non H', rt := Q } (start N vs) H) : Cal P w K mg base (L2.CX P w) (k + 1) x ps sp := by
  obtain ⟨f, fd, F, m, b⟩ := D
  exact ⟨f, fd, F.okX S len fun cdv A outer s H vs Q E => hbody f cdv A outer s H vs Q E, m, F.kp, b⟩
structure NoX (K : PySem.W.Frag) (mg : Str → Option Value) (n : Str) (C : Addr) : Prop where
  x : PySem.W.excIn K C [.type "ValueError", .type "Exception", .type "BaseException", .type "object"] "ValueError.__new__" = true
  g : mg n = some (.ref C)
  k : PySem.W.keepIn K (.ref C) = true
  b : PySem.W.subIn K (.ref C) (.type "BaseException") = some true
  t : PySem.W.typeIn K (.ref C) = some (.type "type")
theorem call_isXK {X : Cx} {K : PySem.W.Frag} (h : X.K = K) : CallR X (.builtin "isinstance") (rIsX K) := by
  subst h
  exact call_isX
/-! ### twins told or refused -/
def spTwin (C : Addr) : Sp := fun vs H Q E => ∃ (t a : Addr) (x : V) (wo k : Int) (xs : List V) (ps : List (List Nat × Int)), vs = [.ref t, .int k] ∧ H t = some (.tup [x, .ref a, .int wo]) ∧ H a = some (.lst xs) ∧ Prs H ps xs ∧ xs.length ≤ 29 ∧
  ((k < 0 ∨ (xs.length : Int) ≤ k) → ∀ H', Same H H' → E (.ref C) none H') ∧ (0 ≤ k → k < xs.length → ∀ (H' : Hp) (y : V), Same H H' → Tp H' y → Q y H')
theorem Mk.callT {H H' H2 : Hp} {F : Addr} {gs : List V} {x : V} (k : Mk Tp H H' F gs) (s : Same H' H2) (hx : Tp H2 x) : H2 F = some (.lst gs) ∧ Mk Tp H (upd H2 F (.lst (gs ++ [x]))) F (gs ++ [x]) := by
  obtain ⟨B, h1, h2, h3, h4, h5⟩ := k
  have hF := s _ _ h4
  have key : ∀ b u, H2 b = some u → b ≠ F → (fun c => if c = F then none else H2 c) b = some u := fun b u e n => by
    show (if b = F then none else H2 b) = some u
    rw [if_neg n]
    exact e
  refine ⟨hF, fun c => if c = F then none else H2 c, fun b u e => ?_, if_pos rfl, fun b u e => ?_, upd_same, fun y hy => ?_⟩
  · have n : b ≠ F := fun z => by
      rw [z] at e
      have := h1 _ _ e
      rw [h2] at this
      cases this
    exact key b u (s _ _ (h3 _ _ (h1 _ _ e))) n
  · have n : b ≠ F := fun z => by
      rw [z] at e
      have e' : (if F = F then none else H2 F) = some u := e
      rw [if_pos rfl] at e'
      cases e'
    have e' : (if b = F then none else H2 b) = some u := e
    rw [if_neg n] at e'
    rw [upd_ne n]
    exact e'
  · rcases List.mem_append.mp hy with h | h
    · obtain ⟨t, ys, e, ht⟩ := h5 y h
      have n : t ≠ F := fun z => by
        rw [z, h2] at ht
        cases ht
      exact ⟨t, ys, e, key t _ (s _ _ (h3 _ _ ht)) n⟩
    · rw [List.mem_singleton.mp h]
      obtain ⟨t, ys, e, ht⟩ := hx
      have n : t ≠ F := fun z => by
        rw [z, hF] at ht
        cases ht
      exact ⟨t, ys, e, key t _ ht n⟩
section
variable {P : Program} {w : World} {K : PySem.W.Frag} {mg : Str → Option Value} {base : Heap}
abbrev s_twin_of : Stmt := topS 14
abbrev N_twin_of : List Str := ["record", "k", "recipe", "reads", "worth", "groups", "rest", "group"]
theorem sc_twin_of : FnScope N_twin_of ["record", "k"] (defScope s_twin_of) := ⟨rfl, rfl, rfl, by decide +kernel, rfl, by decide +kernel, by decide +kernel⟩

theorem ok_twin_of {C : Addr} (T : Txt K mg) (XNoRead : NoX K mg "NoRead" C) (D : IsDef K mg "twin_of" s_twin_of ["record", "k"]) (C_grouped : Cal P w K mg base CX0 1 "grouped" ["reads"] spGrouped) (C_looked_through : Cal P w K mg base CX0 1 "looked_through" ["reads"] spLooked)
    (C_summed_up : Cal P w K mg base CX0 1 "summed_up" ["parts"] spSummedUp) : Cal P w K mg base (L2.CX P w) 2 "twin_of" ["record", "k"] (spTwin C) := by
  refine D.calX2 sc_twin_of (fun vs H Q E h => ?_) (fun f cdv A outer s H vs Q E hr h => ?_)
  · obtain ⟨t, a, x, wo, k, xs, ps, rfl, _⟩ := h
    rfl
  obtain ⟨t, a, x, wo, k, xs, ps, rfl, ht, ha, hp, h29, qe, q⟩ := h
  refine ⟨_, (pss_cons (ps_asg (pv 0) (pg_tup rfl (pgs_cons (pg_name (i := 2) sc_twin_of.nd rfl (Or.inl rfl)) (pgs_cons (pg_name (i := 3) sc_twin_of.nd rfl (Or.inl rfl)) (pgs_cons (pg_name (i := 4) sc_twin_of.nd rfl (Or.inl rfl)) pgs_nil)))))
      (pss_cons (ps_if (PW.pt (pw_or (pt_cmpR op_lt (pv 1) pe_int (nomark _)) (pw_or1 (pt_cmpR op_ge (pv 1) (pe_callB call_len_seq (by rfl) T.b_len PySem.boot_len (pa_cons (pv 3) pa_nil)) (nomark _)))))
        (pss_one (ps_raise rfl (takes_of rfl rfl rfl rfl) (pmk_own PySem.F.excBase_ValueError XNoRead.x XNoRead.g XNoRead.k (raises_own XNoRead.b XNoRead.t) rfl)))
        pss_nil)
      (pss_cons (ps_set (i := 5) sc_twin_of.nd rfl (Or.inl rfl) (pe_op op_cat (pe_cal C_grouped (hr.mono (by first | decide | omega)) pass0 (pa_cons (pe_slice (r := rSlL K) sl_list (pv 3) po_none (po_some (pe_op op_add (pv 1) pe_int))) pa_nil)) (pe_cal C_grouped (hr.mono (by first | decide | omega)) pass0 (pa_cons (pe_slice (r := rSlL K) sl_list (pv 3) (po_some (pe_op op_add (pv 1) pe_int)) po_none) pa_nil))))
      (pss_cons (ps_set (i := 6) sc_twin_of.nd rfl (Or.inl rfl) (pe_op op_sub (pv 4) (pe_callB (cr_sum rfl) (by rfl) T.b_sum (by decide +kernel) (pa_cons (pe_lc (own := [("group", 7)]) (g := gName 7)  (by rfl) sc_twin_of.nd  (pi_list (pv 5)) (blkOk_by (own := [("group", 7)]) (N := N_twin_of) (sc := defScope s_twin_of) (by decide +kernel)) (fun _ _ _ _ _ => (pg_name (i := 7) sc_twin_of.nd rfl (Or.inl rfl))) (fun _ _ _ _ _ => pts_nil) (fun _ _ _ _ _ => (pe_ix (r := rIxT K) ix_tup (pe_ix (r := rIxL K) ix_list (pv 7) (pe_un un_neg pe_int) (fun _ _ => rfl)) pe_int (fun _ _ => rfl)))) pa_nil))))
      (pss_one (ps_ret (pe_cal C_summed_up (hr.mono (by first | decide | omega)) pass0 (pa_cons (pe_op op_cat (pe_lc (own := [("group", 7)]) (g := gName 7)  (by rfl) sc_twin_of.nd  (pi_list (pv 5)) (blkOk_by (own := [("group", 7)]) (N := N_twin_of) (sc := defScope s_twin_of) (by decide +kernel)) (fun _ _ _ _ _ => (pg_name (i := 7) sc_twin_of.nd rfl (Or.inl rfl))) (fun _ _ _ _ _ => pts_nil) (fun _ _ _ _ _ => (pe_cal C_looked_through (hr.mono (by first | decide | omega)) pass0 (pa_cons (pv 7) pa_nil)))) (pe_lst (pa_cons (pe_tup (pa_cons pe_str (pa_cons (pv 6) pa_nil))) pa_nil))) pa_nil)))))))), ?_⟩
  refine ⟨_, rfl, t, _, rfl, SqT.of ht, rfl, _, _, rfl, _, _, rfl, _, _, rfl, rfl, ?_⟩
  refine ⟨_, rfl, _, _, rfl, rfl, _, rfl, ?_⟩
  by_cases k0 : k < 0
  · exact iteY k0 (qe (.inl k0) _ (Same.refl _))
  refine iteN k0 ?_
  refine ⟨_, rfl, _, rfl, a, _, rfl, .inl (SqL.of ha), _, _, rfl, rfl, _, rfl, ?_⟩
  by_cases k1 : k ≥ ((xs.length : Nat) : Int)
  · exact iteY k1 (qe (.inr k1) _ (Same.refl _))
  refine iteN k1 ?_
  -- the groups
  have hkn : ((k.toNat + 1 : Nat) : Int) = k + 1 := by omega
  have hxl := hp.len
  refine ⟨_, rfl, _, rfl, _, _, rfl, rfl, _, rfl, a, _, rfl, SqL.of ha, fun z1 n1 => ?_⟩
  have c1 : cutV xs none (some (k + 1)) = xs.take (k.toNat + 1) := by
    have := cut_to xs (k.toNat + 1)
    rw [hkn] at this
    exact this
  rw [c1]
  have s1 := same_new n1 (.lst (xs.take (k.toNat + 1)))
  refine ⟨z1, _, _, rfl, upd_same, (hp.same s1).take _, by rw [List.length_take]; omega, fun H1 g1 gs1 hs1 hg1 hl1 hG1 => ?_⟩
  refine ⟨_, rfl, _, rfl, _, _, rfl, rfl, _, rfl, a, _, rfl, SqL.of (hs1 _ _ (s1 _ _ ha)), fun z2 n2 => ?_⟩
  have c2 : cutV xs (some (k + 1)) none = xs.drop (k.toNat + 1) := by
    have := cut_from xs (k.toNat + 1)
    rw [hkn] at this
    exact this
  rw [c2]
  have s2 := same_new n2 (.lst (xs.drop (k.toNat + 1)))
  refine ⟨z2, _, _, rfl, upd_same, (((hp.same s1).same hs1).same s2).drop _, by rw [List.length_drop]; omega, fun H2 g2 gs2 hs2 hg2 hl2 hG2 => ?_⟩
  have s02 : Same H H2 := s1.trans (hs1.trans (s2.trans hs2))
  refine ⟨g1, g2, _, _, rfl, rfl, hs2 _ _ (s2 _ _ hg1), hg2, le_line (by omega), fun G nG => ?_⟩
  have s3 := same_new nG (.lst (gs1 ++ gs2))
  have hGG : ∀ y ∈ gs1 ++ gs2, Grp (upd H2 G (.lst (gs1 ++ gs2))) y := fun y hy => by
    rcases List.mem_append.mp hy with h | h
    · exact (hG1 y h).same (s2.trans (hs2.trans s3))
    · exact (hG2 y h).same s3
  have hGl : (gs1 ++ gs2).length ≤ 122 := by rw [List.length_append]; omega
  obtain ⟨H3, hH3⟩ : ∃ H3, H3 = upd H2 G (.lst (gs1 ++ gs2)) := ⟨_, rfl⟩
  have hGa : H3 G = some (.lst (gs1 ++ gs2)) := by rw [hH3]; exact upd_same
  rw [← hH3] at hGG s3 ⊢
  generalize gs1 ++ gs2 = gs at hGG hGl hGa hH3 s3
  -- the rest
  refine ⟨_, rfl, _, rfl, G, rfl, ⟨_, SqL.of hGa⟩, fun N nN => lc_list (K := K) (a := G) (xs := gs) (fun i H' => Same H3 H' ∧ ∃ ns : List Int, H' N = some (.lst (ns.map V.int)) ∧ ns.length = i) ⟨same_new nN _, [], upd_same, rfl⟩ (fun i H' _ h => SqL.of (h.1 _ _ hGa)) ?_ ?_⟩
  · rintro i y H4 hy ⟨hs4, ns, hN, hn⟩
    obtain ⟨l, ys, qs, rfl, hl, hq, l1, l60⟩ := (hGG y (List.mem_of_getElem? hy)).same hs4
    obtain ⟨zs, z, hz⟩ : ∃ zs z, ys = zs ++ [z] := ⟨ys.dropLast, ys.getLast (by intro e; rw [e] at l1; cases l1), by rw [List.dropLast_concat_getLast]⟩
    have hzi : ys[zs.length]? = some z := by rw [hz]; simp
    obtain ⟨p0, t0, _, rfl, ht0⟩ := hq.at hzi
    have hat : atI ys (-1) = some (.ref t0) := by rw [hz]; exact atI_last _ _
    have := (List.getElem?_eq_some_iff.mp hy).1
    refine ⟨rfl, _, rfl, _, rfl, l, _, _, _, rfl, rfl, SqL.of hl, hat, t0, _, _, _, rfl, rfl, SqT.of ht0, rfl, _, hN, lt_line (by rw [List.length_map]; omega), same_upd hs4 nN _, ns ++ [p0.2], ?_, by rw [List.length_append, hn]; rfl⟩
    rw [upd_same, List.map_append]
    rfl
  rintro H4 ⟨hs4, ns, hN, hn⟩
  refine ⟨N, ns, rfl, SqL.of hN, _, _, rfl, rfl, ?_⟩
  -- the twin
  have hG4 := hs4 _ _ hGa
  refine ⟨_, rfl, G, rfl, ⟨_, SqL.of hG4⟩, fun M nM => lc_list (K := K) (a := G) (xs := gs) (fun i H' => ∃ ys, Mk Tp H4 H' M ys ∧ ys.length = i) ⟨[], Mk.start nM, rfl⟩ (fun i H' _ ⟨_, h, _⟩ => SqL.of (h.same _ _ hG4)) ?_ ?_⟩
  · rintro i y H5 hy ⟨ys, hM, hn5⟩
    have hg5 := ((hGG y (List.mem_of_getElem? hy)).same hs4).same hM.same
    have := (List.getElem?_eq_some_iff.mp hy).1
    refine ⟨rfl, _, rfl, y, rfl, hg5, fun H6 y6 hs6 ht6 => ?_⟩
    obtain ⟨hM6, hM7⟩ := hM.callT hs6 ht6
    exact ⟨ys, hM6, lt_line (by omega), _, hM7, by rw [List.length_append, hn5]; rfl⟩
  rintro H5 ⟨ys, hM, hn5⟩
  refine ⟨_, rfl, le_line (Nat.le_of_ble_eq_true rfl), fun u nu => ⟨le_line (Nat.le_of_ble_eq_true rfl), fun l2 nl2 => ?_⟩⟩
  have su := same_new nu (.tup [.str "number", .int (wo - ns.sum)])
  have sl := same_new nl2 (.lst [.ref u])
  refine ⟨M, l2, _, _, rfl, rfl, sl _ _ (su _ _ hM.at), upd_same, le_line (by show ys.length + 1 ≤ _; omega), fun D8 nD8 => ?_⟩
  have s8 := same_new nD8 (.lst (ys ++ [.ref u]))
  refine ⟨D8, _, rfl, upd_same, by rw [List.length_append]; show 1 ≤ _ + 1; omega, by rw [List.length_append]; show _ + 1 ≤ 150; omega, fun y hy => ?_, fun H6 y hs6 ht6 => ?_⟩
  · rcases List.mem_append.mp hy with h | h
    · exact (Mk.fin (P := Tp) tp_mono hM y h).same (su.trans (sl.trans s8))
    · rw [List.mem_singleton.mp h]
      exact ⟨u, _, rfl, s8 _ _ (sl _ _ upd_same)⟩
  · exact q (by omega) (by omega) H6 y (s02.trans (s3.trans (hs4.trans (hM.same.trans (su.trans (sl.trans (s8.trans hs6))))))) ht6
end
/-! ### the refusal as the law asks it -/
structure Kin38 (K : PySem.W.Frag) (mg : Str → Option Value) (C CM cN cR cT cW cC cD : Addr) : Prop where
  gM : mg "MadeError" = some (.ref CM)
  gC : mg "NoRead" = some (.ref C)
  gN : mg "NoName" = some (.ref cN)
  gR : mg "Ring" = some (.ref cR)
  gT : mg "NoText" = some (.ref cT)
  gW : mg "NoRow" = some (.ref cW)
  gC2 : mg "NoRecord" = some (.ref cC)
  gD : mg "NoDeed" = some (.ref cD)
  exm : PySem.W.exmOne K (.ref C) (.ref CM) = some true
  exc : ExcC K C
  isV : PySem.W.kitOne K (.ref C) (.type "ValueError") = some true
  iN : PySem.W.kitOne K (.ref C) (.ref cN) = some false
  iR : PySem.W.kitOne K (.ref C) (.ref cR) = some false
  iT : PySem.W.kitOne K (.ref C) (.ref cT) = some false
  iW : PySem.W.kitOne K (.ref C) (.ref cW) = some false
  iC : PySem.W.kitOne K (.ref C) (.ref cC) = some false
  iD : PySem.W.kitOne K (.ref C) (.ref cD) = some false
def spRefused38 : Sp := fun vs H Q _ => ∃ (t a : Addr) (x : V) (wo k : Int) (xs : List V) (ps : List (List Nat × Int)), vs = [.ref t, .int k] ∧ H t = some (.tup [x, .ref a, .int wo]) ∧ H a = some (.lst xs) ∧ Prs H ps xs ∧ xs.length ≤ 29 ∧
  (k < 0 ∨ (xs.length : Int) ≤ k) ∧ ∀ H', Same H H' → Q (.bl true) H'
section
variable {P : Program} {w : World} {K : PySem.W.Frag} {mg : Str → Option Value} {base : Heap}
abbrev s__law_refused : Stmt := topS 30
abbrev N__law_refused : List Str := ["record", "k", "kinds", "e"]
theorem sc__law_refused : FnScope N__law_refused ["record", "k"] (defScope s__law_refused) := ⟨rfl, rfl, rfl, by decide +kernel, rfl, by decide +kernel, by decide +kernel⟩

theorem ok__law_refused {C CM cN cR cT cW cC cD : Addr} (T : Txt K mg) (R : Kin38 K mg C CM cN cR cT cW cC cD) (D : IsDef K mg "_law_refused" s__law_refused ["record", "k"]) (C_twin_of : Cal P w K mg base (L2.CX P w) 2 "twin_of" ["record", "k"] (spTwin C)) : Cal P w K mg base CX0 3 "_law_refused" ["record", "k"] spRefused38 := by
  refine D.cal sc__law_refused (fun vs H Q E h => ?_) (fun f cdv A outer s H vs Q E hr h => ?_)
  · obtain ⟨t, a, x, wo, k, xs, ps, rfl, _⟩ := h
    rfl
  obtain ⟨t, a, x, wo, k, xs, ps, rfl, ht, ha, hp, h29, hbad, q⟩ := h
  have GMadeError := R.gM
  have GNoRead := R.gC
  have GNoName := R.gN
  have GRing := R.gR
  have GNoText := R.gT
  have GNoRow := R.gW
  have GNoRecord := R.gC2
  have GNoDeed := R.gD
  refine ⟨_, (pss_cons (ps_set (i := 2) sc__law_refused.nd rfl (Or.inl rfl) (pe_lst pa_nil))
      (pss_cons (ps_try_keep (i := 3) rfl rfl sc__law_refused.nd rfl rfl ⟨rfl, by decide, .inl GMadeError⟩ takes0 (fun W pn xe tk _ => (pss_one (ps_expr (pe_calS C_twin_of (hr.mono (by first | decide | omega)) (fun σ => passAt tk σ) (pa_cons (pv 0) (pa_cons (pv 1) pa_nil))))))
        (fun a cls d pn => (pss_cons (ps_set (i := 2) sc__law_refused.nd rfl (Or.inl rfl) (pe_lst (pa_cons (pe_callB (call_isXK (K := K) rfl) (by rfl) T.b_isinstance (by decide +kernel) (pa_cons (pv 3) (pa_cons (pe_glob (v := .ref _) rfl GNoRead rfl) pa_nil))) (pa_cons (pe_callB (call_isXK (K := K) rfl) (by rfl) T.b_isinstance (by decide +kernel) (pa_cons (pv 3) (pa_cons (pe_bltn (v := .ty "ValueError") (by rfl) T.b_ValueError (by decide +kernel) rfl) pa_nil))) (pa_cons (pe_callB (call_isXK (K := K) rfl) (by rfl) T.b_isinstance (by decide +kernel) (pa_cons (pv 3) (pa_cons (pe_glob (v := .ref _) rfl GNoName rfl) pa_nil))) (pa_cons (pe_callB (call_isXK (K := K) rfl) (by rfl) T.b_isinstance (by decide +kernel) (pa_cons (pv 3) (pa_cons (pe_glob (v := .ref _) rfl GRing rfl) pa_nil))) pa_nil))))))
      (pss_one (ps_set (i := 2) sc__law_refused.nd rfl (Or.inl rfl) (pe_op op_cat (pv 2) (pe_lst (pa_cons (pe_callB (call_isXK (K := K) rfl) (by rfl) T.b_isinstance (by decide +kernel) (pa_cons (pv 3) (pa_cons (pe_glob (v := .ref _) rfl GNoText rfl) pa_nil))) (pa_cons (pe_callB (call_isXK (K := K) rfl) (by rfl) T.b_isinstance (by decide +kernel) (pa_cons (pv 3) (pa_cons (pe_glob (v := .ref _) rfl GNoRow rfl) pa_nil))) (pa_cons (pe_callB (call_isXK (K := K) rfl) (by rfl) T.b_isinstance (by decide +kernel) (pa_cons (pv 3) (pa_cons (pe_glob (v := .ref _) rfl GNoRecord rfl) pa_nil))) (pa_cons (pe_callB (call_isXK (K := K) rfl) (by rfl) T.b_isinstance (by decide +kernel) (pa_cons (pv 3) (pa_cons (pe_glob (v := .ref _) rfl GNoDeed rfl) pa_nil))) pa_nil)))))))))))
      (pss_one (ps_ret (pe_cmpR (op_eqD hr.units) (pv 2) (pe_op op_cat (pe_lst (pa_cons pe_bl (pa_cons pe_bl pa_nil))) (pe_op op_rep (pe_lst (pa_cons pe_bl pa_nil)) pe_int)) (nomark _)))))), ?_⟩
  refine ⟨le_line (Nat.le_of_ble_eq_true rfl), fun L0 n0 => ?_⟩
  have s0 := same_new n0 (.lst [])
  refine ⟨_, rfl, _, rfl, t, a, x, wo, k, xs, ps, rfl, s0 _ _ ht, s0 _ _ ha, hp.same s0, h29, fun _ H1 hs1 => ?_, fun k0 k1 => absurd hbad (by omega)⟩
  refine ⟨true, R.exm, fun _ e ne => ?_, fun z => nomatch z⟩
  refine ⟨_, rfl, e, C, _, _, true, rfl, upd_same, R.exc, .own C, kit_self, _, rfl, e, C, _, _, true, rfl, upd_same, R.exc, .ty _, R.isV, _, rfl, e, C, _, _, false, rfl, upd_same, R.exc, .own cN, R.iN, _, rfl, e, C, _, _, false, rfl, upd_same, R.exc, .own cR, R.iR, le_line (Nat.le_of_ble_eq_true rfl), fun L1 n1 => ?_⟩
  have se := same_new ne (EzO (.ref C) none e)
  have s1 := same_new n1 (.lst [.bl true, .bl true, .bl false, .bl false])
  have he := s1 _ _ (upd_same (H := H1) (a := e) (o := EzO (.ref C) none e))
  refine ⟨_, rfl, _, rfl, e, C, _, _, false, rfl, he, R.exc, .own cT, R.iT, _, rfl, e, C, _, _, false, rfl, he, R.exc, .own cW, R.iW, _, rfl, e, C, _, _, false, rfl, he, R.exc, .own cC, R.iC, _, rfl, e, C, _, _, false, rfl, he, R.exc, .own cD, R.iD, le_line (Nat.le_of_ble_eq_true rfl), fun L2 n2 => ?_⟩
  have s2 := same_new n2 (.lst [.bl false, .bl false, .bl false, .bl false])
  refine ⟨L1, L2, _, _, rfl, rfl, s2 _ _ upd_same, upd_same, le_line (Nat.le_of_ble_eq_true rfl), fun L3 n3 => ?_⟩
  have s3 := same_new n3 (.lst [.bl true, .bl true, .bl false, .bl false, .bl false, .bl false, .bl false, .bl false])
  refine ⟨_, rfl, le_line (Nat.le_of_ble_eq_true rfl), fun L4 n4 => ⟨le_line (Nat.le_of_ble_eq_true rfl), fun L5 n5 => ?_⟩⟩
  have s4 := same_new n4 (.lst [.bl true, .bl true])
  have s5 := same_new n5 (.lst [.bl false])
  refine ⟨L5, 6, _, rfl, rfl, upd_same, by decide, by decide, le_line (Nat.le_of_ble_eq_true rfl), fun L6 n6 => ?_⟩
  have s6 := same_new n6 (.lst [.bl false, .bl false, .bl false, .bl false, .bl false, .bl false])
  refine ⟨L4, L6, _, _, rfl, rfl, s6 _ _ (s5 _ _ upd_same), upd_same, le_line (Nat.le_of_ble_eq_true rfl), fun L7 n7 => ?_⟩
  have s7 := same_new n7 (.lst [.bl true, .bl true, .bl false, .bl false, .bl false, .bl false, .bl false, .bl false])
  have dp : ∀ {H : Hp} {L : Addr}, H L = some (.lst [.bl true, .bl true, .bl false, .bl false, .bl false, .bl false, .bl false, .bl false]) → Dp K H (.ref L) (.list [.bool true, .bool true, .bool false, .bool false, .bool false, .bool false, .bool false, .bool false]) := fun h =>
    .lst (SqL.of h) (.cons (.bl _) (.cons (.bl _) (.cons (.bl _) (.cons (.bl _) (.cons (.bl _) (.cons (.bl _) (.cons (.bl _) (.cons (.bl _) .nil))))))))
  refine ⟨_, _, dp (s7 _ _ (s6 _ _ (s5 _ _ (s4 _ _ upd_same)))), dp upd_same, rfl, rfl, ?_⟩
  exact q _ (s0.trans (hs1.trans (se.trans (s1.trans (s2.trans (s3.trans (s4.trans (s5.trans (s6.trans s7)))))))))
end
/-! ### the law -/
def spLaw (K : PySem.W.Frag) : Sp := fun vs H Q _ => ∃ (a : Addr) (ns : List Int), vs = [.ref a] ∧ SqL K H a (ns.map V.int) ∧ ns.length ≤ 63 ∧ ∀ H', Q (.bl true) H'
def pairTh (p : List Nat × Int) : Th := .tup [.str p.1, .int p.2]
theorem Prs.data {H : Hp} : ∀ {ps : List (List Nat × Int)} {vs : List V}, Prs H ps vs → DataL H (ps.map pairTh) vs
  | [], [], _ => rfl
  | _ :: _, _ :: _, ⟨⟨t, e, ht⟩, h⟩ => ⟨_, _, rfl, ⟨t, _, e, ht, _, _, rfl, rfl, _, _, rfl, rfl, rfl⟩, Prs.data h⟩
  | [], _ :: _, h => h.elim
  | _ :: _, [], h => h.elim
def recTh (r : Rcp) (ps : List (List Nat × Int)) (wo : Int) : Th := .tup [r.th, .lst (ps.map pairTh), .int wo]
theorem prs_flat : ∀ ps : List (List Nat × Int), Th.flatL (ps.map pairTh) = true
  | [] => rfl
  | p :: ps => by
    show ((pairTh p).flat && Th.flatL (ps.map pairTh)) = true
    rw [prs_flat ps]
    rfl
theorem prs_lay : ∀ {ps : List (List Nat × Int)}, (∀ p ∈ ps, Nm p.1) → PyData.canLayAll0 (Th.pyL (ps.map pairTh)) = true ∧ PyData.depthAll (Th.pyL (ps.map pairTh)) ≤ 1
  | [], _ => ⟨rfl, Nat.zero_le _⟩
  | p :: ps, h => by
    obtain ⟨h1, h2⟩ := prs_lay fun q hq => h q (List.mem_cons_of_mem _ hq)
    have h3 := nm_lay (h p (List.mem_cons_self ..))
    refine ⟨?_, ?_⟩
    · show (((PyData.str (SX.S p.1)).canLay0 && ((PyData.int p.2).canLay0 && true)) && PyData.canLayAll0 (Th.pyL (ps.map pairTh))) = true
      rw [h1, h3]
      rfl
    · show max (max 0 (max 0 0) + 1) (PyData.depthAll (Th.pyL (ps.map pairTh))) ≤ 1
      omega
theorem rec_flat (r : Rcp) (ps : List (List Nat × Int)) (wo : Int) : (recTh r ps wo).flat = true := by
  show (r.th.flat && (Th.flatL (ps.map pairTh) && true)) = true
  rw [Rcp.flat, prs_flat]
  rfl
theorem rec_lay {r : Rcp} {ps : List (List Nat × Int)} (wo : Int) (hg : r.Good) (hn : ∀ p ∈ ps, Nm p.1) : (recTh r ps wo).py.canLay0 = true ∧ (recTh r ps wo).py.depth ≤ max r.dep 2 + 1 := by
  obtain ⟨h1, h2⟩ := Rcp.lays hg
  obtain ⟨h3, h4⟩ := prs_lay hn
  refine ⟨?_, ?_⟩
  · show (r.th.py.canLay0 && (PyData.canLayAll0 (Th.pyL (ps.map pairTh)) && true)) = true
    rw [h1, h3]
    rfl
  · show max r.th.py.depth (max (PyData.depthAll (Th.pyL (ps.map pairTh)) + 1) (max 0 0)) + 1 ≤ max r.dep 2 + 1
    omega
section
variable {P : Program} {w : World} {K : PySem.W.Frag} {mg : Str → Option Value} {base : Heap}
abbrev s_law : Stmt := topS 31
abbrev N_law : List Str := ["script", "many", "k", "names", "reads", "number", "worth", "record", "handed", "pool", "far", "last", "name"]
theorem sc_law : FnScope N_law ["script"] (defScope s_law) := ⟨rfl, rfl, rfl, by decide +kernel, rfl, by decide +kernel, by decide +kernel⟩

theorem ok_law {C fl : Addr} {fd : FuncData} (F : Fun K "law" "law" s_law fl fd) (T : Txt K mg) (C__law_cell_at : Cal P w K mg base CX0 1 "_law_cell_at" ["script", "k"] (spCellAt K)) (C__law_pool : Cal P w K mg base CX0 2 "_law_pool" ["script", "k"] (spPool K))
    (C__law_take : Cal P w K mg base CX0 1 "_law_take" ["pool", "many"] spTakeP) (C__law_name : Cal P w K mg base CX0 1 "_law_name" ["k"] spName3) (C__law_summed : Cal P w K mg base CX0 1 "_law_summed" ["reads", "worth"] spSummed3)
    (C__law_refused : Cal P w K mg base CX0 3 "_law_refused" ["record", "k"] spRefused38) (C_twin_of : Cal P w K mg base (L2.CX P w) 2 "twin_of" ["record", "k"] (spTwin C)) : FnOk P w K mg base CX0 4 fl fd ["script"] (spLaw K) := by
  refine F.ok sc_law (fun vs H Q E h => ?_) (fun cdv A outer s H vs Q E hr h => ?_)
  · obtain ⟨a, ns, rfl, _⟩ := h
    rfl
  obtain ⟨a, ns, rfl, hS, h63, q⟩ := h
  refine ⟨_, (pss_cons (ps_set (i := 1) sc_law.nd rfl (Or.inl rfl) (pe_op op_mod (pe_op op_fdivW (pe_cal C__law_cell_at (hr.mono (by first | decide | omega)) pass0 (pa_cons (pv 0) (pa_cons pe_int pa_nil))) pe_int) pe_int))
      (pss_cons (ps_set (i := 3) sc_law.nd rfl (Or.inr rfl) (pe_op op_cat (pe_lc (own := [("k", 2)]) (g := gName 2)  (by rfl) sc_law.nd  (pi_range1 rfl T.b_range (pa_cons pe_int pa_nil)) (blkOk_by (own := [("k", 2)]) (N := N_law) (sc := defScope s_law) (by decide +kernel)) (fun _ _ _ _ _ => (pg_name (i := 2) sc_law.nd rfl (Or.inl rfl))) (fun _ _ _ _ _ => pts_nil) (fun _ _ _ _ _ => (pe_cal C__law_name (hr.mono (by first | decide | omega)) pass0 (pa_cons (pv 2) pa_nil)))) (pe_lst (pa_cons pe_str (pa_cons pe_str (pa_cons pe_str pa_nil))))))
      (pss_cons (ps_setLc (i := 4) (own := [("k", 2)]) (g := gName 2)  (by rfl) sc_law.nd rfl rfl (sw_true rfl rfl rfl (by decide +kernel)) (pi_range1 rfl T.b_range (pa_cons (pv 1) pa_nil)) (blkOk_by (own := [("k", 2)]) (N := N_law) (sc := defScope s_law) (by decide +kernel)) (fun _ _ _ _ _ => (pg_name (i := 2) sc_law.nd rfl (Or.inl rfl))) (fun _ _ _ _ _ => pts_nil) (fun _ _ _ _ _ => (pe_tup (pa_cons (pe_ix (r := rIxL K) ix_list (pv 3) (pv 2) (fun _ _ => rfl)) (pa_cons (pe_op op_sub (pe_op op_mod (pe_cal C__law_cell_at (hr.mono (by first | decide | omega)) pass0 (pa_cons (pv 0) (pa_cons (pe_op op_add (pv 2) pe_int) pa_nil))) pe_int) pe_int) pa_nil)))))
      (pss_cons (ps_set (i := 6) sc_law.nd rfl (Or.inl rfl) (pe_op op_add (pe_callB (cr_sum rfl) (by rfl) T.b_sum (by decide +kernel) (pa_cons (pe_lc (own := [("name", 12), ("number", 5)]) (g := gTup K 2 (gCons (gName 12) (gCons (gName 5) gNil)))  (by rfl) sc_law.nd  (pi_list (pv 4)) (blkOk_by (own := [("name", 12), ("number", 5)]) (N := N_law) (sc := defScope s_law) (by decide +kernel)) (fun _ _ _ _ _ => (pg_tup rfl (pgs_cons (pg_name (i := 12) sc_law.nd rfl (Or.inl rfl)) (pgs_cons (pg_name (i := 5) sc_law.nd rfl (Or.inl rfl)) pgs_nil)))) (fun _ _ _ _ _ => pts_nil) (fun _ _ _ _ _ => (pv 5))) pa_nil)) pe_int))
      (pss_cons (ps_set (i := 7) sc_law.nd rfl (Or.inl rfl) (pe_tup (pa_cons (pe_cal C__law_summed (hr.mono (by first | decide | omega)) pass0 (pa_cons (pv 4) (pa_cons (pv 6) pa_nil))) (pa_cons (pv 4) (pa_cons (pv 6) pa_nil)))))
      (pss_cons (ps_set (i := 8) sc_law.nd rfl (Or.inl rfl) (pe_tup (pa_cons (pe_ix (r := rIxT K) ix_tup (pv 7) pe_int (fun _ _ => rfl)) (pa_cons (pe_callTy call_list_of (by rfl) T.b_list (by decide +kernel) (pa_cons (pv 4) pa_nil)) (pa_cons (pv 6) pa_nil)))))
      (pss_cons (ps_for PassesOwn.never rfl (pi_range2 rfl T.b_range (pa_cons pe_int (pa_cons (pe_callB (call_max2 rfl) (by rfl) T.b_max (by decide +kernel) (pa_cons pe_int (pa_cons (pe_callB (call_min2 rfl) (by rfl) T.b_min (by decide +kernel) (pa_cons (pe_callB call_len_seq (by rfl) T.b_len PySem.boot_len (pa_cons (pv 0) pa_nil)) (pa_cons pe_int pa_nil))) pa_nil))) pa_nil))) (pg_name (i := 2) sc_law.nd rfl (Or.inl rfl))
        (pss_cons (ps_set (i := 9) sc_law.nd rfl (Or.inl rfl) (pe_cal C__law_pool (hr.mono (by first | decide | omega)) pass0 (pa_cons (pv 0) (pa_cons (pv 2) pa_nil))))
      (pss_cons (ps_set (i := 10) sc_law.nd rfl (Or.inl rfl) (pe_cal C__law_take (hr.mono (by first | decide | omega)) pass0 (pa_cons (pv 9) (pa_cons (pe_op op_pow pe_int pe_int) pa_nil))))
      (pss_cons (ps_set (i := 5) sc_law.nd rfl (Or.inl rfl) (pe_ix (r := rIxL K) ix_list (pe_lst (pa_cons (pv 1) (pa_cons (pe_op op_add (pv 1) pe_int) (pa_cons (pe_un un_neg pe_int) (pa_cons (pe_op op_sub pe_int (pv 1)) (pa_cons (pe_op op_sub (pe_un un_neg pe_int) (pv 1)) (pa_cons (pe_op op_add (pv 1) (pv 10)) (pa_cons (pe_op op_sub (pe_un un_neg pe_int) (pv 10)) pa_nil)))))))) (pe_cal C__law_take (hr.mono (by first | decide | omega)) pass0 (pa_cons (pv 9) (pa_cons pe_int pa_nil))) (fun _ _ => rfl)))
      (pss_cons (ps_if (PW.pt (pw_or (pt_cmpR op_lt (pv 5) pe_int (nomark _)) (pw_or1 (pt_cmpR op_ge (pv 5) (pv 1) (nomark _)))))
        (pss_one (ps_if (PW.pt (pw_or (pt_not (pt_val (pe_cal C__law_refused (hr.mono (by first | decide | omega)) pass0 (pa_cons (pv 8) (pa_cons (pv 5) pa_nil))))) (pw_or1 (pt_cmpR (op_neD hr.units) (pv 8) (pv 7) (nomark _)))))
        (pss_one (ps_ret pe_bl))
        pss_nil))
        pss_nil)
      (pss_one (ps_for PassesOwn.never rfl (pi_list (pe_lst (pa_cons pe_int (pa_cons (pe_op op_sub (pv 1) pe_int) pa_nil)))) (pg_name (i := 11) sc_law.nd rfl (Or.inl rfl))
        (pss_one (ps_if (PW.pt (pw_and (pt_cmpR op_gt (pv 1) pe_int (nomark _)) (pw_and1 (pt_not (pt_val (pe_callB call_isi (by rfl) T.b_isinstance (by decide +kernel) (pa_cons (pe_cal C_twin_of (hr.mono (by first | decide | omega)) passL (pa_cons (pv 8) (pa_cons (pv 11) pa_nil))) (pa_cons (pe_bltn (v := .ty "tuple") (by rfl) T.b_tuple (by decide +kernel) rfl) pa_nil))))))))
        (pss_one (ps_ret pe_bl))
        pss_nil)))))))))
      (pss_one (ps_ret (pe_cmpR (op_eqD hr.units) (pv 8) (pv 7) (nomark _))))))))))), ?_⟩
  refine ⟨_, rfl, a, ns, 0, rfl, hS, h63, Int.le_refl 0, fun v0 => ⟨_, _, rfl, rfl, ⟨by decide, by decide +kernel⟩, _, _, rfl, rfl, (by show (0 : Int) < 30; decide), ?_⟩⟩
  have m0 : 0 ≤ v0 / 2 % 30 := Int.emod_nonneg _ (by decide)
  have m1 : v0 / 2 % 30 < 30 := Int.emod_lt_of_pos _ (by decide)
  show gName 1 (V.int (v0 / 2 % 30)) _ _ _
  generalize v0 / 2 % 30 = many at m0 m1
  -- the names
  refine ⟨26, rfl, by decide, by decide, fun N nN => lc_range (lo := 0) (n := 26) (fun i H' => Same H H' ∧ ∃ ss, H' N = some (.lst (txs ss)) ∧ ss.length = i ∧ ∀ s ∈ ss, Nm s) ⟨same_new nN _, [], upd_same, rfl, fun _ h => nomatch h⟩ ?_ ?_⟩
  · rintro i H1 hi ⟨hs, ss, hN, hn, hnm⟩
    refine ⟨rfl, _, rfl, _, rfl, by omega, by omega, fun s0 h0 => ⟨_, hN, lt_line (by rw [txs_len]; omega), same_upd hs nN _, ss ++ [s0], by rw [upd_same, txs_app]; rfl, by rw [List.length_append, hn]; rfl, fun s h => ?_⟩⟩
    rcases List.mem_append.mp h with h | h
    · exact hnm s h
    · rw [List.mem_singleton.mp h]; exact h0
  rintro H1 ⟨hs1, ss, hN, hn, hnm⟩
  refine ⟨le_line (Nat.le_of_ble_eq_true rfl), fun l3 n3 => ?_⟩
  have e3 : ([.str "qz", .str "xz", .str "jz"] : List V) = txs [[113, 122], [120, 122], [106, 122]] := by
    have e : (["qz", "xz", "jz"] : List Str) = ([[113, 122], [120, 122], [106, 122]] : List (List Nat)).map SX.S := by decide +kernel
    exact congrArg (List.map V.str) e
  have t3 := same_new n3 (.lst [.str "qz", .str "xz", .str "jz"])
  refine ⟨N, l3, _, _, rfl, rfl, t3 _ _ hN, upd_same, le_line (by rw [txs_len, hn]; decide), fun M nM => ?_⟩
  obtain ⟨H2, hs2, hM, hM29, hMn⟩ : ∃ H2 : Hp, H2 = upd (upd H1 l3 (.lst [.str "qz", .str "xz", .str "jz"])) M (.lst (txs ss ++ [.str "qz", .str "xz", .str "jz"])) ∧ H2 M = some (.lst (txs (ss ++ [[113, 122], [120, 122], [106, 122]]))) ∧ (ss ++ [[113, 122], [120, 122], [106, 122]]).length = 29 ∧ ∀ s ∈ ss ++ [[113, 122], [120, 122], [106, 122]], Nm s := by
    refine ⟨_, rfl, by rw [upd_same, txs_app, e3], by rw [List.length_append, hn]; rfl, fun s h => ?_⟩
    rcases List.mem_append.mp h with h | h
    · exact hnm s h
    · simp only [List.mem_cons, List.not_mem_nil, or_false] at h
      rcases h with rfl | rfl | rfl
      · exact ⟨by decide, by decide, by decide⟩
      · exact ⟨by decide, by decide, by decide⟩
      · exact ⟨by decide, by decide, by decide⟩
  have hs02 : Same H H2 := by rw [hs2]; exact hs1.trans (t3.trans (same_new nM _))
  rw [← hs2]
  generalize ss ++ [[113, 122], [120, 122], [106, 122]] = nms at hM hM29 hMn
  clear hs2
  have hS2 := hs02.seq hS
  -- the reads
  refine ⟨_, rfl, many, rfl, by omega, by omega, fun R nR => lc_range (lo := 0) (n := many.toNat) (fun i H' => Same H2 H' ∧ ∃ xs ps, H' R = some (.lst xs) ∧ Prs H' ps xs ∧ ps.length = i ∧ ∀ p ∈ ps, Nm p.1) ⟨same_new nR _, [], [], upd_same, trivial, rfl, fun _ h => nomatch h⟩ ?_ ?_⟩
  · rintro i H3 hi ⟨hs3, xs, ps, hR, hP, hn, hnm3⟩
    have hi29 : i < nms.length := by omega
    refine ⟨rfl, _, rfl, _, rfl, M, _, _, _, rfl, rfl, SqL.of (hs3 _ _ hM), atI_at (by omega) (by rw [show (0 + (i : Int)).toNat = i by omega]; exact txs_get hi29), ?_⟩
    refine ⟨_, rfl, _, rfl, _, _, rfl, rfl, a, ns, _, rfl, hs3.seq hS2, h63, by omega, fun v => ⟨_, _, rfl, rfl, (by show (0 : Int) < 100; decide), _, _, rfl, rfl, le_line (Nat.le_of_ble_eq_true rfl), fun u nu => ?_⟩⟩
    have su := same_new nu (.tup [.str (SX.S nms[i]), .int (v % 100 - 50)])
    refine ⟨xs, su _ _ hR, lt_line (by rw [hP.len]; omega), same_upd (hs3.trans su) nR _, xs ++ [.ref u], ps ++ [(nms[i], v % 100 - 50)], upd_same, (Prs.snoc (p := (nms[i], v % 100 - 50)) upd_same (hP.same su)).keep (keep_lst (su _ _ hR)), by rw [List.length_append, hn]; rfl, fun p hp => ?_⟩
    rcases List.mem_append.mp hp with h | h
    · exact hnm3 p h
    · rw [List.mem_singleton.mp h]; exact hMn _ (List.getElem_mem _)
  rintro H3 ⟨hs3, xs, ps, hR, hP, hn3, hnm3⟩
  have hxl := hP.len
  -- the worth
  refine ⟨_, rfl, R, rfl, ⟨_, SqL.of hR⟩, fun N2 nN2 => lc_list (K := K) (a := R) (xs := xs) (fun i H' => Same H3 H' ∧ H' N2 = some (.lst (((ps.take i).map (·.2)).map V.int))) ⟨same_new nN2 _, upd_same⟩ (fun i H' _ h => SqL.of (h.1 _ _ hR)) ?_ ?_⟩
  · rintro i x H4 hx ⟨hs4, hN4⟩
    obtain ⟨p, t, hpi, rfl, ht⟩ := hP.at hx
    have := (List.getElem?_eq_some_iff.mp hx).1
    refine ⟨t, _, rfl, SqT.of (hs4 _ _ ht), rfl, _, _, rfl, _, _, rfl, rfl, rfl, _, rfl, _, hN4, ?_, same_upd hs4 nN2 _, ?_⟩
    · rw [List.length_map, List.length_map, List.length_take]
      exact lt_line (by omega)
    · rw [upd_same, List.take_add_one, hpi, List.map_append, List.map_append]
      rfl
  rintro H4 ⟨hs4, hN4⟩
  rw [List.take_of_length_le (by omega)] at hN4
  refine ⟨N2, ps.map (·.2), rfl, SqL.of hN4, _, _, rfl, rfl, ?_⟩
  show gName 6 (V.int ((ps.map (·.2)).sum + 5)) _ _ _
  generalize hwo : (ps.map (·.2)).sum + 5 = wo
  -- the record
  refine ⟨_, rfl, _, rfl, R, xs, ps, _, rfl, hs4 _ _ hR, hP.same hs4, by omega, hnm3, ?_, fun H5 v r hs5 hRv hG hd => ?_⟩
  · rw [← hwo, show (ps.map (·.2)).sum + 5 - (ps.map (·.2)).sum = 5 by omega]
    decide
  refine ⟨_, rfl, _, rfl, le_line (Nat.le_of_ble_eq_true rfl), fun t nt => ?_⟩
  have st := same_new nt (.tup [v, .ref R, .int wo])
  have hR5 := st _ _ (hs5 _ _ (hs4 _ _ hR))
  refine ⟨_, rfl, t, _, _, _, rfl, rfl, SqT.of upd_same, rfl, _, rfl, R, _, rfl, .inl (SqL.of hR5), fun L nL => ?_⟩
  have sL := same_new nL (.lst xs)
  refine ⟨_, rfl, le_line (Nat.le_of_ble_eq_true rfl), fun t2 nt2 => ?_⟩
  have s2 := same_new nt2 (.tup [v, .ref L, .int wo])
  obtain ⟨H6, hH6⟩ : ∃ H6 : Hp, H6 = upd (upd (upd H5 t (.tup [v, .ref R, .int wo])) L (.lst xs)) t2 (.tup [v, .ref L, .int wo]) := ⟨_, rfl⟩
  have k6 : Same H5 H6 := by rw [hH6]; exact st.trans (sL.trans s2)
  have ht6 : H6 t = some (.tup [v, .ref R, .int wo]) := by rw [hH6]; exact s2 _ _ (sL _ _ upd_same)
  have ht26 : H6 t2 = some (.tup [v, .ref L, .int wo]) := by rw [hH6]; exact upd_same
  have hL6 : H6 L = some (.lst xs) := by rw [hH6]; exact s2 _ _ upd_same
  have hR6 : H6 R = some (.lst xs) := by rw [hH6]; exact s2 _ _ (sL _ _ hR5)
  have hP6 : Prs H6 ps xs := ((hP.same hs4).same hs5).same k6
  have hv6 : Rec H6 r v := hRv.same k6
  have hS6 : SqL K H6 a (ns.map V.int) := (hs3.trans (hs4.trans (hs5.trans k6))).seq hS2
  rw [← hH6]
  clear hH6 s2 sL st
  -- alike as data
  have dat : ∀ {t' L' : Addr}, H6 t' = some (.tup [v, .ref L', .int wo]) → H6 L' = some (.lst xs) → Data H6 (recTh r ps wo) (.ref t') := fun h1 h2 => ⟨_, _, rfl, h1, _, _, rfl, hv6.data, _, _, rfl, ⟨_, _, rfl, h2, hP6.data⟩, _, _, rfl, rfl, rfl⟩
  have d1 := dat ht6 hR6
  have d2 := dat ht26 hL6
  have hlay := rec_lay wo hG hnm3
  have hsh : SeqAt.shaped (recTh r ps wo).py = true := by
    show ((recTh r ps wo).py.canLay0 && decide ((recTh r ps wo).py.depth ≤ 64)) = true
    rw [hlay.1, decide_eq_true (by omega)]
    rfl
  have heqv : PyData.eqv (recTh r ps wo).py (recTh r ps wo).py = true := SeqAt.eqv_refl _ hlay.1
  have hml : (xs.length : Int) = many := by omega
  -- the loop
  have hnl : (ns.map V.int).length ≤ 63 := by rw [List.length_map]; exact h63
  refine ⟨_, rfl, a, _, rfl, .inl hS6, _, _, rfl, _, _, rfl, ?_⟩
  obtain ⟨m, hm0, hm⟩ : ∃ m : Int, (1 ≤ m ∧ m ≤ 100) ∧ (if (if (21 : Int) < (((ns.map V.int).length : Nat) : Int) then 21 else (((ns.map V.int).length : Nat) : Int)) > 2 then (if (21 : Int) < (((ns.map V.int).length : Nat) : Int) then 21 else (((ns.map V.int).length : Nat) : Int)) else 2) = m := by
    refine ⟨_, ?_, rfl⟩
    split <;> split at * <;> omega
  refine ⟨_, _, rfl, ⟨by decide, by decide, by rw [hm]; omega, by rw [hm]; omega⟩, ?_⟩
  rw [hm]
  refine for_range (lo := 1) (n := (m - 1).toNat) (fun i σ H' => ∃ v2 v5 v9 v10 v11 : Option V, σ = [some (.ref a), some (.int many), v2, some (.ref M), some (.ref R), v5, some (.int wo), some (.ref t), some (.ref t2), v9, v10, v11, none] ∧ Same H6 H') ⟨none, none, none, none, none, rfl, Same.refl _⟩ ?_ ?_
  · rintro i0 σ H7 hi ⟨v2, v5, v9, v10, v11, rfl, hs7⟩
    refine ⟨_, rfl, _, rfl, a, ns, _, rfl, hs7.seq hS6, h63, by omega, by omega, fun p rr mm cc np c0 c1 => ?_⟩
    have sp := same_new np (.dK (pool rr mm cc))
    refine ⟨_, rfl, _, _, rfl, rfl, ⟨by decide, by decide, by decide⟩, p, rr, mm, cc, _, rfl, upd_same, by decide +kernel, by decide +kernel, c0, by omega, fun H8 far r8 c8 hk8 hp8 c80 c81 f0 f1 => ?_⟩
    have n6 : H6 p = none := hs7.free np
    have hs8 : Same H6 H8 := fun b u e => by
      have ne : b ≠ p := fun z => by rw [z, n6] at e; cases e
      rw [hk8 b ne, upd_ne ne]
      exact hs7 _ _ e
    refine ⟨_, rfl, _, rfl, _, _, rfl, rfl, _, rfl, _, rfl, _, _, rfl, rfl, _, rfl, _, rfl, _, _, rfl, rfl, _, rfl, _, rfl, _, _, rfl, rfl, _, rfl, _, rfl, _, _, rfl, rfl, le_line (Nat.le_of_ble_eq_true rfl), fun l nl => ?_⟩
    have lp : p ≠ l := ne_of_none hp8 nl
    refine ⟨_, rfl, p, r8, mm, c8, 7, rfl, by rw [upd_ne lp]; exact hp8, by decide, by decide, c80, by omega, fun H9 v7 r9 c9 hk9 hp9 _ _ v70 v77 => ?_⟩
    have hl9 := (hk9 l lp.symm).trans upd_same
    have hs9 : Same H6 H9 := fun b u e => by
      have ne : b ≠ p := fun z => by rw [z, n6] at e; cases e
      have e8 := hs8 _ _ e
      rw [hk9 b ne, upd_ne (ne_of_none e8 nl)]
      exact e8
    obtain ⟨x, hx, hat⟩ := one_of (xs := ([.int many, .int (many + 1), .int (-1), .int (0 - many), .int (-1 - many), .int (many + far), .int (-1 - far)] : List V)) v70 v77
    obtain ⟨z, rfl⟩ : ∃ z : Int, x = .int z := by
      simp only [List.mem_cons, List.not_mem_nil, or_false] at hx
      rcases hx with h | h | h | h | h | h | h <;> exact ⟨_, h⟩
    refine ⟨l, _, v7, _, rfl, rfl, SqL.of hl9, hat, ?_⟩
    refine ⟨_, rfl, _, _, rfl, rfl, _, rfl, ?_⟩
    by_cases z0 : z < 0
    · refine iteY z0 ?_
      have hbad : z < 0 ∨ (xs.length : Int) ≤ z := .inl z0
      refine ⟨_, rfl, _, rfl, t2, L, v, wo, z, xs, ps, rfl, hs9 _ _ ht26, hs9 _ _ hL6, hP6.same hs9, by omega, hbad, fun H10 hs10' => ?_⟩
      have hs10 := hs9.trans hs10'
      refine ⟨_, rfl, not_true_eq rfl ?_⟩
      refine ⟨_, rfl, _, rfl, _, _, Data.dp (rec_flat _ _ _) (d2.same hs10), Data.dp (rec_flat _ _ _) (d1.same hs10), hsh, hsh, _, rfl, ?_⟩
      rw [heqv]
      refine iteF ?_
      refine ⟨_, rfl, _, _, rfl, rfl, le_line (Nat.le_of_ble_eq_true rfl), fun l2 nl2 => ?_⟩
      have sl2 := same_new nl2 (.lst [.int 0, .int (many - 1)])
      refine ⟨l2, rfl, ⟨_, SqL.of upd_same⟩, for_list (K := K) (a := l2) (xs := [.int 0, .int (many - 1)]) (fun i σ H' => ∃ v11 : Option V, σ = [some (.ref a), some (.int many), some (.int (1 + (i0 : Int))), some (.ref M), some (.ref R), some (.int z), some (.int wo), some (.ref t), some (.ref t2), some (.ref p), some (.int far), v11, none] ∧ Same H6 H' ∧ H' l2 = some (.lst [.int 0, .int (many - 1)])) ⟨v11, rfl, hs10.trans sl2, upd_same⟩ (fun i σ H' _ ⟨_, _, _, h⟩ => SqL.of h) ?_ ?_⟩
      · rintro j w σ H11 hw ⟨w11, rfl, hs11, hl11⟩
        have hw' := List.mem_of_getElem? hw
        obtain ⟨y, rfl, hy⟩ : ∃ y : Int, w = .int y ∧ (0 < many → 0 ≤ y ∧ y < many) := by
          simp only [List.mem_cons, List.not_mem_nil, or_false] at hw'
          rcases hw' with h | h
          · exact ⟨_, h, fun h => ⟨by omega, h⟩⟩
          · exact ⟨_, h, fun h => ⟨by omega, by omega⟩⟩
        refine ⟨_, rfl, _, _, rfl, rfl, _, rfl, ?_⟩
        by_cases mp : many > 0
        · refine iteY mp ?_
          obtain ⟨y0, y1⟩ := hy mp
          refine ⟨_, rfl, _, rfl, t2, L, v, wo, y, xs, ps, rfl, hs11 _ _ ht26, hs11 _ _ hL6, hP6.same hs11, by omega, fun hb => absurd hb (by omega), fun _ _ H12 u hs12 hu => ?_⟩
          obtain ⟨tt, ys, rfl, htt⟩ := hu
          refine ⟨_, _, .type "tuple", _, true, rfl, .ty _, .base (.tup htt), kit_ty (by decide +kernel), _, rfl, not_true_eq rfl ?_⟩
          exact ⟨_, rfl, hs11.trans hs12, hs12 _ _ hl11⟩
        · exact iteN mp ⟨_, rfl, hs11, hl11⟩
      · rintro σ H11 ⟨w11, rfl, hs11, hl11⟩
        exact ⟨_, _, _, _, _, rfl, hs11⟩
    · refine iteN z0 ?_
      refine ⟨_, rfl, _, rfl, _, _, rfl, rfl, _, rfl, ?_⟩
      by_cases z1 : z ≥ many
      · refine iteY z1 ?_
        have hbad : z < 0 ∨ (xs.length : Int) ≤ z := .inr (by omega)
        refine ⟨_, rfl, _, rfl, t2, L, v, wo, z, xs, ps, rfl, hs9 _ _ ht26, hs9 _ _ hL6, hP6.same hs9, by omega, hbad, fun H10 hs10' => ?_⟩
        have hs10 := hs9.trans hs10'
        refine ⟨_, rfl, not_true_eq rfl ?_⟩
        refine ⟨_, rfl, _, rfl, _, _, Data.dp (rec_flat _ _ _) (d2.same hs10), Data.dp (rec_flat _ _ _) (d1.same hs10), hsh, hsh, _, rfl, ?_⟩
        rw [heqv]
        refine iteF ?_
        refine ⟨_, rfl, _, _, rfl, rfl, le_line (Nat.le_of_ble_eq_true rfl), fun l2 nl2 => ?_⟩
        have sl2 := same_new nl2 (.lst [.int 0, .int (many - 1)])
        refine ⟨l2, rfl, ⟨_, SqL.of upd_same⟩, for_list (K := K) (a := l2) (xs := [.int 0, .int (many - 1)]) (fun i σ H' => ∃ v11 : Option V, σ = [some (.ref a), some (.int many), some (.int (1 + (i0 : Int))), some (.ref M), some (.ref R), some (.int z), some (.int wo), some (.ref t), some (.ref t2), some (.ref p), some (.int far), v11, none] ∧ Same H6 H' ∧ H' l2 = some (.lst [.int 0, .int (many - 1)])) ⟨v11, rfl, hs10.trans sl2, upd_same⟩ (fun i σ H' _ ⟨_, _, _, h⟩ => SqL.of h) ?_ ?_⟩
        · rintro j w σ H11 hw ⟨w11, rfl, hs11, hl11⟩
          have hw' := List.mem_of_getElem? hw
          obtain ⟨y, rfl, hy⟩ : ∃ y : Int, w = .int y ∧ (0 < many → 0 ≤ y ∧ y < many) := by
            simp only [List.mem_cons, List.not_mem_nil, or_false] at hw'
            rcases hw' with h | h
            · exact ⟨_, h, fun h => ⟨by omega, h⟩⟩
            · exact ⟨_, h, fun h => ⟨by omega, by omega⟩⟩
          refine ⟨_, rfl, _, _, rfl, rfl, _, rfl, ?_⟩
          by_cases mp : many > 0
          · refine iteY mp ?_
            obtain ⟨y0, y1⟩ := hy mp
            refine ⟨_, rfl, _, rfl, t2, L, v, wo, y, xs, ps, rfl, hs11 _ _ ht26, hs11 _ _ hL6, hP6.same hs11, by omega, fun hb => absurd hb (by omega), fun _ _ H12 u hs12 hu => ?_⟩
            obtain ⟨tt, ys, rfl, htt⟩ := hu
            refine ⟨_, _, .type "tuple", _, true, rfl, .ty _, .base (.tup htt), kit_ty (by decide +kernel), _, rfl, not_true_eq rfl ?_⟩
            exact ⟨_, rfl, hs11.trans hs12, hs12 _ _ hl11⟩
          · exact iteN mp ⟨_, rfl, hs11, hl11⟩
        · rintro σ H11 ⟨w11, rfl, hs11, hl11⟩
          exact ⟨_, _, _, _, _, rfl, hs11⟩
      · refine iteN z1 ?_
        have hs10 := hs9
        refine ⟨_, rfl, _, _, rfl, rfl, le_line (Nat.le_of_ble_eq_true rfl), fun l2 nl2 => ?_⟩
        have sl2 := same_new nl2 (.lst [.int 0, .int (many - 1)])
        refine ⟨l2, rfl, ⟨_, SqL.of upd_same⟩, for_list (K := K) (a := l2) (xs := [.int 0, .int (many - 1)]) (fun i σ H' => ∃ v11 : Option V, σ = [some (.ref a), some (.int many), some (.int (1 + (i0 : Int))), some (.ref M), some (.ref R), some (.int z), some (.int wo), some (.ref t), some (.ref t2), some (.ref p), some (.int far), v11, none] ∧ Same H6 H' ∧ H' l2 = some (.lst [.int 0, .int (many - 1)])) ⟨v11, rfl, hs10.trans sl2, upd_same⟩ (fun i σ H' _ ⟨_, _, _, h⟩ => SqL.of h) ?_ ?_⟩
        · rintro j w σ H11 hw ⟨w11, rfl, hs11, hl11⟩
          have hw' := List.mem_of_getElem? hw
          obtain ⟨y, rfl, hy⟩ : ∃ y : Int, w = .int y ∧ (0 < many → 0 ≤ y ∧ y < many) := by
            simp only [List.mem_cons, List.not_mem_nil, or_false] at hw'
            rcases hw' with h | h
            · exact ⟨_, h, fun h => ⟨by omega, h⟩⟩
            · exact ⟨_, h, fun h => ⟨by omega, by omega⟩⟩
          refine ⟨_, rfl, _, _, rfl, rfl, _, rfl, ?_⟩
          by_cases mp : many > 0
          · refine iteY mp ?_
            obtain ⟨y0, y1⟩ := hy mp
            refine ⟨_, rfl, _, rfl, t2, L, v, wo, y, xs, ps, rfl, hs11 _ _ ht26, hs11 _ _ hL6, hP6.same hs11, by omega, fun hb => absurd hb (by omega), fun _ _ H12 u hs12 hu => ?_⟩
            obtain ⟨tt, ys, rfl, htt⟩ := hu
            refine ⟨_, _, .type "tuple", _, true, rfl, .ty _, .base (.tup htt), kit_ty (by decide +kernel), _, rfl, not_true_eq rfl ?_⟩
            exact ⟨_, rfl, hs11.trans hs12, hs12 _ _ hl11⟩
          · exact iteN mp ⟨_, rfl, hs11, hl11⟩
        · rintro σ H11 ⟨w11, rfl, hs11, hl11⟩
          exact ⟨_, _, _, _, _, rfl, hs11⟩
  · rintro σ H7 ⟨v2, v5, v9, v10, v11, rfl, hs7⟩
    refine ⟨_, rfl, _, rfl, _, _, Data.dp (rec_flat _ _ _) (d2.same hs7), Data.dp (rec_flat _ _ _) (d1.same hs7), hsh, hsh, ?_⟩
    rw [heqv]
    exact q _
end
theorem all_mk {l : PySem.W.OpenLaw} {w : World} {K : PySem.W.Frag} {h : Heap} {mg : Str → Option Value} {fa f_looked_through f_grouped f_summed_up f_twin_of f__law_cell_at f__law_pool f__law_take f__law_name f__law_summed f__law_refused f_law : Addr} (X : K.In h) (G : h.Ns mainGlobals mg) (hfa : mg "law" = some (.ref fa))
    {od_looked_through an_looked_through od_grouped an_grouped od_summed_up an_summed_up od_twin_of an_twin_of od__law_cell_at an__law_cell_at od__law_pool an__law_pool od__law_take an__law_take od__law_name an__law_name od__law_summed an__law_summed od__law_refused an__law_refused od_law an_law : Option Addr} {sl_looked_through sl_grouped sl_summed_up sl_twin_of sl__law_cell_at sl__law_pool sl__law_take sl__law_name sl__law_summed sl__law_refused sl_law : Array (Option Value)} {oc_looked_through kV_looked_through dc_looked_through pm_looked_through cd_looked_through ct_looked_through oc_grouped kV_grouped dc_grouped pm_grouped cd_grouped ct_grouped oc_summed_up kV_summed_up dc_summed_up pm_summed_up cd_summed_up ct_summed_up oc_twin_of kV_twin_of dc_twin_of pm_twin_of cd_twin_of ct_twin_of oc__law_cell_at kV__law_cell_at dc__law_cell_at pm__law_cell_at cd__law_cell_at ct__law_cell_at oc__law_pool kV__law_pool dc__law_pool pm__law_pool cd__law_pool ct__law_pool oc__law_take kV__law_take dc__law_take pm__law_take cd__law_take ct__law_take oc__law_name kV__law_name dc__law_name pm__law_name cd__law_name ct__law_name oc__law_summed kV__law_summed dc__law_summed pm__law_summed cd__law_summed ct__law_summed oc__law_refused kV__law_refused dc__law_refused pm__law_refused cd__law_refused ct__law_refused oc_law kV_law dc_law pm_law cd_law ct_law : Value}
    (a_looked_through : PySem.W.nsIn K mainGlobals "looked_through" = some (some (.ref f_looked_through))) (l_looked_through : K.lookup f_looked_through = some ⟨oc_looked_through, od_looked_through, .func (PySem.W.fnOf "looked_through" "looked_through" (defArgs s_looked_through) (defBody s_looked_through) (defScope s_looked_through) .none kV_looked_through dc_looked_through pm_looked_through an_looked_through cd_looked_through ct_looked_through), sl_looked_through⟩) (c_looked_through : PySem.W.codeIn K cd_looked_through "looked_through" = true) (k_looked_through : PySem.W.keepIn K (.ref f_looked_through) = true)
    (a_grouped : PySem.W.nsIn K mainGlobals "grouped" = some (some (.ref f_grouped))) (l_grouped : K.lookup f_grouped = some ⟨oc_grouped, od_grouped, .func (PySem.W.fnOf "grouped" "grouped" (defArgs s_grouped) (defBody s_grouped) (defScope s_grouped) .none kV_grouped dc_grouped pm_grouped an_grouped cd_grouped ct_grouped), sl_grouped⟩) (c_grouped : PySem.W.codeIn K cd_grouped "grouped" = true) (k_grouped : PySem.W.keepIn K (.ref f_grouped) = true)
    (a_summed_up : PySem.W.nsIn K mainGlobals "summed_up" = some (some (.ref f_summed_up))) (l_summed_up : K.lookup f_summed_up = some ⟨oc_summed_up, od_summed_up, .func (PySem.W.fnOf "summed_up" "summed_up" (defArgs s_summed_up) (defBody s_summed_up) (defScope s_summed_up) .none kV_summed_up dc_summed_up pm_summed_up an_summed_up cd_summed_up ct_summed_up), sl_summed_up⟩) (c_summed_up : PySem.W.codeIn K cd_summed_up "summed_up" = true) (k_summed_up : PySem.W.keepIn K (.ref f_summed_up) = true)
    (a_twin_of : PySem.W.nsIn K mainGlobals "twin_of" = some (some (.ref f_twin_of))) (l_twin_of : K.lookup f_twin_of = some ⟨oc_twin_of, od_twin_of, .func (PySem.W.fnOf "twin_of" "twin_of" (defArgs s_twin_of) (defBody s_twin_of) (defScope s_twin_of) .none kV_twin_of dc_twin_of pm_twin_of an_twin_of cd_twin_of ct_twin_of), sl_twin_of⟩) (c_twin_of : PySem.W.codeIn K cd_twin_of "twin_of" = true) (k_twin_of : PySem.W.keepIn K (.ref f_twin_of) = true)
    (a__law_cell_at : PySem.W.nsIn K mainGlobals "_law_cell_at" = some (some (.ref f__law_cell_at))) (l__law_cell_at : K.lookup f__law_cell_at = some ⟨oc__law_cell_at, od__law_cell_at, .func (PySem.W.fnOf "_law_cell_at" "_law_cell_at" (defArgs s__law_cell_at) (defBody s__law_cell_at) (defScope s__law_cell_at) .none kV__law_cell_at dc__law_cell_at pm__law_cell_at an__law_cell_at cd__law_cell_at ct__law_cell_at), sl__law_cell_at⟩) (c__law_cell_at : PySem.W.codeIn K cd__law_cell_at "_law_cell_at" = true) (k__law_cell_at : PySem.W.keepIn K (.ref f__law_cell_at) = true)
    (a__law_pool : PySem.W.nsIn K mainGlobals "_law_pool" = some (some (.ref f__law_pool))) (l__law_pool : K.lookup f__law_pool = some ⟨oc__law_pool, od__law_pool, .func (PySem.W.fnOf "_law_pool" "_law_pool" (defArgs s__law_pool) (defBody s__law_pool) (defScope s__law_pool) .none kV__law_pool dc__law_pool pm__law_pool an__law_pool cd__law_pool ct__law_pool), sl__law_pool⟩) (c__law_pool : PySem.W.codeIn K cd__law_pool "_law_pool" = true) (k__law_pool : PySem.W.keepIn K (.ref f__law_pool) = true)
    (a__law_take : PySem.W.nsIn K mainGlobals "_law_take" = some (some (.ref f__law_take))) (l__law_take : K.lookup f__law_take = some ⟨oc__law_take, od__law_take, .func (PySem.W.fnOf "_law_take" "_law_take" (defArgs s__law_take) (defBody s__law_take) (defScope s__law_take) .none kV__law_take dc__law_take pm__law_take an__law_take cd__law_take ct__law_take), sl__law_take⟩) (c__law_take : PySem.W.codeIn K cd__law_take "_law_take" = true) (k__law_take : PySem.W.keepIn K (.ref f__law_take) = true)
    (a__law_name : PySem.W.nsIn K mainGlobals "_law_name" = some (some (.ref f__law_name))) (l__law_name : K.lookup f__law_name = some ⟨oc__law_name, od__law_name, .func (PySem.W.fnOf "_law_name" "_law_name" (defArgs s__law_name) (defBody s__law_name) (defScope s__law_name) .none kV__law_name dc__law_name pm__law_name an__law_name cd__law_name ct__law_name), sl__law_name⟩) (c__law_name : PySem.W.codeIn K cd__law_name "_law_name" = true) (k__law_name : PySem.W.keepIn K (.ref f__law_name) = true)
    (a__law_summed : PySem.W.nsIn K mainGlobals "_law_summed" = some (some (.ref f__law_summed))) (l__law_summed : K.lookup f__law_summed = some ⟨oc__law_summed, od__law_summed, .func (PySem.W.fnOf "_law_summed" "_law_summed" (defArgs s__law_summed) (defBody s__law_summed) (defScope s__law_summed) .none kV__law_summed dc__law_summed pm__law_summed an__law_summed cd__law_summed ct__law_summed), sl__law_summed⟩) (c__law_summed : PySem.W.codeIn K cd__law_summed "_law_summed" = true) (k__law_summed : PySem.W.keepIn K (.ref f__law_summed) = true)
    (a__law_refused : PySem.W.nsIn K mainGlobals "_law_refused" = some (some (.ref f__law_refused))) (l__law_refused : K.lookup f__law_refused = some ⟨oc__law_refused, od__law_refused, .func (PySem.W.fnOf "_law_refused" "_law_refused" (defArgs s__law_refused) (defBody s__law_refused) (defScope s__law_refused) .none kV__law_refused dc__law_refused pm__law_refused an__law_refused cd__law_refused ct__law_refused), sl__law_refused⟩) (c__law_refused : PySem.W.codeIn K cd__law_refused "_law_refused" = true) (k__law_refused : PySem.W.keepIn K (.ref f__law_refused) = true)
    (a_law : PySem.W.nsIn K mainGlobals "law" = some (some (.ref f_law))) (l_law : K.lookup f_law = some ⟨oc_law, od_law, .func (PySem.W.fnOf "law" "law" (defArgs s_law) (defBody s_law) (defScope s_law) .none kV_law dc_law pm_law an_law cd_law ct_law), sl_law⟩) (c_law : PySem.W.codeIn K cd_law "law" = true) (k_law : PySem.W.keepIn K (.ref f_law) = true)
    (z_len : PySem.W.nsIn K mainGlobals "len" = some none)
    (z_list : PySem.W.nsIn K mainGlobals "list" = some none)
    (z_range : PySem.W.nsIn K mainGlobals "range" = some none)
    (z_tuple : PySem.W.nsIn K mainGlobals "tuple" = some none)
    (z_isinstance : PySem.W.nsIn K mainGlobals "isinstance" = some none)
    (z_sum : PySem.W.nsIn K mainGlobals "sum" = some none)
    (z_min : PySem.W.nsIn K mainGlobals "min" = some none)
    (z_max : PySem.W.nsIn K mainGlobals "max" = some none)
    (z_ValueError : PySem.W.nsIn K mainGlobals "ValueError" = some none)
    {tkl : Tok}
    (a_LONGEST : PySem.W.nsIn K mainGlobals "LONGEST" = some (some (.int 3 tkl)))
    {C_NoRead : Addr}
    (a_NoRead : PySem.W.nsIn K mainGlobals "NoRead" = some (some (.ref C_NoRead)))
    (x_NoRead : PySem.W.excIn K C_NoRead [.type "ValueError", .type "Exception", .type "BaseException", .type "object"] "ValueError.__new__" = true)
    (k_NoRead : PySem.W.keepIn K (.ref C_NoRead) = true)
    (b_NoRead : PySem.W.subIn K (.ref C_NoRead) (.type "BaseException") = some true)
    (t_NoRead : PySem.W.typeIn K (.ref C_NoRead) = some (.type "type"))
    {C_MadeError C_NoName C_Ring C_NoText C_NoRow C_NoRecord C_NoDeed : Addr}
    (a_MadeError : PySem.W.nsIn K mainGlobals "MadeError" = some (some (.ref C_MadeError)))
    (a_NoName : PySem.W.nsIn K mainGlobals "NoName" = some (some (.ref C_NoName)))
    (a_Ring : PySem.W.nsIn K mainGlobals "Ring" = some (some (.ref C_Ring)))
    (a_NoText : PySem.W.nsIn K mainGlobals "NoText" = some (some (.ref C_NoText)))
    (a_NoRow : PySem.W.nsIn K mainGlobals "NoRow" = some (some (.ref C_NoRow)))
    (a_NoRecord : PySem.W.nsIn K mainGlobals "NoRecord" = some (some (.ref C_NoRecord)))
    (a_NoDeed : PySem.W.nsIn K mainGlobals "NoDeed" = some (some (.ref C_NoDeed)))
    (d_MadeError : PySem.W.hasDictIn K C_MadeError = true)
    (d_NoName : PySem.W.hasDictIn K C_NoName = true)
    (d_Ring : PySem.W.hasDictIn K C_Ring = true)
    (d_NoText : PySem.W.hasDictIn K C_NoText = true)
    (d_NoRow : PySem.W.hasDictIn K C_NoRow = true)
    (d_NoRecord : PySem.W.hasDictIn K C_NoRecord = true)
    (d_NoDeed : PySem.W.hasDictIn K C_NoDeed = true)
    (y_MadeError : PySem.W.typeIn K (.ref C_MadeError) = some (.type "type"))
    (y_NoName : PySem.W.typeIn K (.ref C_NoName) = some (.type "type"))
    (y_Ring : PySem.W.typeIn K (.ref C_Ring) = some (.type "type"))
    (y_NoText : PySem.W.typeIn K (.ref C_NoText) = some (.type "type"))
    (y_NoRow : PySem.W.typeIn K (.ref C_NoRow) = some (.type "type"))
    (y_NoRecord : PySem.W.typeIn K (.ref C_NoRecord) = some (.type "type"))
    (y_NoDeed : PySem.W.typeIn K (.ref C_NoDeed) = some (.type "type"))
    (u_MadeError : PySem.W.subIn K (.ref C_NoRead) (.ref C_MadeError) = some true)
    (u_NoName : PySem.W.subIn K (.ref C_NoRead) (.ref C_NoName) = some false)
    (u_Ring : PySem.W.subIn K (.ref C_NoRead) (.ref C_Ring) = some false)
    (u_NoText : PySem.W.subIn K (.ref C_NoRead) (.ref C_NoText) = some false)
    (u_NoRow : PySem.W.subIn K (.ref C_NoRead) (.ref C_NoRow) = some false)
    (u_NoRecord : PySem.W.subIn K (.ref C_NoRead) (.ref C_NoRecord) = some false)
    (u_NoDeed : PySem.W.subIn K (.ref C_NoRead) (.ref C_NoDeed) = some false)
    (w_NoName : (C_NoRead == C_NoName) = false)
    (w_Ring : (C_NoRead == C_Ring) = false)
    (w_NoText : (C_NoRead == C_NoText) = false)
    (w_NoRow : (C_NoRead == C_NoRow) = false)
    (w_NoRecord : (C_NoRead == C_NoRecord) = false)
    (w_NoDeed : (C_NoRead == C_NoDeed) = false)
    (b_MadeError : PySem.W.subIn K (.ref C_MadeError) (.type "BaseException") = some true)
    (u_ValueError : PySem.W.subIn K (.ref C_NoRead) (.type "ValueError") = some true)
    (q_hg : PySem.W.findIn K (.ref C_NoRead) "__getattribute__" = some (some (.builtin "BaseException.__getattribute__")))
    (q_hk : PySem.W.findIn K (.ref C_NoRead) "__getattr__" = some none)
    (q_hd : PySem.W.hasDictIn K C_NoRead = true)
    (q_ha : PySem.W.findIn K (.ref C_NoRead) "__class__" = some (some (.builtin "object.__class__")))
    (q_hn : PySem.W.specialIn K (.builtin "object.__class__") "__get__" = some (some (.builtin "getset_descriptor.__get__")))
    (q_ht : PySem.W.takesIn K (.builtin "object.__class__") = some true)
    (q_hm : PySem.W.mroIn K C_NoRead (.type "object") = some true)
    : ∃ fd : FuncData, (∀ (s : Shared) (v : Value), BindsTo s fd ⟨[v], []⟩ [("script", v)]) ∧ ∀ base : Heap, K.In base → base.Ns mainGlobals mg → FnOk l.prog w K mg base CX0 4 fa fd ["script"] (spLaw K) := by
  have e := hfa.symm.trans (PySem.W.mg_of X G a_law)
  cases e
  have F_looked_through := fun_mk (st := s_looked_through) l_looked_through c_looked_through k_looked_through
  have D_looked_through : IsDef K mg "looked_through" s_looked_through ["reads"] := ⟨f_looked_through, _, F_looked_through, PySem.W.mg_of X G a_looked_through, F_looked_through.binds (ps := ["reads"]) fun _ _ _ _ _ _ us hl => match us, hl with | [_], _ => rfl⟩
  have F_grouped := fun_mk (st := s_grouped) l_grouped c_grouped k_grouped
  have D_grouped : IsDef K mg "grouped" s_grouped ["reads"] := ⟨f_grouped, _, F_grouped, PySem.W.mg_of X G a_grouped, F_grouped.binds (ps := ["reads"]) fun _ _ _ _ _ _ us hl => match us, hl with | [_], _ => rfl⟩
  have F_summed_up := fun_mk (st := s_summed_up) l_summed_up c_summed_up k_summed_up
  have D_summed_up : IsDef K mg "summed_up" s_summed_up ["parts"] := ⟨f_summed_up, _, F_summed_up, PySem.W.mg_of X G a_summed_up, F_summed_up.binds (ps := ["parts"]) fun _ _ _ _ _ _ us hl => match us, hl with | [_], _ => rfl⟩
  have F_twin_of := fun_mk (st := s_twin_of) l_twin_of c_twin_of k_twin_of
  have D_twin_of : IsDef K mg "twin_of" s_twin_of ["record", "k"] := ⟨f_twin_of, _, F_twin_of, PySem.W.mg_of X G a_twin_of, F_twin_of.binds (ps := ["record", "k"]) fun _ _ _ _ _ _ us hl => match us, hl with | [_, _], _ => rfl⟩
  have F__law_cell_at := fun_mk (st := s__law_cell_at) l__law_cell_at c__law_cell_at k__law_cell_at
  have D__law_cell_at : IsDef K mg "_law_cell_at" s__law_cell_at ["script", "k"] := ⟨f__law_cell_at, _, F__law_cell_at, PySem.W.mg_of X G a__law_cell_at, F__law_cell_at.binds (ps := ["script", "k"]) fun _ _ _ _ _ _ us hl => match us, hl with | [_, _], _ => rfl⟩
  have F__law_pool := fun_mk (st := s__law_pool) l__law_pool c__law_pool k__law_pool
  have D__law_pool : IsDef K mg "_law_pool" s__law_pool ["script", "k"] := ⟨f__law_pool, _, F__law_pool, PySem.W.mg_of X G a__law_pool, F__law_pool.binds (ps := ["script", "k"]) fun _ _ _ _ _ _ us hl => match us, hl with | [_, _], _ => rfl⟩
  have F__law_take := fun_mk (st := s__law_take) l__law_take c__law_take k__law_take
  have D__law_take : IsDef K mg "_law_take" s__law_take ["pool", "many"] := ⟨f__law_take, _, F__law_take, PySem.W.mg_of X G a__law_take, F__law_take.binds (ps := ["pool", "many"]) fun _ _ _ _ _ _ us hl => match us, hl with | [_, _], _ => rfl⟩
  have F__law_name := fun_mk (st := s__law_name) l__law_name c__law_name k__law_name
  have D__law_name : IsDef K mg "_law_name" s__law_name ["k"] := ⟨f__law_name, _, F__law_name, PySem.W.mg_of X G a__law_name, F__law_name.binds (ps := ["k"]) fun _ _ _ _ _ _ us hl => match us, hl with | [_], _ => rfl⟩
  have F__law_summed := fun_mk (st := s__law_summed) l__law_summed c__law_summed k__law_summed
  have D__law_summed : IsDef K mg "_law_summed" s__law_summed ["reads", "worth"] := ⟨f__law_summed, _, F__law_summed, PySem.W.mg_of X G a__law_summed, F__law_summed.binds (ps := ["reads", "worth"]) fun _ _ _ _ _ _ us hl => match us, hl with | [_, _], _ => rfl⟩
  have F__law_refused := fun_mk (st := s__law_refused) l__law_refused c__law_refused k__law_refused
  have D__law_refused : IsDef K mg "_law_refused" s__law_refused ["record", "k"] := ⟨f__law_refused, _, F__law_refused, PySem.W.mg_of X G a__law_refused, F__law_refused.binds (ps := ["record", "k"]) fun _ _ _ _ _ _ us hl => match us, hl with | [_, _], _ => rfl⟩
  have F_law := fun_mk (st := s_law) l_law c_law k_law
  have m_len := PySem.W.mg_none_of X G z_len
  have m_list := PySem.W.mg_none_of X G z_list
  have m_range := PySem.W.mg_none_of X G z_range
  have m_tuple := PySem.W.mg_none_of X G z_tuple
  have m_isinstance := PySem.W.mg_none_of X G z_isinstance
  have m_sum := PySem.W.mg_none_of X G z_sum
  have m_min := PySem.W.mg_none_of X G z_min
  have m_max := PySem.W.mg_none_of X G z_max
  have m_ValueError := PySem.W.mg_none_of X G z_ValueError
  have T : Txt K mg := ⟨m_len, m_list, m_range, m_tuple, m_isinstance, m_sum, m_min, m_max, m_ValueError⟩
  have XN : NoX K mg "NoRead" C_NoRead := ⟨x_NoRead, PySem.W.mg_of X G a_NoRead, k_NoRead, b_NoRead, t_NoRead⟩
  have RE : Kin38 K mg C_NoRead C_MadeError C_NoName C_Ring C_NoText C_NoRow C_NoRecord C_NoDeed := ⟨PySem.W.mg_of X G a_MadeError, PySem.W.mg_of X G a_NoRead, PySem.W.mg_of X G a_NoName, PySem.W.mg_of X G a_Ring, PySem.W.mg_of X G a_NoText, PySem.W.mg_of X G a_NoRow, PySem.W.mg_of X G a_NoRecord, PySem.W.mg_of X G a_NoDeed, PySem.W.exm_ref b_MadeError d_MadeError y_MadeError u_MadeError, ⟨q_hg, q_hk, b_NoRead, q_hd, q_ha, q_hn, q_ht, q_hm⟩, kit_built (by decide +kernel) u_ValueError, kit_own w_NoName d_NoName y_NoName u_NoName, kit_own w_Ring d_Ring y_Ring u_Ring, kit_own w_NoText d_NoText y_NoText u_NoText, kit_own w_NoRow d_NoRow y_NoRow u_NoRow, kit_own w_NoRecord d_NoRecord y_NoRecord u_NoRecord, kit_own w_NoDeed d_NoDeed y_NoDeed u_NoDeed⟩
  refine ⟨PySem.W.fnOf "law" "law" (defArgs s_law) (defBody s_law) (defScope s_law) .none kV_law dc_law pm_law an_law cd_law ct_law, fun s v => .of_eq rfl, fun base _ _ => ?_⟩
  have A1 := ok__law_cell_at (P := l.prog) (w := w) (base := base) T D__law_cell_at
  have A5 := ok_twin_of (P := l.prog) (w := w) (base := base) T XN D_twin_of (ok_grouped T ⟨_, PySem.W.mg_of X G a_LONGEST⟩ D_grouped) (ok_looked_through T D_looked_through) (ok_summed_up T D_summed_up)
  exact ok_law F_law T A1 (ok__law_pool T D__law_pool A1) (ok__law_take T D__law_take) (ok__law_name T D__law_name) (ok__law_summed T D__law_summed) (ok__law_refused T RE D__law_refused A5) A5
theorem walk {l : PySem.W.OpenLaw} {q : Program} {loose : List Str} {XP : (Str → Option Value) → Heap → Prop} {YP : World → Heap → Prop} {d : DefRec} {K : Params → PySem.W.Frag} (hn : l.most = some 63) (hdf : d.params.defaults = [])
    (hY : ∀ (w : World) (h : Heap), YP w h → (K w.params).In h)
    (F : ∀ (w : World) (mg : Str → Option Value) (fa : Addr) (h : Heap), (K w.params).In h → h.Ns mainGlobals mg → mg d.name = some (.ref fa) →
      ∃ fd : FuncData, (∀ (s : Shared) (u : Value), BindsTo s fd ⟨[u], []⟩ [("script", u)]) ∧ ∀ base : Heap, (K w.params).In base → base.Ns mainGlobals mg → FnOk l.prog w (K w.params) mg base CX0 4 fa fd ["script"] (spLaw (K w.params))) :
    PySem.W.WalkO q loose XP YP l.row.toRowW d [] (fun f vs => PySem.call f vs) :=
  L2.walk_of (n := 63) (k := 4) (x := "script") (CX := fun _ => CX0) (sp := fun w => spLaw (K w.params)) hn (by decide) hdf ⟨rfl, by decide, by decide⟩ hY F (fun _ _ a ns hl _ hS => ⟨a, ns, rfl, hS, hl, fun _ => rfl⟩) fun _ _ _ _ _ z => z
end Mad
open PySem PySem.W PyProof.Rows
set_option maxRecDepth 100000 in
set_option maxHeartbeats 0 in
theorem PySem.Challenge.cw_madeagain_k38_no_read_holds : PySem.Challenge.rw_madeagain_k38_no_read.Holds := by
  w_on; o_law; k_head; (case hw => w_witness2)
  k_fill
  refine Mad.walk (l := PySem.Challenge.rw_madeagain_k38_no_read) rfl rfl (fun w h Y => PySem.W.kIn_of Y) ?F
  case F =>
    intro w mg fa h KX G hmg
    refine' Mad.all_mk KX G hmg ?a_looked_through ?l_looked_through ?c_looked_through ?k_looked_through ?a_grouped ?l_grouped ?c_grouped ?k_grouped ?a_summed_up ?l_summed_up ?c_summed_up ?k_summed_up ?a_twin_of ?l_twin_of ?c_twin_of ?k_twin_of ?a__law_cell_at ?l__law_cell_at ?c__law_cell_at ?k__law_cell_at ?a__law_pool ?l__law_pool ?c__law_pool ?k__law_pool ?a__law_take ?l__law_take ?c__law_take ?k__law_take ?a__law_name ?l__law_name ?c__law_name ?k__law_name ?a__law_summed ?l__law_summed ?c__law_summed ?k__law_summed ?a__law_refused ?l__law_refused ?c__law_refused ?k__law_refused ?a_law ?l_law ?c_law ?k_law ?z_len ?z_list ?z_range ?z_tuple ?z_isinstance ?z_sum ?z_min ?z_max ?z_ValueError ?a_LONGEST ?a_NoRead ?x_NoRead ?k_NoRead ?b_NoRead ?t_NoRead ?a_MadeError ?a_NoName ?a_Ring ?a_NoText ?a_NoRow ?a_NoRecord ?a_NoDeed ?d_MadeError ?d_NoName ?d_Ring ?d_NoText ?d_NoRow ?d_NoRecord ?d_NoDeed ?y_MadeError ?y_NoName ?y_Ring ?y_NoText ?y_NoRow ?y_NoRecord ?y_NoDeed ?u_MadeError ?u_NoName ?u_Ring ?u_NoText ?u_NoRow ?u_NoRecord ?u_NoDeed ?w_NoName ?w_Ring ?w_NoText ?w_NoRow ?w_NoRecord ?w_NoDeed ?b_MadeError ?u_ValueError ?q_hg ?q_hk ?q_hd ?q_ha ?q_hn ?q_ht ?q_hm
    (case a_looked_through => k_is)
    (case l_looked_through => k_is)
    (case c_looked_through => k_is)
    (case k_looked_through => k_is)
    (case a_grouped => k_is)
    (case l_grouped => k_is)
    (case c_grouped => k_is)
    (case k_grouped => k_is)
    (case a_summed_up => k_is)
    (case l_summed_up => k_is)
    (case c_summed_up => k_is)
    (case k_summed_up => k_is)
    (case a_twin_of => k_is)
    (case l_twin_of => k_is)
    (case c_twin_of => k_is)
    (case k_twin_of => k_is)
    (case a__law_cell_at => k_is)
    (case l__law_cell_at => k_is)
    (case c__law_cell_at => k_is)
    (case k__law_cell_at => k_is)
    (case a__law_pool => k_is)
    (case l__law_pool => k_is)
    (case c__law_pool => k_is)
    (case k__law_pool => k_is)
    (case a__law_take => k_is)
    (case l__law_take => k_is)
    (case c__law_take => k_is)
    (case k__law_take => k_is)
    (case a__law_name => k_is)
    (case l__law_name => k_is)
    (case c__law_name => k_is)
    (case k__law_name => k_is)
    (case a__law_summed => k_is)
    (case l__law_summed => k_is)
    (case c__law_summed => k_is)
    (case k__law_summed => k_is)
    (case a__law_refused => k_is)
    (case l__law_refused => k_is)
    (case c__law_refused => k_is)
    (case k__law_refused => k_is)
    (case a_law => k_is)
    (case l_law => k_is)
    (case c_law => k_is)
    (case k_law => k_is)
    (case z_len => k_is)
    (case z_list => k_is)
    (case z_range => k_is)
    (case z_tuple => k_is)
    (case z_isinstance => k_is)
    (case z_sum => k_is)
    (case z_min => k_is)
    (case z_max => k_is)
    (case z_ValueError => k_is)
    (case a_LONGEST => k_is)
    (case a_NoRead => k_is)
    (case x_NoRead => k_exc)
    (case k_NoRead => k_is)
    (case b_NoRead => k_is)
    (case t_NoRead => k_is)
    (case a_MadeError => k_is)
    (case a_NoName => k_is)
    (case a_Ring => k_is)
    (case a_NoText => k_is)
    (case a_NoRow => k_is)
    (case a_NoRecord => k_is)
    (case a_NoDeed => k_is)
    (case d_MadeError => k_is)
    (case d_NoName => k_is)
    (case d_Ring => k_is)
    (case d_NoText => k_is)
    (case d_NoRow => k_is)
    (case d_NoRecord => k_is)
    (case d_NoDeed => k_is)
    (case y_MadeError => k_is)
    (case y_NoName => k_is)
    (case y_Ring => k_is)
    (case y_NoText => k_is)
    (case y_NoRow => k_is)
    (case y_NoRecord => k_is)
    (case y_NoDeed => k_is)
    (case u_MadeError => k_is)
    (case u_NoName => k_is)
    (case u_Ring => k_is)
    (case u_NoText => k_is)
    (case u_NoRow => k_is)
    (case u_NoRecord => k_is)
    (case u_NoDeed => k_is)
    (case w_NoName => first | rfl | decide)
    (case w_Ring => first | rfl | decide)
    (case w_NoText => first | rfl | decide)
    (case w_NoRow => first | rfl | decide)
    (case w_NoRecord => first | rfl | decide)
    (case w_NoDeed => first | rfl | decide)
    (case b_MadeError => k_is)
    (case u_ValueError => k_is)
    (case q_hg => k_is)
    (case q_hk => k_is)
    (case q_hd => k_is)
    (case q_ha => k_is)
    (case q_hn => k_is)
    (case q_ht => k_is)
    (case q_hm => k_is)
#print axioms PySem.Challenge.cw_madeagain_k38_no_read_holds
