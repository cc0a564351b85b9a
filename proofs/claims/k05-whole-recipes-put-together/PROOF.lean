import PyProof.Rows.All
import Wide.All
import OpenK.AllK
import Wide.FinOn
import HandS.ForMost
import HandS.Wide
import HandS.IsInst
import HandS.Codes
import HandS.More
import HandS.Style
import HandS.TupMul
import HandS.TupAny
import HandS.Dict
import HandS.Iter
import HandS.SortInts
import HandS.SortOrd
import KE.KEqSeq
import HandS.Exc
import HandS.ExcOwn
import HandS.WordsExc
import KE.IntTextLaws
import KE.IntTextText
import HandS.ExcValue
import HandS.TryOnly
import HandS.ExcIs
import PyProof.StrOps2
import HandS.Strs
import HandS.NoneIn
import HandS.Zip
import PySem.Challenge.RW_madeagain_k05_whole_recipes_put_together
set_option Elab.async false
set_option linter.all false
set_option maxRecDepth 100000
set_option maxHeartbeats 4000000
set_option pp.maxSteps 300
namespace Mad
open PySem PySem.Spec PyProof.Rows L2
def topS (i : Nat) : Stmt := PySem.Challenge.pw_madeagain_k05_whole_recipes_put_together.main.body.getD i (.Pass ⟨0, 0, 0, 0⟩)
/-! ### short words over the layer -/
/-- the def x of the text stands in the module as st says -/
def IsDef (K : PySem.W.Frag) (mg : Str → Option Value) (x : Str) (st : Stmt) (ps : List Str) : Prop := ∃ (f : Addr) (fd : FuncData), Fun K x x st f fd ∧ mg x = some (.ref f) ∧ Binds K fd ps []
/-- the def x keeps the promise sp by at most k calls in one another -/
def Cal (P : Program) (w : World) (K : PySem.W.Frag) (mg : Str → Option Value) (base : Heap) (CX : CXT) (k : Nat) (x : Str) (ps : List Str) (sp : Sp) : Prop :=
  ∃ (f : Addr) (fd : FuncData), FnOk P w K mg base CX k f fd ps sp ∧ mg x = some (.ref f) ∧ PySem.W.keepIn K (.ref f) = true ∧ Binds K fd ps []
section
variable {P : Program} {w : World} {K : PySem.W.Frag} {mg : Str → Option Value} {base : Heap}
theorem Cal.mono {CX : CXT} {j k : Nat} {x : Str} {ps : List Str} {sp : Sp} (c : Cal P w K mg base CX j x ps sp) (h : j ≤ k) : Cal P w K mg base CX k x ps sp := by
  obtain ⟨f, fd, F, r⟩ := c
  exact ⟨f, fd, F.mono h, r⟩
theorem Cal.imp {CX : CXT} {k : Nat} {x : Str} {ps : List Str} {sp sp' : Sp} (c : Cal P w K mg base CX k x ps sp) (h : ∀ vs H Q E, sp' vs H Q E → sp vs H Q E) : Cal P w K mg base CX k x ps sp' := by
  obtain ⟨f, fd, F, r⟩ := c
  exact ⟨f, fd, F.imp h, r⟩
/-- of no depth none is asked -/
theorem cal_none {x : Str} {st : Stmt} {ps : List Str} {sp : Sp} {CX : CXT} {k : Nat} (D : IsDef K mg x st ps) (no : ∀ vs H Q E, ¬ sp vs H Q E) : Cal P w K mg base CX k x ps sp := by
  obtain ⟨f, fd, F, m, b⟩ := D
  exact ⟨f, fd, ⟨fun vs H Q E h => absurd h (no vs H Q E), fun A outer s H args us vs Q E _ _ _ _ h => absurd h (no vs H Q E)⟩, m, F.kp, b⟩
theorem IsDef.cal {x : Str} {st : Stmt} {N ps : List Str} {k : Nat} {sp : Sp} (D : IsDef K mg x st ps) (S : FnScope N ps (defScope st)) (len : ∀ vs H Q E, sp vs H Q E → vs.length = ps.length)
    (hbody : ∀ (f : Addr) (cdv : Value) (A : Around) (outer : List Env) (s : Shared) (H : Hp) (vs : List V) (Q : VK) (E : XK), Room k (A.deeper (envOfC x (defScope st) s.heap.objs.size f cdv)) → sp vs H Q E →
      ∃ t, PSs (cxOf CX0 P w K mg base N x (defScope st) f cdv A outer s H E).nox (defBody st) t ∧ t { nx := fun _ H' => Q .non H', rt := Q } (start N vs) H) : Cal P w K mg base CX0 (k + 1) x ps sp := by
  obtain ⟨f, fd, F, m, b⟩ := D
  exact ⟨f, fd, F.ok S len fun cdv A outer s H vs Q E => hbody f cdv A outer s H vs Q E, m, F.kp, b⟩
end
section
variable {X : Cx} {CX : CXT} {k : Nat} {ps : List Str} {sp : Sp} {E : XK} {x : Str} {p pos : Pos}
theorem pe_cal {e : Expr} {es : List Expr} {t : TA} (c : Cal X.prog X.w X.K X.mg X.base CX k x ps sp) (hr : Room k X.A) (hx : Passes CX X E) (ha : PA X (e :: es) t) (hg : Gl X x := by rfl)
    (hdb : (x == ("__debug__" : Str)) = false := by decide) (he : starEach (e :: es) X.env = (false, eval e X.env) :: starEach es X.env := by rfl) (hpl : (backTo pos (starEach es X.env)).any (·.1) = false := by rfl) :
    PE X (.Call (.Name x p) (e :: es) [] pos) (tCall sp [] E t) := by
  obtain ⟨f, fd, F, m, kp, b⟩ := c
  exact pe_call F hr hg m kp b .nil hx ha hdb he hpl
theorem pe_cal0 (c : Cal X.prog X.w X.K X.mg X.base CX k x ps sp) (hr : Room k X.A) (hx : Passes CX X E) (hg : Gl X x := by rfl) (hdb : (x == ("__debug__" : Str)) = false := by decide) :
    PE X (.Call (.Name x p) [] [] pos) (tCall sp [] E tNil) := by
  obtain ⟨f, fd, F, m, kp, b⟩ := c
  exact pe_call0 F hr hg m kp b .nil hx hdb
end
theorem le_line {n : Nat} (h : n ≤ 16777216) : n ≤ sizeLine := by rw [sizeLine_eq]; exact h
theorem lt_line {n : Nat} (h : n < 16777216) : n < sizeLine := by rw [sizeLine_eq]; exact h
theorem same_new {H : Hp} {p : Addr} (h : H p = none) (o : HO) : Same H (upd H p o) := fun b u q => by rw [upd_ne (ne_of_none q h)]; exact q
theorem same_upd {B H : Hp} {p : Addr} (s : Same B H) (h : B p = none) (o : HO) : Same B (upd H p o) := fun b u q => by
  have z : b ≠ p := fun e => by rw [e, h] at q; cases q
  rw [upd_ne z]; exact s _ _ q
theorem atI_at {α : Type} {xs : List α} {i : Int} {v : α} (h0 : 0 ≤ i) (h : xs[i.toNat]? = some v) : atI xs i = some v := by
  have e : i = ((i.toNat : Nat) : Int) := by omega
  rw [e]; exact atI_nat h
theorem ixN_at {n : Nat} {i : Int} (h0 : 0 ≤ i) (h : i < n) : ixN n i = some i.toNat := by
  unfold ixN
  rw [if_pos h0, if_pos h]
theorem int_at {ns : List Int} {i : Int} (h0 : 0 ≤ i) (h : i < ns.length) : ∃ v : Int, atI (ns.map V.int) i = some (.int v) := by
  have hk : i.toNat < ns.length := by omega
  exact ⟨ns[i.toNat], atI_at h0 (by rw [List.getElem?_map, List.getElem?_eq_getElem hk] <;> rfl)⟩
theorem if_true_eq {c : Bool} {A B : Prop} (h : c = true) (a : A) : if c = true then A else B := by rw [if_pos h]; exact a
theorem if_false_eq {c : Bool} {A B : Prop} (h : c = false) (b : B) : if c = true then A else B := by rw [h]; exact b
theorem not_true_eq {c : Bool} {A B : Prop} (h : c = true) (b : B) : if (!c) = true then A else B := by rw [h]; exact b
theorem not_false_eq {c : Bool} {A B : Prop} (h : c = false) (a : A) : if (!c) = true then A else B := by rw [h]; exact a
structure Txt (K : PySem.W.Frag) (mg : Str → Option Value) : Prop where
  b_len : mg "len" = none
  b_range : mg "range" = none
  b_tuple : mg "tuple" = none
  b_list : mg "list" = none
  b_str : mg "str" = none
  b_int : mg "int" = none
  b_isinstance : mg "isinstance" = none
  b_bool : mg "bool" = none
  b_dict : mg "dict" = none
  b_sorted : mg "sorted" = none
  b_zip : mg "zip" = none
/-! ### recipes as data -/
inductive Kd where
  | plus | minus | times | most
  deriving DecidableEq
def Kd.name : Kd → Str
  | .plus => "plus" | .minus => "minus" | .times => "times" | .most => "most"
inductive Rcp where
  | num (n : Int)
  | read (s : List Nat)
  | two (k : Kd) (a b : Rcp)
  | pick (a b c : Rcp)
  | choose (a : Rcp) (ns : List (List Nat))
def Rcp.dep : Rcp → Nat
  | .num _ => 1
  | .read _ => 1
  | .two _ a b => max a.dep b.dep + 1
  | .pick a b c => max a.dep (max b.dep c.dep) + 1
  | .choose a _ => a.dep + 1
def Rcp.siz : Rcp → Nat
  | .num _ => 1
  | .read _ => 1
  | .two _ a b => a.siz + b.siz + 1
  | .pick a b c => a.siz + b.siz + c.siz + 1
  | .choose a _ => a.siz + 1
/-- a name's signs -/
def Nm (s : List Nat) : Prop := 1 ≤ s.length ∧ s.length ≤ 8 ∧ ∀ c ∈ s, 97 ≤ c ∧ c ≤ 122
def Nms (ns : List (List Nat)) : Prop := 1 ≤ ns.length ∧ ns.length ≤ 9 ∧ ∀ s ∈ ns, Nm s
def Rcp.Good : Rcp → Prop
  | .num n => n.natAbs < 10 ^ 40
  | .read s => Nm s
  | .two _ a b => a.Good ∧ b.Good
  | .pick a b c => a.Good ∧ b.Good ∧ c.Good
  | .choose a ns => a.Good ∧ Nms ns
def txs (ns : List (List Nat)) : List V := (ns.map SX.S).map V.str
/-- the value v is the recipe r in H -/
def Rec (H : Hp) : Rcp → V → Prop
  | .num n, v => ∃ p, v = .ref p ∧ H p = some (.tup [.str "number", .int n])
  | .read s, v => ∃ p, v = .ref p ∧ H p = some (.tup [.str "read", .str (SX.S s)])
  | .two k a b, v => ∃ p x y, v = .ref p ∧ H p = some (.tup [.str k.name, x, y]) ∧ Rec H a x ∧ Rec H b y
  | .pick a b c, v => ∃ p x y z, v = .ref p ∧ H p = some (.tup [.str "pick", x, y, z]) ∧ Rec H a x ∧ Rec H b y ∧ Rec H c z
  | .choose a ns, v => ∃ p x q, v = .ref p ∧ H p = some (.tup [.str "choose", x, .ref q]) ∧ Rec H a x ∧ H q = some (.tup (txs ns))
/-- tuples stay -/
def Keep (H H' : Hp) : Prop := ∀ b xs, H b = some (.tup xs) → H' b = some (.tup xs)
theorem Keep.refl (H : Hp) : Keep H H := fun _ _ h => h
theorem Keep.trans {A B C : Hp} (h : Keep A B) (k : Keep B C) : Keep A C := fun b xs q => k b xs (h b xs q)
theorem same_keep {H H' : Hp} (s : Same H H') : Keep H H' := fun b xs q => s b _ q
theorem keep_lst {H : Hp} {l : Addr} {xs ys : List V} (h : H l = some (.lst xs)) : Keep H (upd H l (.lst ys)) := fun b zs q => by
  have z : b ≠ l := fun e => by rw [e, h] at q; cases q
  rw [upd_ne z]; exact q
theorem Rec.keep {H H' : Hp} (k : Keep H H') : ∀ {r : Rcp} {v : V}, Rec H r v → Rec H' r v
  | .num n, v, ⟨p, e, h⟩ => ⟨p, e, k _ _ h⟩
  | .read s, v, ⟨p, e, h⟩ => ⟨p, e, k _ _ h⟩
  | .two _ a b, v, ⟨p, x, y, e, h, ra, rb⟩ => ⟨p, x, y, e, k _ _ h, Rec.keep k ra, Rec.keep k rb⟩
  | .pick a b c, v, ⟨p, x, y, z, e, h, ra, rb, rc⟩ => ⟨p, x, y, z, e, k _ _ h, Rec.keep k ra, Rec.keep k rb, Rec.keep k rc⟩
  | .choose a ns, v, ⟨p, x, q, e, h, ra, hq⟩ => ⟨p, x, q, e, k _ _ h, Rec.keep k ra, k _ _ hq⟩
theorem Rec.same {H H' : Hp} (s : Same H H') {r : Rcp} {v : V} (h : Rec H r v) : Rec H' r v := h.keep (same_keep s)
theorem dep_pos : ∀ r : Rcp, 1 ≤ r.dep
  | .num _ => Nat.le_refl _
  | .read _ => Nat.le_refl _
  | .two _ _ _ => Nat.le_add_left _ _
  | .pick _ _ _ => Nat.le_add_left _ _
  | .choose _ _ => Nat.le_add_left _ _
theorem siz_pos : ∀ r : Rcp, 1 ≤ r.siz
  | .num _ => Nat.le_refl _
  | .read _ => Nat.le_refl _
  | .two _ _ _ => Nat.le_add_left _ _
  | .pick _ _ _ => Nat.le_add_left _ _
  | .choose _ _ => Nat.le_add_left _ _
theorem iteY {p A B : Prop} [Decidable p] (h : p) (a : A) : if decide p = true then A else B := by
  rw [if_pos (decide_eq_true h)]; exact a
theorem iteN {p A B : Prop} [Decidable p] (h : ¬p) (b : B) : if decide p = true then A else B := by
  rw [if_neg (fun z => h (of_decide_eq_true z))]; exact b
theorem txs_get {ns : List (List Nat)} {i : Nat} (h : i < ns.length) : (txs ns)[i]? = some (.str (SX.S ns[i])) := by
  unfold txs
  rw [List.getElem?_map, List.getElem?_map, List.getElem?_eq_getElem h]
  all_goals rfl
theorem txs_mem {ns : List (List Nat)} {x : V} (h : x ∈ txs ns) : ∃ s, s ∈ ns ∧ x = .str (SX.S s) := by
  obtain ⟨y, hy, rfl⟩ := List.mem_map.mp h
  obtain ⟨s, hs, rfl⟩ := List.mem_map.mp hy
  exact ⟨s, hs, rfl⟩
theorem txs_len (ns : List (List Nat)) : (txs ns).length = ns.length := by unfold txs; rw [List.length_map, List.length_map]
theorem txs_app (a b : List (List Nat)) : txs (a ++ b) = txs a ++ txs b := by unfold txs; rw [List.map_append, List.map_append]
/-- the signs, one by one -/
def ones (ss : List Nat) : List (List Nat) := ss.map fun c => [c]
theorem ones_flat (ss : List Nat) : (ones ss).flatten = ss := by
  induction ss with
  | nil => rfl
  | cons a r ih => show [a] ++ (ones r).flatten = _; rw [ih]; rfl
theorem ones_sum (ss : List Nat) : (((ones ss).map SX.S).map (·.length)).sum = ss.length := by
  induction ss with
  | nil => rfl
  | cons a r ih => show 1 + (((ones r).map SX.S).map (·.length)).sum = r.length + 1; rw [ih, Nat.add_comm]
theorem ones_len (ss : List Nat) : (ones ss).length = ss.length := List.length_map _
/-- the pick out of some things by a drawn number -/
theorem one_of {α : Type} {xs : List α} {v : Int} (h0 : 0 ≤ v) (h : v < xs.length) : ∃ x, x ∈ xs ∧ atI xs v = some x := by
  have hk : v.toNat < xs.length := by omega
  exact ⟨xs[v.toNat], List.getElem_mem hk, atI_at h0 (List.getElem?_eq_getElem hk)⟩
def letters : List Nat := [97, 98, 99, 100, 101, 102, 103, 104, 105, 106, 107, 108, 109, 110, 111, 112, 113, 114, 115, 116, 117, 118, 119, 120, 121, 122]
theorem letters_is : ("abcdefghijklmnopqrstuvwxyz" : Str) = SX.S letters := by decide +kernel
theorem letters_ok : ∀ c ∈ letters, 97 ≤ c ∧ c ≤ 122 := by decide
/-! ### rows of recipes -/
def Recs (H : Hp) : List Rcp → List V → Prop
  | [], [] => True
  | r :: rs, v :: vs => Rec H r v ∧ Recs H rs vs
  | _, _ => False
theorem Recs.keep {H H' : Hp} (k : Keep H H') : ∀ {rs : List Rcp} {vs : List V}, Recs H rs vs → Recs H' rs vs
  | [], [], _ => trivial
  | _ :: _, _ :: _, h => ⟨h.1.keep k, Recs.keep k h.2⟩
  | [], _ :: _, h => h.elim
  | _ :: _, [], h => h.elim
theorem Recs.len {H : Hp} : ∀ {rs : List Rcp} {vs : List V}, Recs H rs vs → vs.length = rs.length
  | [], [], _ => rfl
  | _ :: _, _ :: _, h => congrArg (· + 1) (Recs.len h.2)
  | [], _ :: _, h => h.elim
  | _ :: _, [], h => h.elim
theorem Recs.snoc {H : Hp} {r : Rcp} {v : V} (hr : Rec H r v) : ∀ {rs : List Rcp} {vs : List V}, Recs H rs vs → Recs H (rs ++ [r]) (vs ++ [v])
  | [], [], _ => ⟨hr, trivial⟩
  | _ :: _, _ :: _, h => ⟨h.1, Recs.snoc hr h.2⟩
  | [], _ :: _, h => h.elim
  | _ :: _, [], h => h.elim
theorem Recs.at {H : Hp} : ∀ {rs : List Rcp} {vs : List V} {i : Nat} {v : V}, Recs H rs vs → vs[i]? = some v → ∃ r, rs[i]? = some r ∧ Rec H r v
  | [], [], i, v, _, e => by simp at e
  | r :: _, _ :: _, 0, v, h, e => ⟨r, rfl, by cases e; exact h.1⟩
  | _ :: _, _ :: _, i + 1, v, h, e => Recs.at (i := i) h.2 (by simpa using e)
  | [], _ :: _, _, _, h, _ => h.elim
  | _ :: _, [], _, _, h, _ => h.elim
theorem Recs.get {H : Hp} {rs : List Rcp} {vs : List V} {i : Nat} (h : Recs H rs vs) (hi : i < rs.length) : ∃ v r, vs[i]? = some v ∧ rs[i]? = some r ∧ Rec H r v := by
  have hv : i < vs.length := by rw [h.len]; exact hi
  obtain ⟨r, e, hr⟩ := h.at (List.getElem?_eq_getElem hv)
  exact ⟨_, r, List.getElem?_eq_getElem hv, e, hr⟩
/-- a comprehension over a range with a step -/
theorem lcC {lo c : Int} {n : Nat} {g : TG} {tt : TT} {te : TE} {vs : List Nat} {σ : L2.St} {H1 : Hp} {D : Addr} {Qd : Hp → Prop} (Pv : Nat → Hp → Prop)
    (h0 : Pv 0 (upd H1 D (.lst [])))
    (hs : ∀ i H, i < n → Pv i H → g (.int (lo + (i : Nat) * c)) (wipe σ vs) H
      fun σ2 H2 => wipe σ2 vs = wipe σ vs ∧ tt σ2 H2
        fun b H3 => if b = true then te σ2 H3
          fun y H4 => ∃ acc, H4 D = some (.lst acc) ∧ acc.length < sizeLine ∧ Pv (i + 1) (upd H4 D (.lst (acc ++ [y])))
        else Pv (i + 1) H3)
    (hd : ∀ H, Pv n H → Qd H) :
    ∃ W : Nat → Nat → Hp → Prop, (∃ m, W 0 m (upd H1 D (.lst []))) ∧
      ∀ i m H, W i m H → ((Itc lo c n).stop i H ∧ Qd H) ∨ ((Itc lo c n).go i H ∧
        ∃ Nx : Hp → Prop, (∀ H', Nx H' → ∃ m', m' < m ∧ W (i + 1) m' H') ∧
          ∀ x H', (Itc lo c n).yld i H x H' → g x (wipe σ vs) H'
            fun σ2 H2 => wipe σ2 vs = wipe σ vs ∧ tt σ2 H2
              fun b H3 => if b = true then te σ2 H3
                fun y H4 => ∃ acc, H4 D = some (.lst acc) ∧ acc.length < sizeLine ∧ Nx (upd H4 D (.lst (acc ++ [y])))
              else Nx H3) := by
  refine ⟨fun i m H => m = n - i ∧ i ≤ n ∧ Pv i H, ⟨n, rfl, Nat.zero_le _, h0⟩, fun i m H w => ?_⟩
  obtain ⟨em, hi, p⟩ := w
  by_cases hlt : i < n
  · refine Or.inr ⟨hlt, Pv (i + 1), fun H' p' => ⟨n - (i + 1), by omega, rfl, hlt, p'⟩, fun x H' y => ?_⟩
    obtain ⟨e1, e2⟩ := y
    rw [e1, e2]
    exact hs i H hlt p
  · have e : i = n := by omega
    rw [e] at p
    exact Or.inl ⟨by show n ≤ i; omega, hd H p⟩
theorem cut_nat (xs : List V) {a b : Nat} (h : a ≤ b) : cutV xs (some (a : Int)) (some (b : Int)) = (xs.drop a).take (b - a) := by
  show (xs.drop (HT.sIx xs.length 0 (some (a : Int)))).take (HT.sIx xs.length xs.length (some (b : Int)) - HT.sIx xs.length 0 (some (a : Int))) = _
  rw [HT.sIx_nat, HT.sIx_nat]
  by_cases ha : a ≤ xs.length
  · rw [Nat.min_eq_left ha]
    by_cases hb : b ≤ xs.length
    · rw [Nat.min_eq_left hb]
    · rw [Nat.min_eq_right (by omega), List.take_of_length_le (by rw [List.length_drop]; omega), List.take_of_length_le (by rw [List.length_drop]; omega)]
  · have e1 : min a xs.length = xs.length := by omega
    rw [e1, List.drop_eq_nil_of_le (Nat.le_refl _), List.drop_eq_nil_of_le (by omega), List.take_nil, List.take_nil]
theorem cut_to (xs : List V) (b : Nat) : cutV xs none (some (b : Int)) = xs.take b := by
  show (xs.drop (HT.sIx xs.length 0 none)).take (HT.sIx xs.length xs.length (some (b : Int)) - HT.sIx xs.length 0 none) = _
  rw [HT.sIx_none, HT.sIx_nat, List.drop_zero, Nat.sub_zero]
  by_cases hb : b ≤ xs.length
  · rw [Nat.min_eq_left hb]
  · rw [Nat.min_eq_right (by omega), List.take_of_length_le (Nat.le_refl _), List.take_of_length_le (by omega)]
/-! ### any things as data -/
inductive Th where
  | non
  | bl (b : Bool)
  | int (i : Int)
  | str (s : List Nat)
  | tup (l : List Th)
  | lst (l : List Th)
  | dct
mutual
/-- the value stands for the thing in H -/
def Data (H : Hp) : Th → V → Prop
  | .non, v => v = .non
  | .bl b, v => v = .bl b
  | .int i, v => v = .int i
  | .str s, v => v = .str (SX.S s)
  | .tup l, v => ∃ p xs, v = .ref p ∧ H p = some (.tup xs) ∧ DataL H l xs
  | .lst l, v => ∃ p xs, v = .ref p ∧ H p = some (.lst xs) ∧ DataL H l xs
  | .dct, v => ∃ p kvs, v = .ref p ∧ H p = some (.dK kvs)
def DataL (H : Hp) : List Th → List V → Prop
  | [], xs => xs = []
  | t :: l, xs => ∃ x r, xs = x :: r ∧ Data H t x ∧ DataL H l r
end
mutual
theorem Data.same {H H' : Hp} (s : Same H H') : ∀ {t : Th} {v : V}, Data H t v → Data H' t v
  | .non, _, h => h
  | .bl _, _, h => h
  | .int _, _, h => h
  | .str _, _, h => h
  | .tup _, _, ⟨p, xs, e, hp, hl⟩ => ⟨p, xs, e, s _ _ hp, DataL.same s hl⟩
  | .lst _, _, ⟨p, xs, e, hp, hl⟩ => ⟨p, xs, e, s _ _ hp, DataL.same s hl⟩
  | .dct, _, ⟨p, kvs, e, hp⟩ => ⟨p, kvs, e, s _ _ hp⟩
theorem DataL.same {H H' : Hp} (s : Same H H') : ∀ {l : List Th} {xs : List V}, DataL H l xs → DataL H' l xs
  | [], _, h => h
  | _ :: _, _, ⟨x, r, e, h1, h2⟩ => ⟨x, r, e, Data.same s h1, DataL.same s h2⟩
end
theorem DataL.len {H : Hp} : ∀ {l : List Th} {xs : List V}, DataL H l xs → xs.length = l.length
  | [], _, h => by rw [show _ = [] from h]; rfl
  | _ :: _, _, ⟨x, r, e, _, h2⟩ => by rw [e, List.length_cons, DataL.len h2]; rfl
theorem DataL.at {H : Hp} : ∀ {l : List Th} {xs : List V} {i : Nat} {v : V}, DataL H l xs → xs[i]? = some v → ∃ t, l[i]? = some t ∧ Data H t v
  | [], _, i, v, h, e => by rw [show _ = [] from h] at e; simp at e
  | t :: _, _, 0, v, ⟨x, r, e1, h1, _⟩, e => by subst e1; cases e; exact ⟨t, rfl, h1⟩
  | _ :: _, _, i + 1, v, ⟨x, r, e1, _, h2⟩, e => by subst e1; exact DataL.at (i := i) h2 (by simpa using e)
theorem DataL.get {H : Hp} {l : List Th} {xs : List V} {i : Nat} {t : Th} (h : DataL H l xs) (e : l[i]? = some t) : ∃ v, xs[i]? = some v ∧ Data H t v := by
  have hi : i < xs.length := by
    rw [h.len]
    exact (List.getElem?_eq_some_iff.mp e).1
  obtain ⟨t', e', hd⟩ := h.at (List.getElem?_eq_getElem hi)
  rw [e] at e'
  cases e'
  exact ⟨_, List.getElem?_eq_getElem hi, hd⟩
theorem DataL.drop {H : Hp} : ∀ {l : List Th} {xs : List V} (n : Nat), DataL H l xs → DataL H (l.drop n) (xs.drop n)
  | _, _, 0, h => h
  | [], _, n + 1, h => by rw [show _ = [] from h]; exact rfl
  | _ :: _, _, n + 1, ⟨x, r, e, _, h2⟩ => by subst e; exact DataL.drop n h2
theorem DataL.take {H : Hp} : ∀ {l : List Th} {xs : List V} (n : Nat), DataL H l xs → DataL H (l.take n) (xs.take n)
  | _, _, 0, _ => rfl
  | [], _, n + 1, h => by rw [show _ = [] from h]; exact rfl
  | _ :: _, _, n + 1, ⟨x, r, e, h1, h2⟩ => by subst e; exact ⟨x, _, rfl, h1, DataL.take n h2⟩
theorem DataL.snoc {H : Hp} {t : Th} {v : V} (h : Data H t v) : ∀ {l : List Th} {xs : List V}, DataL H l xs → DataL H (l ++ [t]) (xs ++ [v])
  | [], _, e => by rw [show _ = [] from e]; exact ⟨v, [], rfl, h, rfl⟩
  | _ :: _, _, ⟨x, r, e, h1, h2⟩ => by subst e; exact ⟨x, _, rfl, h1, DataL.snoc h h2⟩
mutual
/-- without dicts -/
def Th.flat : Th → Bool
  | .dct => false
  | .tup l => Th.flatL l
  | .lst l => Th.flatL l
  | _ => true
def Th.flatL : List Th → Bool
  | [] => true
  | t :: l => t.flat && Th.flatL l
end
mutual
def Th.py : Th → PyData
  | .non => .none
  | .bl b => .bool b
  | .int i => .int i
  | .str s => .str (SX.S s)
  | .tup l => .tuple (Th.pyL l)
  | .lst l => .list (Th.pyL l)
  | .dct => .none
def Th.pyL : List Th → List PyData
  | [] => []
  | t :: l => t.py :: Th.pyL l
end
mutual
theorem Data.dp {K : PySem.W.Frag} {H : Hp} : ∀ {t : Th} {v : V}, t.flat = true → Data H t v → Dp K H v t.py
  | .non, _, _, h => by rw [show _ = V.non from h]; exact .non
  | .bl _, _, _, h => by rw [show _ = V.bl _ from h]; exact .bl _
  | .int _, _, _, h => by rw [show _ = V.int _ from h]; exact .int _
  | .str _, _, _, h => by rw [show _ = V.str _ from h]; exact .str _
  | .tup l, _, f, ⟨p, xs, e, hp, hl⟩ => by rw [e]; exact .tup (SqT.of hp) (DataL.dp f hl)
  | .lst l, _, f, ⟨p, xs, e, hp, hl⟩ => by rw [e]; exact .lst (SqL.of hp) (DataL.dp f hl)
theorem DataL.dp {K : PySem.W.Frag} {H : Hp} : ∀ {l : List Th} {xs : List V}, Th.flatL l = true → DataL H l xs → DpAll K H xs (Th.pyL l)
  | [], _, _, h => by rw [show _ = [] from h]; exact .nil
  | t :: l, _, f, ⟨x, r, e, h1, h2⟩ => by
    have f' : t.flat = true ∧ Th.flatL l = true := by
      have : (t.flat && Th.flatL l) = true := f
      exact Bool.and_eq_true_iff.mp this
    rw [e]
    exact .cons (Data.dp f'.1 h1) (DataL.dp f'.2 h2)
end
/-! ### what is a name, a recipe -/
def nmOk (s : List Nat) : Bool := decide (1 ≤ s.length) && decide (s.length ≤ 8) && s.all fun c => decide (97 ≤ c) && decide (c ≤ 122)
theorem nmOk_iff {s : List Nat} : nmOk s = true ↔ Nm s := by
  unfold nmOk Nm
  simp only [Bool.and_eq_true, decide_eq_true_eq, List.all_eq_true]
  exact ⟨fun ⟨⟨a, b⟩, c⟩ => ⟨a, b, c⟩, fun ⟨a, b, c⟩ => ⟨⟨a, b⟩, c⟩⟩
def Th.isNm : Th → Bool
  | .str s => nmOk s
  | _ => false
def Th.areNms : Th → Bool
  | .tup l => decide (1 ≤ l.length) && decide (l.length ≤ 9) && l.all Th.isNm
  | _ => false
def Th.isInt : Th → Bool
  | .int _ => true
  | _ => false
def w_number : List Nat := [110, 117, 109, 98, 101, 114]
def w_read : List Nat := [114, 101, 97, 100]
def w_pick : List Nat := [112, 105, 99, 107]
def w_choose : List Nat := [99, 104, 111, 111, 115, 101]
def w_plus : List Nat := [112, 108, 117, 115]
def w_minus : List Nat := [109, 105, 110, 117, 115]
def w_times : List Nat := [116, 105, 109, 101, 115]
def w_most : List Nat := [109, 111, 115, 116]
def twos : List (List Nat) := [w_plus, w_minus, w_times, w_most]
/-- the parts of a thing that has a recipe's form -/
def formParts (k : List Nat) (l : List Th) : Option (List Th) :=
  if k = w_number then (if l.length = 1 ∧ (l.headD .non).isInt = true then some [] else none)
  else if k = w_read then (if l.length = 1 ∧ (l.headD .non).isNm = true then some [] else none)
  else if k ∈ twos then (if l.length = 2 then some l else none)
  else if k = w_pick then (if l.length = 3 then some l else none)
  else if k = w_choose then (if l.length = 2 ∧ (l.getD 1 .non).areNms = true then some (l.take 1) else none)
  else none
def Th.parts : Th → Option (List Th)
  | .tup (.str k :: l) => formParts k l
  | _ => none
/-- all well formed, n deep at most -/
def Th.okay : Nat → Th → Bool
  | 0, _ => false
  | n + 1, t => match t.parts with
    | none => false
    | some ps => ps.all (Th.okay n)
def Th.count : Nat → Th → Nat
  | 0, _ => 1
  | n + 1, t => match t.parts with
    | none => 1
    | some ps => 1 + (ps.map (Th.count n)).sum
def Th.isRcp (t : Th) : Bool := t.okay 8 && decide (t.count 8 ≤ 100)
theorem count_pos : ∀ (n : Nat) (t : Th), 1 ≤ t.count n
  | 0, _ => Nat.le_refl _
  | n + 1, t => by
    unfold Th.count
    cases t.parts with
    | none => exact Nat.le_refl _
    | some ps => exact Nat.le_add_right _ _
theorem parts_tup {t : Th} {ps : List Th} (h : t.parts = some ps) : ∃ k l, t = .tup (.str k :: l) := by
  unfold Th.parts at h
  split at h
  · exact ⟨_, _, rfl⟩
  · cases h
/-- what the walk may meet: texts of ASCII signs, not too long; names without dicts -/
def tameS (s : List Nat) : Bool := decide (s.length ≤ 1000000) && s.all fun c => decide (c < 128)
def namesTame : List Th → Bool
  | [.str k, _, .tup m] => !decide (k = w_choose) || (Th.flatL m && SeqAt.shaped (.list (Th.pyL m)))
  | _ => true
mutual
def Th.tame : Th → Bool
  | .str s => tameS s
  | .tup l => Th.tameL l && decide (l.length ≤ 1000000) && namesTame l
  | _ => true
def Th.tameL : List Th → Bool
  | [] => true
  | t :: l => t.tame && Th.tameL l
end
theorem tameL_mem : ∀ {l : List Th}, Th.tameL l = true → ∀ t ∈ l, t.tame = true
  | [], _, t, h => by cases h
  | a :: l, f, t, h => by
    have f' : (a.tame && Th.tameL l) = true := f
    rw [Bool.and_eq_true] at f'
    rcases List.mem_cons.mp h with h | h
    · rw [h]; exact f'.1
    · exact tameL_mem f'.2 t h
theorem flatL_mem : ∀ {l : List Th}, Th.flatL l = true → ∀ t ∈ l, t.flat = true
  | [], _, t, h => by cases h
  | a :: l, f, t, h => by
    have f' : (a.flat && Th.flatL l) = true := f
    rw [Bool.and_eq_true] at f'
    rcases List.mem_cons.mp h with h | h
    · rw [h]; exact f'.1
    · exact flatL_mem f'.2 t h
theorem flatL_filter (p : Th → Bool) : ∀ {l : List Th}, Th.flatL l = true → Th.flatL (l.filter p) = true
  | [], _ => rfl
  | a :: l, f => by
    have f' : (a.flat && Th.flatL l) = true := f
    rw [Bool.and_eq_true] at f'
    rw [List.filter_cons]
    split
    · show (a.flat && Th.flatL (l.filter p)) = true
      rw [f'.1, flatL_filter p f'.2]; rfl
    · exact flatL_filter p f'.2
theorem shaped_parts {ds : List PyData} : SeqAt.shaped (.list ds) = true ↔ PyData.canLayAll0 ds = true ∧ PyData.depthAll ds + 1 ≤ 64 := by
  show (PyData.canLayAll0 ds && decide (PyData.depthAll ds + 1 ≤ 64)) = true ↔ _
  rw [Bool.and_eq_true, decide_eq_true_eq]
theorem py_filter (p : Th → Bool) : ∀ (l : List Th), PyData.canLayAll0 (Th.pyL l) = true → PyData.canLayAll0 (Th.pyL (l.filter p)) = true ∧ PyData.depthAll (Th.pyL (l.filter p)) ≤ PyData.depthAll (Th.pyL l)
  | [], _ => ⟨rfl, Nat.le_refl _⟩
  | a :: l, f => by
    have f' : (a.py.canLay0 && PyData.canLayAll0 (Th.pyL l)) = true := f
    rw [Bool.and_eq_true] at f'
    have ih := py_filter p l f'.2
    rw [List.filter_cons]
    split
    · refine ⟨?_, ?_⟩
      · show (a.py.canLay0 && PyData.canLayAll0 (Th.pyL (l.filter p))) = true
        rw [f'.1, ih.1]; rfl
      · show max a.py.depth (PyData.depthAll (Th.pyL (l.filter p))) ≤ max a.py.depth (PyData.depthAll (Th.pyL l))
        omega
    · refine ⟨ih.1, ?_⟩
      show _ ≤ max a.py.depth (PyData.depthAll (Th.pyL l))
      omega
theorem shaped_filter (p : Th → Bool) {l : List Th} (h : SeqAt.shaped (.list (Th.pyL l)) = true) : SeqAt.shaped (.list (Th.pyL (l.filter p))) = true := by
  rw [shaped_parts] at h ⊢
  have := py_filter p l h.1
  exact ⟨this.1, by omega⟩
def Th.tyName : Th → String
  | .non => "NoneType" | .bl _ => "bool" | .int _ => "int" | .str _ => "str" | .tup _ => "tuple" | .lst _ => "list" | .dct => "dict"
theorem Data.ty {K : PySem.W.Frag} {H : Hp} : ∀ {t : Th} {v : V}, Data H t v → TyX K H v (.type t.tyName)
  | .non, _, h => by rw [show _ = V.non from h]; exact .base .non
  | .bl _, _, h => by rw [show _ = V.bl _ from h]; exact .base (.bl _)
  | .int _, _, h => by rw [show _ = V.int _ from h]; exact .base (.int _)
  | .str _, _, h => by rw [show _ = V.str _ from h]; exact .base (.str _)
  | .tup l, _, ⟨p, xs, e, hp, hl⟩ => by rw [e]; exact .base (.tup hp)
  | .lst l, _, ⟨p, xs, e, hp, hl⟩ => by rw [e]; exact .base (.lst hp)
  | .dct, _, ⟨p, kvs, e, hp⟩ => by rw [e]; exact .base (.dK hp)
def Th.isTup : Th → Bool
  | .tup _ => true
  | _ => false
def Th.isStr : Th → Bool
  | .str _ => true
  | _ => false
def Th.isBl : Th → Bool
  | .bl _ => true
  | _ => false
def Th.isIntB : Th → Bool
  | .bl _ => true
  | .int _ => true
  | _ => false
theorem kit_tup {K : PySem.W.Frag} : ∀ t : Th, PySem.W.kitOne K (.type t.tyName) (.type "tuple") = some t.isTup
  | .non => kit_ty (show kitB "NoneType" "tuple" = some false by decide +kernel)
  | .bl _ => kit_ty (show kitB "bool" "tuple" = some false by decide +kernel)
  | .int _ => kit_ty (show kitB "int" "tuple" = some false by decide +kernel)
  | .str _ => kit_ty (show kitB "str" "tuple" = some false by decide +kernel)
  | .tup _ => kit_ty (show kitB "tuple" "tuple" = some true by decide +kernel)
  | .lst _ => kit_ty (show kitB "list" "tuple" = some false by decide +kernel)
  | .dct => kit_ty (show kitB "dict" "tuple" = some false by decide +kernel)
theorem kit_str {K : PySem.W.Frag} : ∀ t : Th, PySem.W.kitOne K (.type t.tyName) (.type "str") = some t.isStr
  | .non => kit_ty (show kitB "NoneType" "str" = some false by decide +kernel)
  | .bl _ => kit_ty (show kitB "bool" "str" = some false by decide +kernel)
  | .int _ => kit_ty (show kitB "int" "str" = some false by decide +kernel)
  | .str _ => kit_ty (show kitB "str" "str" = some true by decide +kernel)
  | .tup _ => kit_ty (show kitB "tuple" "str" = some false by decide +kernel)
  | .lst _ => kit_ty (show kitB "list" "str" = some false by decide +kernel)
  | .dct => kit_ty (show kitB "dict" "str" = some false by decide +kernel)
theorem kit_int {K : PySem.W.Frag} : ∀ t : Th, PySem.W.kitOne K (.type t.tyName) (.type "int") = some t.isIntB
  | .non => kit_ty (show kitB "NoneType" "int" = some false by decide +kernel)
  | .bl _ => kit_ty (show kitB "bool" "int" = some true by decide +kernel)
  | .int _ => kit_ty (show kitB "int" "int" = some true by decide +kernel)
  | .str _ => kit_ty (show kitB "str" "int" = some false by decide +kernel)
  | .tup _ => kit_ty (show kitB "tuple" "int" = some false by decide +kernel)
  | .lst _ => kit_ty (show kitB "list" "int" = some false by decide +kernel)
  | .dct => kit_ty (show kitB "dict" "int" = some false by decide +kernel)
theorem kit_bl {K : PySem.W.Frag} : ∀ t : Th, PySem.W.kitOne K (.type t.tyName) (.type "bool") = some t.isBl
  | .non => kit_ty (show kitB "NoneType" "bool" = some false by decide +kernel)
  | .bl _ => kit_ty (show kitB "bool" "bool" = some true by decide +kernel)
  | .int _ => kit_ty (show kitB "int" "bool" = some false by decide +kernel)
  | .str _ => kit_ty (show kitB "str" "bool" = some false by decide +kernel)
  | .tup _ => kit_ty (show kitB "tuple" "bool" = some false by decide +kernel)
  | .lst _ => kit_ty (show kitB "list" "bool" = some false by decide +kernel)
  | .dct => kit_ty (show kitB "dict" "bool" = some false by decide +kernel)
theorem isInt_is (t : Th) : (t.isIntB && !t.isBl) = t.isInt := by cases t <;> rfl
/-- a comprehension over a text -/
theorem lcS {z : Str} {g : TG} {tt : TT} {te : TE} {vs : List Nat} {σ : L2.St} {H1 : Hp} {D : Addr} {Qd : Hp → Prop} (Pv : Nat → Hp → Prop)
    (h0 : Pv 0 (upd H1 D (.lst [])))
    (hs : ∀ i c H, z.cps[i]? = some c → Pv i H → g (.str ⟨#[c]⟩) (wipe σ vs) H
      fun σ2 H2 => wipe σ2 vs = wipe σ vs ∧ tt σ2 H2
        fun b H3 => if b = true then te σ2 H3
          fun y H4 => ∃ acc, H4 D = some (.lst acc) ∧ acc.length < sizeLine ∧ Pv (i + 1) (upd H4 D (.lst (acc ++ [y])))
        else Pv (i + 1) H3)
    (hd : ∀ H, Pv z.cps.size H → Qd H) :
    ∃ W : Nat → Nat → Hp → Prop, (∃ m, W 0 m (upd H1 D (.lst []))) ∧
      ∀ i m H, W i m H → ((Its z).stop i H ∧ Qd H) ∨ ((Its z).go i H ∧
        ∃ Nx : Hp → Prop, (∀ H', Nx H' → ∃ m', m' < m ∧ W (i + 1) m' H') ∧
          ∀ x H', (Its z).yld i H x H' → g x (wipe σ vs) H'
            fun σ2 H2 => wipe σ2 vs = wipe σ vs ∧ tt σ2 H2
              fun b H3 => if b = true then te σ2 H3
                fun y H4 => ∃ acc, H4 D = some (.lst acc) ∧ acc.length < sizeLine ∧ Nx (upd H4 D (.lst (acc ++ [y])))
              else Nx H3) := by
  refine ⟨fun i m H => m = z.cps.size - i ∧ i ≤ z.cps.size ∧ Pv i H, ⟨z.cps.size, rfl, Nat.zero_le _, h0⟩, fun i m H w => ?_⟩
  obtain ⟨em, hi, p⟩ := w
  by_cases hlt : i < z.cps.size
  · refine Or.inr ⟨hlt, Pv (i + 1), fun H' p' => ⟨z.cps.size - (i + 1), by omega, rfl, hlt, p'⟩, fun x H' y => ?_⟩
    obtain ⟨e1, c, e2, e3⟩ := y
    rw [e1, e3]
    exact hs i c H e2 p
  · have e : i = z.cps.size := by omega
    rw [e] at p
    exact Or.inl ⟨by show z.cps.size ≤ i; omega, hd H p⟩
/-- a list of data against a new empty one -/
theorem eqv_nil (l : List Th) : PyData.eqv (.list (Th.pyL l)) (.list []) = l.isEmpty := by cases l <;> rfl
theorem kw {k : List Nat} {w : List Nat} {lit : Str} (h : lit = SX.S w) : V.str (SX.S k) = V.str lit ↔ k = w := by
  rw [h]
  exact ⟨fun e => SX.S_inj (by cases e; rfl), fun e => by rw [e]⟩
theorem q_number : ("number" : Str) = SX.S w_number := by decide +kernel
theorem q_read : ("read" : Str) = SX.S w_read := by decide +kernel
theorem q_pick : ("pick" : Str) = SX.S w_pick := by decide +kernel
theorem q_choose : ("choose" : Str) = SX.S w_choose := by decide +kernel
theorem q_plus : ("plus" : Str) = SX.S w_plus := by decide +kernel
theorem q_minus : ("minus" : Str) = SX.S w_minus := by decide +kernel
theorem q_times : ("times" : Str) = SX.S w_times := by decide +kernel
theorem q_most : ("most" : Str) = SX.S w_most := by decide +kernel
theorem in_twos (k : List Nat) : inV (.str (SX.S k)) [.str "plus", .str "minus", .str "times", .str "most"] = decide (k ∈ twos) := by
  rw [q_plus, q_minus, q_times, q_most]
  have e : ∀ w : List Nat, (SX.S w == SX.S k) = decide (k = w) := fun w => by
    rw [SX.S_beq_eq]
    exact decide_eq_decide.mpr ⟨Eq.symm, Eq.symm⟩
  show ((SX.S w_plus == SX.S k) || ((SX.S w_minus == SX.S k) || ((SX.S w_times == SX.S k) || ((SX.S w_most == SX.S k) || false)))) = _
  rw [e, e, e, e]
  unfold twos
  simp only [List.mem_cons, List.not_mem_nil, or_false]
  simp [Bool.decide_or]
/-! ### names and recipes told -/
structure RTxt (K : PySem.W.Frag) (mg : Str → Option Value) (tw : Addr) : Prop where
  LETTERS : ∃ t, mg "LETTERS" = some (.str "abcdefghijklmnopqrstuvwxyz" t)
  LONGEST : ∃ t, mg "LONGEST" = some (.int 8 t)
  DEEPEST : ∃ t, mg "DEEPEST" = some (.int 8 t)
  MOST : ∃ t, mg "MOST" = some (.int 100 t)
  MOST_NAMES : ∃ t, mg "MOST_NAMES" = some (.int 9 t)
  TWOS : mg "TWOS" = some (.ref tw)
  twos : ∀ H, SqT K H tw [.str "plus", .str "minus", .str "times", .str "most"]
def spIsWhole : Sp := fun vs H Q _ => ∃ (v : V) (t : Th), vs = [v] ∧ Data H t v ∧ Q (.bl t.isInt) H
def spIsName : Sp := fun vs H Q _ => ∃ (v : V) (t : Th), vs = [v] ∧ Data H t v ∧ t.tame = true ∧ ∀ H', Same H H' → Q (.bl t.isNm) H'
def spAreNames : Sp := fun vs H Q _ => ∃ (v : V) (t : Th), vs = [v] ∧ Data H t v ∧ t.tame = true ∧ (∀ m, t = .tup m → Th.flatL m = true ∧ SeqAt.shaped (.list (Th.pyL m)) = true) ∧ ∀ H', Same H H' → Q (.bl t.areNms) H'
theorem letter_in (c : Nat) : decide (c ∈ ("abcdefghijklmnopqrstuvwxyz" : Str).cps.toList) = (decide (97 ≤ c) && decide (c ≤ 122)) := by
  rw [letters_is]
  show decide (c ∈ letters) = _
  rw [← Bool.decide_and]
  refine decide_eq_decide.mpr ⟨fun h => letters_ok c h, fun ⟨h1, h2⟩ => ?_⟩
  have : ∀ d : Nat, d < 26 → (97 + d) ∈ letters := by decide
  have := this (c - 97) (by omega)
  rwa [show 97 + (c - 97) = c by omega] at this
section
variable {P : Program} {w : World} {K : PySem.W.Frag} {mg : Str → Option Value} {base : Heap}
abbrev s_is_whole : Stmt := topS 7
abbrev N_is_whole : List Str := ["thing"]
theorem sc_is_whole : FnScope N_is_whole ["thing"] (defScope s_is_whole) := ⟨rfl, rfl, rfl, by decide +kernel, rfl, by decide +kernel, by decide +kernel⟩

theorem ok_is_whole (T : Txt K mg) (D : IsDef K mg "is_whole" s_is_whole ["thing"]) : Cal P w K mg base CX0 1 "is_whole" ["thing"] spIsWhole := by
  refine D.cal sc_is_whole (fun vs H Q E h => ?_) (fun f cdv A outer s H vs Q E hr h => ?_)
  · obtain ⟨v, t, rfl, _⟩ := h
    rfl
  obtain ⟨v, t, rfl, hv, q⟩ := h
  refine ⟨_, (pss_one (ps_ret (pe_and (pe_callB call_isi (by rfl) T.b_isinstance (by decide +kernel) (pa_cons (pv 0) (pa_cons (pe_bltn (v := .ty "int") (by rfl) T.b_int (by decide +kernel) rfl) pa_nil))) (pe_one (pe_not (pe_callB call_isi (by rfl) T.b_isinstance (by decide +kernel) (pa_cons (pv 0) (pa_cons (pe_bltn (v := .ty "bool") (by rfl) T.b_bool (by decide +kernel) rfl) pa_nil)))))))), ?_⟩
  refine ⟨_, rfl, _, _, _, _, _, rfl, .ty _, hv.ty, kit_int t, _, rfl, ?_⟩
  have e := isInt_is t
  cases h1 : t.isIntB with
  | false =>
    rw [h1, Bool.false_and] at e
    refine iteF ?_
    rw [e]
    exact q
  | true =>
    rw [h1, Bool.true_and] at e
    refine iteT ?_
    refine ⟨_, rfl, _, _, _, _, _, rfl, .ty _, hv.ty, kit_bl t, _, rfl, ?_⟩
    rw [e]
    exact q
abbrev s_is_name : Stmt := topS 8
abbrev N_is_name : List Str := ["thing", "sign"]
theorem sc_is_name : FnScope N_is_name ["thing"] (defScope s_is_name) := ⟨rfl, rfl, rfl, by decide +kernel, rfl, by decide +kernel, by decide +kernel⟩

theorem ok_is_name {tw : Addr} (T : Txt K mg) (R : RTxt K mg tw) (D : IsDef K mg "is_name" s_is_name ["thing"]) : Cal P w K mg base CX0 1 "is_name" ["thing"] spIsName := by
  refine D.cal sc_is_name (fun vs H Q E h => ?_) (fun f cdv A outer s H vs Q E hr h => ?_)
  · obtain ⟨v, t, rfl, _⟩ := h
    rfl
  obtain ⟨v, t, rfl, hv, ht, q⟩ := h
  obtain ⟨_, g_LETTERS⟩ := R.LETTERS
  obtain ⟨_, g_LONGEST⟩ := R.LONGEST
  refine ⟨_, (pss_cons (ps_if (PW.pt (pw_or (pt_not (pt_val (pe_callB call_isi (by rfl) T.b_isinstance (by decide +kernel) (pa_cons (pv 0) (pa_cons (pe_bltn (v := .ty "str") (by rfl) T.b_str (by decide +kernel) rfl) pa_nil))))) (pw_or (pt_cmpR op_lt (pe_callB call_len_str (by rfl) T.b_len PySem.boot_len (pa_cons (pv 0) pa_nil)) pe_int (nomark _)) (pw_or1 (pt_cmpR op_gt (pe_callB call_len_str (by rfl) T.b_len PySem.boot_len (pa_cons (pv 0) pa_nil)) (pe_glob (v := .int _) rfl g_LONGEST ⟨_, rfl⟩) (nomark _))))))
        (pss_one (ps_ret pe_bl))
        pss_nil)
      (pss_one (ps_ret (pe_cmpR (op_eqD hr.units) (pe_lc (own := [("sign", 1)]) (g := gName 1)  (by rfl) sc_is_name.nd  (pi_str (pv 0)) (blkOk_by (own := [("sign", 1)]) (N := N_is_name) (sc := defScope s_is_name) (by decide +kernel)) (fun _ _ _ _ _ => (pg_name (i := 1) sc_is_name.nd rfl (Or.inl rfl))) (fun _ _ _ _ _ => (pts_one (pt_cmpR op_notIn_sign (pv 1) (pe_glob (v := .str _) rfl g_LETTERS ⟨_, rfl⟩) rfl))) (fun _ _ _ _ _ => (pv 1))) (pe_lst pa_nil) (nomark _))))), ?_⟩
  refine ⟨_, rfl, _, _, _, _, _, rfl, .ty _, hv.ty, kit_str t, _, rfl, ?_⟩
  cases t with
  | str z =>
    have hz : z.length ≤ 1000000 := by
      have : (decide (z.length ≤ 1000000) && z.all fun c => decide (c < 128)) = true := ht
      rw [Bool.and_eq_true, decide_eq_true_eq] at this
      exact this.1
    have hc : ∀ c ∈ z, c < 128 := by
      have : (decide (z.length ≤ 1000000) && z.all fun c => decide (c < 128)) = true := ht
      rw [Bool.and_eq_true, List.all_eq_true] at this
      exact fun c h => of_decide_eq_true (this.2 c h)
    have ev : v = .str (SX.S z) := hv
    subst ev
    refine iteF ?_
    have hl : (SX.S z).length ≤ sizeLine := by rw [SX.S_len]; exact le_line (by omega)
    refine ⟨_, rfl, _, rfl, hl, _, _, rfl, rfl, _, rfl, ?_⟩
    by_cases h1 : (((SX.S z).length : Nat) : Int) < 1
    · refine iteY h1 (iteT ?_)
      have e : nmOk z = false := by
        unfold nmOk
        rw [SX.S_len] at h1
        rw [decide_eq_false (show ¬ 1 ≤ z.length by omega)]
        rfl
      have : Q (.bl (nmOk z)) H := q H (Same.refl H)
      rw [e] at this
      exact this
    refine iteN h1 ?_
    refine ⟨_, rfl, _, rfl, hl, _, _, rfl, rfl, _, rfl, ?_⟩
    by_cases h2 : (((SX.S z).length : Nat) : Int) > 8
    · refine iteY h2 ?_
      have e : nmOk z = false := by
        unfold nmOk
        rw [SX.S_len] at h2
        rw [decide_eq_false (show ¬ z.length ≤ 8 by omega), Bool.and_false]
        rfl
      have : Q (.bl (nmOk z)) H := q H (Same.refl H)
      rw [e] at this
      exact this
    refine iteN h2 ?_
    rw [SX.S_len] at h1 h2
    refine ⟨_, rfl, _, rfl, fun L nL => lcS (z := SX.S z) (fun i H' => Same H H' ∧ H' L = some (.lst (txs (ones ((z.take i).filter fun c => !(decide (97 ≤ c) && decide (c ≤ 122)))))))
      ⟨same_new nL _, upd_same⟩ ?_ ?_⟩
    · rintro i c H1 hc1 ⟨hs, hL⟩
      have hci : z[i]? = some c := by
        have : z.toArray[i]? = some c := hc1
        rwa [List.getElem?_toArray] at this
      have e1 : (z.take (i + 1)) = z.take i ++ [c] := by rw [List.take_add_one, hci]; rfl
      refine ⟨rfl, _, rfl, c, _, rfl, rfl, _, rfl, ?_⟩
      rw [letter_in]
      cases hcc : (decide (97 ≤ c) && decide (c ≤ 122)) with
      | true =>
        refine iteF ⟨hs, ?_⟩
        rw [e1, List.filter_append, List.filter_cons_of_neg (by rw [hcc]; decide), List.filter_nil, List.append_nil]
        exact hL
      | false =>
        refine iteT ⟨_, rfl, _, hL, ?_, same_upd hs nL _, ?_⟩
        · rw [txs_len, ones_len]
          exact lt_line (Nat.lt_of_le_of_lt (List.length_filter_le _ _) (by rw [List.length_take]; omega))
        · rw [upd_same, e1, List.filter_append, List.filter_cons_of_pos (by rw [hcc]; rfl), List.filter_nil]
          unfold ones
          rw [List.map_append, txs_app]
          rfl
    · rintro H1 ⟨hs, hL⟩
      have ez : z.take (SX.S z).cps.size = z := List.take_of_length_le (by show z.length ≤ z.toArray.size; simp)
      rw [ez] at hL
      refine ⟨Nat.zero_le _, fun e ne => ?_⟩
      have Le : L ≠ e := ne_of_none hL ne
      have dd : ∀ (H : Hp) (l : List Nat), DpAll K H (txs (ones l)) (l.map fun c => PyData.str (SX.S [c])) := fun H l => by
        induction l with
        | nil => exact .nil
        | cons c l ih => exact .cons (.str _) ih
      have sh : ∀ l : List Nat, (∀ c ∈ l, c < 128) → PyData.canLayAll0 (l.map fun c => PyData.str (SX.S [c])) = true ∧ PyData.depthAll (l.map fun c => PyData.str (SX.S [c])) = 0 := fun l hl => by
        induction l with
        | nil => exact ⟨rfl, rfl⟩
        | cons c l ih =>
          have ih := ih fun d h => hl d (List.mem_cons_of_mem _ h)
          refine ⟨?_, ?_⟩
          · show ((SX.S [c]).cps.all (· < 0x110000) && PyData.canLayAll0 _) = true
            rw [ih.1]
            have := hl c (List.mem_cons_self ..)
            simp
            omega
          · show max 0 _ = 0
            rw [ih.2]
            rfl
      have s1 := sh (z.filter fun c => !(decide (97 ≤ c) && decide (c ≤ 122))) fun c h => hc c (List.mem_filter.mp h).1
      refine ⟨_, _, .lst (SqL.of (by rw [upd_ne Le]; exact hL)) (dd _ _), .lst (SqL.of upd_same) .nil, shaped_parts.mpr ⟨s1.1, by rw [s1.2]; decide⟩, rfl, ?_⟩
      have ef : ∀ l : List Nat, PyData.eqv (.list (l.map fun c => PyData.str (SX.S [c]))) (.list []) = l.isEmpty := fun l => by cases l <;> rfl
      rw [ef]
      have en : nmOk z = (z.filter fun c => !(decide (97 ≤ c) && decide (c ≤ 122))).isEmpty := by
        unfold nmOk
        rw [decide_eq_true (show 1 ≤ z.length by omega), decide_eq_true (show z.length ≤ 8 by omega)]
        show (z.all fun c => decide (97 ≤ c) && decide (c ≤ 122)) = _
        generalize z = l
        induction l with
        | nil => rfl
        | cons c l ih =>
          rw [List.all_cons, List.filter_cons, ih]
          cases (decide (97 ≤ c) && decide (c ≤ 122)) <;> rfl
      rw [← en]
      exact q _ (hs.trans (same_new ne _))
  | _ => exact iteT (q H (Same.refl H))
end
def spWithin (K : PySem.W.Frag) : Sp := fun vs H Q _ => ∃ (v : V) (t : Th), vs = [v] ∧ Data H t v ∧ t.tame = true ∧ (t.parts = none → ∀ H', Same H H' → Q .non H') ∧ (∀ ps, t.parts = some ps → ∀ (H' : Hp) (a : Addr) (xs : List V), Same H H' → H' a = some (.tup xs) → (∀ B, Same B H → Data B t v → DataL B ps xs) → Q (.ref a) H')
theorem data_in {B H : Hp} (s : Same B H) {l : List Th} {p : Addr} {xs : List V} (d : Data B (.tup l) (.ref p)) (hp : H p = some (.tup xs)) : DataL B l xs := by
  obtain ⟨p', xs', e, hp', hl⟩ := d
  cases e
  have z := s _ _ hp'
  rw [hp] at z
  cases z
  exact hl
theorem tup_tame {k : List Nat} {l : List Th} (h : (Th.tup (.str k :: l)).tame = true) : tameS k = true ∧ Th.tameL l = true ∧ l.length ≤ 1000000 ∧ namesTame (.str k :: l) = true := by
  have e : ((tameS k && Th.tameL l) && decide (l.length + 1 ≤ 1000000) && namesTame (.str k :: l)) = true := h
  rw [Bool.and_eq_true, Bool.and_eq_true, Bool.and_eq_true, decide_eq_true_eq] at e
  exact ⟨e.1.1.1, e.1.1.2, by omega, e.2⟩
section
variable {P : Program} {w : World} {K : PySem.W.Frag} {mg : Str → Option Value} {base : Heap}
abbrev s_are_names : Stmt := topS 9
abbrev N_are_names : List Str := ["thing", "name"]
theorem sc_are_names : FnScope N_are_names ["thing"] (defScope s_are_names) := ⟨rfl, rfl, rfl, by decide +kernel, rfl, by decide +kernel, by decide +kernel⟩

theorem ok_are_names {tw : Addr} (T : Txt K mg) (R : RTxt K mg tw) (D : IsDef K mg "are_names" s_are_names ["thing"]) (C_is_name : Cal P w K mg base CX0 1 "is_name" ["thing"] spIsName) : Cal P w K mg base CX0 2 "are_names" ["thing"] spAreNames := by
  refine D.cal sc_are_names (fun vs H Q E h => ?_) (fun f cdv A outer s H vs Q E hr h => ?_)
  · obtain ⟨v, t, rfl, _⟩ := h
    rfl
  obtain ⟨v, t, rfl, hv, ht, hf, q⟩ := h
  obtain ⟨_, g_MOST_NAMES⟩ := R.MOST_NAMES
  refine ⟨_, (pss_cons (ps_if (PW.pt (pw_or (pt_not (pt_val (pe_callB call_isi (by rfl) T.b_isinstance (by decide +kernel) (pa_cons (pv 0) (pa_cons (pe_bltn (v := .ty "tuple") (by rfl) T.b_tuple (by decide +kernel) rfl) pa_nil))))) (pw_or (pt_cmpR op_lt (pe_callB call_len_seq (by rfl) T.b_len PySem.boot_len (pa_cons (pv 0) pa_nil)) pe_int (nomark _)) (pw_or1 (pt_cmpR op_gt (pe_callB call_len_seq (by rfl) T.b_len PySem.boot_len (pa_cons (pv 0) pa_nil)) (pe_glob (v := .int _) rfl g_MOST_NAMES ⟨_, rfl⟩) (nomark _))))))
        (pss_one (ps_ret pe_bl))
        pss_nil)
      (pss_one (ps_ret (pe_cmpR (op_eqD hr.units) (pe_lc (own := [("name", 1)]) (g := gName 1)  (by rfl) sc_are_names.nd  (pi_tup (pv 0)) (blkOk_by (own := [("name", 1)]) (N := N_are_names) (sc := defScope s_are_names) (by decide +kernel)) (fun _ _ _ _ _ => (pg_name (i := 1) sc_are_names.nd rfl (Or.inl rfl))) (fun _ _ _ _ _ => (pts_one (pt_not (pt_val (pe_cal C_is_name (hr.mono (by first | decide | omega)) pass0 (pa_cons (pv 1) pa_nil)))))) (fun _ _ _ _ _ => (pv 1))) (pe_lst pa_nil) (nomark _))))), ?_⟩
  refine ⟨_, rfl, _, _, _, _, _, rfl, .ty _, hv.ty, kit_tup t, _, rfl, ?_⟩
  cases t with
  | tup l =>
    obtain ⟨p, xs, rfl, hp, hl⟩ := hv
    have hxl := hl.len
    have hq := q H (Same.refl H)
    have ea : (Th.tup l).areNms = (decide (1 ≤ l.length) && decide (l.length ≤ 9) && l.all Th.isNm) := rfl
    rw [ea] at hq q
    refine iteF ?_
    refine ⟨_, rfl, p, _, rfl, .inr (SqT.of hp), _, _, rfl, rfl, _, rfl, ?_⟩
    by_cases h1 : ((xs.length : Nat) : Int) < 1
    · refine iteY h1 (iteT ?_)
      rw [decide_eq_false (show ¬ 1 ≤ l.length by omega)] at hq
      exact hq
    refine iteN h1 ?_
    refine ⟨_, rfl, p, _, rfl, .inr (SqT.of hp), _, _, rfl, rfl, _, rfl, ?_⟩
    by_cases h2 : ((xs.length : Nat) : Int) > 9
    · refine iteY h2 ?_
      rw [decide_eq_false (show ¬ l.length ≤ 9 by omega), Bool.and_false] at hq
      exact hq
    refine iteN h2 ?_
    rw [decide_eq_true (show 1 ≤ l.length by omega), decide_eq_true (show l.length ≤ 9 by omega)] at q
    have htl : Th.tameL l = true := by
      have e : (Th.tameL l && decide (l.length ≤ 1000000) && namesTame l) = true := ht
      rw [Bool.and_eq_true, Bool.and_eq_true] at e
      exact e.1.1
    refine ⟨_, rfl, p, rfl, ⟨_, SqT.of hp⟩, fun L nL => lc_tup (K := K) (a := p) (xs := xs) (fun i H' => Same H H' ∧ ∃ ys, H' L = some (.lst ys) ∧ DataL H ((l.take i).filter fun t => !t.isNm) ys)
      ⟨same_new nL _, [], upd_same, rfl⟩ (fun i H' _ h => SqT.of (h.1 _ _ hp)) ?_ ?_⟩
    · rintro i x H1 hx ⟨hs, ys, hL, hy⟩
      obtain ⟨t, hti, hd⟩ := hl.at hx
      have hm : t ∈ l := List.mem_of_getElem? hti
      have e1 : (l.take (i + 1)) = l.take i ++ [t] := by rw [List.take_add_one, hti]; rfl
      refine ⟨rfl, _, rfl, x, t, rfl, hd.same hs, tameL_mem htl t hm, fun H2 s2 => ⟨_, rfl, ?_⟩⟩
      have hs2 := hs.trans s2
      cases htt : t.isNm with
      | true =>
        refine iteF ⟨hs2, ys, s2 _ _ hL, ?_⟩
        rw [e1, List.filter_append, List.filter_cons_of_neg (by rw [htt]; decide), List.filter_nil, List.append_nil]
        exact hy
      | false =>
        have hyl : ys.length ≤ 9 := by
          rw [hy.len]
          have := List.length_filter_le (fun t : Th => !t.isNm) (l.take i)
          have := List.length_take_le i l
          rw [List.length_take] at *
          omega
        refine iteT ⟨_, rfl, ys, s2 _ _ hL, lt_line (by omega), same_upd hs2 nL _, _, upd_same, ?_⟩
        rw [e1, List.filter_append, List.filter_cons_of_pos (by rw [htt]; rfl), List.filter_nil]
        exact hy.snoc hd
    · rintro H1 ⟨hs, ys, hL, hy⟩
      rw [hxl, List.take_length] at hy
      refine ⟨Nat.zero_le _, fun e ne => ?_⟩
      have Le : L ≠ e := ne_of_none hL ne
      have hff := hf l rfl
      refine ⟨_, _, .lst (SqL.of (by rw [upd_ne Le]; exact hL)) (DataL.dp (flatL_filter (fun t => !t.isNm) hff.1) (hy.same (hs.trans (same_new ne _)))), .lst (SqL.of upd_same) .nil, shaped_filter (fun t => !t.isNm) hff.2, rfl, ?_⟩
      rw [eqv_nil]
      have en : (l.filter fun t => !t.isNm).isEmpty = l.all Th.isNm := by
        generalize l = m
        induction m with
        | nil => rfl
        | cons c m ih =>
          rw [List.all_cons, List.filter_cons, ← ih]
          cases c.isNm <;> rfl
      rw [en]
      exact q _ (hs.trans (same_new ne _))
  | _ => exact iteT (q H (Same.refl H))
abbrev s_within : Stmt := topS 10
abbrev N_within : List Str := ["thing", "kind"]
theorem sc_within : FnScope N_within ["thing"] (defScope s_within) := ⟨rfl, rfl, rfl, by decide +kernel, rfl, by decide +kernel, by decide +kernel⟩

theorem cut_tail (a b : V) (r : List V) : cutV (a :: b :: r) (some 1) none = b :: r := by
  show ((a :: b :: r).drop (HT.sIx (a :: b :: r).length 0 (some ((1 : Nat) : Int)))).take (HT.sIx (a :: b :: r).length (a :: b :: r).length none - HT.sIx (a :: b :: r).length 0 (some ((1 : Nat) : Int))) = _
  rw [HT.sIx_nat, HT.sIx_none, Nat.min_eq_left (by simp), List.drop_one, List.tail_cons, List.take_of_length_le (by simp)]
theorem slice_ne (a b : V) (r : List V) : ¬ (HT.sIx (a :: b :: r).length 0 (some 1) = 0 ∧ HT.sIx (a :: b :: r).length (a :: b :: r).length none = (a :: b :: r).length) := fun z => by
  have z1 : HT.sIx (a :: b :: r).length 0 (some ((1 : Nat) : Int)) = 0 := z.1
  rw [HT.sIx_nat, Nat.min_eq_left (by simp)] at z1
  cases z1
theorem cut_one (a b c : V) : cutV [a, b, c] (some 1) (some 2) = [b] := rfl
theorem iteInY {k : List Nat} {A B : Prop} (h : k ∈ twos) (a : A) : if inV (.str (SX.S k)) [.str "plus", .str "minus", .str "times", .str "most"] = true then A else B := by
  rw [in_twos, if_pos (decide_eq_true h)]; exact a
theorem iteInN {k : List Nat} {A B : Prop} (h : ¬ k ∈ twos) (b : B) : if inV (.str (SX.S k)) [.str "plus", .str "minus", .str "times", .str "most"] = true then A else B := by
  rw [in_twos, if_neg (fun z => h (of_decide_eq_true z))]; exact b
theorem ok_within {tw : Addr} (T : Txt K mg) (R : RTxt K mg tw) (D : IsDef K mg "within" s_within ["thing"]) (C_is_whole : Cal P w K mg base CX0 1 "is_whole" ["thing"] spIsWhole) (C_is_name : Cal P w K mg base CX0 1 "is_name" ["thing"] spIsName)
    (C_are_names : Cal P w K mg base CX0 2 "are_names" ["thing"] spAreNames) : Cal P w K mg base CX0 3 "within" ["thing"] (spWithin K) := by
  refine D.cal sc_within (fun vs H Q E h => ?_) (fun f cdv A outer s H vs Q E hr h => ?_)
  · obtain ⟨v, t, rfl, _⟩ := h
    rfl
  obtain ⟨v, t, rfl, hv, ht, qn, qs⟩ := h
  have g_TWOS := R.TWOS
  refine ⟨_, (pss_cons (ps_if (PW.pt (pw_or (pt_not (pt_val (pe_callB call_isi (by rfl) T.b_isinstance (by decide +kernel) (pa_cons (pv 0) (pa_cons (pe_bltn (v := .ty "tuple") (by rfl) T.b_tuple (by decide +kernel) rfl) pa_nil))))) (pw_or (pt_cmpR op_lt (pe_callB call_len_seq (by rfl) T.b_len PySem.boot_len (pa_cons (pv 0) pa_nil)) pe_int (nomark _)) (pw_or1 (pt_not (pt_val (pe_callB call_isi (by rfl) T.b_isinstance (by decide +kernel) (pa_cons (pe_ix (r := rIxT K) ix_tup (pv 0) pe_int (fun _ _ => rfl)) (pa_cons (pe_bltn (v := .ty "str") (by rfl) T.b_str (by decide +kernel) rfl) pa_nil)))))))))
        (pss_one (ps_ret pe_non))
        pss_nil)
      (pss_cons (ps_set (i := 1) sc_within.nd rfl (Or.inl rfl) (pe_ix (r := rIxT K) ix_tup (pv 0) pe_int (fun _ _ => rfl)))
      (pss_cons (ps_if (PW.pt (pw_and (pt_cmpR op_eq (pv 1) pe_str (nomark _)) (pw_and (pt_cmpR op_eq (pe_callB call_len_seq (by rfl) T.b_len PySem.boot_len (pa_cons (pv 0) pa_nil)) pe_int (nomark _)) (pw_and1 (pt_val (pe_cal C_is_whole (hr.mono (by first | decide | omega)) pass0 (pa_cons (pe_ix (r := rIxT K) ix_tup (pv 0) pe_int (fun _ _ => rfl)) pa_nil)))))))
        (pss_one (ps_ret (pe_tup pa_nil)))
        pss_nil)
      (pss_cons (ps_if (PW.pt (pw_and (pt_cmpR op_eq (pv 1) pe_str (nomark _)) (pw_and (pt_cmpR op_eq (pe_callB call_len_seq (by rfl) T.b_len PySem.boot_len (pa_cons (pv 0) pa_nil)) pe_int (nomark _)) (pw_and1 (pt_val (pe_cal C_is_name (hr.mono (by first | decide | omega)) pass0 (pa_cons (pe_ix (r := rIxT K) ix_tup (pv 0) pe_int (fun _ _ => rfl)) pa_nil)))))))
        (pss_one (ps_ret (pe_tup pa_nil)))
        pss_nil)
      (pss_cons (ps_if (PW.pt (pw_or (PW.pt (pw_and (pt_cmpR op_in_seq (pv 1) (pe_glob (v := .ref _) rfl g_TWOS rfl) (by with_unfolding_all rfl)) (pw_and1 (pt_cmpR op_eq (pe_callB call_len_seq (by rfl) T.b_len PySem.boot_len (pa_cons (pv 0) pa_nil)) pe_int (nomark _))))) (pw_or1 (PW.pt (pw_and (pt_cmpR op_eq (pv 1) pe_str (nomark _)) (pw_and1 (pt_cmpR op_eq (pe_callB call_len_seq (by rfl) T.b_len PySem.boot_len (pa_cons (pv 0) pa_nil)) pe_int (nomark _))))))))
        (pss_one (ps_ret (pe_slice (r := rSlT K) sl_tup (pv 0) (po_some pe_int) po_none)))
        pss_nil)
      (pss_cons (ps_if (PW.pt (pw_and (pt_cmpR op_eq (pv 1) pe_str (nomark _)) (pw_and (pt_cmpR op_eq (pe_callB call_len_seq (by rfl) T.b_len PySem.boot_len (pa_cons (pv 0) pa_nil)) pe_int (nomark _)) (pw_and1 (pt_val (pe_cal C_are_names (hr.mono (by first | decide | omega)) pass0 (pa_cons (pe_ix (r := rIxT K) ix_tup (pv 0) pe_int (fun _ _ => rfl)) pa_nil)))))))
        (pss_one (ps_ret (pe_slice (r := rSlT K) sl_tup (pv 0) (po_some pe_int) (po_some pe_int))))
        pss_nil)
      (pss_one (ps_ret pe_non)))))))), ?_⟩
  refine ⟨_, rfl, _, _, _, _, _, rfl, .ty _, hv.ty, kit_tup t, _, rfl, ?_⟩
  cases t with
  | tup l0 =>
    obtain ⟨p, xs0, rfl, hp, hl0⟩ := hv
    refine iteF ?_
    refine ⟨_, rfl, p, _, rfl, .inr (SqT.of hp), _, _, rfl, rfl, _, rfl, ?_⟩
    cases l0 with
    | nil =>
      rw [show xs0 = [] from hl0]
      exact iteY (by decide) (iteT (qn rfl H (Same.refl H)))
    | cons t0 l =>
      obtain ⟨x0, xs, rfl, hd0, hl⟩ := hl0
      cases l with
      | nil =>
        rw [show xs = [] from hl]
        refine iteY (by show ((1 : Nat) : Int) < 2; decide) (iteT (qn ?_ H (Same.refl H)))
        cases t0 with
        | str k =>
          show formParts k [] = none
          unfold formParts
          simp
        | _ => rfl
      | cons t1 l' =>
        have hxl : xs.length = (t1 :: l').length := hl.len
        have hlen : (((x0 :: xs).length : Nat) : Int) = ((l'.length + 2 : Nat) : Int) := by rw [List.length_cons, hxl]; rfl
        refine iteN (by rw [hlen]; omega) ?_
        refine ⟨_, rfl, p, _, _, _, rfl, rfl, SqT.of hp, atI_at (by decide) rfl, _, _, _, _, _, rfl, .ty _, hd0.ty, kit_str t0, _, rfl, ?_⟩
        cases t0 with
        | str k =>
          obtain rfl : x0 = V.str (SX.S k) := hd0
          obtain ⟨_, htl, _, hnt⟩ := tup_tame ht
          have ep : (Th.tup (.str k :: t1 :: l')).parts = formParts k (t1 :: l') := rfl
          rw [ep] at qn qs
          obtain ⟨x1, xs', rfl, hd1, hl'⟩ := hl
          have hx' := hl'.len
          refine iteF ?_
          refine ⟨_, rfl, p, _, _, _, rfl, rfl, SqT.of hp, atI_at (by decide) rfl, ?_⟩
          have no : formParts k (t1 :: l') = none → ∀ H', Same H H' → Q .non H' := qn
          have n0 : ∀ w : List Nat, ∀ lit : Str, lit = SX.S w → k ≠ w → ¬ V.str (SX.S k) = V.str lit := fun w lit e hk z => hk ((kw e).mp z)
          have y0 : ∀ w : List Nat, ∀ lit : Str, lit = SX.S w → k = w → V.str (SX.S k) = V.str lit := fun w lit e hk => (kw e).mpr hk
          have len_is : ∀ m : Nat, (V.int (((V.str (SX.S k) :: x1 :: xs').length : Nat) : Int) = V.int ((m + 2 : Nat) : Int)) ↔ l'.length = m := fun m => by
            constructor
            · intro e
              have e' : (((V.str (SX.S k) :: x1 :: xs').length : Nat) : Int) = ((m + 2 : Nat) : Int) := by cases e; rfl
              rw [hlen] at e'
              omega
            · intro e
              rw [hlen, e]
          by_cases k1 : k = w_number
          · have fp : formParts k (t1 :: l') = if l'.length = 0 ∧ t1.isInt = true then some [] else none := by
                unfold formParts
                rw [if_pos k1]
                simp
            have n_read : k ≠ w_read := by rw [k1]; decide
            have n_pick : k ≠ w_pick := by rw [k1]; decide
            have n_choose : k ≠ w_choose := by rw [k1]; decide
            have nt : ¬ k ∈ twos := by rw [k1]; decide
            refine ⟨_, rfl, rfl, _, rfl, iteY (y0 _ _ q_number k1) ?_⟩
            refine ⟨_, rfl, p, _, rfl, .inr (SqT.of hp), rfl, _, rfl, ?_⟩
            by_cases hl0 : l'.length = 0
            · refine iteY ((len_is 0).mpr hl0) ?_
              refine ⟨_, rfl, p, _, _, _, rfl, rfl, SqT.of hp, atI_at (by decide) rfl, x1, t1, rfl, hd1, _, rfl, ?_⟩
              cases hi : t1.isInt with
              | true =>
                exact iteT ⟨Nat.zero_le _, fun a na => qs [] (by rw [fp, if_pos ⟨hl0, hi⟩]) _ a [] (same_new na _) upd_same fun _ _ _ => rfl⟩
              | false =>
                refine iteF ?_
                refine ⟨_, rfl, rfl, _, rfl, iteN (n0 _ _ q_read n_read) (iteF ?_)⟩
                refine ⟨_, rfl, tw, _, rfl, .inr (R.twos H), rfl, rfl, _, rfl, iteInN nt (iteF ?_)⟩
                refine ⟨_, rfl, rfl, _, rfl, iteN (n0 _ _ q_pick n_pick) (iteF ?_)⟩
                refine ⟨_, rfl, rfl, _, rfl, iteN (n0 _ _ q_choose n_choose) (iteF ?_)⟩
                exact no (by rw [fp, if_neg (fun z => by rw [hi] at z; cases z.2)]) H (Same.refl H)
            · refine iteN (fun z => hl0 ((len_is 0).mp z)) (iteF ?_)
              refine ⟨_, rfl, rfl, _, rfl, iteN (n0 _ _ q_read n_read) (iteF ?_)⟩
              refine ⟨_, rfl, tw, _, rfl, .inr (R.twos H), rfl, rfl, _, rfl, iteInN nt (iteF ?_)⟩
              refine ⟨_, rfl, rfl, _, rfl, iteN (n0 _ _ q_pick n_pick) (iteF ?_)⟩
              refine ⟨_, rfl, rfl, _, rfl, iteN (n0 _ _ q_choose n_choose) (iteF ?_)⟩
              exact no (by rw [fp, if_neg (fun z => hl0 z.1)]) H (Same.refl H)
          have n_number := k1
          refine ⟨_, rfl, rfl, _, rfl, iteN (n0 _ _ q_number n_number) (iteF ?_)⟩
          by_cases k2 : k = w_read
          · have fp : formParts k (t1 :: l') = if l'.length = 0 ∧ t1.isNm = true then some [] else none := by
              unfold formParts
              rw [if_neg k1, if_pos k2]
              simp
            have n_pick : k ≠ w_pick := by rw [k2]; decide
            have n_choose : k ≠ w_choose := by rw [k2]; decide
            have nt : ¬ k ∈ twos := by rw [k2]; decide
            refine ⟨_, rfl, rfl, _, rfl, iteY (y0 _ _ q_read k2) ?_⟩
            refine ⟨_, rfl, p, _, rfl, .inr (SqT.of hp), rfl, _, rfl, ?_⟩
            by_cases hl0 : l'.length = 0
            · refine iteY ((len_is 0).mpr hl0) ?_
              refine ⟨_, rfl, p, _, _, _, rfl, rfl, SqT.of hp, atI_at (by decide) rfl, x1, t1, rfl, hd1, tameL_mem htl t1 (List.mem_cons_self ..), fun H1 hs1 => ⟨_, rfl, ?_⟩⟩
              cases hi : t1.isNm with
              | true =>
                exact iteT ⟨Nat.zero_le _, fun a na => qs [] (by rw [fp, if_pos ⟨hl0, hi⟩]) _ a [] (hs1.trans (same_new na _)) upd_same fun _ _ _ => rfl⟩
              | false =>
                refine iteF ?_
                refine ⟨_, rfl, tw, _, rfl, .inr (R.twos H1), rfl, rfl, _, rfl, iteInN nt (iteF ?_)⟩
                refine ⟨_, rfl, rfl, _, rfl, iteN (n0 _ _ q_pick n_pick) (iteF ?_)⟩
                refine ⟨_, rfl, rfl, _, rfl, iteN (n0 _ _ q_choose n_choose) (iteF ?_)⟩
                exact no (by rw [fp, if_neg (fun z => by rw [hi] at z; cases z.2)]) H1 hs1
            · refine iteN (fun z => hl0 ((len_is 0).mp z)) (iteF ?_)
              refine ⟨_, rfl, tw, _, rfl, .inr (R.twos H), rfl, rfl, _, rfl, iteInN nt (iteF ?_)⟩
              refine ⟨_, rfl, rfl, _, rfl, iteN (n0 _ _ q_pick n_pick) (iteF ?_)⟩
              refine ⟨_, rfl, rfl, _, rfl, iteN (n0 _ _ q_choose n_choose) (iteF ?_)⟩
              exact no (by rw [fp, if_neg (fun z => hl0 z.1)]) H (Same.refl H)
          have n_read := k2
          refine ⟨_, rfl, rfl, _, rfl, iteN (n0 _ _ q_read n_read) (iteF ?_)⟩
          by_cases k3 : k ∈ twos
          · have fp : formParts k (t1 :: l') = if l'.length = 1 then some (t1 :: l') else none := by
              unfold formParts
              rw [if_neg k1, if_neg k2, if_pos k3]
              simp
            have n_pick : k ≠ w_pick := fun z => by rw [z] at k3; revert k3; decide
            have n_choose : k ≠ w_choose := fun z => by rw [z] at k3; revert k3; decide
            refine ⟨_, rfl, tw, _, rfl, .inr (R.twos H), rfl, rfl, _, rfl, iteInY k3 ?_⟩
            refine ⟨_, rfl, p, _, rfl, .inr (SqT.of hp), rfl, _, rfl, ?_⟩
            by_cases hl0 : l'.length = 1
            · refine iteY ((len_is 1).mpr hl0) (iteT ?_)
              refine ⟨_, rfl, _, rfl, p, _, rfl, SqT.of hp, slice_ne _ _ _, fun a na => ?_⟩
              refine qs _ (by rw [fp, if_pos hl0]) _ a _ (same_new na _) upd_same fun B sB dB => ?_
              rw [cut_tail]
              exact DataL.drop 1 (data_in sB dB hp)
            · refine iteN (fun z => hl0 ((len_is 1).mp z)) ?_
              refine ⟨_, rfl, rfl, _, rfl, iteN (n0 _ _ q_pick n_pick) (iteF ?_)⟩
              refine ⟨_, rfl, rfl, _, rfl, iteN (n0 _ _ q_choose n_choose) (iteF ?_)⟩
              exact no (by rw [fp, if_neg hl0]) H (Same.refl H)
          have nt := k3
          refine ⟨_, rfl, tw, _, rfl, .inr (R.twos H), rfl, rfl, _, rfl, iteInN nt (iteF ?_)⟩
          by_cases k4 : k = w_pick
          · have fp : formParts k (t1 :: l') = if l'.length = 2 then some (t1 :: l') else none := by
              unfold formParts
              rw [if_neg k1, if_neg k2, if_neg k3, if_pos k4]
              simp
            have n_choose : k ≠ w_choose := by rw [k4]; decide
            refine ⟨_, rfl, rfl, _, rfl, iteY (y0 _ _ q_pick k4) ?_⟩
            refine ⟨_, rfl, p, _, rfl, .inr (SqT.of hp), rfl, _, rfl, ?_⟩
            by_cases hl0 : l'.length = 2
            · refine iteY ((len_is 2).mpr hl0) ?_
              refine ⟨_, rfl, _, rfl, p, _, rfl, SqT.of hp, slice_ne _ _ _, fun a na => ?_⟩
              refine qs _ (by rw [fp, if_pos hl0]) _ a _ (same_new na _) upd_same fun B sB dB => ?_
              rw [cut_tail]
              exact DataL.drop 1 (data_in sB dB hp)
            · refine iteN (fun z => hl0 ((len_is 2).mp z)) ?_
              refine ⟨_, rfl, rfl, _, rfl, iteN (n0 _ _ q_choose n_choose) (iteF ?_)⟩
              exact no (by rw [fp, if_neg hl0]) H (Same.refl H)
          have n_pick := k4
          refine ⟨_, rfl, rfl, _, rfl, iteN (n0 _ _ q_pick n_pick) (iteF ?_)⟩
          by_cases k5 : k = w_choose
          · have fp : formParts k (t1 :: l') = if l'.length = 1 ∧ (l'.headD .non).areNms = true then some [t1] else none := by
              unfold formParts
              rw [if_neg k1, if_neg k2, if_neg k3, if_neg k4, if_pos k5]
              cases l' <;> simp
            refine ⟨_, rfl, rfl, _, rfl, iteY (y0 _ _ q_choose k5) ?_⟩
            refine ⟨_, rfl, p, _, rfl, .inr (SqT.of hp), rfl, _, rfl, ?_⟩
            by_cases hl0 : l'.length = 1
            · refine iteY ((len_is 1).mpr hl0) ?_
              match l', hl0, hl', htl, hnt, fp with
              | [t2], _, ⟨x2, xs2, e2, hd2, e3⟩, htl, hnt, fp =>
                subst e2
                obtain rfl : xs2 = [] := e3
                refine ⟨_, rfl, p, _, _, _, rfl, rfl, SqT.of hp, atI_at (by decide) rfl, x2, t2, rfl, hd2, tameL_mem htl t2 (by simp), fun m hm => ?_, fun H1 hs1 => ⟨_, rfl, ?_⟩⟩
                · subst hm
                  have e : (!decide (k = w_choose) || (Th.flatL m && SeqAt.shaped (.list (Th.pyL m)))) = true := hnt
                  rw [decide_eq_true k5] at e
                  exact Bool.and_eq_true_iff.mp e
                cases hi : t2.areNms with
                | true =>
                  refine iteT ⟨_, rfl, _, rfl, _, rfl, p, _, rfl, SqT.of (hs1 _ _ hp), fun z => absurd z.1 (by show ¬ HT.sIx 3 0 (some 1) = 0; decide), fun a na => ?_⟩
                  refine qs [t1] (by rw [fp, if_pos ⟨rfl, hi⟩]) _ a _ (hs1.trans (same_new na _)) upd_same fun B sB dB => ?_
                  rw [cut_one]
                  exact DataL.take 1 (DataL.drop 1 (data_in sB dB hp))
                | false =>
                  exact iteF (no (by rw [fp, if_neg (fun z => by rw [show ([t2] : List Th).headD .non = t2 from rfl, hi] at z; cases z.2)]) H1 hs1)
            · exact iteN (fun z => hl0 ((len_is 1).mp z)) (iteF (no (by rw [fp, if_neg (fun z => hl0 z.1)]) H (Same.refl H)))
          have n_choose := k5
          refine ⟨_, rfl, rfl, _, rfl, iteN (n0 _ _ q_choose n_choose) (iteF ?_)⟩
          exact no (by unfold formParts; rw [if_neg k1, if_neg k2, if_neg k3, if_neg k4, if_neg k5]) H (Same.refl H)
        | _ => exact iteT (qn rfl H (Same.refl H))
  | _ => exact iteT (qn rfl H (Same.refl H))
end
section
variable {P : Program} {w : World} {K : PySem.W.Frag} {mg : Str → Option Value} {base : Heap}
abbrev s_is_recipe : Stmt := topS 11
abbrev N_is_recipe : List Str := ["thing", "row", "at", "one", "depth", "parts", "part"]
theorem sc_is_recipe : FnScope N_is_recipe ["thing"] (defScope s_is_recipe) := ⟨rfl, rfl, rfl, by decide +kernel, rfl, by decide +kernel, by decide +kernel⟩

/-- what is still to be looked at -/
def pend (n : Nat) (rest : List (Th × Nat)) : Nat := (rest.map fun p => Th.count (9 - p.2) p.1).sum
def Row (H : Hp) : List (Th × Nat) → List V → Prop
  | [], xs => xs = []
  | p :: r, xs => ∃ (a : Addr) (x : V) (ys : List V), xs = .ref a :: ys ∧ H a = some (.tup [x, .int (p.2 : Int)]) ∧ Data H p.1 x ∧ Row H r ys
theorem Row.same {H H' : Hp} (s : Same H H') : ∀ {r : List (Th × Nat)} {xs : List V}, Row H r xs → Row H' r xs
  | [], _, h => h
  | _ :: _, _, ⟨a, x, ys, e, h, d, r⟩ => ⟨a, x, ys, e, s _ _ h, d.same s, Row.same s r⟩
theorem Row.len {H : Hp} : ∀ {r : List (Th × Nat)} {xs : List V}, Row H r xs → xs.length = r.length
  | [], _, h => by rw [show _ = [] from h]; rfl
  | _ :: _, _, ⟨a, x, ys, e, h, d, r⟩ => by rw [e, List.length_cons, Row.len r]; rfl
theorem Row.at {H : Hp} : ∀ {r : List (Th × Nat)} {xs : List V} {i : Nat} {p : Th × Nat}, Row H r xs → r[i]? = some p → ∃ (a : Addr) (x : V), xs[i]? = some (.ref a) ∧ H a = some (.tup [x, .int (p.2 : Int)]) ∧ Data H p.1 x
  | [], _, i, p, _, e => by simp at e
  | q :: _, _, 0, p, ⟨a, x, ys, e1, h, d, _⟩, e => by subst e1; cases e; exact ⟨a, x, rfl, h, d⟩
  | _ :: _, _, i + 1, p, ⟨a, x, ys, e1, h, d, r⟩, e => by subst e1; exact Row.at (i := i) r (by simpa using e)
theorem Row.snoc {H : Hp} {p : Th × Nat} {a : Addr} {x : V} (h : H a = some (.tup [x, .int (p.2 : Int)])) (d : Data H p.1 x) : ∀ {r : List (Th × Nat)} {xs : List V}, Row H r xs → Row H (r ++ [p]) (xs ++ [.ref a])
  | [], _, e => by rw [show _ = [] from e]; exact ⟨a, x, [], rfl, h, d, rfl⟩
  | _ :: _, _, ⟨b, y, ys, e, h', d', r⟩ => by subst e; exact ⟨b, y, _, rfl, h', d', Row.snoc h d r⟩
theorem pend_ge (n : Nat) : ∀ r : List (Th × Nat), r.length ≤ pend n r
  | [] => Nat.zero_le _
  | p :: r => by
    have := pend_ge n r
    have := count_pos (9 - p.2) p.1
    show r.length + 1 ≤ Th.count (9 - p.2) p.1 + pend n r
    omega
theorem pend_app (n : Nat) (a b : List (Th × Nat)) : pend n (a ++ b) = pend n a + pend n b := by unfold pend; rw [List.map_append, List.sum_append]
def allOk (r : List (Th × Nat)) : Bool := r.all fun p => Th.okay (9 - p.2) p.1
def spIsRecipe : Sp := fun vs H Q _ => ∃ (v : V) (t : Th), vs = [v] ∧ Data H t v ∧ t.tame = true ∧ ∀ H', Same H H' → Q (.bl t.isRcp) H'
theorem parts_tame {t : Th} {ps : List Th} (ht : t.tame = true) (h : t.parts = some ps) : ps.length ≤ 3 ∧ ∀ p ∈ ps, p.tame = true := by
  obtain ⟨k, l, rfl⟩ := parts_tup h
  have hm := tameL_mem (tup_tame ht).2.1
  have e : formParts k l = some ps := h
  unfold formParts at e
  have none_ne : ∀ {x : List Th}, (Option.none : Option (List Th)) = some x → False := fun z => by cases z
  split at e
  · split at e
    · cases e; exact ⟨by decide, by simp⟩
    · cases e
  split at e
  · split at e
    · cases e; exact ⟨by decide, by simp⟩
    · cases e
  split at e
  · split at e
    · rename_i h2; cases e; exact ⟨by omega, hm⟩
    · cases e
  split at e
  · split at e
    · rename_i h2; cases e; exact ⟨by omega, hm⟩
    · cases e
  split at e
  · split at e
    · rename_i h2; cases e
      refine ⟨by rw [List.length_take]; omega, fun p hp => hm p (List.mem_of_mem_take hp)⟩
    · cases e
  · cases e
theorem ok_is_recipe {tw : Addr} (T : Txt K mg) (R : RTxt K mg tw) (D : IsDef K mg "is_recipe" s_is_recipe ["thing"]) (C_within : Cal P w K mg base CX0 3 "within" ["thing"] (spWithin K)) : Cal P w K mg base CX0 4 "is_recipe" ["thing"] spIsRecipe := by
  refine D.cal sc_is_recipe (fun vs H Q E h => ?_) (fun f cdv A outer s H vs Q E hr h => ?_)
  · obtain ⟨v, t, rfl, _⟩ := h
    rfl
  obtain ⟨v, t, rfl, hv, ht, q⟩ := h
  obtain ⟨_, g_MOST⟩ := R.MOST
  obtain ⟨_, g_DEEPEST⟩ := R.DEEPEST
  refine ⟨_, (pss_cons (ps_set (i := 1) sc_is_recipe.nd rfl (Or.inl rfl) (pe_lst (pa_cons (pe_tup (pa_cons (pv 0) (pa_cons pe_int pa_nil))) pa_nil)))
      (pss_cons (ps_set (i := 2) sc_is_recipe.nd rfl (Or.inl rfl) pe_int)
      (pss_cons (ps_while PassesOwn.never (pt_cmpR op_lt (pv 2) (pe_callB call_len_seq (by rfl) T.b_len PySem.boot_len (pa_cons (pv 1) pa_nil)) (nomark _))
        (pss_cons (ps_asg (pe_ix (r := rIxL K) ix_list (pv 1) (pv 2) (fun _ _ => rfl)) (pg_tup rfl (pgs_cons (pg_name (i := 3) sc_is_recipe.nd rfl (Or.inl rfl)) (pgs_cons (pg_name (i := 4) sc_is_recipe.nd rfl (Or.inl rfl)) pgs_nil))))
      (pss_cons (ps_set (i := 5) sc_is_recipe.nd rfl (Or.inl rfl) (pe_cal C_within (hr.mono (by first | decide | omega)) pass0 (pa_cons (pv 3) pa_nil)))
      (pss_cons (ps_if (PW.pt (pw_or (pt_cmpR op_isN (pv 5) pe_non (nomark _)) (pw_or (pt_cmpR op_gt (pv 4) (pe_glob (v := .int _) rfl g_DEEPEST ⟨_, rfl⟩) (nomark _)) (pw_or1 (pt_cmpR op_gt (pe_callB call_len_seq (by rfl) T.b_len PySem.boot_len (pa_cons (pv 1) pa_nil)) (pe_glob (v := .int _) rfl g_MOST ⟨_, rfl⟩) (nomark _))))))
        (pss_one (ps_ret pe_bl))
        pss_nil)
      (pss_cons (ps_for PassesOwn.never rfl (pi_tup (pv 5)) (pg_name (i := 6) sc_is_recipe.nd rfl (Or.inl rfl))
        (pss_one (ps_expr (pe_bm PySem.F.plainAttrs_list PySem.F.slot_list_append PySem.F.type_list_append mt_append (pv 1) (pa_cons (pe_tup (pa_cons (pv 6) (pa_cons (pe_op op_add (pv 4) pe_int) pa_nil))) pa_nil)))))
      (pss_one (ps_aug (i := 2) sc_is_recipe.nd rfl (Or.inl rfl) pe_int ip_add)))))))
      (pss_one (ps_ret pe_bl))))), ?_⟩
  refine ⟨_, rfl, le_line (Nat.le_of_ble_eq_true rfl), fun p np => ⟨le_line (Nat.le_of_ble_eq_true rfl), fun L nL => ?_⟩⟩
  have s1 := same_new np (.tup [v, .int 1])
  -- the row: looked at, and still to be looked at
  refine ⟨fun m σ H' => ∃ (B : Hp) (all : List (Th × Nat)) (xs : List V) (i : Nat) (o1 o2 o3 o4 : Option V), σ = [some v, some (.ref L), some (.int (i : Int)), o1, o2, o3, o4] ∧ Same H B ∧ B L = none ∧ Same B H' ∧ H' L = some (.lst xs) ∧ Row B all xs ∧
      i ≤ all.length ∧ all.length ≤ 103 ∧ (∀ q ∈ all, q.1.tame = true ∧ 1 ≤ q.2 ∧ q.2 ≤ 9) ∧ (all.length ≤ 100 ∨ i < all.length) ∧ t.isRcp = (allOk (all.drop i) && decide (i + pend 0 (all.drop i) ≤ 100)) ∧ m = 104 - i, ?_, ?_⟩
  · refine ⟨104, _, [(t, 1)], [.ref p], 0, none, none, none, none, rfl, s1, nL, same_new nL _, upd_same, ⟨p, v, [], rfl, upd_same, hv.same s1, rfl⟩, Nat.zero_le _, Nat.le_of_ble_eq_true rfl, ?_, .inl (Nat.le_of_ble_eq_true rfl), ?_, rfl⟩
    · intro q' hq
      rw [List.mem_singleton.mp hq]
      exact ⟨ht, Nat.le_refl 1, (by decide : 1 ≤ 9)⟩
    · show (t.okay 8 && decide (t.count 8 ≤ 100)) = ((t.okay 8 && true) && decide (0 + (t.count 8 + 0) ≤ 100))
      rw [Bool.and_true, Nat.zero_add, Nat.add_zero]
  rintro m σ H1 ⟨B, all, xs, i, o1, o2, o3, o4, rfl, hB, nB, hs, hL, hrow, hi, h103, htm, hlast, heq, rfl⟩
  have hxl := hrow.len
  refine ⟨_, rfl, _, rfl, L, _, rfl, .inl (SqL.of hL), _, _, rfl, rfl, _, rfl, ?_⟩
  by_cases hlt : ((i : Nat) : Int) < ((xs.length : Nat) : Int)
  · refine iteY hlt ?_
    have hia : i < all.length := by omega
    have hget := List.getElem?_eq_getElem hia
    obtain ⟨a, x, hxa, hpa, hda⟩ := hrow.at hget
    generalize hqe : all[i] = pq at hget hpa hda
    obtain ⟨t1, d1⟩ := pq
    have hq1 := htm (t1, d1) (by rw [← hqe]; exact List.getElem_mem hia)
    have hdrop : all.drop i = (t1, d1) :: all.drop (i + 1) := by rw [List.drop_eq_getElem_cons hia, hqe]
    refine ⟨fun σ' H' => ∃ (B : Hp) (all : List (Th × Nat)) (xs : List V) (i' : Nat) (o1 o2 o3 o4 : Option V), σ' = [some v, some (.ref L), some (.int (i' : Int)), o1, o2, o3, o4] ∧ Same H B ∧ B L = none ∧ Same B H' ∧ H' L = some (.lst xs) ∧ Row B all xs ∧
      i' ≤ all.length ∧ all.length ≤ 103 ∧ (∀ q ∈ all, q.1.tame = true ∧ 1 ≤ q.2 ∧ q.2 ≤ 9) ∧ (all.length ≤ 100 ∨ i' < all.length) ∧ t.isRcp = (allOk (all.drop i') && decide (i' + pend 0 (all.drop i') ≤ 100)) ∧ i' = i + 1, ?_, ?_⟩
    · rintro σ' H' ⟨B, all, xs, i', o1, o2, o3, o4, e1, e2, e3, e4, e5, e6, e7, e8, e9, e10, e11, e12⟩
      exact ⟨104 - i', by omega, B, all, xs, i', o1, o2, o3, o4, e1, e2, e3, e4, e5, e6, e7, e8, e9, e10, e11, rfl⟩
    -- one, depth = row[at]
    refine ⟨_, rfl, _, rfl, L, _, _, _, rfl, rfl, SqL.of hL, atI_nat hxa, ?_⟩
    refine ⟨a, _, rfl, SqT.of (hs _ _ hpa), rfl, x, _, rfl, _, _, rfl, rfl, ?_⟩
    refine ⟨_, rfl, x, t1, rfl, hda.same hs, hq1.1, fun hno H2 hs2 => ?_, fun ps hps H2 ap zs hs2 hap hzs => ?_⟩
    · refine ⟨_, rfl, rfl, _, rfl, iteY rfl (iteT ?_)⟩
      have : t.isRcp = false := by
        rw [heq, hdrop]
        show ((Th.okay (9 - d1) t1 && allOk (all.drop (i + 1))) && _) = false
        have : Th.okay (9 - d1) t1 = false := by
          cases 9 - d1 with
          | zero => rfl
          | succ n => show (match t1.parts with | none => false | some ps => ps.all (Th.okay n)) = false; rw [hno]
        rw [this]
        rfl
      rw [← this]
      exact q _ (hB.trans (hs.trans hs2))
    · refine ⟨_, rfl, rfl, _, rfl, iteN (by intro z; cases z) ?_⟩
      have hs12 := hs.trans hs2
      have hL2 := hs2 _ _ hL
      refine ⟨_, rfl, _, _, rfl, rfl, _, rfl, ?_⟩
      by_cases hd9 : ((d1 : Nat) : Int) > 8
      · refine iteY hd9 (iteT ?_)
        have : t.isRcp = false := by
          rw [heq, hdrop]
          show ((Th.okay (9 - d1) t1 && allOk (all.drop (i + 1))) && _) = false
          have e9 : 9 - d1 = 0 := by omega
          rw [e9]
          rfl
        rw [← this]
        exact q _ (hB.trans hs12)
      refine iteN hd9 ?_
      refine ⟨_, rfl, L, _, rfl, .inl (SqL.of hL2), _, _, rfl, rfl, _, rfl, ?_⟩
      by_cases hbig : ((xs.length : Nat) : Int) > 100
      · refine iteY hbig ?_
        have : t.isRcp = false := by
          rw [heq, hdrop]
          have hge := pend_ge 0 (all.drop i)
          rw [hdrop] at hge
          have hln : ((t1, d1) :: all.drop (i + 1)).length = all.length - i := by rw [← hdrop, List.length_drop]
          rw [decide_eq_false (show ¬ i + pend 0 ((t1, d1) :: all.drop (i + 1)) ≤ 100 by omega), Bool.and_false]
        rw [← this]
        exact q _ (hB.trans hs12)
      refine iteN hbig ?_
      obtain ⟨hp3, hptm⟩ := parts_tame hq1.1 hps
      have hzl := (hzs B hs hda).len
      obtain ⟨nn, hnn⟩ : ∃ nn, 9 - d1 = nn + 1 := ⟨8 - d1, by omega⟩
      have hnn2 : 9 - (d1 + 1) = nn := by omega
      have hok : Th.okay (9 - d1) t1 = allOk (ps.map fun p => (p, d1 + 1)) := by
        rw [hnn]
        show (match t1.parts with | none => false | some ps => ps.all (Th.okay nn)) = _
        rw [hps]
        unfold allOk
        rw [List.all_map]
        show ps.all (Th.okay nn) = ps.all fun p => Th.okay (9 - (d1 + 1)) p
        rw [hnn2]
      have hct : Th.count (9 - d1) t1 = 1 + pend 0 (ps.map fun p => (p, d1 + 1)) := by
        rw [hnn]
        show (match t1.parts with | none => 1 | some ps => 1 + (ps.map (Th.count nn)).sum) = _
        rw [hps]
        unfold pend
        rw [List.map_map]
        show 1 + (ps.map (Th.count nn)).sum = 1 + (ps.map fun p => Th.count (9 - (d1 + 1)) p).sum
        rw [hnn2]
      -- for part in parts
      refine ⟨_, rfl, ap, rfl, ⟨_, SqT.of hap⟩, for_tup (K := K) (a := ap) (xs := zs) (fun j σ' H' => ∃ (B' : Hp) (ys : List V) (o4 : Option V), σ' = [some v, some (.ref L), some (.int (i : Int)), some x, some (.int (d1 : Int)), some (.ref ap), o4] ∧ Same B B' ∧ B' L = none ∧ Same B' H' ∧ H' ap = some (.tup zs) ∧ H' L = some (.lst ys) ∧
          Row B' (all ++ (ps.take j).map fun p => (p, d1 + 1)) ys ∧ DataL B' ps zs) ?_ (fun j σ' H' _ ⟨_, _, _, _, _, _, _, h, _⟩ => SqT.of h) ?_ ?_⟩
      · exact ⟨B, xs, o4, rfl, Same.refl _, nB, hs12, hap, hL2, by rw [List.take_zero, List.map_nil, List.append_nil]; exact hrow, hzs B hs hda⟩
      · rintro j y σ' H3 hy ⟨B', ys, o4', rfl, hBB, nB', hs3, hap3, hL3, hrow3, hzs3⟩
        obtain ⟨tj, htj, hdj⟩ := hzs3.at hy
        have hyl := hrow3.len
        have hjl : (ps.take j).length ≤ 3 := by rw [List.length_take]; omega
        rw [List.length_append, List.length_map] at hyl
        refine ⟨_, rfl, .inl ⟨rfl, _, SqL.of hL3⟩, _, rfl, _, rfl, _, _, rfl, rfl, le_line (Nat.le_of_ble_eq_true rfl), fun u nu => ⟨L, _, _, rfl, rfl, same_new nu _ _ _ hL3, lt_line (by omega), ?_⟩⟩
        have Lu : L ≠ u := ne_of_none hL3 nu
        have apL : ap ≠ L := fun z => by rw [z, hL3] at hap3; cases hap3
        have nu' : B' u = none := hs3.free nu
        refine ⟨upd B' u (.tup [y, .int ((d1 : Int) + 1)]), _, _, rfl, hBB.trans (same_new nu' _), by rw [upd_ne Lu]; exact nB', fun b o e => ?_, ?_, upd_same, ?_, hzs3.same (same_new nu' _)⟩
        · have hbL : b ≠ L := fun z => by rw [z, upd_ne Lu, nB'] at e; cases e
          rw [upd_ne hbL]
          by_cases hbu : b = u
          · rw [hbu, upd_same] at e ⊢; exact e
          · rw [upd_ne hbu] at e ⊢; exact hs3 _ _ e
        · rw [upd_ne apL]; exact same_new nu _ _ _ hap3
        · rw [List.take_add_one, htj, List.map_append, ← List.append_assoc]
          exact Row.snoc (p := (tj, d1 + 1)) upd_same (hdj.same (same_new nu' _)) (hrow3.same (same_new nu' _))
      · rintro σ' H3 ⟨B', ys, o4', rfl, hBB, nB', hs3, hap3, hL3, hrow3, hzs3⟩
        rw [hzl, List.take_length] at hrow3
        refine ⟨_, rfl, _, _, rfl, rfl, ?_⟩
        have hnl : (ps.map fun p => (p, d1 + 1)).length = ps.length := List.length_map _
        refine ⟨B', all ++ ps.map fun p => (p, d1 + 1), ys, i + 1, _, _, _, _, rfl, hB.trans hBB, nB', hs3, hL3, hrow3, ?_, ?_, ?_, ?_, ?_, rfl⟩
        · rw [List.length_append]; omega
        · rw [List.length_append, hnl]; omega
        · intro q' hq'
          rcases List.mem_append.mp hq' with h | h
          · exact htm q' h
          · obtain ⟨p', hp', rfl⟩ := List.mem_map.mp h
            exact ⟨hptm p' hp', by show 1 ≤ d1 + 1; omega, by show d1 + 1 ≤ 9; omega⟩
        · rw [List.length_append, hnl]
          cases ps with
          | nil => exact .inl (by show all.length + 0 ≤ 100; omega)
          | cons p0 r0 => exact .inr (by rw [List.length_cons]; omega)
        · rw [heq, hdrop, List.drop_append_of_le_length (by omega), pend_app]
          have ea : allOk ((t1, d1) :: all.drop (i + 1)) = (Th.okay (9 - d1) t1 && allOk (all.drop (i + 1))) := rfl
          have ep : pend 0 ((t1, d1) :: all.drop (i + 1)) = Th.count (9 - d1) t1 + pend 0 (all.drop (i + 1)) := rfl
          have eb : allOk (all.drop (i + 1) ++ ps.map fun p => (p, d1 + 1)) = (allOk (all.drop (i + 1)) && allOk (ps.map fun p => (p, d1 + 1))) := List.all_append
          rw [ea, ep, eb, hok, hct, Bool.and_comm (allOk (ps.map fun p => (p, d1 + 1)))]
          congr 2
          exact propext ⟨fun z => by omega, fun z => by omega⟩
  · refine iteN hlt ?_
    have e : all.drop i = [] := List.drop_eq_nil_of_le (by omega)
    have : t.isRcp = true := by
      rw [heq, e]
      show (true && decide (i + 0 ≤ 100)) = true
      rw [decide_eq_true (show i + 0 ≤ 100 by omega)]
      rfl
    have h := q _ (hB.trans hs)
    rw [this] at h
    exact h
end
theorem num_parts (k : List Nat) (h : k = w_number) (t1 : Th) : (t1.isInt = true → formParts k [t1] = some []) ∧ (t1.isInt = false → formParts k [t1] = none) := by
  unfold formParts
  rw [if_pos h]
  exact ⟨fun z => if_pos ⟨rfl, z⟩, fun z => if_neg fun y => by rw [show ([t1] : List Th).headD .non = t1 from rfl, z] at y; cases y.2⟩
theorem read_parts (k : List Nat) (h1 : k ≠ w_number) (h : k = w_read) (t1 : Th) : (t1.isNm = true → formParts k [t1] = some []) ∧ (t1.isNm = false → formParts k [t1] = none) := by
  unfold formParts
  rw [if_neg h1, if_pos h]
  exact ⟨fun z => if_pos ⟨rfl, z⟩, fun z => if_neg fun y => by rw [show ([t1] : List Th).headD .non = t1 from rfl, z] at y; cases y.2⟩
theorem one_none (k : List Nat) (h1 : k ≠ w_number) (h2 : k ≠ w_read) (t1 : Th) : formParts k [t1] = none := by
  unfold formParts
  rw [if_neg h1, if_neg h2]
  simp
theorem twos_parts (k : List Nat) (h : k ∈ twos) (t1 t2 : Th) : formParts k [t1, t2] = some [t1, t2] := by
  have n1 : k ≠ w_number := fun z => by rw [z] at h; revert h; decide
  have n2 : k ≠ w_read := fun z => by rw [z] at h; revert h; decide
  unfold formParts
  rw [if_neg n1, if_neg n2, if_pos h]
  rfl
theorem choose_parts (k : List Nat) (h : k = w_choose) (t1 t2 : Th) : (t2.areNms = true → formParts k [t1, t2] = some [t1]) ∧ (t2.areNms = false → formParts k [t1, t2] = none) := by
  have n1 : k ≠ w_number := by rw [h]; decide
  have n2 : k ≠ w_read := by rw [h]; decide
  have n3 : ¬ k ∈ twos := by rw [h]; decide
  have n4 : k ≠ w_pick := by rw [h]; decide
  unfold formParts
  rw [if_neg n1, if_neg n2, if_neg n3, if_neg n4, if_pos h]
  exact ⟨fun z => if_pos ⟨rfl, z⟩, fun z => if_neg fun y => by rw [show ([t1, t2] : List Th).getD 1 .non = t2 from rfl, z] at y; cases y.2⟩
theorem two_none (k : List Nat) (h1 : ¬ k ∈ twos) (h2 : k ≠ w_choose) (t1 t2 : Th) : formParts k [t1, t2] = none := by
  unfold formParts
  rw [if_neg h1, if_neg h2]
  simp
theorem pick_parts (k : List Nat) (h : k = w_pick) (t1 t2 t3 : Th) : formParts k [t1, t2, t3] = some [t1, t2, t3] := by
  have n1 : k ≠ w_number := by rw [h]; decide
  have n2 : k ≠ w_read := by rw [h]; decide
  have n3 : ¬ k ∈ twos := by rw [h]; decide
  unfold formParts
  rw [if_neg n1, if_neg n2, if_neg n3, if_pos h]
  rfl
theorem three_none (k : List Nat) (h1 : k ≠ w_pick) (t1 t2 t3 : Th) : formParts k [t1, t2, t3] = none := by
  unfold formParts
  rw [if_neg h1]
  simp
/-! ### recipes as things -/
def Kd.word : Kd → List Nat
  | .plus => w_plus | .minus => w_minus | .times => w_times | .most => w_most
theorem kd_word (k : Kd) : k.name = SX.S k.word := by cases k <;> decide +kernel
theorem kd_twos (k : Kd) : k.word ∈ twos := by cases k <;> decide
def nmsTh (ns : List (List Nat)) : List Th := ns.map Th.str
def Rcp.tail : Rcp → List Th × List Nat
  | .num n => ([.int n], w_number)
  | .read s => ([.str s], w_read)
  | _ => ([], [])
def Rcp.th : Rcp → Th
  | .num n => .tup [.str w_number, .int n]
  | .read s => .tup [.str w_read, .str s]
  | .two k a b => .tup [.str k.word, a.th, b.th]
  | .pick a b c => .tup [.str w_pick, a.th, b.th, c.th]
  | .choose a ns => .tup [.str w_choose, a.th, .tup (nmsTh ns)]
theorem nms_data (H : Hp) : ∀ ns : List (List Nat), DataL H (nmsTh ns) (txs ns)
  | [] => rfl
  | s :: ns => ⟨_, _, rfl, rfl, nms_data H ns⟩
theorem Rec.data {H : Hp} : ∀ {r : Rcp} {v : V}, Rec H r v → Data H r.th v
  | .num n, v, ⟨p, e, h⟩ => ⟨p, _, e, h, _, _, rfl, congrArg V.str q_number, _, _, rfl, rfl, rfl⟩
  | .read s, v, ⟨p, e, h⟩ => ⟨p, _, e, h, _, _, rfl, congrArg V.str q_read, _, _, rfl, rfl, rfl⟩
  | .two k a b, v, ⟨p, x, y, e, h, ra, rb⟩ => ⟨p, _, e, h, _, _, rfl, congrArg V.str (kd_word k), _, _, rfl, ra.data, _, _, rfl, rb.data, rfl⟩
  | .pick a b c, v, ⟨p, x, y, z, e, h, ra, rb, rc⟩ => ⟨p, _, e, h, _, _, rfl, congrArg V.str q_pick, _, _, rfl, ra.data, _, _, rfl, rb.data, _, _, rfl, rc.data, rfl⟩
  | .choose a ns, v, ⟨p, x, q, e, h, ra, hq⟩ => ⟨p, _, e, h, _, _, rfl, congrArg V.str q_choose, _, _, rfl, ra.data, _, _, rfl, ⟨q, _, rfl, hq, nms_data H ns⟩, rfl⟩
theorem Nm.tame {s : List Nat} (h : Nm s) : tameS s = true := by
  unfold tameS
  rw [Bool.and_eq_true, decide_eq_true_eq, List.all_eq_true]
  refine ⟨by have := h.2.1; omega, fun c hc => decide_eq_true ?_⟩
  have := h.2.2 c hc
  omega
theorem Nms.flat : ∀ {ns : List (List Nat)}, Th.flatL (nmsTh ns) = true
  | [] => rfl
  | s :: ns => by show (true && Th.flatL (nmsTh ns)) = true; rw [Nms.flat]; rfl
theorem nms_py : ∀ {ns : List (List Nat)}, (∀ s ∈ ns, Nm s) → PyData.canLayAll0 (Th.pyL (nmsTh ns)) = true ∧ PyData.depthAll (Th.pyL (nmsTh ns)) = 0
  | [], _ => ⟨rfl, rfl⟩
  | s :: ns, h => by
    have ih := nms_py (ns := ns) fun x hx => h x (List.mem_cons_of_mem _ hx)
    refine ⟨?_, ?_⟩
    · show ((SX.S s).cps.all (· < 0x110000) && PyData.canLayAll0 (Th.pyL (nmsTh ns))) = true
      rw [ih.1, Bool.and_true]
      have hs := (h s (List.mem_cons_self ..)).2.2
      rw [← Array.all_toList, List.all_eq_true]
      intro c hc
      have := hs c hc
      exact decide_eq_true (by omega)
    · show max 0 (PyData.depthAll (Th.pyL (nmsTh ns))) = 0
      rw [ih.2]
      rfl
theorem Nms.shaped {ns : List (List Nat)} (h : ∀ s ∈ ns, Nm s) : SeqAt.shaped (.list (Th.pyL (nmsTh ns))) = true := by
  rw [shaped_parts, (nms_py h).1, (nms_py h).2]
  exact ⟨rfl, by decide⟩
theorem nms_tame : ∀ {ns : List (List Nat)}, (∀ s ∈ ns, Nm s) → Th.tameL (nmsTh ns) = true
  | [], _ => rfl
  | s :: ns, h => by
    show (tameS s && Th.tameL (nmsTh ns)) = true
    rw [(h s (List.mem_cons_self ..)).tame, nms_tame fun x hx => h x (List.mem_cons_of_mem _ hx)]
    rfl
theorem tame_tup {l : List Th} (h : Th.tameL l = true) (hl : l.length ≤ 1000000) (hn : namesTame l = true) : (Th.tup l).tame = true := by
  show (Th.tameL l && decide (l.length ≤ 1000000) && namesTame l) = true
  rw [h, hn, decide_eq_true hl]
  rfl
theorem namesTame3 {k : List Nat} (hk : k ≠ w_choose) (a b : Th) : namesTame [.str k, a, b] = true := by
  cases b with
  | tup m => show (!decide (k = w_choose) || _) = true; rw [decide_eq_false hk]; rfl
  | _ => rfl
theorem namesTame4 (a b c d : Th) (r : List Th) : namesTame (a :: b :: c :: d :: r) = true := by cases a <;> cases c <;> rfl
theorem namesTame2 (a b : Th) : namesTame [a, b] = true := by cases a <;> rfl
theorem namesTameC {k : List Nat} {m : List Th} (a : Th) (h1 : Th.flatL m = true) (h2 : SeqAt.shaped (.list (Th.pyL m)) = true) : namesTame [.str k, a, .tup m] = true := by
  show (!decide (k = w_choose) || (Th.flatL m && SeqAt.shaped (.list (Th.pyL m)))) = true
  rw [h1, h2]; simp
theorem kd_nochoose (k : Kd) : k.word ≠ w_choose := by cases k <;> decide
theorem nms_names_tame {ns : List (List Nat)} (h : Nms ns) : (Th.tup (nmsTh ns)).tame = true := by
  refine tame_tup (nms_tame h.2.2) ?_ ?_
  · unfold nmsTh; rw [List.length_map]; have := h.2.1; omega
  · match ns with
    | [] => rfl
    | [a] => rfl
    | [a, b] => rfl
    | [a, b, c] => rfl
    | a :: b :: c :: d :: r => rfl
theorem Rcp.tame : ∀ {r : Rcp}, r.Good → r.th.tame = true
  | .num n, _ => tame_tup (by show (tameS w_number && (true && true)) = true; decide) (Nat.le_of_ble_eq_true rfl) rfl
  | .read s, h => tame_tup (by show (tameS w_read && (tameS s && true)) = true; rw [Nm.tame h]; decide) (Nat.le_of_ble_eq_true rfl) rfl
  | .two k a b, h => by
    refine tame_tup ?_ (Nat.le_of_ble_eq_true rfl) (namesTame3 (kd_nochoose k) _ _)
    show (tameS k.word && (a.th.tame && (b.th.tame && true))) = true
    rw [Rcp.tame h.1, Rcp.tame h.2]
    cases k <;> decide
  | .pick a b c, h => by
    refine tame_tup ?_ (Nat.le_of_ble_eq_true rfl) (namesTame4 _ _ _ _ _)
    show (tameS w_pick && (a.th.tame && (b.th.tame && (c.th.tame && true)))) = true
    rw [Rcp.tame h.1, Rcp.tame h.2.1, Rcp.tame h.2.2]
    decide
  | .choose a ns, h => by
    refine tame_tup ?_ (Nat.le_of_ble_eq_true rfl) (namesTameC _ Nms.flat (Nms.shaped h.2.2.2))
    show (tameS w_choose && (a.th.tame && ((Th.tup (nmsTh ns)).tame && true))) = true
    rw [Rcp.tame h.1, nms_names_tame h.2]
    decide
theorem nms_are {ns : List (List Nat)} (h : Nms ns) : (Th.tup (nmsTh ns)).areNms = true := by
  show (decide (1 ≤ (nmsTh ns).length) && decide ((nmsTh ns).length ≤ 9) && (nmsTh ns).all Th.isNm) = true
  have hl : (nmsTh ns).length = ns.length := List.length_map _
  rw [hl, decide_eq_true h.1, decide_eq_true h.2.1]
  show (nmsTh ns).all Th.isNm = true
  rw [List.all_eq_true]
  intro t ht
  obtain ⟨s, hs, rfl⟩ := List.mem_map.mp ht
  exact nmOk_iff.mpr (h.2.2 s hs)
def Rcp.subs : Rcp → List Rcp
  | .num _ => []
  | .read _ => []
  | .two _ a b => [a, b]
  | .pick a b c => [a, b, c]
  | .choose a _ => [a]
theorem Rcp.parts_th : ∀ {r : Rcp}, r.Good → r.th.parts = some (r.subs.map Rcp.th)
  | .num n, _ => (num_parts _ rfl _).1 rfl
  | .read s, h => (read_parts _ (by decide) rfl _).1 (nmOk_iff.mpr h)
  | .two k a b, _ => twos_parts _ (kd_twos k) _ _
  | .pick a b c, _ => pick_parts _ rfl _ _ _
  | .choose a ns, h => (choose_parts _ rfl _ _).1 (nms_are h.2)
theorem Rcp.subs_good : ∀ {r : Rcp}, r.Good → ∀ x ∈ r.subs, x.Good ∧ x.dep + 1 ≤ r.dep
  | .num n, _, x, hx => by cases hx
  | .read s, h, x, hx => by cases hx
  | .two k a b, h, x, hx => by
    have e : (Rcp.two k a b).dep = max a.dep b.dep + 1 := rfl
    simp only [Rcp.subs, List.mem_cons, List.not_mem_nil, or_false] at hx
    rcases hx with rfl | rfl
    · exact ⟨h.1, by omega⟩
    · exact ⟨h.2, by omega⟩
  | .pick a b c, h, x, hx => by
    have e : (Rcp.pick a b c).dep = max a.dep (max b.dep c.dep) + 1 := rfl
    simp only [Rcp.subs, List.mem_cons, List.not_mem_nil, or_false] at hx
    rcases hx with rfl | rfl | rfl
    · exact ⟨h.1, by omega⟩
    · exact ⟨h.2.1, by omega⟩
    · exact ⟨h.2.2, by omega⟩
  | .choose a ns, h, x, hx => by
    have e : (Rcp.choose a ns).dep = a.dep + 1 := rfl
    rw [List.mem_singleton.mp hx]
    exact ⟨h.1, by omega⟩
theorem Rcp.siz_subs : ∀ r : Rcp, r.siz = 1 + (r.subs.map Rcp.siz).sum
  | .num _ => rfl
  | .read _ => rfl
  | .two _ a b => by show a.siz + b.siz + 1 = 1 + (a.siz + (b.siz + 0)); omega
  | .pick a b c => by show a.siz + b.siz + c.siz + 1 = 1 + (a.siz + (b.siz + (c.siz + 0))); omega
  | .choose a _ => by show a.siz + 1 = 1 + (a.siz + 0); omega
theorem Rcp.okay : ∀ (n : Nat) {r : Rcp}, r.Good → r.dep ≤ n → r.th.okay n = true ∧ r.th.count n = r.siz
  | 0, r, _, h => by have := dep_pos r; omega
  | n + 1, r, hg, h => by
    have hp := r.parts_th hg
    have hs := r.subs_good hg
    refine ⟨?_, ?_⟩
    · show (match r.th.parts with | none => false | some ps => ps.all (Th.okay n)) = true
      rw [hp]
      show (r.subs.map Rcp.th).all (Th.okay n) = true
      rw [List.all_map, List.all_eq_true]
      intro x hx
      exact (Rcp.okay n (hs x hx).1 (by have := (hs x hx).2; omega)).1
    · show (match r.th.parts with | none => 1 | some ps => 1 + (ps.map (Th.count n)).sum) = r.siz
      rw [hp, Rcp.siz_subs r]
      show 1 + ((r.subs.map Rcp.th).map (Th.count n)).sum = _
      rw [List.map_map]
      congr 2
      exact List.map_congr_left fun x hx => (Rcp.okay n (hs x hx).1 (by have := (hs x hx).2; omega)).2
theorem Rcp.isRcp {r : Rcp} (hg : r.Good) (hd : r.dep ≤ 8) (hs : r.siz ≤ 100) : r.th.isRcp = true := by
  unfold Th.isRcp
  rw [(Rcp.okay 8 hg hd).1, (Rcp.okay 8 hg hd).2, decide_eq_true hs]
  rfl
end Mad
/-! ### sorted of texts, any number of them: over the library's sort by any order -/
namespace MadSort
open PySem PyProof.Rows Srt SrtO
section
variable {prog : Program} {w : World} {A : Around} {s : Shared}
def tx : Value → List Nat
  | .str x _ => x.cps.toList
  | _ => []
def ltT (v u : Value) : Bool := decide (tx v < tx u)
theorem swoT : Swo ltT := by
  refine ⟨fun x y h => ?_, fun x y z h1 h2 => ?_⟩
  · have a : tx x < tx y := of_decide_eq_true h
    exact decide_eq_false (List.lt_asymm a)
  · have a : ¬ tx y < tx x := of_decide_eq_false h1
    have b : ¬ tx z < tx y := of_decide_eq_false h2
    exact decide_eq_false (List.not_lt.mpr (List.le_trans (List.not_lt.mp a) (List.not_lt.mp b)))
theorem memT : ∀ {vs : List Value} {ss : List Str}, StrsAre vs ss → ∀ v ∈ vs, ∃ x t, v = Value.str x t
  | _, _, .nil, v, h => by cases h
  | _, _, .cons y t r, v, h => by
    rcases List.mem_cons.mp h with e | e
    · exact ⟨y, t, e⟩
    · exact memT r v e
def ofTx (v : Value) : Str := ⟨(tx v).toArray⟩
theorem areT : ∀ {vs : List Value}, (∀ v ∈ vs, ∃ x t, v = Value.str x t) → StrsAre vs (vs.map ofTx)
  | [], _ => .nil
  | v :: vs, h => by
    obtain ⟨x, t, e⟩ := h v (List.mem_cons_self ..)
    subst e
    have ih := areT fun u hu => h u (List.mem_cons_of_mem _ hu)
    have ex : ofTx (Value.str x t) = x := by
      show (⟨x.cps.toList.toArray⟩ : Str) = x
      cases x; simp
    rw [List.map_cons, ex]
    exact .cons x t ih
theorem backT : ∀ {vs : List Value} {ss : List Str}, StrsAre vs ss → vs.map ofTx = ss
  | _, _, .nil => rfl
  | _, _, .cons y t r => by
    have ex : ofTx (Value.str y t) = y := by
      show (⟨y.cps.toList.toArray⟩ : Str) = y
      cases y; simp
    rw [List.map_cons, ex, backT r]
theorem sortableT {a : Addr} {vs : List Value} {ss : List Str} (hS : StrsAre vs ss) (h2 : 2 ≤ vs.length) : SortableO prog w A s a vs ltT := by
  intro h' _
  refine ⟨oneType', fun Q E hq => ?_, fun p q hp hq => ?_⟩
  · cases vs with
    | nil => simp at h2
    | cons v1 r =>
      cases r with
      | nil => simp at h2
      | cons v2 r =>
        rw [keyKind_strs hS]
        exact wpAny_pure hq
  · obtain ⟨x, t, e⟩ := memT hS _ hp
    obtain ⟨y, u, e'⟩ := memT hS _ hq
    show wpAny (model prog w) A (keyLt' oneType' p.1 q.1) (fun r s' => s' = _ ∧ r = ltT p.1 q.1) (fun _ _ => False) _
    rw [e, e', keyLt'_oneType]
    exact oneLt_str ⟨rfl, rfl⟩
theorem outT {vs out : List Value} {ss : List Str} (hS : StrsAre vs ss) (h1 : Srtd ltT out) (h2 : Stb ltT out vs) : StrsAre out (out.map ofTx) ∧ (out.map ofTx).Perm ss ∧ (out.map ofTx).Pairwise (fun x y => ¬ y.cps.toList < x.cps.toList) := by
  refine ⟨areT fun v hv => memT hS v (h2.perm.mem_iff.mp hv), ?_, ?_⟩
  · have z := h2.perm.map ofTx
    rwa [backT hS] at z
  · refine List.pairwise_map.mpr (h1.imp fun {x y} h => ?_)
    have z : ¬ tx y < tx x := of_decide_eq_false h
    show ¬ ((tx y).toArray.toList < (tx x).toArray.toList)
    simpa using z
end
end MadSort
namespace Mad
open PySem PySem.Spec PyProof.Rows L2
/-- texts in order -/
def Rising (ys : List (List Nat)) : Prop := ys.Pairwise fun x y => ¬ y < x
def rSortT (K : PySem.W.Frag) : List V → Hp → VK → Prop := fun vs H Q => ∃ (a : Addr) (ns : List (List Nat)), vs = [V.ref a] ∧ SqL K H a (txs ns) ∧
  ∀ (ys : List (List Nat)) (p : Addr), ys.Perm ns → Rising ys → H p = none → Q (.ref p) (upd H p (.lst (txs ys)))
/-- a dict of names -/
def nmKeys (kvs : List (Key × V)) (ns : List (List Nat)) : Prop := kvs.map (·.1) = ns.map fun s => Sum.inr (SX.S s)
def rSortTD (_ : PySem.W.Frag) : List V → Hp → VK → Prop := fun vs H Q => ∃ (a : Addr) (kvs : List (Key × V)) (ns : List (List Nat)), vs = [V.ref a] ∧ H a = some (.dK kvs) ∧ nmKeys kvs ns ∧
  ∀ (ys : List (List Nat)) (p : Addr), ys.Perm ns → Rising ys → H p = none → Q (.ref p) (upd H p (.lst (txs ys)))
theorem strs_back {ys : List Str} {ns : List (List Nat)} (hp : ys.Perm (ns.map SX.S)) (hs : ys.Pairwise fun x y => ¬ y.cps.toList < x.cps.toList) : ∃ zs : List (List Nat), ys = zs.map SX.S ∧ zs.Perm ns ∧ Rising zs := by
  refine ⟨ys.map (fun y => y.cps.toList), ?_, ?_, ?_⟩
  · rw [List.map_map]
    have : (SX.S ∘ fun y : Str => y.cps.toList) = id := by funext y; exact SX.S_tl y
    rw [this, List.map_id]
  · have z := hp.map (fun y : Str => y.cps.toList)
    rw [List.map_map] at z
    have : ((fun y : Str => y.cps.toList) ∘ SX.S) = id := by funext s; rfl
    rwa [this, List.map_id] at z
  · exact List.pairwise_map.mpr hs
section
variable {X : Cx}
theorem cr_sortT : CallR X (.builtin "sorted") (rSortT X.K) := by
  intro pins s σ H vs us Q I r h
  obtain ⟨a, ns, rfl, hs, q⟩ := h
  obtain ⟨its, rv, hl, hz⟩ := I.list hs
  rw [Vals.ref1 r]
  have hi := Vals.strs (xs := ns.map SX.S) rv
  have hlen0 := rv.length
  refine SrtO.sorted_ord MadSort.swoT hl.isList (by rw [← rv.length]; exact hz) (fun h2 h₁ a' _ _ => MadSort.sortableT hi h2) fun out h1 h2 => ?_
  obtain ⟨k1, k2, k3⟩ := MadSort.outT hi h1 h2
  obtain ⟨ep, he'⟩ := PyProof.Rows.sortedAll_at s.heap its out.toArray
  obtain ⟨zs, ez, zp, zr⟩ := strs_back k2 k3
  rw [ez] at k1
  have hlen : (txs zs).length ≤ sizeLine := by
    rw [txs_len, zp.length_eq]
    rw [txs_len] at hz
    exact hz
  exact ⟨.ref _, upd H (s.heap.objs.size + 1) (.lst (txs zs)), I.laid (t' := s.toks) (fun _ _ => PyProof.Rows.sortedAll_old) (Nat.le_succ _) ⟨hlen, out, ep, vals_of_strs k1, he'⟩, rfl, q zs _ zp zr (I.hok.fresh (Nat.le_succ _))⟩
theorem cr_sortTD (hcalm : X.calm = true) : CallR X (.builtin "sorted") (rSortTD X.K) := by
  intro pins s σ H xs us Q I r h
  obtain ⟨a, kvs, ns, ex, hd0, hk0, q⟩ := h
  subst ex
  obtain ⟨u, eu, rx⟩ := vals1 r
  subst eu
  cases rx
  have hd : Rd H a (.dK kvs) := .inl hd0
  obtain ⟨z, lo, vs, rel, dd⟩ := dk_rd I.hok hd
  obtain ⟨ep, hat⟩ := dd.dictAt
  have hkeys : vs.map (·.1) = (ns.map SX.S).map Sum.inr := by
    rw [rel.keys.symm, hk0, List.map_map]
    rfl
  have hl : vs.length = ns.length := by
    have e := congrArg List.length hkeys
    simpa using e
  have hkl : kvs.length = ns.length := by
    have e := congrArg List.length hk0
    simpa using e
  have h16 : vs.length ≤ sizeLine := by rw [hl, ← hkl]; exact z
  refine Calls.call_function_entry PyProof.Rows.kind_sorted PyProof.Rows.plain_sorted PyProof.Rows.entry_sorted (PyProof.Rows.args_sorted1 _) ?_
  unfold Builtin.«sorted»
  refine wpAny_bind (m := checkCount "sorted" 1 1 _) (wpAny_pure ?_)
  refine wpAny_bind ?_
  refine PySem.W.kdu_collect (A := X.A.in1) (PySem.W.kdl_dict (knd := mixKind X.prog X.w) (kvs := vs) (ep := ep) lo) (I.ok.hd hcalm) hat h16 fun h' tk acc hk hacc => ?_
  have hal : acc.toList.length = (ns.map SX.S).length := by
    rw [Array.length_toList, hacc.1, hl, List.length_map]
  have hS : StrsAre acc.toList (ns.map SX.S) := by
    refine strs_at hal fun j v e => ?_
    obtain ⟨k, x, e1, e2⟩ := hacc.2 j v (by rw [← Array.getElem?_toList]; exact e)
    have e3 : (vs.map (·.1))[j]? = some k := by
      rw [List.getElem?_map, e1]
      rfl
    rw [hkeys, List.getElem?_map] at e3
    cases e4 : (ns.map SX.S)[j]? with
    | none => rw [e4] at e3; cases e3
    | some y =>
      rw [e4] at e3
      have e5 : Sum.inr y = k := Option.some.inj e3
      subst e5
      obtain ⟨t, ev⟩ := Value.isStrOf_shape (x := y) (v := v) e2
      exact ⟨y, t, rfl, ev⟩
  have I1 : Inv X pins σ H { s with heap := h', toks := tk } := I.kept hk
  have hz2 : acc.toList.length ≤ sizeLine := by rw [hal, List.length_map, ← hkl]; exact z
  refine wpAny_bind (wpAny_newList ?_ hz2)
  have hoL : (h'.push (seqObj "list" acc.toList.toArray 0)).get? h'.objs.size = some (seqObj "list" acc.toList.toArray 0) := Heap.get?_push_size _ rfl
  show wpAny _ _ _ _ _ { s with heap := h'.push (seqObj "list" acc.toList.toArray 0), toks := tk }
  refine wpAny_bind (wpAny_holding (wpAny_call_entry PyProof.Rows.slot_list_sort ⟨_, hoL, rfl⟩ PyProof.Rows.entry_list_sort ?_ (PyProof.Rows.args_list_sort _)))
  refine SrtO.list_sort_ord MadSort.swoT hoL hz2 (fun h2 => MadSort.sortableT hS h2) fun out h1 h2 => ⟨_, rfl, ?_⟩
  obtain ⟨k1, k2, k3⟩ := MadSort.outT hS h1 h2
  obtain ⟨zs, ez, zp, zr⟩ := strs_back k2 k3
  rw [ez] at k1
  obtain ⟨e', he'⟩ := PyProof.Rows.sortedHeap_at (vs := acc.toList) (out := out.toArray) hoL
  have hlen : (txs zs).length ≤ sizeLine := by
    rw [txs_len, zp.length_eq, ← hkl]
    exact z
  refine wpAny_pure ⟨_, rfl, .ref h'.objs.size, upd H h'.objs.size (.lst (txs zs)), I1.laid (t' := tk) (fun b u e => ?_) (Nat.le_refl _) ?_, rfl, q zs _ zp zr (I1.hok.fresh (Nat.le_refl _))⟩
  · have hb : b < h'.objs.size := Heap.lt_size e
    rw [PyProof.Rows.sortedHeap_old (Nat.ne_of_lt hb) (by rw [size_push']; exact Nat.lt_succ_of_lt hb)]
    exact Heap.get?_push_of_some _ e
  · exact ⟨hlen, out, e', vals_of_strs k1, he'⟩
end
/-- xs.extend(t), t a tuple -/
def rExtendT : V → List V → Hp → VK → Prop := fun x vs H Q => ∃ l b xs zs, x = .ref l ∧ vs = [.ref b] ∧ H l = some (.lst xs) ∧ H b = some (.tup zs) ∧ xs.length + zs.length ≤ sizeLine ∧ Q .non (upd H l (.lst (xs ++ zs)))
theorem list_extend_by_tuple (l : Addr) (items : Array Value) (n : Nat) (b : Addr) (items2 : Array Value) (n2 : Nat) (dd : Option Addr) (sl : Array (Option Value))
    (hs0 : ¬(!items.isEmpty && Builtin.List.listTooLong (items.size + items2.size)) = true)
    (hs1 : items.size ≤ sizeLine)
    (hs2 : items.size + items2.size ≤ sizeLine + 1) :
    Meets (Builtin.«list.extend» ⟨[.ref l, .ref b], []⟩) (fun _ R s =>
      s.heap.get? l = some { cls := .type "list", dict := none, data := .seq items n, slots := #[] } ∧
      s.heap.get? b = some { cls := .type "tuple", dict := dd, data := .seq items2 n2, slots := sl } ∧
      R (.ok (.ret Value.none)) { s with heap := s.heap.update l (Obj.mapSeq fun x => x ++ items2), toks := s.toks }) :=
  .of_wp fun prog w A R s h => by
    obtain ⟨hp, g, d, tk, os⟩ := s
    obtain ⟨hl, hb, h⟩ := h
    have f1 := AutoSeq1.idx_int
    have f2 := AutoSeq1.sub_tuple_tuple
    have f3 := AutoSeq1.sub_list_list
    have f4 := AutoSeq1.sub_tuple_list
    have f5 := AutoSeq1.sub_list_tuple
    have hz' : (items ++ items2).size ≤ sizeLine + 1 := by rw [Array.size_append]; exact hs2
    wp_walk using (wpAny_updateSeq hl rfl (hz := hs1) (_hz' := hz')), wpAny_loadPart' hl, wpAny_loadPart' hb
    exact ⟨_, rfl, h⟩
section
variable {X : Cx}
theorem mt_extendT : MtM X "list.extend" rExtendT := by
  intro pins s σ H x vs v us Q I rx rv h
  obtain ⟨l, b, xs, zs, rfl, rfl, hH, hB, hz, q⟩ := h
  cases rx
  obtain ⟨u, rfl, ru⟩ := rv.one
  cases ru
  obtain ⟨z, its, n, r, hl, e⟩ := I.lstM hH
  obtain ⟨its2, r2, ⟨⟨cls, dd, data, sl⟩, ho, hc, n2, hd⟩, hs2⟩ := I.tuple (SqT.of (K := X.K) hB)
  simp only at hc hd
  subst hc hd
  have hl2 : its2.length = zs.length := r2.length.symm
  have hsz : its.toArray.size + its2.toArray.size ≤ sizeLine := by rw [List.size_toArray, List.size_toArray]; omega
  have hlong : ¬ (!its.toArray.isEmpty && Builtin.List.listTooLong (its.toArray.size + its2.toArray.size)) = true := by
    rw [notLongL hsz, Bool.and_false]; exact Bool.false_ne_true
  refine call_meets F.slot_list_extend ⟨_, e, rfl⟩ F.entry_list_extend (F.args_list_extend_2 _ _)
    (list_extend_by_tuple l its.toArray n b its2.toArray n2 dd sl hlong (by rw [List.size_toArray]; omega) (by omega)) ⟨e, ho, ?_⟩
  refine ⟨.non, _, I.lset (its' := its ++ its2) hH e (by simp) (r.append r2) ?_, rfl, q⟩
  rw [List.length_append]; omega
end
/-! ### the names of a recipe -/
def Rcp.all : Rcp → List (List Nat)
  | .num _ => []
  | .read s => [s]
  | .two _ a b => a.all ++ b.all
  | .pick a b c => a.all ++ (b.all ++ c.all)
  | .choose a ns => a.all ++ ns
/-- those of its own -/
def Rcp.own : Rcp → List (List Nat)
  | .read s => [s]
  | .choose _ ns => ns
  | _ => []
theorem all_good : ∀ {r : Rcp}, r.Good → ∀ s ∈ r.all, Nm s
  | .num _, _, s, h => by cases h
  | .read _, hg, s, h => by rw [List.mem_singleton.mp h]; exact hg
  | .two _ a b, hg, s, h => by
    rcases List.mem_append.mp h with h | h
    · exact all_good hg.1 s h
    · exact all_good hg.2 s h
  | .pick a b c, hg, s, h => by
    rcases List.mem_append.mp h with h | h
    · exact all_good hg.1 s h
    rcases List.mem_append.mp h with h | h
    · exact all_good hg.2.1 s h
    · exact all_good hg.2.2 s h
  | .choose a ns, hg, s, h => by
    rcases List.mem_append.mp h with h | h
    · exact all_good hg.1 s h
    · exact hg.2.2.2 s h
theorem all_len : ∀ {r : Rcp}, r.Good → r.all.length ≤ 9 * r.siz
  | .num _, _ => Nat.zero_le _
  | .read _, _ => (by decide : 1 ≤ 9 * 1)
  | .two _ a b, hg => by
    have h1 := all_len hg.1
    have h2 := all_len hg.2
    show (a.all ++ b.all).length ≤ 9 * (a.siz + b.siz + 1)
    rw [List.length_append]; omega
  | .pick a b c, hg => by
    have h1 := all_len hg.1
    have h2 := all_len hg.2.1
    have h3 := all_len hg.2.2
    show (a.all ++ (b.all ++ c.all)).length ≤ 9 * (a.siz + b.siz + c.siz + 1)
    rw [List.length_append, List.length_append]; omega
  | .choose a ns, hg => by
    have h1 := all_len hg.1
    have h2 := hg.2.2.1
    show (a.all ++ ns).length ≤ 9 * (a.siz + 1)
    rw [List.length_append]; omega
theorem own_len {r : Rcp} (hg : r.Good) : r.own.length ≤ 9 := by
  cases r with
  | choose a ns => exact hg.2.2.1
  | read s => exact (by decide : 1 ≤ 9)
  | _ => exact Nat.zero_le _
theorem own_good {r : Rcp} (hg : r.Good) : ∀ s ∈ r.own, Nm s := by
  cases r with
  | choose a ns => exact hg.2.2.2
  | read s => intro z hz; rw [List.mem_singleton.mp hz]; exact hg
  | _ => intro z hz; cases hz
theorem mem_all (r : Rcp) (s : List Nat) : s ∈ r.all ↔ s ∈ r.own ∨ ∃ x ∈ r.subs, s ∈ x.all := by
  cases r with
  | num n => simp [Rcp.all, Rcp.own, Rcp.subs]
  | read z => simp [Rcp.all, Rcp.own, Rcp.subs]
  | two k a b => simp [Rcp.all, Rcp.own, Rcp.subs]
  | pick a b c => simp [Rcp.all, Rcp.own, Rcp.subs]
  | choose a ns => simp [Rcp.all, Rcp.own, Rcp.subs]; exact Or.comm
/-- texts, each behind the one before -/
def SI (ys : List (List Nat)) : Prop := ys.Pairwise fun x y => x < y
theorem lt_tri {x y : List Nat} (h1 : ¬ x < y) (h2 : ¬ y < x) : x = y := List.le_antisymm (List.not_lt.mp h2) (List.not_lt.mp h1)
theorem si_of : ∀ {ys : List (List Nat)}, Rising ys → ys.Nodup → SI ys
  | [], _, _ => List.Pairwise.nil
  | y :: ys, h, n => by
    obtain ⟨h1, h2⟩ := List.pairwise_cons.mp h
    obtain ⟨n1, n2⟩ := List.nodup_cons.mp n
    refine List.pairwise_cons.mpr ⟨fun z hz => Decidable.byContradiction fun q => ?_, si_of h2 n2⟩
    have := lt_tri q (h1 z hz)
    rw [this] at n1
    exact n1 hz
theorem si_ext : ∀ {xs ys : List (List Nat)}, SI xs → SI ys → (∀ s, s ∈ xs ↔ s ∈ ys) → xs = ys
  | [], [], _, _, _ => rfl
  | [], y :: ys, _, _, h => by have := (h y).mpr (List.mem_cons_self ..); cases this
  | x :: xs, [], _, _, h => by have := (h x).mp (List.mem_cons_self ..); cases this
  | x :: xs, y :: ys, hx, hy, h => by
    obtain ⟨x1, x2⟩ := List.pairwise_cons.mp hx
    obtain ⟨y1, y2⟩ := List.pairwise_cons.mp hy
    have e : x = y := by
      rcases List.mem_cons.mp ((h x).mp (List.mem_cons_self ..)) with e | m
      · exact e
      rcases List.mem_cons.mp ((h y).mpr (List.mem_cons_self ..)) with e | m'
      · exact e.symm
      exact absurd (x1 y m') (List.lt_asymm (y1 x m))
    subst e
    have t : xs = ys := si_ext x2 y2 fun s => by
      constructor
      · intro m
        rcases List.mem_cons.mp ((h s).mp (List.mem_cons_of_mem _ m)) with e | m'
        · rw [e] at m
          exact absurd (x1 x m) (List.lt_irrefl x)
        · exact m'
      · intro m
        rcases List.mem_cons.mp ((h s).mpr (List.mem_cons_of_mem _ m)) with e | m'
        · rw [e] at m
          exact absurd (y1 x m) (List.lt_irrefl x)
        · exact m'
    rw [t]
theorem si_snoc {d0 : List (List Nat)} {s z : List Nat} (h : SI (d0 ++ [s])) (h2 : s < z) : SI (d0 ++ [s] ++ [z]) := by
  refine List.pairwise_append.mpr ⟨h, List.pairwise_singleton _ _, fun a ha b hb => ?_⟩
  rw [List.mem_singleton.mp hb]
  rcases List.mem_append.mp ha with m | m
  · exact List.lt_trans ((List.pairwise_append.mp h).2.2 a m s (List.mem_singleton.mpr rfl)) h2
  · rw [List.mem_singleton.mp m]; exact h2
/-- the keys of a dict of names -/
def keyN (s : List Nat) : Key := Sum.inr (SX.S s)
theorem keyN_inj {a b : List Nat} (h : keyN a = keyN b) : a = b := by
  have e : SX.S a = SX.S b := Sum.inr.inj h
  have := congrArg (fun y : Str => y.cps.toList) e
  exact this
theorem keyN_ne {a b : List Nat} (h : a ≠ b) : ¬ keyN a = keyN b := fun e => h (keyN_inj e)
/-- the dict of the names ns, each once -/
def NDict (kvs : List (Key × V)) (ns : List (List Nat)) : Prop := nmKeys kvs ns ∧ ns.Nodup
theorem nd_any {kvs : List (Key × V)} {ns : List (List Nat)} (h : nmKeys kvs ns) (s : List Nat) : (kvs.any fun kv => decide (kv.1 = keyN s)) = decide (s ∈ ns) := by
  have e : (kvs.any fun kv => decide (kv.1 = keyN s)) = (kvs.map (·.1)).any fun k => decide (k = keyN s) := by rw [List.any_map]; rfl
  rw [e, h, List.any_map]
  clear e h
  induction ns with
  | nil => rfl
  | cons a r ih =>
    rw [List.any_cons, ih]
    by_cases z : a = s
    · subst z
      simp
      exact .inl rfl
    · have : decide (s ∈ a :: r) = decide (s ∈ r) := by
        simp only [List.mem_cons]
        congr 1
        exact propext ⟨fun q => q.resolve_left fun w => z w.symm, .inr⟩
      rw [this]
      have : ((fun k => decide (k = keyN s)) ∘ fun s => Sum.inr (SX.S s)) a = false := decide_eq_false (keyN_ne z)
      rw [this, Bool.false_or]
theorem NDict.put {kvs : List (Key × V)} {ns : List (List Nat)} (h : NDict kvs ns) (s : List Nat) (v : V) : ∃ ns', NDict (putK kvs (keyN s) v) ns' ∧ (∀ x, x ∈ ns' ↔ x ∈ ns ∨ x = s) ∧ ns'.length ≤ ns.length + 1 := by
  obtain ⟨hk, hn⟩ := h
  by_cases m : s ∈ ns
  · refine ⟨ns, ⟨?_, hn⟩, fun x => ⟨.inl, fun q => q.elim id fun e => e ▸ m⟩, Nat.le_succ _⟩
    unfold putK nmKeys
    rw [if_pos (by rw [nd_any hk]; exact decide_eq_true m), List.map_map, ← hk]
    refine List.map_congr_left fun p _ => ?_
    show (if p.1 = keyN s then (p.1, v) else p).1 = p.1
    by_cases e : p.1 = keyN s
    · rw [if_pos e]
    · rw [if_neg e]
  · refine ⟨ns ++ [s], ⟨?_, ?_⟩, fun x => by rw [List.mem_append, List.mem_singleton], by rw [List.length_append]; exact Nat.le_refl _⟩
    · unfold putK nmKeys
      rw [if_neg (by rw [nd_any hk, decide_eq_false m]; exact Bool.false_ne_true), List.map_append, hk, List.map_append]
      rfl
    · exact nd_snoc hn m
theorem SI.nodup {ys : List (List Nat)} (h : SI ys) : ys.Nodup := List.Pairwise.imp (fun {a b} q (e : a = b) => by rw [e] at q; exact List.lt_irrefl b q) h
def spAll (k : Nat) : Sp := fun vs H Q _ => ∃ (v : V) (r : Rcp), vs = [v] ∧ Rec H r v ∧ r.Good ∧ r.dep ≤ k ∧ r.siz ≤ 1000 ∧ ∀ (H' : Hp) (p : Addr), Same H H' → H' p = some (.lst (txs r.all)) → Q (.ref p) H'
def spNamesIn : Sp := fun vs H Q _ => ∃ (v : V) (r : Rcp), vs = [v] ∧ Rec H r v ∧ r.Good ∧ r.siz ≤ 1000 ∧ ∀ (H' : Hp) (p : Addr) (ys : List (List Nat)), Same H H' → H p = none → H' p = some (.lst (txs ys)) → SI ys → (∀ s, s ∈ ys ↔ s ∈ r.all) → ys.length ≤ 9000 → Q (.ref p) H'
theorem kn_w {k : Kd} {s : List Nat} {lit : Str} (e : lit = SX.S s) (h : ¬ s ∈ twos) : ¬ V.str k.name = V.str lit := fun z => by
  rw [kd_word] at z
  have := (kw e).mp z
  exact h (this ▸ kd_twos k)
/-- the name of a recipe's kind -/
def Rcp.word : Rcp → List Nat
  | .num _ => w_number
  | .read _ => w_read
  | .two k _ _ => k.word
  | .pick _ _ _ => w_pick
  | .choose _ _ => w_choose
theorem txs_back {H : Hp} : ∀ {ns : List (List Nat)} {xs : List V}, DataL H (nmsTh ns) xs → xs = txs ns
  | [], _, h => h
  | s :: ns, _, ⟨x, ys, e, h1, h2⟩ => by
    subst e
    have e1 : x = V.str (SX.S s) := h1
    rw [e1, txs_back h2]
    rfl
theorem dth_open {H : Hp} {r : Rcp} {v : V} (h : Data H r.th v) : ∃ p xs, v = .ref p ∧ H p = some (.tup (.str (SX.S r.word) :: xs)) ∧ (∀ s, r = .read s → xs = [.str (SX.S s)]) ∧
    (∀ a ns, r = .choose a ns → ∃ x q, xs = [x, .ref q] ∧ H q = some (.tup (txs ns))) := by
  cases r with
  | num n =>
    obtain ⟨p, xs, e, h, x, ys, rfl, h1, _⟩ := h
    exact ⟨p, ys, e, by rw [h, show x = _ from h1]; rfl, fun _ z => (by cases z), fun _ _ z => (by cases z)⟩
  | read s =>
    obtain ⟨p, xs, e, h, x, ys, rfl, h1, y, zs, rfl, h2, h3⟩ := h
    refine ⟨p, _, e, by rw [h, show x = _ from h1]; rfl, fun _ z => ?_, fun _ _ z => (by cases z)⟩
    cases z
    rw [show y = _ from h2, show zs = [] from h3]
  | two k a b =>
    obtain ⟨p, xs, e, h, x, ys, rfl, h1, _⟩ := h
    exact ⟨p, ys, e, by rw [h, show x = _ from h1]; rfl, fun _ z => (by cases z), fun _ _ z => (by cases z)⟩
  | pick a b c =>
    obtain ⟨p, xs, e, h, x, ys, rfl, h1, _⟩ := h
    exact ⟨p, ys, e, by rw [h, show x = _ from h1]; rfl, fun _ z => (by cases z), fun _ _ z => (by cases z)⟩
  | choose a ns =>
    obtain ⟨p, xs, e, h, x, ys, rfl, h1, y, zs, rfl, h2, u, us, rfl, ⟨q, qs, rfl, hq, hqs⟩, h4⟩ := h
    refine ⟨p, _, e, by rw [h, show x = _ from h1]; rfl, fun _ z => (by cases z), fun a' ns' z => ?_⟩
    cases z
    exact ⟨y, q, by rw [show us = [] from h4], by rw [hq, txs_back hqs]⟩
theorem word_read (r : Rcp) : V.str (SX.S r.word) = V.str "read" ↔ ∃ s, r = .read s := by
  rw [kw q_read]
  cases r with
  | read s => exact ⟨fun _ => ⟨s, rfl⟩, fun _ => rfl⟩
  | two k a b => exact ⟨fun z => absurd (show k.word = w_read from z) (by cases k <;> decide), fun ⟨_, z⟩ => by cases z⟩
  | num n => exact ⟨fun z => absurd (show w_number = w_read from z) (by decide), fun ⟨_, z⟩ => by cases z⟩
  | pick a b c => exact ⟨fun z => absurd (show w_pick = w_read from z) (by decide), fun ⟨_, z⟩ => by cases z⟩
  | choose a ns => exact ⟨fun z => absurd (show w_choose = w_read from z) (by decide), fun ⟨_, z⟩ => by cases z⟩
theorem word_choose (r : Rcp) : V.str (SX.S r.word) = V.str "choose" ↔ ∃ a ns, r = .choose a ns := by
  rw [kw q_choose]
  cases r with
  | choose a ns => exact ⟨fun _ => ⟨a, ns, rfl⟩, fun _ => rfl⟩
  | two k a b => exact ⟨fun z => absurd (show k.word = w_choose from z) (by cases k <;> decide), fun ⟨_, _, z⟩ => by cases z⟩
  | num n => exact ⟨fun z => absurd (show w_number = w_choose from z) (by decide), fun ⟨_, _, z⟩ => by cases z⟩
  | pick a b c => exact ⟨fun z => absurd (show w_pick = w_choose from z) (by decide), fun ⟨_, _, z⟩ => by cases z⟩
  | read s => exact ⟨fun z => absurd (show w_read = w_choose from z) (by decide), fun ⟨_, _, z⟩ => by cases z⟩
theorem DataL.join {H : Hp} : ∀ {l m : List Th} {xs ys : List V}, DataL H l xs → DataL H m ys → DataL H (l ++ m) (xs ++ ys)
  | [], _, _, _, e, k => by rw [show _ = [] from e]; exact k
  | _ :: _, _, _, _, ⟨x, r, e, h1, h2⟩, k => by
    subst e
    exact ⟨x, _, rfl, h1, DataL.join h2 k⟩
theorem siz_ge : ∀ rs : List Rcp, rs.length ≤ (rs.map Rcp.siz).sum
  | [] => Nat.le_refl _
  | r :: rs => by
    have h1 := siz_pos r
    have h2 := siz_ge rs
    show rs.length + 1 ≤ r.siz + (rs.map Rcp.siz).sum
    omega
theorem flat_subs (r : Rcp) (h1 : r.own = []) : (r.subs.map Rcp.all).flatten = r.all ∨ r.subs = [] := by
  cases r with
  | num n => exact .inr rfl
  | read s => exact .inr rfl
  | two k a b => exact .inl (by show a.all ++ (b.all ++ []) = a.all ++ b.all; rw [List.append_nil])
  | pick a b c => exact .inl (by show a.all ++ (b.all ++ (c.all ++ [])) = a.all ++ (b.all ++ c.all); rw [List.append_nil])
  | choose a ns =>
    left
    have : ns = [] := h1
    subst this
    show a.all ++ [] = a.all ++ []
    rfl
theorem subs_len (r : Rcp) : r.subs.length ≤ 3 := by
  cases r with
  | num n => exact (by decide : 0 ≤ 3)
  | read s => exact (by decide : 0 ≤ 3)
  | two k a b => exact (by decide : 2 ≤ 3)
  | pick a b c => exact (by decide : 3 ≤ 3)
  | choose a ns => exact (by decide : 1 ≤ 3)
section
variable {P : Program} {w : World} {K : PySem.W.Frag} {mg : Str → Option Value} {base : Heap}
abbrev s_names_in : Stmt := topS 13
abbrev N_names_in : List Str := ["r", "found", "row", "at", "one", "name"]
theorem sc_names_in : FnScope N_names_in ["r"] (defScope s_names_in) := ⟨rfl, rfl, rfl, by decide +kernel, rfl, by decide +kernel, by decide +kernel⟩

theorem ok_names_in (T : Txt K mg) (D0 : IsDef K mg "names_in" s_names_in ["r"]) (C_within : Cal P w K mg base CX0 3 "within" ["thing"] (spWithin K)) : Cal P w K mg base CX0 4 "names_in" ["r"] spNamesIn := by
  refine D0.cal sc_names_in (fun vs H Q E h => ?_) (fun f cdv A outer s H vs Q E hr h => ?_)
  · obtain ⟨v, r, rfl, _⟩ := h
    rfl
  obtain ⟨v, r, rfl, hR, hG, hz, q⟩ := h
  have hu := Nat.lt_of_le_of_lt (Nat.add_le_add_left (by decide : 1 ≤ 64) _) hr.units
  refine ⟨_, (pss_cons (ps_set (i := 1) sc_names_in.nd rfl (Or.inl rfl) pe_dnewK)
      (pss_cons (ps_set (i := 2) sc_names_in.nd rfl (Or.inl rfl) (pe_lst (pa_cons (pv 0) pa_nil)))
      (pss_cons (ps_set (i := 3) sc_names_in.nd rfl (Or.inl rfl) pe_int)
      (pss_cons (ps_while PassesOwn.never (pt_cmpR op_lt (pv 3) (pe_callB call_len_seq (by rfl) T.b_len PySem.boot_len (pa_cons (pv 2) pa_nil)) (nomark _))
        (pss_cons (ps_set (i := 4) sc_names_in.nd rfl (Or.inl rfl) (pe_ix (r := rIxL K) ix_list (pv 2) (pv 3) (fun _ _ => rfl)))
      (pss_cons (ps_if (pt_cmpR op_eq (pe_ix (r := rIxT K) ix_tup (pv 4) pe_int (fun _ _ => rfl)) pe_str (nomark _))
        (pss_one (ps_dput hu (pv 1) (pe_ix (r := rIxT K) ix_tup (pv 4) pe_int (fun _ _ => rfl)) pe_bl rfl))
        pss_nil)
      (pss_cons (ps_if (pt_cmpR op_eq (pe_ix (r := rIxT K) ix_tup (pv 4) pe_int (fun _ _ => rfl)) pe_str (nomark _))
        (pss_one (ps_for PassesOwn.never rfl (pi_tup (pe_ix (r := rIxT K) ix_tup (pv 4) pe_int (fun _ _ => rfl))) (pg_name (i := 5) sc_names_in.nd rfl (Or.inl rfl))
        (pss_one (ps_dput hu (pv 1) (pv 5) pe_bl rfl))))
        pss_nil)
      (pss_cons (ps_expr (pe_bm PySem.F.plainAttrs_list PySem.F.slot_list_extend PySem.F.type_list_extend mt_extendT (pv 2) (pa_cons (pe_cal C_within (hr.mono (by first | decide | omega)) pass0 (pa_cons (pv 4) pa_nil)) pa_nil)))
      (pss_one (ps_aug (i := 3) sc_names_in.nd rfl (Or.inl rfl) pe_int ip_add)))))))
      (pss_one (ps_ret (pe_callB (cr_sortTD rfl) (by rfl) T.b_sorted (by decide +kernel) (pa_cons (pv 1) pa_nil)))))))), ?_⟩
  refine fun D nD => ⟨_, rfl, le_line (Nat.le_of_ble_eq_true rfl), fun L nL => ?_⟩
  have hDL : D ≠ L := ne_of_none upd_same nL
  have nL0 : H L = none := (same_new nD _).free nL
  refine ⟨fun m σ H' => ∃ (B : Hp) (rs : List Rcp) (xs : List V) (i : Nat) (kvs : List (Key × V)) (ns : List (List Nat)) (o1 o2 : Option V), σ = [some v, some (.ref D), some (.ref L), some (.int (i : Int)), o1, o2] ∧ Same H B ∧ B D = none ∧ B L = none ∧ D ≠ L ∧ Same B H' ∧ H' D = some (.dK kvs) ∧ H' L = some (.lst xs) ∧ NDict kvs ns ∧
      DataL B (rs.map Rcp.th) xs ∧ i ≤ rs.length ∧ (∀ x ∈ rs, x.Good) ∧ ((rs.drop i).map Rcp.siz).sum + i = r.siz ∧ (∀ s, s ∈ r.all ↔ s ∈ ns ∨ ∃ x ∈ rs.drop i, s ∈ x.all) ∧ ns.length ≤ 9 * i ∧ m = 1001 - i, ?_, ?_⟩
  · refine ⟨1001, H, [r], [v], 0, [], [], none, none, rfl, Same.refl H, nD, nL0, hDL, same_upd (same_new nD _) nL0 _, by rw [upd_ne hDL]; exact upd_same, upd_same, ⟨rfl, List.nodup_nil⟩, ⟨v, [], rfl, hR.data, rfl⟩, Nat.zero_le _, ?_, ?_, ?_, Nat.zero_le _, rfl⟩
    · intro x hx
      rw [List.mem_singleton.mp hx]; exact hG
    · show r.siz + 0 + 0 = r.siz
      rfl
    · intro s
      show s ∈ r.all ↔ s ∈ [] ∨ ∃ x ∈ [r], s ∈ x.all
      simp
  rintro m σ H1 ⟨B, rs, xs, i, kvs, ns, o1, o2, rfl, hB, nD, nL, hDL, hs, hD, hL, hN, hrow, hi, hgood, hsum, hall, hns, rfl⟩
  have hxl := hrow.len
  rw [List.length_map] at hxl
  have hge := siz_ge (rs.drop i)
  rw [List.length_drop] at hge
  refine ⟨_, rfl, _, rfl, L, _, rfl, .inl (SqL.of hL), _, _, rfl, rfl, _, rfl, ?_⟩
  by_cases hlt : ((i : Nat) : Int) < ((xs.length : Nat) : Int)
  · refine iteY hlt ?_
    have hia : i < rs.length := by omega
    have hget : (rs.map Rcp.th)[i]? = some rs[i].th := by rw [List.getElem?_map, List.getElem?_eq_getElem hia]; rfl
    obtain ⟨v1, hxa, hda⟩ := hrow.get hget
    have hgx : rs[i].Good := hgood _ (List.getElem_mem hia)
    have hdrop : rs.drop i = rs[i] :: rs.drop (i + 1) := List.drop_eq_getElem_cons hia
    generalize rs[i] = x at hget hda hgx hdrop
    refine ⟨fun σ' H' => ∃ (B : Hp) (rs : List Rcp) (xs : List V) (i' : Nat) (kvs : List (Key × V)) (ns : List (List Nat)) (o1 o2 : Option V), σ' = [some v, some (.ref D), some (.ref L), some (.int (i' : Int)), o1, o2] ∧ Same H B ∧ B D = none ∧ B L = none ∧ D ≠ L ∧ Same B H' ∧ H' D = some (.dK kvs) ∧ H' L = some (.lst xs) ∧ NDict kvs ns ∧
      DataL B (rs.map Rcp.th) xs ∧ i' ≤ rs.length ∧ (∀ x ∈ rs, x.Good) ∧ ((rs.drop i').map Rcp.siz).sum + i' = r.siz ∧ (∀ s, s ∈ r.all ↔ s ∈ ns ∨ ∃ x ∈ rs.drop i', s ∈ x.all) ∧ ns.length ≤ 9 * i' ∧ i' = i + 1, ?_, ?_⟩
    · rintro σ' H' ⟨B, rs, xs, i', kvs, ns, o1, o2, e1, e2, e3, e4, e5, e6, e7, e8, e9, e10, e11, e12, e13, e14, e15, e16⟩
      exact ⟨1001 - i', by omega, B, rs, xs, i', kvs, ns, o1, o2, e1, e2, e3, e4, e5, e6, e7, e8, e9, e10, e11, e12, e13, e14, e15, rfl⟩
    refine ⟨_, rfl, _, rfl, L, _, _, _, rfl, rfl, SqL.of hL, atI_nat hxa, ?_⟩
    obtain ⟨p, us, rfl, hp, hread, hchoose⟩ := dth_open hda
    refine ⟨_, rfl, p, _, _, _, rfl, rfl, SqT.of (hs _ _ hp), atI_at (by decide) rfl, rfl, _, rfl, ?_⟩
    by_cases k1 : V.str (SX.S x.word) = V.str "read"
    · obtain ⟨z, hxz⟩ := (word_read x).mp k1
      have hus := hread z hxz
      subst hus
      have k2 : ¬ V.str (SX.S x.word) = V.str "choose" := fun e => by
        obtain ⟨_, _, e'⟩ := (word_choose x).mp e
        rw [hxz] at e'
        cases e'
      obtain ⟨ns', hN', hm', hl'⟩ := hN.put z (.bl true)
      have hown : x.own = [z] := by rw [hxz]; rfl
      have hkl : kvs.length = ns.length := by
        have := congrArg List.length hN.1
        rw [List.length_map, List.length_map] at this
        exact this
      refine iteY k1 ⟨_, rfl, _, rfl, p, _, _, _, rfl, rfl, SqT.of (hs _ _ hp), rfl, D, _, rfl, DPut.k (k := keyN z) hD (lt_line (by omega)), ?_⟩
      have hs2 : Same B (upd H1 D (.dK (putK kvs (keyN z) (.bl true)))) := same_upd hs nD _
      have hL2 : (upd H1 D (.dK (putK kvs (keyN z) (.bl true)))) L = some (.lst xs) := by rw [upd_ne (Ne.symm hDL)]; exact hL
      refine ⟨_, rfl, p, _, _, _, rfl, rfl, SqT.of (hs2 _ _ hp), atI_at (by decide) rfl, rfl, _, rfl, iteN k2 ?_⟩
      have hmem : ∀ s, s ∈ ns' ↔ s ∈ ns ∨ s ∈ x.own := fun s => by rw [hm' s, hown, List.mem_singleton]
      refine ⟨_, rfl, .inl ⟨rfl, _, SqL.of hL2⟩, _, rfl, .ref p, x.th, rfl, hda.same hs2, Rcp.tame hgx, fun hno => (by rw [Rcp.parts_th hgx] at hno; cases hno), fun ps hps HH ap zs hsH hap hzs => ?_⟩
      rw [Rcp.parts_th hgx] at hps
      cases hps
      have hzl := (hzs B hs2 hda).len
      have h3 := subs_len x
      rw [List.length_map] at hzl
      refine ⟨L, ap, _, _, rfl, rfl, hsH _ _ hL2, hap, le_line (by omega), ?_⟩
      refine ⟨_, rfl, _, _, rfl, rfl, ?_⟩
      refine ⟨B, rs ++ x.subs, xs ++ zs, i + 1, putK kvs (keyN z) (.bl true), ns', some (.ref p), o2, rfl, hB, nD, nL, hDL, same_upd ((hs2).trans hsH) nL _, by rw [upd_ne hDL]; exact hsH _ _ upd_same, upd_same, hN', ?_, ?_, ?_, ?_, ?_, ?_, rfl⟩
      · rw [List.map_append]
        exact hrow.join (hzs B hs2 hda)
      · rw [List.length_append]; omega
      · intro y hy
        rcases List.mem_append.mp hy with m | m
        · exact hgood y m
        · exact (x.subs_good hgx y m).1
      · rw [List.drop_append_of_le_length (by omega), List.map_append, List.sum_append]
        rw [hdrop] at hsum
        have e1 : ((x :: rs.drop (i + 1)).map Rcp.siz).sum = x.siz + ((rs.drop (i + 1)).map Rcp.siz).sum := rfl
        have e2 := Rcp.siz_subs x
        omega
      · intro s
        rw [hall s, hdrop, List.drop_append_of_le_length (by omega)]
        have hm := hmem s
        constructor
        · rintro (m | ⟨y, hy, m⟩)
          · exact .inl (hm.mpr (.inl m))
          · rcases List.mem_cons.mp hy with e | hy
            · rw [e, mem_all] at m
              rcases m with m | ⟨z, hz', m⟩
              · exact .inl (hm.mpr (.inr m))
              · exact .inr ⟨z, List.mem_append_right _ hz', m⟩
            · exact .inr ⟨y, List.mem_append_left _ hy, m⟩
        · rintro (m0 | ⟨y, hy, m⟩)
          · rcases hm.mp m0 with m | m
            · exact .inl m
            · exact .inr ⟨x, List.mem_cons_self .., (mem_all x s).mpr (.inl m)⟩
          · rcases List.mem_append.mp hy with hy | hy
            · exact .inr ⟨y, List.mem_cons_of_mem _ hy, m⟩
            · exact .inr ⟨x, List.mem_cons_self .., (mem_all x s).mpr (.inr ⟨y, hy, m⟩)⟩
      · have := hl'
        omega
    refine iteN k1 ?_
    refine ⟨_, rfl, p, _, _, _, rfl, rfl, SqT.of (hs _ _ hp), atI_at (by decide) rfl, rfl, _, rfl, ?_⟩
    by_cases k2 : V.str (SX.S x.word) = V.str "choose"
    · obtain ⟨a, nsC, hxz⟩ := (word_choose x).mp k2
      obtain ⟨y, b, hus, hb⟩ := hchoose a nsC hxz
      subst hus
      have hown : x.own = nsC := by rw [hxz]; rfl
      have hnC : nsC.length ≤ 9 := by rw [← hown]; exact own_len hgx
      have hbL : b ≠ L := fun z => by rw [z, nL] at hb; cases hb
      have hkl0 : ∀ {kvs : List (Key × V)} {ns : List (List Nat)}, NDict kvs ns → kvs.length = ns.length := fun h => by
        have := congrArg List.length h.1
        rw [List.length_map, List.length_map] at this
        exact this
      refine iteY k2 ⟨_, rfl, p, _, _, _, rfl, rfl, SqT.of (hs _ _ hp), rfl, b, rfl, ⟨_, SqT.of (hs _ _ hb)⟩, for_tup (K := K) (a := b) (xs := txs nsC) (fun j σ' H' => ∃ (kvs' : List (Key × V)) (ns' : List (List Nat)) (o2 : Option V), σ' = [some v, some (.ref D), some (.ref L), some (.int (i : Int)), some (.ref p), o2] ∧
        Same B H' ∧ H' D = some (.dK kvs') ∧ H' L = some (.lst xs) ∧ NDict kvs' ns' ∧ (∀ s, s ∈ ns' ↔ s ∈ ns ∨ s ∈ nsC.take j) ∧ ns'.length ≤ ns.length + j) ⟨kvs, ns, o2, rfl, hs, hD, hL, hN, fun s => by rw [List.take_zero]; simp, Nat.le_refl _⟩ (fun j σ' H' _ ⟨_, _, _, _, h, _⟩ => SqT.of (h _ _ hb)) ?_ ?_⟩
      · rintro j y' σ' H3 hy ⟨kvs', ns', o2', rfl, hs3, hD3, hL3, hN3, hm3, hl3⟩
        have hj : j < nsC.length := by
          have := (List.getElem?_eq_some_iff.mp hy).1
          rw [txs_len] at this
          exact this
        rw [txs_get hj] at hy
        cases hy
        obtain ⟨ns4, hN4, hm4, hl4⟩ := hN3.put nsC[j] (.bl true)
        have := hkl0 hN3
        refine ⟨_, rfl, _, rfl, D, _, rfl, DPut.k (k := keyN nsC[j]) hD3 (lt_line (by omega)), ?_⟩
        refine ⟨_, ns4, _, rfl, same_upd hs3 nD _, upd_same, by rw [upd_ne (Ne.symm hDL)]; exact hL3, hN4, fun s => ?_, by omega⟩
        rw [hm4 s, hm3 s, List.take_add_one, List.getElem?_eq_getElem hj, List.mem_append, or_assoc]
        simp
      · rintro σ' H3 ⟨kvs', ns', o2', rfl, hs3, hD3, hL3, hN3, hm3, hl3⟩
        rw [txs_len, List.take_length] at hm3
        rw [txs_len] at hl3
        have hmem : ∀ s, s ∈ ns' ↔ s ∈ ns ∨ s ∈ x.own := fun s => by rw [hm3 s, hown]
        refine ⟨_, rfl, .inl ⟨rfl, _, SqL.of hL3⟩, _, rfl, .ref p, x.th, rfl, hda.same hs3, Rcp.tame hgx, fun hno => (by rw [Rcp.parts_th hgx] at hno; cases hno), fun ps hps HH ap zs hsH hap hzs => ?_⟩
        rw [Rcp.parts_th hgx] at hps
        cases hps
        have hzl := (hzs B hs3 hda).len
        have h3 := subs_len x
        rw [List.length_map] at hzl
        refine ⟨L, ap, _, _, rfl, rfl, hsH _ _ hL3, hap, le_line (by omega), ?_⟩
        refine ⟨_, rfl, _, _, rfl, rfl, ?_⟩
        refine ⟨B, rs ++ x.subs, xs ++ zs, i + 1, kvs', ns', some (.ref p), o2', rfl, hB, nD, nL, hDL, same_upd ((hs3).trans hsH) nL _, by rw [upd_ne hDL]; exact hsH _ _ hD3, upd_same, hN3, ?_, ?_, ?_, ?_, ?_, ?_, rfl⟩
        · rw [List.map_append]
          exact hrow.join (hzs B hs3 hda)
        · rw [List.length_append]; omega
        · intro y hy
          rcases List.mem_append.mp hy with m | m
          · exact hgood y m
          · exact (x.subs_good hgx y m).1
        · rw [List.drop_append_of_le_length (by omega), List.map_append, List.sum_append]
          rw [hdrop] at hsum
          have e1 : ((x :: rs.drop (i + 1)).map Rcp.siz).sum = x.siz + ((rs.drop (i + 1)).map Rcp.siz).sum := rfl
          have e2 := Rcp.siz_subs x
          omega
        · intro s
          rw [hall s, hdrop, List.drop_append_of_le_length (by omega)]
          have hm := hmem s
          constructor
          · rintro (m | ⟨y, hy, m⟩)
            · exact .inl (hm.mpr (.inl m))
            · rcases List.mem_cons.mp hy with e | hy
              · rw [e, mem_all] at m
                rcases m with m | ⟨z, hz', m⟩
                · exact .inl (hm.mpr (.inr m))
                · exact .inr ⟨z, List.mem_append_right _ hz', m⟩
              · exact .inr ⟨y, List.mem_append_left _ hy, m⟩
          · rintro (m0 | ⟨y, hy, m⟩)
            · rcases hm.mp m0 with m | m
              · exact .inl m
              · exact .inr ⟨x, List.mem_cons_self .., (mem_all x s).mpr (.inl m)⟩
            · rcases List.mem_append.mp hy with hy | hy
              · exact .inr ⟨y, List.mem_cons_of_mem _ hy, m⟩
              · exact .inr ⟨x, List.mem_cons_self .., (mem_all x s).mpr (.inr ⟨y, hy, m⟩)⟩
        · have := hl3
          omega
    refine iteN k2 ?_
    have hown : x.own = [] := by
      cases x with
      | read s => exact absurd ((word_read (.read s)).mpr ⟨s, rfl⟩) k1
      | choose a ns => exact absurd ((word_choose (.choose a ns)).mpr ⟨a, ns, rfl⟩) k2
      | _ => rfl
    have hmem : ∀ s, s ∈ ns ↔ s ∈ ns ∨ s ∈ x.own := fun s => by rw [hown]; simp
    refine ⟨_, rfl, .inl ⟨rfl, _, SqL.of hL⟩, _, rfl, .ref p, x.th, rfl, hda.same hs, Rcp.tame hgx, fun hno => (by rw [Rcp.parts_th hgx] at hno; cases hno), fun ps hps HH ap zs hsH hap hzs => ?_⟩
    rw [Rcp.parts_th hgx] at hps
    cases hps
    have hzl := (hzs B hs hda).len
    have h3 := subs_len x
    rw [List.length_map] at hzl
    refine ⟨L, ap, _, _, rfl, rfl, hsH _ _ hL, hap, le_line (by omega), ?_⟩
    refine ⟨_, rfl, _, _, rfl, rfl, ?_⟩
    refine ⟨B, rs ++ x.subs, xs ++ zs, i + 1, kvs, ns, some (.ref p), o2, rfl, hB, nD, nL, hDL, same_upd ((hs).trans hsH) nL _, by rw [upd_ne hDL]; exact hsH _ _ hD, upd_same, hN, ?_, ?_, ?_, ?_, ?_, ?_, rfl⟩
    · rw [List.map_append]
      exact hrow.join (hzs B hs hda)
    · rw [List.length_append]; omega
    · intro y hy
      rcases List.mem_append.mp hy with m | m
      · exact hgood y m
      · exact (x.subs_good hgx y m).1
    · rw [List.drop_append_of_le_length (by omega), List.map_append, List.sum_append]
      rw [hdrop] at hsum
      have e1 : ((x :: rs.drop (i + 1)).map Rcp.siz).sum = x.siz + ((rs.drop (i + 1)).map Rcp.siz).sum := rfl
      have e2 := Rcp.siz_subs x
      omega
    · intro s
      rw [hall s, hdrop, List.drop_append_of_le_length (by omega)]
      have hm := hmem s
      constructor
      · rintro (m | ⟨y, hy, m⟩)
        · exact .inl (hm.mpr (.inl m))
        · rcases List.mem_cons.mp hy with e | hy
          · rw [e, mem_all] at m
            rcases m with m | ⟨z, hz', m⟩
            · exact .inl (hm.mpr (.inr m))
            · exact .inr ⟨z, List.mem_append_right _ hz', m⟩
          · exact .inr ⟨y, List.mem_append_left _ hy, m⟩
      · rintro (m0 | ⟨y, hy, m⟩)
        · rcases hm.mp m0 with m | m
          · exact .inl m
          · exact .inr ⟨x, List.mem_cons_self .., (mem_all x s).mpr (.inl m)⟩
        · rcases List.mem_append.mp hy with hy | hy
          · exact .inr ⟨y, List.mem_cons_of_mem _ hy, m⟩
          · exact .inr ⟨x, List.mem_cons_self .., (mem_all x s).mpr (.inr ⟨y, hy, m⟩)⟩
    · have := hns
      omega
  · refine iteN hlt ?_
    have hil : i = rs.length := by omega
    have hd0 : rs.drop i = [] := List.drop_eq_nil_of_le (by omega)
    refine ⟨_, rfl, D, kvs, ns, rfl, hD, hN.1, fun ys p hpm hri hnp => ?_⟩
    refine q _ p ys ((hB.trans hs).trans (same_new hnp _)) ((hB.trans hs).free hnp) upd_same (si_of hri (hpm.nodup_iff.mpr hN.2)) (fun s => ?_) ?_
    · rw [hall s, hd0, hpm.mem_iff]
      simp
    · rw [hpm.length_eq]
      omega
end
/-! ### the deck of drawn cells -/
/-- at d a deck, what B tracks besides stands -/
def DeckAt (B H : Hp) (d : Addr) : Prop := Same B H ∧ B d = none ∧ ∃ (c : Addr) (m n : Int) (ns : List Int), B c = none ∧ H d = some (.lst [.ref c, .int m, .int n]) ∧ H c = some (.lst (ns.map V.int)) ∧ 0 < ns.length ∧ ns.length ≤ 63
def spDraw : Sp := fun vs H Q _ => ∃ (B : Hp) (d : Addr) (many : Int), vs = [.ref d, .int many] ∧ DeckAt B H d ∧ 0 < many ∧ many.natAbs < 2 ^ 200 ∧ ∀ (H' : Hp) (v : Int), DeckAt B H' d → 0 ≤ v → v < many → Q (.int v) H'
section
variable {P : Program} {w : World} {K : PySem.W.Frag} {mg : Str → Option Value} {base : Heap}
abbrev s__law_draw : Stmt := topS 16
abbrev N__law_draw : List Str := ["deck", "many", "at", "found", "number"]
theorem sc__law_draw : FnScope N__law_draw ["deck", "many"] (defScope s__law_draw) := ⟨rfl, rfl, rfl, by decide +kernel, rfl, by decide +kernel, by decide +kernel⟩

theorem ok__law_draw (T : Txt K mg) (D : IsDef K mg "_law_draw" s__law_draw ["deck", "many"]) : Cal P w K mg base CX0 1 "_law_draw" ["deck", "many"] spDraw := by
  refine D.cal sc__law_draw (fun vs H Q E h => ?_) (fun f cdv A outer s H vs Q E hr h => ?_)
  · obtain ⟨B, d, many, rfl, _⟩ := h
    rfl
  obtain ⟨B, d, many, rfl, ⟨hs, bd, c, m, n, ns, bc, hd, hc, h0, h63⟩, hp, hm, q⟩ := h
  have dc : d ≠ c := fun e => by
    subst e
    rw [hd] at hc
    cases ns with
    | nil => cases hc
    | cons a r => simp at hc
  have hl : (ns.map V.int).length = ns.length := List.length_map _
  refine ⟨_, (pss_cons (ps_set (i := 2) sc__law_draw.nd rfl (Or.inl rfl) (pe_op op_mod (pe_ix (r := rIxL K) ix_list (pv 0) pe_int (fun _ _ => rfl)) (pe_callB call_len_seq (by rfl) T.b_len PySem.boot_len (pa_cons (pe_ix (r := rIxL K) ix_list (pv 0) pe_int (fun _ _ => rfl)) pa_nil))))
      (pss_cons (ps_asg (pe_op op_add (pe_ix (r := rIxL K) ix_list (pv 0) pe_int (fun _ _ => rfl)) pe_int) (pg_sub (pv 0) pe_int set_list))
      (pss_cons (ps_if (pt_cmpR op_eq (pe_ix (r := rIxL K) ix_list (pv 0) pe_int (fun _ _ => rfl)) pe_int (nomark _))
        (pss_cons (ps_set (i := 3) sc__law_draw.nd rfl (Or.inl rfl) (pe_op op_mod (pe_ix (r := rIxL K) ix_list (pe_ix (r := rIxL K) ix_list (pv 0) pe_int (fun _ _ => rfl)) (pv 2) (fun _ _ => rfl)) (pv 1)))
      (pss_cons (ps_asg (pe_op op_fdivW (pe_ix (r := rIxL K) ix_list (pe_ix (r := rIxL K) ix_list (pv 0) pe_int (fun _ _ => rfl)) (pv 2) (fun _ _ => rfl)) (pv 1)) (pg_sub (pe_ix (r := rIxL K) ix_list (pv 0) pe_int (fun _ _ => rfl)) (pv 2) set_list))
      (pss_one (ps_ret (pv 3)))))
        pss_nil)
      (pss_cons (ps_set (i := 4) sc__law_draw.nd rfl (Or.inl rfl) (pe_op op_mod (pe_op op_add (pe_op op_mul (pe_op op_mod (pe_ix (r := rIxL K) ix_list (pe_ix (r := rIxL K) ix_list (pv 0) pe_int (fun _ _ => rfl)) (pv 2) (fun _ _ => rfl)) pe_int) pe_int) (pe_op op_mul (pe_ix (r := rIxL K) ix_list (pv 0) pe_int (fun _ _ => rfl)) pe_int)) pe_int))
      (pss_cons (ps_set (i := 4) sc__law_draw.nd rfl (Or.inl rfl) (pe_op op_mod (pe_op op_mul (pv 4) (pv 4)) pe_int))
      (pss_one (ps_ret (pe_op op_mod (pe_op op_fdivW (pe_op op_mod (pe_op op_add (pe_op op_mul (pv 4) pe_int) (pe_ix (r := rIxL K) ix_list (pv 0) pe_int (fun _ _ => rfl))) pe_int) pe_int) (pv 1))))))))), ?_⟩
  -- at = deck[2] % len(deck[0])
  refine ⟨_, rfl, d, _, _, _, rfl, rfl, SqL.of hd, rfl, _, rfl, d, _, _, _, rfl, rfl, SqL.of hd, rfl, c, _, rfl, .inl (SqL.of hc), _, _, rfl, rfl, by rw [hl]; omega, ?_⟩
  have a0 : 0 ≤ n % (((ns.map V.int).length : Nat) : Int) := Int.emod_nonneg _ (by rw [hl]; omega)
  have a1 : n % (((ns.map V.int).length : Nat) : Int) < ns.length := by rw [hl]; exact Int.emod_lt_of_pos _ (by omega)
  have a1' : n % (((ns.map V.int).length : Nat) : Int) < (ns.map V.int).length := by rw [hl] at a1 ⊢; exact a1
  obtain ⟨v, hv⟩ := int_at a0 a1
  -- deck[2] = deck[2] + 1
  refine ⟨_, rfl, d, _, _, _, rfl, rfl, SqL.of hd, rfl, _, _, rfl, rfl, _, rfl, d, _, _, _, rfl, rfl, hd, rfl, ?_⟩
  have hd1 : upd H d (.lst [.ref c, .int m, .int (n + 1)]) d = some (.lst [.ref c, .int m, .int (n + 1)]) := upd_same
  have hc1 : upd H d (.lst [.ref c, .int m, .int (n + 1)]) c = some (.lst (ns.map V.int)) := by rw [upd_ne dc.symm]; exact hc
  have hs1 : Same B (upd H d (.lst [.ref c, .int m, .int (n + 1)])) := same_upd hs bd _
  -- if deck[1] == 0
  refine ⟨_, rfl, d, _, _, _, rfl, rfl, SqL.of hd1, rfl, rfl, _, rfl, ?_⟩
  refine ite2 (fun _ => ?_) (fun _ => ?_)
  · refine ⟨_, rfl, d, _, _, _, rfl, rfl, SqL.of hd1, rfl, _, rfl, c, _, _, _, rfl, rfl, SqL.of hc1, hv, _, rfl, _, _, rfl, rfl, hp, ?_⟩
    refine ⟨_, rfl, d, _, _, _, rfl, rfl, SqL.of hd1, rfl, _, rfl, c, _, _, _, rfl, rfl, SqL.of hc1, hv, _, rfl, _, _, rfl, rfl, wide_div hp hm (by decide) (by decide), _, rfl, d, _, _, _, rfl, rfl, SqL.of hd1, rfl, _, rfl, c, _, _, _, rfl, rfl, hc1, ixN_at a0 a1', ?_⟩
    refine ⟨_, rfl, q _ _ ⟨same_upd hs1 bc _, bd, c, m, n + 1, ns.set (n % (((ns.map V.int).length : Nat) : Int)).toNat (v / many), bc, ?_, ?_, ?_, ?_⟩ (Int.emod_nonneg _ (by omega)) (Int.emod_lt_of_pos _ hp)⟩
    · rw [upd_ne dc]; exact hd1
    · rw [upd_same, List.map_set]
    · rw [List.length_set]; exact h0
    · rw [List.length_set]; exact h63
  · refine ⟨_, rfl, d, _, _, _, rfl, rfl, SqL.of hd1, rfl, _, rfl, c, _, _, _, rfl, rfl, SqL.of hc1, hv, _, _, rfl, rfl, (by show (0 : Int) < 1000000007; decide), _, _, rfl, rfl, .inr ⟨by decide, by decide⟩, _, rfl, d, _, _, _, rfl, rfl, SqL.of hd1, rfl, _, _, rfl, rfl, .inr ⟨by decide, by decide⟩, _, _, rfl, rfl, _, _, rfl, rfl, (by show (0 : Int) < 1000000009; decide), ?_⟩
    have y0 : 0 ≤ (v % 1000000007 * 7919 + (n + 1) * 104729) % 1000000009 := Int.emod_nonneg _ (by decide)
    have y1 : (v % 1000000007 * 7919 + (n + 1) * 104729) % 1000000009 < 1000000009 := Int.emod_lt_of_pos _ (by decide)
    refine ⟨_, rfl, _, rfl, _, _, rfl, rfl, .inl ⟨Int.lt_of_lt_of_le (by decide) y0, Int.lt_trans y1 (by decide)⟩, _, _, rfl, rfl, (by show (0 : Int) < _; decide), ?_⟩
    refine ⟨_, rfl, _, _, rfl, rfl, .inr ⟨by decide, by decide⟩, _, rfl, d, _, _, _, rfl, rfl, SqL.of hd1, rfl, _, _, rfl, rfl, _, _, rfl, rfl, (by show (0 : Int) < _; decide), _, _, rfl, rfl, ⟨by decide, by decide +kernel⟩, _, rfl, _, _, rfl, rfl, hp, ?_⟩
    exact q _ _ ⟨hs1, bd, c, m, n + 1, ns, bc, hd1, hc1, h0, h63⟩ (Int.emod_nonneg _ (by omega)) (Int.emod_lt_of_pos _ hp)
end
/-! ### names, numbers and recipes drawn of a deck -/
def spDeck (K : PySem.W.Frag) : Sp := fun vs H Q _ => ∃ (a : Addr) (ns : List Int), vs = [.ref a] ∧ SqL K H a (ns.map V.int) ∧ ns.length ≤ 63 ∧ ∀ (B H' : Hp) (d : Addr), Same H B → DeckAt B H' d → Q (.ref d) H'
def spName : Sp := fun vs H Q _ => ∃ (B : Hp) (d : Addr), vs = [.ref d] ∧ DeckAt B H d ∧ ∀ (B' H' : Hp) (s : List Nat), Same B B' → DeckAt B' H' d → Nm s → Q (.str (SX.S s)) H'
def spNumber : Sp := fun vs H Q _ => ∃ (B : Hp) (d : Addr), vs = [.ref d] ∧ DeckAt B H d ∧ ∀ (H' : Hp) (n : Int), DeckAt B H' d → n.natAbs < 10 ^ 40 → Q (.int n) H'
/-- the frame may grow -/
theorem DeckAt.new {B H : Hp} {d : Addr} {p : Addr} (k : DeckAt B H d) (h : H p = none) (o : HO) : DeckAt (upd B p o) (upd H p o) d := by
  obtain ⟨s, bd, c, m, n, ns, bc, hd, hc, h0, h63⟩ := k
  have dp : d ≠ p := ne_of_none hd h
  have cp : c ≠ p := ne_of_none hc h
  refine ⟨fun b u q => ?_, by rw [upd_ne dp]; exact bd, c, m, n, ns, by rw [upd_ne cp]; exact bc, by rw [upd_ne dp]; exact hd, by rw [upd_ne cp]; exact hc, h0, h63⟩
  by_cases e : b = p
  · subst e; rw [upd_same] at q ⊢; exact q
  · rw [upd_ne e] at q ⊢; exact s _ _ q
/-- what the frame tracks may be written -/
theorem DeckAt.put {B H : Hp} {d : Addr} {p : Addr} {u : HO} (k : DeckAt B H d) (h : B p = some u) (o : HO) : DeckAt (upd B p o) (upd H p o) d := by
  obtain ⟨s, bd, c, m, n, ns, bc, hd, hc, h0, h63⟩ := k
  have dp : d ≠ p := fun e => by rw [e, h] at bd; cases bd
  have cp : c ≠ p := fun e => by rw [e, h] at bc; cases bc
  refine ⟨fun b w q => ?_, by rw [upd_ne dp]; exact bd, c, m, n, ns, by rw [upd_ne cp]; exact bc, by rw [upd_ne dp]; exact hd, by rw [upd_ne cp]; exact hc, h0, h63⟩
  by_cases e : b = p
  · subst e; rw [upd_same] at q ⊢; exact q
  · rw [upd_ne e] at q ⊢; exact s _ _ q
theorem DeckAt.same {B H H' : Hp} {d : Addr} (k : DeckAt B H d) (h : Same H H') : DeckAt B H' d := by
  obtain ⟨s, bd, c, m, n, ns, bc, hd, hc, h0, h63⟩ := k
  exact ⟨s.trans h, bd, c, m, n, ns, bc, h _ _ hd, h _ _ hc, h0, h63⟩
theorem DeckAt.free {B H : Hp} {d p : Addr} (k : DeckAt B H d) (h : H p = none) : B p = none := k.1.free h
theorem joinL_nil : ∀ l : List (List Nat), TL.joinL [] l = l.flatten
  | [] => rfl
  | [p] => by simp [TL.joinL]
  | p :: q :: r => by
    show p ++ ([] ++ TL.joinL [] (q :: r)) = _
    rw [joinL_nil (q :: r)]
    simp
section
variable {P : Program} {w : World} {K : PySem.W.Frag} {mg : Str → Option Value} {base : Heap}
abbrev s__law_deck : Stmt := topS 15
abbrev N__law_deck : List Str := ["script", "cells"]
theorem sc__law_deck : FnScope N__law_deck ["script"] (defScope s__law_deck) := ⟨rfl, rfl, rfl, by decide +kernel, rfl, by decide +kernel, by decide +kernel⟩

theorem ok__law_deck (T : Txt K mg) (D : IsDef K mg "_law_deck" s__law_deck ["script"]) : Cal P w K mg base CX0 1 "_law_deck" ["script"] (spDeck K) := by
  refine D.cal sc__law_deck (fun vs H Q E h => ?_) (fun f cdv A outer s H vs Q E hr h => ?_)
  · obtain ⟨a, ns, rfl, _⟩ := h
    rfl
  obtain ⟨a, ns, rfl, hS, h63, q⟩ := h
  refine ⟨_, (pss_cons (ps_set (i := 1) sc__law_deck.nd rfl (Or.inl rfl) (pe_callTy call_list_of (by rfl) T.b_list (by decide +kernel) (pa_cons (pe_slice (r := rSlL K) sl_list (pv 0) po_none (po_some pe_int)) pa_nil)))
      (pss_cons (ps_if (pt_cmpR (op_eqD hr.units) (pv 1) (pe_lst pa_nil) (nomark _))
        (pss_one (ps_set (i := 1) sc__law_deck.nd rfl (Or.inl rfl) (pe_lst (pa_cons pe_int pa_nil))))
        pss_nil)
      (pss_one (ps_ret (pe_lst (pa_cons (pv 1) (pa_cons (pe_op op_mod (pe_callB call_len_seq (by rfl) T.b_len PySem.boot_len (pa_cons (pv 0) pa_nil)) pe_int) (pa_cons pe_int pa_nil)))))))), ?_⟩
  have hl : (ns.map V.int).length = ns.length := List.length_map _
  refine ⟨_, rfl, _, rfl, a, _, rfl, hS, fun p np => ?_⟩
  have g1 : Same H (upd H p (.lst (cutV (ns.map V.int) none (some 63)))) := same_new np _
  have ec : cutV (ns.map V.int) none (some 63) = ns.map V.int := by
    show ((ns.map V.int).drop (HT.sIx (ns.map V.int).length 0 none)).take (HT.sIx (ns.map V.int).length (ns.map V.int).length (some ((63 : Nat) : Int)) - HT.sIx (ns.map V.int).length 0 none) = ns.map V.int
    rw [HT.sIx_none, HT.sIx_nat, List.drop_zero, List.take_of_length_le]
    rw [hl]
    omega
  refine ⟨p, _, rfl, .inl (SqL.of upd_same), fun l nl => ?_⟩
  have g2 := g1.trans (same_new nl (.lst (cutV (ns.map V.int) none (some 63))))
  refine ⟨_, rfl, Nat.zero_le _, fun e ne => ?_⟩
  have le : l ≠ e := ne_of_none upd_same ne
  have dp : ∀ (H : Hp) (l : List Int), DpAll K H (l.map V.int) (l.map PyData.int) := fun H l => by
    induction l with
    | nil => exact .nil
    | cons x l ih => exact .cons (.int x) ih
  refine ⟨.list (ns.map PyData.int), .list [], .lst (xs := ns.map V.int) (SqL.of (by rw [upd_ne le, upd_same, ec])) (dp _ _), .lst (SqL.of upd_same) .nil, PySem.W.ke_shaped_ints ns, rfl, _, rfl, ?_⟩
  have fin : ∀ (H1 : Hp) (c : Addr) (zs : List Int), Same H H1 → H c = none → H1 c = some (.lst (zs.map V.int)) → 0 < zs.length → zs.length ≤ 63 → ∀ d, H1 d = none → ∀ m n : Int, Q (.ref d) (upd H1 d (.lst [.ref c, .int m, .int n])) := fun H1 c zs h1 hc0 hc z0 z63 d nd m n => by
    have cd : c ≠ d := ne_of_none hc nd
    exact q H _ d (Same.refl H) ⟨h1.trans (same_new nd _), h1.free nd, c, m, n, zs, hc0, upd_same, by rw [upd_ne cd]; exact hc, z0, z63⟩
  have g3 := g2.trans (same_new ne (.lst []))
  cases ns with
  | nil =>
    refine iteT ?_
    refine ⟨(by decide +kernel : 1 ≤ sizeLine), fun c nc => ?_⟩
    have g4 := g3.trans (same_new nc (.lst [.int 0]))
    refine ⟨_, rfl, _, rfl, a, _, rfl, .inl (g4.seq hS), _, _, rfl, rfl, (by show (0 : Int) < 2; decide), le_line (by show 3 ≤ 16777216; decide), fun d nd => ?_⟩
    exact fin _ c [0] g4 (g3.free nc) upd_same (by decide) (by decide) d nd _ _
  | cons x r =>
    refine iteF ?_
    refine ⟨_, rfl, _, rfl, a, _, rfl, .inl (g3.seq hS), _, _, rfl, rfl, (by show (0 : Int) < 2; decide), le_line (by show 3 ≤ 16777216; decide), fun d nd => ?_⟩
    exact fin _ l (x :: r) g3 ((same_new np _).free nl) (by rw [upd_ne le, upd_same, ec]) (Nat.succ_pos _) h63 d nd _ _
def names6 : List (List Nat) := [[97], [98], [97, 98], [120], [121], [122, 122, 122, 122, 122, 122, 122, 122]]
theorem six_is : ([.str "a", .str "b", .str "ab", .str "x", .str "y", .str "zzzzzzzz"] : List V) = txs names6 := by
  rw [show ("a" : Str) = SX.S [97] from by decide +kernel, show ("b" : Str) = SX.S [98] from by decide +kernel, show ("ab" : Str) = SX.S [97, 98] from by decide +kernel, show ("x" : Str) = SX.S [120] from by decide +kernel,
    show ("y" : Str) = SX.S [121] from by decide +kernel, show ("zzzzzzzz" : Str) = SX.S [122, 122, 122, 122, 122, 122, 122, 122] from by decide +kernel]
  all_goals rfl
theorem six_ok : ∀ s ∈ names6, Nm s := by unfold Nm; decide
abbrev s__law_name : Stmt := topS 17
abbrev N__law_name : List Str := ["deck", "letters", "k"]
theorem sc__law_name : FnScope N__law_name ["deck"] (defScope s__law_name) := ⟨rfl, rfl, rfl, by decide +kernel, rfl, by decide +kernel, by decide +kernel⟩

theorem ok__law_name (T : Txt K mg) (D : IsDef K mg "_law_name" s__law_name ["deck"]) (C__law_draw : Cal P w K mg base CX0 1 "_law_draw" ["deck", "many"] spDraw) : Cal P w K mg base CX0 2 "_law_name" ["deck"] spName := by
  refine D.cal sc__law_name (fun vs H Q E h => ?_) (fun f cdv A outer s H vs Q E hr h => ?_)
  · obtain ⟨B, d, rfl, _⟩ := h
    rfl
  obtain ⟨B, d, rfl, hD, q⟩ := h
  refine ⟨_, (pss_cons (ps_if (pt_cmpR op_gt (pe_cal C__law_draw (hr.mono (by first | decide | omega)) pass0 (pa_cons (pv 0) (pa_cons pe_int pa_nil))) pe_int (nomark _))
        (pss_one (ps_ret (pe_ix (r := rIxL K) ix_list (pe_lst (pa_cons pe_str (pa_cons pe_str (pa_cons pe_str (pa_cons pe_str (pa_cons pe_str (pa_cons pe_str pa_nil))))))) (pe_cal C__law_draw (hr.mono (by first | decide | omega)) pass0 (pa_cons (pv 0) (pa_cons pe_int pa_nil))) (fun _ _ => rfl))))
        pss_nil)
      (pss_cons (ps_set (i := 1) sc__law_name.nd rfl (Or.inr rfl) pe_str)
      (pss_one (ps_ret (pe_join pe_str (pe_lc (own := [("k", 2)]) (g := gName 2)  (by rfl) sc__law_name.nd  (pi_range1 rfl T.b_range (pa_cons (pe_op op_add pe_int (pe_cal C__law_draw (hr.mono (by first | decide | omega)) pass0 (pa_cons (pv 0) (pa_cons pe_int pa_nil)))) pa_nil)) (blkOk_by (own := [("k", 2)]) (N := N__law_name) (sc := defScope s__law_name) (by decide +kernel)) (fun _ _ _ _ _ => (pg_name (i := 2) sc__law_name.nd rfl (Or.inl rfl))) (fun _ _ _ _ _ => pts_nil) (fun _ _ _ _ _ => (pe_item_str (pv 1) (pe_cal C__law_draw (hr.mono (by first | decide | omega)) pass0 (pa_cons (pv 0) (pa_cons pe_int pa_nil))) (fun _ _ => rfl))))))))), ?_⟩
  refine ⟨_, rfl, B, d, 4, rfl, hD, by decide, by decide, fun H1 v1 hD1 _ _ => ⟨_, _, rfl, rfl, _, rfl, ?_⟩⟩
  refine ite2 (fun _ => ?_) (fun _ => ?_)
  · refine ⟨le_line (by decide), fun p np => ?_⟩
    refine ⟨_, rfl, _, d, 6, rfl, hD1.new np _, by decide, by decide, fun H2 v hD2 v0 v6 => ?_⟩
    obtain ⟨x, hx, hat⟩ := one_of (xs := txs names6) v0 v6
    obtain ⟨s, hs, rfl⟩ := txs_mem hx
    refine ⟨p, _, v, _, rfl, rfl, SqL.of (hD2.1 _ _ upd_same), by rw [six_is]; exact hat, ?_⟩
    exact q _ _ s (same_new (hD1.free np) _) hD2 (six_ok s hs)
  · refine ⟨⟨_, rfl⟩, _, rfl, B, d, 8, rfl, hD1, by decide, by decide, fun H2 n hD2 n0 n8 => ⟨_, _, rfl, rfl, 1 + n, rfl, Int.le_trans (by decide) (Int.add_nonneg (by decide) n0), by omega, ?_⟩⟩
    refine fun L nL => lc_range (lo := 0) (n := (1 + n).toNat) (fun i H => ∃ (B' : Hp) (ss : List Nat), Same B B' ∧ DeckAt B' H d ∧ B' L = some (.lst (txs (ones ss))) ∧ ss.length = i ∧ ∀ c ∈ ss, 97 ≤ c ∧ c ≤ 122)
      ⟨_, [], same_new (hD2.free nL) _, hD2.new nL _, upd_same, rfl, by simp⟩ ?_ ?_
    · rintro i H3 hi ⟨B', ss, hB, hD3, hL, hn, hc⟩
      refine ⟨rfl, _, rfl, _, rfl, B', d, 26, rfl, hD3, by decide, by decide, fun H4 v hD4 v0 v26 => ?_⟩
      have hv : v.toNat < letters.length := by show v.toNat < 26; omega
      refine ⟨_, v, letters[v.toNat], rfl, rfl, v0, by omega, by rw [letters_is, SX.S_len]; exact v26, ?_, _, hD4.1 _ _ hL, ?_, ?_⟩
      · rw [letters_is]
        show letters.toArray[v.toNat]? = _
        rw [List.getElem?_toArray, List.getElem?_eq_getElem hv]
      · rw [txs_len, ones_len, hn]
        exact lt_line (by omega)
      · refine ⟨upd B' L _, ss ++ [letters[v.toNat]], fun b o e => ?_, hD4.put hL _, ?_, by rw [List.length_append, hn]; rfl, fun c hcm => ?_⟩
        · have z : b ≠ L := fun z => by
            rw [z] at e
            rw [hD2.free nL] at e
            cases e
          rw [upd_ne z]
          exact hB b o e
        · rw [upd_same]
          unfold ones
          rw [List.map_append, txs_app]
          rfl
        · rcases List.mem_append.mp hcm with h | h
          · exact hc c h
          · rw [List.mem_singleton.mp h]
            exact letters_ok _ (List.getElem_mem hv)
    · rintro H3 ⟨B', ss, hB, hD3, hL, hn, hc⟩
      have e0 : ("" : Str) = SX.S [] := by decide +kernel
      have ej : Txt.join "" ((ones ss).map SX.S) = SX.S ss := by
        rw [e0]
        refine (SX.join_S [] (ones ss)).trans ?_
        rw [joinL_nil, ones_flat]
      refine ⟨"", L, (ones ss).map SX.S, rfl, rfl, .inl (SqL.of (hD3.1 _ _ hL)), ?_, ?_⟩
      · rw [ones_sum, List.length_map, ones_len, e0, SX.S_len]
        show ss.length + ss.length * 0 ≤ 16777216
        omega
      · rw [ej]
        exact q B' _ ss hB hD3 ⟨by omega, by omega, hc⟩
end
def spRecipe (k : Nat) : Sp := fun vs H Q _ => ∃ (B : Hp) (d l : Addr) (deep n : Int), vs = [.ref d, .int deep, .ref l] ∧ DeckAt B H d ∧ B l = some (.lst [.int n]) ∧ 1 ≤ deep ∧ deep ≤ k ∧
  ∀ (B' H' : Hp) (n' : Int) (v : V) (r : Rcp), (∀ b o, b ≠ l → B b = some o → B' b = some o) → B' l = some (.lst [.int n']) → DeckAt B' H' d → Rec B' r v → r.Good → (r.dep : Int) ≤ deep → (r.siz : Int) = n - n' → (n - 1 ≤ n' ∨ -2 * (deep - 1) ≤ n') → Q v H'
theorem keep_but {B B' : Hp} {l : Addr} {xs : List V} (h : B l = some (.lst xs)) (k : ∀ b o, b ≠ l → B b = some o → B' b = some o) : Keep B B' := fun b ys q =>
  k b _ (fun e => by rw [e, h] at q; cases q) q
theorem kind_is {n : Int} (h0 : 0 ≤ n) (h : n < 5) : ∃ k : Kd, atI ([.str "plus", .str "minus", .str "times", .str "most", .str "plus"] : List V) n = some (.str k.name) := by
  have e : n = 0 ∨ n = 1 ∨ n = 2 ∨ n = 3 ∨ n = 4 := by omega
  rcases e with e | e | e | e | e <;> subst e
  · exact ⟨.plus, rfl⟩
  · exact ⟨.minus, rfl⟩
  · exact ⟨.times, rfl⟩
  · exact ⟨.most, rfl⟩
  · exact ⟨.plus, rfl⟩
section
variable {P : Program} {w : World} {K : PySem.W.Frag} {mg : Str → Option Value} {base : Heap}
abbrev s__law_number : Stmt := topS 18
abbrev N__law_number : List Str := ["deck", "great"]
theorem sc__law_number : FnScope N__law_number ["deck"] (defScope s__law_number) := ⟨rfl, rfl, rfl, by decide +kernel, rfl, by decide +kernel, by decide +kernel⟩

theorem ok__law_number (T : Txt K mg) (D : IsDef K mg "_law_number" s__law_number ["deck"]) (C__law_draw : Cal P w K mg base CX0 1 "_law_draw" ["deck", "many"] spDraw) : Cal P w K mg base CX0 2 "_law_number" ["deck"] spNumber := by
  refine D.cal sc__law_number (fun vs H Q E h => ?_) (fun f cdv A outer s H vs Q E hr h => ?_)
  · obtain ⟨B, d, rfl, _⟩ := h
    rfl
  obtain ⟨B, d, rfl, hD, q⟩ := h
  refine ⟨_, (pss_cons (ps_if (pt_cmpR op_gt (pe_cal C__law_draw (hr.mono (by first | decide | omega)) pass0 (pa_cons (pv 0) (pa_cons pe_int pa_nil))) pe_int (nomark _))
        (pss_one (ps_ret (pe_op op_sub (pe_cal C__law_draw (hr.mono (by first | decide | omega)) pass0 (pa_cons (pv 0) (pa_cons pe_int pa_nil))) pe_int)))
        pss_nil)
      (pss_cons (ps_set (i := 1) sc__law_number.nd rfl (Or.inl rfl) (pe_op op_sub (pe_op op_pow pe_int pe_int) pe_int))
      (pss_one (ps_ret (pe_op op_sub (pe_cal C__law_draw (hr.mono (by first | decide | omega)) pass0 (pa_cons (pv 0) (pa_cons (pe_op op_add (pe_op op_mul pe_int (pv 1)) pe_int) pa_nil))) (pv 1)))))), ?_⟩
  refine ⟨_, rfl, B, d, 4, rfl, hD, by decide, by decide, fun H1 v1 hD1 _ _ => ⟨_, _, rfl, rfl, _, rfl, ?_⟩⟩
  refine ite2 (fun _ => ?_) (fun _ => ?_)
  · refine ⟨_, rfl, B, d, 21, rfl, hD1, by decide, by decide, fun H2 v hD2 v0 v6 => ⟨_, _, rfl, rfl, q _ _ hD2 ?_⟩⟩
    have : (v - 10).natAbs ≤ 10 := by omega
    exact Nat.lt_of_le_of_lt this (by decide)
  · refine ⟨10, 40, rfl, rfl, ⟨by decide, by decide, by decide⟩, _, _, rfl, rfl, ?_⟩
    refine ⟨_, rfl, _, rfl, _, _, rfl, rfl, .inl ⟨by decide, by decide⟩, _, _, rfl, rfl, B, d, _, rfl, hD1, by decide, by decide, fun H2 v hD2 v0 v6 => ⟨_, rfl, _, _, rfl, rfl, q _ _ hD2 ?_⟩⟩
    have e1 : (10 : Int) ^ (40 : Int).toNat - 1 = 9999999999999999999999999999999999999999 := by decide
    rw [e1] at v6 ⊢
    have e2 : (10 : Nat) ^ 40 = 10000000000000000000000000000000000000000 := by decide
    rw [e2]
    omega
abbrev s__law_recipe : Stmt := topS 19
abbrev N__law_recipe : List Str := ["deck", "deep", "left", "kind", "one", "word", "two", "k"]
theorem sc__law_recipe : FnScope N__law_recipe ["deck", "deep", "left"] (defScope s__law_recipe) := ⟨rfl, rfl, rfl, by decide +kernel, rfl, by decide +kernel, by decide +kernel⟩

theorem ok__law_recipe (T : Txt K mg) (D : IsDef K mg "_law_recipe" s__law_recipe ["deck", "deep", "left"]) (C__law_draw : Cal P w K mg base CX0 1 "_law_draw" ["deck", "many"] spDraw)
    (C__law_number : Cal P w K mg base CX0 2 "_law_number" ["deck"] spNumber) (C__law_name : Cal P w K mg base CX0 2 "_law_name" ["deck"] spName) {k : Nat}
    (C__law_recipe : Cal P w K mg base CX0 (k + 3) "_law_recipe" ["deck", "deep", "left"] (spRecipe k)) : Cal P w K mg base CX0 (k + 4) "_law_recipe" ["deck", "deep", "left"] (spRecipe (k + 1)) := by
  refine D.cal sc__law_recipe (fun vs H Q E h => ?_) (fun f cdv A outer s H vs Q E hr h => ?_)
  · obtain ⟨B, d, l, deep, n, rfl, _⟩ := h
    rfl
  obtain ⟨B, d, l, deep, n, rfl, hD, hl, d1, dk, q⟩ := h
  refine ⟨_, (pss_cons (ps_asg (pe_op op_sub (pe_ix (r := rIxL K) ix_list (pv 2) pe_int (fun _ _ => rfl)) pe_int) (pg_sub (pv 2) pe_int set_list))
      (pss_cons (ps_set (i := 3) sc__law_recipe.nd rfl (Or.inl rfl) (pe_cal C__law_draw (hr.mono (by first | decide | omega)) pass0 (pa_cons (pv 0) (pa_cons pe_int pa_nil))))
      (pss_cons (ps_if (PW.pt (pw_or (pt_cmpR op_lt (pv 1) pe_int (nomark _)) (pw_or (pt_cmpR op_lt (pe_ix (r := rIxL K) ix_list (pv 2) pe_int (fun _ _ => rfl)) pe_int (nomark _)) (pw_or1 (pt_cmpR op_lt (pv 3) pe_int (nomark _))))))
        (pss_cons (ps_if (pt_cmpR op_eq (pe_cal C__law_draw (hr.mono (by first | decide | omega)) pass0 (pa_cons (pv 0) (pa_cons pe_int pa_nil))) pe_int (nomark _))
        (pss_one (ps_ret (pe_tup (pa_cons pe_str (pa_cons (pe_cal C__law_number (hr.mono (by first | decide | omega)) pass0 (pa_cons (pv 0) pa_nil)) pa_nil)))))
        pss_nil)
      (pss_one (ps_ret (pe_tup (pa_cons pe_str (pa_cons (pe_cal C__law_name (hr.mono (by first | decide | omega)) pass0 (pa_cons (pv 0) pa_nil)) pa_nil))))))
        pss_nil)
      (pss_cons (ps_set (i := 4) sc__law_recipe.nd rfl (Or.inl rfl) (pe_cal C__law_recipe (hr.mono (by first | decide | omega)) pass0 (pa_cons (pv 0) (pa_cons (pe_op op_sub (pv 1) pe_int) (pa_cons (pv 2) pa_nil)))))
      (pss_cons (ps_if (pt_cmpR op_lt (pv 3) pe_int (nomark _))
        (pss_cons (ps_set (i := 5) sc__law_recipe.nd rfl (Or.inl rfl) (pe_ix (r := rIxL K) ix_list (pe_lst (pa_cons pe_str (pa_cons pe_str (pa_cons pe_str (pa_cons pe_str (pa_cons pe_str pa_nil)))))) (pe_op op_sub (pv 3) pe_int) (fun _ _ => rfl)))
      (pss_one (ps_ret (pe_tup (pa_cons (pv 5) (pa_cons (pv 4) (pa_cons (pe_cal C__law_recipe (hr.mono (by first | decide | omega)) pass0 (pa_cons (pv 0) (pa_cons (pe_op op_sub (pv 1) pe_int) (pa_cons (pv 2) pa_nil)))) pa_nil)))))))
        pss_nil)
      (pss_cons (ps_if (pt_cmpR op_eq (pv 3) pe_int (nomark _))
        (pss_cons (ps_set (i := 6) sc__law_recipe.nd rfl (Or.inl rfl) (pe_cal C__law_recipe (hr.mono (by first | decide | omega)) pass0 (pa_cons (pv 0) (pa_cons (pe_op op_sub (pv 1) pe_int) (pa_cons (pv 2) pa_nil)))))
      (pss_one (ps_ret (pe_tup (pa_cons pe_str (pa_cons (pv 4) (pa_cons (pv 6) (pa_cons (pe_cal C__law_recipe (hr.mono (by first | decide | omega)) pass0 (pa_cons (pv 0) (pa_cons (pe_op op_sub (pv 1) pe_int) (pa_cons (pv 2) pa_nil)))) pa_nil))))))))
        pss_nil)
      (pss_one (ps_ret (pe_tup (pa_cons pe_str (pa_cons (pv 4) (pa_cons (pe_callTy call_tuple_of (by rfl) T.b_tuple (by decide +kernel) (pa_cons (pe_lc (own := [("k", 7)]) (g := gName 7)  (by rfl) sc__law_recipe.nd  (pi_range1 rfl T.b_range (pa_cons (pe_op op_add pe_int (pe_cal C__law_draw (hr.mono (by first | decide | omega)) pass0 (pa_cons (pv 0) (pa_cons pe_int pa_nil)))) pa_nil)) (blkOk_by (own := [("k", 7)]) (N := N__law_recipe) (sc := defScope s__law_recipe) (by decide +kernel)) (fun _ _ _ _ _ => (pg_name (i := 7) sc__law_recipe.nd rfl (Or.inl rfl))) (fun _ _ _ _ _ => pts_nil) (fun _ _ _ _ _ => (pe_cal C__law_name (hr.mono (by first | decide | omega)) pass0 (pa_cons (pv 0) pa_nil)))) pa_nil)) pa_nil)))))))))))), ?_⟩
  -- left[0] = left[0] - 1
  refine ⟨_, rfl, l, _, _, _, rfl, rfl, SqL.of (hD.1 _ _ hl), rfl, _, _, rfl, rfl, _, rfl, l, _, _, _, rfl, rfl, hD.1 _ _ hl, rfl, ?_⟩
  have hD1 : DeckAt (upd B l (.lst [.int (n - 1)])) (upd H l (.lst [.int (n - 1)])) d := hD.put hl _
  have hl1 : upd B l (.lst [.int (n - 1)]) l = some (.lst [.int (n - 1)]) := upd_same
  have hb1 : ∀ b o, b ≠ l → B b = some o → upd B l (.lst [.int (n - 1)]) b = some o := fun b o z e => by rw [upd_ne z]; exact e
  -- kind = _law_draw(deck, 10)
  refine ⟨_, rfl, _, d, 10, rfl, hD1, by decide, by decide, fun H2 kind hD2 k0 k10 => ?_⟩
  refine ⟨_, rfl, _, _, rfl, rfl, _, rfl, ite2 (fun c1 => ?leaf1) (fun c1 => ⟨_, rfl, l, _, _, _, rfl, rfl, SqL.of (hD2.1 _ _ hl1), rfl, _, _, rfl, rfl, _, rfl, ite2 (fun c2 => ?leaf2) (fun c2 => ⟨_, rfl, _, _, rfl, rfl, _, rfl, ite2 (fun c3 => ?leaf3) (fun c3 => ?main)⟩)⟩)⟩
  case main =>
    have hdeep : 2 ≤ deep := by
      have : ¬ deep < 2 := fun z => c1 (decide_eq_true z)
      omega
    have hn1 : 1 ≤ n - 1 := by
      have : ¬ n - 1 < 1 := fun z => c2 (decide_eq_true z)
      omega
    have hk2 : 2 ≤ kind := by
      have : ¬ kind < 2 := fun z => c3 (decide_eq_true z)
      omega
    -- one = _law_recipe(deck, deep - 1, left)
    refine ⟨_, rfl, _, rfl, _, _, rfl, rfl, _, rfl, _, d, l, deep - 1, n - 1, rfl, hD2, hl1, by omega, by omega, fun B3 H3 n3 v3 r3 hb3 hl3 hD3 rr3 g3 dp3 sz3 mn3 => ?_⟩
    refine ⟨_, rfl, _, _, rfl, rfl, _, rfl, ite2 (fun c4 => ?_) (fun c4 => ?_)⟩
    · have hk7 : kind < 7 := of_decide_eq_true c4
      obtain ⟨kd, hkd⟩ := kind_is (n := kind - 2) (by omega) (by omega)
      refine ⟨le_line (Nat.le_of_ble_eq_true rfl), fun p np => ⟨_, rfl, _, _, rfl, rfl, p, _, _, _, rfl, rfl, SqL.of upd_same, hkd, ?_⟩⟩
      have hD3' := hD3.new np (.lst [.str "plus", .str "minus", .str "times", .str "most", .str "plus"])
      have lp : l ≠ p := ne_of_none (hD3.1 _ _ hl3) np
      have np' : B3 p = none := hD3.free np
      refine ⟨_, rfl, _, rfl, _, rfl, _, rfl, _, _, rfl, rfl, _, rfl, _, d, l, deep - 1, n3, rfl, hD3', by rw [upd_ne lp]; exact hl3, by omega, by omega, fun B4 H4 n4 v4 r4 hb4 hl4 hD4 rr4 g4 dp4 sz4 mn4 => ?_⟩
      refine ⟨le_line (Nat.le_of_ble_eq_true rfl), fun t nt => ?_⟩
      have nt' : B4 t = none := hD4.free nt
      have hpl : upd B3 p (.lst [.str "plus", .str "minus", .str "times", .str "most", .str "plus"]) l = some (.lst [.int n3]) := by rw [upd_ne lp]; exact hl3
      have tl : l ≠ t := ne_of_none hl4 nt'
      have k4 : Keep B4 (upd B4 t (.tup [.str kd.name, v3, v4])) := same_keep (same_new nt' _)
      refine q _ _ n4 (.ref t) (.two kd r3 r4) (fun b o z e => ?_) (by rw [upd_ne tl]; exact hl4) (hD4.new nt _) ⟨t, v3, v4, rfl, upd_same, ?_, rr4.keep k4⟩ ⟨g3, g4⟩ ?_ ?_ ?_
      · have e4 := hb4 b o z (same_new np' _ b o (hb3 b o z (hb1 b o z e)))
        rw [upd_ne (ne_of_none e4 nt')]
        exact e4
      · exact rr3.keep (((same_keep (same_new np' _)).trans (keep_but hpl hb4)).trans k4)
      · show ((max r3.dep r4.dep + 1 : Nat) : Int) ≤ deep
        omega
      · show ((r3.siz + r4.siz + 1 : Nat) : Int) = n - n4
        omega
      · omega
    · have hk7 : 7 ≤ kind := by
        have : ¬ kind < 7 := fun z => c4 (decide_eq_true z)
        omega
      refine ⟨_, rfl, rfl, _, rfl, ite2 (fun c5 => ?_) (fun c5 => ?_)⟩
      · refine ⟨_, rfl, _, rfl, _, _, rfl, rfl, _, rfl, _, d, l, deep - 1, n3, rfl, hD3, hl3, by omega, by omega, fun B4 H4 n4 v4 r4 hb4 hl4 hD4 rr4 g4 dp4 sz4 mn4 => ?_⟩
        refine ⟨_, rfl, _, rfl, _, rfl, _, rfl, _, _, rfl, rfl, _, rfl, _, d, l, deep - 1, n4, rfl, hD4, hl4, by omega, by omega, fun B5 H5 n5 v5 r5 hb5 hl5 hD5 rr5 g5 dp5 sz5 mn5 => ?_⟩
        refine ⟨le_line (Nat.le_of_ble_eq_true rfl), fun t nt => ?_⟩
        have nt' : B5 t = none := hD5.free nt
        have tl : l ≠ t := ne_of_none hl5 nt'
        have k5 : Keep B5 (upd B5 t (.tup [.str "pick", v3, v4, v5])) := same_keep (same_new nt' _)
        refine q _ _ n5 (.ref t) (.pick r3 r4 r5) (fun b o z e => ?_) (by rw [upd_ne tl]; exact hl5) (hD5.new nt _) ⟨t, v3, v4, v5, rfl, upd_same, ?_, ?_, rr5.keep k5⟩ ⟨g3, g4, g5⟩ ?_ ?_ ?_
        · have e4 := hb5 b o z (hb4 b o z (hb3 b o z (hb1 b o z e)))
          rw [upd_ne (ne_of_none e4 nt')]
          exact e4
        · exact rr3.keep (((keep_but hl3 hb4).trans (keep_but hl4 hb5)).trans k5)
        · exact rr4.keep ((keep_but hl4 hb5).trans k5)
        · show ((max r3.dep (max r4.dep r5.dep) + 1 : Nat) : Int) ≤ deep
          omega
        · show ((r3.siz + r4.siz + r5.siz + 1 : Nat) : Int) = n - n5
          omega
        · omega
      · refine ⟨_, rfl, _, rfl, B3, d, 9, rfl, hD3, by decide, by decide, fun H4 m hD4 m0 m9 => ⟨_, _, rfl, rfl, 1 + m, rfl, Int.le_trans (by decide) (Int.add_nonneg (by decide) m0), by omega, ?_⟩⟩
        refine fun L nL => lc_range (lo := 0) (n := (1 + m).toNat) (fun i H => ∃ (B' : Hp) (ss : List (List Nat)), Same B3 B' ∧ DeckAt B' H d ∧ B' L = some (.lst (txs ss)) ∧ ss.length = i ∧ ∀ s ∈ ss, Nm s)
          ⟨_, [], same_new (hD4.free nL) _, hD4.new nL _, upd_same, rfl, by simp⟩ ?_ ?_
        · rintro i H5 hi ⟨B', ss, hB, hD5, hL, hn, hc⟩
          refine ⟨rfl, _, rfl, B', d, rfl, hD5, fun B6 H6 s hB6 hD6 hs => ⟨_, hD6.1 _ _ (hB6 _ _ hL), by rw [txs_len, hn]; exact lt_line (by omega), ?_⟩⟩
          refine ⟨upd B6 L _, ss ++ [s], fun b o e => ?_, hD6.put (hB6 _ _ hL) _, by rw [upd_same, txs_app]; rfl, by rw [List.length_append, hn]; rfl, fun c hcm => ?_⟩
          · have z : b ≠ L := fun z => by
              rw [z] at e
              rw [hD4.free nL] at e
              cases e
            rw [upd_ne z]
            exact hB6 b o (hB b o e)
          · rcases List.mem_append.mp hcm with h | h
            · exact hc c h
            · rw [List.mem_singleton.mp h]
              exact hs
        · rintro H5 ⟨B', ss, hB, hD5, hL, hn, hc⟩
          refine ⟨L, _, rfl, .inl ⟨SqL.of (hD5.1 _ _ hL), fun u nu => ⟨le_line (Nat.le_of_ble_eq_true rfl), fun t nt => ?_⟩⟩⟩
          have ut : u ≠ t := ne_of_none upd_same nt
          have nu' : B' u = none := hD5.free nu
          have hDu := hD5.new nu (.tup (txs ss))
          have nt' : upd B' u (.tup (txs ss)) t = none := hDu.free nt
          have hl' : B' l = some (.lst [.int n3]) := hB _ _ hl3
          have lu : l ≠ u := ne_of_none hl' nu'
          have hlu : upd B' u (.tup (txs ss)) l = some (.lst [.int n3]) := by rw [upd_ne lu]; exact hl'
          have tl : l ≠ t := ne_of_none hlu nt'
          refine q _ _ n3 (.ref t) (.choose r3 ss) (fun b o z e => ?_) (by rw [upd_ne tl]; exact hlu) (hDu.new nt _) ⟨t, v3, u, rfl, upd_same, ?_, by rw [upd_ne ut, upd_same]⟩ ⟨g3, by omega, by omega, hc⟩ ?_ ?_ ?_
          · exact same_new nt' _ b o (same_new nu' _ b o (hB b o (hb3 b o z (hb1 b o z e))))
          · exact rr3.same ((hB.trans (same_new nu' _)).trans (same_new nt' _))
          · show ((r3.dep + 1 : Nat) : Int) ≤ deep
            omega
          · show ((r3.siz + 1 : Nat) : Int) = n - n3
            omega
          · omega
  all_goals
    refine ⟨_, rfl, _, d, 2, rfl, hD2, by decide, by decide, fun H3 c hD3 _ _ => ⟨rfl, _, rfl, ite2 (fun _ => ?_) (fun _ => ?_)⟩⟩
    · refine ⟨_, rfl, _, d, rfl, hD3, fun H4 x hD4 hx => ⟨le_line (Nat.le_of_ble_eq_true rfl), fun t nt => ?_⟩⟩
      have nt' := hD4.free nt
      have tl : l ≠ t := ne_of_none hl1 nt'
      refine q _ _ (n - 1) (.ref t) (.num x) (fun b o z e => same_new nt' _ b o (hb1 b o z e)) (by rw [upd_ne tl]; exact hl1) (hD4.new nt _) ⟨t, rfl, upd_same⟩ hx ?_ ?_ ?_
      · show ((1 : Nat) : Int) ≤ deep
        omega
      · show ((1 : Nat) : Int) = n - (n - 1)
        omega
      · omega
    · refine ⟨_, rfl, _, d, rfl, hD3, fun B4 H4 x hB4 hD4 hx => ⟨le_line (Nat.le_of_ble_eq_true rfl), fun t nt => ?_⟩⟩
      have nt' := hD4.free nt
      have hl4 := hB4 _ _ hl1
      have tl : l ≠ t := ne_of_none hl4 nt'
      refine q _ _ (n - 1) (.ref t) (.read x) (fun b o z e => same_new nt' _ b o (hB4 b o (hb1 b o z e))) (by rw [upd_ne tl]; exact hl4) (hD4.new nt _) ⟨t, rfl, upd_same⟩ hx ?_ ?_ ?_
      · show ((1 : Nat) : Int) ≤ deep
        omega
      · show ((1 : Nat) : Int) = n - (n - 1)
        omega
      · omega
theorem all__law_recipe (T : Txt K mg) (D : IsDef K mg "_law_recipe" s__law_recipe ["deck", "deep", "left"]) (C__law_draw : Cal P w K mg base CX0 1 "_law_draw" ["deck", "many"] spDraw)
    (C__law_number : Cal P w K mg base CX0 2 "_law_number" ["deck"] spNumber) (C__law_name : Cal P w K mg base CX0 2 "_law_name" ["deck"] spName) :
    ∀ k : Nat, Cal P w K mg base CX0 (k + 3) "_law_recipe" ["deck", "deep", "left"] (spRecipe k)
  | 0 => cal_none D fun vs H Q E h => by
    obtain ⟨B, d, l, deep, n, _, _, _, h1, h2, _⟩ := h
    omega
  | k + 1 => ok__law_recipe T D C__law_draw C__law_number C__law_name (all__law_recipe T D C__law_draw C__law_number C__law_name k)
end
/-! ### a walk over what is a list or a tuple -/
def iSeq (K : PySem.W.Frag) (tl : TE) : TI := fun σ H R => tl σ H fun x H1 => ∃ a xs, x = .ref a ∧ ((SqL K H1 a xs ∧ R (Itl K a) H1) ∨ (SqT K H1 a xs ∧ R (Itt K a) H1))
theorem pi_seq {X : Cx} {tg l : Expr} {tl : TE} {K : PySem.W.Frag} (hK : X.K = K) (hl : PE X l tl) : PI X tg l (iSeq K tl) := by
  subst hK
  constructor
  intro pins s σ H R I h
  refine thn (hl.run pins s σ H _ I h) fun v s1 c => ?_
  obtain ⟨x, H1, I1, r1, a, xs, rfl, q⟩ := c
  cases r1
  rcases q with ⟨hq, q⟩ | ⟨hq, q⟩
  · obtain ⟨its, _, p, _⟩ := I1.list hq
    exact wpAny_pyIter_list (p.isList) ⟨s1.heap.objs.size, [s1.heap.objs.size], _, _, H1, rfl, I1.kept (t' := s1.toks) fun _ _ e => Heap.get?_push_of_some _ e, turn_list a _, ⟨_, Heap.get?_push_size _ rfl, rfl, rfl⟩, fun b hb => by
      rw [List.mem_singleton.mp hb]
      exact I1.fpOk (Nat.le_refl _) (I1.hok.fresh (Nat.le_refl _)), q⟩
  · obtain ⟨its, _, p, _⟩ := I1.tuple hq
    exact wpAny_pyIter_tuple (show s1.heap.IsTuple a (its.toArray) from p) ⟨s1.heap.objs.size, [s1.heap.objs.size], _, _, H1, rfl, I1.kept (t' := s1.toks) fun _ _ e => Heap.get?_push_of_some _ e, turn_tuple a _, ⟨_, Heap.get?_push_size _ rfl, rfl, rfl⟩, fun b hb => by
      rw [List.mem_singleton.mp hb]
      exact I1.fpOk (Nat.le_refl _) (I1.hok.fresh (Nat.le_refl _)), q⟩
/-! ### join with the heap's frame named, for comprehensions -/
def rJoinK (K : PySem.W.Frag) : V → List V → Hp → VK → Prop := fun x xs H Q => ∃ a p, ∃ ys : List Str, x = .str a ∧ xs = [.ref p] ∧ (SqL K H p (ys.map V.str) ∨ SqT K H p (ys.map V.str)) ∧ (ys.map (·.length)).sum + ys.length * a.length ≤ 16777216 ∧ Q (.str (Txt.join a ys)) H
theorem pe_joinK {X : Cx} {o e : Expr} {to te : TE} {K : PySem.W.Frag} {apos pos : Pos} (hK : X.K = K) (ho : PE X o to) (he : PE X e te) (hs : starEach [e] X.env = [(false, eval e X.env)] := by rfl) (hb : attributeBase o "join" X.env (eval o X.env) = eval o X.env := by rfl) (hl : (apos.endLine == pos.line) = true := by rfl) :
    PE X (.Call (.Attribute o "join" apos) [e] [] pos) (tM1 (rJoinK K) to te) := by
  subst hK
  exact pe_join ho he hs hb hl
theorem tcut_nat (ts : List (List Nat)) {a b : Nat} (h : a ≤ b) : cutV (txs ts) (some (a : Int)) (some (b : Int)) = txs ((ts.drop a).take (b - a)) := by
  rw [cut_nat _ h]
  unfold txs
  rw [← List.map_drop, ← List.map_take, ← List.map_drop, ← List.map_take]
theorem tcut_from (ts : List (List Nat)) {a : Nat} (h : a ≤ ts.length) : cutV (txs ts) (some (a : Int)) none = txs (ts.drop a) := by
  show ((txs ts).drop (HT.sIx (txs ts).length 0 (some (a : Int)))).take (HT.sIx (txs ts).length (txs ts).length none - HT.sIx (txs ts).length 0 (some (a : Int))) = _
  rw [HT.sIx_nat, HT.sIx_none, txs_len, Nat.min_eq_left h, List.take_of_length_le (by rw [List.length_drop, txs_len]; exact Nat.le_refl _)]
  unfold txs
  rw [← List.map_drop, ← List.map_drop]
/-! ### rows of names put together -/
def RowN (H : Hp) (m : List (List Nat)) (x : V) : Prop := ∃ p, x = .ref p ∧ (H p = some (.lst (txs m)) ∨ H p = some (.tup (txs m)))
theorem RowN.same {H H' : Hp} {m : List (List Nat)} {x : V} (h : RowN H m x) (s : Same H H') : RowN H' m x := by
  obtain ⟨p, e, h⟩ := h
  exact ⟨p, e, h.imp (s _ _) (s _ _)⟩
def RowsN (H : Hp) : List (List (List Nat)) → List V → Prop
  | [], [] => True
  | m :: ms, x :: xs => RowN H m x ∧ RowsN H ms xs
  | _, _ => False
theorem RowsN.same {H H' : Hp} (s : Same H H') : ∀ {ms : List (List (List Nat))} {xs : List V}, RowsN H ms xs → RowsN H' ms xs
  | [], [], _ => trivial
  | _ :: _, _ :: _, h => ⟨h.1.same s, RowsN.same s h.2⟩
  | [], _ :: _, h => h.elim
  | _ :: _, [], h => h.elim
theorem RowsN.len {H : Hp} : ∀ {ms : List (List (List Nat))} {xs : List V}, RowsN H ms xs → xs.length = ms.length
  | [], [], _ => rfl
  | _ :: _, _ :: _, h => congrArg (· + 1) (RowsN.len h.2)
  | [], _ :: _, h => h.elim
  | _ :: _, [], h => h.elim
theorem RowsN.at {H : Hp} : ∀ {ms : List (List (List Nat))} {xs : List V} {i : Nat} {x : V}, RowsN H ms xs → xs[i]? = some x → ∃ m, ms[i]? = some m ∧ RowN H m x
  | [], [], i, x, _, e => by simp at e
  | m :: _, _ :: _, 0, x, h, e => ⟨m, rfl, by cases e; exact h.1⟩
  | _ :: _, _ :: _, i + 1, x, h, e => RowsN.at (i := i) h.2 (by simpa using e)
  | [], _ :: _, _, _, h, _ => h.elim
  | _ :: _, [], _, _, h, _ => h.elim
def spTogether : Sp := fun vs H Q _ => ∃ (a : Addr) (xs : List V) (ms : List (List (List Nat))), vs = [.ref a] ∧ H a = some (.lst xs) ∧ RowsN H ms xs ∧ (ms.map List.length).sum ≤ 100000 ∧
  ∀ (H' : Hp) (p : Addr) (ys : List (List Nat)), Same H H' → H p = none → H' p = some (.lst (txs ys)) → SI ys → (∀ s, s ∈ ys ↔ ∃ m ∈ ms, s ∈ m) → Q (.ref p) H'
theorem nd_len {kvs : List (Key × V)} {ns : List (List Nat)} (h : NDict kvs ns) : kvs.length = ns.length := by
  have := congrArg List.length h.1
  rw [List.length_map, List.length_map] at this
  exact this
theorem sum_take {ms : List (List (List Nat))} {i : Nat} {m : List (List Nat)} (h : ms[i]? = some m) : ((ms.take i).map List.length).sum + m.length ≤ (ms.map List.length).sum := by
  have e : ms = ms.take i ++ m :: ms.drop (i + 1) := by
    have hi := (List.getElem?_eq_some_iff.mp h)
    obtain ⟨hi, he⟩ := hi
    rw [← he, ← List.drop_eq_getElem_cons hi, List.take_append_drop]
  conv => rhs; rw [e]
  rw [List.map_append, List.sum_append, List.map_cons, List.sum_cons]
  omega
section
variable {P : Program} {w : World} {K : PySem.W.Frag} {mg : Str → Option Value} {base : Heap}
abbrev s__law_together : Stmt := topS 20
abbrev N__law_together : List Str := ["rows", "found", "row", "name"]
theorem sc__law_together : FnScope N__law_together ["rows"] (defScope s__law_together) := ⟨rfl, rfl, rfl, by decide +kernel, rfl, by decide +kernel, by decide +kernel⟩

theorem ok__law_together (T : Txt K mg) (D0 : IsDef K mg "_law_together" s__law_together ["rows"]) : Cal P w K mg base CX0 1 "_law_together" ["rows"] spTogether := by
  refine D0.cal sc__law_together (fun vs H Q E h => ?_) (fun f cdv A outer s H vs Q E hr h => ?_)
  · obtain ⟨a, xs, ms, rfl, _⟩ := h
    rfl
  obtain ⟨a, xs, ms, rfl, ha, hR, hsum, q⟩ := h
  have hu := Nat.lt_of_le_of_lt (Nat.add_le_add_left (by decide : 1 ≤ 64) _) hr.units
  refine ⟨_, (pss_cons (ps_set (i := 1) sc__law_together.nd rfl (Or.inl rfl) pe_dnewK)
      (pss_cons (ps_for PassesOwn.never rfl (pi_list (pv 0)) (pg_name (i := 2) sc__law_together.nd rfl (Or.inl rfl))
        (pss_one (ps_for PassesOwn.never rfl ((pi_seq (K := K) rfl) (pv 2)) (pg_name (i := 3) sc__law_together.nd rfl (Or.inl rfl))
        (pss_one (ps_dput hu (pv 1) (pv 3) pe_bl rfl)))))
      (pss_one (ps_ret (pe_callB (cr_sortTD rfl) (by rfl) T.b_sorted (by decide +kernel) (pa_cons (pv 1) pa_nil)))))), ?_⟩
  refine fun D nD => ?_
  refine ⟨_, rfl, a, rfl, ⟨_, SqL.of (same_new nD _ _ _ ha)⟩, for_list (K := K) (a := a) (xs := xs) (fun i σ H' => ∃ (v2 v3 : Option V) (kvs : List (Key × V)) (ns : List (List Nat)), σ = [some (.ref a), some (.ref D), v2, v3] ∧ Same H H' ∧ H' D = some (.dK kvs) ∧ NDict kvs ns ∧ (∀ s, s ∈ ns ↔ ∃ m ∈ ms.take i, s ∈ m) ∧ ns.length ≤ ((ms.take i).map List.length).sum)
    ⟨none, none, [], [], rfl, same_new nD _, upd_same, ⟨rfl, List.nodup_nil⟩, fun s => by simp, Nat.zero_le _⟩ (fun i σ H' _ ⟨_, _, _, _, _, h, _⟩ => SqL.of (h _ _ ha)) ?_ ?_⟩
  · rintro i x σ H1 hx ⟨v2, v3, kvs, ns, rfl, hs, hD, hN, hmem, hl⟩
    obtain ⟨m, hmi, p, rfl, hp⟩ := hR.at hx
    have hst := sum_take hmi
    rcases hp with hp | hp
    ·
      refine ⟨_, rfl, p, txs m, rfl, .inl ⟨SqL.of (hs _ _ hp), for_list (K := K) (a := p) (xs := txs m) (fun j σ' H' => ∃ (v3 : Option V) (kvs' : List (Key × V)) (ns' : List (List Nat)), σ' = [some (.ref a), some (.ref D), some (.ref p), v3] ∧ Same H H' ∧ H' D = some (.dK kvs') ∧ NDict kvs' ns' ∧ (∀ s, s ∈ ns' ↔ s ∈ ns ∨ s ∈ m.take j) ∧ ns'.length ≤ ns.length + j)
        ⟨v3, kvs, ns, rfl, hs, hD, hN, fun s => by rw [List.take_zero]; simp, Nat.le_refl _⟩ (fun j σ' H' _ ⟨_, _, _, _, h, _⟩ => SqL.of (h _ _ hp)) ?_ ?_⟩⟩
      · rintro j y σ' H2 hy ⟨w3, kvs', ns', rfl, hs2, hD2, hN2, hm2, hl2⟩
        have hj : j < m.length := by
          have := (List.getElem?_eq_some_iff.mp hy).1
          rw [txs_len] at this
          exact this
        rw [txs_get hj] at hy
        cases hy
        obtain ⟨ns4, hN4, hm4, hl4⟩ := hN2.put m[j] (.bl true)
        have := nd_len hN2
        refine ⟨_, rfl, _, rfl, D, _, rfl, DPut.k (k := keyN m[j]) hD2 (lt_line (by omega)), ?_⟩
        refine ⟨_, _, ns4, rfl, same_upd hs2 nD _, upd_same, hN4, fun s => ?_, by omega⟩
        rw [hm4 s, hm2 s, List.take_add_one, List.getElem?_eq_getElem hj, List.mem_append, or_assoc]
        simp
      · rintro σ' H2 ⟨w3, kvs', ns', rfl, hs2, hD2, hN2, hm2, hl2⟩
        rw [txs_len, List.take_length] at hm2
        rw [txs_len] at hl2
        refine ⟨_, _, kvs', ns', rfl, hs2, hD2, hN2, fun s => ?_, ?_⟩
        · rw [hm2 s, hmem s, List.take_add_one, hmi]
          simp only [Option.toList, List.mem_append, List.mem_singleton]
          constructor
          · rintro (⟨m', h1, h2⟩ | h)
            · exact ⟨m', .inl h1, h2⟩
            · exact ⟨m, .inr rfl, h⟩
          · rintro ⟨m', h1 | h1, h2⟩
            · exact .inl ⟨m', h1, h2⟩
            · exact .inr (h1 ▸ h2)
        · rw [List.take_add_one, hmi, List.map_append, List.sum_append]
          show ns'.length ≤ _ + (m.length + 0)
          omega
    ·
      refine ⟨_, rfl, p, txs m, rfl, .inr ⟨SqT.of (hs _ _ hp), for_tup (K := K) (a := p) (xs := txs m) (fun j σ' H' => ∃ (v3 : Option V) (kvs' : List (Key × V)) (ns' : List (List Nat)), σ' = [some (.ref a), some (.ref D), some (.ref p), v3] ∧ Same H H' ∧ H' D = some (.dK kvs') ∧ NDict kvs' ns' ∧ (∀ s, s ∈ ns' ↔ s ∈ ns ∨ s ∈ m.take j) ∧ ns'.length ≤ ns.length + j)
        ⟨v3, kvs, ns, rfl, hs, hD, hN, fun s => by rw [List.take_zero]; simp, Nat.le_refl _⟩ (fun j σ' H' _ ⟨_, _, _, _, h, _⟩ => SqT.of (h _ _ hp)) ?_ ?_⟩⟩
      · rintro j y σ' H2 hy ⟨w3, kvs', ns', rfl, hs2, hD2, hN2, hm2, hl2⟩
        have hj : j < m.length := by
          have := (List.getElem?_eq_some_iff.mp hy).1
          rw [txs_len] at this
          exact this
        rw [txs_get hj] at hy
        cases hy
        obtain ⟨ns4, hN4, hm4, hl4⟩ := hN2.put m[j] (.bl true)
        have := nd_len hN2
        refine ⟨_, rfl, _, rfl, D, _, rfl, DPut.k (k := keyN m[j]) hD2 (lt_line (by omega)), ?_⟩
        refine ⟨_, _, ns4, rfl, same_upd hs2 nD _, upd_same, hN4, fun s => ?_, by omega⟩
        rw [hm4 s, hm2 s, List.take_add_one, List.getElem?_eq_getElem hj, List.mem_append, or_assoc]
        simp
      · rintro σ' H2 ⟨w3, kvs', ns', rfl, hs2, hD2, hN2, hm2, hl2⟩
        rw [txs_len, List.take_length] at hm2
        rw [txs_len] at hl2
        refine ⟨_, _, kvs', ns', rfl, hs2, hD2, hN2, fun s => ?_, ?_⟩
        · rw [hm2 s, hmem s, List.take_add_one, hmi]
          simp only [Option.toList, List.mem_append, List.mem_singleton]
          constructor
          · rintro (⟨m', h1, h2⟩ | h)
            · exact ⟨m', .inl h1, h2⟩
            · exact ⟨m, .inr rfl, h⟩
          · rintro ⟨m', h1 | h1, h2⟩
            · exact .inl ⟨m', h1, h2⟩
            · exact .inr (h1 ▸ h2)
        · rw [List.take_add_one, hmi, List.map_append, List.sum_append]
          show ns'.length ≤ _ + (m.length + 0)
          omega
  · rintro σ H1 ⟨v2, v3, kvs, ns, rfl, hs, hD, hN, hmem, hl⟩
    refine ⟨_, rfl, D, kvs, ns, rfl, hD, hN.1, fun ys p hpm hri hnp => ?_⟩
    refine q _ p ys (hs.trans (same_new hnp _)) (hs.free hnp) upd_same (si_of hri (hpm.nodup_iff.mpr hN.2)) fun s => ?_
    rw [hpm.mem_iff, hmem s, List.take_of_length_le (by rw [hR.len]; exact Nat.le_refl _)]
end
/-! ### is_house over dicts of names -/
theorem for_keys {d : Addr} {o : Obj} {kvs : List (Key × V)} {g : TG} {tb : TS} {D : Ends} {σ : L2.St} {H : Hp} (Pv : Nat → L2.St → Hp → Prop) (h0 : Pv 0 σ H) (hf : ∀ i σ H, Pv i σ H → H d = some (.frz o (.dK kvs)))
    (hs : ∀ i k v σ H, kvs[i]? = some (k, v) → Pv i σ H → g (kV k) σ H fun σ2 H2 => tb { D with nx := Pv (i + 1), ct := Pv (i + 1), bk := D.nx } σ2 H2) (hd : ∀ σ H, Pv kvs.length σ H → D.nx σ H) :
    ∃ W : Nat → Nat → L2.St → Hp → Prop, (∃ m, W 0 m σ H) ∧ ∀ i m σ H, W i m σ H →
      ((Itk d o kvs).stop i H ∧ D.nx σ H) ∨ ((Itk d o kvs).go i H ∧ ∃ N : L2.St → Hp → Prop, (∀ σ' H', N σ' H' → ∃ m', m' < m ∧ W (i + 1) m' σ' H') ∧ ∀ x H', (Itk d o kvs).yld i H x H' → g x σ H' fun σ2 H2 => tb { D with nx := N, ct := N, bk := D.nx } σ2 H2) := by
  refine ⟨fun i m σ H => m = kvs.length - i ∧ i ≤ kvs.length ∧ Pv i σ H, ⟨_, rfl, Nat.zero_le _, h0⟩, fun i m σ H w => ?_⟩
  obtain ⟨em, hi, p⟩ := w
  have hz := hf i σ H p
  by_cases hlt : i < kvs.length
  · refine Or.inr ⟨⟨hz, hlt⟩, Pv (i + 1), fun σ' H' p' => ⟨kvs.length - (i + 1), by omega, rfl, hlt, p'⟩, fun x H' y => ?_⟩
    obtain ⟨e, k, v, hk, ex⟩ := y
    rw [e, ex]
    exact hs i k v σ H hk p
  · have e : i = kvs.length := by omega
    rw [e] at p
    exact Or.inl ⟨⟨hz, by omega⟩, hd σ H p⟩
/-- a locked dict is let go -/
theorem same_unlock {H H' : Hp} {d : Addr} {o : Obj} {u : HO} (hd : H d = some u) (s : Same (upd H d (.frz o u)) H') : Same H (upd H' d u) := fun b w e => by
  by_cases z : b = d
  · subst z; rw [hd] at e; rw [upd_same]; exact e
  · rw [upd_ne z]; exact s b w (by rw [upd_ne z]; exact e)
theorem nm_tame {s : List Nat} (h : Nm s) : (Th.str s).tame = true := by
  show (decide (s.length ≤ 1000000) && s.all fun c => decide (c < 128)) = true
  have h2 := h.2.1
  rw [decide_eq_true (by omega), Bool.true_and, List.all_eq_true]
  intro c hc
  have := h.2.2 c hc
  exact decide_eq_true (by omega)
theorem keep_dk {H : Hp} {d : Addr} {kvs : List (Key × V)} {o : HO} (h : H d = some (.dK kvs)) : Keep H (upd H d o) := fun b xs e => by
  have ne : b ≠ d := fun z => by rw [z, h] at e; cases e
  rw [upd_ne ne]; exact e
section
variable {α : Type}
def nmD (f : α → V) (gs : List (List Nat × α)) : List (Key × V) := gs.map fun p => (keyN p.1, f p.2)
theorem nmD_val {f : α → V} : ∀ {gs : List (List Nat × α)} {p : List Nat × α}, (gs.map (·.1)).Nodup → p ∈ gs → valV (nmD f gs) (keyN p.1) = some (f p.2)
  | q :: gs, p, hn, hp => by
    obtain ⟨h1, h2⟩ := List.nodup_cons.mp hn
    rcases List.mem_cons.mp hp with e | hm
    · subst e
      show ((((keyN p.1, f p.2) :: nmD f gs).find? fun kv => decide (kv.1 = keyN p.1)).map (·.2)) = _
      rw [List.find?_cons_of_pos (by simp)]
      rfl
    · have ne : ¬ q.1 = p.1 := fun z => h1 (List.mem_map.mpr ⟨p, hm, z.symm⟩)
      show ((((keyN q.1, f q.2) :: nmD f gs).find? fun kv => decide (kv.1 = keyN p.1)).map (·.2)) = _
      rw [List.find?_cons_of_neg (by simp [keyN_ne ne])]
      exact nmD_val h2 hm
theorem nmD_some {f : α → V} : ∀ (gs : List (List Nat × α)) (s : List Nat), (valV (nmD f gs) (keyN s)).isSome = decide (s ∈ gs.map (·.1))
  | [], s => rfl
  | q :: gs, s => by
    by_cases e : q.1 = s
    · subst e
      show ((((keyN q.1, f q.2) :: nmD f gs).find? fun kv => decide (kv.1 = keyN q.1)).map (·.2)).isSome = _
      rw [List.find?_cons_of_pos (by simp)]
      simp
    · show ((((keyN q.1, f q.2) :: nmD f gs).find? fun kv => decide (kv.1 = keyN s)).map (·.2)).isSome = _
      rw [List.find?_cons_of_neg (by simp [keyN_ne e])]
      have := nmD_some (f := f) gs s
      unfold valV at this
      rw [this]
      simp only [List.map_cons, List.mem_cons]
      congr 1
      exact propext ⟨.inr, fun h => h.resolve_left fun z => e z.symm⟩
theorem nmD_at {f : α → V} {gs : List (List Nat × α)} {i : Nat} {k : Key} {v : V} (h : (nmD f gs)[i]? = some (k, v)) : ∃ p, gs[i]? = some p ∧ k = keyN p.1 ∧ v = f p.2 := by
  unfold nmD at h
  rw [List.getElem?_map] at h
  cases e : gs[i]? with
  | none => rw [e] at h; cases h
  | some p =>
    rw [e] at h
    cases h
    exact ⟨p, rfl, rfl, rfl⟩
end
def spIsHouse : Sp := fun vs H Q _ => ∃ (t dg dr : Addr) (gs : List (List Nat × Int)) (rs : List (List Nat × V)), vs = [.ref t] ∧ H t = some (.tup [.ref dg, .ref dr]) ∧ H dg = some (.dK (nmD V.int gs)) ∧ H dr = some (.dK (nmD id rs)) ∧ dg ≠ dr ∧
  (gs.map (·.1)).Nodup ∧ (rs.map (·.1)).Nodup ∧ (∀ p ∈ gs, Nm p.1) ∧ (∀ p ∈ rs, Nm p.1 ∧ ∃ r, Rec H r p.2 ∧ r.Good ∧ r.dep ≤ 8 ∧ r.siz ≤ 100) ∧ ∀ H', Same H H' → Q (.bl (decide (∀ p ∈ gs, p.1 ∉ rs.map (·.1)))) H'
section
variable {P : Program} {w : World} {K : PySem.W.Frag} {mg : Str → Option Value} {base : Heap}
abbrev s_is_house : Stmt := topS 12
abbrev N_is_house : List Str := ["thing", "given", "recipes", "name"]
theorem sc_is_house : FnScope N_is_house ["thing"] (defScope s_is_house) := ⟨rfl, rfl, rfl, by decide +kernel, rfl, by decide +kernel, by decide +kernel⟩

theorem ok_is_house (T : Txt K mg) (D0 : IsDef K mg "is_house" s_is_house ["thing"]) (C_is_name : Cal P w K mg base CX0 1 "is_name" ["thing"] spIsName) (C_is_whole : Cal P w K mg base CX0 1 "is_whole" ["thing"] spIsWhole) (C_is_recipe : Cal P w K mg base CX0 4 "is_recipe" ["thing"] spIsRecipe) :
    Cal P w K mg base CX0 5 "is_house" ["thing"] spIsHouse := by
  refine D0.cal sc_is_house (fun vs H Q E h => ?_) (fun f cdv A outer s H vs Q E hr h => ?_)
  · obtain ⟨t, dg, dr, gs, rs, rfl, _⟩ := h
    rfl
  obtain ⟨t, dg, dr, gs, rs, rfl, ht, hg, hd, ne, ng, nr, okg, okr, q⟩ := h
  have hu := Nat.lt_of_le_of_lt (Nat.add_le_add_left (by decide : 1 ≤ 64) _) hr.units
  refine ⟨_, (pss_cons (ps_if (PW.pt (pw_or (pt_not (pt_val (pe_callB call_isi (by rfl) T.b_isinstance (by decide +kernel) (pa_cons (pv 0) (pa_cons (pe_bltn (v := .ty "tuple") (by rfl) T.b_tuple (by decide +kernel) rfl) pa_nil))))) (pw_or1 (pt_cmpR op_ne (pe_callB call_len_seq (by rfl) T.b_len PySem.boot_len (pa_cons (pv 0) pa_nil)) pe_int (nomark _)))))
        (pss_one (ps_ret pe_bl))
        pss_nil)
      (pss_cons (ps_asg (pv 0) (pg_tup rfl (pgs_cons (pg_name (i := 1) sc_is_house.nd rfl (Or.inl rfl)) (pgs_cons (pg_name (i := 2) sc_is_house.nd rfl (Or.inl rfl)) pgs_nil))))
      (pss_cons (ps_if (PW.pt (pw_or (pt_not (pt_val (pe_callB call_isi (by rfl) T.b_isinstance (by decide +kernel) (pa_cons (pv 1) (pa_cons (pe_bltn (v := .ty "dict") (by rfl) T.b_dict (by decide +kernel) rfl) pa_nil))))) (pw_or1 (pt_not (pt_val (pe_callB call_isi (by rfl) T.b_isinstance (by decide +kernel) (pa_cons (pv 2) (pa_cons (pe_bltn (v := .ty "dict") (by rfl) T.b_dict (by decide +kernel) rfl) pa_nil))))))))
        (pss_one (ps_ret pe_bl))
        pss_nil)
      (pss_cons (ps_lock (ps_for PassesOwn.never rfl (pi_keys (pv 1)) (pg_name (i := 3) sc_is_house.nd rfl (Or.inl rfl))
        (pss_one (ps_if (PW.pt (pw_or (pt_not (pt_val (pe_cal C_is_name (hr.mono (by first | decide | omega)) pass0 (pa_cons (pv 3) pa_nil)))) (pw_or (pt_not (pt_val (pe_cal C_is_whole (hr.mono (by first | decide | omega)) pass0 (pa_cons (pe_dget hu (pv 1) (pv 3) (fun _ _ => rfl)) pa_nil)))) (pw_or1 (pt_cmp (pc_din hu (pv 3) (pv 2)))))))
        (pss_one (ps_ret pe_bl))
        pss_nil))))
      (pss_cons (ps_lock (ps_for PassesOwn.never rfl (pi_keys (pv 2)) (pg_name (i := 3) sc_is_house.nd rfl (Or.inl rfl))
        (pss_one (ps_if (PW.pt (pw_or (pt_not (pt_val (pe_cal C_is_name (hr.mono (by first | decide | omega)) pass0 (pa_cons (pv 3) pa_nil)))) (pw_or1 (pt_not (pt_val (pe_cal C_is_recipe (hr.mono (by first | decide | omega)) pass0 (pa_cons (pe_dget hu (pv 2) (pv 3) (fun _ _ => rfl)) pa_nil)))))))
        (pss_one (ps_ret pe_bl))
        pss_nil))))
      (pss_one (ps_ret pe_bl))))))), ?_⟩
  refine ⟨_, rfl, _, _, .type "tuple", _, true, rfl, .ty _, .base (.tup ht), kit_ty (by decide +kernel), _, rfl, not_true_eq rfl ?_⟩
  refine ⟨_, rfl, t, _, rfl, .inr (SqT.of ht), rfl, _, rfl, not_true_eq (decide_eq_true rfl) ?_⟩
  refine ⟨_, rfl, t, _, rfl, SqT.of ht, rfl, _, _, rfl, _, _, rfl, rfl, ?_⟩
  refine ⟨_, rfl, _, _, .type "dict", _, true, rfl, .ty _, .base (.dK hg), kit_ty (by decide +kernel), _, rfl, not_true_eq rfl ?_⟩
  refine ⟨_, rfl, _, _, .type "dict", _, true, rfl, .ty _, .base (.dK hd), kit_ty (by decide +kernel), _, rfl, not_true_eq rfl ?_⟩
  refine ⟨dg, _, hg, trivial, fun od => ⟨_, rfl, dg, od, rfl, .inl ⟨_, upd_same, for_keys (kvs := nmD V.int gs) (fun i σ H' => ∃ v3 : Option V, σ = [some (.ref t), some (.ref dg), some (.ref dr), v3] ∧ Same (upd H dg (.frz od (.dK (nmD V.int gs)))) H' ∧ ∀ p ∈ gs.take i, p.1 ∉ rs.map (·.1))
    ⟨none, rfl, Same.refl _, fun _ h => by simp at h⟩ (fun i σ H' ⟨_, _, h, _⟩ => h _ _ upd_same) ?_ ?_⟩⟩⟩
  · rintro i k v σ H1 hk ⟨v3, rfl, hs, hno⟩
    obtain ⟨p, hp, rfl, rfl⟩ := nmD_at hk
    have hpm := List.mem_of_getElem? hp
    have hnm := okg p hpm
    have hl := gs.length
    have tm : (Th.str p.1).tame = true := nm_tame hnm
    refine ⟨_, rfl, _, .str p.1, rfl, rfl, tm, fun H2 hs2 => ?_⟩
    rw [show (Th.str p.1).isNm = true from nmOk_iff.mpr hnm]
    have s12 := hs.trans hs2
    have hg2 := s12 _ _ (upd_same (H := H) (a := dg) (o := .frz od (.dK (nmD V.int gs))))
    have hd2 : H2 dr = some (.dK (nmD id rs)) := s12 _ _ (by rw [upd_ne (Ne.symm ne)]; exact hd)
    refine ⟨_, rfl, not_true_eq rfl ?_⟩
    refine ⟨_, rfl, _, rfl, dg, .int p.2, rfl, .inl ⟨_, keyN p.1, .inr ⟨od, hg2⟩, rfl, (nmD_val ng hpm).symm⟩, _, .int p.2, rfl, rfl, _, rfl, not_true_eq rfl ?_⟩
    refine ⟨_, rfl, _, rfl, dr, _, rfl, DGet.k (k := keyN p.1) hd2, ?_⟩
    rw [nmD_some]
    refine ⟨_, rfl, ?_⟩
    by_cases hin : p.1 ∈ rs.map (·.1)
    · refine iteY hin ⟨hg2, ?_⟩
      have e : decide (∀ p ∈ gs, p.1 ∉ rs.map (·.1)) = false := decide_eq_false fun z => z p hpm hin
      rw [e] at q
      exact q _ (same_unlock hg s12)
    · refine iteN hin ⟨_, rfl, s12, fun p' hp' => ?_⟩
      rw [List.take_add_one, hp] at hp'
      rcases List.mem_append.mp hp' with h | h
      · exact hno p' h
      · rw [List.mem_singleton.mp h]
        exact hin
  · rintro σ H1 ⟨v3, rfl, hs, hno⟩
    have hgl : (nmD V.int gs).length = gs.length := List.length_map _
    rw [hgl, List.take_length] at hno
    rw [decide_eq_true hno] at q
    have s1 := same_unlock hg hs
    refine ⟨hs _ _ upd_same, ?_⟩
    generalize upd H1 dg (.dK (nmD V.int gs)) = H2 at s1
    have hd2 := s1 _ _ hd
    refine ⟨dr, _, hd2, trivial, fun od2 => ⟨_, rfl, dr, od2, rfl, .inl ⟨_, upd_same, for_keys (kvs := nmD id rs) (fun i σ H' => ∃ v3 : Option V, σ = [some (.ref t), some (.ref dg), some (.ref dr), v3] ∧ Same (upd H2 dr (.frz od2 (.dK (nmD id rs)))) H')
      ⟨_, rfl, Same.refl _⟩ (fun i σ H' ⟨_, _, h⟩ => h _ _ upd_same) ?_ ?_⟩⟩⟩
    · rintro i k v σ H3 hk ⟨w3, rfl, hs3⟩
      obtain ⟨p, hp, rfl, rfl⟩ := nmD_at hk
      have hpm := List.mem_of_getElem? hp
      obtain ⟨hnm, r, hR, hG, hdp, hz⟩ := okr p hpm
      refine ⟨_, rfl, _, .str p.1, rfl, rfl, nm_tame hnm, fun H4 hs4 => ?_⟩
      rw [show (Th.str p.1).isNm = true from nmOk_iff.mpr hnm]
      have s34 := hs3.trans hs4
      have hd4 := s34 _ _ (upd_same (H := H2) (a := dr) (o := .frz od2 (.dK (nmD id rs))))
      have hR4 : Rec H4 r p.2 := ((hR.same s1).keep (keep_dk hd2)).same s34
      refine ⟨_, rfl, not_true_eq rfl ?_⟩
      refine ⟨_, rfl, _, rfl, dr, p.2, rfl, .inl ⟨_, keyN p.1, .inr ⟨od2, hd4⟩, rfl, (nmD_val (f := id) nr hpm).symm⟩, p.2, r.th, rfl, hR4.data, Rcp.tame hG, fun H5 hs5 => ?_⟩
      have hrc : r.th.isRcp = true := by
        have h8 := Rcp.okay 8 hG hdp
        show (r.th.okay 8 && decide (r.th.count 8 ≤ 100)) = true
        rw [h8.1, h8.2, decide_eq_true hz]
        rfl
      rw [hrc]
      exact ⟨_, rfl, not_true_eq rfl ⟨_, rfl, s34.trans hs5⟩⟩
    · rintro σ H3 ⟨w3, rfl, hs3⟩
      exact ⟨hs3 _ _ upd_same, q _ (s1.trans (same_unlock hd2 hs3))⟩
end
/-! ### texts of recipes -/
def Kd.sign : Kd → Nat
  | .plus => 43 | .minus => 45 | .times => 42 | .most => 94
def Kd.signS : Kd → Str
  | .plus => " + " | .minus => " - " | .times => " * " | .most => " ^ "
def intL (n : Int) : List Nat := (Str.ofString (toString n)).cps.toList
theorem intL_S (n : Int) : Str.ofString (toString n) = SX.S (intL n) := (SX.S_tl _).symm
def Rcp.txt : Rcp → List Nat
  | .num n => intL n
  | .read s => s
  | .two k a b => 40 :: (a.txt ++ (32 :: k.sign :: 32 :: (b.txt ++ [41])))
  | .pick a b c => 91 :: (a.txt ++ (32 :: 63 :: 32 :: (b.txt ++ (32 :: 58 :: 32 :: (c.txt ++ [93])))))
  | .choose a ns => a.txt ++ (123 :: (TL.joinL [44] ns ++ [125]))
theorem intL_len {n : Int} (h : n.natAbs < 10 ^ 40) : (intL n).length ≤ 41 := by
  have z : ∀ m : Int, 0 ≤ m → m.natAbs < 10 ^ 40 → (Str.ofString (toString m)).length ≤ 40 := fun m m0 hm => by
    refine PyProof.Rows.toString_length_le m0 (by decide) ?_
    have e : (m.natAbs : Int) = m := Int.natAbs_of_nonneg m0
    rw [← e]
    exact Int.ofNat_lt.mpr hm
  have e : (intL n).length = (Str.ofString (toString n)).length := by
    rw [intL_S n, SX.S_len]
  rw [e]
  by_cases h0 : 0 ≤ n
  · exact Nat.le_succ_of_le (z n h0 h)
  · rw [PyProof.Rows.len_text_neg (by omega)]
    have := z (0 - n) (by omega) (by rw [show (0 - n).natAbs = n.natAbs by omega]; exact h)
    omega
theorem joinL_len : ∀ {ns : List (List Nat)} (m : Nat), (∀ s ∈ ns, s.length ≤ m) → (TL.joinL [44] ns).length ≤ (m + 1) * ns.length
  | [], _, _ => Nat.zero_le _
  | [p], m, h => by
    have := h p (by simp)
    show p.length ≤ _
    simp; omega
  | p :: q :: r, m, h => by
    have h1 := h p (by simp)
    have h2 := joinL_len (ns := q :: r) m fun s hs => h s (List.mem_cons_of_mem _ hs)
    have e : (TL.joinL [44] (p :: q :: r)).length = p.length + (1 + (TL.joinL [44] (q :: r)).length) := by
      show (p ++ ([44] ++ TL.joinL [44] (q :: r))).length = _
      rw [List.length_append, List.length_append]
      rfl
    have e2 : (m + 1) * (p :: q :: r).length = (m + 1) * (q :: r).length + (m + 1) := Nat.mul_succ _ _
    rw [e, e2]
    omega
theorem names_len {ns : List (List Nat)} (h : Nms ns) : (TL.joinL [44] ns).length ≤ 81 := by
  have := joinL_len 8 fun s hs => (h.2.2 s hs).2.1
  have := h.2.1
  omega
theorem names_sum : ∀ {ns : List (List Nat)}, (∀ s ∈ ns, Nm s) → ((ns.map SX.S).map (·.length)).sum ≤ 8 * ns.length
  | [], _ => Nat.zero_le _
  | p :: r, h => by
    have h1 := (h p (by simp)).2.1
    have h2 := names_sum (ns := r) fun s hs => h s (List.mem_cons_of_mem _ hs)
    rw [List.map_cons, List.map_cons, List.sum_cons, SX.S_len, List.length_cons]
    omega
theorem txt_len : ∀ {r : Rcp}, r.Good → r.txt.length ≤ 100 * r.siz
  | .num n, h => by
    have := intL_len h
    show (intL n).length ≤ 100
    omega
  | .read s, h => by
    have := h.2.1
    show s.length ≤ 100
    omega
  | .two k a b, h => by
    have h1 := txt_len h.1
    have h2 := txt_len h.2
    simp only [Rcp.txt, Rcp.siz, List.length_cons, List.length_append, List.length_nil]
    omega
  | .pick a b c, h => by
    have h1 := txt_len h.1
    have h2 := txt_len h.2.1
    have h3 := txt_len h.2.2
    simp only [Rcp.txt, Rcp.siz, List.length_cons, List.length_append, List.length_nil]
    omega
  | .choose a ns, h => by
    have h1 := txt_len h.1
    have h2 := names_len h.2
    simp only [Rcp.txt, Rcp.siz, List.length_cons, List.length_append, List.length_nil]
    omega
theorem q_open : ("(" : Str) = SX.S [40] := by decide +kernel
theorem q_close : (")" : Str) = SX.S [41] := by decide +kernel
theorem q_lb : ("[" : Str) = SX.S [91] := by decide +kernel
theorem q_rb : ("]" : Str) = SX.S [93] := by decide +kernel
theorem q_lc : ("{" : Str) = SX.S [123] := by decide +kernel
theorem q_rc : ("}" : Str) = SX.S [125] := by decide +kernel
theorem q_ask : (" ? " : Str) = SX.S [32, 63, 32] := by decide +kernel
theorem q_col : (" : " : Str) = SX.S [32, 58, 32] := by decide +kernel
theorem q_blank : (" " : Str) = SX.S [32] := by decide +kernel
theorem q_comma : ("," : Str) = SX.S [44] := by decide +kernel
theorem q_sign (k : Kd) : k.signS = SX.S [32, k.sign, 32] := by cases k <;> decide +kernel
theorem kn_num (k : Kd) : ¬ V.str k.name = V.str "number" := by cases k <;> decide +kernel
theorem kn_read (k : Kd) : ¬ V.str k.name = V.str "read" := by cases k <;> decide +kernel
theorem kn_pick (k : Kd) : ¬ V.str k.name = V.str "pick" := by cases k <;> decide +kernel
theorem kn_choose (k : Kd) : ¬ V.str k.name = V.str "choose" := by cases k <;> decide +kernel
theorem log_small {n : Int} (h : n.natAbs < 10 ^ 40) : n.natAbs.log2 < 1920 := by
  by_cases z : n.natAbs = 0
  · rw [z]; decide
  · exact (Nat.log2_lt z).mpr (Nat.lt_trans h (by decide +kernel))
theorem Rcp.flat : ∀ r : Rcp, r.th.flat = true
  | .num _ => rfl
  | .read _ => rfl
  | .two _ a b => by
    show (true && (a.th.flat && (b.th.flat && true))) = true
    rw [Rcp.flat a, Rcp.flat b]; rfl
  | .pick a b c => by
    show (true && (a.th.flat && (b.th.flat && (c.th.flat && true)))) = true
    rw [Rcp.flat a, Rcp.flat b, Rcp.flat c]; rfl
  | .choose a ns => by
    show (true && (a.th.flat && (Th.flatL (nmsTh ns) && true))) = true
    rw [Rcp.flat a, Nms.flat]; rfl
theorem nm_lay {s : List Nat} (h : Nm s) : (PyData.str (SX.S s)).canLay0 = true := by
  have := (nms_py (ns := [s]) fun x hx => by rw [List.mem_singleton.mp hx]; exact h).1
  have z : ((PyData.str (SX.S s)).canLay0 && true) = true := this
  rw [Bool.and_true] at z
  exact z
theorem str_lay {s : List Nat} (h : ∀ c ∈ s, c < 128) : (PyData.str (SX.S s)).canLay0 = true := by
  show (SX.S s).cps.all (· < 0x110000) = true
  rw [← Array.all_toList, List.all_eq_true]
  intro c hc
  have := h c hc
  exact decide_eq_true (by omega)
theorem Rcp.lays : ∀ {r : Rcp}, r.Good → r.th.py.canLay0 = true ∧ r.th.py.depth ≤ r.dep
  | .num n, _ => ⟨by show ((PyData.str (SX.S w_number)).canLay0 && ((PyData.int n).canLay0 && true)) = true; rw [str_lay (by decide)]; rfl, by show max 0 (max 0 0) + 1 ≤ 1; decide⟩
  | .read s, h => ⟨by show ((PyData.str (SX.S w_read)).canLay0 && ((PyData.str (SX.S s)).canLay0 && true)) = true; rw [nm_lay h, str_lay (s := w_read) (by decide)]; rfl, by show max 0 (max 0 0) + 1 ≤ 1; decide⟩
  | .two k a b, h => by
    have h1 := Rcp.lays h.1
    have h2 := Rcp.lays h.2
    refine ⟨?_, ?_⟩
    · show ((PyData.str (SX.S k.word)).canLay0 && (a.th.py.canLay0 && (b.th.py.canLay0 && true))) = true
      rw [h1.1, h2.1, str_lay (s := k.word) (by cases k <;> decide)]
      rfl
    · show max 0 (max a.th.py.depth (max b.th.py.depth 0)) + 1 ≤ max a.dep b.dep + 1
      omega
  | .pick a b c, h => by
    have h1 := Rcp.lays h.1
    have h2 := Rcp.lays h.2.1
    have h3 := Rcp.lays h.2.2
    refine ⟨?_, ?_⟩
    · show ((PyData.str (SX.S w_pick)).canLay0 && (a.th.py.canLay0 && (b.th.py.canLay0 && (c.th.py.canLay0 && true)))) = true
      rw [h1.1, h2.1, h3.1, str_lay (s := w_pick) (by decide)]
      rfl
    · show max 0 (max a.th.py.depth (max b.th.py.depth (max c.th.py.depth 0))) + 1 ≤ max a.dep (max b.dep c.dep) + 1
      omega
  | .choose a ns, h => by
    have h1 := Rcp.lays h.1
    have h2 := nms_py h.2.2.2
    have h3 := dep_pos a
    refine ⟨?_, ?_⟩
    · show ((PyData.str (SX.S w_choose)).canLay0 && (a.th.py.canLay0 && (PyData.canLayAll0 (Th.pyL (nmsTh ns)) && true))) = true
      rw [h1.1, h2.1, str_lay (s := w_choose) (by decide)]
      rfl
    · show max 0 (max a.th.py.depth (max (PyData.depthAll (Th.pyL (nmsTh ns)) + 1) 0)) + 1 ≤ a.dep + 1
      rw [h2.2]
      omega
theorem Rcp.shaped {r : Rcp} (hg : r.Good) (hd : r.dep ≤ 60) : SeqAt.shaped r.th.py = true := by
  have h := Rcp.lays hg
  show (r.th.py.canLay0 && decide (r.th.py.depth ≤ 64)) = true
  rw [h.1, decide_eq_true (by omega)]
  rfl
theorem Rcp.eqv {r : Rcp} (hg : r.Good) : PyData.eqv r.th.py r.th.py = true := SeqAt.eqv_refl _ (Rcp.lays hg).1
/-! ### recipes alike as data are the same; texts tell recipes apart -/
theorem eqv_head {k k' : List Nat} {l l' : List PyData} (h : PyData.eqv (.tuple (.str (SX.S k) :: l)) (.tuple (.str (SX.S k') :: l')) = true) : k = k' ∧ PyData.eqvAll l l' = true := by
  have e : ((SX.S k == SX.S k') && PyData.eqvAll l l') = true := h
  rw [Bool.and_eq_true, SX.S_beq] at e
  exact ⟨beq_iff_eq.mp e.1, e.2⟩
theorem eqv_cons {x y : PyData} {l l' : List PyData} (h : PyData.eqvAll (x :: l) (y :: l') = true) : PyData.eqv x y = true ∧ PyData.eqvAll l l' = true := by
  have e : (PyData.eqv x y && PyData.eqvAll l l') = true := h
  rw [Bool.and_eq_true] at e
  exact e
theorem eqv_str {a b : List Nat} (h : PyData.eqv (.str (SX.S a)) (.str (SX.S b)) = true) : a = b := by
  have e : (SX.S a == SX.S b) = true := h
  rw [SX.S_beq] at e
  exact beq_iff_eq.mp e
theorem eqv_nms : ∀ {ns ms : List (List Nat)}, PyData.eqvAll (Th.pyL (nmsTh ns)) (Th.pyL (nmsTh ms)) = true → ns = ms
  | [], [], _ => rfl
  | [], _ :: _, h => by cases h
  | _ :: _, [], h => by cases h
  | a :: ns, b :: ms, h => by
    obtain ⟨h1, h2⟩ := eqv_cons h
    rw [eqv_str h1, eqv_nms h2]
theorem kd_inj {k k' : Kd} (h : k.word = k'.word) : k = k' := by cases k <;> cases k' <;> first | rfl | (exact absurd h (by decide))
theorem eqv_rcp : ∀ {r s : Rcp}, PyData.eqv r.th.py s.th.py = true → r = s
  | .num n, .num m, h => by
    have e : (n == m) = true := (eqv_cons (eqv_head h).2).1
    rw [beq_iff_eq.mp e]
  | .read a, .read b, h => by rw [eqv_str (eqv_cons (eqv_head h).2).1]
  | .two k a b, .two k' a' b', h => by
    obtain ⟨h1, h2⟩ := eqv_head h
    obtain ⟨h3, h4⟩ := eqv_cons h2
    rw [kd_inj h1, eqv_rcp h3, eqv_rcp (eqv_cons h4).1]
  | .pick a b c, .pick a' b' c', h => by
    obtain ⟨h3, h4⟩ := eqv_cons (eqv_head h).2
    obtain ⟨h5, h6⟩ := eqv_cons h4
    rw [eqv_rcp h3, eqv_rcp h5, eqv_rcp (eqv_cons h6).1]
  | .choose a ns, .choose a' ms, h => by
    obtain ⟨h3, h4⟩ := eqv_cons (eqv_head h).2
    have h5 : PyData.eqvAll (Th.pyL (nmsTh ns)) (Th.pyL (nmsTh ms)) = true := (eqv_cons h4).1
    rw [eqv_rcp h3, eqv_nms h5]
  | .num _, .read _, h => absurd (eqv_head h).1 (by decide)
  | .num _, .two k _ _, h => absurd (eqv_head h).1 (by cases k <;> decide)
  | .num _, .pick _ _ _, h => absurd (eqv_head h).1 (by decide)
  | .num _, .choose _ _, h => absurd (eqv_head h).1 (by decide)
  | .read _, .num _, h => absurd (eqv_head h).1 (by decide)
  | .read _, .two k _ _, h => absurd (eqv_head h).1 (by cases k <;> decide)
  | .read _, .pick _ _ _, h => absurd (eqv_head h).1 (by decide)
  | .read _, .choose _ _, h => absurd (eqv_head h).1 (by decide)
  | .two k _ _, .num _, h => absurd (eqv_head h).1 (by cases k <;> decide)
  | .two k _ _, .read _, h => absurd (eqv_head h).1 (by cases k <;> decide)
  | .two k _ _, .pick _ _ _, h => absurd (eqv_head h).1 (by cases k <;> decide)
  | .two k _ _, .choose _ _, h => absurd (eqv_head h).1 (by cases k <;> decide)
  | .pick _ _ _, .num _, h => absurd (eqv_head h).1 (by decide)
  | .pick _ _ _, .read _, h => absurd (eqv_head h).1 (by decide)
  | .pick _ _ _, .two k _ _, h => absurd (eqv_head h).1 (by cases k <;> decide)
  | .pick _ _ _, .choose _ _, h => absurd (eqv_head h).1 (by decide)
  | .choose _ _, .num _, h => absurd (eqv_head h).1 (by decide)
  | .choose _ _, .read _, h => absurd (eqv_head h).1 (by decide)
  | .choose _ _, .two k _ _, h => absurd (eqv_head h).1 (by cases k <;> decide)
  | .choose _ _, .pick _ _ _, h => absurd (eqv_head h).1 (by decide)
/-! ### a name exchanged all through -/
def swapN (old new s : List Nat) : List Nat := if s = old then new else s
def Rcp.exch (old new : List Nat) : Rcp → Rcp
  | .num n => .num n
  | .read s => .read (swapN old new s)
  | .two k a b => .two k (a.exch old new) (b.exch old new)
  | .pick a b c => .pick (a.exch old new) (b.exch old new) (c.exch old new)
  | .choose a ns => .choose (a.exch old new) (ns.map (swapN old new))
theorem swap_nm {old new s : List Nat} (hn : Nm new) (hs : Nm s) : Nm (swapN old new s) := by
  unfold swapN
  split
  · exact hn
  · exact hs
theorem exch_good {old new : List Nat} (hn : Nm new) : ∀ {r : Rcp}, r.Good → (r.exch old new).Good
  | .num _, h => h
  | .read _, h => swap_nm hn h
  | .two _ _ _, h => ⟨exch_good hn h.1, exch_good hn h.2⟩
  | .pick _ _ _, h => ⟨exch_good hn h.1, exch_good hn h.2.1, exch_good hn h.2.2⟩
  | .choose _ _, h => ⟨exch_good hn h.1, by rw [List.length_map]; exact h.2.1, by rw [List.length_map]; exact h.2.2.1, fun s hs => by
    obtain ⟨z, hz, e⟩ := List.mem_map.mp hs
    rw [← e]
    exact swap_nm hn (h.2.2.2 z hz)⟩
theorem exch_siz {old new : List Nat} : ∀ r : Rcp, (r.exch old new).siz = r.siz
  | .num _ => rfl
  | .read _ => rfl
  | .two _ a b => by show (a.exch old new).siz + (b.exch old new).siz + 1 = a.siz + b.siz + 1; rw [exch_siz a, exch_siz b]
  | .pick a b c => by show (a.exch old new).siz + (b.exch old new).siz + (c.exch old new).siz + 1 = a.siz + b.siz + c.siz + 1; rw [exch_siz a, exch_siz b, exch_siz c]
  | .choose a _ => by show (a.exch old new).siz + 1 = a.siz + 1; rw [exch_siz a]
theorem swap_mem (old new : List Nat) (l : List (List Nat)) (s : List Nat) : s ∈ l.map (swapN old new) ↔ (s ∈ l ∧ s ≠ old) ∨ (s = new ∧ old ∈ l) := by
  rw [List.mem_map]
  constructor
  · rintro ⟨z, hz, e⟩
    unfold swapN at e
    split at e
    · rename_i h; exact .inr ⟨e.symm, h ▸ hz⟩
    · rename_i h; exact .inl ⟨e ▸ hz, e ▸ h⟩
  · rintro (⟨h1, h2⟩ | ⟨h1, h2⟩)
    · exact ⟨s, h1, if_neg h2⟩
    · exact ⟨old, h2, by rw [h1]; exact if_pos rfl⟩
theorem exch_all (old new : List Nat) : ∀ r : Rcp, (r.exch old new).all = r.all.map (swapN old new)
  | .num _ => rfl
  | .read _ => rfl
  | .two _ a b => by show (a.exch old new).all ++ (b.exch old new).all = (a.all ++ b.all).map _; rw [exch_all old new a, exch_all old new b, List.map_append]
  | .pick a b c => by show (a.exch old new).all ++ ((b.exch old new).all ++ (c.exch old new).all) = (a.all ++ (b.all ++ c.all)).map _; rw [exch_all old new a, exch_all old new b, exch_all old new c, List.map_append, List.map_append]
  | .choose a ns => by show (a.exch old new).all ++ ns.map _ = (a.all ++ ns).map _; rw [exch_all old new a, List.map_append]
def spExch (k : Nat) : Sp := fun vs H Q _ => ∃ (v : V) (r : Rcp) (old new : List Nat), vs = [v, .str (SX.S old), .str (SX.S new)] ∧ Rec H r v ∧ r.Good ∧ r.dep ≤ k ∧ r.dep ≤ 60 ∧ Nm old ∧ Nm new ∧ ∀ (H' : Hp) (v' : V), Same H H' → Rec H' (r.exch old new) v' → Q v' H'
theorem cut_tail5 (a : V) (l : List V) : cutV (a :: l) (some 1) none = l := by
  have h : HT.sIx (a :: l).length 0 (some 1) = 1 := (HT.sIx_nat _ 0 1).trans (by rw [List.length_cons]; omega)
  show ((a :: l).drop (HT.sIx (a :: l).length 0 (some 1))).take (HT.sIx (a :: l).length (a :: l).length none - HT.sIx (a :: l).length 0 (some 1)) = l
  rw [h, HT.sIx_none, List.drop_succ_cons, List.drop_zero, List.length_cons, Nat.add_sub_cancel, List.take_length]
theorem cut_head5 (a b : V) (r : List V) : cutV (a :: b :: r) none (some 1) = [a] := cut_to (a :: b :: r) 1
theorem nh_head (a b : V) (r : List V) : ¬ (HT.sIx (a :: b :: r).length 0 none = 0 ∧ HT.sIx (a :: b :: r).length (a :: b :: r).length (some 1) = (a :: b :: r).length) := fun z => by
  have h := (HT.sIx_nat (a :: b :: r).length (a :: b :: r).length 1).symm.trans z.2
  rw [List.length_cons, List.length_cons] at h
  omega
theorem nh_tail (a : V) (l : List V) : ¬ (HT.sIx (a :: l).length 0 (some 1) = 0 ∧ HT.sIx (a :: l).length (a :: l).length none = (a :: l).length) := fun z => by
  have h := (HT.sIx_nat (a :: l).length 0 1).symm.trans z.1
  rw [List.length_cons] at h
  omega
theorem recs_keepL {H : Hp} {D : Addr} {xs ys : List V} {rs : List Rcp} {vs : List V} (h : Recs H rs vs) (hD : H D = some (.lst xs)) : Recs (upd H D (.lst ys)) rs vs := h.keep (keep_lst hD)
section
variable {P : Program} {w : World} {K : PySem.W.Frag} {mg : Str → Option Value} {base : Heap}
abbrev s__law_exchanged : Stmt := topS 21
abbrev N__law_exchanged : List Str := ["r", "old", "new", "names", "name", "part"]
theorem sc__law_exchanged : FnScope N__law_exchanged ["r", "old", "new"] (defScope s__law_exchanged) := ⟨rfl, rfl, rfl, by decide +kernel, rfl, by decide +kernel, by decide +kernel⟩

theorem ok__law_exchanged (T : Txt K mg) (D : IsDef K mg "_law_exchanged" s__law_exchanged ["r", "old", "new"]) {k : Nat} (C__law_exchanged : Cal P w K mg base CX0 k "_law_exchanged" ["r", "old", "new"] (spExch k)) : Cal P w K mg base CX0 (k + 1) "_law_exchanged" ["r", "old", "new"] (spExch (k + 1)) := by
  refine D.cal sc__law_exchanged (fun vs H Q E h => ?_) (fun f cdv A outer s H vs Q E hr h => ?_)
  · obtain ⟨v, r, old, new, rfl, _⟩ := h
    rfl
  obtain ⟨v, r, old, new, rfl, hR, hG, hd, h60, hno, hnn, q⟩ := h
  refine ⟨_, (pss_cons (ps_if (pt_cmpR (op_eqD hr.units) (pv 0) (pe_tup (pa_cons pe_str (pa_cons (pv 1) pa_nil))) (nomark _))
        (pss_one (ps_ret (pe_tup (pa_cons pe_str (pa_cons (pv 2) pa_nil)))))
        pss_nil)
      (pss_cons (ps_if (pt_cmpR op_eq (pe_ix (r := rIxT K) ix_tup (pv 0) pe_int (fun _ _ => rfl)) pe_str (nomark _))
        (pss_cons (ps_set (i := 3) sc__law_exchanged.nd rfl (Or.inl rfl) (pe_callTy call_tuple_of (by rfl) T.b_tuple (by decide +kernel) (pa_cons (pe_lc (own := [("name", 4)]) (g := gName 4)  (by rfl) sc__law_exchanged.nd  (pi_tup (pe_ix (r := rIxT K) ix_tup (pv 0) pe_int (fun _ _ => rfl))) (blkOk_by (own := [("name", 4)]) (N := N__law_exchanged) (sc := defScope s__law_exchanged) (by decide +kernel)) (fun _ _ _ _ _ => (pg_name (i := 4) sc__law_exchanged.nd rfl (Or.inl rfl))) (fun _ _ _ _ _ => pts_nil) (fun _ _ _ _ _ => (pe_ix (r := rIxL K) ix_list (pe_lst (pa_cons (pv 4) (pa_cons (pv 2) pa_nil))) (pe_callTy call_int1 (by rfl) T.b_int (by decide +kernel) (pa_cons (pe_cmpR op_eq (pv 4) (pv 1) (nomark _)) pa_nil)) (fun _ _ => rfl)))) pa_nil)))
      (pss_one (ps_ret (pe_tup (pa_cons pe_str (pa_cons (pe_cal C__law_exchanged (hr.mono (by first | decide | omega)) pass0 (pa_cons (pe_ix (r := rIxT K) ix_tup (pv 0) pe_int (fun _ _ => rfl)) (pa_cons (pv 1) (pa_cons (pv 2) pa_nil)))) (pa_cons (pv 3) pa_nil)))))))
        pss_nil)
      (pss_cons (ps_if (PW.pt (pw_or (pt_cmpR op_eq (pe_ix (r := rIxT K) ix_tup (pv 0) pe_int (fun _ _ => rfl)) pe_str (nomark _)) (pw_or1 (pt_cmpR op_eq (pe_ix (r := rIxT K) ix_tup (pv 0) pe_int (fun _ _ => rfl)) pe_str (nomark _)))))
        (pss_one (ps_ret (pv 0)))
        pss_nil)
      (pss_one (ps_ret (pe_op op_catT (pe_slice (r := rSlT K) sl_tup (pv 0) po_none (po_some pe_int)) (pe_callTy call_tuple_of (by rfl) T.b_tuple (by decide +kernel) (pa_cons (pe_lc (own := [("part", 5)]) (g := gName 5)  (by rfl) sc__law_exchanged.nd  (pi_tup (pe_slice (r := rSlT K) sl_tup (pv 0) (po_some pe_int) po_none)) (blkOk_by (own := [("part", 5)]) (N := N__law_exchanged) (sc := defScope s__law_exchanged) (by decide +kernel)) (fun _ _ _ _ _ => (pg_name (i := 5) sc__law_exchanged.nd rfl (Or.inl rfl))) (fun _ _ _ _ _ => pts_nil) (fun _ _ _ _ _ => (pe_cal C__law_exchanged (hr.mono (by first | decide | omega)) pass0 (pa_cons (pv 5) (pa_cons (pv 1) (pa_cons (pv 2) pa_nil)))))) pa_nil)))))))), ?_⟩
  refine ⟨_, rfl, _, rfl, le_line (Nat.le_of_ble_eq_true rfl), fun u nu => ?_⟩
  have su := same_new nu (.tup [.str "read", .str (SX.S old)])
  have hRu : Rec (upd H u (.tup [.str "read", .str (SX.S old)])) (.read old) (.ref u) := ⟨u, rfl, upd_same⟩
  refine ⟨_, _, Data.dp (Rcp.flat _) (hR.same su).data, Data.dp (Rcp.flat _) hRu.data, Rcp.shaped hG h60, Rcp.shaped (r := .read old) hno (show 1 ≤ 60 by decide), _, rfl, ?_⟩
  by_cases he : r = .read old
  · subst he
    rw [Rcp.eqv (r := .read old) hno]
    refine iteT ⟨_, rfl, le_line (Nat.le_of_ble_eq_true rfl), fun t nt => q _ (.ref t) (su.trans (same_new nt _)) ?_⟩
    show Rec _ (.read (swapN old new old)) _
    rw [show swapN old new old = new from if_pos rfl]
    exact ⟨t, rfl, upd_same⟩
  have hev : PyData.eqv r.th.py (Rcp.read old).th.py = false := Bool.eq_false_iff.mpr fun z => he (eqv_rcp z)
  rw [hev]
  refine iteF ?_
  cases r with
  | num n =>
    obtain ⟨p, rfl, hp⟩ := hR
    have hp1 := su _ _ hp
    refine ⟨_, rfl, p, _, _, _, rfl, rfl, SqT.of hp1, rfl, rfl, _, rfl, iteN (by decide +kernel) ?_⟩
    refine ⟨_, rfl, p, _, _, _, rfl, rfl, SqT.of hp1, rfl, rfl, _, rfl, iteY rfl (iteT ?_)⟩
    exact ⟨_, rfl, q _ _ su ⟨p, rfl, hp1⟩⟩
  | read z =>
    obtain ⟨p, rfl, hp⟩ := hR
    have hp1 := su _ _ hp
    refine ⟨_, rfl, p, _, _, _, rfl, rfl, SqT.of hp1, rfl, rfl, _, rfl, iteN (by decide +kernel) ?_⟩
    refine ⟨_, rfl, p, _, _, _, rfl, rfl, SqT.of hp1, rfl, rfl, _, rfl, iteN (by decide +kernel) ?_⟩
    refine ⟨_, rfl, p, _, _, _, rfl, rfl, SqT.of hp1, rfl, rfl, _, rfl, iteY rfl ?_⟩
    have hz : swapN old new z = z := if_neg fun e => he (by rw [e])
    refine ⟨_, rfl, q _ _ su ?_⟩
    show Rec _ (.read (swapN old new z)) _
    rw [hz]
    exact ⟨p, rfl, hp1⟩
  | choose a ns =>
    obtain ⟨p, x, b, rfl, hp, ra, hb⟩ := hR
    have hp1 := su _ _ hp
    have hb1 := su _ _ hb
    have hda : a.dep ≤ k := by
      have : a.dep + 1 ≤ k + 1 := hd
      omega
    have hd6 : a.dep ≤ 60 := by
      have : a.dep + 1 ≤ 60 := h60
      omega
    have hn9 := hG.2.2.1
    refine ⟨_, rfl, p, _, _, _, rfl, rfl, SqT.of hp1, rfl, rfl, _, rfl, iteY rfl ?_⟩
    refine ⟨_, rfl, p, _, _, _, rfl, rfl, SqT.of hp1, rfl, b, rfl, ⟨_, SqT.of hb1⟩, fun L nL => lc_tup (K := K) (a := b) (xs := txs ns) (fun i H' => Same (upd H u (.tup [.str "read", .str (SX.S old)])) H' ∧ H' L = some (.lst (txs ((ns.take i).map (swapN old new)))))
      ⟨same_new nL _, upd_same⟩ (fun i H' _ h => SqT.of (h.1 _ _ hb1)) ?_ ?_⟩
    · rintro i y H3 hy ⟨hs3, hL⟩
      have hi : i < ns.length := by
        have := (List.getElem?_eq_some_iff.mp hy).1
        rw [txs_len] at this
        exact this
      rw [txs_get hi] at hy
      cases hy
      refine ⟨rfl, _, rfl, _, rfl, le_line (Nat.le_of_ble_eq_true rfl), fun l nl => ⟨_, rfl, _, rfl, rfl, .inr ⟨_, rfl, ?_⟩⟩⟩
      have sl := same_new nl (.lst [.str (SX.S ns[i]), .str (SX.S new)])
      have hat : atI ([.str (SX.S ns[i]), .str (SX.S new)] : List V) (if decide (V.str (SX.S ns[i]) = V.str (SX.S old)) = true then 1 else 0) = some (.str (SX.S (swapN old new ns[i]))) := by
        unfold swapN
        by_cases e : ns[i] = old
        · rw [if_pos e, if_pos (decide_eq_true (by rw [e]))]
          rfl
        · rw [if_neg e, if_neg (fun z => e (SX.S_inj (V.str.inj (of_decide_eq_true z))))]
          rfl
      refine ⟨l, _, _, _, rfl, rfl, SqL.of upd_same, hat, _, sl _ _ hL, ?_, same_upd (hs3.trans sl) nL _, ?_⟩
      · rw [txs_len, List.length_map, List.length_take]
        exact lt_line (by omega)
      · rw [upd_same, List.take_add_one, List.getElem?_eq_getElem hi, List.map_append, txs_app]
        rfl
    rintro H3 ⟨hs3, hL⟩
    rw [txs_len, List.take_length] at hL
    refine ⟨L, _, rfl, .inl ⟨SqL.of hL, fun t nt => ?_⟩⟩
    have st := same_new nt (.tup (txs (ns.map (swapN old new))))
    have s3 := su.trans (hs3.trans st)
    refine ⟨_, rfl, p, _, _, _, rfl, rfl, SqT.of (st _ _ (hs3 _ _ hp1)), rfl, _, rfl, _, rfl, x, a, old, new, rfl, ra.same s3, hG.1, hda, hd6, hno, hnn, fun H4 v' hs4 hR4 => ⟨_, rfl, le_line (Nat.le_of_ble_eq_true rfl), fun t2 nt2 => ?_⟩⟩
    have s5 := same_new nt2 (.tup [.str "choose", v', .ref t])
    exact q _ (.ref t2) (s3.trans (hs4.trans s5)) ⟨t2, v', t, rfl, upd_same, hR4.same s5, s5 _ _ (hs4 _ _ upd_same)⟩
  | two kd a b =>
    obtain ⟨p, x, y, rfl, hp, ra, rb⟩ := hR
    have hp1 := su _ _ hp
    have hda : max a.dep b.dep + 1 ≤ k + 1 := hd
    have hd6 : max a.dep b.dep + 1 ≤ 60 := h60
    refine ⟨_, rfl, p, _, _, _, rfl, rfl, SqT.of hp1, rfl, rfl, _, rfl, iteN (kn_choose kd) ?_⟩
    refine ⟨_, rfl, p, _, _, _, rfl, rfl, SqT.of hp1, rfl, rfl, _, rfl, iteN (kn_num kd) ?_⟩
    refine ⟨_, rfl, p, _, _, _, rfl, rfl, SqT.of hp1, rfl, rfl, _, rfl, iteN (kn_read kd) ?_⟩
    obtain ⟨r0, hr0⟩ : ∃ r0, r0 = Rcp.two kd a b := ⟨_, rfl⟩
    obtain ⟨ws, hws0⟩ : ∃ ws, [x, y] = ws := ⟨_, rfl⟩
    have hws : Recs H r0.subs ws := by rw [hr0, ← hws0]; exact ⟨ra, rb, trivial⟩
    have hsub : ∀ x ∈ r0.subs, x.Good ∧ x.dep ≤ k ∧ x.dep ≤ 60 := by
      rw [hr0]
      intro z hz
      simp only [Rcp.subs, List.mem_cons, List.not_mem_nil, or_false] at hz
      rcases hz with rfl | rfl
      · exact ⟨hG.1, by omega, by omega⟩
      · exact ⟨hG.2, by omega, by omega⟩
    have hsl : r0.subs.length = 2 := by rw [hr0]; rfl
    have hsw : r0.subs.map (Rcp.exch old new) = [a.exch old new, b.exch old new] := by rw [hr0]; rfl
    refine ⟨_, rfl, _, rfl, p, _, rfl, SqT.of (su _ _ hp), nh_head _ _ _, fun ad na => ?_⟩
    rw [cut_head5]
    have sa := same_new na (.tup [.str kd.name])
    refine ⟨_, rfl, _, rfl, p, _, rfl, SqT.of (sa _ _ (su _ _ hp)), nh_tail _ _, fun bd nb => ?_⟩
    rw [cut_tail5, hws0]
    have sb := same_new nb (.tup ws)
    refine ⟨bd, rfl, ⟨_, SqT.of upd_same⟩, fun L nL => lc_tup (K := K) (a := bd) (xs := ws) (fun i H' => Same (upd (upd (upd H u (.tup [.str "read", .str (SX.S old)])) ad (.tup [.str kd.name])) bd (.tup ws)) H' ∧ ∃ ys, H' L = some (.lst ys) ∧ Recs H' ((r0.subs.take i).map (Rcp.exch old new)) ys)
      ⟨same_new nL _, [], upd_same, trivial⟩ (fun i H' _ h => SqT.of (h.1 _ _ upd_same)) ?_ ?_⟩
    · rintro i x' H3 hx ⟨hs3, ys, hL, hRs⟩
      obtain ⟨r', hr', hRx⟩ := hws.at hx
      have hm := List.mem_of_getElem? hr'
      obtain ⟨g1, g2⟩ := hsub r' hm
      refine ⟨rfl, _, rfl, _, rfl, _, rfl, x', r', old, new, rfl, hRx.same ((su.trans (sa.trans sb)).trans hs3), g1, by omega, by omega, hno, hnn, fun H4 v' hs4 hR4 => ?_⟩
      have hl := hRs.len
      rw [List.length_map, List.length_take] at hl
      refine ⟨ys, hs4 _ _ hL, lt_line (by have := subs_len r0; omega), same_upd (hs3.trans hs4) nL _, ys ++ [v'], upd_same, ?_⟩
      rw [List.take_add_one, hr', List.map_append]
      exact recs_keepL (Recs.snoc hR4 (hRs.keep (same_keep hs4))) (hs4 _ _ hL)
    rintro H3 ⟨hs3, ys, hL, hRs⟩
    rw [List.take_of_length_le (by rw [hws.len]; exact Nat.le_refl _)] at hRs
    refine ⟨L, _, rfl, .inl ⟨SqL.of hL, fun t nt => ?_⟩⟩
    have st := same_new nt (.tup ys)
    have hl := hRs.len
    rw [List.length_map] at hl
    have hne : ys ≠ [] := fun z => by rw [z] at hl; have := hsl; rw [← hl] at this; exact absurd this (by decide)
    have sall := su.trans (sa.trans (sb.trans (hs3.trans st)))
    refine ⟨ad, t, _, _, rfl, rfl, SqT.of (st _ _ (hs3 _ _ (sb _ _ upd_same))), SqT.of upd_same, (fun z => nomatch z), le_line (by have := subs_len r0; show 1 + ys.length ≤ _; omega), (fun z => absurd z hne), fun _ t2 nt2 => ?_⟩
    have s2 := same_new nt2 (.tup ([.str kd.name] ++ ys))
    have hRs2 := (hRs.keep (same_keep (st.trans s2)))
    rw [hsw] at hRs2
    refine q _ (.ref t2) (sall.trans s2) ?_
    match ys, hRs2 with | [x', y'], hh => exact ⟨t2, x', y', rfl, upd_same, hh.1, hh.2.1⟩ | [], hh => exact hh.elim | [_], hh => exact hh.2.elim | _ :: _ :: _ :: _, hh => exact hh.2.2.elim
  | pick a b c =>
    obtain ⟨p, x, y, z, rfl, hp, ra, rb, rc⟩ := hR
    have hp1 := su _ _ hp
    have hda : max a.dep (max b.dep c.dep) + 1 ≤ k + 1 := hd
    have hd6 : max a.dep (max b.dep c.dep) + 1 ≤ 60 := h60
    refine ⟨_, rfl, p, _, _, _, rfl, rfl, SqT.of hp1, rfl, rfl, _, rfl, iteN (by decide +kernel) ?_⟩
    refine ⟨_, rfl, p, _, _, _, rfl, rfl, SqT.of hp1, rfl, rfl, _, rfl, iteN (by decide +kernel) ?_⟩
    refine ⟨_, rfl, p, _, _, _, rfl, rfl, SqT.of hp1, rfl, rfl, _, rfl, iteN (by decide +kernel) ?_⟩
    obtain ⟨r0, hr0⟩ : ∃ r0, r0 = Rcp.pick a b c := ⟨_, rfl⟩
    obtain ⟨ws, hws0⟩ : ∃ ws, [x, y, z] = ws := ⟨_, rfl⟩
    have hws : Recs H r0.subs ws := by rw [hr0, ← hws0]; exact ⟨ra, rb, rc, trivial⟩
    have hsub : ∀ x ∈ r0.subs, x.Good ∧ x.dep ≤ k ∧ x.dep ≤ 60 := by
      rw [hr0]
      intro z hz
      simp only [Rcp.subs, List.mem_cons, List.not_mem_nil, or_false] at hz
      rcases hz with rfl | rfl | rfl
      · exact ⟨hG.1, by omega, by omega⟩
      · exact ⟨hG.2.1, by omega, by omega⟩
      · exact ⟨hG.2.2, by omega, by omega⟩
    have hsl : r0.subs.length = 3 := by rw [hr0]; rfl
    have hsw : r0.subs.map (Rcp.exch old new) = [a.exch old new, b.exch old new, c.exch old new] := by rw [hr0]; rfl
    refine ⟨_, rfl, _, rfl, p, _, rfl, SqT.of (su _ _ hp), nh_head _ _ _, fun ad na => ?_⟩
    rw [cut_head5]
    have sa := same_new na (.tup [.str "pick"])
    refine ⟨_, rfl, _, rfl, p, _, rfl, SqT.of (sa _ _ (su _ _ hp)), nh_tail _ _, fun bd nb => ?_⟩
    rw [cut_tail5, hws0]
    have sb := same_new nb (.tup ws)
    refine ⟨bd, rfl, ⟨_, SqT.of upd_same⟩, fun L nL => lc_tup (K := K) (a := bd) (xs := ws) (fun i H' => Same (upd (upd (upd H u (.tup [.str "read", .str (SX.S old)])) ad (.tup [.str "pick"])) bd (.tup ws)) H' ∧ ∃ ys, H' L = some (.lst ys) ∧ Recs H' ((r0.subs.take i).map (Rcp.exch old new)) ys)
      ⟨same_new nL _, [], upd_same, trivial⟩ (fun i H' _ h => SqT.of (h.1 _ _ upd_same)) ?_ ?_⟩
    · rintro i x' H3 hx ⟨hs3, ys, hL, hRs⟩
      obtain ⟨r', hr', hRx⟩ := hws.at hx
      have hm := List.mem_of_getElem? hr'
      obtain ⟨g1, g2⟩ := hsub r' hm
      refine ⟨rfl, _, rfl, _, rfl, _, rfl, x', r', old, new, rfl, hRx.same ((su.trans (sa.trans sb)).trans hs3), g1, by omega, by omega, hno, hnn, fun H4 v' hs4 hR4 => ?_⟩
      have hl := hRs.len
      rw [List.length_map, List.length_take] at hl
      refine ⟨ys, hs4 _ _ hL, lt_line (by have := subs_len r0; omega), same_upd (hs3.trans hs4) nL _, ys ++ [v'], upd_same, ?_⟩
      rw [List.take_add_one, hr', List.map_append]
      exact recs_keepL (Recs.snoc hR4 (hRs.keep (same_keep hs4))) (hs4 _ _ hL)
    rintro H3 ⟨hs3, ys, hL, hRs⟩
    rw [List.take_of_length_le (by rw [hws.len]; exact Nat.le_refl _)] at hRs
    refine ⟨L, _, rfl, .inl ⟨SqL.of hL, fun t nt => ?_⟩⟩
    have st := same_new nt (.tup ys)
    have hl := hRs.len
    rw [List.length_map] at hl
    have hne : ys ≠ [] := fun z => by rw [z] at hl; have := hsl; rw [← hl] at this; exact absurd this (by decide)
    have sall := su.trans (sa.trans (sb.trans (hs3.trans st)))
    refine ⟨ad, t, _, _, rfl, rfl, SqT.of (st _ _ (hs3 _ _ (sb _ _ upd_same))), SqT.of upd_same, (fun z => nomatch z), le_line (by have := subs_len r0; show 1 + ys.length ≤ _; omega), (fun z => absurd z hne), fun _ t2 nt2 => ?_⟩
    have s2 := same_new nt2 (.tup ([.str "pick"] ++ ys))
    have hRs2 := (hRs.keep (same_keep (st.trans s2)))
    rw [hsw] at hRs2
    refine q _ (.ref t2) (sall.trans s2) ?_
    match ys, hRs2 with | [x', y', z'], hh => exact ⟨t2, x', y', z', rfl, upd_same, hh.1, hh.2.1, hh.2.2.1⟩ | [], hh => exact hh.elim | [_], hh => exact hh.2.elim | [_, _], hh => exact hh.2.2.elim | _ :: _ :: _ :: _ :: _, hh => exact hh.2.2.2.elim
theorem all__law_exchanged (T : Txt K mg) (D : IsDef K mg "_law_exchanged" s__law_exchanged ["r", "old", "new"]) : ∀ k : Nat, Cal P w K mg base CX0 k "_law_exchanged" ["r", "old", "new"] (spExch k)
  | 0 => cal_none D fun vs H Q E h => by
    obtain ⟨v, r, old, new, _, _, _, h1, _⟩ := h
    have := dep_pos r
    omega
  | k + 1 => ok__law_exchanged T D (all__law_exchanged T D k)
end
/-! ### the law -/
def spLaw (K : PySem.W.Frag) : Sp := fun vs H Q _ => ∃ (a : Addr) (ns : List Int), vs = [.ref a] ∧ SqL K H a (ns.map V.int) ∧ ns.length ≤ 63 ∧ ∀ H', Q (.bl true) H'
theorem recs_lst {H : Hp} {D : Addr} {xs ys : List V} {rs : List Rcp} {vs : List V} (h : Recs H rs vs) (hD : H D = some (.lst xs)) : Recs (upd H D (.lst ys)) rs vs := h.keep (keep_lst hD)
theorem Recs.three {H : Hp} : ∀ {rs : List Rcp} {xs : List V}, Recs H rs xs → rs.length = 3 → ∃ r s t x y z, rs = [r, s, t] ∧ xs = [x, y, z] ∧ Rec H r x ∧ Rec H s y ∧ Rec H t z
  | [r, s, t], [x, y, z], h, _ => ⟨r, s, t, x, y, z, rfl, rfl, h.1, h.2.1, h.2.2.1⟩
  | [], _, _, e => by cases e
  | [_], _, _, e => by cases e
  | [_, _], _, _, e => by cases e
  | _ :: _ :: _ :: _ :: _, _, _, e => by simp at e
  | [_, _, _], [], h, _ => h.elim
  | [_, _, _], [_], h, _ => h.2.elim
  | [_, _, _], [_, _], h, _ => h.2.2.elim
  | [_, _, _], _ :: _ :: _ :: _ :: _, h, _ => h.2.2.2.elim
def kds4 : List Kd := [.plus, .minus, .times, .most]
theorem kws_at {i : Nat} {x : V} (h : ([.str "plus", .str "minus", .str "times", .str "most"] : List V)[i]? = some x) : ∃ k, kds4[i]? = some k ∧ x = .str k.name := by
  match i, h with
  | 0, h => exact ⟨.plus, rfl, (Option.some.inj h).symm⟩
  | 1, h => exact ⟨.minus, rfl, (Option.some.inj h).symm⟩
  | 2, h => exact ⟨.times, rfl, (Option.some.inj h).symm⟩
  | 3, h => exact ⟨.most, rfl, (Option.some.inj h).symm⟩
theorem nmL_ok {w : List (List Nat)} (h : ∀ s ∈ w, Nm s) : SeqAt.shaped (Th.lst (nmsTh w)).py = true ∧ PyData.eqv (Th.lst (nmsTh w)).py (Th.lst (nmsTh w)).py = true := by
  obtain ⟨h1, h2⟩ := nms_py h
  have hc : (Th.lst (nmsTh w)).py.canLay0 = true := h1
  refine ⟨?_, SeqAt.eqv_refl _ hc⟩
  show ((Th.lst (nmsTh w)).py.canLay0 && decide (PyData.depthAll (Th.pyL (nmsTh w)) + 1 ≤ 64)) = true
  rw [hc, h2]
  rfl
theorem nmL_data {H : Hp} {p : Addr} {w : List (List Nat)} (h : H p = some (.lst (txs w))) : Data H (.lst (nmsTh w)) (.ref p) := ⟨p, _, rfl, h, nms_data H w⟩
theorem nmL_flat (w : List (List Nat)) : (Th.lst (nmsTh w)).flat = true := Nms.flat
theorem merge3 {a b c : List Nat} (x y z : V) (h1 : a ≠ b) (h2 : a ≠ c) (h3 : b ≠ c) : mergeK [] [(keyN a, x), (keyN b, y), (keyN c, z)] = nmD id [(a, x), (b, y), (c, z)] := by
  have e1 : decide (keyN a = keyN b) = false := decide_eq_false (keyN_ne h1)
  have e2 : decide (keyN a = keyN c) = false := decide_eq_false (keyN_ne h2)
  have e3 : decide (keyN b = keyN c) = false := decide_eq_false (keyN_ne h3)
  simp only [mergeK, nmD, List.foldl_cons, List.foldl_nil, putK, List.any_nil, List.any_cons, List.nil_append, List.cons_append, e1, e2, e3, Bool.or_false, if_neg Bool.false_ne_true]
  rfl
theorem merge1 (a : List Nat) (n : Int) : mergeK [] [(keyN a, V.int n)] = nmD V.int [(a, n)] := rfl
theorem nm_p : Nm [112] := ⟨by decide, by decide, by decide⟩
theorem nm_q : Nm [113] := ⟨by decide, by decide, by decide⟩
theorem nm_r : Nm [114] := ⟨by decide, by decide, by decide⟩
theorem deck_frame {B0 H0 H : Hp} {d : Addr} (k : DeckAt B0 H0 d) (s : Same H0 H) : ∃ B, DeckAt B H d ∧ (∀ b o, H0 b = none → H b = some o → B b = some o) ∧ ∀ b xs, H b = some (.tup xs) → B b = some (.tup xs) := by
  obtain ⟨s0, bd, c, m, n, ns, bc, hd, hc, h0, h63⟩ := k
  refine ⟨fun b => if b = d ∨ b = c then none else H b, ⟨fun b o e => ?_, if_pos (.inl rfl), c, m, n, ns, if_pos (.inr rfl), s _ _ hd, s _ _ hc, h0, h63⟩, fun b o e h => ?_, fun b xs h => ?_⟩
  · have e' : (if b = d ∨ b = c then none else H b) = some o := e
    by_cases z : b = d ∨ b = c
    · rw [if_pos z] at e'; cases e'
    · rw [if_neg z] at e'; exact e'
  · show (if b = d ∨ b = c then none else H b) = some o
    rw [if_neg (fun z => ?_)]
    · exact h
    · rcases z with z | z
      · rw [z, hd] at e; cases e
      · rw [z, hc] at e; cases e
  · show (if b = d ∨ b = c then none else H b) = some (.tup xs)
    rw [if_neg (fun z => ?_)]
    · exact h
    · rcases z with z | z
      · rw [z, s _ _ hd] at h; cases h
      · rw [z, s _ _ hc] at h; cases h
theorem filter_less {l : List (List Nat)} {x : List Nat} : (l.filter fun s => !decide (s = x)).length < l.length ↔ x ∈ l := by
  rw [List.length_filter_lt_length_iff_exists]
  constructor
  · rintro ⟨y, hy, h⟩
    have : y = x := by simpa using h
    exact this ▸ hy
  · intro h
    exact ⟨x, h, by simp⟩
theorem seven {α : Type} {l : List α} (h : l.length = 7) : ∃ a b c d e f g, l = [a, b, c, d, e, f, g] := by
  match l, h with
  | [a, b, c, d, e, f, g], _ => exact ⟨a, b, c, d, e, f, g, rfl⟩
section
variable {P : Program} {w : World} {K : PySem.W.Frag} {mg : Str → Option Value} {base : Heap}
abbrev s_law : Stmt := topS 22
abbrev N_law : List Str := ["script", "deck", "r", "s", "t", "names", "rows", "made", "due", "one", "told", "part", "house", "old", "other", "kept", "k", "word", "name"]
theorem sc_law : FnScope N_law ["script"] (defScope s_law) := ⟨rfl, rfl, rfl, by decide +kernel, rfl, by decide +kernel, by decide +kernel⟩

theorem ok_law {fl : Addr} {fd : FuncData} (F : Fun K "law" "law" s_law fl fd) (T : Txt K mg) (C__law_draw : Cal P w K mg base CX0 1 "_law_draw" ["deck", "many"] spDraw) (C__law_deck : Cal P w K mg base CX0 1 "_law_deck" ["script"] (spDeck K))
    (C__law_name : Cal P w K mg base CX0 2 "_law_name" ["deck"] spName) (C__law_recipe : Cal P w K mg base CX0 9 "_law_recipe" ["deck", "deep", "left"] (spRecipe 6)) (C_names_in : Cal P w K mg base CX0 4 "names_in" ["r"] spNamesIn) (C_is_recipe : Cal P w K mg base CX0 4 "is_recipe" ["thing"] spIsRecipe)
    (C_is_house : Cal P w K mg base CX0 5 "is_house" ["thing"] spIsHouse) (C__law_together : Cal P w K mg base CX0 1 "_law_together" ["rows"] spTogether) (C__law_exchanged : Cal P w K mg base CX0 8 "_law_exchanged" ["r", "old", "new"] (spExch 8)) : FnOk P w K mg base CX0 12 fl fd ["script"] (spLaw K) := by
  refine F.ok sc_law (fun vs H Q E h => ?_) (fun cdv A outer s H vs Q E hr h => ?_)
  · obtain ⟨a, ns, rfl, _⟩ := h
    rfl
  obtain ⟨a, ns, rfl, hS, h63, q⟩ := h
  have hu := Nat.lt_of_le_of_lt (Nat.add_le_add_left (by decide : 1 ≤ 64) _) hr.units
  refine ⟨_, (pss_cons (ps_set (i := 1) sc_law.nd rfl (Or.inr rfl) (pe_cal C__law_deck (hr.mono (by first | decide | omega)) pass0 (pa_cons (pv 0) pa_nil)))
      (pss_cons (ps_asg (pe_lc (own := [("k", 16)]) (g := gName 16)  (by rfl) sc_law.nd  (pi_range1 rfl T.b_range (pa_cons pe_int pa_nil)) (blkOk_by (own := [("k", 16)]) (N := N_law) (sc := defScope s_law) (by decide +kernel)) (fun _ _ _ _ _ => (pg_name (i := 16) sc_law.nd rfl (Or.inl rfl))) (fun _ _ _ _ _ => pts_nil) (fun _ _ _ _ _ => (pe_cal C__law_recipe (hr.mono (by first | decide | omega)) pass0 (pa_cons (pv 1) (pa_cons (pe_op op_add pe_int (pe_cal C__law_draw (hr.mono (by first | decide | omega)) pass0 (pa_cons (pv 1) (pa_cons pe_int pa_nil)))) (pa_cons (pe_lst (pa_cons pe_int pa_nil)) pa_nil)))))) (pg_unl rfl (pgs_cons (pg_name (i := 2) sc_law.nd rfl (Or.inr rfl)) (pgs_cons (pg_name (i := 3) sc_law.nd rfl (Or.inr rfl)) (pgs_cons (pg_name (i := 4) sc_law.nd rfl (Or.inl rfl)) pgs_nil)))))
      (pss_cons (ps_set (i := 5) sc_law.nd rfl (Or.inl rfl) (pe_callTy call_tuple_of (by rfl) T.b_tuple (by decide +kernel) (pa_cons (pe_lc (own := [("k", 16)]) (g := gName 16)  (by rfl) sc_law.nd  (pi_range1 rfl T.b_range (pa_cons (pe_op op_add pe_int (pe_cal C__law_draw (hr.mono (by first | decide | omega)) pass0 (pa_cons (pv 1) (pa_cons pe_int pa_nil)))) pa_nil)) (blkOk_by (own := [("k", 16)]) (N := N_law) (sc := defScope s_law) (by decide +kernel)) (fun _ _ _ _ _ => (pg_name (i := 16) sc_law.nd rfl (Or.inl rfl))) (fun _ _ _ _ _ => pts_nil) (fun _ _ _ _ _ => (pe_cal C__law_name (hr.mono (by first | decide | omega)) pass0 (pa_cons (pv 1) pa_nil)))) pa_nil)))
      (pss_cons (ps_set (i := 6) sc_law.nd rfl (Or.inl rfl) (pe_lst (pa_cons (pe_cal C_names_in (hr.mono (by first | decide | omega)) pass0 (pa_cons (pv 2) pa_nil)) (pa_cons (pe_cal C_names_in (hr.mono (by first | decide | omega)) pass0 (pa_cons (pv 3) pa_nil)) (pa_cons (pe_cal C_names_in (hr.mono (by first | decide | omega)) pass0 (pa_cons (pv 4) pa_nil)) pa_nil)))))
      (pss_cons (ps_set (i := 7) sc_law.nd rfl (Or.inl rfl) (pe_op op_cat (pe_lc (own := [("word", 17)]) (g := gName 17)  (by rfl) sc_law.nd  (pi_list (pe_lst (pa_cons pe_str (pa_cons pe_str (pa_cons pe_str (pa_cons pe_str pa_nil)))))) (blkOk_by (own := [("word", 17)]) (N := N_law) (sc := defScope s_law) (by decide +kernel)) (fun _ _ _ _ _ => (pg_name (i := 17) sc_law.nd rfl (Or.inl rfl))) (fun _ _ _ _ _ => pts_nil) (fun _ _ _ _ _ => (pe_tup (pa_cons (pv 17) (pa_cons (pv 2) (pa_cons (pv 3) pa_nil)))))) (pe_lst (pa_cons (pe_tup (pa_cons pe_str (pa_cons (pv 2) (pa_cons (pv 3) (pa_cons (pv 4) pa_nil))))) (pa_cons (pe_tup (pa_cons pe_str (pa_cons (pv 2) (pa_cons (pv 5) pa_nil)))) pa_nil)))))
      (pss_cons (ps_expr (pe_bm PySem.F.plainAttrs_list PySem.F.slot_list_append PySem.F.type_list_append mt_append (pv 7) (pa_cons (pe_tup (pa_cons pe_str (pa_cons (pe_ix (r := rIxT K) ix_tup (pv 5) pe_int (fun _ _ => rfl)) pa_nil))) pa_nil)))
      (pss_cons (ps_set (i := 8) sc_law.nd rfl (Or.inl rfl) (pe_op op_cat (pe_op op_rep (pe_lst (pa_cons (pe_cal C__law_together (hr.mono (by first | decide | omega)) pass0 (pa_cons (pe_slice (r := rSlL K) sl_list (pv 6) po_none (po_some pe_int)) pa_nil)) pa_nil)) pe_int) (pe_lst (pa_cons (pe_cal C__law_together (hr.mono (by first | decide | omega)) pass0 (pa_cons (pv 6) pa_nil)) (pa_cons (pe_cal C__law_together (hr.mono (by first | decide | omega)) pass0 (pa_cons (pe_lst (pa_cons (pe_ix (r := rIxL K) ix_list (pv 6) pe_int (fun _ _ => rfl)) (pa_cons (pv 5) pa_nil))) pa_nil)) (pa_cons (pe_lst (pa_cons (pe_ix (r := rIxT K) ix_tup (pv 5) pe_int (fun _ _ => rfl)) pa_nil)) pa_nil))))))
      (pss_cons (ps_for PassesOwn.never rfl (pi_zip (by rfl) T.b_zip (pa_cons (pv 7) (pa_cons (pv 8) pa_nil))) (pg_tup rfl (pgs_cons (pg_name (i := 9) sc_law.nd rfl (Or.inl rfl)) (pgs_cons (pg_name (i := 10) sc_law.nd rfl (Or.inl rfl)) pgs_nil)))
        (pss_one (ps_if (PW.pt (pw_or (pt_cmpR op_notBl (pe_cal C_is_recipe (hr.mono (by first | decide | omega)) pass0 (pa_cons (pv 9) pa_nil)) pe_bl (nomark _)) (pw_or1 (pt_cmpR (op_neD hr.units) (pe_cal C_names_in (hr.mono (by first | decide | omega)) pass0 (pa_cons (pv 9) pa_nil)) (pv 10) (nomark _)))))
        (pss_one (ps_ret pe_bl))
        pss_nil)))
      (pss_cons (ps_for PassesOwn.never rfl (pi_list (pe_lst (pa_cons (pv 2) (pa_cons (pv 3) (pa_cons (pv 4) pa_nil))))) (pg_name (i := 11) sc_law.nd rfl (Or.inl rfl))
        (pss_one (ps_if (pt_cmpR op_notBl (pe_cal C_is_recipe (hr.mono (by first | decide | omega)) pass0 (pa_cons (pv 11) pa_nil)) pe_bl (nomark _))
        (pss_one (ps_ret pe_bl))
        pss_nil)))
      (pss_cons (ps_set (i := 12) sc_law.nd rfl (Or.inl rfl) (pe_tup (pa_cons (pe_disp (pps_cons pe_str pe_int pps_nil) (by rfl) (by rfl) (fun z => by cases z) (by decide)) (pa_cons (pe_disp (pps_cons pe_str (pe_ix (r := rIxL K) ix_list (pv 7) pe_int (fun _ _ => rfl)) (pps_cons pe_str (pe_ix (r := rIxL K) ix_list (pv 7) pe_int (fun _ _ => rfl)) (pps_cons pe_str (pe_ix (r := rIxL K) ix_list (pv 7) pe_int (fun _ _ => rfl)) pps_nil))) (by rfl) (by rfl) (fun z => by cases z) (by decide)) pa_nil))))
      (pss_cons (ps_if (PW.pt (pw_or (pt_cmpR op_notBl (pe_cal C_is_house (hr.mono (by first | decide | omega)) pass0 (pa_cons (pv 12) pa_nil)) pe_bl (nomark _)) (pw_or1 (pt_cmpR op_notBl (pe_cal C_is_house (hr.mono (by first | decide | omega)) pass0 (pa_cons (pe_tup (pa_cons (pe_disp (pps_cons pe_str pe_int pps_nil) (by rfl) (by rfl) (fun z => by cases z) (by decide)) (pa_cons (pe_ix (r := rIxT K) ix_tup (pv 12) pe_int (fun _ _ => rfl)) pa_nil))) pa_nil)) pe_bl (nomark _)))))
        (pss_one (ps_ret pe_bl))
        pss_nil)
      (pss_cons (ps_set (i := 13) sc_law.nd rfl (Or.inr rfl) (pe_ix (r := rIxL K) ix_list (pe_op op_cat (pe_cal C_names_in (hr.mono (by first | decide | omega)) pass0 (pa_cons (pe_ix (r := rIxL K) ix_list (pv 7) pe_int (fun _ _ => rfl)) pa_nil)) (pe_lst (pa_cons pe_str pa_nil))) (pe_op op_mod (pe_cal C__law_draw (hr.mono (by first | decide | omega)) pass0 (pa_cons (pv 1) (pa_cons pe_int pa_nil))) (pe_op op_add (pe_callB call_len_seq (by rfl) T.b_len PySem.boot_len (pa_cons (pe_cal C_names_in (hr.mono (by first | decide | omega)) pass0 (pa_cons (pe_ix (r := rIxL K) ix_list (pv 7) pe_int (fun _ _ => rfl)) pa_nil)) pa_nil)) pe_int)) (fun _ _ => rfl)))
      (pss_cons (ps_set (i := 14) sc_law.nd rfl (Or.inl rfl) (pe_cal C__law_exchanged (hr.mono (by first | decide | omega)) pass0 (pa_cons (pe_ix (r := rIxL K) ix_list (pv 7) pe_int (fun _ _ => rfl)) (pa_cons (pv 13) (pa_cons pe_str pa_nil)))))
      (pss_cons (ps_setLc (i := 15) (own := [("name", 18)]) (g := gName 18)  (by rfl) sc_law.nd rfl rfl (sw_true rfl rfl rfl (by decide +kernel)) (pi_list (pe_cal C_names_in (hr.mono (by first | decide | omega)) pass0 (pa_cons (pe_ix (r := rIxL K) ix_list (pv 7) pe_int (fun _ _ => rfl)) pa_nil))) (blkOk_by (own := [("name", 18)]) (N := N_law) (sc := defScope s_law) (by decide +kernel)) (fun _ _ _ _ _ => (pg_name (i := 18) sc_law.nd rfl (Or.inl rfl))) (fun _ _ _ _ _ => (pts_one (pt_cmpR op_ne (pv 18) (pv 13) (nomark _)))) (fun _ _ _ _ _ => (pv 18)))
      (pss_one (ps_ret (pe_cmpR (op_eqD hr.units) (pe_cal C_names_in (hr.mono (by first | decide | omega)) pass0 (pa_cons (pv 14) pa_nil)) (pe_cal C__law_together (hr.mono (by first | decide | omega)) pass0 (pa_cons (pe_lst (pa_cons (pv 15) (pa_cons (pe_op op_rep (pe_lst (pa_cons pe_str pa_nil)) (pe_callTy call_int1 (by rfl) T.b_int (by decide +kernel) (pa_cons (pe_cmpR op_lt (pe_callB call_len_seq (by rfl) T.b_len PySem.boot_len (pa_cons (pv 15) pa_nil)) (pe_callB call_len_seq (by rfl) T.b_len PySem.boot_len (pa_cons (pe_cal C_names_in (hr.mono (by first | decide | omega)) pass0 (pa_cons (pe_ix (r := rIxL K) ix_list (pv 7) pe_int (fun _ _ => rfl)) pa_nil)) pa_nil)) (nomark _)) pa_nil))) pa_nil))) pa_nil)) (nomark _)))))))))))))))))), ?_⟩
  refine ⟨_, rfl, a, ns, rfl, hS, h63, fun B1 H1 d hB1 hD1 => ?_⟩
  -- the three recipes
  refine ⟨3, rfl, by decide, by decide, fun L nL => lc_range (lo := 0) (n := 3) (fun i H' => ∃ (B' : Hp) (rs : List Rcp) (xs : List V), Same B1 B' ∧ DeckAt B' H' d ∧ B' L = some (.lst xs) ∧ Recs B' rs xs ∧ rs.length = i ∧ ∀ r ∈ rs, r.Good ∧ r.dep ≤ 6 ∧ r.siz ≤ 20)
    ⟨_, [], [], same_new (hD1.free nL) _, hD1.new nL _, upd_same, trivial, rfl, by simp⟩ ?_ ?_⟩
  · rintro i H2 hi ⟨B2, rs, xs, hB2, hD2, hL, hR, hn, hg⟩
    refine ⟨rfl, _, rfl, _, rfl, B2, d, 6, rfl, hD2, by decide, by decide, fun H3 n hD3 n0 n6 => ⟨_, _, rfl, rfl, le_line (Nat.le_of_ble_eq_true rfl), fun l nl => ?_⟩⟩
    have hD4 := hD3.new nl (.lst [.int 10])
    have nlB : B2 l = none := hD3.free nl
    refine ⟨_, d, l, 1 + n, 10, rfl, hD4, upd_same, by omega, by omega, fun B5 H5 n' v r hb hl5 hD5 hR5 hG hd hz hn' => ?_⟩
    have s25 : Same B2 B5 := fun b o e => by
      have ne : b ≠ l := ne_of_none e nlB
      exact hb b o ne (by rw [upd_ne ne]; exact e)
    have hL5 := s25 _ _ hL
    refine ⟨_, hD5.1 _ _ hL5, by rw [hR.len, hn]; exact lt_line (by omega), upd B5 L (.lst (xs ++ [v])), rs ++ [r], xs ++ [v], fun b o e => ?_, hD5.put hL5 _, upd_same, recs_lst (Recs.snoc hR5 (hR.keep (same_keep s25))) hL5, by rw [List.length_append, hn]; rfl, fun x hx => ?_⟩
    · have z : b ≠ L := fun z => by
        rw [z, hD1.free nL] at e
        cases e
      rw [upd_ne z]
      exact s25 b o (hB2 b o e)
    · rcases List.mem_append.mp hx with h | h
      · exact hg x h
      · rw [List.mem_singleton.mp h]
        exact ⟨hG, by omega, by omega⟩
  rintro H2 ⟨B2, rs, xs, hB2, hD2, hL2, hR2, hn2, hg2⟩
  obtain ⟨r, s0, t, x, y, z, rfl, rfl, rx, ry, rz⟩ := hR2.three hn2
  obtain ⟨gr, dr, zr⟩ := hg2 r (by simp)
  obtain ⟨gs, ds, zs⟩ := hg2 s0 (by simp)
  obtain ⟨gt, dt, zt⟩ := hg2 t (by simp)
  refine ⟨L, _, rfl, SqL.of (hD2.1 _ _ hL2), rfl, _, _, rfl, _, _, rfl, _, _, rfl, rfl, ?_⟩
  -- the names
  refine ⟨_, rfl, B2, d, 9, rfl, hD2, by decide, by decide, fun H3 n hD3 n0 n9 => ⟨_, _, rfl, rfl, 1 + n, rfl, Int.le_trans (by decide) (Int.add_nonneg (by decide) n0), by omega, fun N nN => lc_range (lo := 0) (n := (1 + n).toNat) (fun i H' => ∃ (B' : Hp) (ss : List (List Nat)), Same B2 B' ∧ DeckAt B' H' d ∧ B' N = some (.lst (txs ss)) ∧ ss.length = i ∧ ∀ c ∈ ss, Nm c)
    ⟨_, [], same_new (hD3.free nN) _, hD3.new nN _, upd_same, rfl, by simp⟩ ?_ ?_⟩⟩
  · rintro i H4 hi ⟨B4, ss, hB, hD4, hL, hn, hc⟩
    refine ⟨rfl, _, rfl, B4, d, rfl, hD4, fun B5 H5 z hB5 hD5 hz => ⟨_, hD5.1 _ _ (hB5 _ _ hL), by rw [txs_len, hn]; exact lt_line (by omega), ?_⟩⟩
    refine ⟨upd B5 N _, ss ++ [z], fun b o e => ?_, hD5.put (hB5 _ _ hL) _, by rw [upd_same, txs_app]; rfl, by rw [List.length_append, hn]; rfl, fun c hcm => ?_⟩
    · have ne : b ≠ N := fun z => by
        rw [z, hD3.free nN] at e
        cases e
      rw [upd_ne ne]
      exact hB5 b o (hB b o e)
    · rcases List.mem_append.mp hcm with h | h
      · exact hc c h
      · rw [List.mem_singleton.mp h]
        exact hz
  rintro H4 ⟨B4, ss, hB4, hD4, hN4, hn4, hc4⟩
  have hss : Nms ss := ⟨by omega, by omega, hc4⟩
  refine ⟨N, _, rfl, .inl ⟨SqL.of (hD4.1 _ _ hN4), fun u nu => ?_⟩⟩
  have hDu := hD4.new nu (.tup (txs ss))
  have hBu := hB4.trans (same_new (hD4.free nu) (.tup (txs ss)))
  obtain ⟨B5, hB5, hD5, hu5⟩ : ∃ B5 : Hp, Same B2 B5 ∧ DeckAt B5 _ d ∧ B5 u = some (.tup (txs ss)) := ⟨_, hBu, hDu, upd_same⟩
  have kx := (rx.same hB5).same hD5.1
  have ky := (ry.same hB5).same hD5.1
  have kz := (rz.same hB5).same hD5.1
  have ku := hD5.1 _ _ hu5
  obtain ⟨H5, hH5⟩ : ∃ H5, H5 = upd H4 u (.tup (txs ss)) := ⟨_, rfl⟩
  rw [← hH5] at kx ky kz ku hD5 ⊢
  clear hDu hBu
  obtain ⟨n0, rest, hss0⟩ : ∃ n0 rest, ss = n0 :: rest := by
    cases ss with
    | nil => exact absurd hss.1 (by decide)
    | cons n0 rest => exact ⟨n0, rest, rfl⟩
  have hn0 : Nm n0 := hc4 n0 (by rw [hss0]; exact List.mem_cons_self ..)
  have hat0 : atI (txs ss) 0 = some (.str (SX.S n0)) := by rw [hss0]; exact atI_at (by decide) rfl
  -- the rows of names
  refine ⟨_, rfl, x, r, rfl, kx, gr, by omega, fun H6 p1 y1 hs6 np1 hp1 si1 m1 l1 => ?_⟩
  refine ⟨_, rfl, y, s0, rfl, ky.same hs6, gs, by omega, fun H7 p2 y2 hs7 np2 hp2 si2 m2 l2 => ?_⟩
  refine ⟨_, rfl, z, t, rfl, (kz.same hs6).same hs7, gt, by omega, fun H8 p3 y3 hs8 np3 hp3 si3 m3 l3 => ⟨le_line (Nat.le_of_ble_eq_true rfl), fun Lr nLr => ?_⟩⟩
  have sLr := same_new nLr (.lst [.ref p1, .ref p2, .ref p3])
  obtain ⟨H9, hH9⟩ : ∃ H9, H9 = upd H8 Lr (.lst [.ref p1, .ref p2, .ref p3]) := ⟨_, rfl⟩
  have s59 : Same H5 H9 := by rw [hH9]; exact hs6.trans (hs7.trans (hs8.trans sLr))
  have hLr : H9 Lr = some (.lst [.ref p1, .ref p2, .ref p3]) := by rw [hH9]; exact upd_same
  have h91 : H9 p1 = some (.lst (txs y1)) := by rw [hH9]; exact sLr _ _ (hs8 _ _ (hs7 _ _ hp1))
  have h92 : H9 p2 = some (.lst (txs y2)) := by rw [hH9]; exact sLr _ _ (hs8 _ _ hp2)
  have h93 : H9 p3 = some (.lst (txs y3)) := by rw [hH9]; exact sLr _ _ hp3
  rw [← hH9]
  clear hH9 sLr
  have jx := kx.same s59
  have jy := ky.same s59
  have jz := kz.same s59
  have ju := s59 _ _ ku
  -- what is made
  refine ⟨le_line (Nat.le_of_ble_eq_true rfl), fun W nW => ?_⟩
  have sW := same_new nW (.lst [.str "plus", .str "minus", .str "times", .str "most"])
  refine ⟨W, rfl, ⟨_, SqL.of upd_same⟩, fun M nM => lc_list (K := K) (a := W) (xs := [.str "plus", .str "minus", .str "times", .str "most"]) (fun i H' => Same (upd H9 W (.lst [.str "plus", .str "minus", .str "times", .str "most"])) H' ∧ ∃ xs : List V, H' M = some (.lst xs) ∧ Recs H' ((kds4.take i).map fun k => .two k r s0) xs)
    ⟨same_new nM _, [], upd_same, trivial⟩ (fun i H' _ h => SqL.of (h.1 _ _ upd_same)) ?_ ?_⟩
  · rintro i w0 H10 hx ⟨hs10, xs, hM, hR⟩
    obtain ⟨k, hk, rfl⟩ := kws_at hx
    have i4 : i < 4 := by
      have := (List.getElem?_eq_some_iff.mp hk).1
      exact this
    refine ⟨rfl, _, rfl, _, rfl, _, rfl, le_line (Nat.le_of_ble_eq_true rfl), fun p np => ?_⟩
    have sp := same_new np (.tup [.str k.name, x, y])
    have hMp := sp _ _ hM
    have hRp : Rec (upd H10 p (.tup [.str k.name, x, y])) (.two k r s0) (.ref p) := ⟨p, x, y, rfl, upd_same, jx.same (sW.trans (hs10.trans sp)), jy.same (sW.trans (hs10.trans sp))⟩
    have hl := hR.len
    rw [List.length_map, List.length_take] at hl
    refine ⟨xs, hMp, lt_line (by omega), same_upd (hs10.trans sp) nM _, xs ++ [.ref p], upd_same, ?_⟩
    rw [List.take_add_one, hk, List.map_append]
    exact recs_lst (Recs.snoc hRp (hR.keep (same_keep sp))) hMp
  rintro H10 ⟨hs10, xs, hM10, hR10⟩
  have s910 := sW.trans hs10
  have hR10' : Recs H10 [.two .plus r s0, .two .minus r s0, .two .times r s0, .two .most r s0] xs := hR10
  have hl10 := hR10'.len
  refine ⟨_, rfl, _, rfl, _, rfl, le_line (Nat.le_of_ble_eq_true rfl), fun p np => ⟨_, rfl, _, rfl, le_line (Nat.le_of_ble_eq_true rfl), fun pc npc => ⟨le_line (Nat.le_of_ble_eq_true rfl), fun l2 nl2 => ?_⟩⟩⟩
  have k1 := same_new np (.tup [.str "pick", x, y, z])
  have k2 := same_new npc (.tup [.str "choose", x, .ref u])
  have k3 := same_new nl2 (.lst [.ref p, .ref pc])
  have k13 := k1.trans (k2.trans k3)
  refine ⟨M, l2, xs, _, rfl, rfl, k13 _ _ hM10, upd_same, le_line (by rw [hl10]; show 4 + 2 ≤ 16777216; omega), fun D8 nD8 => ?_⟩
  have k4 := same_new nD8 (.lst (xs ++ [.ref p, .ref pc]))
  have n9D : H9 D8 = none := (s910.trans k13).free nD8
  have rp : Rec (upd (upd (upd H10 p (.tup [.str "pick", x, y, z])) pc (.tup [.str "choose", x, .ref u])) l2 (.lst [.ref p, .ref pc])) (.pick r s0 t) (.ref p) :=
    ⟨p, x, y, z, rfl, k3 _ _ (k2 _ _ upd_same), jx.same (s910.trans k13), jy.same (s910.trans k13), jz.same (s910.trans k13)⟩
  have rc : Rec (upd (upd (upd H10 p (.tup [.str "pick", x, y, z])) pc (.tup [.str "choose", x, .ref u])) l2 (.lst [.ref p, .ref pc])) (.choose r ss) (.ref pc) :=
    ⟨pc, x, u, rfl, k3 _ _ upd_same, jx.same (s910.trans k13), k13 _ _ (s910 _ _ ju)⟩
  have r6 := Recs.snoc rc (Recs.snoc rp (hR10'.keep (same_keep k13)))
  rw [show (xs ++ [V.ref p]) ++ [V.ref pc] = xs ++ [V.ref p, .ref pc] by simp] at r6
  have r6' := r6.keep (same_keep k4)
  obtain ⟨H11, hH11⟩ : ∃ H11, H11 = upd (upd (upd (upd H10 p (.tup [.str "pick", x, y, z])) pc (.tup [.str "choose", x, .ref u])) l2 (.lst [.ref p, .ref pc])) D8 (.lst (xs ++ [V.ref p, V.ref pc])) := ⟨_, rfl⟩
  have s911 : Same H9 H11 := by rw [hH11]; exact s910.trans (k13.trans k4)
  have hM11 : H11 D8 = some (.lst (xs ++ [V.ref p, V.ref pc])) := by rw [hH11]; exact upd_same
  rw [← hH11] at r6' ⊢
  clear rp rc k1 k2 k3 k4 k13 r6 hR10 hR10'
  have hR11 : Recs H11 [.two .plus r s0, .two .minus r s0, .two .times r s0, .two .most r s0, .pick r s0 t, .choose r ss] (xs ++ [V.ref p, V.ref pc]) := r6'
  clear r6'
  generalize xs ++ [V.ref p, V.ref pc] = ms at hR11 hM11
  -- one more
  refine ⟨_, rfl, .inl ⟨rfl, _, SqL.of hM11⟩, _, rfl, u, _, _, _, rfl, rfl, SqT.of (s911 _ _ ju), hat0, le_line (Nat.le_of_ble_eq_true rfl), fun u7 nu7 => ?_⟩
  have k7 := same_new nu7 (.tup [.str "read", .str (SX.S n0)])
  refine ⟨D8, _, _, rfl, rfl, k7 _ _ hM11, lt_line (by rw [hR11.len]; show 6 < 16777216; decide), ?_⟩
  have hR12 : Recs (upd (upd H11 u7 (.tup [.str "read", .str (SX.S n0)])) D8 (.lst (ms ++ [.ref u7]))) [.two .plus r s0, .two .minus r s0, .two .times r s0, .two .most r s0, .pick r s0 t, .choose r ss, .read n0] (ms ++ [.ref u7]) :=
    recs_lst (Recs.snoc (r := .read n0) ⟨u7, rfl, upd_same⟩ (hR11.keep (same_keep k7))) (k7 _ _ hM11)
  obtain ⟨H12, hH12⟩ : ∃ H12, H12 = upd (upd H11 u7 (.tup [.str "read", .str (SX.S n0)])) D8 (.lst (ms ++ [V.ref u7])) := ⟨_, rfl⟩
  have s912 : Same H9 H12 := by rw [hH12]; exact same_upd (s911.trans k7) n9D _
  have hM12 : H12 D8 = some (.lst (ms ++ [V.ref u7])) := by rw [hH12]; exact upd_same
  rw [← hH12] at hR12 ⊢
  clear hH12 hH11 k7 nu7 nD8 hM11 hR11
  generalize ms ++ [V.ref u7] = ms7 at hR12 hM12
  -- what is due
  have hP12 := s912 _ _ hLr
  refine ⟨_, rfl, _, rfl, Lr, _, rfl, SqL.of hP12, fun z1 nz1 => ?_⟩
  rw [show cutV ([.ref p1, .ref p2, .ref p3] : List V) none (some 2) = [.ref p1, .ref p2] from cut_to _ 2]
  have q1 := same_new nz1 (.lst [.ref p1, .ref p2])
  refine ⟨z1, _, [y1, y2], rfl, upd_same, ⟨⟨p1, rfl, .inl (q1 _ _ (s912 _ _ h91))⟩, ⟨p2, rfl, .inl (q1 _ _ (s912 _ _ h92))⟩, trivial⟩, by show y1.length + (y2.length + 0) ≤ 100000; omega, fun H13 d1 w1 hs13 nd1 hd1 sw1 mw1 => ?_⟩
  refine ⟨le_line (Nat.le_of_ble_eq_true rfl), fun ql nql => ?_⟩
  have q2 := same_new nql (.lst [.ref d1])
  refine ⟨ql, 4, [.ref d1], rfl, rfl, upd_same, by decide, by decide, le_line (Nat.le_of_ble_eq_true rfl), fun rl nrl => ?_⟩
  have q3 := same_new nrl (.lst [.ref d1, .ref d1, .ref d1, .ref d1])
  have s1214 : Same H12 (upd (upd H13 ql (.lst [.ref d1])) rl (.lst [.ref d1, .ref d1, .ref d1, .ref d1])) := q1.trans (hs13.trans (q2.trans q3))
  have s914 := s912.trans s1214
  refine ⟨_, rfl, Lr, _, [y1, y2, y3], rfl, s914 _ _ hLr, ⟨⟨p1, rfl, .inl (s914 _ _ h91)⟩, ⟨p2, rfl, .inl (s914 _ _ h92)⟩, ⟨p3, rfl, .inl (s914 _ _ h93)⟩, trivial⟩, by show y1.length + (y2.length + (y3.length + 0)) ≤ 100000; omega, fun H15 d2 w2 hs15 nd2 hd2 sw2 mw2 => ?_⟩
  have s915 := s914.trans hs15
  refine ⟨_, rfl, Lr, _, _, _, rfl, rfl, SqL.of (s915 _ _ hLr), atI_at (by decide) rfl, _, rfl, le_line (Nat.le_of_ble_eq_true rfl), fun z2 nz2 => ?_⟩
  have q4 := same_new nz2 (.lst [.ref p1, .ref u])
  have s916 := s915.trans q4
  refine ⟨z2, _, [y1, ss], rfl, upd_same, ⟨⟨p1, rfl, .inl (s916 _ _ h91)⟩, ⟨u, rfl, .inr (s916 _ _ ju)⟩, trivial⟩, by show y1.length + (ss.length + 0) ≤ 100000; have := hss.2.1; omega, fun H17 d3 w3 hs17 nd3 hd3 sw3 mw3 => ?_⟩
  have s917 := s916.trans hs17
  refine ⟨_, rfl, u, _, _, _, rfl, rfl, SqT.of (s917 _ _ ju), hat0, le_line (Nat.le_of_ble_eq_true rfl), fun z3 nz3 => ⟨le_line (Nat.le_of_ble_eq_true rfl), fun z4 nz4 => ?_⟩⟩
  have q5 := same_new nz3 (.lst [.str (SX.S n0)])
  have q6 := same_new nz4 (.lst [.ref d2, .ref d3, .ref z3])
  have hrl : upd (upd H17 z3 (.lst [.str (SX.S n0)])) z4 (.lst [.ref d2, .ref d3, .ref z3]) rl = some (.lst [.ref d1, .ref d1, .ref d1, .ref d1]) := q6 _ _ (q5 _ _ (hs17 _ _ (q4 _ _ (hs15 _ _ upd_same))))
  refine ⟨rl, z4, _, _, rfl, rfl, hrl, upd_same, le_line (Nat.le_of_ble_eq_true rfl), fun Du nDu => ?_⟩
  have q7 := same_new nDu (.lst [.ref d1, .ref d1, .ref d1, .ref d1, .ref d2, .ref d3, .ref z3])
  obtain ⟨H18, hH18⟩ : ∃ H18, H18 = upd (upd (upd H17 z3 (.lst [.str (SX.S n0)])) z4 (.lst [.ref d2, .ref d3, .ref z3])) Du (.lst [.ref d1, .ref d1, .ref d1, .ref d1, .ref d2, .ref d3, .ref z3]) := ⟨_, rfl⟩
  have s1718 : Same H17 H18 := by rw [hH18]; exact q5.trans (q6.trans q7)
  have s1518 : Same H15 H18 := (q4.trans hs17).trans s1718
  have s1218 : Same H12 H18 := (s1214.trans hs15).trans s1518
  have s918 := s912.trans s1218
  have hDu18 : H18 Du = some (.lst [.ref d1, .ref d1, .ref d1, .ref d1, .ref d2, .ref d3, .ref z3]) := by rw [hH18]; exact upd_same
  have hM18 := s1218 _ _ hM12
  have hR18 := hR12.keep (same_keep s1218)
  have e1 : H18 d1 = some (.lst (txs w1)) := s1518 _ _ (hs15 _ _ (q3 _ _ (q2 _ _ hd1)))
  have e2 : H18 d2 = some (.lst (txs w2)) := s1518 _ _ hd2
  have e3 : H18 d3 = some (.lst (txs w3)) := s1718 _ _ hd3
  have e4 : H18 z3 = some (.lst (txs [n0])) := by rw [hH18]; exact q7 _ _ (q6 _ _ upd_same)
  have x18 := jx.same s918
  have y18 := jy.same s918
  have z18 := jz.same s918
  have u18 := s918 _ _ ju
  have sD5 : Same H5 H18 := s59.trans s918
  have hD18 := hD5.same sD5
  rw [show upd (upd (upd H17 z3 (.lst [.str (SX.S n0)])) z4 (.lst [.ref d2, .ref d3, .ref z3])) Du (.lst ([.ref d1, .ref d1, .ref d1, .ref d1] ++ [.ref d2, .ref d3, .ref z3])) = H18 from hH18.symm]
  have hnmR : ∀ {q : Rcp}, q.Good → ∀ s, s ∈ q.all → Nm s := fun hg s hs => all_good hg s hs
  have mm1 : ∀ k s, s ∈ w1 ↔ s ∈ (Rcp.two k r s0).all := fun k s => by
    rw [mw1]
    show _ ↔ s ∈ r.all ++ s0.all
    simp [m1, m2]
  have mm2 : ∀ s, s ∈ w2 ↔ s ∈ (Rcp.pick r s0 t).all := fun s => by
    rw [mw2]
    show _ ↔ s ∈ r.all ++ (s0.all ++ t.all)
    simp [m1, m2, m3]
  have mm3 : ∀ s, s ∈ w3 ↔ s ∈ (Rcp.choose r ss).all := fun s => by
    rw [mw3]
    show _ ↔ s ∈ r.all ++ ss
    simp [m1]
  clear hH18 q1 q2 q3 q4 q5 q6 q7 hs13 hs15 hs17 s1214 s914 s915 s916 s917 s1718 s1518
  -- all that is made
  obtain ⟨all7, hall⟩ : ∃ all7 : List Rcp, all7 = [.two .plus r s0, .two .minus r s0, .two .times r s0, .two .most r s0, .pick r s0 t, .choose r ss, .read n0] := ⟨_, rfl⟩
  rw [← hall] at hR18
  have hok : ∀ q ∈ all7, q.Good ∧ q.dep ≤ 8 ∧ q.siz ≤ 100 := by
    rw [hall]
    intro q hq
    have two : ∀ k, (Rcp.two k r s0).Good ∧ (Rcp.two k r s0).dep ≤ 8 ∧ (Rcp.two k r s0).siz ≤ 100 := fun k => ⟨⟨gr, gs⟩, by show max r.dep s0.dep + 1 ≤ 8; omega, by show r.siz + s0.siz + 1 ≤ 100; omega⟩
    simp only [List.mem_cons, List.not_mem_nil, or_false] at hq
    rcases hq with rfl | rfl | rfl | rfl | rfl | rfl | rfl
    · exact two _
    · exact two _
    · exact two _
    · exact two _
    · exact ⟨⟨gr, gs, gt⟩, by show max r.dep (max s0.dep t.dep) + 1 ≤ 8; omega, by show r.siz + s0.siz + t.siz + 1 ≤ 100; omega⟩
    · exact ⟨⟨gr, hss⟩, by show r.dep + 1 ≤ 8; omega, by show r.siz + 1 ≤ 100; omega⟩
    · exact ⟨hn0, (show 1 ≤ 8 by decide), (show 1 ≤ 100 by decide)⟩
  have hdue : ∀ (i : Nat) (q : Rcp) (v : V), all7[i]? = some q → ([.ref d1, .ref d1, .ref d1, .ref d1, .ref d2, .ref d3, .ref z3] : List V)[i]? = some v → ∃ p w, v = .ref p ∧ H18 p = some (.lst (txs w)) ∧ SI w ∧ ∀ s, s ∈ w ↔ s ∈ q.all := by
    rw [hall]
    intro i q v hq hv
    match i, hq, hv with
    | 0, hq, hv => cases hq; cases hv; exact ⟨d1, w1, rfl, e1, sw1, mm1 _⟩
    | 1, hq, hv => cases hq; cases hv; exact ⟨d1, w1, rfl, e1, sw1, mm1 _⟩
    | 2, hq, hv => cases hq; cases hv; exact ⟨d1, w1, rfl, e1, sw1, mm1 _⟩
    | 3, hq, hv => cases hq; cases hv; exact ⟨d1, w1, rfl, e1, sw1, mm1 _⟩
    | 4, hq, hv => cases hq; cases hv; exact ⟨d2, w2, rfl, e2, sw2, mm2⟩
    | 5, hq, hv => cases hq; cases hv; exact ⟨d3, w3, rfl, e3, sw3, mm3⟩
    | 6, hq, hv => cases hq; cases hv; exact ⟨z3, [n0], rfl, e4, List.pairwise_singleton _ _, fun s => Iff.rfl⟩
    | _ + 7, hq, hv => simp at hq
  have hlen7 : ms7.length = 7 := by rw [hR18.len, hall]; rfl
  have rcpT : ∀ {q : Rcp}, q.Good → q.dep ≤ 8 → q.siz ≤ 100 → q.th.isRcp = true := fun hg hd hz => by
    have h8 := Rcp.okay 8 hg hd
    show (_ && decide (_ ≤ 100)) = true
    rw [h8.1, h8.2, decide_eq_true hz]
    rfl
  have hsame : ∀ {w w' : List (List Nat)} {q : Rcp}, q.Good → SI w → SI w' → (∀ s, s ∈ w ↔ s ∈ q.all) → (∀ s, s ∈ w' ↔ s ∈ q.all) → w = w' := fun _ h1 h2 h3 h4 => si_ext h1 h2 fun s => (h3 s).trans (h4 s).symm
  refine ⟨_, rfl, _, rfl, D8, Du, ms7, _, rfl, SqL.of hM18, SqL.of hDu18, RZ.for_zipL (K := K) hlen7 (fun i σ H' => ∃ v9 v10 : Option V, σ = [some (.ref a), some (.ref d), some x, some y, some z, some (.ref u), some (.ref Lr), some (.ref D8), some (.ref Du), v9, v10, none, none, none, none, none, none, none, none] ∧ Same H18 H')
    ⟨none, none, rfl, Same.refl _⟩ (fun i σ H' ⟨_, _, _, h⟩ => ⟨SqL.of (h _ _ hM18), SqL.of (h _ _ hDu18)⟩) ?_ ?_⟩
  · rintro i v tv T1 σ H19 hx hy ⟨v9, v10, rfl, hs19⟩ nT
    obtain ⟨q7, hq7, hRv⟩ := hR18.at hx
    obtain ⟨g1, g2, g3⟩ := hok q7 (List.mem_of_getElem? hq7)
    obtain ⟨pw, w, rfl, hpw, sw, mw⟩ := hdue i q7 tv hq7 hy
    have sT := same_new nT (.tup [v, .ref pw])
    refine ⟨T1, _, rfl, SqT.of upd_same, rfl, _, _, rfl, _, _, rfl, rfl, ?_⟩
    have hRT := (hRv.same hs19).same sT
    refine ⟨_, rfl, v, q7.th, rfl, hRT.data, Rcp.tame g1, fun H20 hs20 => ?_⟩
    rw [rcpT g1 g2 g3]
    refine ⟨_, _, rfl, rfl, _, rfl, not_true_eq (decide_eq_true rfl) ?_⟩
    refine ⟨_, rfl, v, q7, rfl, hRT.same hs20, g1, by omega, fun H21 p' w' hs21 np' hp' sw' mw' l' => ?_⟩
    have s1821 := hs19.trans (sT.trans (hs20.trans hs21))
    have ew : w' = w := hsame g1 sw' sw mw' mw
    subst ew
    obtain ⟨n1, n2⟩ := nmL_ok (w := w') fun s h => all_good g1 s ((mw s).mp h)
    refine ⟨_, rfl, _, _, Data.dp (nmL_flat w') (nmL_data hp'), Data.dp (nmL_flat w') (nmL_data (s1821 _ _ hpw)), n1, n1, _, rfl, ?_⟩
    rw [n2]
    exact iteF ⟨_, _, rfl, s1821⟩
  rintro σ H19 ⟨v9, v10, rfl, hs19⟩
  -- the parts
  refine ⟨_, rfl, _, rfl, _, rfl, le_line (Nat.le_of_ble_eq_true rfl), fun l nl => ?_⟩
  have sl := same_new nl (.lst [x, y, z])
  have s1820 := hs19.trans sl
  refine ⟨l, rfl, ⟨_, SqL.of upd_same⟩, for_list (K := K) (a := l) (xs := [x, y, z]) (fun i σ H' => ∃ v11 : Option V, σ = [some (.ref a), some (.ref d), some x, some y, some z, some (.ref u), some (.ref Lr), some (.ref D8), some (.ref Du), v9, v10, v11, none, none, none, none, none, none, none] ∧ Same (upd H19 l (.lst [x, y, z])) H')
    ⟨none, rfl, Same.refl _⟩ (fun i σ H' _ ⟨_, _, h⟩ => SqL.of (h _ _ upd_same)) ?_ ?_⟩
  · rintro i v σ H21 hv ⟨v11, rfl, hs21⟩
    obtain ⟨q3, hRv, g1, g2, g3⟩ : ∃ q3, Rec H21 q3 v ∧ q3.Good ∧ q3.dep ≤ 8 ∧ q3.siz ≤ 100 := by
      have hm := List.mem_of_getElem? hv
      simp only [List.mem_cons, List.not_mem_nil, or_false] at hm
      rcases hm with rfl | rfl | rfl
      · exact ⟨r, (x18.same s1820).same hs21, gr, by omega, by omega⟩
      · exact ⟨s0, (y18.same s1820).same hs21, gs, by omega, by omega⟩
      · exact ⟨t, (z18.same s1820).same hs21, gt, by omega, by omega⟩
    refine ⟨_, rfl, v, q3.th, rfl, hRv.data, Rcp.tame g1, fun H22 hs22 => ?_⟩
    rw [rcpT g1 g2 g3]
    exact ⟨_, _, rfl, rfl, _, rfl, not_true_eq (decide_eq_true rfl) ⟨_, rfl, hs21.trans hs22⟩⟩
  rintro σ H21 ⟨v11, rfl, hs21⟩
  have s1821 := s1820.trans hs21
  -- the house
  obtain ⟨b0, b1, b2, b3, b4, b5, b6, rfl⟩ := seven hlen7
  subst hall
  obtain ⟨r0, _, _, _, r4, r5, _⟩ := hR18.keep (same_keep s1821)
  have hM21 := s1821 _ _ hM18
  have eg : ("given" : Str) = SX.S [103, 105, 118, 101, 110] := by decide +kernel
  have ep : ("p" : Str) = SX.S [112] := by decide +kernel
  have eq : ("q" : Str) = SX.S [113] := by decide +kernel
  have er : ("r" : Str) = SX.S [114] := by decide +kernel
  refine fun g ng => ⟨upd_same, [(keyN [103, 105, 118, 101, 110], .int 5)], ?_, (show 1 ≤ 15 by decide), fun h nh => ?_⟩
  · rw [eg]
    rfl
  rw [merge1, upd_upd]
  rw [merge1, upd_upd] at nh
  have v1 := same_new ng (.dK (nmD V.int [([103, 105, 118, 101, 110], 5)]))
  have v2 := same_new nh (.dK [])
  have hMg := v2 _ _ (v1 _ _ hM21)
  refine ⟨_, rfl, D8, _, _, _, rfl, rfl, SqL.of hMg, atI_at (by decide) rfl, _, rfl, D8, _, _, _, rfl, rfl, SqL.of hMg, atI_at (by decide) rfl, _, rfl, D8, _, _, _, rfl, rfl, SqL.of hMg, atI_at (by decide) rfl, upd_same, [(keyN [112], b0), (keyN [113], b4), (keyN [114], b5)], ?_, (show 3 ≤ 15 by decide), ?_⟩
  · rw [ep, eq, er]
    rfl
  rw [merge3 _ _ _ (by decide) (by decide) (by decide), upd_upd]
  have v3 := same_new nh (.dK (nmD id [([112], b0), ([113], b4), ([114], b5)]))
  refine ⟨le_line (Nat.le_of_ble_eq_true rfl), fun ho nho => ?_⟩
  have v4 := same_new nho (.tup [.ref g, .ref h])
  have v24 := v1.trans (v3.trans v4)
  have gh : g ≠ h := ne_of_none upd_same nh
  have okr : ∀ H', Same H21 H' → ∀ p ∈ [([112], b0), ([113], b4), ([114], b5)], Nm p.1 ∧ ∃ r, Rec H' r p.2 ∧ r.Good ∧ r.dep ≤ 8 ∧ r.siz ≤ 100 := fun H' hs' p hp => by
    simp only [List.mem_cons, List.not_mem_nil, or_false] at hp
    rcases hp with rfl | rfl | rfl
    · exact ⟨nm_p, _, r0.same hs', hok _ (by simp)⟩
    · exact ⟨nm_q, _, r4.same hs', hok _ (by simp)⟩
    · exact ⟨nm_r, _, r5.same hs', hok _ (by simp)⟩
  refine ⟨_, rfl, ho, g, h, [([103, 105, 118, 101, 110], 5)], [([112], b0), ([113], b4), ([114], b5)], rfl, upd_same, v4 _ _ (v3 _ _ upd_same), v4 _ _ upd_same, gh, by decide, (by show ([[112], [113], [114]] : List (List Nat)).Nodup; decide), fun p hp => ?_, okr _ v24, fun H22 hs22 => ?_⟩
  · rw [List.mem_singleton.mp hp]
    exact ⟨by decide, by decide, by decide⟩
  have dis1 : decide (∀ p ∈ ([([103, 105, 118, 101, 110], 5)] : List (List Nat × Int)), p.1 ∉ ([([112], b0), ([113], b4), ([114], b5)] : List (List Nat × V)).map (·.1)) = true := decide_eq_true fun p hp => by
    rw [List.mem_singleton.mp hp]
    show ([103, 105, 118, 101, 110] : List Nat) ∉ ([[112], [113], [114]] : List (List Nat))
    decide
  rw [dis1]
  refine ⟨_, _, rfl, rfl, _, rfl, not_true_eq (decide_eq_true rfl) ?_⟩
  have hh22 := hs22 _ _ (v4 _ _ (upd_same (H := upd H21 g (.dK (nmD V.int [([103, 105, 118, 101, 110], 5)]))) (a := h) (o := .dK (nmD id [([112], b0), ([113], b4), ([114], b5)]))))
  have hho22 := hs22 _ _ (upd_same (a := ho) (o := HO.tup [.ref g, .ref h]))
  refine fun g2 ng2 => ⟨upd_same, [(keyN [113], .int 5)], ?_, (show 1 ≤ 15 by decide), ?_⟩
  · rw [eq]
    rfl
  rw [merge1, upd_upd]
  have v5 := same_new ng2 (.dK (nmD V.int [([113], 5)]))
  refine ⟨_, rfl, ho, _, _, _, rfl, rfl, SqT.of (v5 _ _ hho22), rfl, le_line (Nat.le_of_ble_eq_true rfl), fun ho2 nho2 => ?_⟩
  have v6 := same_new nho2 (.tup [.ref g2, .ref h])
  have gh2 : g2 ≠ h := fun z => by rw [z, hh22] at ng2; cases ng2
  have s2122 := v24.trans hs22
  refine ⟨ho2, g2, h, [([113], 5)], [([112], b0), ([113], b4), ([114], b5)], rfl, upd_same, v6 _ _ upd_same, v6 _ _ (v5 _ _ hh22), gh2, by decide, (by show ([[112], [113], [114]] : List (List Nat)).Nodup; decide), fun p hp => ?_, okr _ (s2122.trans (v5.trans v6)), fun H23 hs23 => ?_⟩
  · rw [List.mem_singleton.mp hp]
    exact nm_q
  have dis2 : decide (∀ p ∈ ([([113], 5)] : List (List Nat × Int)), p.1 ∉ ([([112], b0), ([113], b4), ([114], b5)] : List (List Nat × V)).map (·.1)) = false := decide_eq_false fun z => by
    have := z ([113], 5) (List.mem_singleton.mpr rfl)
    exact this (by simp)
  rw [dis2]
  refine ⟨_, _, rfl, rfl, _, rfl, not_true_eq (decide_eq_true rfl) ?_⟩
  have s2123 := s2122.trans (v5.trans (v6.trans hs23))
  have s1823 := s1821.trans s2123
  have hM23 := s1823 _ _ hM18
  have k4 := r4.same s2123
  obtain ⟨gP, dP, zP⟩ := hok (.pick r s0 t) (by simp)
  -- the old name
  refine ⟨_, rfl, D8, _, _, _, rfl, rfl, SqL.of hM23, atI_at (by decide) rfl, b4, _, rfl, k4, gP, by omega, fun H24 pa wa hs24 npa hpa swa mwa la => ⟨le_line (Nat.le_of_ble_eq_true rfl), fun ln nln => ?_⟩⟩
  have eno : ("nobody" : Str) = SX.S [110, 111, 98, 111, 100, 121] := by decide +kernel
  have efr : ("fresh" : Str) = SX.S [102, 114, 101, 115, 104] := by decide +kernel
  have nno : Nm [110, 111, 98, 111, 100, 121] := ⟨by decide, by decide, by decide⟩
  have nfr : Nm [102, 114, 101, 115, 104] := ⟨by decide, by decide, by decide⟩
  have c1 := same_new nln (.lst [.str "nobody"])
  refine ⟨pa, ln, _, _, rfl, rfl, c1 _ _ hpa, upd_same, le_line (by rw [txs_len]; show wa.length + 1 ≤ _; omega), fun cn ncn => ?_⟩
  have c2 := same_new ncn (.lst (txs wa ++ [.str "nobody"]))
  have s2325 := hs24.trans (c1.trans c2)
  have s525 := sD5.trans (s1823.trans s2325)
  have n5D : H5 D8 = none := s59.free n9D
  have n5c : H5 cn = none := (sD5.trans (s1823.trans (hs24.trans c1))).free ncn
  obtain ⟨B25, hD25, f1, f2⟩ := deck_frame hD5 s525
  have hMB : B25 D8 = some (.lst [b0, b1, b2, b3, b4, b5, b6]) := f1 _ _ n5D (s2325 _ _ hM23)
  have hcB : B25 cn = some (.lst (txs wa ++ [.str "nobody"])) := f1 _ _ n5c upd_same
  have kB : Rec B25 (.pick r s0 t) b4 := (k4.same s2325).keep f2
  refine ⟨_, rfl, B25, d, 3, rfl, hD25, by decide, by decide, fun H26 nb hD26 nb0 nb3 => ?_⟩
  have s26 := hD26.1
  refine ⟨_, rfl, D8, _, _, _, rfl, rfl, SqL.of (s26 _ _ hMB), atI_at (by decide) rfl, b4, _, rfl, kB.same s26, gP, by omega, fun H27 pb wb hs27 npb hpb swb mwb lb => ?_⟩
  have s27 := s26.trans hs27
  have ewb : wb = wa := hsame gP swb swa mwb mwa
  subst ewb
  refine ⟨pb, _, rfl, .inl (SqL.of hpb), _, _, rfl, rfl, _, _, rfl, rfl, by rw [txs_len]; omega, ?_⟩
  have ec : txs wb ++ [V.str "nobody"] = txs (wb ++ [[110, 111, 98, 111, 100, 121]]) := by rw [txs_app, eno]; rfl
  have i0 : 0 ≤ nb % ((((txs wb).length : Nat) : Int) + 1) := Int.emod_nonneg _ (by omega)
  have i1 : nb % ((((txs wb).length : Nat) : Int) + 1) < (txs (wb ++ [[110, 111, 98, 111, 100, 121]])).length := by
    have := Int.emod_lt_of_pos nb (show (0 : Int) < (((txs wb).length : Nat) : Int) + 1 by omega)
    rw [txs_len, txs_len, List.length_append] at *
    exact this
  obtain ⟨xo, hxo, hat⟩ := one_of i0 i1
  obtain ⟨old, hold, rfl⟩ := txs_mem hxo
  have nold : Nm old := by
    rcases List.mem_append.mp hold with h | h
    · exact all_good gP old ((mwb old).mp h)
    · rw [List.mem_singleton.mp h]; exact nno
  refine ⟨cn, _, _, _, rfl, rfl, SqL.of (s27 _ _ hcB), by rw [ec]; exact hat, ?_⟩
  -- exchanged
  refine ⟨_, rfl, D8, _, _, _, rfl, rfl, SqL.of (s27 _ _ hMB), atI_at (by decide) rfl, _, rfl, b4, _, old, [102, 114, 101, 115, 104], by rw [efr]; rfl, kB.same s27, gP, by omega, by omega, nold, nfr, fun H28 v28 hs28 hR28 => ?_⟩
  have s28 := s27.trans hs28
  refine ⟨_, rfl, D8, _, _, _, rfl, rfl, SqL.of (s28 _ _ hMB), atI_at (by decide) rfl, b4, _, rfl, kB.same s28, gP, by omega, fun H29 pk wk hs29 npk hpk swk mwk lk => ?_⟩
  have ewk : wk = wb := hsame gP swk swb mwk mwb
  subst ewk
  have s29 := s28.trans hs29
  refine ⟨pk, rfl, ⟨_, SqL.of hpk⟩, fun Kp nKp => lc_list (K := K) (a := pk) (xs := txs wk) (fun i H' => Same H29 H' ∧ H' Kp = some (.lst (txs ((wk.take i).filter fun s => !decide (s = old))))) ⟨same_new nKp _, upd_same⟩ (fun i H' _ h => SqL.of (h.1 _ _ hpk)) ?_ ?_⟩
  · rintro i xv H30 hxv ⟨hs30, hK30⟩
    have hi : i < wk.length := by
      have := (List.getElem?_eq_some_iff.mp hxv).1
      rw [txs_len] at this
      exact this
    rw [txs_get hi] at hxv
    cases hxv
    have et : (wk.take (i + 1)).filter (fun s => !decide (s = old)) = (wk.take i).filter (fun s => !decide (s = old)) ++ (if wk[i] = old then [] else [wk[i]]) := by
      rw [List.take_add_one, List.getElem?_eq_getElem hi, List.filter_append]
      congr 1
      by_cases e : wk[i] = old
      · rw [if_pos e]; simp [e]
      · rw [if_neg e]; simp [e]
    refine ⟨rfl, _, rfl, _, rfl, rfl, _, rfl, ?_⟩
    by_cases e : wk[i] = old
    · rw [if_pos e, List.append_nil] at et
      refine not_true_eq (decide_eq_true (by rw [e])) ⟨hs30, ?_⟩
      rw [et]
      exact hK30
    · rw [if_neg e] at et
      refine not_false_eq (decide_eq_false fun z => e (SX.S_inj (V.str.inj z))) ⟨_, rfl, _, hK30, ?_, same_upd hs30 nKp _, ?_⟩
      · rw [txs_len]
        have := List.length_filter_le (fun s => !decide (s = old)) (wk.take i)
        rw [List.length_take] at this
        exact lt_line (by omega)
      · rw [upd_same, et, txs_app]
        rfl
  rintro H30 ⟨hs30, hK30⟩
  rw [txs_len, List.take_length] at hK30
  have s30 := s29.trans hs30
  have gX := exch_good (old := old) nfr gP
  refine ⟨_, rfl, v28, _, rfl, (hR28.same hs29).same hs30, gX, by rw [exch_siz]; omega, fun H31 po wo hs31 npo hpo swo mwo lo => ?_⟩
  have s31 := s30.trans hs31
  have hK31 := hs31 _ _ hK30
  refine ⟨_, rfl, le_line (Nat.le_of_ble_eq_true rfl), fun fl1 nfl => ?_⟩
  have d1' := same_new nfl (.lst [.str "fresh"])
  refine ⟨_, rfl, Kp, _, rfl, .inl (SqL.of (d1' _ _ hK31)), _, rfl, D8, _, _, _, rfl, rfl, SqL.of (d1' _ _ (s31 _ _ hMB)), atI_at (by decide) rfl, b4, _, rfl, (kB.same s31).same d1', gP, by omega, fun H32 pq wq hs32 npq hpq swq mwq lq => ?_⟩
  have ewq : wk = wq := hsame gP swk swq mwk mwq
  subst ewq
  have s3132 := d1'.trans hs32
  refine ⟨pq, _, rfl, .inl (SqL.of hpq), _, _, rfl, rfl, .inr ⟨_, rfl, ?_⟩⟩
  obtain ⟨fs, hfs, hfs2⟩ : ∃ fs : List (List Nat), (∀ s, s ∈ fs ↔ s = [102, 114, 101, 115, 104] ∧ old ∈ wk) ∧ fs.length ≤ 1 ∧ (List.replicate (if decide ((((txs (wk.filter fun s => !decide (s = old))).length : Nat) : Int) < (((txs wk).length : Nat) : Int)) = true then (1 : Int) else 0).toNat [V.str "fresh"]).flatten = txs fs := by
    have hless : ((((txs (wk.filter fun s => !decide (s = old))).length : Nat) : Int) < (((txs wk).length : Nat) : Int)) ↔ old ∈ wk := by
      rw [txs_len, txs_len, ← filter_less (l := wk) (x := old)]
      omega
    by_cases h : old ∈ wk
    · refine ⟨[[102, 114, 101, 115, 104]], fun s => by simp [h], Nat.le_refl _, ?_⟩
      rw [if_pos (decide_eq_true (hless.mpr h)), efr]
      rfl
    · refine ⟨[], fun s => by simp [h], Nat.zero_le _, ?_⟩
      rw [if_neg (fun z => h (hless.mp (of_decide_eq_true z)))]
      rfl
  obtain ⟨hfl, hfe⟩ := hfs2
  refine ⟨fl1, _, _, rfl, rfl, hs32 _ _ upd_same, by split <;> decide, by split <;> decide, by split <;> exact le_line (Nat.le_of_ble_eq_true rfl), fun fr nfr' => ?_⟩
  rw [hfe]
  have d2' := same_new nfr' (.lst (txs fs))
  refine ⟨le_line (Nat.le_of_ble_eq_true rfl), fun rowl nrl' => ?_⟩
  have d3' := same_new nrl' (.lst [.ref Kp, .ref fr])
  have s31E := s3132.trans (d2'.trans d3')
  have hkl : (wk.filter fun s => !decide (s = old)).length ≤ wk.length := List.length_filter_le _ _
  refine ⟨rowl, _, [wk.filter fun s => !decide (s = old), fs], rfl, upd_same, ⟨⟨Kp, rfl, .inl (s31E _ _ hK31)⟩, ⟨fr, rfl, .inl (d3' _ _ upd_same)⟩, trivial⟩, by show _ + (fs.length + 0) ≤ 100000; omega, fun H33 pt wt hs33 npt hpt swt mwt => ?_⟩
  have ewt : wo = wt := si_ext swo swt fun s => by
    rw [mwo s, mwt s, exch_all, swap_mem]
    have hin : ∀ x, x ∈ wk ↔ x ∈ (Rcp.pick r s0 t).all := mwk
    constructor
    · rintro (⟨h1, h2⟩ | ⟨h1, h2⟩)
      · exact ⟨_, List.mem_cons_self .., List.mem_filter.mpr ⟨(hin s).mpr h1, by simp [h2]⟩⟩
      · exact ⟨fs, by simp, (hfs s).mpr ⟨h1, (hin old).mpr h2⟩⟩
    · rintro ⟨m, hm, hs⟩
      simp only [List.mem_cons, List.not_mem_nil, or_false] at hm
      rcases hm with rfl | rfl
      · obtain ⟨h1, h2⟩ := List.mem_filter.mp hs
        exact .inl ⟨(hin s).mp h1, by simpa using h2⟩
      · obtain ⟨h1, h2⟩ := (hfs s).mp hs
        exact .inr ⟨h1, (hin old).mp h2⟩
  subst ewt
  obtain ⟨n1, n2⟩ := nmL_ok (w := wo) fun s h => all_good gX s ((mwo s).mp h)
  refine ⟨_, _, Data.dp (nmL_flat wo) (nmL_data ((s31E.trans hs33) _ _ hpo)), Data.dp (nmL_flat wo) (nmL_data hpt), n1, n1, ?_⟩
  rw [n2]
  exact q _
end
theorem all_mk {l : PySem.W.OpenLaw} {w : World} {K : PySem.W.Frag} {h : Heap} {mg : Str → Option Value} {fa f_is_whole f_is_name f_are_names f_within f_is_recipe f_is_house f_names_in f__law_deck f__law_draw f__law_name f__law_number f__law_recipe f__law_together f__law_exchanged f_law : Addr} (X : K.In h) (G : h.Ns mainGlobals mg) (hfa : mg "law" = some (.ref fa))
    {od_is_whole an_is_whole od_is_name an_is_name od_are_names an_are_names od_within an_within od_is_recipe an_is_recipe od_is_house an_is_house od_names_in an_names_in od__law_deck an__law_deck od__law_draw an__law_draw od__law_name an__law_name od__law_number an__law_number od__law_recipe an__law_recipe od__law_together an__law_together od__law_exchanged an__law_exchanged od_law an_law : Option Addr} {sl_is_whole sl_is_name sl_are_names sl_within sl_is_recipe sl_is_house sl_names_in sl__law_deck sl__law_draw sl__law_name sl__law_number sl__law_recipe sl__law_together sl__law_exchanged sl_law : Array (Option Value)} {oc_is_whole kV_is_whole dc_is_whole pm_is_whole cd_is_whole ct_is_whole oc_is_name kV_is_name dc_is_name pm_is_name cd_is_name ct_is_name oc_are_names kV_are_names dc_are_names pm_are_names cd_are_names ct_are_names oc_within kV_within dc_within pm_within cd_within ct_within oc_is_recipe kV_is_recipe dc_is_recipe pm_is_recipe cd_is_recipe ct_is_recipe oc_is_house kV_is_house dc_is_house pm_is_house cd_is_house ct_is_house oc_names_in kV_names_in dc_names_in pm_names_in cd_names_in ct_names_in oc__law_deck kV__law_deck dc__law_deck pm__law_deck cd__law_deck ct__law_deck oc__law_draw kV__law_draw dc__law_draw pm__law_draw cd__law_draw ct__law_draw oc__law_name kV__law_name dc__law_name pm__law_name cd__law_name ct__law_name oc__law_number kV__law_number dc__law_number pm__law_number cd__law_number ct__law_number oc__law_recipe kV__law_recipe dc__law_recipe pm__law_recipe cd__law_recipe ct__law_recipe oc__law_together kV__law_together dc__law_together pm__law_together cd__law_together ct__law_together oc__law_exchanged kV__law_exchanged dc__law_exchanged pm__law_exchanged cd__law_exchanged ct__law_exchanged oc_law kV_law dc_law pm_law cd_law ct_law : Value}
    (a_is_whole : PySem.W.nsIn K mainGlobals "is_whole" = some (some (.ref f_is_whole))) (l_is_whole : K.lookup f_is_whole = some ⟨oc_is_whole, od_is_whole, .func (PySem.W.fnOf "is_whole" "is_whole" (defArgs s_is_whole) (defBody s_is_whole) (defScope s_is_whole) .none kV_is_whole dc_is_whole pm_is_whole an_is_whole cd_is_whole ct_is_whole), sl_is_whole⟩) (c_is_whole : PySem.W.codeIn K cd_is_whole "is_whole" = true) (k_is_whole : PySem.W.keepIn K (.ref f_is_whole) = true)
    (a_is_name : PySem.W.nsIn K mainGlobals "is_name" = some (some (.ref f_is_name))) (l_is_name : K.lookup f_is_name = some ⟨oc_is_name, od_is_name, .func (PySem.W.fnOf "is_name" "is_name" (defArgs s_is_name) (defBody s_is_name) (defScope s_is_name) .none kV_is_name dc_is_name pm_is_name an_is_name cd_is_name ct_is_name), sl_is_name⟩) (c_is_name : PySem.W.codeIn K cd_is_name "is_name" = true) (k_is_name : PySem.W.keepIn K (.ref f_is_name) = true)
    (a_are_names : PySem.W.nsIn K mainGlobals "are_names" = some (some (.ref f_are_names))) (l_are_names : K.lookup f_are_names = some ⟨oc_are_names, od_are_names, .func (PySem.W.fnOf "are_names" "are_names" (defArgs s_are_names) (defBody s_are_names) (defScope s_are_names) .none kV_are_names dc_are_names pm_are_names an_are_names cd_are_names ct_are_names), sl_are_names⟩) (c_are_names : PySem.W.codeIn K cd_are_names "are_names" = true) (k_are_names : PySem.W.keepIn K (.ref f_are_names) = true)
    (a_within : PySem.W.nsIn K mainGlobals "within" = some (some (.ref f_within))) (l_within : K.lookup f_within = some ⟨oc_within, od_within, .func (PySem.W.fnOf "within" "within" (defArgs s_within) (defBody s_within) (defScope s_within) .none kV_within dc_within pm_within an_within cd_within ct_within), sl_within⟩) (c_within : PySem.W.codeIn K cd_within "within" = true) (k_within : PySem.W.keepIn K (.ref f_within) = true)
    (a_is_recipe : PySem.W.nsIn K mainGlobals "is_recipe" = some (some (.ref f_is_recipe))) (l_is_recipe : K.lookup f_is_recipe = some ⟨oc_is_recipe, od_is_recipe, .func (PySem.W.fnOf "is_recipe" "is_recipe" (defArgs s_is_recipe) (defBody s_is_recipe) (defScope s_is_recipe) .none kV_is_recipe dc_is_recipe pm_is_recipe an_is_recipe cd_is_recipe ct_is_recipe), sl_is_recipe⟩) (c_is_recipe : PySem.W.codeIn K cd_is_recipe "is_recipe" = true) (k_is_recipe : PySem.W.keepIn K (.ref f_is_recipe) = true)
    (a_is_house : PySem.W.nsIn K mainGlobals "is_house" = some (some (.ref f_is_house))) (l_is_house : K.lookup f_is_house = some ⟨oc_is_house, od_is_house, .func (PySem.W.fnOf "is_house" "is_house" (defArgs s_is_house) (defBody s_is_house) (defScope s_is_house) .none kV_is_house dc_is_house pm_is_house an_is_house cd_is_house ct_is_house), sl_is_house⟩) (c_is_house : PySem.W.codeIn K cd_is_house "is_house" = true) (k_is_house : PySem.W.keepIn K (.ref f_is_house) = true)
    (a_names_in : PySem.W.nsIn K mainGlobals "names_in" = some (some (.ref f_names_in))) (l_names_in : K.lookup f_names_in = some ⟨oc_names_in, od_names_in, .func (PySem.W.fnOf "names_in" "names_in" (defArgs s_names_in) (defBody s_names_in) (defScope s_names_in) .none kV_names_in dc_names_in pm_names_in an_names_in cd_names_in ct_names_in), sl_names_in⟩) (c_names_in : PySem.W.codeIn K cd_names_in "names_in" = true) (k_names_in : PySem.W.keepIn K (.ref f_names_in) = true)
    (a__law_deck : PySem.W.nsIn K mainGlobals "_law_deck" = some (some (.ref f__law_deck))) (l__law_deck : K.lookup f__law_deck = some ⟨oc__law_deck, od__law_deck, .func (PySem.W.fnOf "_law_deck" "_law_deck" (defArgs s__law_deck) (defBody s__law_deck) (defScope s__law_deck) .none kV__law_deck dc__law_deck pm__law_deck an__law_deck cd__law_deck ct__law_deck), sl__law_deck⟩) (c__law_deck : PySem.W.codeIn K cd__law_deck "_law_deck" = true) (k__law_deck : PySem.W.keepIn K (.ref f__law_deck) = true)
    (a__law_draw : PySem.W.nsIn K mainGlobals "_law_draw" = some (some (.ref f__law_draw))) (l__law_draw : K.lookup f__law_draw = some ⟨oc__law_draw, od__law_draw, .func (PySem.W.fnOf "_law_draw" "_law_draw" (defArgs s__law_draw) (defBody s__law_draw) (defScope s__law_draw) .none kV__law_draw dc__law_draw pm__law_draw an__law_draw cd__law_draw ct__law_draw), sl__law_draw⟩) (c__law_draw : PySem.W.codeIn K cd__law_draw "_law_draw" = true) (k__law_draw : PySem.W.keepIn K (.ref f__law_draw) = true)
    (a__law_name : PySem.W.nsIn K mainGlobals "_law_name" = some (some (.ref f__law_name))) (l__law_name : K.lookup f__law_name = some ⟨oc__law_name, od__law_name, .func (PySem.W.fnOf "_law_name" "_law_name" (defArgs s__law_name) (defBody s__law_name) (defScope s__law_name) .none kV__law_name dc__law_name pm__law_name an__law_name cd__law_name ct__law_name), sl__law_name⟩) (c__law_name : PySem.W.codeIn K cd__law_name "_law_name" = true) (k__law_name : PySem.W.keepIn K (.ref f__law_name) = true)
    (a__law_number : PySem.W.nsIn K mainGlobals "_law_number" = some (some (.ref f__law_number))) (l__law_number : K.lookup f__law_number = some ⟨oc__law_number, od__law_number, .func (PySem.W.fnOf "_law_number" "_law_number" (defArgs s__law_number) (defBody s__law_number) (defScope s__law_number) .none kV__law_number dc__law_number pm__law_number an__law_number cd__law_number ct__law_number), sl__law_number⟩) (c__law_number : PySem.W.codeIn K cd__law_number "_law_number" = true) (k__law_number : PySem.W.keepIn K (.ref f__law_number) = true)
    (a__law_recipe : PySem.W.nsIn K mainGlobals "_law_recipe" = some (some (.ref f__law_recipe))) (l__law_recipe : K.lookup f__law_recipe = some ⟨oc__law_recipe, od__law_recipe, .func (PySem.W.fnOf "_law_recipe" "_law_recipe" (defArgs s__law_recipe) (defBody s__law_recipe) (defScope s__law_recipe) .none kV__law_recipe dc__law_recipe pm__law_recipe an__law_recipe cd__law_recipe ct__law_recipe), sl__law_recipe⟩) (c__law_recipe : PySem.W.codeIn K cd__law_recipe "_law_recipe" = true) (k__law_recipe : PySem.W.keepIn K (.ref f__law_recipe) = true)
    (a__law_together : PySem.W.nsIn K mainGlobals "_law_together" = some (some (.ref f__law_together))) (l__law_together : K.lookup f__law_together = some ⟨oc__law_together, od__law_together, .func (PySem.W.fnOf "_law_together" "_law_together" (defArgs s__law_together) (defBody s__law_together) (defScope s__law_together) .none kV__law_together dc__law_together pm__law_together an__law_together cd__law_together ct__law_together), sl__law_together⟩) (c__law_together : PySem.W.codeIn K cd__law_together "_law_together" = true) (k__law_together : PySem.W.keepIn K (.ref f__law_together) = true)
    (a__law_exchanged : PySem.W.nsIn K mainGlobals "_law_exchanged" = some (some (.ref f__law_exchanged))) (l__law_exchanged : K.lookup f__law_exchanged = some ⟨oc__law_exchanged, od__law_exchanged, .func (PySem.W.fnOf "_law_exchanged" "_law_exchanged" (defArgs s__law_exchanged) (defBody s__law_exchanged) (defScope s__law_exchanged) .none kV__law_exchanged dc__law_exchanged pm__law_exchanged an__law_exchanged cd__law_exchanged ct__law_exchanged), sl__law_exchanged⟩) (c__law_exchanged : PySem.W.codeIn K cd__law_exchanged "_law_exchanged" = true) (k__law_exchanged : PySem.W.keepIn K (.ref f__law_exchanged) = true)
    (a_law : PySem.W.nsIn K mainGlobals "law" = some (some (.ref f_law))) (l_law : K.lookup f_law = some ⟨oc_law, od_law, .func (PySem.W.fnOf "law" "law" (defArgs s_law) (defBody s_law) (defScope s_law) .none kV_law dc_law pm_law an_law cd_law ct_law), sl_law⟩) (c_law : PySem.W.codeIn K cd_law "law" = true) (k_law : PySem.W.keepIn K (.ref f_law) = true)
    (z_len : PySem.W.nsIn K mainGlobals "len" = some none)
    (z_range : PySem.W.nsIn K mainGlobals "range" = some none)
    (z_tuple : PySem.W.nsIn K mainGlobals "tuple" = some none)
    (z_list : PySem.W.nsIn K mainGlobals "list" = some none)
    (z_str : PySem.W.nsIn K mainGlobals "str" = some none)
    (z_int : PySem.W.nsIn K mainGlobals "int" = some none)
    (z_isinstance : PySem.W.nsIn K mainGlobals "isinstance" = some none)
    (z_bool : PySem.W.nsIn K mainGlobals "bool" = some none)
    (z_dict : PySem.W.nsIn K mainGlobals "dict" = some none)
    (z_sorted : PySem.W.nsIn K mainGlobals "sorted" = some none)
    (z_zip : PySem.W.nsIn K mainGlobals "zip" = some none)
    {f_TWOS : Addr} {d_TWOS : Option Addr} {it_TWOS : Array Value} {n_TWOS : Nat} {sl_TWOS : Array (Option Value)} {tk1 tk2 tk3 tk4 tk5 : Tok}
    (r_LETTERS : PySem.W.nsIn K mainGlobals "LETTERS" = some (some (.str "abcdefghijklmnopqrstuvwxyz" tk1)))
    (r_LONGEST : PySem.W.nsIn K mainGlobals "LONGEST" = some (some (.int 8 tk2)))
    (r_DEEPEST : PySem.W.nsIn K mainGlobals "DEEPEST" = some (some (.int 8 tk3)))
    (r_MOST : PySem.W.nsIn K mainGlobals "MOST" = some (some (.int 100 tk4)))
    (r_MOST_NAMES : PySem.W.nsIn K mainGlobals "MOST_NAMES" = some (some (.int 9 tk5)))
    (r_TWOS : PySem.W.nsIn K mainGlobals "TWOS" = some (some (.ref f_TWOS)))
    (l_TWOS : K.lookup f_TWOS = some ⟨.type "tuple", d_TWOS, .seq it_TWOS n_TWOS, sl_TWOS⟩)
    (v_TWOS : ∃ t1 t2 t3 t4 : Tok, it_TWOS = #[.str "plus" t1, .str "minus" t2, .str "times" t3, .str "most" t4])
    : ∃ fd : FuncData, (∀ (s : Shared) (v : Value), BindsTo s fd ⟨[v], []⟩ [("script", v)]) ∧ ∀ base : Heap, K.In base → base.Ns mainGlobals mg → FnOk l.prog w K mg base CX0 12 fa fd ["script"] (spLaw K) := by
  have e := hfa.symm.trans (PySem.W.mg_of X G a_law)
  cases e
  have F_is_whole := fun_mk (st := s_is_whole) l_is_whole c_is_whole k_is_whole
  have D_is_whole : IsDef K mg "is_whole" s_is_whole ["thing"] := ⟨f_is_whole, _, F_is_whole, PySem.W.mg_of X G a_is_whole, F_is_whole.binds (ps := ["thing"]) fun _ _ _ _ _ _ us hl => match us, hl with | [_], _ => rfl⟩
  have F_is_name := fun_mk (st := s_is_name) l_is_name c_is_name k_is_name
  have D_is_name : IsDef K mg "is_name" s_is_name ["thing"] := ⟨f_is_name, _, F_is_name, PySem.W.mg_of X G a_is_name, F_is_name.binds (ps := ["thing"]) fun _ _ _ _ _ _ us hl => match us, hl with | [_], _ => rfl⟩
  have F_are_names := fun_mk (st := s_are_names) l_are_names c_are_names k_are_names
  have D_are_names : IsDef K mg "are_names" s_are_names ["thing"] := ⟨f_are_names, _, F_are_names, PySem.W.mg_of X G a_are_names, F_are_names.binds (ps := ["thing"]) fun _ _ _ _ _ _ us hl => match us, hl with | [_], _ => rfl⟩
  have F_within := fun_mk (st := s_within) l_within c_within k_within
  have D_within : IsDef K mg "within" s_within ["thing"] := ⟨f_within, _, F_within, PySem.W.mg_of X G a_within, F_within.binds (ps := ["thing"]) fun _ _ _ _ _ _ us hl => match us, hl with | [_], _ => rfl⟩
  have F_is_recipe := fun_mk (st := s_is_recipe) l_is_recipe c_is_recipe k_is_recipe
  have D_is_recipe : IsDef K mg "is_recipe" s_is_recipe ["thing"] := ⟨f_is_recipe, _, F_is_recipe, PySem.W.mg_of X G a_is_recipe, F_is_recipe.binds (ps := ["thing"]) fun _ _ _ _ _ _ us hl => match us, hl with | [_], _ => rfl⟩
  have F_is_house := fun_mk (st := s_is_house) l_is_house c_is_house k_is_house
  have D_is_house : IsDef K mg "is_house" s_is_house ["thing"] := ⟨f_is_house, _, F_is_house, PySem.W.mg_of X G a_is_house, F_is_house.binds (ps := ["thing"]) fun _ _ _ _ _ _ us hl => match us, hl with | [_], _ => rfl⟩
  have F_names_in := fun_mk (st := s_names_in) l_names_in c_names_in k_names_in
  have D_names_in : IsDef K mg "names_in" s_names_in ["r"] := ⟨f_names_in, _, F_names_in, PySem.W.mg_of X G a_names_in, F_names_in.binds (ps := ["r"]) fun _ _ _ _ _ _ us hl => match us, hl with | [_], _ => rfl⟩
  have F__law_deck := fun_mk (st := s__law_deck) l__law_deck c__law_deck k__law_deck
  have D__law_deck : IsDef K mg "_law_deck" s__law_deck ["script"] := ⟨f__law_deck, _, F__law_deck, PySem.W.mg_of X G a__law_deck, F__law_deck.binds (ps := ["script"]) fun _ _ _ _ _ _ us hl => match us, hl with | [_], _ => rfl⟩
  have F__law_draw := fun_mk (st := s__law_draw) l__law_draw c__law_draw k__law_draw
  have D__law_draw : IsDef K mg "_law_draw" s__law_draw ["deck", "many"] := ⟨f__law_draw, _, F__law_draw, PySem.W.mg_of X G a__law_draw, F__law_draw.binds (ps := ["deck", "many"]) fun _ _ _ _ _ _ us hl => match us, hl with | [_, _], _ => rfl⟩
  have F__law_name := fun_mk (st := s__law_name) l__law_name c__law_name k__law_name
  have D__law_name : IsDef K mg "_law_name" s__law_name ["deck"] := ⟨f__law_name, _, F__law_name, PySem.W.mg_of X G a__law_name, F__law_name.binds (ps := ["deck"]) fun _ _ _ _ _ _ us hl => match us, hl with | [_], _ => rfl⟩
  have F__law_number := fun_mk (st := s__law_number) l__law_number c__law_number k__law_number
  have D__law_number : IsDef K mg "_law_number" s__law_number ["deck"] := ⟨f__law_number, _, F__law_number, PySem.W.mg_of X G a__law_number, F__law_number.binds (ps := ["deck"]) fun _ _ _ _ _ _ us hl => match us, hl with | [_], _ => rfl⟩
  have F__law_recipe := fun_mk (st := s__law_recipe) l__law_recipe c__law_recipe k__law_recipe
  have D__law_recipe : IsDef K mg "_law_recipe" s__law_recipe ["deck", "deep", "left"] := ⟨f__law_recipe, _, F__law_recipe, PySem.W.mg_of X G a__law_recipe, F__law_recipe.binds (ps := ["deck", "deep", "left"]) fun _ _ _ _ _ _ us hl => match us, hl with | [_, _, _], _ => rfl⟩
  have F__law_together := fun_mk (st := s__law_together) l__law_together c__law_together k__law_together
  have D__law_together : IsDef K mg "_law_together" s__law_together ["rows"] := ⟨f__law_together, _, F__law_together, PySem.W.mg_of X G a__law_together, F__law_together.binds (ps := ["rows"]) fun _ _ _ _ _ _ us hl => match us, hl with | [_], _ => rfl⟩
  have F__law_exchanged := fun_mk (st := s__law_exchanged) l__law_exchanged c__law_exchanged k__law_exchanged
  have D__law_exchanged : IsDef K mg "_law_exchanged" s__law_exchanged ["r", "old", "new"] := ⟨f__law_exchanged, _, F__law_exchanged, PySem.W.mg_of X G a__law_exchanged, F__law_exchanged.binds (ps := ["r", "old", "new"]) fun _ _ _ _ _ _ us hl => match us, hl with | [_, _, _], _ => rfl⟩
  have F_law := fun_mk (st := s_law) l_law c_law k_law
  have m_len := PySem.W.mg_none_of X G z_len
  have m_range := PySem.W.mg_none_of X G z_range
  have m_tuple := PySem.W.mg_none_of X G z_tuple
  have m_list := PySem.W.mg_none_of X G z_list
  have m_str := PySem.W.mg_none_of X G z_str
  have m_int := PySem.W.mg_none_of X G z_int
  have m_isinstance := PySem.W.mg_none_of X G z_isinstance
  have m_bool := PySem.W.mg_none_of X G z_bool
  have m_dict := PySem.W.mg_none_of X G z_dict
  have m_sorted := PySem.W.mg_none_of X G z_sorted
  have m_zip := PySem.W.mg_none_of X G z_zip
  have T : Txt K mg := ⟨m_len, m_range, m_tuple, m_list, m_str, m_int, m_isinstance, m_bool, m_dict, m_sorted, m_zip⟩
  have R : RTxt K mg f_TWOS := ⟨⟨_, PySem.W.mg_of X G r_LETTERS⟩, ⟨_, PySem.W.mg_of X G r_LONGEST⟩, ⟨_, PySem.W.mg_of X G r_DEEPEST⟩, ⟨_, PySem.W.mg_of X G r_MOST⟩, ⟨_, PySem.W.mg_of X G r_MOST_NAMES⟩, PySem.W.mg_of X G r_TWOS, fun H => by
      obtain ⟨t1, t2, t3, t4, e⟩ := v_TWOS
      subst e
      exact .inr ⟨_, _, _, l_TWOS, rfl, rfl, le_line (Nat.le_of_ble_eq_true rfl), .cons ⟨_, rfl⟩ (.cons ⟨_, rfl⟩ (.cons ⟨_, rfl⟩ (.cons ⟨_, rfl⟩ .nil)))⟩⟩
  refine ⟨PySem.W.fnOf "law" "law" (defArgs s_law) (defBody s_law) (defScope s_law) .none kV_law dc_law pm_law an_law cd_law ct_law, fun s v => .of_eq rfl, fun base _ _ => ?_⟩
  have C1 := ok__law_draw (P := l.prog) (w := w) (base := base) T D__law_draw
  have C2 := ok__law_name T D__law_name C1
  have C3 := ok__law_number T D__law_number C1
  have W1 := ok_is_whole (P := l.prog) (w := w) (base := base) T D_is_whole
  have W2 := ok_is_name (P := l.prog) (w := w) (base := base) T R D_is_name
  have W3 := ok_are_names T R D_are_names W2
  have W4 := ok_within T R D_within W1 W2 W3
  have W5 := ok_is_recipe T R D_is_recipe W4
  exact ok_law F_law T C1 (ok__law_deck T D__law_deck) C2 (all__law_recipe T D__law_recipe C1 C3 C2 6) (ok_names_in T D_names_in W4) W5 (ok_is_house T D_is_house W2 W1 W5) (ok__law_together T D__law_together) (all__law_exchanged T D__law_exchanged 8)
theorem walk {l : PySem.W.OpenLaw} {q : Program} {loose : List Str} {XP : (Str → Option Value) → Heap → Prop} {YP : World → Heap → Prop} {d : DefRec} {K : Params → PySem.W.Frag} (hn : l.most = some 63) (hdf : d.params.defaults = [])
    (hY : ∀ (w : World) (h : Heap), YP w h → (K w.params).In h)
    (F : ∀ (w : World) (mg : Str → Option Value) (fa : Addr) (h : Heap), (K w.params).In h → h.Ns mainGlobals mg → mg d.name = some (.ref fa) →
      ∃ fd : FuncData, (∀ (s : Shared) (u : Value), BindsTo s fd ⟨[u], []⟩ [("script", u)]) ∧ ∀ base : Heap, (K w.params).In base → base.Ns mainGlobals mg → FnOk l.prog w (K w.params) mg base CX0 12 fa fd ["script"] (spLaw (K w.params))) :
    PySem.W.WalkO q loose XP YP l.row.toRowW d [] (fun f vs => PySem.call f vs) :=
  L2.walk_of (n := 63) (k := 12) (x := "script") (CX := fun _ => CX0) (sp := fun w => spLaw (K w.params)) hn (by decide) hdf ⟨rfl, by decide, by decide⟩ hY F (fun _ _ a ns hl _ hS => ⟨a, ns, rfl, hS, hl, fun _ => rfl⟩) fun _ _ _ _ _ z => z
end Mad
open PySem PySem.W PyProof.Rows
set_option maxRecDepth 100000 in
set_option maxHeartbeats 0 in
theorem PySem.Challenge.cw_madeagain_k05_whole_recipes_put_together_holds : PySem.Challenge.rw_madeagain_k05_whole_recipes_put_together.Holds := by
  w_on; o_law; k_head; (case hw => w_witness2)
  k_fill
  refine Mad.walk (l := PySem.Challenge.rw_madeagain_k05_whole_recipes_put_together) rfl rfl (fun w h Y => PySem.W.kIn_of Y) ?F
  case F =>
    intro w mg fa h KX G hmg
    refine' Mad.all_mk KX G hmg ?a_is_whole ?l_is_whole ?c_is_whole ?k_is_whole ?a_is_name ?l_is_name ?c_is_name ?k_is_name ?a_are_names ?l_are_names ?c_are_names ?k_are_names ?a_within ?l_within ?c_within ?k_within ?a_is_recipe ?l_is_recipe ?c_is_recipe ?k_is_recipe ?a_is_house ?l_is_house ?c_is_house ?k_is_house ?a_names_in ?l_names_in ?c_names_in ?k_names_in ?a__law_deck ?l__law_deck ?c__law_deck ?k__law_deck ?a__law_draw ?l__law_draw ?c__law_draw ?k__law_draw ?a__law_name ?l__law_name ?c__law_name ?k__law_name ?a__law_number ?l__law_number ?c__law_number ?k__law_number ?a__law_recipe ?l__law_recipe ?c__law_recipe ?k__law_recipe ?a__law_together ?l__law_together ?c__law_together ?k__law_together ?a__law_exchanged ?l__law_exchanged ?c__law_exchanged ?k__law_exchanged ?a_law ?l_law ?c_law ?k_law ?z_len ?z_range ?z_tuple ?z_list ?z_str ?z_int ?z_isinstance ?z_bool ?z_dict ?z_sorted ?z_zip ?r_LETTERS ?r_LONGEST ?r_DEEPEST ?r_MOST ?r_MOST_NAMES ?r_TWOS ?l_TWOS ?v_TWOS
    (case a_is_whole => k_is)
    (case l_is_whole => k_is)
    (case c_is_whole => k_is)
    (case k_is_whole => k_is)
    (case a_is_name => k_is)
    (case l_is_name => k_is)
    (case c_is_name => k_is)
    (case k_is_name => k_is)
    (case a_are_names => k_is)
    (case l_are_names => k_is)
    (case c_are_names => k_is)
    (case k_are_names => k_is)
    (case a_within => k_is)
    (case l_within => k_is)
    (case c_within => k_is)
    (case k_within => k_is)
    (case a_is_recipe => k_is)
    (case l_is_recipe => k_is)
    (case c_is_recipe => k_is)
    (case k_is_recipe => k_is)
    (case a_is_house => k_is)
    (case l_is_house => k_is)
    (case c_is_house => k_is)
    (case k_is_house => k_is)
    (case a_names_in => k_is)
    (case l_names_in => k_is)
    (case c_names_in => k_is)
    (case k_names_in => k_is)
    (case a__law_deck => k_is)
    (case l__law_deck => k_is)
    (case c__law_deck => k_is)
    (case k__law_deck => k_is)
    (case a__law_draw => k_is)
    (case l__law_draw => k_is)
    (case c__law_draw => k_is)
    (case k__law_draw => k_is)
    (case a__law_name => k_is)
    (case l__law_name => k_is)
    (case c__law_name => k_is)
    (case k__law_name => k_is)
    (case a__law_number => k_is)
    (case l__law_number => k_is)
    (case c__law_number => k_is)
    (case k__law_number => k_is)
    (case a__law_recipe => k_is)
    (case l__law_recipe => k_is)
    (case c__law_recipe => k_is)
    (case k__law_recipe => k_is)
    (case a__law_together => k_is)
    (case l__law_together => k_is)
    (case c__law_together => k_is)
    (case k__law_together => k_is)
    (case a__law_exchanged => k_is)
    (case l__law_exchanged => k_is)
    (case c__law_exchanged => k_is)
    (case k__law_exchanged => k_is)
    (case a_law => k_is)
    (case l_law => k_is)
    (case c_law => k_is)
    (case k_law => k_is)
    (case z_len => k_is)
    (case z_range => k_is)
    (case z_tuple => k_is)
    (case z_list => k_is)
    (case z_str => k_is)
    (case z_int => k_is)
    (case z_isinstance => k_is)
    (case z_bool => k_is)
    (case z_dict => k_is)
    (case z_sorted => k_is)
    (case z_zip => k_is)
    (case r_LETTERS => k_is)
    (case r_LONGEST => k_is)
    (case r_DEEPEST => k_is)
    (case r_MOST => k_is)
    (case r_MOST_NAMES => k_is)
    (case r_TWOS => k_is)
    (case l_TWOS => k_is)
    (case v_TWOS => exact ⟨_, _, _, _, rfl⟩)
#print axioms PySem.Challenge.cw_madeagain_k05_whole_recipes_put_together_holds
