import PyProof.Rows.All
import Wide.All
import OpenK.AllK
import Wide.FinOn
import HandS.ForMost
import HandS.Wide
import HandS.IsInst
import HandS.Codes
import HandS.More
import HandS.Style
import HandS.TupMul
import HandS.TupAny
import HandS.Dict
import HandS.Iter
import HandS.SortInts
import HandS.SortOrd
import KE.KEqSeq
import HandS.Exc
import HandS.ExcOwn
import HandS.WordsExc
import KE.IntTextLaws
import KE.IntTextText
import HandS.ExcValue
import HandS.TryOnly
import HandS.ExcIs
import PyProof.StrOps2
import HandS.Strs
import HandS.NoneIn
import HandS.Zip
import PySem.Challenge.RW_madeagain_k09_whole_texts_there_and_back
set_option Elab.async false
set_option linter.all false
set_option maxRecDepth 100000
set_option maxHeartbeats 4000000
set_option pp.maxSteps 300
namespace Mad
open PySem PySem.Spec PyProof.Rows L2
def topS (i : Nat) : Stmt := PySem.Challenge.pw_madeagain_k09_whole_texts_there_and_back.main.body.getD i (.Pass ⟨0, 0, 0, 0⟩)
/-! ### short words over the layer -/
/-- the def x of the text stands in the module as st says -/
def IsDef (K : PySem.W.Frag) (mg : Str → Option Value) (x : Str) (st : Stmt) (ps : List Str) : Prop := ∃ (f : Addr) (fd : FuncData), Fun K x x st f fd ∧ mg x = some (.ref f) ∧ Binds K fd ps []
/-- the def x keeps the promise sp by at most k calls in one another -/
def Cal (P : Program) (w : World) (K : PySem.W.Frag) (mg : Str → Option Value) (base : Heap) (CX : CXT) (k : Nat) (x : Str) (ps : List Str) (sp : Sp) : Prop :=
  ∃ (f : Addr) (fd : FuncData), FnOk P w K mg base CX k f fd ps sp ∧ mg x = some (.ref f) ∧ PySem.W.keepIn K (.ref f) = true ∧ Binds K fd ps []
section
variable {P : Program} {w : World} {K : PySem.W.Frag} {mg : Str → Option Value} {base : Heap}
theorem Cal.mono {CX : CXT} {j k : Nat} {x : Str} {ps : List Str} {sp : Sp} (c : Cal P w K mg base CX j x ps sp) (h : j ≤ k) : Cal P w K mg base CX k x ps sp := by
  obtain ⟨f, fd, F, r⟩ := c
  exact ⟨f, fd, F.mono h, r⟩
theorem Cal.imp {CX : CXT} {k : Nat} {x : Str} {ps : List Str} {sp sp' : Sp} (c : Cal P w K mg base CX k x ps sp) (h : ∀ vs H Q E, sp' vs H Q E → sp vs H Q E) : Cal P w K mg base CX k x ps sp' := by
  obtain ⟨f, fd, F, r⟩ := c
  exact ⟨f, fd, F.imp h, r⟩
/-- of no depth none is asked -/
theorem cal_none {x : Str} {st : Stmt} {ps : List Str} {sp : Sp} {CX : CXT} {k : Nat} (D : IsDef K mg x st ps) (no : ∀ vs H Q E, ¬ sp vs H Q E) : Cal P w K mg base CX k x ps sp := by
  obtain ⟨f, fd, F, m, b⟩ := D
  exact ⟨f, fd, ⟨fun vs H Q E h => absurd h (no vs H Q E), fun A outer s H args us vs Q E _ _ _ _ h => absurd h (no vs H Q E)⟩, m, F.kp, b⟩
theorem IsDef.cal {x : Str} {st : Stmt} {N ps : List Str} {k : Nat} {sp : Sp} (D : IsDef K mg x st ps) (S : FnScope N ps (defScope st)) (len : ∀ vs H Q E, sp vs H Q E → vs.length = ps.length)
    (hbody : ∀ (f : Addr) (cdv : Value) (A : Around) (outer : List Env) (s : Shared) (H : Hp) (vs : List V) (Q : VK) (E : XK), Room k (A.deeper (envOfC x (defScope st) s.heap.objs.size f cdv)) → sp vs H Q E →
      ∃ t, PSs (cxOf CX0 P w K mg base N x (defScope st) f cdv A outer s H E).nox (defBody st) t ∧ t { nx := fun _ H' => Q .non H', rt := Q } (start N vs) H) : Cal P w K mg base CX0 (k + 1) x ps sp := by
  obtain ⟨f, fd, F, m, b⟩ := D
  exact ⟨f, fd, F.ok S len fun cdv A outer s H vs Q E => hbody f cdv A outer s H vs Q E, m, F.kp, b⟩
end
section
variable {X : Cx} {CX : CXT} {k : Nat} {ps : List Str} {sp : Sp} {E : XK} {x : Str} {p pos : Pos}
theorem pe_cal {e : Expr} {es : List Expr} {t : TA} (c : Cal X.prog X.w X.K X.mg X.base CX k x ps sp) (hr : Room k X.A) (hx : Passes CX X E) (ha : PA X (e :: es) t) (hg : Gl X x := by rfl)
    (hdb : (x == ("__debug__" : Str)) = false := by decide) (he : starEach (e :: es) X.env = (false, eval e X.env) :: starEach es X.env := by rfl) (hpl : (backTo pos (starEach es X.env)).any (·.1) = false := by rfl) :
    PE X (.Call (.Name x p) (e :: es) [] pos) (tCall sp [] E t) := by
  obtain ⟨f, fd, F, m, kp, b⟩ := c
  exact pe_call F hr hg m kp b .nil hx ha hdb he hpl
theorem pe_cal0 (c : Cal X.prog X.w X.K X.mg X.base CX k x ps sp) (hr : Room k X.A) (hx : Passes CX X E) (hg : Gl X x := by rfl) (hdb : (x == ("__debug__" : Str)) = false := by decide) :
    PE X (.Call (.Name x p) [] [] pos) (tCall sp [] E tNil) := by
  obtain ⟨f, fd, F, m, kp, b⟩ := c
  exact pe_call0 F hr hg m kp b .nil hx hdb
end
theorem le_line {n : Nat} (h : n ≤ 16777216) : n ≤ sizeLine := by rw [sizeLine_eq]; exact h
theorem lt_line {n : Nat} (h : n < 16777216) : n < sizeLine := by rw [sizeLine_eq]; exact h
theorem same_new {H : Hp} {p : Addr} (h : H p = none) (o : HO) : Same H (upd H p o) := fun b u q => by rw [upd_ne (ne_of_none q h)]; exact q
theorem same_upd {B H : Hp} {p : Addr} (s : Same B H) (h : B p = none) (o : HO) : Same B (upd H p o) := fun b u q => by
  have z : b ≠ p := fun e => by rw [e, h] at q; cases q
  rw [upd_ne z]; exact s _ _ q
theorem atI_at {α : Type} {xs : List α} {i : Int} {v : α} (h0 : 0 ≤ i) (h : xs[i.toNat]? = some v) : atI xs i = some v := by
  have e : i = ((i.toNat : Nat) : Int) := by omega
  rw [e]; exact atI_nat h
theorem ixN_at {n : Nat} {i : Int} (h0 : 0 ≤ i) (h : i < n) : ixN n i = some i.toNat := by
  unfold ixN
  rw [if_pos h0, if_pos h]
theorem int_at {ns : List Int} {i : Int} (h0 : 0 ≤ i) (h : i < ns.length) : ∃ v : Int, atI (ns.map V.int) i = some (.int v) := by
  have hk : i.toNat < ns.length := by omega
  exact ⟨ns[i.toNat], atI_at h0 (by rw [List.getElem?_map, List.getElem?_eq_getElem hk] <;> rfl)⟩
theorem if_true_eq {c : Bool} {A B : Prop} (h : c = true) (a : A) : if c = true then A else B := by rw [if_pos h]; exact a
theorem if_false_eq {c : Bool} {A B : Prop} (h : c = false) (b : B) : if c = true then A else B := by rw [h]; exact b
theorem not_true_eq {c : Bool} {A B : Prop} (h : c = true) (b : B) : if (!c) = true then A else B := by rw [h]; exact b
theorem not_false_eq {c : Bool} {A B : Prop} (h : c = false) (a : A) : if (!c) = true then A else B := by rw [h]; exact a
structure Txt (K : PySem.W.Frag) (mg : Str → Option Value) : Prop where
  b_len : mg "len" = none
  b_list : mg "list" = none
  b_range : mg "range" = none
  b_tuple : mg "tuple" = none
  b_str : mg "str" = none
  b_int : mg "int" = none
  b_isinstance : mg "isinstance" = none
  b_bool : mg "bool" = none
  b_zip : mg "zip" = none
  b_min : mg "min" = none
  b_max : mg "max" = none
  b_set : mg "set" = none
/-! ### recipes as data -/
inductive Kd where
  | plus | minus | times | most
  deriving DecidableEq
def Kd.name : Kd → Str
  | .plus => "plus" | .minus => "minus" | .times => "times" | .most => "most"
inductive Rcp where
  | num (n : Int)
  | read (s : List Nat)
  | two (k : Kd) (a b : Rcp)
  | pick (a b c : Rcp)
  | choose (a : Rcp) (ns : List (List Nat))
def Rcp.dep : Rcp → Nat
  | .num _ => 1
  | .read _ => 1
  | .two _ a b => max a.dep b.dep + 1
  | .pick a b c => max a.dep (max b.dep c.dep) + 1
  | .choose a _ => a.dep + 1
def Rcp.siz : Rcp → Nat
  | .num _ => 1
  | .read _ => 1
  | .two _ a b => a.siz + b.siz + 1
  | .pick a b c => a.siz + b.siz + c.siz + 1
  | .choose a _ => a.siz + 1
/-- a name's signs -/
def Nm (s : List Nat) : Prop := 1 ≤ s.length ∧ s.length ≤ 8 ∧ ∀ c ∈ s, 97 ≤ c ∧ c ≤ 122
def Nms (ns : List (List Nat)) : Prop := 1 ≤ ns.length ∧ ns.length ≤ 9 ∧ ∀ s ∈ ns, Nm s
def Rcp.Good : Rcp → Prop
  | .num n => n.natAbs < 10 ^ 40
  | .read s => Nm s
  | .two _ a b => a.Good ∧ b.Good
  | .pick a b c => a.Good ∧ b.Good ∧ c.Good
  | .choose a ns => a.Good ∧ Nms ns
def txs (ns : List (List Nat)) : List V := (ns.map SX.S).map V.str
/-- the value v is the recipe r in H -/
def Rec (H : Hp) : Rcp → V → Prop
  | .num n, v => ∃ p, v = .ref p ∧ H p = some (.tup [.str "number", .int n])
  | .read s, v => ∃ p, v = .ref p ∧ H p = some (.tup [.str "read", .str (SX.S s)])
  | .two k a b, v => ∃ p x y, v = .ref p ∧ H p = some (.tup [.str k.name, x, y]) ∧ Rec H a x ∧ Rec H b y
  | .pick a b c, v => ∃ p x y z, v = .ref p ∧ H p = some (.tup [.str "pick", x, y, z]) ∧ Rec H a x ∧ Rec H b y ∧ Rec H c z
  | .choose a ns, v => ∃ p x q, v = .ref p ∧ H p = some (.tup [.str "choose", x, .ref q]) ∧ Rec H a x ∧ H q = some (.tup (txs ns))
/-- tuples stay -/
def Keep (H H' : Hp) : Prop := ∀ b xs, H b = some (.tup xs) → H' b = some (.tup xs)
theorem Keep.refl (H : Hp) : Keep H H := fun _ _ h => h
theorem Keep.trans {A B C : Hp} (h : Keep A B) (k : Keep B C) : Keep A C := fun b xs q => k b xs (h b xs q)
theorem same_keep {H H' : Hp} (s : Same H H') : Keep H H' := fun b xs q => s b _ q
theorem keep_lst {H : Hp} {l : Addr} {xs ys : List V} (h : H l = some (.lst xs)) : Keep H (upd H l (.lst ys)) := fun b zs q => by
  have z : b ≠ l := fun e => by rw [e, h] at q; cases q
  rw [upd_ne z]; exact q
theorem Rec.keep {H H' : Hp} (k : Keep H H') : ∀ {r : Rcp} {v : V}, Rec H r v → Rec H' r v
  | .num n, v, ⟨p, e, h⟩ => ⟨p, e, k _ _ h⟩
  | .read s, v, ⟨p, e, h⟩ => ⟨p, e, k _ _ h⟩
  | .two _ a b, v, ⟨p, x, y, e, h, ra, rb⟩ => ⟨p, x, y, e, k _ _ h, Rec.keep k ra, Rec.keep k rb⟩
  | .pick a b c, v, ⟨p, x, y, z, e, h, ra, rb, rc⟩ => ⟨p, x, y, z, e, k _ _ h, Rec.keep k ra, Rec.keep k rb, Rec.keep k rc⟩
  | .choose a ns, v, ⟨p, x, q, e, h, ra, hq⟩ => ⟨p, x, q, e, k _ _ h, Rec.keep k ra, k _ _ hq⟩
theorem Rec.same {H H' : Hp} (s : Same H H') {r : Rcp} {v : V} (h : Rec H r v) : Rec H' r v := h.keep (same_keep s)
theorem dep_pos : ∀ r : Rcp, 1 ≤ r.dep
  | .num _ => Nat.le_refl _
  | .read _ => Nat.le_refl _
  | .two _ _ _ => Nat.le_add_left _ _
  | .pick _ _ _ => Nat.le_add_left _ _
  | .choose _ _ => Nat.le_add_left _ _
theorem siz_pos : ∀ r : Rcp, 1 ≤ r.siz
  | .num _ => Nat.le_refl _
  | .read _ => Nat.le_refl _
  | .two _ _ _ => Nat.le_add_left _ _
  | .pick _ _ _ => Nat.le_add_left _ _
  | .choose _ _ => Nat.le_add_left _ _
theorem iteY {p A B : Prop} [Decidable p] (h : p) (a : A) : if decide p = true then A else B := by
  rw [if_pos (decide_eq_true h)]; exact a
theorem iteN {p A B : Prop} [Decidable p] (h : ¬p) (b : B) : if decide p = true then A else B := by
  rw [if_neg (fun z => h (of_decide_eq_true z))]; exact b
theorem txs_get {ns : List (List Nat)} {i : Nat} (h : i < ns.length) : (txs ns)[i]? = some (.str (SX.S ns[i])) := by
  unfold txs
  rw [List.getElem?_map, List.getElem?_map, List.getElem?_eq_getElem h]
  all_goals rfl
theorem txs_mem {ns : List (List Nat)} {x : V} (h : x ∈ txs ns) : ∃ s, s ∈ ns ∧ x = .str (SX.S s) := by
  obtain ⟨y, hy, rfl⟩ := List.mem_map.mp h
  obtain ⟨s, hs, rfl⟩ := List.mem_map.mp hy
  exact ⟨s, hs, rfl⟩
theorem txs_len (ns : List (List Nat)) : (txs ns).length = ns.length := by unfold txs; rw [List.length_map, List.length_map]
theorem txs_app (a b : List (List Nat)) : txs (a ++ b) = txs a ++ txs b := by unfold txs; rw [List.map_append, List.map_append]
/-- the signs, one by one -/
def ones (ss : List Nat) : List (List Nat) := ss.map fun c => [c]
theorem ones_flat (ss : List Nat) : (ones ss).flatten = ss := by
  induction ss with
  | nil => rfl
  | cons a r ih => show [a] ++ (ones r).flatten = _; rw [ih]; rfl
theorem ones_sum (ss : List Nat) : (((ones ss).map SX.S).map (·.length)).sum = ss.length := by
  induction ss with
  | nil => rfl
  | cons a r ih => show 1 + (((ones r).map SX.S).map (·.length)).sum = r.length + 1; rw [ih, Nat.add_comm]
theorem ones_len (ss : List Nat) : (ones ss).length = ss.length := List.length_map _
/-- the pick out of some things by a drawn number -/
theorem one_of {α : Type} {xs : List α} {v : Int} (h0 : 0 ≤ v) (h : v < xs.length) : ∃ x, x ∈ xs ∧ atI xs v = some x := by
  have hk : v.toNat < xs.length := by omega
  exact ⟨xs[v.toNat], List.getElem_mem hk, atI_at h0 (List.getElem?_eq_getElem hk)⟩
def letters : List Nat := [97, 98, 99, 100, 101, 102, 103, 104, 105, 106, 107, 108, 109, 110, 111, 112, 113, 114, 115, 116, 117, 118, 119, 120, 121, 122]
theorem letters_is : ("abcdefghijklmnopqrstuvwxyz" : Str) = SX.S letters := by decide +kernel
theorem letters_ok : ∀ c ∈ letters, 97 ≤ c ∧ c ≤ 122 := by decide
/-! ### rows of recipes -/
def Recs (H : Hp) : List Rcp → List V → Prop
  | [], [] => True
  | r :: rs, v :: vs => Rec H r v ∧ Recs H rs vs
  | _, _ => False
theorem Recs.keep {H H' : Hp} (k : Keep H H') : ∀ {rs : List Rcp} {vs : List V}, Recs H rs vs → Recs H' rs vs
  | [], [], _ => trivial
  | _ :: _, _ :: _, h => ⟨h.1.keep k, Recs.keep k h.2⟩
  | [], _ :: _, h => h.elim
  | _ :: _, [], h => h.elim
theorem Recs.len {H : Hp} : ∀ {rs : List Rcp} {vs : List V}, Recs H rs vs → vs.length = rs.length
  | [], [], _ => rfl
  | _ :: _, _ :: _, h => congrArg (· + 1) (Recs.len h.2)
  | [], _ :: _, h => h.elim
  | _ :: _, [], h => h.elim
theorem Recs.snoc {H : Hp} {r : Rcp} {v : V} (hr : Rec H r v) : ∀ {rs : List Rcp} {vs : List V}, Recs H rs vs → Recs H (rs ++ [r]) (vs ++ [v])
  | [], [], _ => ⟨hr, trivial⟩
  | _ :: _, _ :: _, h => ⟨h.1, Recs.snoc hr h.2⟩
  | [], _ :: _, h => h.elim
  | _ :: _, [], h => h.elim
theorem Recs.at {H : Hp} : ∀ {rs : List Rcp} {vs : List V} {i : Nat} {v : V}, Recs H rs vs → vs[i]? = some v → ∃ r, rs[i]? = some r ∧ Rec H r v
  | [], [], i, v, _, e => by simp at e
  | r :: _, _ :: _, 0, v, h, e => ⟨r, rfl, by cases e; exact h.1⟩
  | _ :: _, _ :: _, i + 1, v, h, e => Recs.at (i := i) h.2 (by simpa using e)
  | [], _ :: _, _, _, h, _ => h.elim
  | _ :: _, [], _, _, h, _ => h.elim
theorem Recs.get {H : Hp} {rs : List Rcp} {vs : List V} {i : Nat} (h : Recs H rs vs) (hi : i < rs.length) : ∃ v r, vs[i]? = some v ∧ rs[i]? = some r ∧ Rec H r v := by
  have hv : i < vs.length := by rw [h.len]; exact hi
  obtain ⟨r, e, hr⟩ := h.at (List.getElem?_eq_getElem hv)
  exact ⟨_, r, List.getElem?_eq_getElem hv, e, hr⟩
/-- a comprehension over a range with a step -/
theorem lcC {lo c : Int} {n : Nat} {g : TG} {tt : TT} {te : TE} {vs : List Nat} {σ : L2.St} {H1 : Hp} {D : Addr} {Qd : Hp → Prop} (Pv : Nat → Hp → Prop)
    (h0 : Pv 0 (upd H1 D (.lst [])))
    (hs : ∀ i H, i < n → Pv i H → g (.int (lo + (i : Nat) * c)) (wipe σ vs) H
      fun σ2 H2 => wipe σ2 vs = wipe σ vs ∧ tt σ2 H2
        fun b H3 => if b = true then te σ2 H3
          fun y H4 => ∃ acc, H4 D = some (.lst acc) ∧ acc.length < sizeLine ∧ Pv (i + 1) (upd H4 D (.lst (acc ++ [y])))
        else Pv (i + 1) H3)
    (hd : ∀ H, Pv n H → Qd H) :
    ∃ W : Nat → Nat → Hp → Prop, (∃ m, W 0 m (upd H1 D (.lst []))) ∧
      ∀ i m H, W i m H → ((Itc lo c n).stop i H ∧ Qd H) ∨ ((Itc lo c n).go i H ∧
        ∃ Nx : Hp → Prop, (∀ H', Nx H' → ∃ m', m' < m ∧ W (i + 1) m' H') ∧
          ∀ x H', (Itc lo c n).yld i H x H' → g x (wipe σ vs) H'
            fun σ2 H2 => wipe σ2 vs = wipe σ vs ∧ tt σ2 H2
              fun b H3 => if b = true then te σ2 H3
                fun y H4 => ∃ acc, H4 D = some (.lst acc) ∧ acc.length < sizeLine ∧ Nx (upd H4 D (.lst (acc ++ [y])))
              else Nx H3) := by
  refine ⟨fun i m H => m = n - i ∧ i ≤ n ∧ Pv i H, ⟨n, rfl, Nat.zero_le _, h0⟩, fun i m H w => ?_⟩
  obtain ⟨em, hi, p⟩ := w
  by_cases hlt : i < n
  · refine Or.inr ⟨hlt, Pv (i + 1), fun H' p' => ⟨n - (i + 1), by omega, rfl, hlt, p'⟩, fun x H' y => ?_⟩
    obtain ⟨e1, e2⟩ := y
    rw [e1, e2]
    exact hs i H hlt p
  · have e : i = n := by omega
    rw [e] at p
    exact Or.inl ⟨by show n ≤ i; omega, hd H p⟩
theorem cut_nat (xs : List V) {a b : Nat} (h : a ≤ b) : cutV xs (some (a : Int)) (some (b : Int)) = (xs.drop a).take (b - a) := by
  show (xs.drop (HT.sIx xs.length 0 (some (a : Int)))).take (HT.sIx xs.length xs.length (some (b : Int)) - HT.sIx xs.length 0 (some (a : Int))) = _
  rw [HT.sIx_nat, HT.sIx_nat]
  by_cases ha : a ≤ xs.length
  · rw [Nat.min_eq_left ha]
    by_cases hb : b ≤ xs.length
    · rw [Nat.min_eq_left hb]
    · rw [Nat.min_eq_right (by omega), List.take_of_length_le (by rw [List.length_drop]; omega), List.take_of_length_le (by rw [List.length_drop]; omega)]
  · have e1 : min a xs.length = xs.length := by omega
    rw [e1, List.drop_eq_nil_of_le (Nat.le_refl _), List.drop_eq_nil_of_le (by omega), List.take_nil, List.take_nil]
theorem cut_to (xs : List V) (b : Nat) : cutV xs none (some (b : Int)) = xs.take b := by
  show (xs.drop (HT.sIx xs.length 0 none)).take (HT.sIx xs.length xs.length (some (b : Int)) - HT.sIx xs.length 0 none) = _
  rw [HT.sIx_none, HT.sIx_nat, List.drop_zero, Nat.sub_zero]
  by_cases hb : b ≤ xs.length
  · rw [Nat.min_eq_left hb]
  · rw [Nat.min_eq_right (by omega), List.take_of_length_le (Nat.le_refl _), List.take_of_length_le (by omega)]
/-! ### any things as data -/
inductive Th where
  | non
  | bl (b : Bool)
  | int (i : Int)
  | str (s : List Nat)
  | tup (l : List Th)
  | lst (l : List Th)
  | dct
mutual
/-- the value stands for the thing in H -/
def Data (H : Hp) : Th → V → Prop
  | .non, v => v = .non
  | .bl b, v => v = .bl b
  | .int i, v => v = .int i
  | .str s, v => v = .str (SX.S s)
  | .tup l, v => ∃ p xs, v = .ref p ∧ H p = some (.tup xs) ∧ DataL H l xs
  | .lst l, v => ∃ p xs, v = .ref p ∧ H p = some (.lst xs) ∧ DataL H l xs
  | .dct, v => ∃ p kvs, v = .ref p ∧ H p = some (.dK kvs)
def DataL (H : Hp) : List Th → List V → Prop
  | [], xs => xs = []
  | t :: l, xs => ∃ x r, xs = x :: r ∧ Data H t x ∧ DataL H l r
end
mutual
theorem Data.same {H H' : Hp} (s : Same H H') : ∀ {t : Th} {v : V}, Data H t v → Data H' t v
  | .non, _, h => h
  | .bl _, _, h => h
  | .int _, _, h => h
  | .str _, _, h => h
  | .tup _, _, ⟨p, xs, e, hp, hl⟩ => ⟨p, xs, e, s _ _ hp, DataL.same s hl⟩
  | .lst _, _, ⟨p, xs, e, hp, hl⟩ => ⟨p, xs, e, s _ _ hp, DataL.same s hl⟩
  | .dct, _, ⟨p, kvs, e, hp⟩ => ⟨p, kvs, e, s _ _ hp⟩
theorem DataL.same {H H' : Hp} (s : Same H H') : ∀ {l : List Th} {xs : List V}, DataL H l xs → DataL H' l xs
  | [], _, h => h
  | _ :: _, _, ⟨x, r, e, h1, h2⟩ => ⟨x, r, e, Data.same s h1, DataL.same s h2⟩
end
theorem DataL.len {H : Hp} : ∀ {l : List Th} {xs : List V}, DataL H l xs → xs.length = l.length
  | [], _, h => by rw [show _ = [] from h]; rfl
  | _ :: _, _, ⟨x, r, e, _, h2⟩ => by rw [e, List.length_cons, DataL.len h2]; rfl
theorem DataL.at {H : Hp} : ∀ {l : List Th} {xs : List V} {i : Nat} {v : V}, DataL H l xs → xs[i]? = some v → ∃ t, l[i]? = some t ∧ Data H t v
  | [], _, i, v, h, e => by rw [show _ = [] from h] at e; simp at e
  | t :: _, _, 0, v, ⟨x, r, e1, h1, _⟩, e => by subst e1; cases e; exact ⟨t, rfl, h1⟩
  | _ :: _, _, i + 1, v, ⟨x, r, e1, _, h2⟩, e => by subst e1; exact DataL.at (i := i) h2 (by simpa using e)
theorem DataL.get {H : Hp} {l : List Th} {xs : List V} {i : Nat} {t : Th} (h : DataL H l xs) (e : l[i]? = some t) : ∃ v, xs[i]? = some v ∧ Data H t v := by
  have hi : i < xs.length := by
    rw [h.len]
    exact (List.getElem?_eq_some_iff.mp e).1
  obtain ⟨t', e', hd⟩ := h.at (List.getElem?_eq_getElem hi)
  rw [e] at e'
  cases e'
  exact ⟨_, List.getElem?_eq_getElem hi, hd⟩
theorem DataL.drop {H : Hp} : ∀ {l : List Th} {xs : List V} (n : Nat), DataL H l xs → DataL H (l.drop n) (xs.drop n)
  | _, _, 0, h => h
  | [], _, n + 1, h => by rw [show _ = [] from h]; exact rfl
  | _ :: _, _, n + 1, ⟨x, r, e, _, h2⟩ => by subst e; exact DataL.drop n h2
theorem DataL.take {H : Hp} : ∀ {l : List Th} {xs : List V} (n : Nat), DataL H l xs → DataL H (l.take n) (xs.take n)
  | _, _, 0, _ => rfl
  | [], _, n + 1, h => by rw [show _ = [] from h]; exact rfl
  | _ :: _, _, n + 1, ⟨x, r, e, h1, h2⟩ => by subst e; exact ⟨x, _, rfl, h1, DataL.take n h2⟩
theorem DataL.snoc {H : Hp} {t : Th} {v : V} (h : Data H t v) : ∀ {l : List Th} {xs : List V}, DataL H l xs → DataL H (l ++ [t]) (xs ++ [v])
  | [], _, e => by rw [show _ = [] from e]; exact ⟨v, [], rfl, h, rfl⟩
  | _ :: _, _, ⟨x, r, e, h1, h2⟩ => by subst e; exact ⟨x, _, rfl, h1, DataL.snoc h h2⟩
mutual
/-- without dicts -/
def Th.flat : Th → Bool
  | .dct => false
  | .tup l => Th.flatL l
  | .lst l => Th.flatL l
  | _ => true
def Th.flatL : List Th → Bool
  | [] => true
  | t :: l => t.flat && Th.flatL l
end
mutual
def Th.py : Th → PyData
  | .non => .none
  | .bl b => .bool b
  | .int i => .int i
  | .str s => .str (SX.S s)
  | .tup l => .tuple (Th.pyL l)
  | .lst l => .list (Th.pyL l)
  | .dct => .none
def Th.pyL : List Th → List PyData
  | [] => []
  | t :: l => t.py :: Th.pyL l
end
mutual
theorem Data.dp {K : PySem.W.Frag} {H : Hp} : ∀ {t : Th} {v : V}, t.flat = true → Data H t v → Dp K H v t.py
  | .non, _, _, h => by rw [show _ = V.non from h]; exact .non
  | .bl _, _, _, h => by rw [show _ = V.bl _ from h]; exact .bl _
  | .int _, _, _, h => by rw [show _ = V.int _ from h]; exact .int _
  | .str _, _, _, h => by rw [show _ = V.str _ from h]; exact .str _
  | .tup l, _, f, ⟨p, xs, e, hp, hl⟩ => by rw [e]; exact .tup (SqT.of hp) (DataL.dp f hl)
  | .lst l, _, f, ⟨p, xs, e, hp, hl⟩ => by rw [e]; exact .lst (SqL.of hp) (DataL.dp f hl)
theorem DataL.dp {K : PySem.W.Frag} {H : Hp} : ∀ {l : List Th} {xs : List V}, Th.flatL l = true → DataL H l xs → DpAll K H xs (Th.pyL l)
  | [], _, _, h => by rw [show _ = [] from h]; exact .nil
  | t :: l, _, f, ⟨x, r, e, h1, h2⟩ => by
    have f' : t.flat = true ∧ Th.flatL l = true := by
      have : (t.flat && Th.flatL l) = true := f
      exact Bool.and_eq_true_iff.mp this
    rw [e]
    exact .cons (Data.dp f'.1 h1) (DataL.dp f'.2 h2)
end
/-! ### what is a name, a recipe -/
def nmOk (s : List Nat) : Bool := decide (1 ≤ s.length) && decide (s.length ≤ 8) && s.all fun c => decide (97 ≤ c) && decide (c ≤ 122)
theorem nmOk_iff {s : List Nat} : nmOk s = true ↔ Nm s := by
  unfold nmOk Nm
  simp only [Bool.and_eq_true, decide_eq_true_eq, List.all_eq_true]
  exact ⟨fun ⟨⟨a, b⟩, c⟩ => ⟨a, b, c⟩, fun ⟨a, b, c⟩ => ⟨⟨a, b⟩, c⟩⟩
def Th.isNm : Th → Bool
  | .str s => nmOk s
  | _ => false
def Th.areNms : Th → Bool
  | .tup l => decide (1 ≤ l.length) && decide (l.length ≤ 9) && l.all Th.isNm
  | _ => false
def Th.isInt : Th → Bool
  | .int _ => true
  | _ => false
def w_number : List Nat := [110, 117, 109, 98, 101, 114]
def w_read : List Nat := [114, 101, 97, 100]
def w_pick : List Nat := [112, 105, 99, 107]
def w_choose : List Nat := [99, 104, 111, 111, 115, 101]
def w_plus : List Nat := [112, 108, 117, 115]
def w_minus : List Nat := [109, 105, 110, 117, 115]
def w_times : List Nat := [116, 105, 109, 101, 115]
def w_most : List Nat := [109, 111, 115, 116]
def twos : List (List Nat) := [w_plus, w_minus, w_times, w_most]
/-- the parts of a thing that has a recipe's form -/
def formParts (k : List Nat) (l : List Th) : Option (List Th) :=
  if k = w_number then (if l.length = 1 ∧ (l.headD .non).isInt = true then some [] else none)
  else if k = w_read then (if l.length = 1 ∧ (l.headD .non).isNm = true then some [] else none)
  else if k ∈ twos then (if l.length = 2 then some l else none)
  else if k = w_pick then (if l.length = 3 then some l else none)
  else if k = w_choose then (if l.length = 2 ∧ (l.getD 1 .non).areNms = true then some (l.take 1) else none)
  else none
def Th.parts : Th → Option (List Th)
  | .tup (.str k :: l) => formParts k l
  | _ => none
/-- all well formed, n deep at most -/
def Th.okay : Nat → Th → Bool
  | 0, _ => false
  | n + 1, t => match t.parts with
    | none => false
    | some ps => ps.all (Th.okay n)
def Th.count : Nat → Th → Nat
  | 0, _ => 1
  | n + 1, t => match t.parts with
    | none => 1
    | some ps => 1 + (ps.map (Th.count n)).sum
def Th.isRcp (t : Th) : Bool := t.okay 8 && decide (t.count 8 ≤ 100)
theorem count_pos : ∀ (n : Nat) (t : Th), 1 ≤ t.count n
  | 0, _ => Nat.le_refl _
  | n + 1, t => by
    unfold Th.count
    cases t.parts with
    | none => exact Nat.le_refl _
    | some ps => exact Nat.le_add_right _ _
theorem parts_tup {t : Th} {ps : List Th} (h : t.parts = some ps) : ∃ k l, t = .tup (.str k :: l) := by
  unfold Th.parts at h
  split at h
  · exact ⟨_, _, rfl⟩
  · cases h
/-- what the walk may meet: texts of ASCII signs, not too long; names without dicts -/
def tameS (s : List Nat) : Bool := decide (s.length ≤ 1000000) && s.all fun c => decide (c < 128)
def namesTame : List Th → Bool
  | [.str k, _, .tup m] => !decide (k = w_choose) || (Th.flatL m && SeqAt.shaped (.list (Th.pyL m)))
  | _ => true
mutual
def Th.tame : Th → Bool
  | .str s => tameS s
  | .tup l => Th.tameL l && decide (l.length ≤ 1000000) && namesTame l
  | _ => true
def Th.tameL : List Th → Bool
  | [] => true
  | t :: l => t.tame && Th.tameL l
end
theorem tameL_mem : ∀ {l : List Th}, Th.tameL l = true → ∀ t ∈ l, t.tame = true
  | [], _, t, h => by cases h
  | a :: l, f, t, h => by
    have f' : (a.tame && Th.tameL l) = true := f
    rw [Bool.and_eq_true] at f'
    rcases List.mem_cons.mp h with h | h
    · rw [h]; exact f'.1
    · exact tameL_mem f'.2 t h
theorem flatL_mem : ∀ {l : List Th}, Th.flatL l = true → ∀ t ∈ l, t.flat = true
  | [], _, t, h => by cases h
  | a :: l, f, t, h => by
    have f' : (a.flat && Th.flatL l) = true := f
    rw [Bool.and_eq_true] at f'
    rcases List.mem_cons.mp h with h | h
    · rw [h]; exact f'.1
    · exact flatL_mem f'.2 t h
theorem flatL_filter (p : Th → Bool) : ∀ {l : List Th}, Th.flatL l = true → Th.flatL (l.filter p) = true
  | [], _ => rfl
  | a :: l, f => by
    have f' : (a.flat && Th.flatL l) = true := f
    rw [Bool.and_eq_true] at f'
    rw [List.filter_cons]
    split
    · show (a.flat && Th.flatL (l.filter p)) = true
      rw [f'.1, flatL_filter p f'.2]; rfl
    · exact flatL_filter p f'.2
theorem shaped_parts {ds : List PyData} : SeqAt.shaped (.list ds) = true ↔ PyData.canLayAll0 ds = true ∧ PyData.depthAll ds + 1 ≤ 64 := by
  show (PyData.canLayAll0 ds && decide (PyData.depthAll ds + 1 ≤ 64)) = true ↔ _
  rw [Bool.and_eq_true, decide_eq_true_eq]
theorem py_filter (p : Th → Bool) : ∀ (l : List Th), PyData.canLayAll0 (Th.pyL l) = true → PyData.canLayAll0 (Th.pyL (l.filter p)) = true ∧ PyData.depthAll (Th.pyL (l.filter p)) ≤ PyData.depthAll (Th.pyL l)
  | [], _ => ⟨rfl, Nat.le_refl _⟩
  | a :: l, f => by
    have f' : (a.py.canLay0 && PyData.canLayAll0 (Th.pyL l)) = true := f
    rw [Bool.and_eq_true] at f'
    have ih := py_filter p l f'.2
    rw [List.filter_cons]
    split
    · refine ⟨?_, ?_⟩
      · show (a.py.canLay0 && PyData.canLayAll0 (Th.pyL (l.filter p))) = true
        rw [f'.1, ih.1]; rfl
      · show max a.py.depth (PyData.depthAll (Th.pyL (l.filter p))) ≤ max a.py.depth (PyData.depthAll (Th.pyL l))
        omega
    · refine ⟨ih.1, ?_⟩
      show _ ≤ max a.py.depth (PyData.depthAll (Th.pyL l))
      omega
theorem shaped_filter (p : Th → Bool) {l : List Th} (h : SeqAt.shaped (.list (Th.pyL l)) = true) : SeqAt.shaped (.list (Th.pyL (l.filter p))) = true := by
  rw [shaped_parts] at h ⊢
  have := py_filter p l h.1
  exact ⟨this.1, by omega⟩
def Th.tyName : Th → String
  | .non => "NoneType" | .bl _ => "bool" | .int _ => "int" | .str _ => "str" | .tup _ => "tuple" | .lst _ => "list" | .dct => "dict"
theorem Data.ty {K : PySem.W.Frag} {H : Hp} : ∀ {t : Th} {v : V}, Data H t v → TyX K H v (.type t.tyName)
  | .non, _, h => by rw [show _ = V.non from h]; exact .base .non
  | .bl _, _, h => by rw [show _ = V.bl _ from h]; exact .base (.bl _)
  | .int _, _, h => by rw [show _ = V.int _ from h]; exact .base (.int _)
  | .str _, _, h => by rw [show _ = V.str _ from h]; exact .base (.str _)
  | .tup l, _, ⟨p, xs, e, hp, hl⟩ => by rw [e]; exact .base (.tup hp)
  | .lst l, _, ⟨p, xs, e, hp, hl⟩ => by rw [e]; exact .base (.lst hp)
  | .dct, _, ⟨p, kvs, e, hp⟩ => by rw [e]; exact .base (.dK hp)
def Th.isTup : Th → Bool
  | .tup _ => true
  | _ => false
def Th.isStr : Th → Bool
  | .str _ => true
  | _ => false
def Th.isBl : Th → Bool
  | .bl _ => true
  | _ => false
def Th.isIntB : Th → Bool
  | .bl _ => true
  | .int _ => true
  | _ => false
theorem kit_tup {K : PySem.W.Frag} : ∀ t : Th, PySem.W.kitOne K (.type t.tyName) (.type "tuple") = some t.isTup
  | .non => kit_ty (show kitB "NoneType" "tuple" = some false by decide +kernel)
  | .bl _ => kit_ty (show kitB "bool" "tuple" = some false by decide +kernel)
  | .int _ => kit_ty (show kitB "int" "tuple" = some false by decide +kernel)
  | .str _ => kit_ty (show kitB "str" "tuple" = some false by decide +kernel)
  | .tup _ => kit_ty (show kitB "tuple" "tuple" = some true by decide +kernel)
  | .lst _ => kit_ty (show kitB "list" "tuple" = some false by decide +kernel)
  | .dct => kit_ty (show kitB "dict" "tuple" = some false by decide +kernel)
theorem kit_str {K : PySem.W.Frag} : ∀ t : Th, PySem.W.kitOne K (.type t.tyName) (.type "str") = some t.isStr
  | .non => kit_ty (show kitB "NoneType" "str" = some false by decide +kernel)
  | .bl _ => kit_ty (show kitB "bool" "str" = some false by decide +kernel)
  | .int _ => kit_ty (show kitB "int" "str" = some false by decide +kernel)
  | .str _ => kit_ty (show kitB "str" "str" = some true by decide +kernel)
  | .tup _ => kit_ty (show kitB "tuple" "str" = some false by decide +kernel)
  | .lst _ => kit_ty (show kitB "list" "str" = some false by decide +kernel)
  | .dct => kit_ty (show kitB "dict" "str" = some false by decide +kernel)
theorem kit_int {K : PySem.W.Frag} : ∀ t : Th, PySem.W.kitOne K (.type t.tyName) (.type "int") = some t.isIntB
  | .non => kit_ty (show kitB "NoneType" "int" = some false by decide +kernel)
  | .bl _ => kit_ty (show kitB "bool" "int" = some true by decide +kernel)
  | .int _ => kit_ty (show kitB "int" "int" = some true by decide +kernel)
  | .str _ => kit_ty (show kitB "str" "int" = some false by decide +kernel)
  | .tup _ => kit_ty (show kitB "tuple" "int" = some false by decide +kernel)
  | .lst _ => kit_ty (show kitB "list" "int" = some false by decide +kernel)
  | .dct => kit_ty (show kitB "dict" "int" = some false by decide +kernel)
theorem kit_bl {K : PySem.W.Frag} : ∀ t : Th, PySem.W.kitOne K (.type t.tyName) (.type "bool") = some t.isBl
  | .non => kit_ty (show kitB "NoneType" "bool" = some false by decide +kernel)
  | .bl _ => kit_ty (show kitB "bool" "bool" = some true by decide +kernel)
  | .int _ => kit_ty (show kitB "int" "bool" = some false by decide +kernel)
  | .str _ => kit_ty (show kitB "str" "bool" = some false by decide +kernel)
  | .tup _ => kit_ty (show kitB "tuple" "bool" = some false by decide +kernel)
  | .lst _ => kit_ty (show kitB "list" "bool" = some false by decide +kernel)
  | .dct => kit_ty (show kitB "dict" "bool" = some false by decide +kernel)
theorem isInt_is (t : Th) : (t.isIntB && !t.isBl) = t.isInt := by cases t <;> rfl
/-- a comprehension over a text -/
theorem lcS {z : Str} {g : TG} {tt : TT} {te : TE} {vs : List Nat} {σ : L2.St} {H1 : Hp} {D : Addr} {Qd : Hp → Prop} (Pv : Nat → Hp → Prop)
    (h0 : Pv 0 (upd H1 D (.lst [])))
    (hs : ∀ i c H, z.cps[i]? = some c → Pv i H → g (.str ⟨#[c]⟩) (wipe σ vs) H
      fun σ2 H2 => wipe σ2 vs = wipe σ vs ∧ tt σ2 H2
        fun b H3 => if b = true then te σ2 H3
          fun y H4 => ∃ acc, H4 D = some (.lst acc) ∧ acc.length < sizeLine ∧ Pv (i + 1) (upd H4 D (.lst (acc ++ [y])))
        else Pv (i + 1) H3)
    (hd : ∀ H, Pv z.cps.size H → Qd H) :
    ∃ W : Nat → Nat → Hp → Prop, (∃ m, W 0 m (upd H1 D (.lst []))) ∧
      ∀ i m H, W i m H → ((Its z).stop i H ∧ Qd H) ∨ ((Its z).go i H ∧
        ∃ Nx : Hp → Prop, (∀ H', Nx H' → ∃ m', m' < m ∧ W (i + 1) m' H') ∧
          ∀ x H', (Its z).yld i H x H' → g x (wipe σ vs) H'
            fun σ2 H2 => wipe σ2 vs = wipe σ vs ∧ tt σ2 H2
              fun b H3 => if b = true then te σ2 H3
                fun y H4 => ∃ acc, H4 D = some (.lst acc) ∧ acc.length < sizeLine ∧ Nx (upd H4 D (.lst (acc ++ [y])))
              else Nx H3) := by
  refine ⟨fun i m H => m = z.cps.size - i ∧ i ≤ z.cps.size ∧ Pv i H, ⟨z.cps.size, rfl, Nat.zero_le _, h0⟩, fun i m H w => ?_⟩
  obtain ⟨em, hi, p⟩ := w
  by_cases hlt : i < z.cps.size
  · refine Or.inr ⟨hlt, Pv (i + 1), fun H' p' => ⟨z.cps.size - (i + 1), by omega, rfl, hlt, p'⟩, fun x H' y => ?_⟩
    obtain ⟨e1, c, e2, e3⟩ := y
    rw [e1, e3]
    exact hs i c H e2 p
  · have e : i = z.cps.size := by omega
    rw [e] at p
    exact Or.inl ⟨by show z.cps.size ≤ i; omega, hd H p⟩
/-- a list of data against a new empty one -/
theorem eqv_nil (l : List Th) : PyData.eqv (.list (Th.pyL l)) (.list []) = l.isEmpty := by cases l <;> rfl
theorem kw {k : List Nat} {w : List Nat} {lit : Str} (h : lit = SX.S w) : V.str (SX.S k) = V.str lit ↔ k = w := by
  rw [h]
  exact ⟨fun e => SX.S_inj (by cases e; rfl), fun e => by rw [e]⟩
theorem q_number : ("number" : Str) = SX.S w_number := by decide +kernel
theorem q_read : ("read" : Str) = SX.S w_read := by decide +kernel
theorem q_pick : ("pick" : Str) = SX.S w_pick := by decide +kernel
theorem q_choose : ("choose" : Str) = SX.S w_choose := by decide +kernel
theorem q_plus : ("plus" : Str) = SX.S w_plus := by decide +kernel
theorem q_minus : ("minus" : Str) = SX.S w_minus := by decide +kernel
theorem q_times : ("times" : Str) = SX.S w_times := by decide +kernel
theorem q_most : ("most" : Str) = SX.S w_most := by decide +kernel
theorem in_twos (k : List Nat) : inV (.str (SX.S k)) [.str "plus", .str "minus", .str "times", .str "most"] = decide (k ∈ twos) := by
  rw [q_plus, q_minus, q_times, q_most]
  have e : ∀ w : List Nat, (SX.S w == SX.S k) = decide (k = w) := fun w => by
    rw [SX.S_beq_eq]
    exact decide_eq_decide.mpr ⟨Eq.symm, Eq.symm⟩
  show ((SX.S w_plus == SX.S k) || ((SX.S w_minus == SX.S k) || ((SX.S w_times == SX.S k) || ((SX.S w_most == SX.S k) || false)))) = _
  rw [e, e, e, e]
  unfold twos
  simp only [List.mem_cons, List.not_mem_nil, or_false]
  simp [Bool.decide_or]
/-! ### names and recipes told -/
structure RTxt (K : PySem.W.Frag) (mg : Str → Option Value) (tw : Addr) : Prop where
  LETTERS : ∃ t, mg "LETTERS" = some (.str "abcdefghijklmnopqrstuvwxyz" t)
  LONGEST : ∃ t, mg "LONGEST" = some (.int 8 t)
  DEEPEST : ∃ t, mg "DEEPEST" = some (.int 8 t)
  MOST : ∃ t, mg "MOST" = some (.int 100 t)
  MOST_NAMES : ∃ t, mg "MOST_NAMES" = some (.int 9 t)
  TWOS : mg "TWOS" = some (.ref tw)
  twos : ∀ H, SqT K H tw [.str "plus", .str "minus", .str "times", .str "most"]
def spIsWhole : Sp := fun vs H Q _ => ∃ (v : V) (t : Th), vs = [v] ∧ Data H t v ∧ Q (.bl t.isInt) H
def spIsName : Sp := fun vs H Q _ => ∃ (v : V) (t : Th), vs = [v] ∧ Data H t v ∧ t.tame = true ∧ ∀ H', Same H H' → Q (.bl t.isNm) H'
def spAreNames : Sp := fun vs H Q _ => ∃ (v : V) (t : Th), vs = [v] ∧ Data H t v ∧ t.tame = true ∧ (∀ m, t = .tup m → Th.flatL m = true ∧ SeqAt.shaped (.list (Th.pyL m)) = true) ∧ ∀ H', Same H H' → Q (.bl t.areNms) H'
theorem letter_in (c : Nat) : decide (c ∈ ("abcdefghijklmnopqrstuvwxyz" : Str).cps.toList) = (decide (97 ≤ c) && decide (c ≤ 122)) := by
  rw [letters_is]
  show decide (c ∈ letters) = _
  rw [← Bool.decide_and]
  refine decide_eq_decide.mpr ⟨fun h => letters_ok c h, fun ⟨h1, h2⟩ => ?_⟩
  have : ∀ d : Nat, d < 26 → (97 + d) ∈ letters := by decide
  have := this (c - 97) (by omega)
  rwa [show 97 + (c - 97) = c by omega] at this
section
variable {P : Program} {w : World} {K : PySem.W.Frag} {mg : Str → Option Value} {base : Heap}
abbrev s_is_whole : Stmt := topS 10
abbrev N_is_whole : List Str := ["thing"]
theorem sc_is_whole : FnScope N_is_whole ["thing"] (defScope s_is_whole) := ⟨rfl, rfl, rfl, by decide +kernel, rfl, by decide +kernel, by decide +kernel⟩

theorem ok_is_whole (T : Txt K mg) (D : IsDef K mg "is_whole" s_is_whole ["thing"]) : Cal P w K mg base CX0 1 "is_whole" ["thing"] spIsWhole := by
  refine D.cal sc_is_whole (fun vs H Q E h => ?_) (fun f cdv A outer s H vs Q E hr h => ?_)
  · obtain ⟨v, t, rfl, _⟩ := h
    rfl
  obtain ⟨v, t, rfl, hv, q⟩ := h
  refine ⟨_, (pss_one (ps_ret (pe_and (pe_callB call_isi (by rfl) T.b_isinstance (by decide +kernel) (pa_cons (pv 0) (pa_cons (pe_bltn (v := .ty "int") (by rfl) T.b_int (by decide +kernel) rfl) pa_nil))) (pe_one (pe_not (pe_callB call_isi (by rfl) T.b_isinstance (by decide +kernel) (pa_cons (pv 0) (pa_cons (pe_bltn (v := .ty "bool") (by rfl) T.b_bool (by decide +kernel) rfl) pa_nil)))))))), ?_⟩
  refine ⟨_, rfl, _, _, _, _, _, rfl, .ty _, hv.ty, kit_int t, _, rfl, ?_⟩
  have e := isInt_is t
  cases h1 : t.isIntB with
  | false =>
    rw [h1, Bool.false_and] at e
    refine iteF ?_
    rw [e]
    exact q
  | true =>
    rw [h1, Bool.true_and] at e
    refine iteT ?_
    refine ⟨_, rfl, _, _, _, _, _, rfl, .ty _, hv.ty, kit_bl t, _, rfl, ?_⟩
    rw [e]
    exact q
abbrev s_is_name : Stmt := topS 11
abbrev N_is_name : List Str := ["thing", "sign"]
theorem sc_is_name : FnScope N_is_name ["thing"] (defScope s_is_name) := ⟨rfl, rfl, rfl, by decide +kernel, rfl, by decide +kernel, by decide +kernel⟩

theorem ok_is_name {tw : Addr} (T : Txt K mg) (R : RTxt K mg tw) (D : IsDef K mg "is_name" s_is_name ["thing"]) : Cal P w K mg base CX0 1 "is_name" ["thing"] spIsName := by
  refine D.cal sc_is_name (fun vs H Q E h => ?_) (fun f cdv A outer s H vs Q E hr h => ?_)
  · obtain ⟨v, t, rfl, _⟩ := h
    rfl
  obtain ⟨v, t, rfl, hv, ht, q⟩ := h
  obtain ⟨_, g_LETTERS⟩ := R.LETTERS
  obtain ⟨_, g_LONGEST⟩ := R.LONGEST
  refine ⟨_, (pss_cons (ps_if (PW.pt (pw_or (pt_not (pt_val (pe_callB call_isi (by rfl) T.b_isinstance (by decide +kernel) (pa_cons (pv 0) (pa_cons (pe_bltn (v := .ty "str") (by rfl) T.b_str (by decide +kernel) rfl) pa_nil))))) (pw_or (pt_cmpR op_lt (pe_callB call_len_str (by rfl) T.b_len PySem.boot_len (pa_cons (pv 0) pa_nil)) pe_int (nomark _)) (pw_or1 (pt_cmpR op_gt (pe_callB call_len_str (by rfl) T.b_len PySem.boot_len (pa_cons (pv 0) pa_nil)) (pe_glob (v := .int _) rfl g_LONGEST ⟨_, rfl⟩) (nomark _))))))
        (pss_one (ps_ret pe_bl))
        pss_nil)
      (pss_one (ps_ret (pe_cmpR (op_eqD hr.units) (pe_lc (own := [("sign", 1)]) (g := gName 1)  (by rfl) sc_is_name.nd  (pi_str (pv 0)) (blkOk_by (own := [("sign", 1)]) (N := N_is_name) (sc := defScope s_is_name) (by decide +kernel)) (fun _ _ _ _ _ => (pg_name (i := 1) sc_is_name.nd rfl (Or.inl rfl))) (fun _ _ _ _ _ => (pts_one (pt_cmpR op_notIn_sign (pv 1) (pe_glob (v := .str _) rfl g_LETTERS ⟨_, rfl⟩) rfl))) (fun _ _ _ _ _ => (pv 1))) (pe_lst pa_nil) (nomark _))))), ?_⟩
  refine ⟨_, rfl, _, _, _, _, _, rfl, .ty _, hv.ty, kit_str t, _, rfl, ?_⟩
  cases t with
  | str z =>
    have hz : z.length ≤ 1000000 := by
      have : (decide (z.length ≤ 1000000) && z.all fun c => decide (c < 128)) = true := ht
      rw [Bool.and_eq_true, decide_eq_true_eq] at this
      exact this.1
    have hc : ∀ c ∈ z, c < 128 := by
      have : (decide (z.length ≤ 1000000) && z.all fun c => decide (c < 128)) = true := ht
      rw [Bool.and_eq_true, List.all_eq_true] at this
      exact fun c h => of_decide_eq_true (this.2 c h)
    have ev : v = .str (SX.S z) := hv
    subst ev
    refine iteF ?_
    have hl : (SX.S z).length ≤ sizeLine := by rw [SX.S_len]; exact le_line (by omega)
    refine ⟨_, rfl, _, rfl, hl, _, _, rfl, rfl, _, rfl, ?_⟩
    by_cases h1 : (((SX.S z).length : Nat) : Int) < 1
    · refine iteY h1 (iteT ?_)
      have e : nmOk z = false := by
        unfold nmOk
        rw [SX.S_len] at h1
        rw [decide_eq_false (show ¬ 1 ≤ z.length by omega)]
        rfl
      have : Q (.bl (nmOk z)) H := q H (Same.refl H)
      rw [e] at this
      exact this
    refine iteN h1 ?_
    refine ⟨_, rfl, _, rfl, hl, _, _, rfl, rfl, _, rfl, ?_⟩
    by_cases h2 : (((SX.S z).length : Nat) : Int) > 8
    · refine iteY h2 ?_
      have e : nmOk z = false := by
        unfold nmOk
        rw [SX.S_len] at h2
        rw [decide_eq_false (show ¬ z.length ≤ 8 by omega), Bool.and_false]
        rfl
      have : Q (.bl (nmOk z)) H := q H (Same.refl H)
      rw [e] at this
      exact this
    refine iteN h2 ?_
    rw [SX.S_len] at h1 h2
    refine ⟨_, rfl, _, rfl, fun L nL => lcS (z := SX.S z) (fun i H' => Same H H' ∧ H' L = some (.lst (txs (ones ((z.take i).filter fun c => !(decide (97 ≤ c) && decide (c ≤ 122)))))))
      ⟨same_new nL _, upd_same⟩ ?_ ?_⟩
    · rintro i c H1 hc1 ⟨hs, hL⟩
      have hci : z[i]? = some c := by
        have : z.toArray[i]? = some c := hc1
        rwa [List.getElem?_toArray] at this
      have e1 : (z.take (i + 1)) = z.take i ++ [c] := by rw [List.take_add_one, hci]; rfl
      refine ⟨rfl, _, rfl, c, _, rfl, rfl, _, rfl, ?_⟩
      rw [letter_in]
      cases hcc : (decide (97 ≤ c) && decide (c ≤ 122)) with
      | true =>
        refine iteF ⟨hs, ?_⟩
        rw [e1, List.filter_append, List.filter_cons_of_neg (by rw [hcc]; decide), List.filter_nil, List.append_nil]
        exact hL
      | false =>
        refine iteT ⟨_, rfl, _, hL, ?_, same_upd hs nL _, ?_⟩
        · rw [txs_len, ones_len]
          exact lt_line (Nat.lt_of_le_of_lt (List.length_filter_le _ _) (by rw [List.length_take]; omega))
        · rw [upd_same, e1, List.filter_append, List.filter_cons_of_pos (by rw [hcc]; rfl), List.filter_nil]
          unfold ones
          rw [List.map_append, txs_app]
          rfl
    · rintro H1 ⟨hs, hL⟩
      have ez : z.take (SX.S z).cps.size = z := List.take_of_length_le (by show z.length ≤ z.toArray.size; simp)
      rw [ez] at hL
      refine ⟨Nat.zero_le _, fun e ne => ?_⟩
      have Le : L ≠ e := ne_of_none hL ne
      have dd : ∀ (H : Hp) (l : List Nat), DpAll K H (txs (ones l)) (l.map fun c => PyData.str (SX.S [c])) := fun H l => by
        induction l with
        | nil => exact .nil
        | cons c l ih => exact .cons (.str _) ih
      have sh : ∀ l : List Nat, (∀ c ∈ l, c < 128) → PyData.canLayAll0 (l.map fun c => PyData.str (SX.S [c])) = true ∧ PyData.depthAll (l.map fun c => PyData.str (SX.S [c])) = 0 := fun l hl => by
        induction l with
        | nil => exact ⟨rfl, rfl⟩
        | cons c l ih =>
          have ih := ih fun d h => hl d (List.mem_cons_of_mem _ h)
          refine ⟨?_, ?_⟩
          · show ((SX.S [c]).cps.all (· < 0x110000) && PyData.canLayAll0 _) = true
            rw [ih.1]
            have := hl c (List.mem_cons_self ..)
            simp
            omega
          · show max 0 _ = 0
            rw [ih.2]
            rfl
      have s1 := sh (z.filter fun c => !(decide (97 ≤ c) && decide (c ≤ 122))) fun c h => hc c (List.mem_filter.mp h).1
      refine ⟨_, _, .lst (SqL.of (by rw [upd_ne Le]; exact hL)) (dd _ _), .lst (SqL.of upd_same) .nil, shaped_parts.mpr ⟨s1.1, by rw [s1.2]; decide⟩, rfl, ?_⟩
      have ef : ∀ l : List Nat, PyData.eqv (.list (l.map fun c => PyData.str (SX.S [c]))) (.list []) = l.isEmpty := fun l => by cases l <;> rfl
      rw [ef]
      have en : nmOk z = (z.filter fun c => !(decide (97 ≤ c) && decide (c ≤ 122))).isEmpty := by
        unfold nmOk
        rw [decide_eq_true (show 1 ≤ z.length by omega), decide_eq_true (show z.length ≤ 8 by omega)]
        show (z.all fun c => decide (97 ≤ c) && decide (c ≤ 122)) = _
        generalize z = l
        induction l with
        | nil => rfl
        | cons c l ih =>
          rw [List.all_cons, List.filter_cons, ih]
          cases (decide (97 ≤ c) && decide (c ≤ 122)) <;> rfl
      rw [← en]
      exact q _ (hs.trans (same_new ne _))
  | _ => exact iteT (q H (Same.refl H))
end
def spWithin (K : PySem.W.Frag) : Sp := fun vs H Q _ => ∃ (v : V) (t : Th), vs = [v] ∧ Data H t v ∧ t.tame = true ∧ (t.parts = none → ∀ H', Same H H' → Q .non H') ∧ (∀ ps, t.parts = some ps → ∀ (H' : Hp) (a : Addr) (xs : List V), Same H H' → H' a = some (.tup xs) → (∀ B, Same B H → Data B t v → DataL B ps xs) → Q (.ref a) H')
theorem data_in {B H : Hp} (s : Same B H) {l : List Th} {p : Addr} {xs : List V} (d : Data B (.tup l) (.ref p)) (hp : H p = some (.tup xs)) : DataL B l xs := by
  obtain ⟨p', xs', e, hp', hl⟩ := d
  cases e
  have z := s _ _ hp'
  rw [hp] at z
  cases z
  exact hl
theorem tup_tame {k : List Nat} {l : List Th} (h : (Th.tup (.str k :: l)).tame = true) : tameS k = true ∧ Th.tameL l = true ∧ l.length ≤ 1000000 ∧ namesTame (.str k :: l) = true := by
  have e : ((tameS k && Th.tameL l) && decide (l.length + 1 ≤ 1000000) && namesTame (.str k :: l)) = true := h
  rw [Bool.and_eq_true, Bool.and_eq_true, Bool.and_eq_true, decide_eq_true_eq] at e
  exact ⟨e.1.1.1, e.1.1.2, by omega, e.2⟩
section
variable {P : Program} {w : World} {K : PySem.W.Frag} {mg : Str → Option Value} {base : Heap}
abbrev s_are_names : Stmt := topS 12
abbrev N_are_names : List Str := ["thing", "name"]
theorem sc_are_names : FnScope N_are_names ["thing"] (defScope s_are_names) := ⟨rfl, rfl, rfl, by decide +kernel, rfl, by decide +kernel, by decide +kernel⟩

theorem ok_are_names {tw : Addr} (T : Txt K mg) (R : RTxt K mg tw) (D : IsDef K mg "are_names" s_are_names ["thing"]) (C_is_name : Cal P w K mg base CX0 1 "is_name" ["thing"] spIsName) : Cal P w K mg base CX0 2 "are_names" ["thing"] spAreNames := by
  refine D.cal sc_are_names (fun vs H Q E h => ?_) (fun f cdv A outer s H vs Q E hr h => ?_)
  · obtain ⟨v, t, rfl, _⟩ := h
    rfl
  obtain ⟨v, t, rfl, hv, ht, hf, q⟩ := h
  obtain ⟨_, g_MOST_NAMES⟩ := R.MOST_NAMES
  refine ⟨_, (pss_cons (ps_if (PW.pt (pw_or (pt_not (pt_val (pe_callB call_isi (by rfl) T.b_isinstance (by decide +kernel) (pa_cons (pv 0) (pa_cons (pe_bltn (v := .ty "tuple") (by rfl) T.b_tuple (by decide +kernel) rfl) pa_nil))))) (pw_or (pt_cmpR op_lt (pe_callB call_len_seq (by rfl) T.b_len PySem.boot_len (pa_cons (pv 0) pa_nil)) pe_int (nomark _)) (pw_or1 (pt_cmpR op_gt (pe_callB call_len_seq (by rfl) T.b_len PySem.boot_len (pa_cons (pv 0) pa_nil)) (pe_glob (v := .int _) rfl g_MOST_NAMES ⟨_, rfl⟩) (nomark _))))))
        (pss_one (ps_ret pe_bl))
        pss_nil)
      (pss_one (ps_ret (pe_cmpR (op_eqD hr.units) (pe_lc (own := [("name", 1)]) (g := gName 1)  (by rfl) sc_are_names.nd  (pi_tup (pv 0)) (blkOk_by (own := [("name", 1)]) (N := N_are_names) (sc := defScope s_are_names) (by decide +kernel)) (fun _ _ _ _ _ => (pg_name (i := 1) sc_are_names.nd rfl (Or.inl rfl))) (fun _ _ _ _ _ => (pts_one (pt_not (pt_val (pe_cal C_is_name (hr.mono (by first | decide | omega)) pass0 (pa_cons (pv 1) pa_nil)))))) (fun _ _ _ _ _ => (pv 1))) (pe_lst pa_nil) (nomark _))))), ?_⟩
  refine ⟨_, rfl, _, _, _, _, _, rfl, .ty _, hv.ty, kit_tup t, _, rfl, ?_⟩
  cases t with
  | tup l =>
    obtain ⟨p, xs, rfl, hp, hl⟩ := hv
    have hxl := hl.len
    have hq := q H (Same.refl H)
    have ea : (Th.tup l).areNms = (decide (1 ≤ l.length) && decide (l.length ≤ 9) && l.all Th.isNm) := rfl
    rw [ea] at hq q
    refine iteF ?_
    refine ⟨_, rfl, p, _, rfl, .inr (SqT.of hp), _, _, rfl, rfl, _, rfl, ?_⟩
    by_cases h1 : ((xs.length : Nat) : Int) < 1
    · refine iteY h1 (iteT ?_)
      rw [decide_eq_false (show ¬ 1 ≤ l.length by omega)] at hq
      exact hq
    refine iteN h1 ?_
    refine ⟨_, rfl, p, _, rfl, .inr (SqT.of hp), _, _, rfl, rfl, _, rfl, ?_⟩
    by_cases h2 : ((xs.length : Nat) : Int) > 9
    · refine iteY h2 ?_
      rw [decide_eq_false (show ¬ l.length ≤ 9 by omega), Bool.and_false] at hq
      exact hq
    refine iteN h2 ?_
    rw [decide_eq_true (show 1 ≤ l.length by omega), decide_eq_true (show l.length ≤ 9 by omega)] at q
    have htl : Th.tameL l = true := by
      have e : (Th.tameL l && decide (l.length ≤ 1000000) && namesTame l) = true := ht
      rw [Bool.and_eq_true, Bool.and_eq_true] at e
      exact e.1.1
    refine ⟨_, rfl, p, rfl, ⟨_, SqT.of hp⟩, fun L nL => lc_tup (K := K) (a := p) (xs := xs) (fun i H' => Same H H' ∧ ∃ ys, H' L = some (.lst ys) ∧ DataL H ((l.take i).filter fun t => !t.isNm) ys)
      ⟨same_new nL _, [], upd_same, rfl⟩ (fun i H' _ h => SqT.of (h.1 _ _ hp)) ?_ ?_⟩
    · rintro i x H1 hx ⟨hs, ys, hL, hy⟩
      obtain ⟨t, hti, hd⟩ := hl.at hx
      have hm : t ∈ l := List.mem_of_getElem? hti
      have e1 : (l.take (i + 1)) = l.take i ++ [t] := by rw [List.take_add_one, hti]; rfl
      refine ⟨rfl, _, rfl, x, t, rfl, hd.same hs, tameL_mem htl t hm, fun H2 s2 => ⟨_, rfl, ?_⟩⟩
      have hs2 := hs.trans s2
      cases htt : t.isNm with
      | true =>
        refine iteF ⟨hs2, ys, s2 _ _ hL, ?_⟩
        rw [e1, List.filter_append, List.filter_cons_of_neg (by rw [htt]; decide), List.filter_nil, List.append_nil]
        exact hy
      | false =>
        have hyl : ys.length ≤ 9 := by
          rw [hy.len]
          have := List.length_filter_le (fun t : Th => !t.isNm) (l.take i)
          have := List.length_take_le i l
          rw [List.length_take] at *
          omega
        refine iteT ⟨_, rfl, ys, s2 _ _ hL, lt_line (by omega), same_upd hs2 nL _, _, upd_same, ?_⟩
        rw [e1, List.filter_append, List.filter_cons_of_pos (by rw [htt]; rfl), List.filter_nil]
        exact hy.snoc hd
    · rintro H1 ⟨hs, ys, hL, hy⟩
      rw [hxl, List.take_length] at hy
      refine ⟨Nat.zero_le _, fun e ne => ?_⟩
      have Le : L ≠ e := ne_of_none hL ne
      have hff := hf l rfl
      refine ⟨_, _, .lst (SqL.of (by rw [upd_ne Le]; exact hL)) (DataL.dp (flatL_filter (fun t => !t.isNm) hff.1) (hy.same (hs.trans (same_new ne _)))), .lst (SqL.of upd_same) .nil, shaped_filter (fun t => !t.isNm) hff.2, rfl, ?_⟩
      rw [eqv_nil]
      have en : (l.filter fun t => !t.isNm).isEmpty = l.all Th.isNm := by
        generalize l = m
        induction m with
        | nil => rfl
        | cons c m ih =>
          rw [List.all_cons, List.filter_cons, ← ih]
          cases c.isNm <;> rfl
      rw [en]
      exact q _ (hs.trans (same_new ne _))
  | _ => exact iteT (q H (Same.refl H))
abbrev s_within : Stmt := topS 13
abbrev N_within : List Str := ["thing", "kind"]
theorem sc_within : FnScope N_within ["thing"] (defScope s_within) := ⟨rfl, rfl, rfl, by decide +kernel, rfl, by decide +kernel, by decide +kernel⟩

theorem cut_tail (a b : V) (r : List V) : cutV (a :: b :: r) (some 1) none = b :: r := by
  show ((a :: b :: r).drop (HT.sIx (a :: b :: r).length 0 (some ((1 : Nat) : Int)))).take (HT.sIx (a :: b :: r).length (a :: b :: r).length none - HT.sIx (a :: b :: r).length 0 (some ((1 : Nat) : Int))) = _
  rw [HT.sIx_nat, HT.sIx_none, Nat.min_eq_left (by simp), List.drop_one, List.tail_cons, List.take_of_length_le (by simp)]
theorem slice_ne (a b : V) (r : List V) : ¬ (HT.sIx (a :: b :: r).length 0 (some 1) = 0 ∧ HT.sIx (a :: b :: r).length (a :: b :: r).length none = (a :: b :: r).length) := fun z => by
  have z1 : HT.sIx (a :: b :: r).length 0 (some ((1 : Nat) : Int)) = 0 := z.1
  rw [HT.sIx_nat, Nat.min_eq_left (by simp)] at z1
  cases z1
theorem cut_one (a b c : V) : cutV [a, b, c] (some 1) (some 2) = [b] := rfl
theorem iteInY {k : List Nat} {A B : Prop} (h : k ∈ twos) (a : A) : if inV (.str (SX.S k)) [.str "plus", .str "minus", .str "times", .str "most"] = true then A else B := by
  rw [in_twos, if_pos (decide_eq_true h)]; exact a
theorem iteInN {k : List Nat} {A B : Prop} (h : ¬ k ∈ twos) (b : B) : if inV (.str (SX.S k)) [.str "plus", .str "minus", .str "times", .str "most"] = true then A else B := by
  rw [in_twos, if_neg (fun z => h (of_decide_eq_true z))]; exact b
theorem ok_within {tw : Addr} (T : Txt K mg) (R : RTxt K mg tw) (D : IsDef K mg "within" s_within ["thing"]) (C_is_whole : Cal P w K mg base CX0 1 "is_whole" ["thing"] spIsWhole) (C_is_name : Cal P w K mg base CX0 1 "is_name" ["thing"] spIsName)
    (C_are_names : Cal P w K mg base CX0 2 "are_names" ["thing"] spAreNames) : Cal P w K mg base CX0 3 "within" ["thing"] (spWithin K) := by
  refine D.cal sc_within (fun vs H Q E h => ?_) (fun f cdv A outer s H vs Q E hr h => ?_)
  · obtain ⟨v, t, rfl, _⟩ := h
    rfl
  obtain ⟨v, t, rfl, hv, ht, qn, qs⟩ := h
  have g_TWOS := R.TWOS
  refine ⟨_, (pss_cons (ps_if (PW.pt (pw_or (pt_not (pt_val (pe_callB call_isi (by rfl) T.b_isinstance (by decide +kernel) (pa_cons (pv 0) (pa_cons (pe_bltn (v := .ty "tuple") (by rfl) T.b_tuple (by decide +kernel) rfl) pa_nil))))) (pw_or (pt_cmpR op_lt (pe_callB call_len_seq (by rfl) T.b_len PySem.boot_len (pa_cons (pv 0) pa_nil)) pe_int (nomark _)) (pw_or1 (pt_not (pt_val (pe_callB call_isi (by rfl) T.b_isinstance (by decide +kernel) (pa_cons (pe_ix (r := rIxT K) ix_tup (pv 0) pe_int (fun _ _ => rfl)) (pa_cons (pe_bltn (v := .ty "str") (by rfl) T.b_str (by decide +kernel) rfl) pa_nil)))))))))
        (pss_one (ps_ret pe_non))
        pss_nil)
      (pss_cons (ps_set (i := 1) sc_within.nd rfl (Or.inl rfl) (pe_ix (r := rIxT K) ix_tup (pv 0) pe_int (fun _ _ => rfl)))
      (pss_cons (ps_if (PW.pt (pw_and (pt_cmpR op_eq (pv 1) pe_str (nomark _)) (pw_and (pt_cmpR op_eq (pe_callB call_len_seq (by rfl) T.b_len PySem.boot_len (pa_cons (pv 0) pa_nil)) pe_int (nomark _)) (pw_and1 (pt_val (pe_cal C_is_whole (hr.mono (by first | decide | omega)) pass0 (pa_cons (pe_ix (r := rIxT K) ix_tup (pv 0) pe_int (fun _ _ => rfl)) pa_nil)))))))
        (pss_one (ps_ret (pe_tup pa_nil)))
        pss_nil)
      (pss_cons (ps_if (PW.pt (pw_and (pt_cmpR op_eq (pv 1) pe_str (nomark _)) (pw_and (pt_cmpR op_eq (pe_callB call_len_seq (by rfl) T.b_len PySem.boot_len (pa_cons (pv 0) pa_nil)) pe_int (nomark _)) (pw_and1 (pt_val (pe_cal C_is_name (hr.mono (by first | decide | omega)) pass0 (pa_cons (pe_ix (r := rIxT K) ix_tup (pv 0) pe_int (fun _ _ => rfl)) pa_nil)))))))
        (pss_one (ps_ret (pe_tup pa_nil)))
        pss_nil)
      (pss_cons (ps_if (PW.pt (pw_or (PW.pt (pw_and (pt_cmpR op_in_seq (pv 1) (pe_glob (v := .ref _) rfl g_TWOS rfl) (by with_unfolding_all rfl)) (pw_and1 (pt_cmpR op_eq (pe_callB call_len_seq (by rfl) T.b_len PySem.boot_len (pa_cons (pv 0) pa_nil)) pe_int (nomark _))))) (pw_or1 (PW.pt (pw_and (pt_cmpR op_eq (pv 1) pe_str (nomark _)) (pw_and1 (pt_cmpR op_eq (pe_callB call_len_seq (by rfl) T.b_len PySem.boot_len (pa_cons (pv 0) pa_nil)) pe_int (nomark _))))))))
        (pss_one (ps_ret (pe_slice (r := rSlT K) sl_tup (pv 0) (po_some pe_int) po_none)))
        pss_nil)
      (pss_cons (ps_if (PW.pt (pw_and (pt_cmpR op_eq (pv 1) pe_str (nomark _)) (pw_and (pt_cmpR op_eq (pe_callB call_len_seq (by rfl) T.b_len PySem.boot_len (pa_cons (pv 0) pa_nil)) pe_int (nomark _)) (pw_and1 (pt_val (pe_cal C_are_names (hr.mono (by first | decide | omega)) pass0 (pa_cons (pe_ix (r := rIxT K) ix_tup (pv 0) pe_int (fun _ _ => rfl)) pa_nil)))))))
        (pss_one (ps_ret (pe_slice (r := rSlT K) sl_tup (pv 0) (po_some pe_int) (po_some pe_int))))
        pss_nil)
      (pss_one (ps_ret pe_non)))))))), ?_⟩
  refine ⟨_, rfl, _, _, _, _, _, rfl, .ty _, hv.ty, kit_tup t, _, rfl, ?_⟩
  cases t with
  | tup l0 =>
    obtain ⟨p, xs0, rfl, hp, hl0⟩ := hv
    refine iteF ?_
    refine ⟨_, rfl, p, _, rfl, .inr (SqT.of hp), _, _, rfl, rfl, _, rfl, ?_⟩
    cases l0 with
    | nil =>
      rw [show xs0 = [] from hl0]
      exact iteY (by decide) (iteT (qn rfl H (Same.refl H)))
    | cons t0 l =>
      obtain ⟨x0, xs, rfl, hd0, hl⟩ := hl0
      cases l with
      | nil =>
        rw [show xs = [] from hl]
        refine iteY (by show ((1 : Nat) : Int) < 2; decide) (iteT (qn ?_ H (Same.refl H)))
        cases t0 with
        | str k =>
          show formParts k [] = none
          unfold formParts
          simp
        | _ => rfl
      | cons t1 l' =>
        have hxl : xs.length = (t1 :: l').length := hl.len
        have hlen : (((x0 :: xs).length : Nat) : Int) = ((l'.length + 2 : Nat) : Int) := by rw [List.length_cons, hxl]; rfl
        refine iteN (by rw [hlen]; omega) ?_
        refine ⟨_, rfl, p, _, _, _, rfl, rfl, SqT.of hp, atI_at (by decide) rfl, _, _, _, _, _, rfl, .ty _, hd0.ty, kit_str t0, _, rfl, ?_⟩
        cases t0 with
        | str k =>
          obtain rfl : x0 = V.str (SX.S k) := hd0
          obtain ⟨_, htl, _, hnt⟩ := tup_tame ht
          have ep : (Th.tup (.str k :: t1 :: l')).parts = formParts k (t1 :: l') := rfl
          rw [ep] at qn qs
          obtain ⟨x1, xs', rfl, hd1, hl'⟩ := hl
          have hx' := hl'.len
          refine iteF ?_
          refine ⟨_, rfl, p, _, _, _, rfl, rfl, SqT.of hp, atI_at (by decide) rfl, ?_⟩
          have no : formParts k (t1 :: l') = none → ∀ H', Same H H' → Q .non H' := qn
          have n0 : ∀ w : List Nat, ∀ lit : Str, lit = SX.S w → k ≠ w → ¬ V.str (SX.S k) = V.str lit := fun w lit e hk z => hk ((kw e).mp z)
          have y0 : ∀ w : List Nat, ∀ lit : Str, lit = SX.S w → k = w → V.str (SX.S k) = V.str lit := fun w lit e hk => (kw e).mpr hk
          have len_is : ∀ m : Nat, (V.int (((V.str (SX.S k) :: x1 :: xs').length : Nat) : Int) = V.int ((m + 2 : Nat) : Int)) ↔ l'.length = m := fun m => by
            constructor
            · intro e
              have e' : (((V.str (SX.S k) :: x1 :: xs').length : Nat) : Int) = ((m + 2 : Nat) : Int) := by cases e; rfl
              rw [hlen] at e'
              omega
            · intro e
              rw [hlen, e]
          by_cases k1 : k = w_number
          · have fp : formParts k (t1 :: l') = if l'.length = 0 ∧ t1.isInt = true then some [] else none := by
                unfold formParts
                rw [if_pos k1]
                simp
            have n_read : k ≠ w_read := by rw [k1]; decide
            have n_pick : k ≠ w_pick := by rw [k1]; decide
            have n_choose : k ≠ w_choose := by rw [k1]; decide
            have nt : ¬ k ∈ twos := by rw [k1]; decide
            refine ⟨_, rfl, rfl, _, rfl, iteY (y0 _ _ q_number k1) ?_⟩
            refine ⟨_, rfl, p, _, rfl, .inr (SqT.of hp), rfl, _, rfl, ?_⟩
            by_cases hl0 : l'.length = 0
            · refine iteY ((len_is 0).mpr hl0) ?_
              refine ⟨_, rfl, p, _, _, _, rfl, rfl, SqT.of hp, atI_at (by decide) rfl, x1, t1, rfl, hd1, _, rfl, ?_⟩
              cases hi : t1.isInt with
              | true =>
                exact iteT ⟨Nat.zero_le _, fun a na => qs [] (by rw [fp, if_pos ⟨hl0, hi⟩]) _ a [] (same_new na _) upd_same fun _ _ _ => rfl⟩
              | false =>
                refine iteF ?_
                refine ⟨_, rfl, rfl, _, rfl, iteN (n0 _ _ q_read n_read) (iteF ?_)⟩
                refine ⟨_, rfl, tw, _, rfl, .inr (R.twos H), rfl, rfl, _, rfl, iteInN nt (iteF ?_)⟩
                refine ⟨_, rfl, rfl, _, rfl, iteN (n0 _ _ q_pick n_pick) (iteF ?_)⟩
                refine ⟨_, rfl, rfl, _, rfl, iteN (n0 _ _ q_choose n_choose) (iteF ?_)⟩
                exact no (by rw [fp, if_neg (fun z => by rw [hi] at z; cases z.2)]) H (Same.refl H)
            · refine iteN (fun z => hl0 ((len_is 0).mp z)) (iteF ?_)
              refine ⟨_, rfl, rfl, _, rfl, iteN (n0 _ _ q_read n_read) (iteF ?_)⟩
              refine ⟨_, rfl, tw, _, rfl, .inr (R.twos H), rfl, rfl, _, rfl, iteInN nt (iteF ?_)⟩
              refine ⟨_, rfl, rfl, _, rfl, iteN (n0 _ _ q_pick n_pick) (iteF ?_)⟩
              refine ⟨_, rfl, rfl, _, rfl, iteN (n0 _ _ q_choose n_choose) (iteF ?_)⟩
              exact no (by rw [fp, if_neg (fun z => hl0 z.1)]) H (Same.refl H)
          have n_number := k1
          refine ⟨_, rfl, rfl, _, rfl, iteN (n0 _ _ q_number n_number) (iteF ?_)⟩
          by_cases k2 : k = w_read
          · have fp : formParts k (t1 :: l') = if l'.length = 0 ∧ t1.isNm = true then some [] else none := by
              unfold formParts
              rw [if_neg k1, if_pos k2]
              simp
            have n_pick : k ≠ w_pick := by rw [k2]; decide
            have n_choose : k ≠ w_choose := by rw [k2]; decide
            have nt : ¬ k ∈ twos := by rw [k2]; decide
            refine ⟨_, rfl, rfl, _, rfl, iteY (y0 _ _ q_read k2) ?_⟩
            refine ⟨_, rfl, p, _, rfl, .inr (SqT.of hp), rfl, _, rfl, ?_⟩
            by_cases hl0 : l'.length = 0
            · refine iteY ((len_is 0).mpr hl0) ?_
              refine ⟨_, rfl, p, _, _, _, rfl, rfl, SqT.of hp, atI_at (by decide) rfl, x1, t1, rfl, hd1, tameL_mem htl t1 (List.mem_cons_self ..), fun H1 hs1 => ⟨_, rfl, ?_⟩⟩
              cases hi : t1.isNm with
              | true =>
                exact iteT ⟨Nat.zero_le _, fun a na => qs [] (by rw [fp, if_pos ⟨hl0, hi⟩]) _ a [] (hs1.trans (same_new na _)) upd_same fun _ _ _ => rfl⟩
              | false =>
                refine iteF ?_
                refine ⟨_, rfl, tw, _, rfl, .inr (R.twos H1), rfl, rfl, _, rfl, iteInN nt (iteF ?_)⟩
                refine ⟨_, rfl, rfl, _, rfl, iteN (n0 _ _ q_pick n_pick) (iteF ?_)⟩
                refine ⟨_, rfl, rfl, _, rfl, iteN (n0 _ _ q_choose n_choose) (iteF ?_)⟩
                exact no (by rw [fp, if_neg (fun z => by rw [hi] at z; cases z.2)]) H1 hs1
            · refine iteN (fun z => hl0 ((len_is 0).mp z)) (iteF ?_)
              refine ⟨_, rfl, tw, _, rfl, .inr (R.twos H), rfl, rfl, _, rfl, iteInN nt (iteF ?_)⟩
              refine ⟨_, rfl, rfl, _, rfl, iteN (n0 _ _ q_pick n_pick) (iteF ?_)⟩
              refine ⟨_, rfl, rfl, _, rfl, iteN (n0 _ _ q_choose n_choose) (iteF ?_)⟩
              exact no (by rw [fp, if_neg (fun z => hl0 z.1)]) H (Same.refl H)
          have n_read := k2
          refine ⟨_, rfl, rfl, _, rfl, iteN (n0 _ _ q_read n_read) (iteF ?_)⟩
          by_cases k3 : k ∈ twos
          · have fp : formParts k (t1 :: l') = if l'.length = 1 then some (t1 :: l') else none := by
              unfold formParts
              rw [if_neg k1, if_neg k2, if_pos k3]
              simp
            have n_pick : k ≠ w_pick := fun z => by rw [z] at k3; revert k3; decide
            have n_choose : k ≠ w_choose := fun z => by rw [z] at k3; revert k3; decide
            refine ⟨_, rfl, tw, _, rfl, .inr (R.twos H), rfl, rfl, _, rfl, iteInY k3 ?_⟩
            refine ⟨_, rfl, p, _, rfl, .inr (SqT.of hp), rfl, _, rfl, ?_⟩
            by_cases hl0 : l'.length = 1
            · refine iteY ((len_is 1).mpr hl0) (iteT ?_)
              refine ⟨_, rfl, _, rfl, p, _, rfl, SqT.of hp, slice_ne _ _ _, fun a na => ?_⟩
              refine qs _ (by rw [fp, if_pos hl0]) _ a _ (same_new na _) upd_same fun B sB dB => ?_
              rw [cut_tail]
              exact DataL.drop 1 (data_in sB dB hp)
            · refine iteN (fun z => hl0 ((len_is 1).mp z)) ?_
              refine ⟨_, rfl, rfl, _, rfl, iteN (n0 _ _ q_pick n_pick) (iteF ?_)⟩
              refine ⟨_, rfl, rfl, _, rfl, iteN (n0 _ _ q_choose n_choose) (iteF ?_)⟩
              exact no (by rw [fp, if_neg hl0]) H (Same.refl H)
          have nt := k3
          refine ⟨_, rfl, tw, _, rfl, .inr (R.twos H), rfl, rfl, _, rfl, iteInN nt (iteF ?_)⟩
          by_cases k4 : k = w_pick
          · have fp : formParts k (t1 :: l') = if l'.length = 2 then some (t1 :: l') else none := by
              unfold formParts
              rw [if_neg k1, if_neg k2, if_neg k3, if_pos k4]
              simp
            have n_choose : k ≠ w_choose := by rw [k4]; decide
            refine ⟨_, rfl, rfl, _, rfl, iteY (y0 _ _ q_pick k4) ?_⟩
            refine ⟨_, rfl, p, _, rfl, .inr (SqT.of hp), rfl, _, rfl, ?_⟩
            by_cases hl0 : l'.length = 2
            · refine iteY ((len_is 2).mpr hl0) ?_
              refine ⟨_, rfl, _, rfl, p, _, rfl, SqT.of hp, slice_ne _ _ _, fun a na => ?_⟩
              refine qs _ (by rw [fp, if_pos hl0]) _ a _ (same_new na _) upd_same fun B sB dB => ?_
              rw [cut_tail]
              exact DataL.drop 1 (data_in sB dB hp)
            · refine iteN (fun z => hl0 ((len_is 2).mp z)) ?_
              refine ⟨_, rfl, rfl, _, rfl, iteN (n0 _ _ q_choose n_choose) (iteF ?_)⟩
              exact no (by rw [fp, if_neg hl0]) H (Same.refl H)
          have n_pick := k4
          refine ⟨_, rfl, rfl, _, rfl, iteN (n0 _ _ q_pick n_pick) (iteF ?_)⟩
          by_cases k5 : k = w_choose
          · have fp : formParts k (t1 :: l') = if l'.length = 1 ∧ (l'.headD .non).areNms = true then some [t1] else none := by
              unfold formParts
              rw [if_neg k1, if_neg k2, if_neg k3, if_neg k4, if_pos k5]
              cases l' <;> simp
            refine ⟨_, rfl, rfl, _, rfl, iteY (y0 _ _ q_choose k5) ?_⟩
            refine ⟨_, rfl, p, _, rfl, .inr (SqT.of hp), rfl, _, rfl, ?_⟩
            by_cases hl0 : l'.length = 1
            · refine iteY ((len_is 1).mpr hl0) ?_
              match l', hl0, hl', htl, hnt, fp with
              | [t2], _, ⟨x2, xs2, e2, hd2, e3⟩, htl, hnt, fp =>
                subst e2
                obtain rfl : xs2 = [] := e3
                refine ⟨_, rfl, p, _, _, _, rfl, rfl, SqT.of hp, atI_at (by decide) rfl, x2, t2, rfl, hd2, tameL_mem htl t2 (by simp), fun m hm => ?_, fun H1 hs1 => ⟨_, rfl, ?_⟩⟩
                · subst hm
                  have e : (!decide (k = w_choose) || (Th.flatL m && SeqAt.shaped (.list (Th.pyL m)))) = true := hnt
                  rw [decide_eq_true k5] at e
                  exact Bool.and_eq_true_iff.mp e
                cases hi : t2.areNms with
                | true =>
                  refine iteT ⟨_, rfl, _, rfl, _, rfl, p, _, rfl, SqT.of (hs1 _ _ hp), fun z => absurd z.1 (by show ¬ HT.sIx 3 0 (some 1) = 0; decide), fun a na => ?_⟩
                  refine qs [t1] (by rw [fp, if_pos ⟨rfl, hi⟩]) _ a _ (hs1.trans (same_new na _)) upd_same fun B sB dB => ?_
                  rw [cut_one]
                  exact DataL.take 1 (DataL.drop 1 (data_in sB dB hp))
                | false =>
                  exact iteF (no (by rw [fp, if_neg (fun z => by rw [show ([t2] : List Th).headD .non = t2 from rfl, hi] at z; cases z.2)]) H1 hs1)
            · exact iteN (fun z => hl0 ((len_is 1).mp z)) (iteF (no (by rw [fp, if_neg (fun z => hl0 z.1)]) H (Same.refl H)))
          have n_choose := k5
          refine ⟨_, rfl, rfl, _, rfl, iteN (n0 _ _ q_choose n_choose) (iteF ?_)⟩
          exact no (by unfold formParts; rw [if_neg k1, if_neg k2, if_neg k3, if_neg k4, if_neg k5]) H (Same.refl H)
        | _ => exact iteT (qn rfl H (Same.refl H))
  | _ => exact iteT (qn rfl H (Same.refl H))
end
section
variable {P : Program} {w : World} {K : PySem.W.Frag} {mg : Str → Option Value} {base : Heap}
abbrev s_is_recipe : Stmt := topS 14
abbrev N_is_recipe : List Str := ["thing", "row", "at", "one", "depth", "parts", "part"]
theorem sc_is_recipe : FnScope N_is_recipe ["thing"] (defScope s_is_recipe) := ⟨rfl, rfl, rfl, by decide +kernel, rfl, by decide +kernel, by decide +kernel⟩

/-- what is still to be looked at -/
def pend (n : Nat) (rest : List (Th × Nat)) : Nat := (rest.map fun p => Th.count (9 - p.2) p.1).sum
def Row (H : Hp) : List (Th × Nat) → List V → Prop
  | [], xs => xs = []
  | p :: r, xs => ∃ (a : Addr) (x : V) (ys : List V), xs = .ref a :: ys ∧ H a = some (.tup [x, .int (p.2 : Int)]) ∧ Data H p.1 x ∧ Row H r ys
theorem Row.same {H H' : Hp} (s : Same H H') : ∀ {r : List (Th × Nat)} {xs : List V}, Row H r xs → Row H' r xs
  | [], _, h => h
  | _ :: _, _, ⟨a, x, ys, e, h, d, r⟩ => ⟨a, x, ys, e, s _ _ h, d.same s, Row.same s r⟩
theorem Row.len {H : Hp} : ∀ {r : List (Th × Nat)} {xs : List V}, Row H r xs → xs.length = r.length
  | [], _, h => by rw [show _ = [] from h]; rfl
  | _ :: _, _, ⟨a, x, ys, e, h, d, r⟩ => by rw [e, List.length_cons, Row.len r]; rfl
theorem Row.at {H : Hp} : ∀ {r : List (Th × Nat)} {xs : List V} {i : Nat} {p : Th × Nat}, Row H r xs → r[i]? = some p → ∃ (a : Addr) (x : V), xs[i]? = some (.ref a) ∧ H a = some (.tup [x, .int (p.2 : Int)]) ∧ Data H p.1 x
  | [], _, i, p, _, e => by simp at e
  | q :: _, _, 0, p, ⟨a, x, ys, e1, h, d, _⟩, e => by subst e1; cases e; exact ⟨a, x, rfl, h, d⟩
  | _ :: _, _, i + 1, p, ⟨a, x, ys, e1, h, d, r⟩, e => by subst e1; exact Row.at (i := i) r (by simpa using e)
theorem Row.snoc {H : Hp} {p : Th × Nat} {a : Addr} {x : V} (h : H a = some (.tup [x, .int (p.2 : Int)])) (d : Data H p.1 x) : ∀ {r : List (Th × Nat)} {xs : List V}, Row H r xs → Row H (r ++ [p]) (xs ++ [.ref a])
  | [], _, e => by rw [show _ = [] from e]; exact ⟨a, x, [], rfl, h, d, rfl⟩
  | _ :: _, _, ⟨b, y, ys, e, h', d', r⟩ => by subst e; exact ⟨b, y, _, rfl, h', d', Row.snoc h d r⟩
theorem pend_ge (n : Nat) : ∀ r : List (Th × Nat), r.length ≤ pend n r
  | [] => Nat.zero_le _
  | p :: r => by
    have := pend_ge n r
    have := count_pos (9 - p.2) p.1
    show r.length + 1 ≤ Th.count (9 - p.2) p.1 + pend n r
    omega
theorem pend_app (n : Nat) (a b : List (Th × Nat)) : pend n (a ++ b) = pend n a + pend n b := by unfold pend; rw [List.map_append, List.sum_append]
def allOk (r : List (Th × Nat)) : Bool := r.all fun p => Th.okay (9 - p.2) p.1
def spIsRecipe : Sp := fun vs H Q _ => ∃ (v : V) (t : Th), vs = [v] ∧ Data H t v ∧ t.tame = true ∧ ∀ H', Same H H' → Q (.bl t.isRcp) H'
theorem parts_tame {t : Th} {ps : List Th} (ht : t.tame = true) (h : t.parts = some ps) : ps.length ≤ 3 ∧ ∀ p ∈ ps, p.tame = true := by
  obtain ⟨k, l, rfl⟩ := parts_tup h
  have hm := tameL_mem (tup_tame ht).2.1
  have e : formParts k l = some ps := h
  unfold formParts at e
  have none_ne : ∀ {x : List Th}, (Option.none : Option (List Th)) = some x → False := fun z => by cases z
  split at e
  · split at e
    · cases e; exact ⟨by decide, by simp⟩
    · cases e
  split at e
  · split at e
    · cases e; exact ⟨by decide, by simp⟩
    · cases e
  split at e
  · split at e
    · rename_i h2; cases e; exact ⟨by omega, hm⟩
    · cases e
  split at e
  · split at e
    · rename_i h2; cases e; exact ⟨by omega, hm⟩
    · cases e
  split at e
  · split at e
    · rename_i h2; cases e
      refine ⟨by rw [List.length_take]; omega, fun p hp => hm p (List.mem_of_mem_take hp)⟩
    · cases e
  · cases e
theorem ok_is_recipe {tw : Addr} (T : Txt K mg) (R : RTxt K mg tw) (D : IsDef K mg "is_recipe" s_is_recipe ["thing"]) (C_within : Cal P w K mg base CX0 3 "within" ["thing"] (spWithin K)) : Cal P w K mg base CX0 4 "is_recipe" ["thing"] spIsRecipe := by
  refine D.cal sc_is_recipe (fun vs H Q E h => ?_) (fun f cdv A outer s H vs Q E hr h => ?_)
  · obtain ⟨v, t, rfl, _⟩ := h
    rfl
  obtain ⟨v, t, rfl, hv, ht, q⟩ := h
  obtain ⟨_, g_MOST⟩ := R.MOST
  obtain ⟨_, g_DEEPEST⟩ := R.DEEPEST
  refine ⟨_, (pss_cons (ps_set (i := 1) sc_is_recipe.nd rfl (Or.inl rfl) (pe_lst (pa_cons (pe_tup (pa_cons (pv 0) (pa_cons pe_int pa_nil))) pa_nil)))
      (pss_cons (ps_set (i := 2) sc_is_recipe.nd rfl (Or.inl rfl) pe_int)
      (pss_cons (ps_while PassesOwn.never (pt_cmpR op_lt (pv 2) (pe_callB call_len_seq (by rfl) T.b_len PySem.boot_len (pa_cons (pv 1) pa_nil)) (nomark _))
        (pss_cons (ps_asg (pe_ix (r := rIxL K) ix_list (pv 1) (pv 2) (fun _ _ => rfl)) (pg_tup rfl (pgs_cons (pg_name (i := 3) sc_is_recipe.nd rfl (Or.inl rfl)) (pgs_cons (pg_name (i := 4) sc_is_recipe.nd rfl (Or.inl rfl)) pgs_nil))))
      (pss_cons (ps_set (i := 5) sc_is_recipe.nd rfl (Or.inl rfl) (pe_cal C_within (hr.mono (by first | decide | omega)) pass0 (pa_cons (pv 3) pa_nil)))
      (pss_cons (ps_if (PW.pt (pw_or (pt_cmpR op_isN (pv 5) pe_non (nomark _)) (pw_or (pt_cmpR op_gt (pv 4) (pe_glob (v := .int _) rfl g_DEEPEST ⟨_, rfl⟩) (nomark _)) (pw_or1 (pt_cmpR op_gt (pe_callB call_len_seq (by rfl) T.b_len PySem.boot_len (pa_cons (pv 1) pa_nil)) (pe_glob (v := .int _) rfl g_MOST ⟨_, rfl⟩) (nomark _))))))
        (pss_one (ps_ret pe_bl))
        pss_nil)
      (pss_cons (ps_for PassesOwn.never rfl (pi_tup (pv 5)) (pg_name (i := 6) sc_is_recipe.nd rfl (Or.inl rfl))
        (pss_one (ps_expr (pe_bm PySem.F.plainAttrs_list PySem.F.slot_list_append PySem.F.type_list_append mt_append (pv 1) (pa_cons (pe_tup (pa_cons (pv 6) (pa_cons (pe_op op_add (pv 4) pe_int) pa_nil))) pa_nil)))))
      (pss_one (ps_aug (i := 2) sc_is_recipe.nd rfl (Or.inl rfl) pe_int ip_add)))))))
      (pss_one (ps_ret pe_bl))))), ?_⟩
  refine ⟨_, rfl, le_line (Nat.le_of_ble_eq_true rfl), fun p np => ⟨le_line (Nat.le_of_ble_eq_true rfl), fun L nL => ?_⟩⟩
  have s1 := same_new np (.tup [v, .int 1])
  -- the row: looked at, and still to be looked at
  refine ⟨fun m σ H' => ∃ (B : Hp) (all : List (Th × Nat)) (xs : List V) (i : Nat) (o1 o2 o3 o4 : Option V), σ = [some v, some (.ref L), some (.int (i : Int)), o1, o2, o3, o4] ∧ Same H B ∧ B L = none ∧ Same B H' ∧ H' L = some (.lst xs) ∧ Row B all xs ∧
      i ≤ all.length ∧ all.length ≤ 103 ∧ (∀ q ∈ all, q.1.tame = true ∧ 1 ≤ q.2 ∧ q.2 ≤ 9) ∧ (all.length ≤ 100 ∨ i < all.length) ∧ t.isRcp = (allOk (all.drop i) && decide (i + pend 0 (all.drop i) ≤ 100)) ∧ m = 104 - i, ?_, ?_⟩
  · refine ⟨104, _, [(t, 1)], [.ref p], 0, none, none, none, none, rfl, s1, nL, same_new nL _, upd_same, ⟨p, v, [], rfl, upd_same, hv.same s1, rfl⟩, Nat.zero_le _, Nat.le_of_ble_eq_true rfl, ?_, .inl (Nat.le_of_ble_eq_true rfl), ?_, rfl⟩
    · intro q' hq
      rw [List.mem_singleton.mp hq]
      exact ⟨ht, Nat.le_refl 1, (by decide : 1 ≤ 9)⟩
    · show (t.okay 8 && decide (t.count 8 ≤ 100)) = ((t.okay 8 && true) && decide (0 + (t.count 8 + 0) ≤ 100))
      rw [Bool.and_true, Nat.zero_add, Nat.add_zero]
  rintro m σ H1 ⟨B, all, xs, i, o1, o2, o3, o4, rfl, hB, nB, hs, hL, hrow, hi, h103, htm, hlast, heq, rfl⟩
  have hxl := hrow.len
  refine ⟨_, rfl, _, rfl, L, _, rfl, .inl (SqL.of hL), _, _, rfl, rfl, _, rfl, ?_⟩
  by_cases hlt : ((i : Nat) : Int) < ((xs.length : Nat) : Int)
  · refine iteY hlt ?_
    have hia : i < all.length := by omega
    have hget := List.getElem?_eq_getElem hia
    obtain ⟨a, x, hxa, hpa, hda⟩ := hrow.at hget
    generalize hqe : all[i] = pq at hget hpa hda
    obtain ⟨t1, d1⟩ := pq
    have hq1 := htm (t1, d1) (by rw [← hqe]; exact List.getElem_mem hia)
    have hdrop : all.drop i = (t1, d1) :: all.drop (i + 1) := by rw [List.drop_eq_getElem_cons hia, hqe]
    refine ⟨fun σ' H' => ∃ (B : Hp) (all : List (Th × Nat)) (xs : List V) (i' : Nat) (o1 o2 o3 o4 : Option V), σ' = [some v, some (.ref L), some (.int (i' : Int)), o1, o2, o3, o4] ∧ Same H B ∧ B L = none ∧ Same B H' ∧ H' L = some (.lst xs) ∧ Row B all xs ∧
      i' ≤ all.length ∧ all.length ≤ 103 ∧ (∀ q ∈ all, q.1.tame = true ∧ 1 ≤ q.2 ∧ q.2 ≤ 9) ∧ (all.length ≤ 100 ∨ i' < all.length) ∧ t.isRcp = (allOk (all.drop i') && decide (i' + pend 0 (all.drop i') ≤ 100)) ∧ i' = i + 1, ?_, ?_⟩
    · rintro σ' H' ⟨B, all, xs, i', o1, o2, o3, o4, e1, e2, e3, e4, e5, e6, e7, e8, e9, e10, e11, e12⟩
      exact ⟨104 - i', by omega, B, all, xs, i', o1, o2, o3, o4, e1, e2, e3, e4, e5, e6, e7, e8, e9, e10, e11, rfl⟩
    -- one, depth = row[at]
    refine ⟨_, rfl, _, rfl, L, _, _, _, rfl, rfl, SqL.of hL, atI_nat hxa, ?_⟩
    refine ⟨a, _, rfl, SqT.of (hs _ _ hpa), rfl, x, _, rfl, _, _, rfl, rfl, ?_⟩
    refine ⟨_, rfl, x, t1, rfl, hda.same hs, hq1.1, fun hno H2 hs2 => ?_, fun ps hps H2 ap zs hs2 hap hzs => ?_⟩
    · refine ⟨_, rfl, rfl, _, rfl, iteY rfl (iteT ?_)⟩
      have : t.isRcp = false := by
        rw [heq, hdrop]
        show ((Th.okay (9 - d1) t1 && allOk (all.drop (i + 1))) && _) = false
        have : Th.okay (9 - d1) t1 = false := by
          cases 9 - d1 with
          | zero => rfl
          | succ n => show (match t1.parts with | none => false | some ps => ps.all (Th.okay n)) = false; rw [hno]
        rw [this]
        rfl
      rw [← this]
      exact q _ (hB.trans (hs.trans hs2))
    · refine ⟨_, rfl, rfl, _, rfl, iteN (by intro z; cases z) ?_⟩
      have hs12 := hs.trans hs2
      have hL2 := hs2 _ _ hL
      refine ⟨_, rfl, _, _, rfl, rfl, _, rfl, ?_⟩
      by_cases hd9 : ((d1 : Nat) : Int) > 8
      · refine iteY hd9 (iteT ?_)
        have : t.isRcp = false := by
          rw [heq, hdrop]
          show ((Th.okay (9 - d1) t1 && allOk (all.drop (i + 1))) && _) = false
          have e9 : 9 - d1 = 0 := by omega
          rw [e9]
          rfl
        rw [← this]
        exact q _ (hB.trans hs12)
      refine iteN hd9 ?_
      refine ⟨_, rfl, L, _, rfl, .inl (SqL.of hL2), _, _, rfl, rfl, _, rfl, ?_⟩
      by_cases hbig : ((xs.length : Nat) : Int) > 100
      · refine iteY hbig ?_
        have : t.isRcp = false := by
          rw [heq, hdrop]
          have hge := pend_ge 0 (all.drop i)
          rw [hdrop] at hge
          have hln : ((t1, d1) :: all.drop (i + 1)).length = all.length - i := by rw [← hdrop, List.length_drop]
          rw [decide_eq_false (show ¬ i + pend 0 ((t1, d1) :: all.drop (i + 1)) ≤ 100 by omega), Bool.and_false]
        rw [← this]
        exact q _ (hB.trans hs12)
      refine iteN hbig ?_
      obtain ⟨hp3, hptm⟩ := parts_tame hq1.1 hps
      have hzl := (hzs B hs hda).len
      obtain ⟨nn, hnn⟩ : ∃ nn, 9 - d1 = nn + 1 := ⟨8 - d1, by omega⟩
      have hnn2 : 9 - (d1 + 1) = nn := by omega
      have hok : Th.okay (9 - d1) t1 = allOk (ps.map fun p => (p, d1 + 1)) := by
        rw [hnn]
        show (match t1.parts with | none => false | some ps => ps.all (Th.okay nn)) = _
        rw [hps]
        unfold allOk
        rw [List.all_map]
        show ps.all (Th.okay nn) = ps.all fun p => Th.okay (9 - (d1 + 1)) p
        rw [hnn2]
      have hct : Th.count (9 - d1) t1 = 1 + pend 0 (ps.map fun p => (p, d1 + 1)) := by
        rw [hnn]
        show (match t1.parts with | none => 1 | some ps => 1 + (ps.map (Th.count nn)).sum) = _
        rw [hps]
        unfold pend
        rw [List.map_map]
        show 1 + (ps.map (Th.count nn)).sum = 1 + (ps.map fun p => Th.count (9 - (d1 + 1)) p).sum
        rw [hnn2]
      -- for part in parts
      refine ⟨_, rfl, ap, rfl, ⟨_, SqT.of hap⟩, for_tup (K := K) (a := ap) (xs := zs) (fun j σ' H' => ∃ (B' : Hp) (ys : List V) (o4 : Option V), σ' = [some v, some (.ref L), some (.int (i : Int)), some x, some (.int (d1 : Int)), some (.ref ap), o4] ∧ Same B B' ∧ B' L = none ∧ Same B' H' ∧ H' ap = some (.tup zs) ∧ H' L = some (.lst ys) ∧
          Row B' (all ++ (ps.take j).map fun p => (p, d1 + 1)) ys ∧ DataL B' ps zs) ?_ (fun j σ' H' _ ⟨_, _, _, _, _, _, _, h, _⟩ => SqT.of h) ?_ ?_⟩
      · exact ⟨B, xs, o4, rfl, Same.refl _, nB, hs12, hap, hL2, by rw [List.take_zero, List.map_nil, List.append_nil]; exact hrow, hzs B hs hda⟩
      · rintro j y σ' H3 hy ⟨B', ys, o4', rfl, hBB, nB', hs3, hap3, hL3, hrow3, hzs3⟩
        obtain ⟨tj, htj, hdj⟩ := hzs3.at hy
        have hyl := hrow3.len
        have hjl : (ps.take j).length ≤ 3 := by rw [List.length_take]; omega
        rw [List.length_append, List.length_map] at hyl
        refine ⟨_, rfl, .inl ⟨rfl, _, SqL.of hL3⟩, _, rfl, _, rfl, _, _, rfl, rfl, le_line (Nat.le_of_ble_eq_true rfl), fun u nu => ⟨L, _, _, rfl, rfl, same_new nu _ _ _ hL3, lt_line (by omega), ?_⟩⟩
        have Lu : L ≠ u := ne_of_none hL3 nu
        have apL : ap ≠ L := fun z => by rw [z, hL3] at hap3; cases hap3
        have nu' : B' u = none := hs3.free nu
        refine ⟨upd B' u (.tup [y, .int ((d1 : Int) + 1)]), _, _, rfl, hBB.trans (same_new nu' _), by rw [upd_ne Lu]; exact nB', fun b o e => ?_, ?_, upd_same, ?_, hzs3.same (same_new nu' _)⟩
        · have hbL : b ≠ L := fun z => by rw [z, upd_ne Lu, nB'] at e; cases e
          rw [upd_ne hbL]
          by_cases hbu : b = u
          · rw [hbu, upd_same] at e ⊢; exact e
          · rw [upd_ne hbu] at e ⊢; exact hs3 _ _ e
        · rw [upd_ne apL]; exact same_new nu _ _ _ hap3
        · rw [List.take_add_one, htj, List.map_append, ← List.append_assoc]
          exact Row.snoc (p := (tj, d1 + 1)) upd_same (hdj.same (same_new nu' _)) (hrow3.same (same_new nu' _))
      · rintro σ' H3 ⟨B', ys, o4', rfl, hBB, nB', hs3, hap3, hL3, hrow3, hzs3⟩
        rw [hzl, List.take_length] at hrow3
        refine ⟨_, rfl, _, _, rfl, rfl, ?_⟩
        have hnl : (ps.map fun p => (p, d1 + 1)).length = ps.length := List.length_map _
        refine ⟨B', all ++ ps.map fun p => (p, d1 + 1), ys, i + 1, _, _, _, _, rfl, hB.trans hBB, nB', hs3, hL3, hrow3, ?_, ?_, ?_, ?_, ?_, rfl⟩
        · rw [List.length_append]; omega
        · rw [List.length_append, hnl]; omega
        · intro q' hq'
          rcases List.mem_append.mp hq' with h | h
          · exact htm q' h
          · obtain ⟨p', hp', rfl⟩ := List.mem_map.mp h
            exact ⟨hptm p' hp', by show 1 ≤ d1 + 1; omega, by show d1 + 1 ≤ 9; omega⟩
        · rw [List.length_append, hnl]
          cases ps with
          | nil => exact .inl (by show all.length + 0 ≤ 100; omega)
          | cons p0 r0 => exact .inr (by rw [List.length_cons]; omega)
        · rw [heq, hdrop, List.drop_append_of_le_length (by omega), pend_app]
          have ea : allOk ((t1, d1) :: all.drop (i + 1)) = (Th.okay (9 - d1) t1 && allOk (all.drop (i + 1))) := rfl
          have ep : pend 0 ((t1, d1) :: all.drop (i + 1)) = Th.count (9 - d1) t1 + pend 0 (all.drop (i + 1)) := rfl
          have eb : allOk (all.drop (i + 1) ++ ps.map fun p => (p, d1 + 1)) = (allOk (all.drop (i + 1)) && allOk (ps.map fun p => (p, d1 + 1))) := List.all_append
          rw [ea, ep, eb, hok, hct, Bool.and_comm (allOk (ps.map fun p => (p, d1 + 1)))]
          congr 2
          exact propext ⟨fun z => by omega, fun z => by omega⟩
  · refine iteN hlt ?_
    have e : all.drop i = [] := List.drop_eq_nil_of_le (by omega)
    have : t.isRcp = true := by
      rw [heq, e]
      show (true && decide (i + 0 ≤ 100)) = true
      rw [decide_eq_true (show i + 0 ≤ 100 by omega)]
      rfl
    have h := q _ (hB.trans hs)
    rw [this] at h
    exact h
end
theorem num_parts (k : List Nat) (h : k = w_number) (t1 : Th) : (t1.isInt = true → formParts k [t1] = some []) ∧ (t1.isInt = false → formParts k [t1] = none) := by
  unfold formParts
  rw [if_pos h]
  exact ⟨fun z => if_pos ⟨rfl, z⟩, fun z => if_neg fun y => by rw [show ([t1] : List Th).headD .non = t1 from rfl, z] at y; cases y.2⟩
theorem read_parts (k : List Nat) (h1 : k ≠ w_number) (h : k = w_read) (t1 : Th) : (t1.isNm = true → formParts k [t1] = some []) ∧ (t1.isNm = false → formParts k [t1] = none) := by
  unfold formParts
  rw [if_neg h1, if_pos h]
  exact ⟨fun z => if_pos ⟨rfl, z⟩, fun z => if_neg fun y => by rw [show ([t1] : List Th).headD .non = t1 from rfl, z] at y; cases y.2⟩
theorem one_none (k : List Nat) (h1 : k ≠ w_number) (h2 : k ≠ w_read) (t1 : Th) : formParts k [t1] = none := by
  unfold formParts
  rw [if_neg h1, if_neg h2]
  simp
theorem twos_parts (k : List Nat) (h : k ∈ twos) (t1 t2 : Th) : formParts k [t1, t2] = some [t1, t2] := by
  have n1 : k ≠ w_number := fun z => by rw [z] at h; revert h; decide
  have n2 : k ≠ w_read := fun z => by rw [z] at h; revert h; decide
  unfold formParts
  rw [if_neg n1, if_neg n2, if_pos h]
  rfl
theorem choose_parts (k : List Nat) (h : k = w_choose) (t1 t2 : Th) : (t2.areNms = true → formParts k [t1, t2] = some [t1]) ∧ (t2.areNms = false → formParts k [t1, t2] = none) := by
  have n1 : k ≠ w_number := by rw [h]; decide
  have n2 : k ≠ w_read := by rw [h]; decide
  have n3 : ¬ k ∈ twos := by rw [h]; decide
  have n4 : k ≠ w_pick := by rw [h]; decide
  unfold formParts
  rw [if_neg n1, if_neg n2, if_neg n3, if_neg n4, if_pos h]
  exact ⟨fun z => if_pos ⟨rfl, z⟩, fun z => if_neg fun y => by rw [show ([t1, t2] : List Th).getD 1 .non = t2 from rfl, z] at y; cases y.2⟩
theorem two_none (k : List Nat) (h1 : ¬ k ∈ twos) (h2 : k ≠ w_choose) (t1 t2 : Th) : formParts k [t1, t2] = none := by
  unfold formParts
  rw [if_neg h1, if_neg h2]
  simp
theorem pick_parts (k : List Nat) (h : k = w_pick) (t1 t2 t3 : Th) : formParts k [t1, t2, t3] = some [t1, t2, t3] := by
  have n1 : k ≠ w_number := by rw [h]; decide
  have n2 : k ≠ w_read := by rw [h]; decide
  have n3 : ¬ k ∈ twos := by rw [h]; decide
  unfold formParts
  rw [if_neg n1, if_neg n2, if_neg n3, if_pos h]
  rfl
theorem three_none (k : List Nat) (h1 : k ≠ w_pick) (t1 t2 t3 : Th) : formParts k [t1, t2, t3] = none := by
  unfold formParts
  rw [if_neg h1]
  simp
/-! ### recipes as things -/
def Kd.word : Kd → List Nat
  | .plus => w_plus | .minus => w_minus | .times => w_times | .most => w_most
theorem kd_word (k : Kd) : k.name = SX.S k.word := by cases k <;> decide +kernel
theorem kd_twos (k : Kd) : k.word ∈ twos := by cases k <;> decide
def nmsTh (ns : List (List Nat)) : List Th := ns.map Th.str
def Rcp.tail : Rcp → List Th × List Nat
  | .num n => ([.int n], w_number)
  | .read s => ([.str s], w_read)
  | _ => ([], [])
def Rcp.th : Rcp → Th
  | .num n => .tup [.str w_number, .int n]
  | .read s => .tup [.str w_read, .str s]
  | .two k a b => .tup [.str k.word, a.th, b.th]
  | .pick a b c => .tup [.str w_pick, a.th, b.th, c.th]
  | .choose a ns => .tup [.str w_choose, a.th, .tup (nmsTh ns)]
theorem nms_data (H : Hp) : ∀ ns : List (List Nat), DataL H (nmsTh ns) (txs ns)
  | [] => rfl
  | s :: ns => ⟨_, _, rfl, rfl, nms_data H ns⟩
theorem Rec.data {H : Hp} : ∀ {r : Rcp} {v : V}, Rec H r v → Data H r.th v
  | .num n, v, ⟨p, e, h⟩ => ⟨p, _, e, h, _, _, rfl, congrArg V.str q_number, _, _, rfl, rfl, rfl⟩
  | .read s, v, ⟨p, e, h⟩ => ⟨p, _, e, h, _, _, rfl, congrArg V.str q_read, _, _, rfl, rfl, rfl⟩
  | .two k a b, v, ⟨p, x, y, e, h, ra, rb⟩ => ⟨p, _, e, h, _, _, rfl, congrArg V.str (kd_word k), _, _, rfl, ra.data, _, _, rfl, rb.data, rfl⟩
  | .pick a b c, v, ⟨p, x, y, z, e, h, ra, rb, rc⟩ => ⟨p, _, e, h, _, _, rfl, congrArg V.str q_pick, _, _, rfl, ra.data, _, _, rfl, rb.data, _, _, rfl, rc.data, rfl⟩
  | .choose a ns, v, ⟨p, x, q, e, h, ra, hq⟩ => ⟨p, _, e, h, _, _, rfl, congrArg V.str q_choose, _, _, rfl, ra.data, _, _, rfl, ⟨q, _, rfl, hq, nms_data H ns⟩, rfl⟩
theorem Nm.tame {s : List Nat} (h : Nm s) : tameS s = true := by
  unfold tameS
  rw [Bool.and_eq_true, decide_eq_true_eq, List.all_eq_true]
  refine ⟨by have := h.2.1; omega, fun c hc => decide_eq_true ?_⟩
  have := h.2.2 c hc
  omega
theorem Nms.flat : ∀ {ns : List (List Nat)}, Th.flatL (nmsTh ns) = true
  | [] => rfl
  | s :: ns => by show (true && Th.flatL (nmsTh ns)) = true; rw [Nms.flat]; rfl
theorem nms_py : ∀ {ns : List (List Nat)}, (∀ s ∈ ns, Nm s) → PyData.canLayAll0 (Th.pyL (nmsTh ns)) = true ∧ PyData.depthAll (Th.pyL (nmsTh ns)) = 0
  | [], _ => ⟨rfl, rfl⟩
  | s :: ns, h => by
    have ih := nms_py (ns := ns) fun x hx => h x (List.mem_cons_of_mem _ hx)
    refine ⟨?_, ?_⟩
    · show ((SX.S s).cps.all (· < 0x110000) && PyData.canLayAll0 (Th.pyL (nmsTh ns))) = true
      rw [ih.1, Bool.and_true]
      have hs := (h s (List.mem_cons_self ..)).2.2
      rw [← Array.all_toList, List.all_eq_true]
      intro c hc
      have := hs c hc
      exact decide_eq_true (by omega)
    · show max 0 (PyData.depthAll (Th.pyL (nmsTh ns))) = 0
      rw [ih.2]
      rfl
theorem Nms.shaped {ns : List (List Nat)} (h : ∀ s ∈ ns, Nm s) : SeqAt.shaped (.list (Th.pyL (nmsTh ns))) = true := by
  rw [shaped_parts, (nms_py h).1, (nms_py h).2]
  exact ⟨rfl, by decide⟩
theorem nms_tame : ∀ {ns : List (List Nat)}, (∀ s ∈ ns, Nm s) → Th.tameL (nmsTh ns) = true
  | [], _ => rfl
  | s :: ns, h => by
    show (tameS s && Th.tameL (nmsTh ns)) = true
    rw [(h s (List.mem_cons_self ..)).tame, nms_tame fun x hx => h x (List.mem_cons_of_mem _ hx)]
    rfl
theorem tame_tup {l : List Th} (h : Th.tameL l = true) (hl : l.length ≤ 1000000) (hn : namesTame l = true) : (Th.tup l).tame = true := by
  show (Th.tameL l && decide (l.length ≤ 1000000) && namesTame l) = true
  rw [h, hn, decide_eq_true hl]
  rfl
theorem namesTame3 {k : List Nat} (hk : k ≠ w_choose) (a b : Th) : namesTame [.str k, a, b] = true := by
  cases b with
  | tup m => show (!decide (k = w_choose) || _) = true; rw [decide_eq_false hk]; rfl
  | _ => rfl
theorem namesTame4 (a b c d : Th) (r : List Th) : namesTame (a :: b :: c :: d :: r) = true := by cases a <;> cases c <;> rfl
theorem namesTame2 (a b : Th) : namesTame [a, b] = true := by cases a <;> rfl
theorem namesTameC {k : List Nat} {m : List Th} (a : Th) (h1 : Th.flatL m = true) (h2 : SeqAt.shaped (.list (Th.pyL m)) = true) : namesTame [.str k, a, .tup m] = true := by
  show (!decide (k = w_choose) || (Th.flatL m && SeqAt.shaped (.list (Th.pyL m)))) = true
  rw [h1, h2]; simp
theorem kd_nochoose (k : Kd) : k.word ≠ w_choose := by cases k <;> decide
theorem nms_names_tame {ns : List (List Nat)} (h : Nms ns) : (Th.tup (nmsTh ns)).tame = true := by
  refine tame_tup (nms_tame h.2.2) ?_ ?_
  · unfold nmsTh; rw [List.length_map]; have := h.2.1; omega
  · match ns with
    | [] => rfl
    | [a] => rfl
    | [a, b] => rfl
    | [a, b, c] => rfl
    | a :: b :: c :: d :: r => rfl
theorem Rcp.tame : ∀ {r : Rcp}, r.Good → r.th.tame = true
  | .num n, _ => tame_tup (by show (tameS w_number && (true && true)) = true; decide) (Nat.le_of_ble_eq_true rfl) rfl
  | .read s, h => tame_tup (by show (tameS w_read && (tameS s && true)) = true; rw [Nm.tame h]; decide) (Nat.le_of_ble_eq_true rfl) rfl
  | .two k a b, h => by
    refine tame_tup ?_ (Nat.le_of_ble_eq_true rfl) (namesTame3 (kd_nochoose k) _ _)
    show (tameS k.word && (a.th.tame && (b.th.tame && true))) = true
    rw [Rcp.tame h.1, Rcp.tame h.2]
    cases k <;> decide
  | .pick a b c, h => by
    refine tame_tup ?_ (Nat.le_of_ble_eq_true rfl) (namesTame4 _ _ _ _ _)
    show (tameS w_pick && (a.th.tame && (b.th.tame && (c.th.tame && true)))) = true
    rw [Rcp.tame h.1, Rcp.tame h.2.1, Rcp.tame h.2.2]
    decide
  | .choose a ns, h => by
    refine tame_tup ?_ (Nat.le_of_ble_eq_true rfl) (namesTameC _ Nms.flat (Nms.shaped h.2.2.2))
    show (tameS w_choose && (a.th.tame && ((Th.tup (nmsTh ns)).tame && true))) = true
    rw [Rcp.tame h.1, nms_names_tame h.2]
    decide
theorem nms_are {ns : List (List Nat)} (h : Nms ns) : (Th.tup (nmsTh ns)).areNms = true := by
  show (decide (1 ≤ (nmsTh ns).length) && decide ((nmsTh ns).length ≤ 9) && (nmsTh ns).all Th.isNm) = true
  have hl : (nmsTh ns).length = ns.length := List.length_map _
  rw [hl, decide_eq_true h.1, decide_eq_true h.2.1]
  show (nmsTh ns).all Th.isNm = true
  rw [List.all_eq_true]
  intro t ht
  obtain ⟨s, hs, rfl⟩ := List.mem_map.mp ht
  exact nmOk_iff.mpr (h.2.2 s hs)
def Rcp.subs : Rcp → List Rcp
  | .num _ => []
  | .read _ => []
  | .two _ a b => [a, b]
  | .pick a b c => [a, b, c]
  | .choose a _ => [a]
theorem Rcp.parts_th : ∀ {r : Rcp}, r.Good → r.th.parts = some (r.subs.map Rcp.th)
  | .num n, _ => (num_parts _ rfl _).1 rfl
  | .read s, h => (read_parts _ (by decide) rfl _).1 (nmOk_iff.mpr h)
  | .two k a b, _ => twos_parts _ (kd_twos k) _ _
  | .pick a b c, _ => pick_parts _ rfl _ _ _
  | .choose a ns, h => (choose_parts _ rfl _ _).1 (nms_are h.2)
theorem Rcp.subs_good : ∀ {r : Rcp}, r.Good → ∀ x ∈ r.subs, x.Good ∧ x.dep + 1 ≤ r.dep
  | .num n, _, x, hx => by cases hx
  | .read s, h, x, hx => by cases hx
  | .two k a b, h, x, hx => by
    have e : (Rcp.two k a b).dep = max a.dep b.dep + 1 := rfl
    simp only [Rcp.subs, List.mem_cons, List.not_mem_nil, or_false] at hx
    rcases hx with rfl | rfl
    · exact ⟨h.1, by omega⟩
    · exact ⟨h.2, by omega⟩
  | .pick a b c, h, x, hx => by
    have e : (Rcp.pick a b c).dep = max a.dep (max b.dep c.dep) + 1 := rfl
    simp only [Rcp.subs, List.mem_cons, List.not_mem_nil, or_false] at hx
    rcases hx with rfl | rfl | rfl
    · exact ⟨h.1, by omega⟩
    · exact ⟨h.2.1, by omega⟩
    · exact ⟨h.2.2, by omega⟩
  | .choose a ns, h, x, hx => by
    have e : (Rcp.choose a ns).dep = a.dep + 1 := rfl
    rw [List.mem_singleton.mp hx]
    exact ⟨h.1, by omega⟩
theorem Rcp.siz_subs : ∀ r : Rcp, r.siz = 1 + (r.subs.map Rcp.siz).sum
  | .num _ => rfl
  | .read _ => rfl
  | .two _ a b => by show a.siz + b.siz + 1 = 1 + (a.siz + (b.siz + 0)); omega
  | .pick a b c => by show a.siz + b.siz + c.siz + 1 = 1 + (a.siz + (b.siz + (c.siz + 0))); omega
  | .choose a _ => by show a.siz + 1 = 1 + (a.siz + 0); omega
theorem Rcp.okay : ∀ (n : Nat) {r : Rcp}, r.Good → r.dep ≤ n → r.th.okay n = true ∧ r.th.count n = r.siz
  | 0, r, _, h => by have := dep_pos r; omega
  | n + 1, r, hg, h => by
    have hp := r.parts_th hg
    have hs := r.subs_good hg
    refine ⟨?_, ?_⟩
    · show (match r.th.parts with | none => false | some ps => ps.all (Th.okay n)) = true
      rw [hp]
      show (r.subs.map Rcp.th).all (Th.okay n) = true
      rw [List.all_map, List.all_eq_true]
      intro x hx
      exact (Rcp.okay n (hs x hx).1 (by have := (hs x hx).2; omega)).1
    · show (match r.th.parts with | none => 1 | some ps => 1 + (ps.map (Th.count n)).sum) = r.siz
      rw [hp, Rcp.siz_subs r]
      show 1 + ((r.subs.map Rcp.th).map (Th.count n)).sum = _
      rw [List.map_map]
      congr 2
      exact List.map_congr_left fun x hx => (Rcp.okay n (hs x hx).1 (by have := (hs x hx).2; omega)).2
theorem Rcp.isRcp {r : Rcp} (hg : r.Good) (hd : r.dep ≤ 8) (hs : r.siz ≤ 100) : r.th.isRcp = true := by
  unfold Th.isRcp
  rw [(Rcp.okay 8 hg hd).1, (Rcp.okay 8 hg hd).2, decide_eq_true hs]
  rfl
/-! ### texts of recipes -/
def Kd.sign : Kd → Nat
  | .plus => 43 | .minus => 45 | .times => 42 | .most => 94
def Kd.signS : Kd → Str
  | .plus => " + " | .minus => " - " | .times => " * " | .most => " ^ "
def intL (n : Int) : List Nat := (Str.ofString (toString n)).cps.toList
theorem intL_S (n : Int) : Str.ofString (toString n) = SX.S (intL n) := (SX.S_tl _).symm
def Rcp.txt : Rcp → List Nat
  | .num n => intL n
  | .read s => s
  | .two k a b => 40 :: (a.txt ++ (32 :: k.sign :: 32 :: (b.txt ++ [41])))
  | .pick a b c => 91 :: (a.txt ++ (32 :: 63 :: 32 :: (b.txt ++ (32 :: 58 :: 32 :: (c.txt ++ [93])))))
  | .choose a ns => a.txt ++ (123 :: (TL.joinL [44] ns ++ [125]))
theorem intL_len {n : Int} (h : n.natAbs < 10 ^ 40) : (intL n).length ≤ 41 := by
  have z : ∀ m : Int, 0 ≤ m → m.natAbs < 10 ^ 40 → (Str.ofString (toString m)).length ≤ 40 := fun m m0 hm => by
    refine PyProof.Rows.toString_length_le m0 (by decide) ?_
    have e : (m.natAbs : Int) = m := Int.natAbs_of_nonneg m0
    rw [← e]
    exact Int.ofNat_lt.mpr hm
  have e : (intL n).length = (Str.ofString (toString n)).length := by
    rw [intL_S n, SX.S_len]
  rw [e]
  by_cases h0 : 0 ≤ n
  · exact Nat.le_succ_of_le (z n h0 h)
  · rw [PyProof.Rows.len_text_neg (by omega)]
    have := z (0 - n) (by omega) (by rw [show (0 - n).natAbs = n.natAbs by omega]; exact h)
    omega
theorem joinL_len : ∀ {ns : List (List Nat)} (m : Nat), (∀ s ∈ ns, s.length ≤ m) → (TL.joinL [44] ns).length ≤ (m + 1) * ns.length
  | [], _, _ => Nat.zero_le _
  | [p], m, h => by
    have := h p (by simp)
    show p.length ≤ _
    simp; omega
  | p :: q :: r, m, h => by
    have h1 := h p (by simp)
    have h2 := joinL_len (ns := q :: r) m fun s hs => h s (List.mem_cons_of_mem _ hs)
    have e : (TL.joinL [44] (p :: q :: r)).length = p.length + (1 + (TL.joinL [44] (q :: r)).length) := by
      show (p ++ ([44] ++ TL.joinL [44] (q :: r))).length = _
      rw [List.length_append, List.length_append]
      rfl
    have e2 : (m + 1) * (p :: q :: r).length = (m + 1) * (q :: r).length + (m + 1) := Nat.mul_succ _ _
    rw [e, e2]
    omega
theorem names_len {ns : List (List Nat)} (h : Nms ns) : (TL.joinL [44] ns).length ≤ 81 := by
  have := joinL_len 8 fun s hs => (h.2.2 s hs).2.1
  have := h.2.1
  omega
theorem names_sum : ∀ {ns : List (List Nat)}, (∀ s ∈ ns, Nm s) → ((ns.map SX.S).map (·.length)).sum ≤ 8 * ns.length
  | [], _ => Nat.zero_le _
  | p :: r, h => by
    have h1 := (h p (by simp)).2.1
    have h2 := names_sum (ns := r) fun s hs => h s (List.mem_cons_of_mem _ hs)
    rw [List.map_cons, List.map_cons, List.sum_cons, SX.S_len, List.length_cons]
    omega
theorem txt_len : ∀ {r : Rcp}, r.Good → r.txt.length ≤ 100 * r.siz
  | .num n, h => by
    have := intL_len h
    show (intL n).length ≤ 100
    omega
  | .read s, h => by
    have := h.2.1
    show s.length ≤ 100
    omega
  | .two k a b, h => by
    have h1 := txt_len h.1
    have h2 := txt_len h.2
    simp only [Rcp.txt, Rcp.siz, List.length_cons, List.length_append, List.length_nil]
    omega
  | .pick a b c, h => by
    have h1 := txt_len h.1
    have h2 := txt_len h.2.1
    have h3 := txt_len h.2.2
    simp only [Rcp.txt, Rcp.siz, List.length_cons, List.length_append, List.length_nil]
    omega
  | .choose a ns, h => by
    have h1 := txt_len h.1
    have h2 := names_len h.2
    simp only [Rcp.txt, Rcp.siz, List.length_cons, List.length_append, List.length_nil]
    omega
theorem q_open : ("(" : Str) = SX.S [40] := by decide +kernel
theorem q_close : (")" : Str) = SX.S [41] := by decide +kernel
theorem q_lb : ("[" : Str) = SX.S [91] := by decide +kernel
theorem q_rb : ("]" : Str) = SX.S [93] := by decide +kernel
theorem q_lc : ("{" : Str) = SX.S [123] := by decide +kernel
theorem q_rc : ("}" : Str) = SX.S [125] := by decide +kernel
theorem q_ask : (" ? " : Str) = SX.S [32, 63, 32] := by decide +kernel
theorem q_col : (" : " : Str) = SX.S [32, 58, 32] := by decide +kernel
theorem q_blank : (" " : Str) = SX.S [32] := by decide +kernel
theorem q_comma : ("," : Str) = SX.S [44] := by decide +kernel
theorem q_sign (k : Kd) : k.signS = SX.S [32, k.sign, 32] := by cases k <;> decide +kernel
theorem kn_num (k : Kd) : ¬ V.str k.name = V.str "number" := by cases k <;> decide +kernel
theorem kn_read (k : Kd) : ¬ V.str k.name = V.str "read" := by cases k <;> decide +kernel
theorem kn_pick (k : Kd) : ¬ V.str k.name = V.str "pick" := by cases k <;> decide +kernel
theorem kn_choose (k : Kd) : ¬ V.str k.name = V.str "choose" := by cases k <;> decide +kernel
theorem log_small {n : Int} (h : n.natAbs < 10 ^ 40) : n.natAbs.log2 < 1920 := by
  by_cases z : n.natAbs = 0
  · rw [z]; decide
  · exact (Nat.log2_lt z).mpr (Nat.lt_trans h (by decide +kernel))
/-! ### reading: what a text writes, from a place on -/
def isLt (c : Nat) : Bool := decide (97 ≤ c) && decide (c ≤ 122)
def isFg (c : Nat) : Bool := decide (48 ≤ c) && decide (c ≤ 57)
abbrev digVal (cs : List Nat) : Nat := NumText.digitsVal cs
def rName (l : List Nat) : Option (Rcp × Nat) := if nmOk (l.takeWhile isLt) = true then some (.read (l.takeWhile isLt), (l.takeWhile isLt).length) else none
def sgn (l : List Nat) : Nat := if l.take 1 = [45] then 1 else 0
def figs (l : List Nat) : List Nat := (l.drop (sgn l)).takeWhile isFg
def rNum (l : List Nat) : Option (Rcp × Nat) :=
  if (figs l).length < 1 ∨ 40 < (figs l).length then none
  else if (figs l).take 1 = [48] ∧ (1 < (figs l).length ∨ 0 < sgn l) then none
  else some (.num (if sgn l = 1 then -(digVal (figs l) : Int) else digVal (figs l)), sgn l + (figs l).length)
def twoWord (z : List Nat) : Option Kd :=
  if z = [32, 43, 32] then some .plus else if z = [32, 45, 32] then some .minus else if z = [32, 42, 32] then some .times else if z = [32, 94, 32] then some .most else none
abbrev Rdr := List Nat → Option (Rcp × Nat)
def rTwo (rp : Rdr) : Rdr := fun l =>
  match rp l with
  | none => none
  | some (a, n) => match twoWord ((l.drop n).take 3) with
    | none => none
    | some w => match rp (l.drop (n + 3)) with
      | none => none
      | some (b, m) => if (l.drop (n + 3 + m)).take 1 = [41] then some (.two w a b, n + 3 + m + 1) else none
def rPick (rp : Rdr) : Rdr := fun l =>
  match rp l with
  | none => none
  | some (a, n) => if (l.drop n).take 3 = [32, 63, 32] then
      match rp (l.drop (n + 3)) with
      | none => none
      | some (b, m) => if (l.drop (n + 3 + m)).take 3 = [32, 58, 32] then
          match rp (l.drop (n + 3 + m + 3)) with
          | none => none
          | some (c, o) => if (l.drop (n + 3 + m + 3 + o)).take 1 = [93] then some (.pick a b c, n + 3 + m + 3 + o + 1) else none
        else none
    else none
def more (d : Nat) : Option (Rcp × Nat) → Option (Rcp × Nat)
  | none => none
  | some (r, n) => some (r, d + n)
def rBase (rp : Rdr) : Rdr := fun l =>
  if l.take 1 = [40] then more 1 (rTwo rp (l.drop 1))
  else if l.take 1 = [91] then more 1 (rPick rp (l.drop 1))
  else if (l.take 1).any isLt = true then rName l
  else rNum l
def nmSigns (l : List Nat) : List Nat := l.takeWhile fun c => isLt c || decide (c = 44)
/-- what stands behind it -/
def rTail : Nat → List Nat → Rcp → Nat → Option (Rcp × Nat)
  | 0, _, r, n => some (r, n)
  | f + 1, l, r, n =>
    if (l.drop n).take 1 = [123] then
      if (Th.tup (nmsTh (TL.spl [44] 0 [] (nmSigns (l.drop (n + 1)))))).areNms = true then
        if (l.drop (n + 1 + (nmSigns (l.drop (n + 1))).length)).take 1 = [125] then
          rTail f l (.choose r (TL.spl [44] 0 [] (nmSigns (l.drop (n + 1))))) (n + 1 + (nmSigns (l.drop (n + 1))).length + 1)
        else none
      else none
    else some (r, n)
def rPart : Nat → Rdr
  | 0, _ => none
  | k + 1, l => match rBase (rPart k) l with
    | none => none
    | some (r, n) => rTail l.length l r n
/-! ### pieces of a text -/
theorem cutS_add (z : List Nat) (a k : Nat) : cutS (SX.S z) (some (a : Int)) (some ((a : Int) + (k : Int))) = SX.S ((z.drop a).take k) := by
  have e : ((a : Int) + (k : Int)) = ((a + k : Nat) : Int) := rfl
  rw [e]
  have hl := SX.S_len z
  show (⟨(((SX.S z).cps.toList.drop (HT.sIx (SX.S z).length 0 (some (a : Int)))).take (HT.sIx (SX.S z).length (SX.S z).length (some ((a + k : Nat) : Int)) - HT.sIx (SX.S z).length 0 (some (a : Int)))).toArray⟩ : Str) = SX.S ((z.drop a).take k)
  rw [HT.sIx_nat, HT.sIx_nat, hl]
  show SX.S ((z.drop (min a z.length)).take (min (a + k) z.length - min a z.length)) = _
  congr 1
  by_cases ha : a ≤ z.length
  · rw [Nat.min_eq_left ha]
    by_cases hb : a + k ≤ z.length
    · rw [Nat.min_eq_left hb, Nat.add_sub_cancel_left]
    · rw [Nat.min_eq_right (by omega), List.take_of_length_le (by rw [List.length_drop]; omega), List.take_of_length_le (by rw [List.length_drop]; omega)]
  · have e1 : min a z.length = z.length := by omega
    rw [e1, List.drop_eq_nil_of_le (Nat.le_refl _), List.drop_eq_nil_of_le (by omega), List.take_nil, List.take_nil]
theorem take_while (p : Nat → Bool) (l : List Nat) : l.take (l.takeWhile p).length = l.takeWhile p := by
  induction l with
  | nil => rfl
  | cons a r ih =>
    rw [List.takeWhile_cons]
    cases p a with
    | true => show a :: r.take (r.takeWhile p).length = _; rw [ih]; rfl
    | false => rfl
theorem SS_eq {a b : List Nat} : (V.str (SX.S a) = V.str (SX.S b)) ↔ a = b := ⟨fun h => SX.S_inj (V.str.inj h), fun h => by rw [h]⟩
def spBehind : Sp := fun vs H Q _ => ∃ (T : List Nat) (a : Nat) (S : List Nat), vs = [.str (SX.S T), .int (a : Int), .str (SX.S S)] ∧ T.length ≤ 1000000 ∧ Q (.int ((a + ((T.drop a).takeWhile fun c => decide (c ∈ S)).length : Nat) : Int)) H
structure NoT (K : PySem.W.Frag) (mg : Str → Option Value) (C : Addr) : Prop where
  x : PySem.W.excIn K C [.type "ValueError", .type "Exception", .type "BaseException", .type "object"] "ValueError.__new__" = true
  g : mg "NoText" = some (.ref C)
  k : PySem.W.keepIn K (.ref C) = true
  b : PySem.W.subIn K (.ref C) (.type "BaseException") = some true
  t : PySem.W.typeIn K (.ref C) = some (.type "type")
structure WordsT (K : PySem.W.Frag) (w : World) (mg : Str → Option Value) (wd : Addr) (es : Array DictEntry) (n : Nat) : Prop where
  g : mg "WORDS" = some (.ref wd)
  dict : KDict K w wd es n
  no : ∀ z, twoWord z = none → PySem.W.nsIn K wd (SX.S z) = some none
  yes : ∀ z k, twoWord z = some k → KDct K w wd (SX.S z) (.str k.name)
structure FTxt (K : PySem.W.Frag) (mg : Str → Option Value) : Prop where
  FIGURES : ∃ t, mg "FIGURES" = some (.str "0123456789" t)
  MOST_FIGURES : ∃ t, mg "MOST_FIGURES" = some (.int 40 t)
/-- a def that may let an error out -/
theorem IsDef.calX {P : Program} {w : World} {K : PySem.W.Frag} {mg : Str → Option Value} {base : Heap} {x : Str} {st : Stmt} {N ps : List Str} {k : Nat} {sp : Sp} (D : IsDef K mg x st ps) (S : FnScope N ps (defScope st)) (len : ∀ vs H Q E, sp vs H Q E → vs.length = ps.length)
    (hbody : ∀ (f : Addr) (cdv : Value) (A : Around) (outer : List Env) (s : Shared) (H : Hp) (vs : List V) (Q : VK) (E : XK), Room k (A.deeper (envOfC x (defScope st) s.heap.objs.size f cdv)) → sp vs H Q E →
      ∃ t, PSs (cxOf (L2.CX P w) P w K mg base N x (defScope st) f cdv A outer s H E) (defBody st) t ∧ t { nx := fun _ H' => Q .non H', rt := Q } (start N vs) H) : Cal P w K mg base (L2.CX P w) (k + 1) x ps sp := by
  obtain ⟨f, fd, F, m, b⟩ := D
  exact ⟨f, fd, F.okX S len fun cdv A outer s H vs Q E => hbody f cdv A outer s H vs Q E, m, F.kp, b⟩
/-- a reader of a text from a place on -/
def spRd (C : Addr) (g : Rdr) : Sp := fun vs H Q E => ∃ (T : List Nat) (a : Nat), vs = [.str (SX.S T), .int (a : Int)] ∧ tameS T = true ∧
  (g (T.drop a) = none → ∀ H', Same H H' → E (.ref C) none H') ∧
  (∀ r n, g (T.drop a) = some (r, n) → ∀ (H' : Hp) (p : Addr) (v : V), Same H H' → H' p = some (.tup [v, .int ((a + n : Nat) : Int)]) → Rec H' r v → Q (.ref p) H')
def spRdD (C : Addr) (m : Nat) (g : Rdr) : Sp := fun vs H Q E => ∃ (T : List Nat) (a d : Nat), vs = [.str (SX.S T), .int (a : Int), .int (d : Int)] ∧ d + m = 9 ∧ tameS T = true ∧
  (g (T.drop a) = none → ∀ H', Same H H' → E (.ref C) none H') ∧
  (∀ r n, g (T.drop a) = some (r, n) → ∀ (H' : Hp) (p : Addr) (v : V), Same H H' → H' p = some (.tup [v, .int ((a + n : Nat) : Int)]) → Rec H' r v → Q (.ref p) H')
def spExp (C : Addr) : Sp := fun vs H Q E => ∃ (T : List Nat) (a : Nat) (wd : List Nat), vs = [.str (SX.S T), .int (a : Int), .str (SX.S wd)] ∧ T.length ≤ 1000000 ∧ wd.length ≤ 1000 ∧
  ((T.drop a).take wd.length ≠ wd → E (.ref C) none H) ∧ ((T.drop a).take wd.length = wd → Q (.int ((a + wd.length : Nat) : Int)) H)
section
variable {P : Program} {w : World} {K : PySem.W.Frag} {mg : Str → Option Value} {base : Heap}
abbrev s_behind_signs : Stmt := topS 21
abbrev N_behind_signs : List Str := ["text", "at", "signs"]
theorem sc_behind_signs : FnScope N_behind_signs ["text", "at", "signs"] (defScope s_behind_signs) := ⟨rfl, rfl, rfl, by decide +kernel, rfl, by decide +kernel, by decide +kernel⟩

theorem ok_behind_signs (T : Txt K mg) (D : IsDef K mg "behind_signs" s_behind_signs ["text", "at", "signs"]) : Cal P w K mg base CX0 1 "behind_signs" ["text", "at", "signs"] spBehind := by
  refine D.cal sc_behind_signs (fun vs H Q E h => ?_) (fun f cdv A outer s H vs Q E hr h => ?_)
  · obtain ⟨T1, a, S, rfl, _⟩ := h
    rfl
  obtain ⟨T1, a, S, rfl, hT, q⟩ := h
  refine ⟨_, (pss_cons (ps_while PassesOwn.never (PW.pt (pw_and (pt_cmpR op_lt (pv 1) (pe_callB call_len_str (by rfl) T.b_len PySem.boot_len (pa_cons (pv 0) pa_nil)) (nomark _)) (pw_and1 (pt_cmpR op_in_sign (pe_item_str (pv 0) (pv 1) (fun _ _ => rfl)) (pv 2) rfl))))
        (pss_one (ps_aug (i := 1) sc_behind_signs.nd rfl (Or.inl rfl) pe_int ip_add)))
      (pss_one (ps_ret (pv 1)))), ?_⟩
  have hl : (SX.S T1).length ≤ sizeLine := by rw [SX.S_len]; exact le_line (by omega)
  refine ⟨fun m σ H' => ∃ j : Nat, σ = [some (.str (SX.S T1)), some (.int (j : Int)), some (.str (SX.S S))] ∧ H' = H ∧ j + ((T1.drop j).takeWhile fun c => decide (c ∈ S)).length = a + ((T1.drop a).takeWhile fun c => decide (c ∈ S)).length ∧ m = T1.length - j, ⟨T1.length - a, a, rfl, rfl, rfl, rfl⟩, ?_⟩
  rintro m σ H1 ⟨j, rfl, rfl, hj, rfl⟩
  refine ⟨_, rfl, _, rfl, _, rfl, hl, _, _, rfl, rfl, _, rfl, ?_⟩
  rw [SX.S_len]
  by_cases h1 : ((j : Nat) : Int) < ((T1.length : Nat) : Int)
  · have hjl : j < T1.length := by omega
    have hd : T1.drop j = T1[j] :: T1.drop (j + 1) := List.drop_eq_getElem_cons hjl
    refine iteY h1 ?_
    refine ⟨_, rfl, _, rfl, SX.S T1, _, T1[j], rfl, rfl, by omega, by omega, by rw [SX.S_len]; exact h1, ?_, _, rfl, T1[j], SX.S S, rfl, rfl, _, rfl, ?_⟩
    · show (T1.toArray)[((j : Nat) : Int).toNat]? = some T1[j]
      simp
    show if decide (T1[j] ∈ S) = true then _ else _
    by_cases hin : T1[j] ∈ S
    · refine iteY hin ?_
      refine ⟨fun σ' H' => ∃ j' : Nat, σ' = [some (.str (SX.S T1)), some (.int (j' : Int)), some (.str (SX.S S))] ∧ H' = H1 ∧ j' + ((T1.drop j').takeWhile fun c => decide (c ∈ S)).length = a + ((T1.drop a).takeWhile fun c => decide (c ∈ S)).length ∧ j' = j + 1, ?_, ?_⟩
      · rintro σ' H' ⟨j', e1, e2, e3, e4⟩
        exact ⟨T1.length - j', by omega, j', e1, e2, e3, rfl⟩
      · refine ⟨_, rfl, _, _, rfl, rfl, j + 1, rfl, rfl, ?_, rfl⟩
        rw [← hj, hd, List.takeWhile_cons, if_pos (decide_eq_true hin), List.length_cons]
        omega
    · refine iteN hin ?_
      rw [hd, List.takeWhile_cons, if_neg (fun z => hin (of_decide_eq_true z))] at hj
      refine ⟨_, rfl, ?_⟩
      rw [← hj] at q
      exact q
  · refine iteN h1 ?_
    rw [List.drop_eq_nil_of_le (by omega)] at hj
    refine ⟨_, rfl, ?_⟩
    rw [← hj] at q
    exact q
abbrev s_expected : Stmt := topS 22
abbrev N_expected : List Str := ["text", "at", "word"]
theorem sc_expected : FnScope N_expected ["text", "at", "word"] (defScope s_expected) := ⟨rfl, rfl, rfl, by decide +kernel, rfl, by decide +kernel, by decide +kernel⟩

theorem ok_expected {C : Addr} (T0 : Txt K mg) (XNoText : NoT K mg C) (D : IsDef K mg "expected" s_expected ["text", "at", "word"]) : Cal P w K mg base (L2.CX P w) 1 "expected" ["text", "at", "word"] (spExp C) := by
  refine D.calX sc_expected (fun vs H Q E h => ?_) (fun f cdv A outer s H vs Q E hr h => ?_)
  · obtain ⟨T, a, wd, rfl, _⟩ := h
    rfl
  obtain ⟨L, a, wd, rfl, hT, hw, qe, q⟩ := h
  have T := T0
  refine ⟨_, (pss_cons (ps_if (pt_cmpR op_ne (pe_slice sl_str (pv 0) (po_some (pv 1)) (po_some (pe_op op_add (pv 1) (pe_callB call_len_str (by rfl) T.b_len PySem.boot_len (pa_cons (pv 2) pa_nil))))) (pv 2) (nomark _))
        (pss_one (ps_raise rfl (takes_of rfl rfl rfl rfl) (pmk_own PySem.F.excBase_ValueError XNoText.x XNoText.g XNoText.k (raises_own XNoText.b XNoText.t) rfl)))
        pss_nil)
      (pss_one (ps_ret (pe_op op_add (pv 1) (pe_callB call_len_str (by rfl) T.b_len PySem.boot_len (pa_cons (pv 2) pa_nil)))))), ?_⟩
  have hl : (SX.S L).length ≤ sizeLine := by rw [SX.S_len]; exact le_line (by omega)
  have hlw : (SX.S wd).length ≤ sizeLine := by rw [SX.S_len]; exact le_line (by omega)
  refine ⟨_, rfl, _, rfl, _, rfl, _, rfl, _, rfl, _, rfl, hlw, _, _, rfl, rfl, _, rfl, _, rfl, hl, _, rfl, rfl, _, rfl, ?_⟩
  rw [SX.S_len, cutS_add]
  by_cases h : (L.drop a).take wd.length = wd
  · refine not_true_eq (decide_eq_true (SS_eq.mpr h)) ?_
    refine ⟨_, rfl, _, rfl, _, rfl, hlw, _, _, rfl, rfl, ?_⟩
    rw [SX.S_len]
    exact q h
  · refine not_false_eq (decide_eq_false fun z => h (SS_eq.mp z)) ?_
    exact qe h
end
theorem cutS_nat (z : List Nat) (a k : Nat) : cutS (SX.S z) (some (a : Int)) (some ((a + k : Nat) : Int)) = SX.S ((z.drop a).take k) := cutS_add z a k
theorem lt_in : (fun c => decide (c ∈ letters)) = isLt := funext fun c => by
  have h := letter_in c
  rw [letters_is] at h
  exact h
theorem tame_cut {z : List Nat} (h : tameS z = true) (a k : Nat) : tameS ((z.drop a).take k) = true := by
  unfold tameS at h ⊢
  rw [Bool.and_eq_true, decide_eq_true_eq, List.all_eq_true] at h ⊢
  refine ⟨?_, fun c hc => h.2 c (List.mem_of_mem_drop (List.mem_of_mem_take hc))⟩
  rw [List.length_take, List.length_drop]
  omega
theorem tame_len {z : List Nat} (h : tameS z = true) : z.length ≤ 1000000 := by
  unfold tameS at h
  rw [Bool.and_eq_true, decide_eq_true_eq] at h
  exact h.1
theorem tw_all (p : Nat → Bool) : ∀ (l : List Nat), ∀ c ∈ l.takeWhile p, p c = true
  | [], c, h => by cases h
  | a :: r, c, h => by
    rw [List.takeWhile_cons] at h
    cases hp : p a with
    | false => rw [hp] at h; cases h
    | true =>
      rw [hp] at h
      rcases List.mem_cons.mp h with e | h
      · rw [e]; exact hp
      · exact tw_all p r c h
def figures : List Nat := [48, 49, 50, 51, 52, 53, 54, 55, 56, 57]
theorem figures_is : ("0123456789" : Str) = SX.S figures := by decide +kernel
theorem fg_in : (fun c => decide (c ∈ figures)) = isFg := funext fun c => by
  unfold isFg figures
  rw [← Bool.decide_and]
  refine decide_eq_decide.mpr ?_
  simp only [List.mem_cons, List.not_mem_nil, or_false]
  omega
section
variable {P : Program} {w : World} {K : PySem.W.Frag} {mg : Str → Option Value} {base : Heap}
abbrev s_read_name : Stmt := topS 23
abbrev N_read_name : List Str := ["text", "at", "behind"]
theorem sc_read_name : FnScope N_read_name ["text", "at"] (defScope s_read_name) := ⟨rfl, rfl, rfl, by decide +kernel, rfl, by decide +kernel, by decide +kernel⟩

theorem ok_read_name {C tw : Addr} (T : Txt K mg) (R : RTxt K mg tw) (XNoText : NoT K mg C) (D : IsDef K mg "read_name" s_read_name ["text", "at"]) (C_behind_signs : Cal P w K mg base CX0 1 "behind_signs" ["text", "at", "signs"] spBehind)
    (C_is_name : Cal P w K mg base CX0 1 "is_name" ["thing"] spIsName) : Cal P w K mg base (L2.CX P w) 2 "read_name" ["text", "at"] (spRd C rName) := by
  refine D.calX sc_read_name (fun vs H Q E h => ?_) (fun f cdv A outer s H vs Q E hr h => ?_)
  · obtain ⟨L, a, rfl, _⟩ := h
    rfl
  obtain ⟨L, a, rfl, ht, qe, q⟩ := h
  obtain ⟨_, g_LETTERS⟩ := R.LETTERS
  have hL := tame_len ht
  have hl : (SX.S L).length ≤ sizeLine := by rw [SX.S_len]; exact le_line (by omega)
  refine ⟨_, (pss_cons (ps_set (i := 2) sc_read_name.nd rfl (Or.inl rfl) (pe_cal C_behind_signs (hr.mono (by first | decide | omega)) pass0 (pa_cons (pv 0) (pa_cons (pv 1) (pa_cons (pe_glob (v := .str _) rfl g_LETTERS ⟨_, rfl⟩) pa_nil)))))
      (pss_cons (ps_if (pt_not (pt_val (pe_cal C_is_name (hr.mono (by first | decide | omega)) pass0 (pa_cons (pe_slice sl_str (pv 0) (po_some (pv 1)) (po_some (pv 2))) pa_nil))))
        (pss_one (ps_raise rfl (takes_of rfl rfl rfl rfl) (pmk_own PySem.F.excBase_ValueError XNoText.x XNoText.g XNoText.k (raises_own XNoText.b XNoText.t) rfl)))
        pss_nil)
      (pss_one (ps_ret (pe_tup (pa_cons (pe_tup (pa_cons pe_str (pa_cons (pe_slice sl_str (pv 0) (po_some (pv 1)) (po_some (pv 2))) pa_nil))) (pa_cons (pv 2) pa_nil))))))), ?_⟩
  refine ⟨_, rfl, _, rfl, L, a, letters, by rw [letters_is]; rfl, hL, ?_⟩
  rw [lt_in]
  have hcut : cutS (SX.S L) (some (a : Int)) (some ((a + ((L.drop a).takeWhile isLt).length : Nat) : Int)) = SX.S ((L.drop a).takeWhile isLt) := by rw [cutS_nat, take_while]
  have htm : (Th.str ((L.drop a).takeWhile isLt)).tame = true := by
    have := tame_cut ht a ((L.drop a).takeWhile isLt).length
    rw [take_while] at this
    exact this
  refine ⟨_, rfl, _, rfl, _, rfl, _, rfl, _, rfl, _, rfl, hl, _, .str ((L.drop a).takeWhile isLt), rfl, congrArg V.str hcut, htm, fun H1 hs1 => ⟨_, rfl, ?_⟩⟩
  cases hn : nmOk ((L.drop a).takeWhile isLt) with
  | false =>
    refine not_false_eq hn ?_
    exact qe (by unfold rName; rw [hn]; rfl) _ hs1
  | true =>
    refine not_true_eq hn ?_
    refine ⟨_, rfl, _, rfl, _, rfl, _, rfl, _, rfl, _, rfl, hl, le_line (Nat.le_of_ble_eq_true rfl), fun p1 n1 => ⟨_, rfl, le_line (Nat.le_of_ble_eq_true rfl), fun p2 n2 => ?_⟩⟩
    refine q (.read ((L.drop a).takeWhile isLt)) _ (by unfold rName; rw [hn]; rfl) _ p2 (.ref p1) (hs1.trans ((same_new n1 _).trans (same_new n2 _))) upd_same ⟨p1, rfl, ?_⟩
    rw [upd_ne (ne_of_none upd_same n2), upd_same, hcut]
abbrev s_read_number : Stmt := topS 24
abbrev N_read_number : List Str := ["text", "at", "first", "behind", "figures"]
theorem sc_read_number : FnScope N_read_number ["text", "at"] (defScope s_read_number) := ⟨rfl, rfl, rfl, by decide +kernel, rfl, by decide +kernel, by decide +kernel⟩

theorem ok_read_number {C : Addr} (T : Txt K mg) (F0 : FTxt K mg) (XNoText : NoT K mg C) (D : IsDef K mg "read_number" s_read_number ["text", "at"]) (C_behind_signs : Cal P w K mg base CX0 1 "behind_signs" ["text", "at", "signs"] spBehind) :
    Cal P w K mg base (L2.CX P w) 2 "read_number" ["text", "at"] (spRd C rNum) := by
  refine D.calX sc_read_number (fun vs H Q E h => ?_) (fun f cdv A outer s H vs Q E hr h => ?_)
  · obtain ⟨L, a, rfl, _⟩ := h
    rfl
  obtain ⟨L, a, rfl, ht, qe, q⟩ := h
  obtain ⟨_, g_FIGURES⟩ := F0.FIGURES
  obtain ⟨_, g_MOST_FIGURES⟩ := F0.MOST_FIGURES
  have hL := tame_len ht
  have hl : (SX.S L).length ≤ sizeLine := by rw [SX.S_len]; exact le_line (by omega)
  refine ⟨_, (pss_cons (ps_set (i := 2) sc_read_number.nd rfl (Or.inl rfl) (pe_op op_add (pv 1) (pe_callTy call_int1 (by rfl) T.b_int (by decide +kernel) (pa_cons (pe_cmpR op_eq (pe_slice sl_str (pv 0) (po_some (pv 1)) (po_some (pe_op op_add (pv 1) pe_int))) pe_str (nomark _)) pa_nil))))
      (pss_cons (ps_set (i := 3) sc_read_number.nd rfl (Or.inl rfl) (pe_cal C_behind_signs (hr.mono (by first | decide | omega)) pass0 (pa_cons (pv 0) (pa_cons (pv 2) (pa_cons (pe_glob (v := .str _) rfl g_FIGURES ⟨_, rfl⟩) pa_nil)))))
      (pss_cons (ps_set (i := 4) sc_read_number.nd rfl (Or.inl rfl) (pe_slice sl_str (pv 0) (po_some (pv 2)) (po_some (pv 3))))
      (pss_cons (ps_if (PW.pt (pw_or (pt_cmpR op_lt (pe_callB call_len_str (by rfl) T.b_len PySem.boot_len (pa_cons (pv 4) pa_nil)) pe_int (nomark _)) (pw_or1 (pt_cmpR op_gt (pe_callB call_len_str (by rfl) T.b_len PySem.boot_len (pa_cons (pv 4) pa_nil)) (pe_glob (v := .int _) rfl g_MOST_FIGURES ⟨_, rfl⟩) (nomark _)))))
        (pss_one (ps_raise rfl (takes_of rfl rfl rfl rfl) (pmk_own PySem.F.excBase_ValueError XNoText.x XNoText.g XNoText.k (raises_own XNoText.b XNoText.t) rfl)))
        pss_nil)
      (pss_cons (ps_if (PW.pt (pw_and (pt_cmpR op_eq (pe_item_str (pv 4) pe_int (fun _ _ => rfl)) pe_str (nomark _)) (pw_and1 (PW.pt (pw_or (pt_cmpR op_gt (pe_callB call_len_str (by rfl) T.b_len PySem.boot_len (pa_cons (pv 4) pa_nil)) pe_int (nomark _)) (pw_or1 (pt_cmpR op_gt (pv 2) (pv 1) (nomark _))))))))
        (pss_one (ps_raise rfl (takes_of rfl rfl rfl rfl) (pmk_own PySem.F.excBase_ValueError XNoText.x XNoText.g XNoText.k (raises_own XNoText.b XNoText.t) rfl)))
        pss_nil)
      (pss_one (ps_ret (pe_tup (pa_cons (pe_tup (pa_cons pe_str (pa_cons (pe_callTy call_int_str (by rfl) T.b_int (by decide +kernel) (pa_cons (pe_slice sl_str (pv 0) (po_some (pv 1)) (po_some (pv 3))) pa_nil)) pa_nil))) (pa_cons (pv 3) pa_nil)))))))))), ?_⟩
  generalize hgl : L.drop a = l at q qe
  have h1c : cutS (SX.S L) (some (a : Int)) (some ((a : Int) + 1)) = SX.S (l.take 1) := by rw [← hgl]; exact cutS_add L a 1
  have hmin : ("-" : Str) = SX.S [45] := by decide +kernel
  have hk : [V.bl (decide (V.str (cutS (SX.S L) (some (a : Int)) (some ((a : Int) + 1))) = V.str "-"))] = [V.bl (decide (l.take 1 = [45]))] := by
    rw [h1c, hmin]
    congr 2
    exact decide_eq_decide.mpr SS_eq
  have hj : V.int (if decide (l.take 1 = [45]) = true then 1 else 0) = V.int ((sgn l : Nat) : Int) := by
    unfold sgn
    by_cases h : l.take 1 = [45]
    · rw [if_pos h, if_pos (decide_eq_true h)]; rfl
    · rw [if_neg h, if_neg (fun z => h (of_decide_eq_true z))]; rfl
  have hfig : (L.drop (a + sgn l)).takeWhile (fun c => decide (c ∈ figures)) = figs l := by
    rw [fg_in, ← List.drop_drop, hgl]; rfl
  have hcut2 : cutS (SX.S L) (some ((a : Int) + ((sgn l : Nat) : Int))) (some ((a + sgn l + (figs l).length : Nat) : Int)) = SX.S (figs l) := by
    have := cutS_nat L (a + sgn l) (figs l).length
    rw [← List.drop_drop, hgl] at this
    rw [show figs l = (l.drop (sgn l)).takeWhile isFg from rfl] at this ⊢
    rw [take_while] at this
    exact this
  have hcut3 : cutS (SX.S L) (some (a : Int)) (some ((a + sgn l + (figs l).length : Nat) : Int)) = SX.S (l.take (sgn l + (figs l).length)) := by
    have := cutS_nat L a (sgn l + (figs l).length)
    rw [hgl, ← Nat.add_assoc] at this
    exact this
  have hfl : (figs l).length ≤ 1000000 := by
    have h1 : (figs l).length ≤ (l.drop (sgn l)).length := by
      have := congrArg List.length (take_while isFg (l.drop (sgn l)))
      rw [List.length_take] at this
      show ((l.drop (sgn l)).takeWhile isFg).length ≤ _
      omega
    have h2 : l.length ≤ 1000000 := by rw [← hgl, List.length_drop]; omega
    rw [List.length_drop] at h1
    omega
  have hlf : (SX.S (figs l)).length ≤ sizeLine := by rw [SX.S_len]; exact le_line (by omega)
  refine ⟨_, rfl, _, rfl, _, rfl, _, rfl, _, rfl, _, _, rfl, rfl, _, rfl, _, rfl, hl, rfl, .inr ⟨decide (l.take 1 = [45]), hk, (a : Int), ((sgn l : Nat) : Int), rfl, hj, ?_⟩⟩
  refine ⟨_, rfl, _, rfl, L, a + sgn l, figures, by rw [figures_is]; rfl, hL, ?_⟩
  rw [hfig]
  refine ⟨_, rfl, _, rfl, _, rfl, _, rfl, _, rfl, _, rfl, hl, ?_⟩
  rw [hcut2]
  refine ⟨_, rfl, _, rfl, hlf, _, _, rfl, rfl, _, rfl, ?_⟩
  rw [SX.S_len]
  by_cases c1 : (((figs l).length : Nat) : Int) < 1
  · refine iteY c1 (iteT ?_)
    exact qe (by unfold rNum; rw [if_pos (.inl (by omega))]) _ (Same.refl H)
  refine iteN c1 ?_
  refine ⟨_, rfl, _, rfl, hlf, _, _, rfl, rfl, _, rfl, ?_⟩
  rw [SX.S_len]
  by_cases c2 : (((figs l).length : Nat) : Int) > 40
  · refine iteY c2 ?_
    exact qe (by unfold rNum; rw [if_pos (.inr (by omega))]) _ (Same.refl H)
  refine iteN c2 ?_
  have hnot : ¬ ((figs l).length < 1 ∨ 40 < (figs l).length) := by omega
  obtain ⟨c, rest, hcr⟩ : ∃ c rest, figs l = c :: rest := by
    cases hf : figs l with
    | nil => rw [hf] at c1; exact absurd (by show ((0 : Nat) : Int) < 1; decide) c1
    | cons c rest => exact ⟨c, rest, rfl⟩
  have htk : (figs l).take 1 = [c] := by rw [hcr]; rfl
  have hdig : NumText.AllDigits (figs l) := fun c' hc' => by
    have z : isFg c' = true := tw_all isFg _ c' hc'
    unfold isFg at z
    rw [Bool.and_eq_true, decide_eq_true_eq, decide_eq_true_eq] at z
    exact z
  have hint : intText? (SX.S (l.take (sgn l + (figs l).length))) = some (if sgn l = 1 then -(digVal (figs l) : Int) else digVal (figs l)) := by
    by_cases h : l.take 1 = [45]
    · have hs1 : sgn l = 1 := by unfold sgn; rw [if_pos h]
      obtain ⟨l', hl'⟩ : ∃ l', l = 45 :: l' := by
        cases l with
        | nil => cases h
        | cons x l' => exact ⟨l', by rw [show x = 45 from List.head_eq_of_cons_eq h]⟩
      have hf' : figs l = l'.takeWhile isFg := by unfold figs; rw [hs1, hl']; rfl
      have e : l.take (1 + (figs l).length) = 45 :: figs l := by
        rw [Nat.add_comm, hl', List.take_succ_cons, ← hl', hf', take_while]
      rw [hs1, e, if_pos rfl]
      exact intText_neg (cs := figs l) rfl hdig (by rw [hcr]; exact List.cons_ne_nil _ _) (by rw [SX.S_len, List.length_cons]; omega)
    · have hs0 : sgn l = 0 := by unfold sgn; rw [if_neg h]
      have e : l.take (0 + (figs l).length) = figs l := by
        rw [Nat.zero_add]
        unfold figs
        rw [hs0, List.drop_zero, take_while]
      rw [hs0, e, if_neg (by decide)]
      exact intText_digits (x := SX.S (figs l)) hdig (by show figs l ≠ []; rw [hcr]; exact List.cons_ne_nil _ _) (by rw [SX.S_len]; omega)
  have hlen : (SX.S (l.take (sgn l + (figs l).length))).length ≤ 640 := by
    rw [SX.S_len, List.length_take]
    have : sgn l ≤ 1 := by unfold sgn; split <;> omega
    omega
  refine ⟨_, rfl, SX.S (figs l), 0, c, rfl, rfl, by decide, by decide, by rw [SX.S_len]; omega, by rw [hcr]; rfl, rfl, _, rfl, ?_⟩
  have hz : ("0" : Str) = SX.S [48] := by decide +kernel
  by_cases c3 : c = 48
  · refine iteY (by rw [c3, hz]) ?_
    refine ⟨_, rfl, _, rfl, hlf, _, _, rfl, rfl, _, rfl, ?_⟩
    rw [SX.S_len]
    by_cases c4 : (((figs l).length : Nat) : Int) > 1
    · refine iteY c4 ?_
      exact iteT (qe (by unfold rNum; rw [if_neg hnot, if_pos ⟨by rw [htk, c3], .inl (by omega)⟩]) _ (Same.refl H))
    refine iteN c4 ?_
    refine ⟨_, rfl, _, rfl, _, _, rfl, rfl, _, rfl, ?_⟩
    by_cases c5 : (a : Int) + ((sgn l : Nat) : Int) > (a : Int)
    · refine iteY c5 ?_
      exact qe (by unfold rNum; rw [if_neg hnot, if_pos ⟨by rw [htk, c3], .inr (by omega)⟩]) _ (Same.refl H)
    refine iteN c5 ?_
    have hno : ¬ ((figs l).take 1 = [48] ∧ (1 < (figs l).length ∨ 0 < sgn l)) := fun z => by
      rcases z.2 with z | z <;> omega
    refine ⟨_, rfl, _, rfl, _, rfl, _, rfl, _, rfl, _, rfl, hl, _, _, congrArg (fun z => [V.str z]) hcut3, hint, hlen, le_line (Nat.le_of_ble_eq_true rfl), fun p1 n1 => ⟨_, rfl, le_line (Nat.le_of_ble_eq_true rfl), fun p2 n2 => ?_⟩⟩
    refine q (.num (if sgn l = 1 then -(digVal (figs l) : Int) else digVal (figs l))) (sgn l + (figs l).length) (by unfold rNum; rw [if_neg hnot, if_neg hno]) _ p2 (.ref p1) ((same_new n1 _).trans (same_new n2 _)) ?_ ⟨p1, rfl, ?_⟩
    · rw [← Nat.add_assoc]
      exact upd_same
    · rw [upd_ne (ne_of_none upd_same n2), upd_same]
  · have hno : ¬ ((figs l).take 1 = [48] ∧ (1 < (figs l).length ∨ 0 < sgn l)) := fun z => by
      rw [htk] at z
      exact c3 (List.head_eq_of_cons_eq z.1)
    refine iteN (fun z => c3 (by rw [hz] at z; exact List.head_eq_of_cons_eq (SS_eq.mp (show V.str (SX.S [c]) = V.str (SX.S [48]) from z)))) ?_
    refine ⟨_, rfl, _, rfl, _, rfl, _, rfl, _, rfl, _, rfl, hl, _, _, congrArg (fun z => [V.str z]) hcut3, hint, hlen, le_line (Nat.le_of_ble_eq_true rfl), fun p1 n1 => ⟨_, rfl, le_line (Nat.le_of_ble_eq_true rfl), fun p2 n2 => ?_⟩⟩
    refine q (.num (if sgn l = 1 then -(digVal (figs l) : Int) else digVal (figs l))) (sgn l + (figs l).length) (by unfold rNum; rw [if_neg hnot, if_neg hno]) _ p2 (.ref p1) ((same_new n1 _).trans (same_new n2 _)) ?_ ⟨p1, rfl, ?_⟩
    · rw [← Nat.add_assoc]
      exact upd_same
    · rw [upd_ne (ne_of_none upd_same n2), upd_same]
end
theorem SX1 {z : List Nat} {a k : Nat} {i j : Int} (hi : i = (a : Int)) (hj : j = ((a + k : Nat) : Int)) : cutS (SX.S z) (some i) (some j) = SX.S ((z.drop a).take k) := by
  rw [hi, hj]; exact cutS_nat z a k
section
variable {P : Program} {w : World} {K : PySem.W.Frag} {mg : Str → Option Value} {base : Heap}
abbrev s_read_two : Stmt := topS 25
abbrev N_read_two : List Str := ["text", "at", "depth", "one", "word", "other"]
theorem sc_read_two : FnScope N_read_two ["text", "at", "depth"] (defScope s_read_two) := ⟨rfl, rfl, rfl, by decide +kernel, rfl, by decide +kernel, by decide +kernel⟩

theorem ok_read_two {C wd : Addr} {es : Array DictEntry} {n0 k j : Nat} (T : Txt K mg) (XW : WordsT K w mg wd es n0) (XNoText : NoT K mg C) (D : IsDef K mg "read_two" s_read_two ["text", "at", "depth"])
    (C_expected : Cal P w K mg base (L2.CX P w) 1 "expected" ["text", "at", "word"] (spExp C)) (hj1 : 1 ≤ j) (C_read_part : Cal P w K mg base (L2.CX P w) j "read_part" ["text", "at", "depth"] (spRdD C k (rPart k))) :
    Cal P w K mg base (L2.CX P w) (j + 1) "read_two" ["text", "at", "depth"] (spRdD C (k + 1) (rTwo (rPart k))) := by
  refine D.calX sc_read_two (fun vs H Q E h => ?_) (fun f cdv A outer s H vs Q E hr h => ?_)
  · obtain ⟨L, a, d, rfl, _⟩ := h
    rfl
  obtain ⟨L, a, d, rfl, hdm, ht, qe, q⟩ := h
  have g_WORDS := XW.g
  have hL := tame_len ht
  have hl : (SX.S L).length ≤ sizeLine := by rw [SX.S_len]; exact le_line (by omega)
  refine ⟨_, (pss_cons (ps_asg (pe_cal C_read_part (hr.mono (by first | decide | omega)) (passes_call (takes_of rfl rfl rfl rfl) (fun _ _ _ _ h => h)) (pa_cons (pv 0) (pa_cons (pv 1) (pa_cons (pe_op op_add (pv 2) pe_int) pa_nil)))) (pg_tup rfl (pgs_cons (pg_name (i := 3) sc_read_two.nd rfl (Or.inl rfl)) (pgs_cons (pg_name (i := 1) sc_read_two.nd rfl (Or.inl rfl)) pgs_nil))))
      (pss_cons (ps_if (pt_cmpR (op_notIn_kd XW.dict) (pe_slice sl_str (pv 0) (po_some (pv 1)) (po_some (pe_op op_add (pv 1) pe_int))) (pe_glob (v := .ref _) rfl g_WORDS rfl) (by with_unfolding_all rfl))
        (pss_one (ps_raise rfl (takes_of rfl rfl rfl rfl) (pmk_own PySem.F.excBase_ValueError XNoText.x XNoText.g XNoText.k (raises_own XNoText.b XNoText.t) rfl)))
        pss_nil)
      (pss_cons (ps_set (i := 4) sc_read_two.nd rfl (Or.inl rfl) (pe_ix (r := rIxD K w) ix_kdict (pe_glob (v := .ref _) rfl g_WORDS rfl) (pe_slice sl_str (pv 0) (po_some (pv 1)) (po_some (pe_op op_add (pv 1) pe_int))) (fun _ _ => rfl)))
      (pss_cons (ps_asg (pe_cal C_read_part (hr.mono (by first | decide | omega)) (passes_call (takes_of rfl rfl rfl rfl) (fun _ _ _ _ h => h)) (pa_cons (pv 0) (pa_cons (pe_op op_add (pv 1) pe_int) (pa_cons (pe_op op_add (pv 2) pe_int) pa_nil)))) (pg_tup rfl (pgs_cons (pg_name (i := 5) sc_read_two.nd rfl (Or.inl rfl)) (pgs_cons (pg_name (i := 1) sc_read_two.nd rfl (Or.inl rfl)) pgs_nil))))
      (pss_one (ps_ret (pe_tup (pa_cons (pe_tup (pa_cons (pv 4) (pa_cons (pv 3) (pa_cons (pv 5) pa_nil)))) (pa_cons (pe_cal C_expected (hr.mono (by first | decide | omega)) (passes_call (takes_of rfl rfl rfl rfl) (fun _ _ _ _ h => h)) (pa_cons (pv 0) (pa_cons (pv 1) (pa_cons pe_str pa_nil)))) pa_nil))))))))), ?_⟩
  have dd : ∀ i : Nat, L.drop (a + i) = (L.drop a).drop i := fun i => by rw [List.drop_drop]
  refine ⟨_, rfl, _, rfl, _, rfl, _, _, rfl, rfl, L, a, d + 1, rfl, by omega, ht, fun hg => qe (by unfold rTwo; rw [hg]), fun r1 n1 hg1 H1 p1 v1 hs1 hp1 hr1 => ?_⟩
  refine ⟨p1, _, rfl, SqT.of hp1, rfl, v1, _, rfl, _, _, rfl, rfl, ?_⟩
  have hc : cutS (SX.S L) (some ((a + n1 : Nat) : Int)) (some (((a + n1 : Nat) : Int) + 3)) = SX.S (((L.drop a).drop n1).take 3) := by rw [← dd]; exact cutS_add L (a + n1) 3
  cases hw : twoWord (((L.drop a).drop n1).take 3) with
  | none =>
    refine ⟨_, rfl, _, rfl, _, rfl, _, rfl, _, _, rfl, rfl, _, rfl, _, rfl, hl, _, none, congrArg V.str hc, rfl, XW.no _ hw, _, rfl, iteT ?_⟩
    exact qe (by unfold rTwo; rw [hg1]; dsimp only; rw [hw]) _ hs1
  | some kd =>
    obtain ⟨es', n', u, hl1, hl2, hl3, hl4⟩ := XW.yes _ kd hw
    refine ⟨_, rfl, _, rfl, _, rfl, _, rfl, _, _, rfl, rfl, _, rfl, _, rfl, hl, _, some u, congrArg V.str hc, rfl, hl3, _, rfl, iteF ?_⟩
    refine ⟨_, rfl, _, rfl, _, rfl, _, rfl, _, _, rfl, rfl, _, rfl, _, rfl, hl, wd, _, .str kd.name, rfl, congrArg V.str hc, ⟨es', n', u, hl1, hl2, hl3, hl4⟩, ?_⟩
    have e2 : ∀ x, rPart k ((L.drop a).drop (n1 + 3)) = x → rPart k (L.drop (a + n1 + 3)) = x := fun x h => by rw [Nat.add_assoc, dd]; exact h
    have e3 : ∀ x, rPart k (L.drop (a + n1 + 3)) = x → rPart k ((L.drop a).drop (n1 + 3)) = x := fun x h => by rw [Nat.add_assoc, dd] at h; exact h
    refine ⟨_, rfl, _, rfl, _, _, rfl, rfl, _, rfl, _, _, rfl, rfl, L, a + n1 + 3, d + 1, rfl, by omega, ht, fun hg => ?_, fun r2 n2 hg2 H2 p2 v2 hs2 hp2 hr2 => ?_⟩
    · intro H2 hs2
      refine qe ?_ _ (hs1.trans hs2)
      unfold rTwo
      rw [hg1]
      dsimp only
      rw [hw]
      dsimp only
      rw [e3 _ hg]
    refine ⟨p2, _, rfl, SqT.of hp2, rfl, v2, _, rfl, _, _, rfl, rfl, ?_⟩
    have hq2 : rTwo (rPart k) (L.drop a) = if ((L.drop a).drop (n1 + 3 + n2)).take 1 = [41] then some (.two kd r1 r2, n1 + 3 + n2 + 1) else none := by
      unfold rTwo
      rw [hg1]
      dsimp only
      rw [hw]
      dsimp only
      rw [e3 _ hg2]
    have hb : (")" : Str) = SX.S [41] := by decide +kernel
    have ed : L.drop (a + n1 + 3 + n2) = (L.drop a).drop (n1 + 3 + n2) := by rw [← dd]; congr 1; omega
    refine ⟨_, rfl, _, rfl, _, rfl, le_line (Nat.le_of_ble_eq_true rfl), fun p3 np3 => ⟨_, rfl, _, rfl, L, a + n1 + 3 + n2, [41], by rw [hb]; rfl, hL, by decide, fun hne => ?_, fun he => ⟨le_line (Nat.le_of_ble_eq_true rfl), fun p4 np4 => ?_⟩⟩⟩
    · refine qe ?_ _ ((hs1.trans hs2).trans (same_new np3 _))
      rw [hq2, if_neg]
      rw [ed] at hne
      exact hne
    · have s4 : Same H2 (upd (upd H2 p3 (.tup [.str kd.name, v1, v2])) p4 (.tup [.ref p3, .int ((a + n1 + 3 + n2 + 1 : Nat) : Int)])) := (same_new np3 _).trans (same_new np4 _)
      refine q (.two kd r1 r2) (n1 + 3 + n2 + 1) (by rw [hq2, if_pos]; rw [ed] at he; exact he) _ p4 (.ref p3) ((hs1.trans hs2).trans s4) ?_ ⟨p3, v1, v2, rfl, ?_, (hr1.same hs2).same s4, hr2.same s4⟩
      · rw [show a + (n1 + 3 + n2 + 1) = a + n1 + 3 + n2 + 1 by omega]
        exact upd_same
      · rw [upd_ne (ne_of_none upd_same np4)]
        exact upd_same
abbrev s_read_pick : Stmt := topS 26
abbrev N_read_pick : List Str := ["text", "at", "depth", "test", "one", "other"]
theorem sc_read_pick : FnScope N_read_pick ["text", "at", "depth"] (defScope s_read_pick) := ⟨rfl, rfl, rfl, by decide +kernel, rfl, by decide +kernel, by decide +kernel⟩

theorem ok_read_pick {C : Addr} {k j : Nat} (T : Txt K mg) (XNoText : NoT K mg C) (D : IsDef K mg "read_pick" s_read_pick ["text", "at", "depth"])
    (C_expected : Cal P w K mg base (L2.CX P w) 1 "expected" ["text", "at", "word"] (spExp C)) (hj1 : 1 ≤ j) (C_read_part : Cal P w K mg base (L2.CX P w) j "read_part" ["text", "at", "depth"] (spRdD C k (rPart k))) :
    Cal P w K mg base (L2.CX P w) (j + 1) "read_pick" ["text", "at", "depth"] (spRdD C (k + 1) (rPick (rPart k))) := by
  refine D.calX sc_read_pick (fun vs H Q E h => ?_) (fun f cdv A outer s H vs Q E hr h => ?_)
  · obtain ⟨L, a, d, rfl, _⟩ := h
    rfl
  obtain ⟨L, a, d, rfl, hdm, ht, qe, q⟩ := h
  have hL := tame_len ht
  refine ⟨_, (pss_cons (ps_asg (pe_cal C_read_part (hr.mono (by first | decide | omega)) (passes_call (takes_of rfl rfl rfl rfl) (fun _ _ _ _ h => h)) (pa_cons (pv 0) (pa_cons (pv 1) (pa_cons (pe_op op_add (pv 2) pe_int) pa_nil)))) (pg_tup rfl (pgs_cons (pg_name (i := 3) sc_read_pick.nd rfl (Or.inl rfl)) (pgs_cons (pg_name (i := 1) sc_read_pick.nd rfl (Or.inl rfl)) pgs_nil))))
      (pss_cons (ps_asg (pe_cal C_read_part (hr.mono (by first | decide | omega)) (passes_call (takes_of rfl rfl rfl rfl) (fun _ _ _ _ h => h)) (pa_cons (pv 0) (pa_cons (pe_cal C_expected (hr.mono (by first | decide | omega)) (passes_call (takes_of rfl rfl rfl rfl) (fun _ _ _ _ h => h)) (pa_cons (pv 0) (pa_cons (pv 1) (pa_cons pe_str pa_nil)))) (pa_cons (pe_op op_add (pv 2) pe_int) pa_nil)))) (pg_tup rfl (pgs_cons (pg_name (i := 4) sc_read_pick.nd rfl (Or.inl rfl)) (pgs_cons (pg_name (i := 1) sc_read_pick.nd rfl (Or.inl rfl)) pgs_nil))))
      (pss_cons (ps_asg (pe_cal C_read_part (hr.mono (by first | decide | omega)) (passes_call (takes_of rfl rfl rfl rfl) (fun _ _ _ _ h => h)) (pa_cons (pv 0) (pa_cons (pe_cal C_expected (hr.mono (by first | decide | omega)) (passes_call (takes_of rfl rfl rfl rfl) (fun _ _ _ _ h => h)) (pa_cons (pv 0) (pa_cons (pv 1) (pa_cons pe_str pa_nil)))) (pa_cons (pe_op op_add (pv 2) pe_int) pa_nil)))) (pg_tup rfl (pgs_cons (pg_name (i := 5) sc_read_pick.nd rfl (Or.inl rfl)) (pgs_cons (pg_name (i := 1) sc_read_pick.nd rfl (Or.inl rfl)) pgs_nil))))
      (pss_one (ps_ret (pe_tup (pa_cons (pe_tup (pa_cons pe_str (pa_cons (pv 3) (pa_cons (pv 4) (pa_cons (pv 5) pa_nil))))) (pa_cons (pe_cal C_expected (hr.mono (by first | decide | omega)) (passes_call (takes_of rfl rfl rfl rfl) (fun _ _ _ _ h => h)) (pa_cons (pv 0) (pa_cons (pv 1) (pa_cons pe_str pa_nil)))) pa_nil)))))))), ?_⟩
  have dd : ∀ i : Nat, L.drop (a + i) = (L.drop a).drop i := fun i => by rw [List.drop_drop]
  refine ⟨_, rfl, _, rfl, _, rfl, _, _, rfl, rfl, L, a, d + 1, rfl, by omega, ht, fun hg => qe (by unfold rPick; rw [hg]), fun r1 n1 hg1 H1 p1 v1 hs1 hp1 hr1 => ?_⟩
  refine ⟨p1, _, rfl, SqT.of hp1, rfl, v1, _, rfl, _, _, rfl, rfl, ?_⟩
  have b1 : (" ? " : Str) = SX.S [32, 63, 32] := by decide +kernel
  have b2 : (" : " : Str) = SX.S [32, 58, 32] := by decide +kernel
  have b3 : ("]" : Str) = SX.S [93] := by decide +kernel
  have t1 : L.drop (a + n1) = (L.drop a).drop n1 := dd n1
  have hq1 : rPick (rPart k) (L.drop a) = if ((L.drop a).drop n1).take 3 = [32, 63, 32] then
      match rPart k ((L.drop a).drop (n1 + 3)) with
      | none => none
      | some (b, m) => if ((L.drop a).drop (n1 + 3 + m)).take 3 = [32, 58, 32] then
          match rPart k ((L.drop a).drop (n1 + 3 + m + 3)) with
          | none => none
          | some (c, o) => if ((L.drop a).drop (n1 + 3 + m + 3 + o)).take 1 = [93] then some (.pick r1 b c, n1 + 3 + m + 3 + o + 1) else none
        else none
    else none := by
    unfold rPick
    rw [hg1]
    try rfl
  refine ⟨_, rfl, _, rfl, _, rfl, L, a + n1, [32, 63, 32], by rw [b1]; rfl, hL, by decide, fun hne => qe (by rw [hq1, if_neg]; rw [t1] at hne; exact hne) _ hs1, fun he1 => ?_⟩
  rw [t1] at he1
  have he1' : ((L.drop a).drop n1).take 3 = [32, 63, 32] := he1
  rw [if_pos he1'] at hq1
  have e3 : L.drop (a + n1 + 3) = (L.drop a).drop (n1 + 3) := by rw [Nat.add_assoc, dd]
  refine ⟨_, rfl, _, _, rfl, rfl, L, a + n1 + 3, d + 1, rfl, by omega, ht, fun hg H2 hs2 => ?_, fun r2 n2 hg2 H2 p2 v2 hs2 hp2 hr2 => ?_⟩
  · refine qe ?_ _ (hs1.trans hs2)
    rw [e3] at hg
    rw [hq1, hg]
  rw [e3] at hg2
  rw [hg2] at hq1
  dsimp only at hq1
  refine ⟨p2, _, rfl, SqT.of hp2, rfl, v2, _, rfl, _, _, rfl, rfl, ?_⟩
  have t2 : L.drop (a + n1 + 3 + n2) = (L.drop a).drop (n1 + 3 + n2) := by rw [← dd]; congr 1; omega
  refine ⟨_, rfl, _, rfl, _, rfl, L, a + n1 + 3 + n2, [32, 58, 32], by rw [b2]; rfl, hL, by decide, fun hne => qe (by rw [hq1, if_neg]; rw [t2] at hne; exact hne) _ (hs1.trans hs2), fun he2 => ?_⟩
  rw [t2] at he2
  have he2' : ((L.drop a).drop (n1 + 3 + n2)).take 3 = [32, 58, 32] := he2
  rw [if_pos he2'] at hq1
  have e4 : L.drop (a + n1 + 3 + n2 + 3) = (L.drop a).drop (n1 + 3 + n2 + 3) := by rw [← dd]; congr 1; omega
  refine ⟨_, rfl, _, _, rfl, rfl, L, a + n1 + 3 + n2 + 3, d + 1, rfl, by omega, ht, fun hg H3 hs3 => ?_, fun r3 n3 hg3 H3 p3 v3 hs3 hp3 hr3 => ?_⟩
  · refine qe ?_ _ ((hs1.trans hs2).trans hs3)
    rw [e4] at hg
    rw [hq1, hg]
  rw [e4] at hg3
  rw [hg3] at hq1
  dsimp only at hq1
  refine ⟨p3, _, rfl, SqT.of hp3, rfl, v3, _, rfl, _, _, rfl, rfl, ?_⟩
  have t3 : L.drop (a + n1 + 3 + n2 + 3 + n3) = (L.drop a).drop (n1 + 3 + n2 + 3 + n3) := by rw [← dd]; congr 1; omega
  refine ⟨_, rfl, _, rfl, _, rfl, le_line (Nat.le_of_ble_eq_true rfl), fun p4 np4 => ⟨_, rfl, _, rfl, L, a + n1 + 3 + n2 + 3 + n3, [93], by rw [b3]; rfl, hL, by decide, fun hne => ?_, fun he => ⟨le_line (Nat.le_of_ble_eq_true rfl), fun p5 np5 => ?_⟩⟩⟩
  · refine qe ?_ _ (((hs1.trans hs2).trans hs3).trans (same_new np4 _))
    rw [hq1, if_neg]
    rw [t3] at hne
    exact hne
  · rw [t3] at he
    have he' : ((L.drop a).drop (n1 + 3 + n2 + 3 + n3)).take 1 = [93] := he
    rw [if_pos he'] at hq1
    have s5 : Same H3 (upd (upd H3 p4 (.tup [.str "pick", v1, v2, v3])) p5 (.tup [.ref p4, .int ((a + n1 + 3 + n2 + 3 + n3 + 1 : Nat) : Int)])) := (same_new np4 _).trans (same_new np5 _)
    refine q (.pick r1 r2 r3) (n1 + 3 + n2 + 3 + n3 + 1) hq1 _ p5 (.ref p4) (((hs1.trans hs2).trans hs3).trans s5) ?_ ⟨p4, v1, v2, v3, rfl, ?_, ((hr1.same hs2).same hs3).same s5, (hr2.same hs3).same s5, hr3.same s5⟩
    · rw [show a + (n1 + 3 + n2 + 3 + n3 + 1) = a + n1 + 3 + n2 + 3 + n3 + 1 by omega]
      exact upd_same
    · rw [upd_ne (ne_of_none upd_same np5)]
      exact upd_same
end
theorem sn_in : (fun c => decide (c ∈ letters ++ [44])) = fun c => isLt c || decide (c = 44) := funext fun c => by
  have h : decide (c ∈ letters) = isLt c := congrFun lt_in c
  rw [← h]
  simp only [List.mem_append, List.mem_singleton]
  exact Bool.decide_or _ _
theorem take1 {l : List Nat} {c : Nat} (h : l.take 1 = [c]) : ∃ l', l = c :: l' := by
  cases l with
  | nil => cases h
  | cons x l' => exact ⟨l', by rw [show x = c from List.head_eq_of_cons_eq h]⟩
/-- all of it is a recipe -/
theorem are_nms {ps : List (List Nat)} (h : (Th.tup (nmsTh ps)).areNms = true) : Nms ps := by
  have e : (decide (1 ≤ (nmsTh ps).length) && decide ((nmsTh ps).length ≤ 9) && (nmsTh ps).all Th.isNm) = true := h
  rw [Bool.and_eq_true, Bool.and_eq_true, decide_eq_true_eq, decide_eq_true_eq, List.all_eq_true] at e
  have hl : (nmsTh ps).length = ps.length := List.length_map _
  rw [hl] at e
  refine ⟨e.1.1, e.1.2, fun s hs => ?_⟩
  have := e.2 (.str s) (List.mem_map.mpr ⟨s, hs, rfl⟩)
  exact nmOk_iff.mp this
theorem tame_drop {z : List Nat} (h : tameS z = true) (a : Nat) (p : Nat → Bool) : tameS ((z.drop a).takeWhile p) = true := by
  have := tame_cut h a ((z.drop a).takeWhile p).length
  rw [take_while] at this
  exact this
/-- what is parted is no longer than the whole, and of the same signs -/
theorem spl_tame : ∀ (z acc : List Nat) (k : Nat), (∀ c ∈ acc, c < 128) → (∀ c ∈ z, c < 128) → ∀ p ∈ TL.spl [44] k acc z, p.length ≤ acc.length + z.length ∧ ∀ c ∈ p, c < 128
  | [], acc, k, ha, hz, p, hp => by
    rw [TL.spl_nil] at hp
    rw [List.mem_singleton.mp hp]
    exact ⟨Nat.le_refl _, ha⟩
  | c :: z, acc, 0, ha, hz, p, hp => by
    have hz' : ∀ x ∈ z, x < 128 := fun x hx => hz x (List.mem_cons_of_mem _ hx)
    by_cases hpre : TL.pre [44] (c :: z) = true
    · rw [TL.spl_hit hpre] at hp
      rcases List.mem_cons.mp hp with e | hp
      · rw [e]; exact ⟨Nat.le_add_right _ _, ha⟩
      · have := spl_tame z [] _ (fun _ h => by cases h) hz' p hp
        refine ⟨?_, this.2⟩
        have h1 := this.1
        rw [List.length_cons]
        simp only [List.length_nil] at h1
        omega
    · rw [TL.spl_miss (Bool.eq_false_iff.mpr hpre)] at hp
      have := spl_tame z (acc ++ [c]) 0 (fun x hx => by
        rcases List.mem_append.mp hx with h | h
        · exact ha x h
        · rw [List.mem_singleton.mp h]; exact hz c (List.mem_cons_self ..)) hz' p hp
      refine ⟨?_, this.2⟩
      have h1 := this.1
      rw [List.length_append] at h1
      rw [List.length_cons]
      simp only [List.length_cons, List.length_nil] at h1
      omega
  | c :: z, acc, k + 1, ha, hz, p, hp => by
    have hz' : ∀ x ∈ z, x < 128 := fun x hx => hz x (List.mem_cons_of_mem _ hx)
    have := spl_tame z acc k ha hz' p hp
    refine ⟨?_, this.2⟩
    have h1 := this.1
    rw [List.length_cons]
    omega
theorem spl_len : ∀ (z acc : List Nat) (k : Nat), (TL.spl [44] k acc z).length ≤ z.length + 1
  | [], acc, k => by rw [TL.spl_nil]; exact Nat.le_refl _
  | c :: z, acc, 0 => by
    by_cases hpre : TL.pre [44] (c :: z) = true
    · rw [TL.spl_hit hpre]
      have := spl_len z [] ([44] : List Nat).length.pred
      show (TL.spl [44] _ [] z).length + 1 ≤ z.length + 1 + 1
      exact Nat.succ_le_succ (spl_len z [] _)
    · rw [TL.spl_miss (Bool.eq_false_iff.mpr hpre)]
      have := spl_len z (acc ++ [c]) 0
      rw [List.length_cons]
      omega
  | c :: z, acc, k + 1 => by
    have := spl_len z acc k
    show (TL.spl [44] k acc z).length ≤ z.length + 1 + 1
    omega
theorem split_is (z : List Nat) : Txt.split (SX.S z) "," = (TL.spl [44] 0 [] z).map SX.S := by
  have h := TL.split_spl (SX.S z) "," (by decide +kernel) (TL.kind_ok (by decide +kernel))
  have h2 := congrArg (List.map SX.S) h
  rw [List.map_map] at h2
  have e : (SX.S ∘ TL.tl) = (id : Str → Str) := by funext y; exact SX.S_tl y
  rw [e, List.map_id] at h2
  rw [h2]
  rfl
theorem low_py : ∀ {ns : List (List Nat)}, (∀ s ∈ ns, ∀ c ∈ s, c < 128) → PyData.canLayAll0 (Th.pyL (nmsTh ns)) = true ∧ PyData.depthAll (Th.pyL (nmsTh ns)) = 0
  | [], _ => ⟨rfl, rfl⟩
  | s :: ns, h => by
    have ih := low_py (ns := ns) fun x hx => h x (List.mem_cons_of_mem _ hx)
    refine ⟨?_, ?_⟩
    · show ((SX.S s).cps.all (· < 0x110000) && PyData.canLayAll0 (Th.pyL (nmsTh ns))) = true
      rw [ih.1, Bool.and_true]
      have hs := h s (List.mem_cons_self ..)
      rw [← Array.all_toList, List.all_eq_true]
      intro c hc
      have := hs c hc
      exact decide_eq_true (by omega)
    · show max 0 (PyData.depthAll (Th.pyL (nmsTh ns))) = 0
      rw [ih.2]
      rfl
theorem low_shaped {ns : List (List Nat)} (h : ∀ s ∈ ns, ∀ c ∈ s, c < 128) : SeqAt.shaped (.list (Th.pyL (nmsTh ns))) = true := by
  rw [shaped_parts, (low_py h).1, (low_py h).2]
  exact ⟨rfl, by decide⟩
theorem low_tameL : ∀ {ns : List (List Nat)}, (∀ s ∈ ns, tameS s = true) → Th.tameL (nmsTh ns) = true
  | [], _ => rfl
  | s :: ns, h => by
    show (tameS s && Th.tameL (nmsTh ns)) = true
    rw [h s (List.mem_cons_self ..), low_tameL fun x hx => h x (List.mem_cons_of_mem _ hx)]
    rfl
theorem low_tame {ns : List (List Nat)} (h : ∀ s ∈ ns, tameS s = true) (hl : ns.length ≤ 1000000) : (Th.tup (nmsTh ns)).tame = true := by
  refine tame_tup (low_tameL h) (by unfold nmsTh; rw [List.length_map]; exact hl) ?_
  match ns with
  | [] => rfl
  | [a] => rfl
  | [a, b] => rfl
  | [a, b, c] => rfl
  | a :: b :: c :: d :: r => rfl
theorem tame_of {z : List Nat} (h1 : z.length ≤ 1000000) (h2 : ∀ c ∈ z, c < 128) : tameS z = true := by
  unfold tameS
  rw [decide_eq_true h1, List.all_eq_true.mpr fun c hc => decide_eq_true (h2 c hc)]
  rfl
theorem tame_low {z : List Nat} (h : tameS z = true) : ∀ c ∈ z, c < 128 := by
  unfold tameS at h
  rw [Bool.and_eq_true, List.all_eq_true] at h
  exact fun c hc => of_decide_eq_true (h.2 c hc)
/-- the parts of a tame text, short of a million -/
theorem parts_tameS {z : List Nat} (h : tameS z = true) : (∀ s ∈ TL.spl [44] 0 [] z, ∀ c ∈ s, c < 128) ∧ ∀ s ∈ TL.spl [44] 0 [] z, tameS s = true := by
  have hp := spl_tame z [] 0 (fun _ h => by cases h) (tame_low h)
  refine ⟨fun s hs => (hp s hs).2, fun s hs => tame_of ?_ (hp s hs).2⟩
  have h1 := (hp s hs).1
  have h2 := tame_len h
  simp only [List.length_nil] at h1
  omega
section
variable {P : Program} {w : World} {K : PySem.W.Frag} {mg : Str → Option Value} {base : Heap}
abbrev s_read_part : Stmt := topS 27
abbrev N_read_part : List Str := ["text", "at", "depth", "sign", "found", "behind", "names"]
theorem sc_read_part : FnScope N_read_part ["text", "at", "depth"] (defScope s_read_part) := ⟨rfl, rfl, rfl, by decide +kernel, rfl, by decide +kernel, by decide +kernel⟩

theorem ok_read_part0 {C tw : Addr} {i j : Nat} (T : Txt K mg) (R : RTxt K mg tw) (XNoText : NoT K mg C) (D : IsDef K mg "read_part" s_read_part ["text", "at", "depth"])
    (C_behind_signs : Cal P w K mg base CX0 1 "behind_signs" ["text", "at", "signs"] spBehind) (C_are_names : Cal P w K mg base CX0 2 "are_names" ["thing"] spAreNames) (C_expected : Cal P w K mg base (L2.CX P w) 1 "expected" ["text", "at", "word"] (spExp C))
    (C_read_name : Cal P w K mg base (L2.CX P w) 2 "read_name" ["text", "at"] (spRd C rName)) (C_read_number : Cal P w K mg base (L2.CX P w) 2 "read_number" ["text", "at"] (spRd C rNum))
    (C_read_two : Cal P w K mg base (L2.CX P w) 1 "read_two" ["text", "at", "depth"] fun _ _ _ _ => False) (C_read_pick : Cal P w K mg base (L2.CX P w) 1 "read_pick" ["text", "at", "depth"] fun _ _ _ _ => False) :
    Cal P w K mg base (L2.CX P w) 3 "read_part" ["text", "at", "depth"] (spRdD C 0 (rPart 0)) := by
  refine D.calX sc_read_part (fun vs H Q E h => ?_) (fun f cdv A outer s H vs Q E hr h => ?_)
  · obtain ⟨L, a, d, rfl, _⟩ := h
    rfl
  obtain ⟨L, a, d, rfl, hdm, ht, qe, q⟩ := h
  obtain ⟨_, g_LETTERS⟩ := R.LETTERS
  obtain ⟨_, g_DEEPEST⟩ := R.DEEPEST
  refine ⟨_, (pss_cons (ps_if (pt_cmpR op_gt (pv 2) (pe_glob (v := .int _) rfl g_DEEPEST ⟨_, rfl⟩) (nomark _))
        (pss_one (ps_raise rfl (takes_of rfl rfl rfl rfl) (pmk_own PySem.F.excBase_ValueError XNoText.x XNoText.g XNoText.k (raises_own XNoText.b XNoText.t) rfl)))
        pss_nil)
      (pss_cons (ps_set (i := 3) sc_read_part.nd rfl (Or.inl rfl) (pe_slice sl_str (pv 0) (po_some (pv 1)) (po_some (pe_op op_add (pv 1) pe_int))))
      (pss_cons (ps_if (pt_cmpR op_eq (pv 3) pe_str (nomark _))
        (pss_one (ps_asg (pe_cal C_read_two (hr.mono (by first | decide | omega)) (passes_call (takes_of rfl rfl rfl rfl) (fun _ _ _ _ h => h)) (pa_cons (pv 0) (pa_cons (pe_op op_add (pv 1) pe_int) (pa_cons (pv 2) pa_nil)))) (pg_tup rfl (pgs_cons (pg_name (i := 4) sc_read_part.nd rfl (Or.inl rfl)) (pgs_cons (pg_name (i := 1) sc_read_part.nd rfl (Or.inl rfl)) pgs_nil)))))
        (pss_one (ps_if (pt_cmpR op_eq (pv 3) pe_str (nomark _))
        (pss_one (ps_asg (pe_cal C_read_pick (hr.mono (by first | decide | omega)) (passes_call (takes_of rfl rfl rfl rfl) (fun _ _ _ _ h => h)) (pa_cons (pv 0) (pa_cons (pe_op op_add (pv 1) pe_int) (pa_cons (pv 2) pa_nil)))) (pg_tup rfl (pgs_cons (pg_name (i := 4) sc_read_part.nd rfl (Or.inl rfl)) (pgs_cons (pg_name (i := 1) sc_read_part.nd rfl (Or.inl rfl)) pgs_nil)))))
        (pss_one (ps_if (PW.pt (pw_and (pt_cmpR op_ne (pv 3) pe_str (nomark _)) (pw_and1 (pt_cmpR op_in_sign (pv 3) (pe_glob (v := .str _) rfl g_LETTERS ⟨_, rfl⟩) rfl))))
        (pss_one (ps_asg (pe_cal C_read_name (hr.mono (by first | decide | omega)) (passes_call (takes_of rfl rfl rfl rfl) (fun _ _ _ _ h => h)) (pa_cons (pv 0) (pa_cons (pv 1) pa_nil))) (pg_tup rfl (pgs_cons (pg_name (i := 4) sc_read_part.nd rfl (Or.inl rfl)) (pgs_cons (pg_name (i := 1) sc_read_part.nd rfl (Or.inl rfl)) pgs_nil)))))
        (pss_one (ps_asg (pe_cal C_read_number (hr.mono (by first | decide | omega)) (passes_call (takes_of rfl rfl rfl rfl) (fun _ _ _ _ h => h)) (pa_cons (pv 0) (pa_cons (pv 1) pa_nil))) (pg_tup rfl (pgs_cons (pg_name (i := 4) sc_read_part.nd rfl (Or.inl rfl)) (pgs_cons (pg_name (i := 1) sc_read_part.nd rfl (Or.inl rfl)) pgs_nil))))))))))
      (pss_cons (ps_while (passes_of rfl) (pt_cmpR op_eq (pe_slice sl_str (pv 0) (po_some (pv 1)) (po_some (pe_op op_add (pv 1) pe_int))) pe_str (nomark _))
        (pss_cons (ps_set (i := 5) sc_read_part.nd rfl (Or.inl rfl) (pe_cal C_behind_signs (hr.mono (by first | decide | omega)) pass0 (pa_cons (pv 0) (pa_cons (pe_op op_add (pv 1) pe_int) (pa_cons (pe_op op_add_str (pe_glob (v := .str _) rfl g_LETTERS ⟨_, rfl⟩) pe_str) pa_nil)))))
      (pss_cons (ps_set (i := 6) sc_read_part.nd rfl (Or.inl rfl) (pe_callTy call_tuple_of (by rfl) T.b_tuple (by decide +kernel) (pa_cons (pe_split (pe_slice sl_str (pv 0) (po_some (pe_op op_add (pv 1) pe_int)) (po_some (pv 5))) pe_str) pa_nil)))
      (pss_cons (ps_if (pt_not (pt_val (pe_cal C_are_names (hr.mono (by first | decide | omega)) pass0 (pa_cons (pv 6) pa_nil))))
        (pss_one (ps_raise rfl (takes_of rfl rfl rfl rfl) (pmk_own PySem.F.excBase_ValueError XNoText.x XNoText.g XNoText.k (raises_own XNoText.b XNoText.t) rfl)))
        pss_nil)
      (pss_cons (ps_set (i := 4) sc_read_part.nd rfl (Or.inl rfl) (pe_tup (pa_cons pe_str (pa_cons (pv 4) (pa_cons (pv 6) pa_nil)))))
      (pss_one (ps_set (i := 1) sc_read_part.nd rfl (Or.inl rfl) (pe_cal C_expected (hr.mono (by first | decide | omega)) (passes_call (takes_of rfl rfl rfl rfl) (fun _ _ _ _ h => h)) (pa_cons (pv 0) (pa_cons (pv 5) (pa_cons pe_str pa_nil)))))))))))
      (pss_one (ps_ret (pe_tup (pa_cons (pv 4) (pa_cons (pv 1) pa_nil))))))))), ?_⟩
  refine ⟨_, rfl, _, _, rfl, rfl, _, rfl, iteY (by omega) ?_⟩
  exact qe rfl _ (Same.refl H)
theorem ok_read_part {C tw : Addr} {k j : Nat} (T : Txt K mg) (R : RTxt K mg tw) (XNoText : NoT K mg C) (D : IsDef K mg "read_part" s_read_part ["text", "at", "depth"])
    (C_behind_signs : Cal P w K mg base CX0 1 "behind_signs" ["text", "at", "signs"] spBehind) (C_are_names : Cal P w K mg base CX0 2 "are_names" ["thing"] spAreNames) (C_expected : Cal P w K mg base (L2.CX P w) 1 "expected" ["text", "at", "word"] (spExp C))
    (C_read_name : Cal P w K mg base (L2.CX P w) 2 "read_name" ["text", "at"] (spRd C rName)) (C_read_number : Cal P w K mg base (L2.CX P w) 2 "read_number" ["text", "at"] (spRd C rNum)) (hj : 2 ≤ j)
    (C_read_two : Cal P w K mg base (L2.CX P w) j "read_two" ["text", "at", "depth"] (spRdD C (k + 1) (rTwo (rPart k)))) (C_read_pick : Cal P w K mg base (L2.CX P w) j "read_pick" ["text", "at", "depth"] (spRdD C (k + 1) (rPick (rPart k)))) :
    Cal P w K mg base (L2.CX P w) (j + 1) "read_part" ["text", "at", "depth"] (spRdD C (k + 1) (rPart (k + 1))) := by
  refine D.calX sc_read_part (fun vs H Q E h => ?_) (fun f cdv A outer s H vs Q E hr h => ?_)
  · obtain ⟨L, a, d, rfl, _⟩ := h
    rfl
  obtain ⟨L, a, d, rfl, hdm, ht, qe, q⟩ := h
  obtain ⟨_, g_LETTERS⟩ := R.LETTERS
  obtain ⟨_, g_DEEPEST⟩ := R.DEEPEST
  have hL := tame_len ht
  have hl : (SX.S L).length ≤ sizeLine := by rw [SX.S_len]; exact le_line (by omega)
  have hbr : ("{" : Str) = SX.S [123] := by decide +kernel
  have hb1 : ("(" : Str) = SX.S [40] := by decide +kernel
  have hb2 : ("[" : Str) = SX.S [91] := by decide +kernel
  have hb3 : ("" : Str) = SX.S [] := by decide +kernel
  have hc1 : cutS (SX.S L) (some (a : Int)) (some ((a : Int) + 1)) = SX.S ((L.drop a).take 1) := cutS_add L a 1
  have d1 : L.drop (a + 1) = (L.drop a).drop 1 := by rw [List.drop_drop]
  have hP : ∀ x, rBase (rPart k) (L.drop a) = x → rPart (k + 1) (L.drop a) = (match x with | none => none | some (r, n) => rTail (L.drop a).length (L.drop a) r n) := fun x h => by rw [← h]; rfl
  refine ⟨_, (pss_cons (ps_if (pt_cmpR op_gt (pv 2) (pe_glob (v := .int _) rfl g_DEEPEST ⟨_, rfl⟩) (nomark _))
        (pss_one (ps_raise rfl (takes_of rfl rfl rfl rfl) (pmk_own PySem.F.excBase_ValueError XNoText.x XNoText.g XNoText.k (raises_own XNoText.b XNoText.t) rfl)))
        pss_nil)
      (pss_cons (ps_set (i := 3) sc_read_part.nd rfl (Or.inl rfl) (pe_slice sl_str (pv 0) (po_some (pv 1)) (po_some (pe_op op_add (pv 1) pe_int))))
      (pss_cons (ps_if (pt_cmpR op_eq (pv 3) pe_str (nomark _))
        (pss_one (ps_asg (pe_cal C_read_two (hr.mono (by first | decide | omega)) (passes_call (takes_of rfl rfl rfl rfl) (fun _ _ _ _ h => h)) (pa_cons (pv 0) (pa_cons (pe_op op_add (pv 1) pe_int) (pa_cons (pv 2) pa_nil)))) (pg_tup rfl (pgs_cons (pg_name (i := 4) sc_read_part.nd rfl (Or.inl rfl)) (pgs_cons (pg_name (i := 1) sc_read_part.nd rfl (Or.inl rfl)) pgs_nil)))))
        (pss_one (ps_if (pt_cmpR op_eq (pv 3) pe_str (nomark _))
        (pss_one (ps_asg (pe_cal C_read_pick (hr.mono (by first | decide | omega)) (passes_call (takes_of rfl rfl rfl rfl) (fun _ _ _ _ h => h)) (pa_cons (pv 0) (pa_cons (pe_op op_add (pv 1) pe_int) (pa_cons (pv 2) pa_nil)))) (pg_tup rfl (pgs_cons (pg_name (i := 4) sc_read_part.nd rfl (Or.inl rfl)) (pgs_cons (pg_name (i := 1) sc_read_part.nd rfl (Or.inl rfl)) pgs_nil)))))
        (pss_one (ps_if (PW.pt (pw_and (pt_cmpR op_ne (pv 3) pe_str (nomark _)) (pw_and1 (pt_cmpR op_in_sign (pv 3) (pe_glob (v := .str _) rfl g_LETTERS ⟨_, rfl⟩) rfl))))
        (pss_one (ps_asg (pe_cal C_read_name (hr.mono (by first | decide | omega)) (passes_call (takes_of rfl rfl rfl rfl) (fun _ _ _ _ h => h)) (pa_cons (pv 0) (pa_cons (pv 1) pa_nil))) (pg_tup rfl (pgs_cons (pg_name (i := 4) sc_read_part.nd rfl (Or.inl rfl)) (pgs_cons (pg_name (i := 1) sc_read_part.nd rfl (Or.inl rfl)) pgs_nil)))))
        (pss_one (ps_asg (pe_cal C_read_number (hr.mono (by first | decide | omega)) (passes_call (takes_of rfl rfl rfl rfl) (fun _ _ _ _ h => h)) (pa_cons (pv 0) (pa_cons (pv 1) pa_nil))) (pg_tup rfl (pgs_cons (pg_name (i := 4) sc_read_part.nd rfl (Or.inl rfl)) (pgs_cons (pg_name (i := 1) sc_read_part.nd rfl (Or.inl rfl)) pgs_nil))))))))))
      (pss_cons (ps_while (passes_of rfl) (pt_cmpR op_eq (pe_slice sl_str (pv 0) (po_some (pv 1)) (po_some (pe_op op_add (pv 1) pe_int))) pe_str (nomark _))
        (pss_cons (ps_set (i := 5) sc_read_part.nd rfl (Or.inl rfl) (pe_cal C_behind_signs (hr.mono (by first | decide | omega)) pass0 (pa_cons (pv 0) (pa_cons (pe_op op_add (pv 1) pe_int) (pa_cons (pe_op op_add_str (pe_glob (v := .str _) rfl g_LETTERS ⟨_, rfl⟩) pe_str) pa_nil)))))
      (pss_cons (ps_set (i := 6) sc_read_part.nd rfl (Or.inl rfl) (pe_callTy call_tuple_of (by rfl) T.b_tuple (by decide +kernel) (pa_cons (pe_split (pe_slice sl_str (pv 0) (po_some (pe_op op_add (pv 1) pe_int)) (po_some (pv 5))) pe_str) pa_nil)))
      (pss_cons (ps_if (pt_not (pt_val (pe_cal C_are_names (hr.mono (by first | decide | omega)) pass0 (pa_cons (pv 6) pa_nil))))
        (pss_one (ps_raise rfl (takes_of rfl rfl rfl rfl) (pmk_own PySem.F.excBase_ValueError XNoText.x XNoText.g XNoText.k (raises_own XNoText.b XNoText.t) rfl)))
        pss_nil)
      (pss_cons (ps_set (i := 4) sc_read_part.nd rfl (Or.inl rfl) (pe_tup (pa_cons pe_str (pa_cons (pv 4) (pa_cons (pv 6) pa_nil)))))
      (pss_one (ps_set (i := 1) sc_read_part.nd rfl (Or.inl rfl) (pe_cal C_expected (hr.mono (by first | decide | omega)) (passes_call (takes_of rfl rfl rfl rfl) (fun _ _ _ _ h => h)) (pa_cons (pv 0) (pa_cons (pv 5) (pa_cons pe_str pa_nil)))))))))))
      (pss_one (ps_ret (pe_tup (pa_cons (pv 4) (pa_cons (pv 1) pa_nil))))))))), ?_⟩
  refine ⟨_, rfl, _, _, rfl, rfl, _, rfl, iteN (by omega) ?_⟩
  refine ⟨_, rfl, _, rfl, _, rfl, _, rfl, _, _, rfl, rfl, _, rfl, _, rfl, hl, ?_⟩
  rw [hc1]
  refine ⟨_, rfl, rfl, _, rfl, ?_⟩
  rw [hb1]
  by_cases k1 : (L.drop a).take 1 = [40]
  · refine iteY (SS_eq.mpr k1) ?_
    have hB : ∀ x, rTwo (rPart k) (L.drop (a + 1)) = x → rBase (rPart k) (L.drop a) = more 1 x := fun x h => by unfold rBase; rw [if_pos k1, ← d1, h]
    refine ⟨_, rfl, _, rfl, _, _, rfl, rfl, _, rfl, L, a + 1, d, rfl, hdm, ht, fun hg => qe (hP _ (hB _ hg)), fun r1 n1 hg1 H1 p1 v1 hs1 hp1 hr1 => ?_⟩
    refine ⟨p1, _, rfl, SqT.of hp1, rfl, v1, _, rfl, _, _, rfl, rfl, ?_⟩
    refine ⟨fun u σ H' => ∃ (f : Nat) (r : Rcp) (m : Nat) (v : V) (b : Nat) (o5 o6 : Option V), σ = [some (.str (SX.S L)), some (.int (b : Int)), some (.int (d : Int)), some (.str (SX.S ((L.drop a).take 1))), some v, o5, o6] ∧ b = a + m ∧ Same H H' ∧ Rec H' r v ∧
      rPart (k + 1) (L.drop a) = rTail f (L.drop a) r m ∧ (L.drop a).length ≤ f + m ∧ u = f, ?_, ?_⟩
    · exact ⟨_, (L.drop a).length, r1, 1 + n1, v1, _, none, none, rfl, by omega, hs1, hr1, hP _ (hB _ hg1), Nat.le_add_right _ _, rfl⟩
    rintro u σ H2 ⟨f, r, m, v, b, o5, o6, rfl, hb, hs2, hr2, heq, hfm, hu⟩
    subst u
    have hc : cutS (SX.S L) (some (b : Int)) (some ((b : Int) + 1)) = SX.S ((L.drop b).take 1) := cutS_add L b 1
    have hdb : L.drop b = (L.drop a).drop m := by rw [List.drop_drop, hb]
    have hdb1 : L.drop (b + 1) = (L.drop a).drop (m + 1) := by rw [List.drop_drop, hb]; congr 1
    refine ⟨_, rfl, _, rfl, _, rfl, _, rfl, _, _, rfl, rfl, _, rfl, _, rfl, hl, rfl, _, rfl, ?_⟩
    rw [hc, hbr]
    by_cases hbrace : (L.drop b).take 1 = [123]
    · refine iteY (SS_eq.mpr hbrace) ?_
      cases f with
      | zero =>
        rw [hdb, List.drop_eq_nil_of_le (by omega)] at hbrace
        cases hbrace
      | succ f =>
        have hT : rTail (f + 1) (L.drop a) r m = if (Th.tup (nmsTh (TL.spl [44] 0 [] (nmSigns (L.drop (b + 1)))))).areNms = true then
            if (L.drop (b + 1 + (nmSigns (L.drop (b + 1))).length)).take 1 = [125] then rTail f (L.drop a) (.choose r (TL.spl [44] 0 [] (nmSigns (L.drop (b + 1))))) (m + 1 + (nmSigns (L.drop (b + 1))).length + 1) else none else none := by
          have e1 : L.drop (b + 1 + (nmSigns (L.drop (b + 1))).length) = (L.drop a).drop (m + 1 + (nmSigns (L.drop (b + 1))).length) := by rw [List.drop_drop, hb]; congr 1; omega
          rw [e1, hdb1]
          show (if ((L.drop a).drop m).take 1 = [123] then _ else _) = _
          rw [if_pos (by rw [← hdb]; exact hbrace)]
        have htz : tameS (nmSigns (L.drop (b + 1))) = true := tame_drop ht (b + 1) _
        have hzl := tame_len htz
        obtain ⟨hp1, hp2⟩ := parts_tameS htz
        have hbl : b < L.length := Decidable.byContradiction fun z => by
          rw [List.drop_eq_nil_of_le (by omega)] at hbrace
          cases hbrace
        have hzs : (nmSigns (L.drop (b + 1))).length + 1 ≤ L.length := by
          have h1 := congrArg List.length (take_while (fun c => isLt c || decide (c = 44)) (L.drop (b + 1)))
          rw [List.length_take, List.length_drop] at h1
          show ((L.drop (b + 1)).takeWhile _).length + 1 ≤ _
          omega
        have hpl := spl_len (nmSigns (L.drop (b + 1))) [] 0
        have hcut : cutS (SX.S L) (some ((b : Int) + 1)) (some ((b + 1 + (nmSigns (L.drop (b + 1))).length : Nat) : Int)) = SX.S (nmSigns (L.drop (b + 1))) := by
          have := cutS_nat L (b + 1) (nmSigns (L.drop (b + 1))).length
          rw [show (nmSigns (L.drop (b + 1))) = (L.drop (b + 1)).takeWhile (fun c => isLt c || decide (c = 44)) from rfl] at this ⊢
          rw [take_while] at this
          exact this
        refine ⟨fun σ' H' => ∃ (f' : Nat) (r : Rcp) (m : Nat) (v : V) (b : Nat) (o5 o6 : Option V), σ' = [some (.str (SX.S L)), some (.int (b : Int)), some (.int (d : Int)), some (.str (SX.S ((L.drop a).take 1))), some v, o5, o6] ∧ b = a + m ∧ Same H H' ∧ Rec H' r v ∧
          rPart (k + 1) (L.drop a) = rTail f' (L.drop a) r m ∧ (L.drop a).length ≤ f' + m ∧ f' = f, ?_, ?_⟩
        · rintro σ' H' ⟨f', r, m, v, b, o5, o6, e1, e2, e3, e4, e5, e6, e7⟩
          exact ⟨f', by omega, f', r, m, v, b, o5, o6, e1, e2, e3, e4, e5, e6, rfl⟩
        have hcm : ("," : Str) = SX.S [44] := by decide +kernel
        refine ⟨_, rfl, _, rfl, _, _, rfl, rfl, _, _, rfl, rfl, le_line (Nat.le_of_ble_eq_true (by decide +kernel)), L, b + 1, letters ++ [44], by rw [hcm, letters_is, SX.S_cat]; rfl, hL, ?_⟩
        have e9 : ((L.drop (b + 1)).takeWhile fun c => decide (c ∈ letters ++ [44])) = nmSigns (L.drop (b + 1)) := by rw [sn_in]; rfl
        rw [e9]
        refine ⟨_, rfl, _, rfl, _, _, rfl, rfl, _, rfl, _, rfl, _, rfl, _, rfl, hl, ⟨_, rfl⟩, _, _, congrArg V.str hcut, rfl, by decide +kernel, by rw [SX.S_len]; exact le_line (by omega), fun p5 n5 => ?_⟩
        rw [split_is]
        refine ⟨p5, _, rfl, .inl ⟨SqL.of upd_same, fun p6 n6 => ?_⟩⟩
        have s6 := (same_new n5 (.lst (txs (TL.spl [44] 0 [] (nmSigns (L.drop (b + 1))))))).trans (same_new n6 (.tup (txs (TL.spl [44] 0 [] (nmSigns (L.drop (b + 1)))))))
        refine ⟨_, rfl, _, .tup (nmsTh (TL.spl [44] 0 [] (nmSigns (L.drop (b + 1))))), rfl, ⟨p6, _, rfl, upd_same, nms_data _ _⟩, low_tame hp2 (by omega), fun m e => by cases e; exact ⟨Nms.flat, low_shaped hp1⟩, fun H7 hs7 => ⟨_, rfl, ?_⟩⟩
        have hp6 := hs7 _ _ (upd_same (H := upd H2 p5 (.lst (txs (TL.spl [44] 0 [] (nmSigns (L.drop (b + 1))))))) (a := p6) (o := HO.tup (txs (TL.spl [44] 0 [] (nmSigns (L.drop (b + 1)))))))
        have hs27 := s6.trans hs7
        cases har : (Th.tup (nmsTh (TL.spl [44] 0 [] (nmSigns (L.drop (b + 1)))))).areNms with
        | false =>
          refine iteT ?_
          exact qe (by rw [heq, hT, if_neg (by rw [har]; exact Bool.false_ne_true)]) _ (hs2.trans hs27)
        | true =>
          rw [if_pos har] at hT
          refine iteF ?_
          refine ⟨_, rfl, _, rfl, le_line (Nat.le_of_ble_eq_true rfl), fun p8 n8 => ?_⟩
          have hcb : ("}" : Str) = SX.S [125] := by decide +kernel
          refine ⟨_, rfl, _, rfl, L, b + 1 + (nmSigns (L.drop (b + 1))).length, [125], by rw [hcb]; rfl, hL, by decide, fun hne0 => ?_, fun he0 => ?_⟩
          · have hne : ¬ (L.drop (b + 1 + (nmSigns (L.drop (b + 1))).length)).take 1 = [125] := hne0
            exact qe (by rw [heq, hT, if_neg hne]) _ ((hs2.trans hs27).trans (same_new n8 _))
          · have he : (L.drop (b + 1 + (nmSigns (L.drop (b + 1))).length)).take 1 = [125] := he0
            refine ⟨f, .choose r (TL.spl [44] 0 [] (nmSigns (L.drop (b + 1)))), m + 1 + (nmSigns (L.drop (b + 1))).length + 1, .ref p8, _, _, _, rfl, by show _ + 1 = _; omega, (hs2.trans hs27).trans (same_new n8 _), ⟨p8, v, p6, rfl, upd_same, (hr2.same hs27).same (same_new n8 _), ?_⟩, by rw [heq, hT, if_pos he], by omega, rfl⟩
            exact same_new n8 _ _ _ hp6
    · refine iteN (fun z => hbrace (SS_eq.mp z)) ?_
      have hres : rPart (k + 1) (L.drop a) = some (r, m) := by
        rw [heq]
        cases f with
        | zero => rfl
        | succ f =>
          show (if ((L.drop a).drop m).take 1 = [123] then _ else _) = _
          rw [if_neg (by rw [← hdb]; exact hbrace)]
      refine ⟨_, rfl, _, rfl, le_line (Nat.le_of_ble_eq_true rfl), fun p9 n9 => ?_⟩
      refine q r m hres _ p9 v (hs2.trans (same_new n9 _)) ?_ (hr2.same (same_new n9 _))
      rw [← hb]
      exact upd_same
  refine iteN (fun z => k1 (SS_eq.mp z)) ?_
  refine ⟨_, rfl, rfl, _, rfl, ?_⟩
  rw [hb2]
  by_cases k2 : (L.drop a).take 1 = [91]
  · refine iteY (SS_eq.mpr k2) ?_
    have hB : ∀ x, rPick (rPart k) (L.drop (a + 1)) = x → rBase (rPart k) (L.drop a) = more 1 x := fun x h => by unfold rBase; rw [if_neg k1, if_pos k2, ← d1, h]
    refine ⟨_, rfl, _, rfl, _, _, rfl, rfl, _, rfl, L, a + 1, d, rfl, hdm, ht, fun hg => qe (hP _ (hB _ hg)), fun r1 n1 hg1 H1 p1 v1 hs1 hp1 hr1 => ?_⟩
    refine ⟨p1, _, rfl, SqT.of hp1, rfl, v1, _, rfl, _, _, rfl, rfl, ?_⟩
    refine ⟨fun u σ H' => ∃ (f : Nat) (r : Rcp) (m : Nat) (v : V) (b : Nat) (o5 o6 : Option V), σ = [some (.str (SX.S L)), some (.int (b : Int)), some (.int (d : Int)), some (.str (SX.S ((L.drop a).take 1))), some v, o5, o6] ∧ b = a + m ∧ Same H H' ∧ Rec H' r v ∧
      rPart (k + 1) (L.drop a) = rTail f (L.drop a) r m ∧ (L.drop a).length ≤ f + m ∧ u = f, ?_, ?_⟩
    · exact ⟨_, (L.drop a).length, r1, 1 + n1, v1, _, none, none, rfl, by omega, hs1, hr1, hP _ (hB _ hg1), Nat.le_add_right _ _, rfl⟩
    rintro u σ H2 ⟨f, r, m, v, b, o5, o6, rfl, hb, hs2, hr2, heq, hfm, hu⟩
    subst u
    have hc : cutS (SX.S L) (some (b : Int)) (some ((b : Int) + 1)) = SX.S ((L.drop b).take 1) := cutS_add L b 1
    have hdb : L.drop b = (L.drop a).drop m := by rw [List.drop_drop, hb]
    have hdb1 : L.drop (b + 1) = (L.drop a).drop (m + 1) := by rw [List.drop_drop, hb]; congr 1
    refine ⟨_, rfl, _, rfl, _, rfl, _, rfl, _, _, rfl, rfl, _, rfl, _, rfl, hl, rfl, _, rfl, ?_⟩
    rw [hc, hbr]
    by_cases hbrace : (L.drop b).take 1 = [123]
    · refine iteY (SS_eq.mpr hbrace) ?_
      cases f with
      | zero =>
        rw [hdb, List.drop_eq_nil_of_le (by omega)] at hbrace
        cases hbrace
      | succ f =>
        have hT : rTail (f + 1) (L.drop a) r m = if (Th.tup (nmsTh (TL.spl [44] 0 [] (nmSigns (L.drop (b + 1)))))).areNms = true then
            if (L.drop (b + 1 + (nmSigns (L.drop (b + 1))).length)).take 1 = [125] then rTail f (L.drop a) (.choose r (TL.spl [44] 0 [] (nmSigns (L.drop (b + 1))))) (m + 1 + (nmSigns (L.drop (b + 1))).length + 1) else none else none := by
          have e1 : L.drop (b + 1 + (nmSigns (L.drop (b + 1))).length) = (L.drop a).drop (m + 1 + (nmSigns (L.drop (b + 1))).length) := by rw [List.drop_drop, hb]; congr 1; omega
          rw [e1, hdb1]
          show (if ((L.drop a).drop m).take 1 = [123] then _ else _) = _
          rw [if_pos (by rw [← hdb]; exact hbrace)]
        have htz : tameS (nmSigns (L.drop (b + 1))) = true := tame_drop ht (b + 1) _
        have hzl := tame_len htz
        obtain ⟨hp1, hp2⟩ := parts_tameS htz
        have hbl : b < L.length := Decidable.byContradiction fun z => by
          rw [List.drop_eq_nil_of_le (by omega)] at hbrace
          cases hbrace
        have hzs : (nmSigns (L.drop (b + 1))).length + 1 ≤ L.length := by
          have h1 := congrArg List.length (take_while (fun c => isLt c || decide (c = 44)) (L.drop (b + 1)))
          rw [List.length_take, List.length_drop] at h1
          show ((L.drop (b + 1)).takeWhile _).length + 1 ≤ _
          omega
        have hpl := spl_len (nmSigns (L.drop (b + 1))) [] 0
        have hcut : cutS (SX.S L) (some ((b : Int) + 1)) (some ((b + 1 + (nmSigns (L.drop (b + 1))).length : Nat) : Int)) = SX.S (nmSigns (L.drop (b + 1))) := by
          have := cutS_nat L (b + 1) (nmSigns (L.drop (b + 1))).length
          rw [show (nmSigns (L.drop (b + 1))) = (L.drop (b + 1)).takeWhile (fun c => isLt c || decide (c = 44)) from rfl] at this ⊢
          rw [take_while] at this
          exact this
        refine ⟨fun σ' H' => ∃ (f' : Nat) (r : Rcp) (m : Nat) (v : V) (b : Nat) (o5 o6 : Option V), σ' = [some (.str (SX.S L)), some (.int (b : Int)), some (.int (d : Int)), some (.str (SX.S ((L.drop a).take 1))), some v, o5, o6] ∧ b = a + m ∧ Same H H' ∧ Rec H' r v ∧
          rPart (k + 1) (L.drop a) = rTail f' (L.drop a) r m ∧ (L.drop a).length ≤ f' + m ∧ f' = f, ?_, ?_⟩
        · rintro σ' H' ⟨f', r, m, v, b, o5, o6, e1, e2, e3, e4, e5, e6, e7⟩
          exact ⟨f', by omega, f', r, m, v, b, o5, o6, e1, e2, e3, e4, e5, e6, rfl⟩
        have hcm : ("," : Str) = SX.S [44] := by decide +kernel
        refine ⟨_, rfl, _, rfl, _, _, rfl, rfl, _, _, rfl, rfl, le_line (Nat.le_of_ble_eq_true (by decide +kernel)), L, b + 1, letters ++ [44], by rw [hcm, letters_is, SX.S_cat]; rfl, hL, ?_⟩
        have e9 : ((L.drop (b + 1)).takeWhile fun c => decide (c ∈ letters ++ [44])) = nmSigns (L.drop (b + 1)) := by rw [sn_in]; rfl
        rw [e9]
        refine ⟨_, rfl, _, rfl, _, _, rfl, rfl, _, rfl, _, rfl, _, rfl, _, rfl, hl, ⟨_, rfl⟩, _, _, congrArg V.str hcut, rfl, by decide +kernel, by rw [SX.S_len]; exact le_line (by omega), fun p5 n5 => ?_⟩
        rw [split_is]
        refine ⟨p5, _, rfl, .inl ⟨SqL.of upd_same, fun p6 n6 => ?_⟩⟩
        have s6 := (same_new n5 (.lst (txs (TL.spl [44] 0 [] (nmSigns (L.drop (b + 1))))))).trans (same_new n6 (.tup (txs (TL.spl [44] 0 [] (nmSigns (L.drop (b + 1)))))))
        refine ⟨_, rfl, _, .tup (nmsTh (TL.spl [44] 0 [] (nmSigns (L.drop (b + 1))))), rfl, ⟨p6, _, rfl, upd_same, nms_data _ _⟩, low_tame hp2 (by omega), fun m e => by cases e; exact ⟨Nms.flat, low_shaped hp1⟩, fun H7 hs7 => ⟨_, rfl, ?_⟩⟩
        have hp6 := hs7 _ _ (upd_same (H := upd H2 p5 (.lst (txs (TL.spl [44] 0 [] (nmSigns (L.drop (b + 1))))))) (a := p6) (o := HO.tup (txs (TL.spl [44] 0 [] (nmSigns (L.drop (b + 1)))))))
        have hs27 := s6.trans hs7
        cases har : (Th.tup (nmsTh (TL.spl [44] 0 [] (nmSigns (L.drop (b + 1)))))).areNms with
        | false =>
          refine iteT ?_
          exact qe (by rw [heq, hT, if_neg (by rw [har]; exact Bool.false_ne_true)]) _ (hs2.trans hs27)
        | true =>
          rw [if_pos har] at hT
          refine iteF ?_
          refine ⟨_, rfl, _, rfl, le_line (Nat.le_of_ble_eq_true rfl), fun p8 n8 => ?_⟩
          have hcb : ("}" : Str) = SX.S [125] := by decide +kernel
          refine ⟨_, rfl, _, rfl, L, b + 1 + (nmSigns (L.drop (b + 1))).length, [125], by rw [hcb]; rfl, hL, by decide, fun hne0 => ?_, fun he0 => ?_⟩
          · have hne : ¬ (L.drop (b + 1 + (nmSigns (L.drop (b + 1))).length)).take 1 = [125] := hne0
            exact qe (by rw [heq, hT, if_neg hne]) _ ((hs2.trans hs27).trans (same_new n8 _))
          · have he : (L.drop (b + 1 + (nmSigns (L.drop (b + 1))).length)).take 1 = [125] := he0
            refine ⟨f, .choose r (TL.spl [44] 0 [] (nmSigns (L.drop (b + 1)))), m + 1 + (nmSigns (L.drop (b + 1))).length + 1, .ref p8, _, _, _, rfl, by show _ + 1 = _; omega, (hs2.trans hs27).trans (same_new n8 _), ⟨p8, v, p6, rfl, upd_same, (hr2.same hs27).same (same_new n8 _), ?_⟩, by rw [heq, hT, if_pos he], by omega, rfl⟩
            exact same_new n8 _ _ _ hp6
    · refine iteN (fun z => hbrace (SS_eq.mp z)) ?_
      have hres : rPart (k + 1) (L.drop a) = some (r, m) := by
        rw [heq]
        cases f with
        | zero => rfl
        | succ f =>
          show (if ((L.drop a).drop m).take 1 = [123] then _ else _) = _
          rw [if_neg (by rw [← hdb]; exact hbrace)]
      refine ⟨_, rfl, _, rfl, le_line (Nat.le_of_ble_eq_true rfl), fun p9 n9 => ?_⟩
      refine q r m hres _ p9 v (hs2.trans (same_new n9 _)) ?_ (hr2.same (same_new n9 _))
      rw [← hb]
      exact upd_same
  refine iteN (fun z => k2 (SS_eq.mp z)) ?_
  refine ⟨_, rfl, rfl, _, rfl, ?_⟩
  rw [hb3]
  by_cases k3 : (L.drop a).take 1 = []
  · refine not_true_eq (decide_eq_true (SS_eq.mpr k3)) ?_
    refine iteF ?_
    have hno : ¬ ((L.drop a).take 1).any isLt = true := by rw [k3]; exact Bool.false_ne_true
    have hB : ∀ x, rNum (L.drop a) = x → rBase (rPart k) (L.drop a) = x := fun x h => by unfold rBase; rw [if_neg k1, if_neg k2, if_neg hno, h]
    refine ⟨_, rfl, _, rfl, L, a, rfl, ht, fun hg => qe (hP _ (hB _ hg)), fun r1 n1 hg1 H1 p1 v1 hs1 hp1 hr1 => ?_⟩
    refine ⟨p1, _, rfl, SqT.of hp1, rfl, v1, _, rfl, _, _, rfl, rfl, ?_⟩
    refine ⟨fun u σ H' => ∃ (f : Nat) (r : Rcp) (m : Nat) (v : V) (b : Nat) (o5 o6 : Option V), σ = [some (.str (SX.S L)), some (.int (b : Int)), some (.int (d : Int)), some (.str (SX.S ((L.drop a).take 1))), some v, o5, o6] ∧ b = a + m ∧ Same H H' ∧ Rec H' r v ∧
      rPart (k + 1) (L.drop a) = rTail f (L.drop a) r m ∧ (L.drop a).length ≤ f + m ∧ u = f, ?_, ?_⟩
    · exact ⟨_, (L.drop a).length, r1, n1, v1, _, none, none, rfl, by omega, hs1, hr1, hP _ (hB _ hg1), Nat.le_add_right _ _, rfl⟩
    rintro u σ H2 ⟨f, r, m, v, b, o5, o6, rfl, hb, hs2, hr2, heq, hfm, hu⟩
    subst u
    have hc : cutS (SX.S L) (some (b : Int)) (some ((b : Int) + 1)) = SX.S ((L.drop b).take 1) := cutS_add L b 1
    have hdb : L.drop b = (L.drop a).drop m := by rw [List.drop_drop, hb]
    have hdb1 : L.drop (b + 1) = (L.drop a).drop (m + 1) := by rw [List.drop_drop, hb]; congr 1
    refine ⟨_, rfl, _, rfl, _, rfl, _, rfl, _, _, rfl, rfl, _, rfl, _, rfl, hl, rfl, _, rfl, ?_⟩
    rw [hc, hbr]
    by_cases hbrace : (L.drop b).take 1 = [123]
    · refine iteY (SS_eq.mpr hbrace) ?_
      cases f with
      | zero =>
        rw [hdb, List.drop_eq_nil_of_le (by omega)] at hbrace
        cases hbrace
      | succ f =>
        have hT : rTail (f + 1) (L.drop a) r m = if (Th.tup (nmsTh (TL.spl [44] 0 [] (nmSigns (L.drop (b + 1)))))).areNms = true then
            if (L.drop (b + 1 + (nmSigns (L.drop (b + 1))).length)).take 1 = [125] then rTail f (L.drop a) (.choose r (TL.spl [44] 0 [] (nmSigns (L.drop (b + 1))))) (m + 1 + (nmSigns (L.drop (b + 1))).length + 1) else none else none := by
          have e1 : L.drop (b + 1 + (nmSigns (L.drop (b + 1))).length) = (L.drop a).drop (m + 1 + (nmSigns (L.drop (b + 1))).length) := by rw [List.drop_drop, hb]; congr 1; omega
          rw [e1, hdb1]
          show (if ((L.drop a).drop m).take 1 = [123] then _ else _) = _
          rw [if_pos (by rw [← hdb]; exact hbrace)]
        have htz : tameS (nmSigns (L.drop (b + 1))) = true := tame_drop ht (b + 1) _
        have hzl := tame_len htz
        obtain ⟨hp1, hp2⟩ := parts_tameS htz
        have hbl : b < L.length := Decidable.byContradiction fun z => by
          rw [List.drop_eq_nil_of_le (by omega)] at hbrace
          cases hbrace
        have hzs : (nmSigns (L.drop (b + 1))).length + 1 ≤ L.length := by
          have h1 := congrArg List.length (take_while (fun c => isLt c || decide (c = 44)) (L.drop (b + 1)))
          rw [List.length_take, List.length_drop] at h1
          show ((L.drop (b + 1)).takeWhile _).length + 1 ≤ _
          omega
        have hpl := spl_len (nmSigns (L.drop (b + 1))) [] 0
        have hcut : cutS (SX.S L) (some ((b : Int) + 1)) (some ((b + 1 + (nmSigns (L.drop (b + 1))).length : Nat) : Int)) = SX.S (nmSigns (L.drop (b + 1))) := by
          have := cutS_nat L (b + 1) (nmSigns (L.drop (b + 1))).length
          rw [show (nmSigns (L.drop (b + 1))) = (L.drop (b + 1)).takeWhile (fun c => isLt c || decide (c = 44)) from rfl] at this ⊢
          rw [take_while] at this
          exact this
        refine ⟨fun σ' H' => ∃ (f' : Nat) (r : Rcp) (m : Nat) (v : V) (b : Nat) (o5 o6 : Option V), σ' = [some (.str (SX.S L)), some (.int (b : Int)), some (.int (d : Int)), some (.str (SX.S ((L.drop a).take 1))), some v, o5, o6] ∧ b = a + m ∧ Same H H' ∧ Rec H' r v ∧
          rPart (k + 1) (L.drop a) = rTail f' (L.drop a) r m ∧ (L.drop a).length ≤ f' + m ∧ f' = f, ?_, ?_⟩
        · rintro σ' H' ⟨f', r, m, v, b, o5, o6, e1, e2, e3, e4, e5, e6, e7⟩
          exact ⟨f', by omega, f', r, m, v, b, o5, o6, e1, e2, e3, e4, e5, e6, rfl⟩
        have hcm : ("," : Str) = SX.S [44] := by decide +kernel
        refine ⟨_, rfl, _, rfl, _, _, rfl, rfl, _, _, rfl, rfl, le_line (Nat.le_of_ble_eq_true (by decide +kernel)), L, b + 1, letters ++ [44], by rw [hcm, letters_is, SX.S_cat]; rfl, hL, ?_⟩
        have e9 : ((L.drop (b + 1)).takeWhile fun c => decide (c ∈ letters ++ [44])) = nmSigns (L.drop (b + 1)) := by rw [sn_in]; rfl
        rw [e9]
        refine ⟨_, rfl, _, rfl, _, _, rfl, rfl, _, rfl, _, rfl, _, rfl, _, rfl, hl, ⟨_, rfl⟩, _, _, congrArg V.str hcut, rfl, by decide +kernel, by rw [SX.S_len]; exact le_line (by omega), fun p5 n5 => ?_⟩
        rw [split_is]
        refine ⟨p5, _, rfl, .inl ⟨SqL.of upd_same, fun p6 n6 => ?_⟩⟩
        have s6 := (same_new n5 (.lst (txs (TL.spl [44] 0 [] (nmSigns (L.drop (b + 1))))))).trans (same_new n6 (.tup (txs (TL.spl [44] 0 [] (nmSigns (L.drop (b + 1)))))))
        refine ⟨_, rfl, _, .tup (nmsTh (TL.spl [44] 0 [] (nmSigns (L.drop (b + 1))))), rfl, ⟨p6, _, rfl, upd_same, nms_data _ _⟩, low_tame hp2 (by omega), fun m e => by cases e; exact ⟨Nms.flat, low_shaped hp1⟩, fun H7 hs7 => ⟨_, rfl, ?_⟩⟩
        have hp6 := hs7 _ _ (upd_same (H := upd H2 p5 (.lst (txs (TL.spl [44] 0 [] (nmSigns (L.drop (b + 1))))))) (a := p6) (o := HO.tup (txs (TL.spl [44] 0 [] (nmSigns (L.drop (b + 1)))))))
        have hs27 := s6.trans hs7
        cases har : (Th.tup (nmsTh (TL.spl [44] 0 [] (nmSigns (L.drop (b + 1)))))).areNms with
        | false =>
          refine iteT ?_
          exact qe (by rw [heq, hT, if_neg (by rw [har]; exact Bool.false_ne_true)]) _ (hs2.trans hs27)
        | true =>
          rw [if_pos har] at hT
          refine iteF ?_
          refine ⟨_, rfl, _, rfl, le_line (Nat.le_of_ble_eq_true rfl), fun p8 n8 => ?_⟩
          have hcb : ("}" : Str) = SX.S [125] := by decide +kernel
          refine ⟨_, rfl, _, rfl, L, b + 1 + (nmSigns (L.drop (b + 1))).length, [125], by rw [hcb]; rfl, hL, by decide, fun hne0 => ?_, fun he0 => ?_⟩
          · have hne : ¬ (L.drop (b + 1 + (nmSigns (L.drop (b + 1))).length)).take 1 = [125] := hne0
            exact qe (by rw [heq, hT, if_neg hne]) _ ((hs2.trans hs27).trans (same_new n8 _))
          · have he : (L.drop (b + 1 + (nmSigns (L.drop (b + 1))).length)).take 1 = [125] := he0
            refine ⟨f, .choose r (TL.spl [44] 0 [] (nmSigns (L.drop (b + 1)))), m + 1 + (nmSigns (L.drop (b + 1))).length + 1, .ref p8, _, _, _, rfl, by show _ + 1 = _; omega, (hs2.trans hs27).trans (same_new n8 _), ⟨p8, v, p6, rfl, upd_same, (hr2.same hs27).same (same_new n8 _), ?_⟩, by rw [heq, hT, if_pos he], by omega, rfl⟩
            exact same_new n8 _ _ _ hp6
    · refine iteN (fun z => hbrace (SS_eq.mp z)) ?_
      have hres : rPart (k + 1) (L.drop a) = some (r, m) := by
        rw [heq]
        cases f with
        | zero => rfl
        | succ f =>
          show (if ((L.drop a).drop m).take 1 = [123] then _ else _) = _
          rw [if_neg (by rw [← hdb]; exact hbrace)]
      refine ⟨_, rfl, _, rfl, le_line (Nat.le_of_ble_eq_true rfl), fun p9 n9 => ?_⟩
      refine q r m hres _ p9 v (hs2.trans (same_new n9 _)) ?_ (hr2.same (same_new n9 _))
      rw [← hb]
      exact upd_same
  refine not_false_eq (decide_eq_false fun z => k3 (SS_eq.mp z)) ?_
  obtain ⟨c, hcl⟩ : ∃ c, (L.drop a).take 1 = [c] := by
    cases hd : L.drop a with
    | nil => rw [hd] at k3; exact absurd rfl k3
    | cons c l' => exact ⟨c, rfl⟩
  refine ⟨_, rfl, c, _, congrArg (fun z => V.str (SX.S z)) hcl, rfl, _, rfl, ?_⟩
  rw [letter_in]
  have hlt : ((L.drop a).take 1).any isLt = isLt c := by rw [hcl]; exact Bool.or_false _
  cases hc4 : isLt c with
  | true =>
    have hc4' : (decide (97 ≤ c) && decide (c ≤ 122)) = true := hc4
    refine if_true_eq hc4' ?_
    have hB : ∀ x, rName (L.drop a) = x → rBase (rPart k) (L.drop a) = x := fun x h => by unfold rBase; rw [if_neg k1, if_neg k2, if_pos (by rw [hlt, hc4]), h]
    refine ⟨_, rfl, _, rfl, L, a, rfl, ht, fun hg => qe (hP _ (hB _ hg)), fun r1 n1 hg1 H1 p1 v1 hs1 hp1 hr1 => ?_⟩
    refine ⟨p1, _, rfl, SqT.of hp1, rfl, v1, _, rfl, _, _, rfl, rfl, ?_⟩
    refine ⟨fun u σ H' => ∃ (f : Nat) (r : Rcp) (m : Nat) (v : V) (b : Nat) (o5 o6 : Option V), σ = [some (.str (SX.S L)), some (.int (b : Int)), some (.int (d : Int)), some (.str (SX.S ((L.drop a).take 1))), some v, o5, o6] ∧ b = a + m ∧ Same H H' ∧ Rec H' r v ∧
      rPart (k + 1) (L.drop a) = rTail f (L.drop a) r m ∧ (L.drop a).length ≤ f + m ∧ u = f, ?_, ?_⟩
    · exact ⟨_, (L.drop a).length, r1, n1, v1, _, none, none, rfl, by omega, hs1, hr1, hP _ (hB _ hg1), Nat.le_add_right _ _, rfl⟩
    rintro u σ H2 ⟨f, r, m, v, b, o5, o6, rfl, hb, hs2, hr2, heq, hfm, hu⟩
    subst u
    have hc : cutS (SX.S L) (some (b : Int)) (some ((b : Int) + 1)) = SX.S ((L.drop b).take 1) := cutS_add L b 1
    have hdb : L.drop b = (L.drop a).drop m := by rw [List.drop_drop, hb]
    have hdb1 : L.drop (b + 1) = (L.drop a).drop (m + 1) := by rw [List.drop_drop, hb]; congr 1
    refine ⟨_, rfl, _, rfl, _, rfl, _, rfl, _, _, rfl, rfl, _, rfl, _, rfl, hl, rfl, _, rfl, ?_⟩
    rw [hc, hbr]
    by_cases hbrace : (L.drop b).take 1 = [123]
    · refine iteY (SS_eq.mpr hbrace) ?_
      cases f with
      | zero =>
        rw [hdb, List.drop_eq_nil_of_le (by omega)] at hbrace
        cases hbrace
      | succ f =>
        have hT : rTail (f + 1) (L.drop a) r m = if (Th.tup (nmsTh (TL.spl [44] 0 [] (nmSigns (L.drop (b + 1)))))).areNms = true then
            if (L.drop (b + 1 + (nmSigns (L.drop (b + 1))).length)).take 1 = [125] then rTail f (L.drop a) (.choose r (TL.spl [44] 0 [] (nmSigns (L.drop (b + 1))))) (m + 1 + (nmSigns (L.drop (b + 1))).length + 1) else none else none := by
          have e1 : L.drop (b + 1 + (nmSigns (L.drop (b + 1))).length) = (L.drop a).drop (m + 1 + (nmSigns (L.drop (b + 1))).length) := by rw [List.drop_drop, hb]; congr 1; omega
          rw [e1, hdb1]
          show (if ((L.drop a).drop m).take 1 = [123] then _ else _) = _
          rw [if_pos (by rw [← hdb]; exact hbrace)]
        have htz : tameS (nmSigns (L.drop (b + 1))) = true := tame_drop ht (b + 1) _
        have hzl := tame_len htz
        obtain ⟨hp1, hp2⟩ := parts_tameS htz
        have hbl : b < L.length := Decidable.byContradiction fun z => by
          rw [List.drop_eq_nil_of_le (by omega)] at hbrace
          cases hbrace
        have hzs : (nmSigns (L.drop (b + 1))).length + 1 ≤ L.length := by
          have h1 := congrArg List.length (take_while (fun c => isLt c || decide (c = 44)) (L.drop (b + 1)))
          rw [List.length_take, List.length_drop] at h1
          show ((L.drop (b + 1)).takeWhile _).length + 1 ≤ _
          omega
        have hpl := spl_len (nmSigns (L.drop (b + 1))) [] 0
        have hcut : cutS (SX.S L) (some ((b : Int) + 1)) (some ((b + 1 + (nmSigns (L.drop (b + 1))).length : Nat) : Int)) = SX.S (nmSigns (L.drop (b + 1))) := by
          have := cutS_nat L (b + 1) (nmSigns (L.drop (b + 1))).length
          rw [show (nmSigns (L.drop (b + 1))) = (L.drop (b + 1)).takeWhile (fun c => isLt c || decide (c = 44)) from rfl] at this ⊢
          rw [take_while] at this
          exact this
        refine ⟨fun σ' H' => ∃ (f' : Nat) (r : Rcp) (m : Nat) (v : V) (b : Nat) (o5 o6 : Option V), σ' = [some (.str (SX.S L)), some (.int (b : Int)), some (.int (d : Int)), some (.str (SX.S ((L.drop a).take 1))), some v, o5, o6] ∧ b = a + m ∧ Same H H' ∧ Rec H' r v ∧
          rPart (k + 1) (L.drop a) = rTail f' (L.drop a) r m ∧ (L.drop a).length ≤ f' + m ∧ f' = f, ?_, ?_⟩
        · rintro σ' H' ⟨f', r, m, v, b, o5, o6, e1, e2, e3, e4, e5, e6, e7⟩
          exact ⟨f', by omega, f', r, m, v, b, o5, o6, e1, e2, e3, e4, e5, e6, rfl⟩
        have hcm : ("," : Str) = SX.S [44] := by decide +kernel
        refine ⟨_, rfl, _, rfl, _, _, rfl, rfl, _, _, rfl, rfl, le_line (Nat.le_of_ble_eq_true (by decide +kernel)), L, b + 1, letters ++ [44], by rw [hcm, letters_is, SX.S_cat]; rfl, hL, ?_⟩
        have e9 : ((L.drop (b + 1)).takeWhile fun c => decide (c ∈ letters ++ [44])) = nmSigns (L.drop (b + 1)) := by rw [sn_in]; rfl
        rw [e9]
        refine ⟨_, rfl, _, rfl, _, _, rfl, rfl, _, rfl, _, rfl, _, rfl, _, rfl, hl, ⟨_, rfl⟩, _, _, congrArg V.str hcut, rfl, by decide +kernel, by rw [SX.S_len]; exact le_line (by omega), fun p5 n5 => ?_⟩
        rw [split_is]
        refine ⟨p5, _, rfl, .inl ⟨SqL.of upd_same, fun p6 n6 => ?_⟩⟩
        have s6 := (same_new n5 (.lst (txs (TL.spl [44] 0 [] (nmSigns (L.drop (b + 1))))))).trans (same_new n6 (.tup (txs (TL.spl [44] 0 [] (nmSigns (L.drop (b + 1)))))))
        refine ⟨_, rfl, _, .tup (nmsTh (TL.spl [44] 0 [] (nmSigns (L.drop (b + 1))))), rfl, ⟨p6, _, rfl, upd_same, nms_data _ _⟩, low_tame hp2 (by omega), fun m e => by cases e; exact ⟨Nms.flat, low_shaped hp1⟩, fun H7 hs7 => ⟨_, rfl, ?_⟩⟩
        have hp6 := hs7 _ _ (upd_same (H := upd H2 p5 (.lst (txs (TL.spl [44] 0 [] (nmSigns (L.drop (b + 1))))))) (a := p6) (o := HO.tup (txs (TL.spl [44] 0 [] (nmSigns (L.drop (b + 1)))))))
        have hs27 := s6.trans hs7
        cases har : (Th.tup (nmsTh (TL.spl [44] 0 [] (nmSigns (L.drop (b + 1)))))).areNms with
        | false =>
          refine iteT ?_
          exact qe (by rw [heq, hT, if_neg (by rw [har]; exact Bool.false_ne_true)]) _ (hs2.trans hs27)
        | true =>
          rw [if_pos har] at hT
          refine iteF ?_
          refine ⟨_, rfl, _, rfl, le_line (Nat.le_of_ble_eq_true rfl), fun p8 n8 => ?_⟩
          have hcb : ("}" : Str) = SX.S [125] := by decide +kernel
          refine ⟨_, rfl, _, rfl, L, b + 1 + (nmSigns (L.drop (b + 1))).length, [125], by rw [hcb]; rfl, hL, by decide, fun hne0 => ?_, fun he0 => ?_⟩
          · have hne : ¬ (L.drop (b + 1 + (nmSigns (L.drop (b + 1))).length)).take 1 = [125] := hne0
            exact qe (by rw [heq, hT, if_neg hne]) _ ((hs2.trans hs27).trans (same_new n8 _))
          · have he : (L.drop (b + 1 + (nmSigns (L.drop (b + 1))).length)).take 1 = [125] := he0
            refine ⟨f, .choose r (TL.spl [44] 0 [] (nmSigns (L.drop (b + 1)))), m + 1 + (nmSigns (L.drop (b + 1))).length + 1, .ref p8, _, _, _, rfl, by show _ + 1 = _; omega, (hs2.trans hs27).trans (same_new n8 _), ⟨p8, v, p6, rfl, upd_same, (hr2.same hs27).same (same_new n8 _), ?_⟩, by rw [heq, hT, if_pos he], by omega, rfl⟩
            exact same_new n8 _ _ _ hp6
    · refine iteN (fun z => hbrace (SS_eq.mp z)) ?_
      have hres : rPart (k + 1) (L.drop a) = some (r, m) := by
        rw [heq]
        cases f with
        | zero => rfl
        | succ f =>
          show (if ((L.drop a).drop m).take 1 = [123] then _ else _) = _
          rw [if_neg (by rw [← hdb]; exact hbrace)]
      refine ⟨_, rfl, _, rfl, le_line (Nat.le_of_ble_eq_true rfl), fun p9 n9 => ?_⟩
      refine q r m hres _ p9 v (hs2.trans (same_new n9 _)) ?_ (hr2.same (same_new n9 _))
      rw [← hb]
      exact upd_same
  | false =>
    have hc4' : (decide (97 ≤ c) && decide (c ≤ 122)) = false := hc4
    refine if_false_eq hc4' ?_
    have hno : ¬ ((L.drop a).take 1).any isLt = true := by rw [hlt, hc4]; exact Bool.false_ne_true
    have hB : ∀ x, rNum (L.drop a) = x → rBase (rPart k) (L.drop a) = x := fun x h => by unfold rBase; rw [if_neg k1, if_neg k2, if_neg hno, h]
    refine ⟨_, rfl, _, rfl, L, a, rfl, ht, fun hg => qe (hP _ (hB _ hg)), fun r1 n1 hg1 H1 p1 v1 hs1 hp1 hr1 => ?_⟩
    refine ⟨p1, _, rfl, SqT.of hp1, rfl, v1, _, rfl, _, _, rfl, rfl, ?_⟩
    refine ⟨fun u σ H' => ∃ (f : Nat) (r : Rcp) (m : Nat) (v : V) (b : Nat) (o5 o6 : Option V), σ = [some (.str (SX.S L)), some (.int (b : Int)), some (.int (d : Int)), some (.str (SX.S ((L.drop a).take 1))), some v, o5, o6] ∧ b = a + m ∧ Same H H' ∧ Rec H' r v ∧
      rPart (k + 1) (L.drop a) = rTail f (L.drop a) r m ∧ (L.drop a).length ≤ f + m ∧ u = f, ?_, ?_⟩
    · exact ⟨_, (L.drop a).length, r1, n1, v1, _, none, none, rfl, by omega, hs1, hr1, hP _ (hB _ hg1), Nat.le_add_right _ _, rfl⟩
    rintro u σ H2 ⟨f, r, m, v, b, o5, o6, rfl, hb, hs2, hr2, heq, hfm, hu⟩
    subst u
    have hc : cutS (SX.S L) (some (b : Int)) (some ((b : Int) + 1)) = SX.S ((L.drop b).take 1) := cutS_add L b 1
    have hdb : L.drop b = (L.drop a).drop m := by rw [List.drop_drop, hb]
    have hdb1 : L.drop (b + 1) = (L.drop a).drop (m + 1) := by rw [List.drop_drop, hb]; congr 1
    refine ⟨_, rfl, _, rfl, _, rfl, _, rfl, _, _, rfl, rfl, _, rfl, _, rfl, hl, rfl, _, rfl, ?_⟩
    rw [hc, hbr]
    by_cases hbrace : (L.drop b).take 1 = [123]
    · refine iteY (SS_eq.mpr hbrace) ?_
      cases f with
      | zero =>
        rw [hdb, List.drop_eq_nil_of_le (by omega)] at hbrace
        cases hbrace
      | succ f =>
        have hT : rTail (f + 1) (L.drop a) r m = if (Th.tup (nmsTh (TL.spl [44] 0 [] (nmSigns (L.drop (b + 1)))))).areNms = true then
            if (L.drop (b + 1 + (nmSigns (L.drop (b + 1))).length)).take 1 = [125] then rTail f (L.drop a) (.choose r (TL.spl [44] 0 [] (nmSigns (L.drop (b + 1))))) (m + 1 + (nmSigns (L.drop (b + 1))).length + 1) else none else none := by
          have e1 : L.drop (b + 1 + (nmSigns (L.drop (b + 1))).length) = (L.drop a).drop (m + 1 + (nmSigns (L.drop (b + 1))).length) := by rw [List.drop_drop, hb]; congr 1; omega
          rw [e1, hdb1]
          show (if ((L.drop a).drop m).take 1 = [123] then _ else _) = _
          rw [if_pos (by rw [← hdb]; exact hbrace)]
        have htz : tameS (nmSigns (L.drop (b + 1))) = true := tame_drop ht (b + 1) _
        have hzl := tame_len htz
        obtain ⟨hp1, hp2⟩ := parts_tameS htz
        have hbl : b < L.length := Decidable.byContradiction fun z => by
          rw [List.drop_eq_nil_of_le (by omega)] at hbrace
          cases hbrace
        have hzs : (nmSigns (L.drop (b + 1))).length + 1 ≤ L.length := by
          have h1 := congrArg List.length (take_while (fun c => isLt c || decide (c = 44)) (L.drop (b + 1)))
          rw [List.length_take, List.length_drop] at h1
          show ((L.drop (b + 1)).takeWhile _).length + 1 ≤ _
          omega
        have hpl := spl_len (nmSigns (L.drop (b + 1))) [] 0
        have hcut : cutS (SX.S L) (some ((b : Int) + 1)) (some ((b + 1 + (nmSigns (L.drop (b + 1))).length : Nat) : Int)) = SX.S (nmSigns (L.drop (b + 1))) := by
          have := cutS_nat L (b + 1) (nmSigns (L.drop (b + 1))).length
          rw [show (nmSigns (L.drop (b + 1))) = (L.drop (b + 1)).takeWhile (fun c => isLt c || decide (c = 44)) from rfl] at this ⊢
          rw [take_while] at this
          exact this
        refine ⟨fun σ' H' => ∃ (f' : Nat) (r : Rcp) (m : Nat) (v : V) (b : Nat) (o5 o6 : Option V), σ' = [some (.str (SX.S L)), some (.int (b : Int)), some (.int (d : Int)), some (.str (SX.S ((L.drop a).take 1))), some v, o5, o6] ∧ b = a + m ∧ Same H H' ∧ Rec H' r v ∧
          rPart (k + 1) (L.drop a) = rTail f' (L.drop a) r m ∧ (L.drop a).length ≤ f' + m ∧ f' = f, ?_, ?_⟩
        · rintro σ' H' ⟨f', r, m, v, b, o5, o6, e1, e2, e3, e4, e5, e6, e7⟩
          exact ⟨f', by omega, f', r, m, v, b, o5, o6, e1, e2, e3, e4, e5, e6, rfl⟩
        have hcm : ("," : Str) = SX.S [44] := by decide +kernel
        refine ⟨_, rfl, _, rfl, _, _, rfl, rfl, _, _, rfl, rfl, le_line (Nat.le_of_ble_eq_true (by decide +kernel)), L, b + 1, letters ++ [44], by rw [hcm, letters_is, SX.S_cat]; rfl, hL, ?_⟩
        have e9 : ((L.drop (b + 1)).takeWhile fun c => decide (c ∈ letters ++ [44])) = nmSigns (L.drop (b + 1)) := by rw [sn_in]; rfl
        rw [e9]
        refine ⟨_, rfl, _, rfl, _, _, rfl, rfl, _, rfl, _, rfl, _, rfl, _, rfl, hl, ⟨_, rfl⟩, _, _, congrArg V.str hcut, rfl, by decide +kernel, by rw [SX.S_len]; exact le_line (by omega), fun p5 n5 => ?_⟩
        rw [split_is]
        refine ⟨p5, _, rfl, .inl ⟨SqL.of upd_same, fun p6 n6 => ?_⟩⟩
        have s6 := (same_new n5 (.lst (txs (TL.spl [44] 0 [] (nmSigns (L.drop (b + 1))))))).trans (same_new n6 (.tup (txs (TL.spl [44] 0 [] (nmSigns (L.drop (b + 1)))))))
        refine ⟨_, rfl, _, .tup (nmsTh (TL.spl [44] 0 [] (nmSigns (L.drop (b + 1))))), rfl, ⟨p6, _, rfl, upd_same, nms_data _ _⟩, low_tame hp2 (by omega), fun m e => by cases e; exact ⟨Nms.flat, low_shaped hp1⟩, fun H7 hs7 => ⟨_, rfl, ?_⟩⟩
        have hp6 := hs7 _ _ (upd_same (H := upd H2 p5 (.lst (txs (TL.spl [44] 0 [] (nmSigns (L.drop (b + 1))))))) (a := p6) (o := HO.tup (txs (TL.spl [44] 0 [] (nmSigns (L.drop (b + 1)))))))
        have hs27 := s6.trans hs7
        cases har : (Th.tup (nmsTh (TL.spl [44] 0 [] (nmSigns (L.drop (b + 1)))))).areNms with
        | false =>
          refine iteT ?_
          exact qe (by rw [heq, hT, if_neg (by rw [har]; exact Bool.false_ne_true)]) _ (hs2.trans hs27)
        | true =>
          rw [if_pos har] at hT
          refine iteF ?_
          refine ⟨_, rfl, _, rfl, le_line (Nat.le_of_ble_eq_true rfl), fun p8 n8 => ?_⟩
          have hcb : ("}" : Str) = SX.S [125] := by decide +kernel
          refine ⟨_, rfl, _, rfl, L, b + 1 + (nmSigns (L.drop (b + 1))).length, [125], by rw [hcb]; rfl, hL, by decide, fun hne0 => ?_, fun he0 => ?_⟩
          · have hne : ¬ (L.drop (b + 1 + (nmSigns (L.drop (b + 1))).length)).take 1 = [125] := hne0
            exact qe (by rw [heq, hT, if_neg hne]) _ ((hs2.trans hs27).trans (same_new n8 _))
          · have he : (L.drop (b + 1 + (nmSigns (L.drop (b + 1))).length)).take 1 = [125] := he0
            refine ⟨f, .choose r (TL.spl [44] 0 [] (nmSigns (L.drop (b + 1)))), m + 1 + (nmSigns (L.drop (b + 1))).length + 1, .ref p8, _, _, _, rfl, by show _ + 1 = _; omega, (hs2.trans hs27).trans (same_new n8 _), ⟨p8, v, p6, rfl, upd_same, (hr2.same hs27).same (same_new n8 _), ?_⟩, by rw [heq, hT, if_pos he], by omega, rfl⟩
            exact same_new n8 _ _ _ hp6
    · refine iteN (fun z => hbrace (SS_eq.mp z)) ?_
      have hres : rPart (k + 1) (L.drop a) = some (r, m) := by
        rw [heq]
        cases f with
        | zero => rfl
        | succ f =>
          show (if ((L.drop a).drop m).take 1 = [123] then _ else _) = _
          rw [if_neg (by rw [← hdb]; exact hbrace)]
      refine ⟨_, rfl, _, rfl, le_line (Nat.le_of_ble_eq_true rfl), fun p9 n9 => ?_⟩
      refine q r m hres _ p9 v (hs2.trans (same_new n9 _)) ?_ (hr2.same (same_new n9 _))
      rw [← hb]
      exact upd_same
end
theorem digVal_lt : ∀ (cs : List Nat) (acc : Nat), (∀ c ∈ cs, 48 ≤ c ∧ c ≤ 57) → cs.foldl (fun acc c => acc * 10 + (c - 48)) acc < (acc + 1) * 10 ^ cs.length
  | [], acc, _ => by show acc < (acc + 1) * 1; omega
  | c :: cs, acc, h => by
    have hc := h c (List.mem_cons_self ..)
    have ih := digVal_lt cs (acc * 10 + (c - 48)) fun x hx => h x (List.mem_cons_of_mem _ hx)
    show cs.foldl _ (acc * 10 + (c - 48)) < (acc + 1) * 10 ^ (cs.length + 1)
    refine Nat.lt_of_lt_of_le ih ?_
    rw [Nat.pow_succ, ← Nat.mul_assoc, Nat.mul_right_comm]
    exact Nat.mul_le_mul_right _ (by omega)
def RdGood (g : Rdr) : Prop := ∀ l r n, g l = some (r, n) → r.Good
theorem rName_good : RdGood rName := fun l r n h => by
  unfold rName at h
  by_cases c : nmOk (l.takeWhile isLt) = true
  · rw [if_pos c] at h
    cases h
    exact nmOk_iff.mp c
  · rw [if_neg c] at h
    cases h
theorem figs_dig (l : List Nat) : ∀ c ∈ figs l, 48 ≤ c ∧ c ≤ 57 := fun c hc => by
  have z : isFg c = true := tw_all isFg _ c hc
  unfold isFg at z
  rw [Bool.and_eq_true, decide_eq_true_eq, decide_eq_true_eq] at z
  exact z
theorem rNum_good : RdGood rNum := fun l r n h => by
  unfold rNum at h
  by_cases c : (figs l).length < 1 ∨ 40 < (figs l).length
  · rw [if_pos c] at h; cases h
  rw [if_neg c] at h
  by_cases c2 : (figs l).take 1 = [48] ∧ (1 < (figs l).length ∨ 0 < sgn l)
  · rw [if_pos c2] at h; cases h
  rw [if_neg c2] at h
  cases h
  have hv := digVal_lt (figs l) 0 (figs_dig l)
  have hp : 10 ^ (figs l).length ≤ 10 ^ 40 := Nat.pow_le_pow_right (by decide) (by omega)
  have hv2 : digVal (figs l) < 10 ^ 40 := Nat.lt_of_lt_of_le (by rw [Nat.zero_add, Nat.one_mul] at hv; exact hv) hp
  show (if sgn l = 1 then -((digVal (figs l) : Nat) : Int) else ((digVal (figs l) : Nat) : Int)).natAbs < 10 ^ 40
  by_cases s1 : sgn l = 1
  · rw [if_pos s1, Int.natAbs_neg, Int.natAbs_natCast]; exact hv2
  · rw [if_neg s1, Int.natAbs_natCast]; exact hv2
theorem rTwo_good {rp : Rdr} (g : RdGood rp) : RdGood (rTwo rp) := fun l r n h => by
  unfold rTwo at h
  split at h
  · cases h
  · rename_i a n1 h1
    split at h
    · cases h
    · split at h
      · cases h
      · rename_i b m h2
        split at h
        · cases h
          exact ⟨g _ _ _ h1, g _ _ _ h2⟩
        · cases h
theorem rPick_good {rp : Rdr} (g : RdGood rp) : RdGood (rPick rp) := fun l r n h => by
  unfold rPick at h
  split at h
  · cases h
  · rename_i a n1 h1
    split at h
    · split at h
      · cases h
      · rename_i b m h2
        split at h
        · split at h
          · cases h
          · rename_i c o h3
            split at h
            · cases h
              exact ⟨g _ _ _ h1, g _ _ _ h2, g _ _ _ h3⟩
            · cases h
        · cases h
    · cases h
theorem more_some {d : Nat} {x : Option (Rcp × Nat)} {r : Rcp} {n : Nat} (h : more d x = some (r, n)) : ∃ m, x = some (r, m) := by
  cases x with
  | none => cases h
  | some p =>
    obtain ⟨r', m⟩ := p
    cases h
    exact ⟨m, rfl⟩
theorem rBase_good {rp : Rdr} (g : RdGood rp) : RdGood (rBase rp) := fun l r n h => by
  unfold rBase at h
  split at h
  · obtain ⟨m, e⟩ := more_some h
    exact rTwo_good g _ _ _ e
  · split at h
    · obtain ⟨m, e⟩ := more_some h
      exact rPick_good g _ _ _ e
    · split at h
      · exact rName_good _ _ _ h
      · exact rNum_good _ _ _ h
theorem rTail_good : ∀ (f : Nat) (l : List Nat) (r0 : Rcp) (n0 : Nat) (r : Rcp) (n : Nat), r0.Good → rTail f l r0 n0 = some (r, n) → r.Good
  | 0, l, r0, n0, r, n, hg, h => by cases h; exact hg
  | f + 1, l, r0, n0, r, n, hg, h => by
    unfold rTail at h
    split at h
    · split at h
      · rename_i hn
        split at h
        · refine rTail_good f l _ _ r n ?_ h
          exact ⟨hg, are_nms hn⟩
        · cases h
      · cases h
    · cases h; exact hg
theorem rPart_good : ∀ k, RdGood (rPart k)
  | 0 => fun l r n h => by cases h
  | k + 1 => fun l r n h => by
    unfold rPart at h
    split at h
    · cases h
    · rename_i r1 n1 h1
      exact rTail_good _ _ _ _ _ _ (rBase_good (rPart_good k) _ _ _ h1) h
/-- the recipe that a thing writes -/
def rRead : Th → Option Rcp
  | .str T => match rPart 8 T with
    | none => none
    | some (r, n) => if n = T.length ∧ r.th.isRcp = true then some r else none
  | _ => none
def spRead (C : Addr) : Sp := fun vs H Q E => ∃ (v : V) (t : Th), vs = [v] ∧ Data H t v ∧ t.tame = true ∧ (rRead t = none → ∀ H', Same H H' → E (.ref C) none H') ∧
  (∀ r, rRead t = some r → r.Good → ∀ (H' : Hp) (v' : V), Same H H' → Rec H' r v' → Q v' H')
section
variable {P : Program} {w : World} {K : PySem.W.Frag} {mg : Str → Option Value} {base : Heap}
theorem all_read_part {C tw wd : Addr} {es : Array DictEntry} {n0 : Nat} (T : Txt K mg) (R : RTxt K mg tw) (XW : WordsT K w mg wd es n0) (XNoText : NoT K mg C) (D : IsDef K mg "read_part" s_read_part ["text", "at", "depth"])
    (D2 : IsDef K mg "read_two" s_read_two ["text", "at", "depth"]) (D3 : IsDef K mg "read_pick" s_read_pick ["text", "at", "depth"])
    (C1 : Cal P w K mg base CX0 1 "behind_signs" ["text", "at", "signs"] spBehind) (C2 : Cal P w K mg base CX0 2 "are_names" ["thing"] spAreNames) (C3 : Cal P w K mg base (L2.CX P w) 1 "expected" ["text", "at", "word"] (spExp C))
    (C4 : Cal P w K mg base (L2.CX P w) 2 "read_name" ["text", "at"] (spRd C rName)) (C5 : Cal P w K mg base (L2.CX P w) 2 "read_number" ["text", "at"] (spRd C rNum)) :
    ∀ k : Nat, Cal P w K mg base (L2.CX P w) (2 * k + 3) "read_part" ["text", "at", "depth"] (spRdD C k (rPart k))
  | 0 => ok_read_part0 (i := 0) (j := 0) T R XNoText D C1 C2 C3 C4 C5 (cal_none D2 fun _ _ _ _ h => h) (cal_none D3 fun _ _ _ _ h => h)
  | k + 1 => by
    have ih := all_read_part T R XW XNoText D D2 D3 C1 C2 C3 C4 C5 k
    exact ok_read_part T R XNoText D C1 C2 C3 C4 C5 (by omega) (ok_read_two T XW XNoText D2 C3 (by omega) ih) (ok_read_pick T XNoText D3 C3 (by omega) ih)
abbrev s_read_recipe : Stmt := topS 28
abbrev N_read_recipe : List Str := ["text", "found", "behind"]
theorem sc_read_recipe : FnScope N_read_recipe ["text"] (defScope s_read_recipe) := ⟨rfl, rfl, rfl, by decide +kernel, rfl, by decide +kernel, by decide +kernel⟩

theorem ok_read_recipe {C : Addr} (T : Txt K mg) (XNoText : NoT K mg C) (D : IsDef K mg "read_recipe" s_read_recipe ["text"])
    (C_is_recipe : Cal P w K mg base CX0 4 "is_recipe" ["thing"] spIsRecipe) (C_read_part : Cal P w K mg base (L2.CX P w) 19 "read_part" ["text", "at", "depth"] (spRdD C 8 (rPart 8))) :
    Cal P w K mg base (L2.CX P w) 20 "read_recipe" ["text"] (spRead C) := by
  refine D.calX sc_read_recipe (fun vs H Q E h => ?_) (fun f cdv A outer s H vs Q E hr h => ?_)
  · obtain ⟨v, t, rfl, _⟩ := h
    rfl
  obtain ⟨v, t, rfl, hv, ht, qe, q⟩ := h
  refine ⟨_, (pss_cons (ps_if (pt_not (pt_val (pe_callB call_isi (by rfl) T.b_isinstance (by decide +kernel) (pa_cons (pv 0) (pa_cons (pe_bltn (v := .ty "str") (by rfl) T.b_str (by decide +kernel) rfl) pa_nil)))))
        (pss_one (ps_raise rfl (takes_of rfl rfl rfl rfl) (pmk_own PySem.F.excBase_ValueError XNoText.x XNoText.g XNoText.k (raises_own XNoText.b XNoText.t) rfl)))
        pss_nil)
      (pss_cons (ps_asg (pe_cal C_read_part (hr.mono (by first | decide | omega)) (passes_call (takes_of rfl rfl rfl rfl) (fun _ _ _ _ h => h)) (pa_cons (pv 0) (pa_cons pe_int (pa_cons pe_int pa_nil)))) (pg_tup rfl (pgs_cons (pg_name (i := 1) sc_read_recipe.nd rfl (Or.inl rfl)) (pgs_cons (pg_name (i := 2) sc_read_recipe.nd rfl (Or.inl rfl)) pgs_nil))))
      (pss_cons (ps_if (PW.pt (pw_or (pt_cmpR op_ne (pv 2) (pe_callB call_len_str (by rfl) T.b_len PySem.boot_len (pa_cons (pv 0) pa_nil)) (nomark _)) (pw_or1 (pt_not (pt_val (pe_cal C_is_recipe (hr.mono (by first | decide | omega)) pass0 (pa_cons (pv 1) pa_nil)))))))
        (pss_one (ps_raise rfl (takes_of rfl rfl rfl rfl) (pmk_own PySem.F.excBase_ValueError XNoText.x XNoText.g XNoText.k (raises_own XNoText.b XNoText.t) rfl)))
        pss_nil)
      (pss_one (ps_ret (pv 1)))))), ?_⟩
  refine ⟨_, rfl, _, _, _, _, _, rfl, .ty _, hv.ty, kit_str t, _, rfl, ?_⟩
  cases t with
  | str L =>
    have ev : v = .str (SX.S L) := hv
    subst ev
    have hts : tameS L = true := ht
    have hL := tame_len hts
    have hl : (SX.S L).length ≤ sizeLine := by rw [SX.S_len]; exact le_line (by omega)
    refine iteF ?_
    refine ⟨_, rfl, L, 0, 1, rfl, by decide, hts, fun hg => qe (by show (match rPart 8 L with | none => none | some (r, n) => _) = none; rw [show rPart 8 L = none from hg]), fun r n hg H1 p1 v1 hs1 hp1 hr1 => ?_⟩
    have hg' : rPart 8 L = some (r, n) := hg
    have hq : rRead (.str L) = if n = L.length ∧ r.th.isRcp = true then some r else none := by
      show (match rPart 8 L with | none => none | some (r, n) => _) = _
      rw [hg']
    have hgood := rPart_good 8 _ _ _ hg'
    refine ⟨p1, _, rfl, SqT.of hp1, rfl, v1, _, rfl, _, _, rfl, rfl, ?_⟩
    refine ⟨_, rfl, _, rfl, _, rfl, hl, rfl, _, rfl, ?_⟩
    rw [SX.S_len]
    by_cases hn : n = L.length
    · refine not_true_eq (decide_eq_true (by rw [hn, Nat.zero_add])) ?_
      refine ⟨_, rfl, v1, r.th, rfl, hr1.data, Rcp.tame hgood, fun H2 hs2 => ⟨_, rfl, ?_⟩⟩
      cases hi : r.th.isRcp with
      | true =>
        refine iteF ?_
        exact ⟨_, rfl, q r (by rw [hq, if_pos ⟨hn, hi⟩]) hgood _ v1 (hs1.trans hs2) (hr1.same hs2)⟩
      | false =>
        refine iteT ?_
        exact qe (by rw [hq, if_neg (fun z => by rw [hi] at z; cases z.2)]) _ (hs1.trans hs2)
    · refine not_false_eq (decide_eq_false fun z => hn (by
        have z' : ((0 + n : Nat) : Int) = ((L.length : Nat) : Int) := V.int.inj z
        omega)) ?_
      exact iteT (qe (by rw [hq, if_neg (fun z => hn z.1)]) _ hs1)
  | _ => exact iteT (qe rfl _ (Same.refl H))
end
/-! ### the text of a recipe is read to it -/
def Free (rest : List Nat) : Prop := ∀ c, rest.take 1 = [c] → isLt c = false ∧ isFg c = false
theorem tw_app (p : Nat → Bool) : ∀ (s rest : List Nat), (∀ c ∈ s, p c = true) → (∀ c, rest.take 1 = [c] → p c = false) → (s ++ rest).takeWhile p = s
  | [], rest, _, h => by
    cases rest with
    | nil => rfl
    | cons c r =>
      show (c :: r).takeWhile p = []
      rw [List.takeWhile_cons, h c rfl]
      rfl
  | a :: s, rest, hs, h => by
    show (a :: (s ++ rest)).takeWhile p = a :: s
    rw [List.takeWhile_cons, hs a (List.mem_cons_self ..), tw_app p s rest (fun c hc => hs c (List.mem_cons_of_mem _ hc)) h]
    rfl
theorem num_head : ∀ (b n : Nat), n ≤ b → 1 ≤ n → (TL.numL n).take 1 ≠ [48]
  | 0, n, h, h1 => by omega
  | b + 1, n, h, h1 => by
    by_cases h10 : n < 10
    · rw [TL.numL_lt h10]
      intro z
      have : 48 + n = 48 := List.head_eq_of_cons_eq z
      omega
    · rw [TL.numL_step (by omega)]
      have ih := num_head b (n / 10) (by omega) (by omega)
      cases e : TL.numL (n / 10) with
      | nil => exact absurd e (TL.numL_ne _)
      | cons c r => rw [e] at ih; exact ih
theorem intL_nat (n : Nat) : intL (n : Int) = TL.numL n := TL.tl_num n
theorem lt_of {c : Nat} (h : 97 ≤ c ∧ c ≤ 122) : isLt c = true := by unfold isLt; rw [decide_eq_true h.1, decide_eq_true h.2]; rfl
theorem fg_of {c : Nat} (h : 48 ≤ c ∧ c ≤ 57) : isFg c = true := by unfold isFg; rw [decide_eq_true h.1, decide_eq_true h.2]; rfl
theorem fg_not {c : Nat} (h : ¬ (48 ≤ c ∧ c ≤ 57)) : isFg c = false := by
  unfold isFg
  by_cases h1 : 48 ≤ c
  · rw [decide_eq_false (show ¬ c ≤ 57 from fun z => h ⟨h1, z⟩), Bool.and_false]
  · rw [decide_eq_false h1]; rfl
theorem lt_not {c : Nat} (h : ¬ (97 ≤ c ∧ c ≤ 122)) : isLt c = false := by
  unfold isLt
  by_cases h1 : 97 ≤ c
  · rw [decide_eq_false (show ¬ c ≤ 122 from fun z => h ⟨h1, z⟩), Bool.and_false]
  · rw [decide_eq_false h1]; rfl
theorem free_of {c : Nat} {r : List Nat} (h1 : ¬ (97 ≤ c ∧ c ≤ 122)) (h2 : ¬ (48 ≤ c ∧ c ≤ 57)) : Free (c :: r) := fun d e => by
  have : c = d := List.head_eq_of_cons_eq e
  rw [← this]
  exact ⟨lt_not h1, fg_not h2⟩
theorem num_txt {m : Nat} (hm : m < 10 ^ 40) {rest : List Nat} (hf : Free rest) (g : Nat) (hg : g = 0 ∨ (g = 1 ∧ 1 ≤ m)) (L : List Nat) (hL : L = (if g = 1 then [45] else []) ++ (TL.numL m ++ rest)) :
    rNum L = some (.num (if g = 1 then -(m : Int) else m), g + (TL.numL m).length) ∧ L.take 1 ≠ [40] ∧ L.take 1 ≠ [91] ∧ ¬ (L.take 1).any isLt = true := by
  obtain ⟨c, r, hcr⟩ : ∃ c r, TL.numL m = c :: r := by
    cases e : TL.numL m with
    | nil => exact absurd e (TL.numL_ne _)
    | cons c r => exact ⟨c, r, rfl⟩
  have hdig := TL.numL_digits m
  have hc := hdig c (by rw [hcr]; exact List.mem_cons_self ..)
  have hlen : (TL.numL m).length ≤ 40 := TL.numL_len (by decide) hm
  have hlen1 : 1 ≤ (TL.numL m).length := by rw [hcr]; exact Nat.succ_le_succ (Nat.zero_le _)
  have hs : sgn L = g := by
    unfold sgn
    rw [hL]
    rcases hg with rfl | ⟨rfl, _⟩
    · rw [hcr, if_neg]
      intro z
      have : c = 45 := List.head_eq_of_cons_eq z
      omega
    · rfl
  have hfig : figs L = TL.numL m := by
    unfold figs
    rw [hs]
    have : L.drop g = TL.numL m ++ rest := by
      rw [hL]
      rcases hg with rfl | ⟨rfl, _⟩
      · rfl
      · rfl
    rw [this]
    exact tw_app isFg _ _ (fun c hc => fg_of (hdig c hc)) fun c hc => (hf c hc).2
  have h0 : ¬ ((TL.numL m).take 1 = [48] ∧ (1 < (TL.numL m).length ∨ 0 < g)) := by
    rintro ⟨h1, h2⟩
    by_cases m0 : m = 0
    · rw [m0] at h2
      rw [TL.numL_lt (by decide)] at h2
      rcases h2 with h2 | h2
      · exact absurd h2 (by decide)
      · rcases hg with rfl | ⟨_, hm1⟩
        · exact absurd h2 (by decide)
        · omega
    · exact num_head m m (Nat.le_refl _) (by omega) h1
  refine ⟨?_, ?_⟩
  · unfold rNum
    rw [hs, hfig, if_neg (by omega), if_neg h0]
    rw [show digVal (TL.numL m) = m from TL.numL_val m]
  · rw [hL]
    rcases hg with rfl | ⟨rfl, _⟩
    · rw [hcr]
      refine ⟨fun z => ?_, fun z => ?_, fun z => ?_⟩
      · have : c = 40 := List.head_eq_of_cons_eq z
        omega
      · have : c = 91 := List.head_eq_of_cons_eq z
        omega
      · have e : isLt c = false := lt_not (by omega)
        have z' : (isLt c || false) = true := z
        rw [e] at z'
        cases z'
    · exact ⟨fun z => absurd (List.head_eq_of_cons_eq (show 45 :: ([] : List Nat) = [40] from z)) (by decide), fun z => absurd (List.head_eq_of_cons_eq (show 45 :: ([] : List Nat) = [91] from z)) (by decide), by show ¬ ([45] : List Nat).any isLt = true; decide⟩
theorem intL_neg {m : Nat} (h : 1 ≤ m) : intL (-(m : Int)) = 45 :: TL.numL m := by
  have hn : (-(m : Int)) < 0 := by omega
  unfold intL
  rw [PyProof.Rows.toString_neg hn, show (0 - -(m : Int)) = (m : Int) by omega]
  rw [← TL.tl_num m]
  show (Str.ofString ("-" ++ toString (m : Int))).cps.toList = 45 :: (Str.ofString (toString (m : Int))).cps.toList
  rw [Str.ofString_eq_toList, Str.ofString_eq_toList]
  simp
def Rcp.chooses : Rcp → Nat
  | .choose a _ => a.chooses + 1
  | _ => 0
theorem spl_names {ns : List (List Nat)} (h : Nms ns) : TL.spl [44] 0 [] (TL.joinL [44] ns) = ns := by
  refine TL.spl_join (s := 44) (S := []) ?_ fun p hp hm => ?_
  · intro e
    have := h.1
    rw [e] at this
    exact absurd this (by decide)
  · have := (h.2.2 p hp).2.2 44 hm
    omega
theorem names_signs : ∀ {ns : List (List Nat)}, (∀ s ∈ ns, Nm s) → ∀ c ∈ TL.joinL [44] ns, (isLt c || decide (c = 44)) = true
  | [], _, c, hc => by cases hc
  | [p], h, c, hc => by
    have hc' : c ∈ p := hc
    rw [lt_of ((h p (List.mem_singleton.mpr rfl)).2.2 c hc')]
    rfl
  | p :: q :: r, h, c, hc => by
    have hc' : c ∈ p ++ ([44] ++ TL.joinL [44] (q :: r)) := hc
    rcases List.mem_append.mp hc' with m | m
    · rw [lt_of ((h p (List.mem_cons_self ..)).2.2 c m)]
      rfl
    · rcases List.mem_append.mp m with m | m
      · rw [List.mem_singleton.mp m]
        rfl
      · exact names_signs (fun s hs => h s (List.mem_cons_of_mem _ hs)) c m
theorem chooses_le : ∀ r : Rcp, r.chooses ≤ r.txt.length
  | .num _ => Nat.zero_le _
  | .read _ => Nat.zero_le _
  | .two _ _ _ => Nat.zero_le _
  | .pick _ _ _ => Nat.zero_le _
  | .choose a ns => by
    have := chooses_le a
    show a.chooses + 1 ≤ (a.txt ++ (123 :: (TL.joinL [44] ns ++ [125]))).length
    rw [List.length_append, List.length_cons]
    omega
theorem drop_len (a b : List Nat) (n : Nat) (h : n = a.length) : (a ++ b).drop n = b := by rw [h]; exact List.drop_left
def Tells (rp : Rdr) (k : Nat) : Prop := ∀ r : Rcp, r.Good → r.dep ≤ k → ∀ rest, Free rest → rest.take 1 ≠ [123] → rp (r.txt ++ rest) = some (r, r.txt.length)
theorem sign_word (k : Kd) : twoWord [32, k.sign, 32] = some k := by cases k <;> rfl
theorem base_txt {rp : Rdr} {k : Nat} (ht : Tells rp k) : ∀ r : Rcp, r.Good → r.dep ≤ k + 1 → ∀ rest, Free rest → ∃ r0 n0, rBase rp (r.txt ++ rest) = some (r0, n0) ∧ ∀ f, rTail (f + r.chooses) (r.txt ++ rest) r0 n0 = rTail f (r.txt ++ rest) r r.txt.length
  | .num n, hg, _, rest, hf => by
    have hgn : n.natAbs < 10 ^ 40 := hg
    refine ⟨.num n, (intL n).length, ?_, fun f => rfl⟩
    show rBase rp (intL n ++ rest) = _
    have key : ∀ (g m : Nat), m < 10 ^ 40 → (g = 0 ∨ (g = 1 ∧ 1 ≤ m)) → n = (if g = 1 then -(m : Int) else m) → intL n = (if g = 1 then [45] else []) ++ TL.numL m → rBase rp (intL n ++ rest) = some (.num n, (intL n).length) := fun g m hm hgm hn he => by
      obtain ⟨h1, h2, h3, h4⟩ := num_txt hm hf g hgm (intL n ++ rest) (by rw [he, List.append_assoc])
      unfold rBase
      rw [if_neg h2, if_neg h3, if_neg h4, h1, ← hn, he, List.length_append]
      congr 3
      rcases hgm with rfl | ⟨rfl, _⟩ <;> rfl
    by_cases h0 : 0 ≤ n
    · obtain ⟨m, rfl⟩ := Int.eq_ofNat_of_zero_le h0
      exact key 0 m (by omega) (.inl rfl) rfl (intL_nat m)
    · obtain ⟨m, hm⟩ := Int.eq_ofNat_of_zero_le (show 0 ≤ -n by omega)
      have hn : n = -(m : Int) := by omega
      refine key 1 m (by omega) (.inr ⟨rfl, by omega⟩) hn ?_
      rw [hn]
      exact intL_neg (by omega)
  | .read s, hg, _, rest, hf => by
    have hgs : Nm s := hg
    refine ⟨.read s, s.length, ?_, fun f => rfl⟩
    show rBase rp (s ++ rest) = _
    obtain ⟨c, s', hcs⟩ : ∃ c s', s = c :: s' := by
      cases s with
      | nil => exact absurd hgs.1 (by decide)
      | cons c s' => exact ⟨c, s', rfl⟩
    have hc := hgs.2.2 c (by rw [hcs]; exact List.mem_cons_self ..)
    have htk : (s ++ rest).take 1 = [c] := by rw [hcs]; rfl
    have htw : (s ++ rest).takeWhile isLt = s := tw_app isLt s rest (fun c hc => lt_of (hgs.2.2 c hc)) fun c hc => (hf c hc).1
    unfold rBase
    rw [htk, if_neg (fun z => by have : c = 40 := List.head_eq_of_cons_eq z; omega), if_neg (fun z => by have : c = 91 := List.head_eq_of_cons_eq z; omega), if_pos (by show (isLt c || false) = true; rw [lt_of hc]; rfl)]
    unfold rName
    rw [htw, if_pos (nmOk_iff.mpr hgs)]
  | .two kd a b, hg, hd, rest, hf => by
    have hd' : max a.dep b.dep + 1 ≤ k + 1 := hd
    refine ⟨.two kd a b, (Rcp.two kd a b).txt.length, ?_, fun f => rfl⟩
    have hL : (Rcp.two kd a b).txt ++ rest = 40 :: (a.txt ++ (32 :: kd.sign :: 32 :: (b.txt ++ (41 :: rest)))) := by
      show 40 :: (a.txt ++ (32 :: kd.sign :: 32 :: (b.txt ++ [41]))) ++ rest = _
      simp
    have hlen : (Rcp.two kd a b).txt.length = 1 + (a.txt.length + 3 + b.txt.length + 1) := by
      show (40 :: (a.txt ++ (32 :: kd.sign :: 32 :: (b.txt ++ [41])))).length = _
      simp
      omega
    have h1 := ht a hg.1 (by omega) (32 :: kd.sign :: 32 :: (b.txt ++ (41 :: rest))) (free_of (by decide) (by decide)) (fun z => absurd (List.head_eq_of_cons_eq z) (by decide))
    have h2 := ht b hg.2 (by omega) (41 :: rest) (free_of (by decide) (by decide)) (fun z => absurd (List.head_eq_of_cons_eq z) (by decide))
    have d1 : (a.txt ++ (32 :: kd.sign :: 32 :: (b.txt ++ (41 :: rest)))).drop a.txt.length = 32 :: kd.sign :: 32 :: (b.txt ++ (41 :: rest)) := List.drop_left
    have d2 : (a.txt ++ (32 :: kd.sign :: 32 :: (b.txt ++ (41 :: rest)))).drop (a.txt.length + 3) = b.txt ++ (41 :: rest) := by rw [← List.drop_drop, d1]; rfl
    have d3 : (a.txt ++ (32 :: kd.sign :: 32 :: (b.txt ++ (41 :: rest)))).drop (a.txt.length + 3 + b.txt.length) = 41 :: rest := by rw [← List.drop_drop, d2]; exact List.drop_left
    have hT : rTwo rp (a.txt ++ (32 :: kd.sign :: 32 :: (b.txt ++ (41 :: rest)))) = some (.two kd a b, a.txt.length + 3 + b.txt.length + 1) := by
      unfold rTwo
      rw [h1]
      dsimp only
      rw [d1, show (32 :: kd.sign :: 32 :: (b.txt ++ (41 :: rest))).take 3 = [32, kd.sign, 32] from rfl, sign_word]
      dsimp only
      rw [d2, h2]
      dsimp only
      rw [d3, if_pos (show (41 :: rest).take 1 = [41] from rfl)]
    rw [hL, hlen]
    unfold rBase
    rw [if_pos (show (40 :: (a.txt ++ (32 :: kd.sign :: 32 :: (b.txt ++ (41 :: rest))))).take 1 = [40] from rfl)]
    show more 1 (rTwo rp (a.txt ++ (32 :: kd.sign :: 32 :: (b.txt ++ (41 :: rest))))) = _
    rw [hT]
    rfl
  | .pick a b c, hg, hd, rest, hf => by
    have hd' : max a.dep (max b.dep c.dep) + 1 ≤ k + 1 := hd
    refine ⟨.pick a b c, (Rcp.pick a b c).txt.length, ?_, fun f => rfl⟩
    have hL : (Rcp.pick a b c).txt ++ rest = 91 :: (a.txt ++ (32 :: 63 :: 32 :: (b.txt ++ (32 :: 58 :: 32 :: (c.txt ++ (93 :: rest)))))) := by
      show 91 :: (a.txt ++ (32 :: 63 :: 32 :: (b.txt ++ (32 :: 58 :: 32 :: (c.txt ++ [93]))))) ++ rest = _
      simp
    have hlen : (Rcp.pick a b c).txt.length = 1 + (a.txt.length + 3 + b.txt.length + 3 + c.txt.length + 1) := by
      show (91 :: (a.txt ++ (32 :: 63 :: 32 :: (b.txt ++ (32 :: 58 :: 32 :: (c.txt ++ [93])))))).length = _
      simp
      omega
    have h1 := ht a hg.1 (by omega) (32 :: 63 :: 32 :: (b.txt ++ (32 :: 58 :: 32 :: (c.txt ++ (93 :: rest))))) (free_of (by decide) (by decide)) (fun z => absurd (List.head_eq_of_cons_eq z) (by decide))
    have h2 := ht b hg.2.1 (by omega) (32 :: 58 :: 32 :: (c.txt ++ (93 :: rest))) (free_of (by decide) (by decide)) (fun z => absurd (List.head_eq_of_cons_eq z) (by decide))
    have h3 := ht c hg.2.2 (by omega) (93 :: rest) (free_of (by decide) (by decide)) (fun z => absurd (List.head_eq_of_cons_eq z) (by decide))
    generalize hM : a.txt ++ (32 :: 63 :: 32 :: (b.txt ++ (32 :: 58 :: 32 :: (c.txt ++ (93 :: rest))))) = M at *
    have d1 : M.drop a.txt.length = 32 :: 63 :: 32 :: (b.txt ++ (32 :: 58 :: 32 :: (c.txt ++ (93 :: rest)))) := by rw [← hM]; exact List.drop_left
    have d2 : M.drop (a.txt.length + 3) = b.txt ++ (32 :: 58 :: 32 :: (c.txt ++ (93 :: rest))) := by rw [← List.drop_drop, d1]; rfl
    have d3 : M.drop (a.txt.length + 3 + b.txt.length) = 32 :: 58 :: 32 :: (c.txt ++ (93 :: rest)) := by rw [← List.drop_drop, d2]; exact List.drop_left
    have d4 : M.drop (a.txt.length + 3 + b.txt.length + 3) = c.txt ++ (93 :: rest) := by rw [← List.drop_drop, d3]; rfl
    have d5 : M.drop (a.txt.length + 3 + b.txt.length + 3 + c.txt.length) = 93 :: rest := by rw [← List.drop_drop, d4]; exact List.drop_left
    have hT : rPick rp M = some (.pick a b c, a.txt.length + 3 + b.txt.length + 3 + c.txt.length + 1) := by
      unfold rPick
      rw [h1]
      dsimp only
      rw [d1, if_pos (show (32 :: 63 :: 32 :: (b.txt ++ (32 :: 58 :: 32 :: (c.txt ++ (93 :: rest))))).take 3 = [32, 63, 32] from rfl), d2, h2]
      dsimp only
      rw [d3, if_pos (show (32 :: 58 :: 32 :: (c.txt ++ (93 :: rest))).take 3 = [32, 58, 32] from rfl), d4, h3]
      dsimp only
      rw [d5, if_pos (show (93 :: rest).take 1 = [93] from rfl)]
    rw [hL, hlen]
    unfold rBase
    rw [if_neg (show ¬ (91 :: M).take 1 = [40] from fun z => absurd (List.head_eq_of_cons_eq z) (by decide)), if_pos (show (91 :: M).take 1 = [91] from rfl)]
    show more 1 (rPick rp M) = _
    rw [hT]
    rfl
  | .choose a ns, hg, hd, rest, hf => by
    have hd' : a.dep + 1 ≤ k + 1 := hd
    have hns : Nms ns := hg.2
    obtain ⟨r0, n0, h1, h2⟩ := base_txt ht a hg.1 (by omega) (123 :: (TL.joinL [44] ns ++ (125 :: rest))) (free_of (by decide) (by decide))
    have hL : (Rcp.choose a ns).txt ++ rest = a.txt ++ (123 :: (TL.joinL [44] ns ++ (125 :: rest))) := by
      show (a.txt ++ (123 :: (TL.joinL [44] ns ++ [125]))) ++ rest = _
      simp
    refine ⟨r0, n0, by rw [hL]; exact h1, fun f => ?_⟩
    have hlen : (Rcp.choose a ns).txt.length = a.txt.length + 1 + (TL.joinL [44] ns).length + 1 := by
      show (a.txt ++ (123 :: (TL.joinL [44] ns ++ [125]))).length = _
      simp
      omega
    have e : f + (Rcp.choose a ns).chooses = (f + 1) + a.chooses := by
      show f + (a.chooses + 1) = _
      omega
    rw [hL, hlen, e, h2]
    generalize hM : a.txt ++ (123 :: (TL.joinL [44] ns ++ (125 :: rest))) = M
    have d1 : M.drop a.txt.length = 123 :: (TL.joinL [44] ns ++ (125 :: rest)) := by rw [← hM]; exact List.drop_left
    have d2 : M.drop (a.txt.length + 1) = TL.joinL [44] ns ++ (125 :: rest) := by rw [← List.drop_drop, d1]; rfl
    have d3 : M.drop (a.txt.length + 1 + (TL.joinL [44] ns).length) = 125 :: rest := by rw [← List.drop_drop, d2]; exact List.drop_left
    have hnm : nmSigns (TL.joinL [44] ns ++ (125 :: rest)) = TL.joinL [44] ns := by
      refine tw_app _ _ _ (names_signs hns.2.2) fun c hc => ?_
      have : 125 = c := List.head_eq_of_cons_eq hc
      rw [← this]
      rfl
    show (if (M.drop a.txt.length).take 1 = [123] then _ else _) = _
    rw [d2, hnm, spl_names hns, d3, d1, if_pos (show (123 :: (TL.joinL [44] ns ++ (125 :: rest))).take 1 = [123] from rfl), if_pos (nms_are hns), if_pos (show (125 :: rest).take 1 = [125] from rfl)]
theorem part_txt : ∀ k : Nat, Tells (rPart k) k
  | 0 => fun r _ hd => by have := dep_pos r; omega
  | k + 1 => fun r hg hd rest hf hb => by
    obtain ⟨r0, n0, h1, h2⟩ := base_txt (part_txt k) r hg hd rest hf
    have hle : r.chooses ≤ (r.txt ++ rest).length := by
      have := chooses_le r
      rw [List.length_append]
      omega
    have h3 := h2 ((r.txt ++ rest).length - r.chooses)
    rw [Nat.sub_add_cancel hle] at h3
    show (match rBase (rPart k) (r.txt ++ rest) with | none => none | some (r1, n1) => rTail (r.txt ++ rest).length (r.txt ++ rest) r1 n1) = _
    rw [h1]
    dsimp only
    rw [h3]
    cases (r.txt ++ rest).length - r.chooses with
    | zero => rfl
    | succ f =>
      show (if ((r.txt ++ rest).drop r.txt.length).take 1 = [123] then _ else _) = _
      rw [if_neg]
      rw [List.drop_left]
      exact hb
/-- the text told of a recipe is read back to it -/
theorem rRead_txt {r : Rcp} (hg : r.Good) (hd : r.dep ≤ 8) (hs : r.siz ≤ 100) : rRead (.str r.txt) = some r := by
  have h := part_txt 8 r hg hd [] (fun c hc => by cases hc) (fun z => by cases z)
  rw [List.append_nil] at h
  show (match rPart 8 r.txt with | none => none | some (r', n) => if n = r.txt.length ∧ r'.th.isRcp = true then some r' else none) = some r
  rw [h]
  dsimp only
  rw [if_pos ⟨rfl, Rcp.isRcp hg hd hs⟩]
/-! ### what is read has that text -/
theorem spl_some (z acc : List Nat) : TL.spl [44] 0 acc z ≠ [] := by
  induction z generalizing acc with
  | nil => rw [TL.spl_nil]; exact List.cons_ne_nil _ _
  | cons c z ih =>
    by_cases hpre : TL.pre [44] (c :: z) = true
    · rw [TL.spl_hit hpre]; exact List.cons_ne_nil _ _
    · rw [TL.spl_miss (Bool.eq_false_iff.mpr hpre)]; exact ih _
theorem joinL_cons {p : List Nat} {l : List (List Nat)} (h : l ≠ []) : TL.joinL [44] (p :: l) = p ++ (44 :: TL.joinL [44] l) := by
  cases l with
  | nil => exact absurd rfl h
  | cons q r => rfl
theorem pre_comma {c : Nat} {z : List Nat} (h : TL.pre [44] (c :: z) = true) : c = 44 := Decidable.byContradiction fun n => by
  have e : TL.pre [44] (c :: z) = false := TL.pre_of_head [] z n
  rw [h] at e
  cases e
theorem join_spl (z acc : List Nat) : TL.joinL [44] (TL.spl [44] 0 acc z) = acc ++ z := by
  induction z generalizing acc with
  | nil => rw [TL.spl_nil, List.append_nil]; rfl
  | cons c z ih =>
    by_cases hpre : TL.pre [44] (c :: z) = true
    · rw [TL.spl_hit hpre, show ([44] : List Nat).length - 1 = 0 from rfl, joinL_cons (spl_some z []), ih, pre_comma hpre]
      rfl
    · rw [TL.spl_miss (Bool.eq_false_iff.mpr hpre), ih, List.append_assoc]
      rfl
def RevOk (g : Rdr) : Prop := ∀ l r n, g l = some (r, n) → l.take n = r.txt
theorem take_two {l : List Nat} {a b : Nat} {x y : List Nat} (h1 : l.take a = x) (h2 : (l.drop a).take b = y) : l.take (a + b) = x ++ y := by
  rw [List.take_add, h1, h2]
theorem rName_rev : RevOk rName := fun l r n h => by
  unfold rName at h
  by_cases c : nmOk (l.takeWhile isLt) = true
  · rw [if_pos c] at h
    cases h
    exact take_while _ _
  · rw [if_neg c] at h; cases h
theorem numL_back {cs : List Nat} (h1 : ∀ c ∈ cs, 48 ≤ c ∧ c ≤ 57) (h2 : 1 ≤ cs.length) (h3 : cs.length = 1 ∨ cs.take 1 ≠ [48]) : TL.numL (digVal cs) = cs := by
  obtain ⟨c, r, rfl⟩ : ∃ c r, cs = c :: r := by
    cases cs with
    | nil => exact absurd h2 (by decide)
    | cons c r => exact ⟨c, r, rfl⟩
  have hc := h1 c (List.mem_cons_self ..)
  have e := NumText.toDigits_digitsVal r.length (c :: r) rfl h1 (by
    rcases h3 with h3 | h3
    · left
      have : r.length + 1 = 1 := h3
      omega
    · right
      refine ⟨c, r, rfl, ?_⟩
      have : c ≠ 48 := fun z => h3 (by rw [z]; rfl)
      omega)
  unfold TL.numL
  rw [show Nat.toDigits 10 (digVal (c :: r)) = (c :: r).map Char.ofNat from e, List.map_map]
  have hid : ∀ l : List Nat, (∀ x ∈ l, 48 ≤ x ∧ x ≤ 57) → l.map (Char.toNat ∘ Char.ofNat) = l := by
    intro l
    induction l with
    | nil => intro _; rfl
    | cons x l ih =>
      intro hl
      rw [List.map_cons, ih fun y hy => hl y (List.mem_cons_of_mem _ hy)]
      congr 1
      have hx := hl x (List.mem_cons_self ..)
      have : x = 48 ∨ x = 49 ∨ x = 50 ∨ x = 51 ∨ x = 52 ∨ x = 53 ∨ x = 54 ∨ x = 55 ∨ x = 56 ∨ x = 57 := by omega
      rcases this with rfl | rfl | rfl | rfl | rfl | rfl | rfl | rfl | rfl | rfl <;> rfl
  exact hid _ h1
theorem rNum_rev : RevOk rNum := fun l r n h => by
  unfold rNum at h
  by_cases c : (figs l).length < 1 ∨ 40 < (figs l).length
  · rw [if_pos c] at h; cases h
  rw [if_neg c] at h
  by_cases c2 : (figs l).take 1 = [48] ∧ (1 < (figs l).length ∨ 0 < sgn l)
  · rw [if_pos c2] at h; cases h
  rw [if_neg c2] at h
  cases h
  have hb : TL.numL (digVal (figs l)) = figs l := numL_back (figs_dig l) (by omega) (by
    by_cases h1 : (figs l).length = 1
    · exact .inl h1
    · exact .inr fun z => c2 ⟨z, .inl (by omega)⟩)
  have hfg : (l.drop (sgn l)).take (figs l).length = figs l := take_while isFg _
  by_cases s1 : l.take 1 = [45]
  · have hs : sgn l = 1 := by unfold sgn; rw [if_pos s1]
    have hpos : 1 ≤ digVal (figs l) := Decidable.byContradiction fun z => by
      have z0 : digVal (figs l) = 0 := by omega
      rw [z0, TL.numL_lt (by decide)] at hb
      exact c2 ⟨by rw [← hb]; rfl, .inr (by omega)⟩
    rw [hs] at hfg ⊢
    rw [take_two s1 hfg, if_pos rfl]
    show _ = intL (-((digVal (figs l) : Nat) : Int))
    rw [intL_neg hpos, hb]
    rfl
  · have hs : sgn l = 0 := by unfold sgn; rw [if_neg s1]
    rw [hs] at hfg ⊢
    rw [Nat.zero_add, if_neg (by decide)]
    show _ = intL ((digVal (figs l) : Nat) : Int)
    rw [intL_nat, hb]
    exact hfg
theorem two_sign {z : List Nat} {k : Kd} (h : twoWord z = some k) : z = [32, k.sign, 32] := by
  unfold twoWord at h
  split at h
  · rename_i e; cases h; exact e
  split at h
  · rename_i e; cases h; exact e
  split at h
  · rename_i e; cases h; exact e
  split at h
  · rename_i e; cases h; exact e
  · cases h
theorem rTwo_rev {rp : Rdr} (g : RevOk rp) : ∀ l r n, rTwo rp l = some (r, n) → 40 :: l.take n = r.txt := fun l r n h => by
  unfold rTwo at h
  split at h
  · cases h
  · rename_i a n1 h1
    split at h
    · cases h
    · rename_i w hw
      split at h
      · cases h
      · rename_i b m h2
        split at h
        · rename_i h3
          cases h
          rw [take_two (take_two (take_two (g _ _ _ h1) (two_sign hw)) (g _ _ _ h2)) h3]
          show _ = 40 :: (a.txt ++ (32 :: w.sign :: 32 :: (b.txt ++ [41])))
          simp
        · cases h
theorem rPick_rev {rp : Rdr} (g : RevOk rp) : ∀ l r n, rPick rp l = some (r, n) → 91 :: l.take n = r.txt := fun l r n h => by
  unfold rPick at h
  split at h
  · cases h
  · rename_i a n1 h1
    split at h
    · rename_i k1
      split at h
      · cases h
      · rename_i b m h2
        split at h
        · rename_i k2
          split at h
          · cases h
          · rename_i c o h3
            split at h
            · rename_i k3
              cases h
              rw [take_two (take_two (take_two (take_two (take_two (g _ _ _ h1) k1) (g _ _ _ h2)) k2) (g _ _ _ h3)) k3]
              show _ = 91 :: (a.txt ++ (32 :: 63 :: 32 :: (b.txt ++ (32 :: 58 :: 32 :: (c.txt ++ [93])))))
              simp
            · cases h
        · cases h
    · cases h
theorem more_is {d : Nat} {x : Option (Rcp × Nat)} {r : Rcp} {n : Nat} (h : more d x = some (r, n)) : ∃ m, x = some (r, m) ∧ n = d + m := by
  cases x with
  | none => cases h
  | some p =>
    obtain ⟨r', m⟩ := p
    cases h
    exact ⟨m, rfl, rfl⟩
theorem rBase_rev {rp : Rdr} (g : RevOk rp) : RevOk (rBase rp) := fun l r n h => by
  unfold rBase at h
  split at h
  · rename_i k
    obtain ⟨m, e, rfl⟩ := more_is h
    rw [take_two k rfl, ← rTwo_rev g _ _ _ e]
    rfl
  · split at h
    · rename_i k
      obtain ⟨m, e, rfl⟩ := more_is h
      rw [take_two k rfl, ← rPick_rev g _ _ _ e]
      rfl
    · split at h
      · exact rName_rev _ _ _ h
      · exact rNum_rev _ _ _ h
theorem rTail_rev : ∀ (f : Nat) (l : List Nat) (r0 : Rcp) (n0 : Nat) (r : Rcp) (n : Nat), l.take n0 = r0.txt → rTail f l r0 n0 = some (r, n) → l.take n = r.txt
  | 0, l, r0, n0, r, n, hg, h => by cases h; exact hg
  | f + 1, l, r0, n0, r, n, hg, h => by
    unfold rTail at h
    split at h
    · rename_i k1
      split at h
      · split at h
        · rename_i k2
          refine rTail_rev f l _ _ r n ?_ h
          have k3 : (l.drop (n0 + 1)).take (nmSigns (l.drop (n0 + 1))).length = nmSigns (l.drop (n0 + 1)) := take_while _ _
          rw [take_two (take_two (take_two hg k1) k3) k2]
          show _ = r0.txt ++ (123 :: (TL.joinL [44] (TL.spl [44] 0 [] (nmSigns (l.drop (n0 + 1)))) ++ [125]))
          rw [join_spl]
          simp
        · cases h
      · cases h
    · cases h; exact hg
/-- what is read of a text's beginning has that beginning for its text -/
theorem rPart_rev : ∀ k, RevOk (rPart k)
  | 0 => fun l r n h => by cases h
  | k + 1 => fun l r n h => by
    unfold rPart at h
    split at h
    · cases h
    · rename_i r1 n1 h1
      exact rTail_rev _ _ _ _ _ _ (rBase_rev (rPart_rev k) _ _ _ h1) h
/-- a text that is let by is the text of what it is read to -/
theorem rRead_rev {T : List Nat} {r : Rcp} (h : rRead (.str T) = some r) : T = r.txt ∧ r.Good ∧ r.th.isRcp = true := by
  have h' : (match rPart 8 T with | none => none | some (r, n) => if n = T.length ∧ r.th.isRcp = true then some r else none) = some r := h
  split at h'
  · cases h'
  · rename_i r1 n h1
    split at h'
    · rename_i k
      cases h'
      have := rPart_rev 8 _ _ _ h1
      rw [k.1, List.take_length] at this
      exact ⟨this, rPart_good 8 _ _ _ h1, k.2⟩
    · cases h'
/-! ### the words of sums as a written dict -/
theorem words_no {K : PySem.W.Frag} {wd : Addr} {n : Nat} {h1 h2 h3 h4 : Int} {t1 t2 t3 t4 : Tok} {v1 v2 v3 v4 : Value} (hl : K.lookup wd = some ⟨.type "dict", none, .dict #[⟨h1, .str " + " t1, v1⟩, ⟨h2, .str " - " t2, v2⟩, ⟨h3, .str " * " t3, v3⟩, ⟨h4, .str " ^ " t4, v4⟩] n, #[]⟩) (z : List Nat) (hz : twoWord z = none) :
    PySem.W.nsIn K wd (SX.S z) = some none := by
  have ne : ∀ (lit : Str) (wz : List Nat), lit = SX.S wz → z ≠ wz → (lit == SX.S z) = false := fun lit wz e h => by
    rw [e, SX.S_beq]
    exact beq_eq_false_iff_ne.mpr fun q => h q.symm
  have n1 : z ≠ [32, 43, 32] := fun e => by rw [e] at hz; cases hz
  have n2 : z ≠ [32, 45, 32] := fun e => by rw [e] at hz; cases hz
  have n3 : z ≠ [32, 42, 32] := fun e => by rw [e] at hz; cases hz
  have n4 : z ≠ [32, 94, 32] := fun e => by rw [e] at hz; cases hz
  have e1 : (Value.str " + " t1).isStr (SX.S z) = false := ne " + " _ (by decide +kernel) n1
  have e2 : (Value.str " - " t2).isStr (SX.S z) = false := ne " - " _ (by decide +kernel) n2
  have e3 : (Value.str " * " t3).isStr (SX.S z) = false := ne " * " _ (by decide +kernel) n3
  have e4 : (Value.str " ^ " t4).isStr (SX.S z) = false := ne " ^ " _ (by decide +kernel) n4
  unfold PySem.W.nsIn
  rw [hl]
  show (match List.find? (fun e : DictEntry => e.key.isStr (SX.S z)) [⟨h1, .str " + " t1, v1⟩, ⟨h2, .str " - " t2, v2⟩, ⟨h3, .str " * " t3, v3⟩, ⟨h4, .str " ^ " t4, v4⟩] with | some e => some (some e.val) | none => _) = _
  rw [List.find?_cons_of_neg (by rw [e1]; exact Bool.false_ne_true), List.find?_cons_of_neg (by rw [e2]; exact Bool.false_ne_true), List.find?_cons_of_neg (by rw [e3]; exact Bool.false_ne_true), List.find?_cons_of_neg (by rw [e4]; exact Bool.false_ne_true)]
  rfl
theorem two_yes {z : List Nat} {k : Kd} (h : twoWord z = some k) : z = [32, k.sign, 32] := by
  unfold twoWord at h
  split at h
  · rename_i e; cases h; exact e
  split at h
  · rename_i e; cases h; exact e
  split at h
  · rename_i e; cases h; exact e
  split at h
  · rename_i e; cases h; exact e
  · cases h
/-! ### the deck of drawn cells -/
/-- at d a deck, what B tracks besides stands -/
def DeckAt (B H : Hp) (d : Addr) : Prop := Same B H ∧ B d = none ∧ ∃ (c : Addr) (m n : Int) (ns : List Int), B c = none ∧ H d = some (.lst [.ref c, .int m, .int n]) ∧ H c = some (.lst (ns.map V.int)) ∧ 0 < ns.length ∧ ns.length ≤ 63
def spDraw : Sp := fun vs H Q _ => ∃ (B : Hp) (d : Addr) (many : Int), vs = [.ref d, .int many] ∧ DeckAt B H d ∧ 0 < many ∧ many.natAbs < 2 ^ 200 ∧ ∀ (H' : Hp) (v : Int), DeckAt B H' d → 0 ≤ v → v < many → Q (.int v) H'
section
variable {P : Program} {w : World} {K : PySem.W.Frag} {mg : Str → Option Value} {base : Heap}
abbrev s__law_draw : Stmt := topS 31
abbrev N__law_draw : List Str := ["deck", "many", "at", "found", "number"]
theorem sc__law_draw : FnScope N__law_draw ["deck", "many"] (defScope s__law_draw) := ⟨rfl, rfl, rfl, by decide +kernel, rfl, by decide +kernel, by decide +kernel⟩

theorem ok__law_draw (T : Txt K mg) (D : IsDef K mg "_law_draw" s__law_draw ["deck", "many"]) : Cal P w K mg base CX0 1 "_law_draw" ["deck", "many"] spDraw := by
  refine D.cal sc__law_draw (fun vs H Q E h => ?_) (fun f cdv A outer s H vs Q E hr h => ?_)
  · obtain ⟨B, d, many, rfl, _⟩ := h
    rfl
  obtain ⟨B, d, many, rfl, ⟨hs, bd, c, m, n, ns, bc, hd, hc, h0, h63⟩, hp, hm, q⟩ := h
  have dc : d ≠ c := fun e => by
    subst e
    rw [hd] at hc
    cases ns with
    | nil => cases hc
    | cons a r => simp at hc
  have hl : (ns.map V.int).length = ns.length := List.length_map _
  refine ⟨_, (pss_cons (ps_set (i := 2) sc__law_draw.nd rfl (Or.inl rfl) (pe_op op_mod (pe_ix (r := rIxL K) ix_list (pv 0) pe_int (fun _ _ => rfl)) (pe_callB call_len_seq (by rfl) T.b_len PySem.boot_len (pa_cons (pe_ix (r := rIxL K) ix_list (pv 0) pe_int (fun _ _ => rfl)) pa_nil))))
      (pss_cons (ps_asg (pe_op op_add (pe_ix (r := rIxL K) ix_list (pv 0) pe_int (fun _ _ => rfl)) pe_int) (pg_sub (pv 0) pe_int set_list))
      (pss_cons (ps_if (pt_cmpR op_eq (pe_ix (r := rIxL K) ix_list (pv 0) pe_int (fun _ _ => rfl)) pe_int (nomark _))
        (pss_cons (ps_set (i := 3) sc__law_draw.nd rfl (Or.inl rfl) (pe_op op_mod (pe_ix (r := rIxL K) ix_list (pe_ix (r := rIxL K) ix_list (pv 0) pe_int (fun _ _ => rfl)) (pv 2) (fun _ _ => rfl)) (pv 1)))
      (pss_cons (ps_asg (pe_op op_fdivW (pe_ix (r := rIxL K) ix_list (pe_ix (r := rIxL K) ix_list (pv 0) pe_int (fun _ _ => rfl)) (pv 2) (fun _ _ => rfl)) (pv 1)) (pg_sub (pe_ix (r := rIxL K) ix_list (pv 0) pe_int (fun _ _ => rfl)) (pv 2) set_list))
      (pss_one (ps_ret (pv 3)))))
        pss_nil)
      (pss_cons (ps_set (i := 4) sc__law_draw.nd rfl (Or.inl rfl) (pe_op op_mod (pe_op op_add (pe_op op_mul (pe_op op_mod (pe_ix (r := rIxL K) ix_list (pe_ix (r := rIxL K) ix_list (pv 0) pe_int (fun _ _ => rfl)) (pv 2) (fun _ _ => rfl)) pe_int) pe_int) (pe_op op_mul (pe_ix (r := rIxL K) ix_list (pv 0) pe_int (fun _ _ => rfl)) pe_int)) pe_int))
      (pss_cons (ps_set (i := 4) sc__law_draw.nd rfl (Or.inl rfl) (pe_op op_mod (pe_op op_mul (pv 4) (pv 4)) pe_int))
      (pss_one (ps_ret (pe_op op_mod (pe_op op_fdivW (pe_op op_mod (pe_op op_add (pe_op op_mul (pv 4) pe_int) (pe_ix (r := rIxL K) ix_list (pv 0) pe_int (fun _ _ => rfl))) pe_int) pe_int) (pv 1))))))))), ?_⟩
  -- at = deck[2] % len(deck[0])
  refine ⟨_, rfl, d, _, _, _, rfl, rfl, SqL.of hd, rfl, _, rfl, d, _, _, _, rfl, rfl, SqL.of hd, rfl, c, _, rfl, .inl (SqL.of hc), _, _, rfl, rfl, by rw [hl]; omega, ?_⟩
  have a0 : 0 ≤ n % (((ns.map V.int).length : Nat) : Int) := Int.emod_nonneg _ (by rw [hl]; omega)
  have a1 : n % (((ns.map V.int).length : Nat) : Int) < ns.length := by rw [hl]; exact Int.emod_lt_of_pos _ (by omega)
  have a1' : n % (((ns.map V.int).length : Nat) : Int) < (ns.map V.int).length := by rw [hl] at a1 ⊢; exact a1
  obtain ⟨v, hv⟩ := int_at a0 a1
  -- deck[2] = deck[2] + 1
  refine ⟨_, rfl, d, _, _, _, rfl, rfl, SqL.of hd, rfl, _, _, rfl, rfl, _, rfl, d, _, _, _, rfl, rfl, hd, rfl, ?_⟩
  have hd1 : upd H d (.lst [.ref c, .int m, .int (n + 1)]) d = some (.lst [.ref c, .int m, .int (n + 1)]) := upd_same
  have hc1 : upd H d (.lst [.ref c, .int m, .int (n + 1)]) c = some (.lst (ns.map V.int)) := by rw [upd_ne dc.symm]; exact hc
  have hs1 : Same B (upd H d (.lst [.ref c, .int m, .int (n + 1)])) := same_upd hs bd _
  -- if deck[1] == 0
  refine ⟨_, rfl, d, _, _, _, rfl, rfl, SqL.of hd1, rfl, rfl, _, rfl, ?_⟩
  refine ite2 (fun _ => ?_) (fun _ => ?_)
  · refine ⟨_, rfl, d, _, _, _, rfl, rfl, SqL.of hd1, rfl, _, rfl, c, _, _, _, rfl, rfl, SqL.of hc1, hv, _, rfl, _, _, rfl, rfl, hp, ?_⟩
    refine ⟨_, rfl, d, _, _, _, rfl, rfl, SqL.of hd1, rfl, _, rfl, c, _, _, _, rfl, rfl, SqL.of hc1, hv, _, rfl, _, _, rfl, rfl, wide_div hp hm (by decide) (by decide), _, rfl, d, _, _, _, rfl, rfl, SqL.of hd1, rfl, _, rfl, c, _, _, _, rfl, rfl, hc1, ixN_at a0 a1', ?_⟩
    refine ⟨_, rfl, q _ _ ⟨same_upd hs1 bc _, bd, c, m, n + 1, ns.set (n % (((ns.map V.int).length : Nat) : Int)).toNat (v / many), bc, ?_, ?_, ?_, ?_⟩ (Int.emod_nonneg _ (by omega)) (Int.emod_lt_of_pos _ hp)⟩
    · rw [upd_ne dc]; exact hd1
    · rw [upd_same, List.map_set]
    · rw [List.length_set]; exact h0
    · rw [List.length_set]; exact h63
  · refine ⟨_, rfl, d, _, _, _, rfl, rfl, SqL.of hd1, rfl, _, rfl, c, _, _, _, rfl, rfl, SqL.of hc1, hv, _, _, rfl, rfl, (by show (0 : Int) < 1000000007; decide), _, _, rfl, rfl, .inr ⟨by decide, by decide⟩, _, rfl, d, _, _, _, rfl, rfl, SqL.of hd1, rfl, _, _, rfl, rfl, .inr ⟨by decide, by decide⟩, _, _, rfl, rfl, _, _, rfl, rfl, (by show (0 : Int) < 1000000009; decide), ?_⟩
    have y0 : 0 ≤ (v % 1000000007 * 7919 + (n + 1) * 104729) % 1000000009 := Int.emod_nonneg _ (by decide)
    have y1 : (v % 1000000007 * 7919 + (n + 1) * 104729) % 1000000009 < 1000000009 := Int.emod_lt_of_pos _ (by decide)
    refine ⟨_, rfl, _, rfl, _, _, rfl, rfl, .inl ⟨Int.lt_of_lt_of_le (by decide) y0, Int.lt_trans y1 (by decide)⟩, _, _, rfl, rfl, (by show (0 : Int) < _; decide), ?_⟩
    refine ⟨_, rfl, _, _, rfl, rfl, .inr ⟨by decide, by decide⟩, _, rfl, d, _, _, _, rfl, rfl, SqL.of hd1, rfl, _, _, rfl, rfl, _, _, rfl, rfl, (by show (0 : Int) < _; decide), _, _, rfl, rfl, ⟨by decide, by decide +kernel⟩, _, rfl, _, _, rfl, rfl, hp, ?_⟩
    exact q _ _ ⟨hs1, bd, c, m, n + 1, ns, bc, hd1, hc1, h0, h63⟩ (Int.emod_nonneg _ (by omega)) (Int.emod_lt_of_pos _ hp)
end
/-! ### names, numbers and recipes drawn of a deck -/
def spDeck (K : PySem.W.Frag) : Sp := fun vs H Q _ => ∃ (a : Addr) (ns : List Int), vs = [.ref a] ∧ SqL K H a (ns.map V.int) ∧ ns.length ≤ 63 ∧ ∀ (B H' : Hp) (d : Addr), Same H B → DeckAt B H' d → Q (.ref d) H'
def spName : Sp := fun vs H Q _ => ∃ (B : Hp) (d : Addr), vs = [.ref d] ∧ DeckAt B H d ∧ ∀ (B' H' : Hp) (s : List Nat), Same B B' → DeckAt B' H' d → Nm s → Q (.str (SX.S s)) H'
def spNumber : Sp := fun vs H Q _ => ∃ (B : Hp) (d : Addr), vs = [.ref d] ∧ DeckAt B H d ∧ ∀ (H' : Hp) (n : Int), DeckAt B H' d → n.natAbs < 10 ^ 40 → Q (.int n) H'
/-- the frame may grow -/
theorem DeckAt.new {B H : Hp} {d : Addr} {p : Addr} (k : DeckAt B H d) (h : H p = none) (o : HO) : DeckAt (upd B p o) (upd H p o) d := by
  obtain ⟨s, bd, c, m, n, ns, bc, hd, hc, h0, h63⟩ := k
  have dp : d ≠ p := ne_of_none hd h
  have cp : c ≠ p := ne_of_none hc h
  refine ⟨fun b u q => ?_, by rw [upd_ne dp]; exact bd, c, m, n, ns, by rw [upd_ne cp]; exact bc, by rw [upd_ne dp]; exact hd, by rw [upd_ne cp]; exact hc, h0, h63⟩
  by_cases e : b = p
  · subst e; rw [upd_same] at q ⊢; exact q
  · rw [upd_ne e] at q ⊢; exact s _ _ q
/-- what the frame tracks may be written -/
theorem DeckAt.put {B H : Hp} {d : Addr} {p : Addr} {u : HO} (k : DeckAt B H d) (h : B p = some u) (o : HO) : DeckAt (upd B p o) (upd H p o) d := by
  obtain ⟨s, bd, c, m, n, ns, bc, hd, hc, h0, h63⟩ := k
  have dp : d ≠ p := fun e => by rw [e, h] at bd; cases bd
  have cp : c ≠ p := fun e => by rw [e, h] at bc; cases bc
  refine ⟨fun b w q => ?_, by rw [upd_ne dp]; exact bd, c, m, n, ns, by rw [upd_ne cp]; exact bc, by rw [upd_ne dp]; exact hd, by rw [upd_ne cp]; exact hc, h0, h63⟩
  by_cases e : b = p
  · subst e; rw [upd_same] at q ⊢; exact q
  · rw [upd_ne e] at q ⊢; exact s _ _ q
theorem DeckAt.same {B H H' : Hp} {d : Addr} (k : DeckAt B H d) (h : Same H H') : DeckAt B H' d := by
  obtain ⟨s, bd, c, m, n, ns, bc, hd, hc, h0, h63⟩ := k
  exact ⟨s.trans h, bd, c, m, n, ns, bc, h _ _ hd, h _ _ hc, h0, h63⟩
theorem DeckAt.free {B H : Hp} {d p : Addr} (k : DeckAt B H d) (h : H p = none) : B p = none := k.1.free h
theorem joinL_nil : ∀ l : List (List Nat), TL.joinL [] l = l.flatten
  | [] => rfl
  | [p] => by simp [TL.joinL]
  | p :: q :: r => by
    show p ++ ([] ++ TL.joinL [] (q :: r)) = _
    rw [joinL_nil (q :: r)]
    simp
section
variable {P : Program} {w : World} {K : PySem.W.Frag} {mg : Str → Option Value} {base : Heap}
abbrev s__law_deck : Stmt := topS 30
abbrev N__law_deck : List Str := ["script", "cells"]
theorem sc__law_deck : FnScope N__law_deck ["script"] (defScope s__law_deck) := ⟨rfl, rfl, rfl, by decide +kernel, rfl, by decide +kernel, by decide +kernel⟩

theorem ok__law_deck (T : Txt K mg) (D : IsDef K mg "_law_deck" s__law_deck ["script"]) : Cal P w K mg base CX0 1 "_law_deck" ["script"] (spDeck K) := by
  refine D.cal sc__law_deck (fun vs H Q E h => ?_) (fun f cdv A outer s H vs Q E hr h => ?_)
  · obtain ⟨a, ns, rfl, _⟩ := h
    rfl
  obtain ⟨a, ns, rfl, hS, h63, q⟩ := h
  refine ⟨_, (pss_cons (ps_set (i := 1) sc__law_deck.nd rfl (Or.inl rfl) (pe_callTy call_list_of (by rfl) T.b_list (by decide +kernel) (pa_cons (pe_slice (r := rSlL K) sl_list (pv 0) po_none (po_some pe_int)) pa_nil)))
      (pss_cons (ps_if (pt_cmpR (op_eqD hr.units) (pv 1) (pe_lst pa_nil) (nomark _))
        (pss_one (ps_set (i := 1) sc__law_deck.nd rfl (Or.inl rfl) (pe_lst (pa_cons pe_int pa_nil))))
        pss_nil)
      (pss_one (ps_ret (pe_lst (pa_cons (pv 1) (pa_cons (pe_op op_mod (pe_callB call_len_seq (by rfl) T.b_len PySem.boot_len (pa_cons (pv 0) pa_nil)) pe_int) (pa_cons pe_int pa_nil)))))))), ?_⟩
  have hl : (ns.map V.int).length = ns.length := List.length_map _
  refine ⟨_, rfl, _, rfl, a, _, rfl, hS, fun p np => ?_⟩
  have g1 : Same H (upd H p (.lst (cutV (ns.map V.int) none (some 63)))) := same_new np _
  have ec : cutV (ns.map V.int) none (some 63) = ns.map V.int := by
    show ((ns.map V.int).drop (HT.sIx (ns.map V.int).length 0 none)).take (HT.sIx (ns.map V.int).length (ns.map V.int).length (some ((63 : Nat) : Int)) - HT.sIx (ns.map V.int).length 0 none) = ns.map V.int
    rw [HT.sIx_none, HT.sIx_nat, List.drop_zero, List.take_of_length_le]
    rw [hl]
    omega
  refine ⟨p, _, rfl, .inl (SqL.of upd_same), fun l nl => ?_⟩
  have g2 := g1.trans (same_new nl (.lst (cutV (ns.map V.int) none (some 63))))
  refine ⟨_, rfl, Nat.zero_le _, fun e ne => ?_⟩
  have le : l ≠ e := ne_of_none upd_same ne
  have dp : ∀ (H : Hp) (l : List Int), DpAll K H (l.map V.int) (l.map PyData.int) := fun H l => by
    induction l with
    | nil => exact .nil
    | cons x l ih => exact .cons (.int x) ih
  refine ⟨.list (ns.map PyData.int), .list [], .lst (xs := ns.map V.int) (SqL.of (by rw [upd_ne le, upd_same, ec])) (dp _ _), .lst (SqL.of upd_same) .nil, PySem.W.ke_shaped_ints ns, rfl, _, rfl, ?_⟩
  have fin : ∀ (H1 : Hp) (c : Addr) (zs : List Int), Same H H1 → H c = none → H1 c = some (.lst (zs.map V.int)) → 0 < zs.length → zs.length ≤ 63 → ∀ d, H1 d = none → ∀ m n : Int, Q (.ref d) (upd H1 d (.lst [.ref c, .int m, .int n])) := fun H1 c zs h1 hc0 hc z0 z63 d nd m n => by
    have cd : c ≠ d := ne_of_none hc nd
    exact q H _ d (Same.refl H) ⟨h1.trans (same_new nd _), h1.free nd, c, m, n, zs, hc0, upd_same, by rw [upd_ne cd]; exact hc, z0, z63⟩
  have g3 := g2.trans (same_new ne (.lst []))
  cases ns with
  | nil =>
    refine iteT ?_
    refine ⟨(by decide +kernel : 1 ≤ sizeLine), fun c nc => ?_⟩
    have g4 := g3.trans (same_new nc (.lst [.int 0]))
    refine ⟨_, rfl, _, rfl, a, _, rfl, .inl (g4.seq hS), _, _, rfl, rfl, (by show (0 : Int) < 2; decide), le_line (by show 3 ≤ 16777216; decide), fun d nd => ?_⟩
    exact fin _ c [0] g4 (g3.free nc) upd_same (by decide) (by decide) d nd _ _
  | cons x r =>
    refine iteF ?_
    refine ⟨_, rfl, _, rfl, a, _, rfl, .inl (g3.seq hS), _, _, rfl, rfl, (by show (0 : Int) < 2; decide), le_line (by show 3 ≤ 16777216; decide), fun d nd => ?_⟩
    exact fin _ l (x :: r) g3 ((same_new np _).free nl) (by rw [upd_ne le, upd_same, ec]) (Nat.succ_pos _) h63 d nd _ _
def names6 : List (List Nat) := [[97], [98], [97, 98], [120], [121], [122, 122, 122, 122, 122, 122, 122, 122]]
theorem six_is : ([.str "a", .str "b", .str "ab", .str "x", .str "y", .str "zzzzzzzz"] : List V) = txs names6 := by
  rw [show ("a" : Str) = SX.S [97] from by decide +kernel, show ("b" : Str) = SX.S [98] from by decide +kernel, show ("ab" : Str) = SX.S [97, 98] from by decide +kernel, show ("x" : Str) = SX.S [120] from by decide +kernel,
    show ("y" : Str) = SX.S [121] from by decide +kernel, show ("zzzzzzzz" : Str) = SX.S [122, 122, 122, 122, 122, 122, 122, 122] from by decide +kernel]
  all_goals rfl
theorem six_ok : ∀ s ∈ names6, Nm s := by unfold Nm; decide
abbrev s__law_name : Stmt := topS 32
abbrev N__law_name : List Str := ["deck", "letters", "k"]
theorem sc__law_name : FnScope N__law_name ["deck"] (defScope s__law_name) := ⟨rfl, rfl, rfl, by decide +kernel, rfl, by decide +kernel, by decide +kernel⟩

theorem ok__law_name (T : Txt K mg) (D : IsDef K mg "_law_name" s__law_name ["deck"]) (C__law_draw : Cal P w K mg base CX0 1 "_law_draw" ["deck", "many"] spDraw) : Cal P w K mg base CX0 2 "_law_name" ["deck"] spName := by
  refine D.cal sc__law_name (fun vs H Q E h => ?_) (fun f cdv A outer s H vs Q E hr h => ?_)
  · obtain ⟨B, d, rfl, _⟩ := h
    rfl
  obtain ⟨B, d, rfl, hD, q⟩ := h
  refine ⟨_, (pss_cons (ps_if (pt_cmpR op_gt (pe_cal C__law_draw (hr.mono (by first | decide | omega)) pass0 (pa_cons (pv 0) (pa_cons pe_int pa_nil))) pe_int (nomark _))
        (pss_one (ps_ret (pe_ix (r := rIxL K) ix_list (pe_lst (pa_cons pe_str (pa_cons pe_str (pa_cons pe_str (pa_cons pe_str (pa_cons pe_str (pa_cons pe_str pa_nil))))))) (pe_cal C__law_draw (hr.mono (by first | decide | omega)) pass0 (pa_cons (pv 0) (pa_cons pe_int pa_nil))) (fun _ _ => rfl))))
        pss_nil)
      (pss_cons (ps_set (i := 1) sc__law_name.nd rfl (Or.inr rfl) pe_str)
      (pss_one (ps_ret (pe_join pe_str (pe_lc (own := [("k", 2)]) (g := gName 2)  (by rfl) sc__law_name.nd  (pi_range1 rfl T.b_range (pa_cons (pe_op op_add pe_int (pe_cal C__law_draw (hr.mono (by first | decide | omega)) pass0 (pa_cons (pv 0) (pa_cons pe_int pa_nil)))) pa_nil)) (blkOk_by (own := [("k", 2)]) (N := N__law_name) (sc := defScope s__law_name) (by decide +kernel)) (fun _ _ _ _ _ => (pg_name (i := 2) sc__law_name.nd rfl (Or.inl rfl))) (fun _ _ _ _ _ => pts_nil) (fun _ _ _ _ _ => (pe_item_str (pv 1) (pe_cal C__law_draw (hr.mono (by first | decide | omega)) pass0 (pa_cons (pv 0) (pa_cons pe_int pa_nil))) (fun _ _ => rfl))))))))), ?_⟩
  refine ⟨_, rfl, B, d, 4, rfl, hD, by decide, by decide, fun H1 v1 hD1 _ _ => ⟨_, _, rfl, rfl, _, rfl, ?_⟩⟩
  refine ite2 (fun _ => ?_) (fun _ => ?_)
  · refine ⟨le_line (by decide), fun p np => ?_⟩
    refine ⟨_, rfl, _, d, 6, rfl, hD1.new np _, by decide, by decide, fun H2 v hD2 v0 v6 => ?_⟩
    obtain ⟨x, hx, hat⟩ := one_of (xs := txs names6) v0 v6
    obtain ⟨s, hs, rfl⟩ := txs_mem hx
    refine ⟨p, _, v, _, rfl, rfl, SqL.of (hD2.1 _ _ upd_same), by rw [six_is]; exact hat, ?_⟩
    exact q _ _ s (same_new (hD1.free np) _) hD2 (six_ok s hs)
  · refine ⟨⟨_, rfl⟩, _, rfl, B, d, 8, rfl, hD1, by decide, by decide, fun H2 n hD2 n0 n8 => ⟨_, _, rfl, rfl, 1 + n, rfl, Int.le_trans (by decide) (Int.add_nonneg (by decide) n0), by omega, ?_⟩⟩
    refine fun L nL => lc_range (lo := 0) (n := (1 + n).toNat) (fun i H => ∃ (B' : Hp) (ss : List Nat), Same B B' ∧ DeckAt B' H d ∧ B' L = some (.lst (txs (ones ss))) ∧ ss.length = i ∧ ∀ c ∈ ss, 97 ≤ c ∧ c ≤ 122)
      ⟨_, [], same_new (hD2.free nL) _, hD2.new nL _, upd_same, rfl, by simp⟩ ?_ ?_
    · rintro i H3 hi ⟨B', ss, hB, hD3, hL, hn, hc⟩
      refine ⟨rfl, _, rfl, _, rfl, B', d, 26, rfl, hD3, by decide, by decide, fun H4 v hD4 v0 v26 => ?_⟩
      have hv : v.toNat < letters.length := by show v.toNat < 26; omega
      refine ⟨_, v, letters[v.toNat], rfl, rfl, v0, by omega, by rw [letters_is, SX.S_len]; exact v26, ?_, _, hD4.1 _ _ hL, ?_, ?_⟩
      · rw [letters_is]
        show letters.toArray[v.toNat]? = _
        rw [List.getElem?_toArray, List.getElem?_eq_getElem hv]
      · rw [txs_len, ones_len, hn]
        exact lt_line (by omega)
      · refine ⟨upd B' L _, ss ++ [letters[v.toNat]], fun b o e => ?_, hD4.put hL _, ?_, by rw [List.length_append, hn]; rfl, fun c hcm => ?_⟩
        · have z : b ≠ L := fun z => by
            rw [z] at e
            rw [hD2.free nL] at e
            cases e
          rw [upd_ne z]
          exact hB b o e
        · rw [upd_same]
          unfold ones
          rw [List.map_append, txs_app]
          rfl
        · rcases List.mem_append.mp hcm with h | h
          · exact hc c h
          · rw [List.mem_singleton.mp h]
            exact letters_ok _ (List.getElem_mem hv)
    · rintro H3 ⟨B', ss, hB, hD3, hL, hn, hc⟩
      have e0 : ("" : Str) = SX.S [] := by decide +kernel
      have ej : Txt.join "" ((ones ss).map SX.S) = SX.S ss := by
        rw [e0]
        refine (SX.join_S [] (ones ss)).trans ?_
        rw [joinL_nil, ones_flat]
      refine ⟨"", L, (ones ss).map SX.S, rfl, rfl, .inl (SqL.of (hD3.1 _ _ hL)), ?_, ?_⟩
      · rw [ones_sum, List.length_map, ones_len, e0, SX.S_len]
        show ss.length + ss.length * 0 ≤ 16777216
        omega
      · rw [ej]
        exact q B' _ ss hB hD3 ⟨by omega, by omega, hc⟩
end
def spRecipe (k : Nat) : Sp := fun vs H Q _ => ∃ (B : Hp) (d l : Addr) (deep n : Int), vs = [.ref d, .int deep, .ref l] ∧ DeckAt B H d ∧ B l = some (.lst [.int n]) ∧ 1 ≤ deep ∧ deep ≤ k ∧
  ∀ (B' H' : Hp) (n' : Int) (v : V) (r : Rcp), (∀ b o, b ≠ l → B b = some o → B' b = some o) → B' l = some (.lst [.int n']) → DeckAt B' H' d → Rec B' r v → r.Good → (r.dep : Int) ≤ deep → (r.siz : Int) = n - n' → (n - 1 ≤ n' ∨ -2 * (deep - 1) ≤ n') → Q v H'
theorem keep_but {B B' : Hp} {l : Addr} {xs : List V} (h : B l = some (.lst xs)) (k : ∀ b o, b ≠ l → B b = some o → B' b = some o) : Keep B B' := fun b ys q =>
  k b _ (fun e => by rw [e, h] at q; cases q) q
theorem kind_is {n : Int} (h0 : 0 ≤ n) (h : n < 5) : ∃ k : Kd, atI ([.str "plus", .str "minus", .str "times", .str "most", .str "plus"] : List V) n = some (.str k.name) := by
  have e : n = 0 ∨ n = 1 ∨ n = 2 ∨ n = 3 ∨ n = 4 := by omega
  rcases e with e | e | e | e | e <;> subst e
  · exact ⟨.plus, rfl⟩
  · exact ⟨.minus, rfl⟩
  · exact ⟨.times, rfl⟩
  · exact ⟨.most, rfl⟩
  · exact ⟨.plus, rfl⟩
section
variable {P : Program} {w : World} {K : PySem.W.Frag} {mg : Str → Option Value} {base : Heap}
abbrev s__law_number : Stmt := topS 33
abbrev N__law_number : List Str := ["deck", "great"]
theorem sc__law_number : FnScope N__law_number ["deck"] (defScope s__law_number) := ⟨rfl, rfl, rfl, by decide +kernel, rfl, by decide +kernel, by decide +kernel⟩

theorem ok__law_number (T : Txt K mg) (D : IsDef K mg "_law_number" s__law_number ["deck"]) (C__law_draw : Cal P w K mg base CX0 1 "_law_draw" ["deck", "many"] spDraw) : Cal P w K mg base CX0 2 "_law_number" ["deck"] spNumber := by
  refine D.cal sc__law_number (fun vs H Q E h => ?_) (fun f cdv A outer s H vs Q E hr h => ?_)
  · obtain ⟨B, d, rfl, _⟩ := h
    rfl
  obtain ⟨B, d, rfl, hD, q⟩ := h
  refine ⟨_, (pss_cons (ps_if (pt_cmpR op_gt (pe_cal C__law_draw (hr.mono (by first | decide | omega)) pass0 (pa_cons (pv 0) (pa_cons pe_int pa_nil))) pe_int (nomark _))
        (pss_one (ps_ret (pe_op op_sub (pe_cal C__law_draw (hr.mono (by first | decide | omega)) pass0 (pa_cons (pv 0) (pa_cons pe_int pa_nil))) pe_int)))
        pss_nil)
      (pss_cons (ps_set (i := 1) sc__law_number.nd rfl (Or.inl rfl) (pe_op op_sub (pe_op op_pow pe_int pe_int) pe_int))
      (pss_one (ps_ret (pe_op op_sub (pe_cal C__law_draw (hr.mono (by first | decide | omega)) pass0 (pa_cons (pv 0) (pa_cons (pe_op op_add (pe_op op_mul pe_int (pv 1)) pe_int) pa_nil))) (pv 1)))))), ?_⟩
  refine ⟨_, rfl, B, d, 4, rfl, hD, by decide, by decide, fun H1 v1 hD1 _ _ => ⟨_, _, rfl, rfl, _, rfl, ?_⟩⟩
  refine ite2 (fun _ => ?_) (fun _ => ?_)
  · refine ⟨_, rfl, B, d, 21, rfl, hD1, by decide, by decide, fun H2 v hD2 v0 v6 => ⟨_, _, rfl, rfl, q _ _ hD2 ?_⟩⟩
    have : (v - 10).natAbs ≤ 10 := by omega
    exact Nat.lt_of_le_of_lt this (by decide)
  · refine ⟨10, 40, rfl, rfl, ⟨by decide, by decide, by decide⟩, _, _, rfl, rfl, ?_⟩
    refine ⟨_, rfl, _, rfl, _, _, rfl, rfl, .inl ⟨by decide, by decide⟩, _, _, rfl, rfl, B, d, _, rfl, hD1, by decide, by decide, fun H2 v hD2 v0 v6 => ⟨_, rfl, _, _, rfl, rfl, q _ _ hD2 ?_⟩⟩
    have e1 : (10 : Int) ^ (40 : Int).toNat - 1 = 9999999999999999999999999999999999999999 := by decide
    rw [e1] at v6 ⊢
    have e2 : (10 : Nat) ^ 40 = 10000000000000000000000000000000000000000 := by decide
    rw [e2]
    omega
abbrev s__law_recipe : Stmt := topS 34
abbrev N__law_recipe : List Str := ["deck", "deep", "left", "kind", "one", "word", "two", "k"]
theorem sc__law_recipe : FnScope N__law_recipe ["deck", "deep", "left"] (defScope s__law_recipe) := ⟨rfl, rfl, rfl, by decide +kernel, rfl, by decide +kernel, by decide +kernel⟩

theorem ok__law_recipe (T : Txt K mg) (D : IsDef K mg "_law_recipe" s__law_recipe ["deck", "deep", "left"]) (C__law_draw : Cal P w K mg base CX0 1 "_law_draw" ["deck", "many"] spDraw)
    (C__law_number : Cal P w K mg base CX0 2 "_law_number" ["deck"] spNumber) (C__law_name : Cal P w K mg base CX0 2 "_law_name" ["deck"] spName) {k : Nat}
    (C__law_recipe : Cal P w K mg base CX0 (k + 3) "_law_recipe" ["deck", "deep", "left"] (spRecipe k)) : Cal P w K mg base CX0 (k + 4) "_law_recipe" ["deck", "deep", "left"] (spRecipe (k + 1)) := by
  refine D.cal sc__law_recipe (fun vs H Q E h => ?_) (fun f cdv A outer s H vs Q E hr h => ?_)
  · obtain ⟨B, d, l, deep, n, rfl, _⟩ := h
    rfl
  obtain ⟨B, d, l, deep, n, rfl, hD, hl, d1, dk, q⟩ := h
  refine ⟨_, (pss_cons (ps_asg (pe_op op_sub (pe_ix (r := rIxL K) ix_list (pv 2) pe_int (fun _ _ => rfl)) pe_int) (pg_sub (pv 2) pe_int set_list))
      (pss_cons (ps_set (i := 3) sc__law_recipe.nd rfl (Or.inl rfl) (pe_cal C__law_draw (hr.mono (by first | decide | omega)) pass0 (pa_cons (pv 0) (pa_cons pe_int pa_nil))))
      (pss_cons (ps_if (PW.pt (pw_or (pt_cmpR op_lt (pv 1) pe_int (nomark _)) (pw_or (pt_cmpR op_lt (pe_ix (r := rIxL K) ix_list (pv 2) pe_int (fun _ _ => rfl)) pe_int (nomark _)) (pw_or1 (pt_cmpR op_lt (pv 3) pe_int (nomark _))))))
        (pss_cons (ps_if (pt_cmpR op_eq (pe_cal C__law_draw (hr.mono (by first | decide | omega)) pass0 (pa_cons (pv 0) (pa_cons pe_int pa_nil))) pe_int (nomark _))
        (pss_one (ps_ret (pe_tup (pa_cons pe_str (pa_cons (pe_cal C__law_number (hr.mono (by first | decide | omega)) pass0 (pa_cons (pv 0) pa_nil)) pa_nil)))))
        pss_nil)
      (pss_one (ps_ret (pe_tup (pa_cons pe_str (pa_cons (pe_cal C__law_name (hr.mono (by first | decide | omega)) pass0 (pa_cons (pv 0) pa_nil)) pa_nil))))))
        pss_nil)
      (pss_cons (ps_set (i := 4) sc__law_recipe.nd rfl (Or.inl rfl) (pe_cal C__law_recipe (hr.mono (by first | decide | omega)) pass0 (pa_cons (pv 0) (pa_cons (pe_op op_sub (pv 1) pe_int) (pa_cons (pv 2) pa_nil)))))
      (pss_cons (ps_if (pt_cmpR op_lt (pv 3) pe_int (nomark _))
        (pss_cons (ps_set (i := 5) sc__law_recipe.nd rfl (Or.inl rfl) (pe_ix (r := rIxL K) ix_list (pe_lst (pa_cons pe_str (pa_cons pe_str (pa_cons pe_str (pa_cons pe_str (pa_cons pe_str pa_nil)))))) (pe_op op_sub (pv 3) pe_int) (fun _ _ => rfl)))
      (pss_one (ps_ret (pe_tup (pa_cons (pv 5) (pa_cons (pv 4) (pa_cons (pe_cal C__law_recipe (hr.mono (by first | decide | omega)) pass0 (pa_cons (pv 0) (pa_cons (pe_op op_sub (pv 1) pe_int) (pa_cons (pv 2) pa_nil)))) pa_nil)))))))
        pss_nil)
      (pss_cons (ps_if (pt_cmpR op_eq (pv 3) pe_int (nomark _))
        (pss_cons (ps_set (i := 6) sc__law_recipe.nd rfl (Or.inl rfl) (pe_cal C__law_recipe (hr.mono (by first | decide | omega)) pass0 (pa_cons (pv 0) (pa_cons (pe_op op_sub (pv 1) pe_int) (pa_cons (pv 2) pa_nil)))))
      (pss_one (ps_ret (pe_tup (pa_cons pe_str (pa_cons (pv 4) (pa_cons (pv 6) (pa_cons (pe_cal C__law_recipe (hr.mono (by first | decide | omega)) pass0 (pa_cons (pv 0) (pa_cons (pe_op op_sub (pv 1) pe_int) (pa_cons (pv 2) pa_nil)))) pa_nil))))))))
        pss_nil)
      (pss_one (ps_ret (pe_tup (pa_cons pe_str (pa_cons (pv 4) (pa_cons (pe_callTy call_tuple_of (by rfl) T.b_tuple (by decide +kernel) (pa_cons (pe_lc (own := [("k", 7)]) (g := gName 7)  (by rfl) sc__law_recipe.nd  (pi_range1 rfl T.b_range (pa_cons (pe_op op_add pe_int (pe_cal C__law_draw (hr.mono (by first | decide | omega)) pass0 (pa_cons (pv 0) (pa_cons pe_int pa_nil)))) pa_nil)) (blkOk_by (own := [("k", 7)]) (N := N__law_recipe) (sc := defScope s__law_recipe) (by decide +kernel)) (fun _ _ _ _ _ => (pg_name (i := 7) sc__law_recipe.nd rfl (Or.inl rfl))) (fun _ _ _ _ _ => pts_nil) (fun _ _ _ _ _ => (pe_cal C__law_name (hr.mono (by first | decide | omega)) pass0 (pa_cons (pv 0) pa_nil)))) pa_nil)) pa_nil)))))))))))), ?_⟩
  -- left[0] = left[0] - 1
  refine ⟨_, rfl, l, _, _, _, rfl, rfl, SqL.of (hD.1 _ _ hl), rfl, _, _, rfl, rfl, _, rfl, l, _, _, _, rfl, rfl, hD.1 _ _ hl, rfl, ?_⟩
  have hD1 : DeckAt (upd B l (.lst [.int (n - 1)])) (upd H l (.lst [.int (n - 1)])) d := hD.put hl _
  have hl1 : upd B l (.lst [.int (n - 1)]) l = some (.lst [.int (n - 1)]) := upd_same
  have hb1 : ∀ b o, b ≠ l → B b = some o → upd B l (.lst [.int (n - 1)]) b = some o := fun b o z e => by rw [upd_ne z]; exact e
  -- kind = _law_draw(deck, 10)
  refine ⟨_, rfl, _, d, 10, rfl, hD1, by decide, by decide, fun H2 kind hD2 k0 k10 => ?_⟩
  refine ⟨_, rfl, _, _, rfl, rfl, _, rfl, ite2 (fun c1 => ?leaf1) (fun c1 => ⟨_, rfl, l, _, _, _, rfl, rfl, SqL.of (hD2.1 _ _ hl1), rfl, _, _, rfl, rfl, _, rfl, ite2 (fun c2 => ?leaf2) (fun c2 => ⟨_, rfl, _, _, rfl, rfl, _, rfl, ite2 (fun c3 => ?leaf3) (fun c3 => ?main)⟩)⟩)⟩
  case main =>
    have hdeep : 2 ≤ deep := by
      have : ¬ deep < 2 := fun z => c1 (decide_eq_true z)
      omega
    have hn1 : 1 ≤ n - 1 := by
      have : ¬ n - 1 < 1 := fun z => c2 (decide_eq_true z)
      omega
    have hk2 : 2 ≤ kind := by
      have : ¬ kind < 2 := fun z => c3 (decide_eq_true z)
      omega
    -- one = _law_recipe(deck, deep - 1, left)
    refine ⟨_, rfl, _, rfl, _, _, rfl, rfl, _, rfl, _, d, l, deep - 1, n - 1, rfl, hD2, hl1, by omega, by omega, fun B3 H3 n3 v3 r3 hb3 hl3 hD3 rr3 g3 dp3 sz3 mn3 => ?_⟩
    refine ⟨_, rfl, _, _, rfl, rfl, _, rfl, ite2 (fun c4 => ?_) (fun c4 => ?_)⟩
    · have hk7 : kind < 7 := of_decide_eq_true c4
      obtain ⟨kd, hkd⟩ := kind_is (n := kind - 2) (by omega) (by omega)
      refine ⟨le_line (Nat.le_of_ble_eq_true rfl), fun p np => ⟨_, rfl, _, _, rfl, rfl, p, _, _, _, rfl, rfl, SqL.of upd_same, hkd, ?_⟩⟩
      have hD3' := hD3.new np (.lst [.str "plus", .str "minus", .str "times", .str "most", .str "plus"])
      have lp : l ≠ p := ne_of_none (hD3.1 _ _ hl3) np
      have np' : B3 p = none := hD3.free np
      refine ⟨_, rfl, _, rfl, _, rfl, _, rfl, _, _, rfl, rfl, _, rfl, _, d, l, deep - 1, n3, rfl, hD3', by rw [upd_ne lp]; exact hl3, by omega, by omega, fun B4 H4 n4 v4 r4 hb4 hl4 hD4 rr4 g4 dp4 sz4 mn4 => ?_⟩
      refine ⟨le_line (Nat.le_of_ble_eq_true rfl), fun t nt => ?_⟩
      have nt' : B4 t = none := hD4.free nt
      have hpl : upd B3 p (.lst [.str "plus", .str "minus", .str "times", .str "most", .str "plus"]) l = some (.lst [.int n3]) := by rw [upd_ne lp]; exact hl3
      have tl : l ≠ t := ne_of_none hl4 nt'
      have k4 : Keep B4 (upd B4 t (.tup [.str kd.name, v3, v4])) := same_keep (same_new nt' _)
      refine q _ _ n4 (.ref t) (.two kd r3 r4) (fun b o z e => ?_) (by rw [upd_ne tl]; exact hl4) (hD4.new nt _) ⟨t, v3, v4, rfl, upd_same, ?_, rr4.keep k4⟩ ⟨g3, g4⟩ ?_ ?_ ?_
      · have e4 := hb4 b o z (same_new np' _ b o (hb3 b o z (hb1 b o z e)))
        rw [upd_ne (ne_of_none e4 nt')]
        exact e4
      · exact rr3.keep (((same_keep (same_new np' _)).trans (keep_but hpl hb4)).trans k4)
      · show ((max r3.dep r4.dep + 1 : Nat) : Int) ≤ deep
        omega
      · show ((r3.siz + r4.siz + 1 : Nat) : Int) = n - n4
        omega
      · omega
    · have hk7 : 7 ≤ kind := by
        have : ¬ kind < 7 := fun z => c4 (decide_eq_true z)
        omega
      refine ⟨_, rfl, rfl, _, rfl, ite2 (fun c5 => ?_) (fun c5 => ?_)⟩
      · refine ⟨_, rfl, _, rfl, _, _, rfl, rfl, _, rfl, _, d, l, deep - 1, n3, rfl, hD3, hl3, by omega, by omega, fun B4 H4 n4 v4 r4 hb4 hl4 hD4 rr4 g4 dp4 sz4 mn4 => ?_⟩
        refine ⟨_, rfl, _, rfl, _, rfl, _, rfl, _, _, rfl, rfl, _, rfl, _, d, l, deep - 1, n4, rfl, hD4, hl4, by omega, by omega, fun B5 H5 n5 v5 r5 hb5 hl5 hD5 rr5 g5 dp5 sz5 mn5 => ?_⟩
        refine ⟨le_line (Nat.le_of_ble_eq_true rfl), fun t nt => ?_⟩
        have nt' : B5 t = none := hD5.free nt
        have tl : l ≠ t := ne_of_none hl5 nt'
        have k5 : Keep B5 (upd B5 t (.tup [.str "pick", v3, v4, v5])) := same_keep (same_new nt' _)
        refine q _ _ n5 (.ref t) (.pick r3 r4 r5) (fun b o z e => ?_) (by rw [upd_ne tl]; exact hl5) (hD5.new nt _) ⟨t, v3, v4, v5, rfl, upd_same, ?_, ?_, rr5.keep k5⟩ ⟨g3, g4, g5⟩ ?_ ?_ ?_
        · have e4 := hb5 b o z (hb4 b o z (hb3 b o z (hb1 b o z e)))
          rw [upd_ne (ne_of_none e4 nt')]
          exact e4
        · exact rr3.keep (((keep_but hl3 hb4).trans (keep_but hl4 hb5)).trans k5)
        · exact rr4.keep ((keep_but hl4 hb5).trans k5)
        · show ((max r3.dep (max r4.dep r5.dep) + 1 : Nat) : Int) ≤ deep
          omega
        · show ((r3.siz + r4.siz + r5.siz + 1 : Nat) : Int) = n - n5
          omega
        · omega
      · refine ⟨_, rfl, _, rfl, B3, d, 9, rfl, hD3, by decide, by decide, fun H4 m hD4 m0 m9 => ⟨_, _, rfl, rfl, 1 + m, rfl, Int.le_trans (by decide) (Int.add_nonneg (by decide) m0), by omega, ?_⟩⟩
        refine fun L nL => lc_range (lo := 0) (n := (1 + m).toNat) (fun i H => ∃ (B' : Hp) (ss : List (List Nat)), Same B3 B' ∧ DeckAt B' H d ∧ B' L = some (.lst (txs ss)) ∧ ss.length = i ∧ ∀ s ∈ ss, Nm s)
          ⟨_, [], same_new (hD4.free nL) _, hD4.new nL _, upd_same, rfl, by simp⟩ ?_ ?_
        · rintro i H5 hi ⟨B', ss, hB, hD5, hL, hn, hc⟩
          refine ⟨rfl, _, rfl, B', d, rfl, hD5, fun B6 H6 s hB6 hD6 hs => ⟨_, hD6.1 _ _ (hB6 _ _ hL), by rw [txs_len, hn]; exact lt_line (by omega), ?_⟩⟩
          refine ⟨upd B6 L _, ss ++ [s], fun b o e => ?_, hD6.put (hB6 _ _ hL) _, by rw [upd_same, txs_app]; rfl, by rw [List.length_append, hn]; rfl, fun c hcm => ?_⟩
          · have z : b ≠ L := fun z => by
              rw [z] at e
              rw [hD4.free nL] at e
              cases e
            rw [upd_ne z]
            exact hB6 b o (hB b o e)
          · rcases List.mem_append.mp hcm with h | h
            · exact hc c h
            · rw [List.mem_singleton.mp h]
              exact hs
        · rintro H5 ⟨B', ss, hB, hD5, hL, hn, hc⟩
          refine ⟨L, _, rfl, .inl ⟨SqL.of (hD5.1 _ _ hL), fun u nu => ⟨le_line (Nat.le_of_ble_eq_true rfl), fun t nt => ?_⟩⟩⟩
          have ut : u ≠ t := ne_of_none upd_same nt
          have nu' : B' u = none := hD5.free nu
          have hDu := hD5.new nu (.tup (txs ss))
          have nt' : upd B' u (.tup (txs ss)) t = none := hDu.free nt
          have hl' : B' l = some (.lst [.int n3]) := hB _ _ hl3
          have lu : l ≠ u := ne_of_none hl' nu'
          have hlu : upd B' u (.tup (txs ss)) l = some (.lst [.int n3]) := by rw [upd_ne lu]; exact hl'
          have tl : l ≠ t := ne_of_none hlu nt'
          refine q _ _ n3 (.ref t) (.choose r3 ss) (fun b o z e => ?_) (by rw [upd_ne tl]; exact hlu) (hDu.new nt _) ⟨t, v3, u, rfl, upd_same, ?_, by rw [upd_ne ut, upd_same]⟩ ⟨g3, by omega, by omega, hc⟩ ?_ ?_ ?_
          · exact same_new nt' _ b o (same_new nu' _ b o (hB b o (hb3 b o z (hb1 b o z e))))
          · exact rr3.same ((hB.trans (same_new nu' _)).trans (same_new nt' _))
          · show ((r3.dep + 1 : Nat) : Int) ≤ deep
            omega
          · show ((r3.siz + 1 : Nat) : Int) = n - n3
            omega
          · omega
  all_goals
    refine ⟨_, rfl, _, d, 2, rfl, hD2, by decide, by decide, fun H3 c hD3 _ _ => ⟨rfl, _, rfl, ite2 (fun _ => ?_) (fun _ => ?_)⟩⟩
    · refine ⟨_, rfl, _, d, rfl, hD3, fun H4 x hD4 hx => ⟨le_line (Nat.le_of_ble_eq_true rfl), fun t nt => ?_⟩⟩
      have nt' := hD4.free nt
      have tl : l ≠ t := ne_of_none hl1 nt'
      refine q _ _ (n - 1) (.ref t) (.num x) (fun b o z e => same_new nt' _ b o (hb1 b o z e)) (by rw [upd_ne tl]; exact hl1) (hD4.new nt _) ⟨t, rfl, upd_same⟩ hx ?_ ?_ ?_
      · show ((1 : Nat) : Int) ≤ deep
        omega
      · show ((1 : Nat) : Int) = n - (n - 1)
        omega
      · omega
    · refine ⟨_, rfl, _, d, rfl, hD3, fun B4 H4 x hB4 hD4 hx => ⟨le_line (Nat.le_of_ble_eq_true rfl), fun t nt => ?_⟩⟩
      have nt' := hD4.free nt
      have hl4 := hB4 _ _ hl1
      have tl : l ≠ t := ne_of_none hl4 nt'
      refine q _ _ (n - 1) (.ref t) (.read x) (fun b o z e => same_new nt' _ b o (hB4 b o (hb1 b o z e))) (by rw [upd_ne tl]; exact hl4) (hD4.new nt _) ⟨t, rfl, upd_same⟩ hx ?_ ?_ ?_
      · show ((1 : Nat) : Int) ≤ deep
        omega
      · show ((1 : Nat) : Int) = n - (n - 1)
        omega
      · omega
theorem all__law_recipe (T : Txt K mg) (D : IsDef K mg "_law_recipe" s__law_recipe ["deck", "deep", "left"]) (C__law_draw : Cal P w K mg base CX0 1 "_law_draw" ["deck", "many"] spDraw)
    (C__law_number : Cal P w K mg base CX0 2 "_law_number" ["deck"] spNumber) (C__law_name : Cal P w K mg base CX0 2 "_law_name" ["deck"] spName) :
    ∀ k : Nat, Cal P w K mg base CX0 (k + 3) "_law_recipe" ["deck", "deep", "left"] (spRecipe k)
  | 0 => cal_none D fun vs H Q E h => by
    obtain ⟨B, d, l, deep, n, _, _, _, h1, h2, _⟩ := h
    omega
  | k + 1 => ok__law_recipe T D C__law_draw C__law_number C__law_name (all__law_recipe T D C__law_draw C__law_number C__law_name k)
end
def spShow (k : Nat) : Sp := fun vs H Q _ => ∃ (v : V) (r : Rcp), vs = [v] ∧ Rec H r v ∧ r.Good ∧ r.dep ≤ k ∧ r.siz ≤ 1000 ∧ Q (.str (SX.S r.txt)) H
section
variable {P : Program} {w : World} {K : PySem.W.Frag} {mg : Str → Option Value} {base : Heap}
abbrev s_show_recipe : Stmt := topS 20
abbrev N_show_recipe : List Str := ["r", "kind"]
theorem sc_show_recipe : FnScope N_show_recipe ["r"] (defScope s_show_recipe) := ⟨rfl, rfl, rfl, by decide +kernel, rfl, by decide +kernel, by decide +kernel⟩

theorem ok_show_recipe {sg : Addr} (T : Txt K mg) (g_SIGNS : mg "SIGNS" = some (.ref sg)) (hsg : ∀ k : Kd, KDct K w sg k.name (.str k.signS)) (D : IsDef K mg "show_recipe" s_show_recipe ["r"]) {k : Nat}
    (C_show_recipe : Cal P w K mg base CX0 k "show_recipe" ["r"] (spShow k)) : Cal P w K mg base CX0 (k + 1) "show_recipe" ["r"] (spShow (k + 1)) := by
  refine D.cal sc_show_recipe (fun vs H Q E h => ?_) (fun f cdv A outer s H vs Q E hr h => ?_)
  · obtain ⟨v, r, rfl, _⟩ := h
    rfl
  obtain ⟨v, r, rfl, hR, hG, hd, hz, q⟩ := h
  refine ⟨_, (pss_cons (ps_set (i := 1) sc_show_recipe.nd rfl (Or.inl rfl) (pe_ix (r := rIxT K) ix_tup (pv 0) pe_int (fun _ _ => rfl)))
      (pss_cons (ps_if (pt_cmpR op_eq (pv 1) pe_str (nomark _))
        (pss_one (ps_ret (pe_callTy call_str_int (by rfl) T.b_str (by decide +kernel) (pa_cons (pe_ix (r := rIxT K) ix_tup (pv 0) pe_int (fun _ _ => rfl)) pa_nil))))
        pss_nil)
      (pss_cons (ps_if (pt_cmpR op_eq (pv 1) pe_str (nomark _))
        (pss_one (ps_ret (pe_ix (r := rIxT K) ix_tup (pv 0) pe_int (fun _ _ => rfl))))
        pss_nil)
      (pss_cons (ps_if (pt_cmpR op_eq (pv 1) pe_str (nomark _))
        (pss_one (ps_ret (pe_op op_add_str (pe_op op_add_str (pe_op op_add_str (pe_op op_add_str (pe_op op_add_str (pe_op op_add_str pe_str (pe_cal C_show_recipe (hr.mono (by first | decide | omega)) pass0 (pa_cons (pe_ix (r := rIxT K) ix_tup (pv 0) pe_int (fun _ _ => rfl)) pa_nil))) pe_str) (pe_cal C_show_recipe (hr.mono (by first | decide | omega)) pass0 (pa_cons (pe_ix (r := rIxT K) ix_tup (pv 0) pe_int (fun _ _ => rfl)) pa_nil))) pe_str) (pe_cal C_show_recipe (hr.mono (by first | decide | omega)) pass0 (pa_cons (pe_ix (r := rIxT K) ix_tup (pv 0) pe_int (fun _ _ => rfl)) pa_nil))) pe_str)))
        pss_nil)
      (pss_cons (ps_if (pt_cmpR op_eq (pv 1) pe_str (nomark _))
        (pss_one (ps_ret (pe_op op_add_str (pe_op op_add_str (pe_op op_add_str (pe_cal C_show_recipe (hr.mono (by first | decide | omega)) pass0 (pa_cons (pe_ix (r := rIxT K) ix_tup (pv 0) pe_int (fun _ _ => rfl)) pa_nil)) pe_str) (pe_join pe_str (pe_ix (r := rIxT K) ix_tup (pv 0) pe_int (fun _ _ => rfl)))) pe_str)))
        pss_nil)
      (pss_one (ps_ret (pe_op op_add_str (pe_op op_add_str (pe_op op_add_str (pe_op op_add_str pe_str (pe_cal C_show_recipe (hr.mono (by first | decide | omega)) pass0 (pa_cons (pe_ix (r := rIxT K) ix_tup (pv 0) pe_int (fun _ _ => rfl)) pa_nil))) (pe_ix (r := rIxD K w) ix_kdict (pe_glob (v := .ref _) rfl g_SIGNS rfl) (pv 1) (fun _ _ => rfl))) (pe_cal C_show_recipe (hr.mono (by first | decide | omega)) pass0 (pa_cons (pe_ix (r := rIxT K) ix_tup (pv 0) pe_int (fun _ _ => rfl)) pa_nil))) pe_str)))))))), ?_⟩
  cases r with
  | num n =>
    obtain ⟨p, rfl, hp⟩ := hR
    refine ⟨_, rfl, p, _, _, _, rfl, rfl, SqT.of hp, rfl, _, rfl, rfl, _, rfl, iteY rfl ?_⟩
    refine ⟨_, rfl, p, _, _, _, rfl, rfl, SqT.of hp, rfl, n, rfl, log_small hG, ?_⟩
    rw [intL_S]
    exact q
  | read s =>
    obtain ⟨p, rfl, hp⟩ := hR
    refine ⟨_, rfl, p, _, _, _, rfl, rfl, SqT.of hp, rfl, _, rfl, rfl, _, rfl, iteN (by decide +kernel) ?_⟩
    refine ⟨_, rfl, rfl, _, rfl, iteY rfl ?_⟩
    exact ⟨_, rfl, p, _, _, _, rfl, rfl, SqT.of hp, rfl, q⟩
  | two kd a b =>
    obtain ⟨p, x, y, rfl, hp, ra, rb⟩ := hR
    have da : a.dep ≤ k ∧ b.dep ≤ k := by
      have : max a.dep b.dep + 1 ≤ k + 1 := hd
      omega
    have za : a.siz ≤ 1000 ∧ b.siz ≤ 1000 := by
      have : a.siz + b.siz + 1 ≤ 1000 := hz
      omega
    have la := txt_len hG.1
    have lb := txt_len hG.2
    refine ⟨_, rfl, p, _, _, _, rfl, rfl, SqT.of hp, rfl, _, rfl, rfl, _, rfl, iteN (kn_num kd) ?_⟩
    refine ⟨_, rfl, rfl, _, rfl, iteN (kn_read kd) ?_⟩
    refine ⟨_, rfl, rfl, _, rfl, iteN (kn_pick kd) ?_⟩
    refine ⟨_, rfl, rfl, _, rfl, iteN (kn_choose kd) ?_⟩
    refine ⟨_, rfl, p, _, _, _, rfl, rfl, SqT.of hp, rfl, x, a, rfl, ra, hG.1, da.1, za.1, _, _, rfl, rfl, ?_, _, rfl, sg, _, _, rfl, rfl, hsg kd, _, _, rfl, rfl, ?_,
      _, rfl, p, _, _, _, rfl, rfl, SqT.of hp, rfl, y, b, rfl, rb, hG.2, da.2, za.2, _, _, rfl, rfl, ?_, _, _, rfl, rfl, ?_, ?_⟩
    case refine_5 =>
      rw [q_open, q_close, q_sign, SX.S_cat, SX.S_cat, SX.S_cat, SX.S_cat]
      have e : ([40] ++ a.txt ++ [32, kd.sign, 32] ++ b.txt ++ [41]) = (Rcp.two kd a b).txt := by simp [Rcp.txt]
      rw [e]
      exact q
    all_goals
      simp only [q_open, q_close, q_sign, SX.S_cat, SX.S_len, List.length_append, List.length_cons, List.length_nil]
      exact le_line (by omega)
  | pick a b c =>
    obtain ⟨p, x, y, z, rfl, hp, ra, rb, rc⟩ := hR
    have da : a.dep ≤ k ∧ b.dep ≤ k ∧ c.dep ≤ k := by
      have : max a.dep (max b.dep c.dep) + 1 ≤ k + 1 := hd
      omega
    have za : a.siz ≤ 1000 ∧ b.siz ≤ 1000 ∧ c.siz ≤ 1000 := by
      have : a.siz + b.siz + c.siz + 1 ≤ 1000 := hz
      omega
    have la := txt_len hG.1
    have lb := txt_len hG.2.1
    have lc := txt_len hG.2.2
    refine ⟨_, rfl, p, _, _, _, rfl, rfl, SqT.of hp, rfl, _, rfl, rfl, _, rfl, iteN (by decide +kernel) ?_⟩
    refine ⟨_, rfl, rfl, _, rfl, iteN (by decide +kernel) ?_⟩
    refine ⟨_, rfl, rfl, _, rfl, iteY rfl ?_⟩
    refine ⟨_, rfl, p, _, _, _, rfl, rfl, SqT.of hp, rfl, x, a, rfl, ra, hG.1, da.1, za.1, _, _, rfl, rfl, ?_, _, _, rfl, rfl, ?_,
      _, rfl, p, _, _, _, rfl, rfl, SqT.of hp, rfl, y, b, rfl, rb, hG.2.1, da.2.1, za.2.1, _, _, rfl, rfl, ?_, _, _, rfl, rfl, ?_,
      _, rfl, p, _, _, _, rfl, rfl, SqT.of hp, rfl, z, c, rfl, rc, hG.2.2, da.2.2, za.2.2, _, _, rfl, rfl, ?_, _, _, rfl, rfl, ?_, ?_⟩
    case refine_7 =>
      rw [q_lb, q_rb, q_ask, q_col, SX.S_cat, SX.S_cat, SX.S_cat, SX.S_cat, SX.S_cat, SX.S_cat]
      have e : ([91] ++ a.txt ++ [32, 63, 32] ++ b.txt ++ [32, 58, 32] ++ c.txt ++ [93]) = (Rcp.pick a b c).txt := by simp [Rcp.txt]
      rw [e]
      exact q
    all_goals
      simp only [q_lb, q_rb, q_ask, q_col, SX.S_cat, SX.S_len, List.length_append, List.length_cons, List.length_nil]
      exact le_line (by omega)
  | choose a ns =>
    obtain ⟨p, x, qa, rfl, hp, ra, hq⟩ := hR
    have da : a.dep ≤ k := by
      have : a.dep + 1 ≤ k + 1 := hd
      omega
    have za : a.siz ≤ 1000 := by
      have : a.siz + 1 ≤ 1000 := hz
      omega
    have la := txt_len hG.1
    have ln := names_len hG.2
    have l9 := hG.2.2.1
    have ls := names_sum hG.2.2.2
    refine ⟨_, rfl, p, _, _, _, rfl, rfl, SqT.of hp, rfl, _, rfl, rfl, _, rfl, iteN (by decide +kernel) ?_⟩
    refine ⟨_, rfl, rfl, _, rfl, iteN (by decide +kernel) ?_⟩
    refine ⟨_, rfl, rfl, _, rfl, iteN (by decide +kernel) ?_⟩
    refine ⟨_, rfl, rfl, _, rfl, iteY rfl ?_⟩
    refine ⟨_, rfl, p, _, _, _, rfl, rfl, SqT.of hp, rfl, x, a, rfl, ra, hG.1, da, za, _, _, rfl, rfl, ?_, ⟨_, rfl⟩, _, rfl, p, _, _, _, rfl, rfl, SqT.of hp, rfl, _, qa, ns.map SX.S, rfl, rfl, .inr (SqT.of hq), ?_, _, _, rfl, rfl, ?_, _, _, rfl, rfl, ?_, ?_⟩
    case refine_5 =>
      rw [q_lc, q_rc, q_comma, SX.join_S, SX.S_cat, SX.S_cat, SX.S_cat]
      have e : (a.txt ++ [123] ++ TL.joinL [44] ns ++ [125]) = (Rcp.choose a ns).txt := by simp [Rcp.txt]
      rw [e]
      exact q
    case refine_2 =>
      rw [q_comma, SX.S_len, List.length_map]
      show _ + ns.length * 1 ≤ _
      omega
    all_goals
      simp only [q_lc, q_rc, q_comma, SX.join_S, SX.S_cat, SX.S_len, List.length_append, List.length_cons, List.length_nil]
      exact le_line (by omega)
theorem all_show_recipe {sg : Addr} (T : Txt K mg) (g_SIGNS : mg "SIGNS" = some (.ref sg)) (hsg : ∀ k : Kd, KDct K w sg k.name (.str k.signS)) (D : IsDef K mg "show_recipe" s_show_recipe ["r"]) :
    ∀ k : Nat, Cal P w K mg base CX0 k "show_recipe" ["r"] (spShow k)
  | 0 => cal_none D fun vs H Q E h => by
    obtain ⟨v, r, _, _, _, h1, _⟩ := h
    have := dep_pos r
    omega
  | k + 1 => ok_show_recipe T g_SIGNS hsg D (all_show_recipe T g_SIGNS hsg D k)
end
/-! ### len(set(xs)), xs a list of texts none of which stands there twice -/
theorem txts_at : ∀ {us : List Value} {zs : List Str}, StrsAre us zs → ∀ (j : Nat) (u : Value), us[j]? = some u → ∃ tk, u = .str (zs.getD j Str.empty) tk := fun h j u e => SS.strs_at h j u e
section
variable {prog : Program} {wd : World} {Ar : Around} {Rs : Result → Shared → Prop} {It : Addr} {fp wr : List Addr} {Gn : Array GenState → Array GenState → Prop} {m : Nat} {Pv : Nat → Value → Prop} {Sv : Nat → Shared → Prop}
theorem set_fill_txts (Wk : WalksS prog wd Ar.in1 It fp wr Gn m Pv Sv) (Z : Addr) (zf : Z ∉ fp) (zs : List Str) (zn : zs.length = m) (few : m ≤ 64) (nd : zs.Nodup) (val : ∀ j u, Pv j u → ∃ tk, u = .str (zs.getD j Str.empty) tk) :
    ∀ (k j : Nat) (st : Shared), m - j = k → j ≤ m → Sv j st → st.heap.SetOf (PySem.strKind prog wd) Z (fun q => (zs.take j).any (· == q)) j →
      (∀ st', Moved (Z :: wr) Gn st st' → st'.heap.SetOf (PySem.strKind prog wd) Z (fun q => (zs.take m).any (· == q)) m → Rs (.ok (.ret .none)) st') → codeAny (model prog wd) Ar (.builtin "set.update.loop" ⟨[.ref Z, .ref It], []⟩) Rs st := by
  have zw : Z ∉ wr := fun q => zf (Wk.sub _ q)
  have more : ∀ b ∈ wr, b ∈ Z :: wr := fun b q => List.mem_cons_of_mem _ q
  intro k; induction k with
  | zero =>
    intro j st hk hj hv hZ out
    obtain rfl : j = m := by omega
    refine codeAny_builtin (PyProof.Rows.F.entry_set_update_loop) ?_; rw [Around.under_plainId (PyProof.Rows.F.plain_set_update_loop) _]
    show wpAny _ Ar.in1 (pyNext (.ref It) >>= _) _ _ st
    refine wpAny_bind (Wk.done st _ _ hv fun st' mv => ?_); show wpAny _ Ar.in1 (ret Value.none) _ _ st'
    refine wpAny_pure (out st' (mv.mono more) ?_)
    obtain ⟨ob, es, ep, tb, hob, more'⟩ := hZ
    exact ⟨ob, es, ep, tb, mv.heap Z _ zw hob, more'⟩
  | succ k ih =>
    intro j st hk hj hv hZ out
    have lt : j < m := by omega
    refine codeAny_builtin (PyProof.Rows.F.entry_set_update_loop) ?_; rw [Around.under_plainId (PyProof.Rows.F.plain_set_update_loop) _]
    show wpAny _ Ar.in1 (pyNext (.ref It) >>= _) _ _ st
    refine wpAny_bind (Wk.item j st _ _ lt hv fun u st' hP hv' mv => ?_)
    obtain ⟨tk, rfl⟩ := val j u hP
    have hZ' : st'.heap.SetOf (PySem.strKind prog wd) Z (fun q => (zs.take j).any (· == q)) j := by
      obtain ⟨ob, es, ep, tb, hob, more'⟩ := hZ
      exact ⟨ob, es, ep, tb, mv.heap Z _ zw hob, more'⟩
    show wpAny _ Ar.in1 (holding [Value.str (zs.getD j Str.empty) tk] (setAdd Z (.str (zs.getD j Str.empty) tk)) >>= _) _ _ st'
    refine wpAny_bind (wpAny_holding ?_); unfold setAdd; refine wpAny_holding ?_
    refine wpAny_bind ((PySem.strKind prog wd).pyHash (k := zs.getD j Str.empty) (strKind_is _ _ _ _) ?_)
    refine wpAny_setAddHashed_of (knd := PySem.strKind prog wd) (s := { st' with toks := st'.toks + 1 }) (strKind_is _ _ _ _) rfl hZ' (by unfold scanBound; omega) fun h' but hZ2 => ?_
    have lj : j < zs.length := by omega
    have ej : zs.getD j Str.empty = zs[j] := by rw [List.getD_eq_getElem?_getD, List.getElem?_eq_getElem lj]; rfl
    have hno : (zs.take j).any (· == zs.getD j Str.empty) = false := by
      rw [ej, List.any_eq_false]
      intro x hx q
      obtain ⟨i, hi, e⟩ := List.mem_iff_getElem.mp hx
      rw [List.length_take] at hi
      rw [List.getElem_take] at e
      have e2 : zs[i] = zs[j] := e.trans (beq_iff_eq.mp q)
      have := (List.getElem_inj nd).mp e2
      omega
    have hZi : h'.SetOf (PySem.strKind prog wd) Z (fun q => (zs.take (j + 1)).any (· == q)) (j + 1) := by
      refine SetOf_congr hZ2 (fun q => ?_) (by rw [hno] <;> rfl)
      rw [List.take_succ_eq_append_getElem lj, List.any_append, ej]
      show ((zs.take j).any (· == q) || decide (q = zs[j])) = ((zs.take j).any (· == q) || ((zs[j] == q) || false))
      congr 1
      rw [Bool.or_false, Bool.eq_iff_iff, decide_eq_true_eq, beq_iff_eq]
      exact eq_comm
    refine wpAny_pure ⟨plainId_quiet (PyProof.Rows.F.plain_set_update_loop) _, ih (j + 1) _ (by omega) lt (Wk.frame _ st' _ _ hv' (Nat.le_succ _) fun b hb o e => ?_) hZi fun st'' mv2 hZ3 => ?_⟩
    · rw [but.2 b (fun q : b = Z => zf (by rw [← q]; exact hb))]
      exact e
    · refine out st'' (Moved.trans Wk.gtrans ((mv.mono more).then_heap (Nat.le_succ _) fun b o hb e => ?_) mv2) hZ3
      rw [but.2 b (fun q : b = Z => hb (by rw [q]; exact List.mem_cons_self))]
      exact e
end
section
variable {prog : Program} {wd : World} {Ar : Around} {Ex : Value → Shared → Prop} {st : Shared}
set_option maxHeartbeats 3200000 in
theorem set_of_txts {l : Addr} {row : Array Value} {zs : List Str} {Out : Value → Shared → Prop} (calm : Ar.handled = none) (hl : st.heap.IsList l row) (hi : PyProof.Rows.StrsAre row.toList zs) (few : zs.length ≤ 64) (nd : zs.Nodup)
    (fin : ∀ (h' : Heap) (tk : Nat), h'.SetOf (PySem.strKind prog wd) st.heap.objs.size (fun q => (zs.take row.size).any (· == q)) row.size → (∀ b o, b < st.heap.objs.size → st.heap.get? b = some o → h'.get? b = some o) → Out (.ref st.heap.objs.size) { st with heap := h', toks := tk }) :
    wpAny (model prog wd) Ar (call (.type "set") [.ref l]) Out Ex st := by
  obtain ⟨c, tl, mroOf⟩ := PySem.F.called_set.mro
  have made := PySem.F.called_set.made; have subOf := PySem.F.called_set.sub
  refine wpAny_call (codeAny_of_tree ?_)
  show wpAny _ _ (callAny (.type "set") _) _ _ _
  refine wpAny_pure ⟨Code.quiet_builtin _ (by decide +kernel), codeAny_builtin (PySem.F.entry_type_call) ?_⟩
  rw [Around.under_plain (weight_type_call_type "set" [.ref l] []) rfl]
  have f1 := PySem.F.called_set.notType; have f2 := PySem.F.called_set.canCreate
  have ct := PySem.F.typeCall_set_1 (.ref l)
  repeat (any_goals (first | assumption | wp_step))
  refine codeAny_mono (code_set_new_1 (.ref l) (E := Ex) (Q₁ := fun obj s₁ => ∃ led : Bool, obj = .ref st.heap.objs.size ∧ s₁ = { st with heap := st.heap.push { cls := .type "set", dict := none, data := .set #[] 0 (.fresh 0 0 led) } }) fun led => ⟨led, rfl, rfl⟩) fun r s₁ hr => ?_
  cases r with
  | error e => exact (hr)
  | ok fl =>
    cases fl with
    | ret obj =>
      obtain ⟨led, rfl, rfl⟩ := hr
      have hZ : (st.heap.push { cls := .type "set", dict := none, data := .set #[] 0 (.fresh 0 0 led) }).get? st.heap.objs.size = some { cls := .type "set", dict := none, data := .set #[] 0 (.fresh 0 0 led) } := Heap.get?_push_size _ rfl
      have hT : Shared.TypeIs { st with heap := st.heap.push { cls := .type "set", dict := none, data := .set #[] 0 (.fresh 0 0 led) } } (.ref st.heap.objs.size) "set" := ⟨_, hZ, rfl⟩
      have look := PySem.F.called_set.init.lookup; have bnd := PySem.F.called_set.init.bind (.ref st.heap.objs.size)
      repeat (any_goals (first | assumption | wp_step))
      refine codeAny_mono (codeAny_call_builtin (R := wants (fun r s₂ => r = .none ∧ ∃ h' tk, s₂ = { st with heap := h', toks := tk } ∧ h'.SetOf (PySem.strKind prog wd) st.heap.objs.size (fun q => (zs.take row.size).any (· == q)) row.size ∧
          (∀ b o, b < st.heap.objs.size → st.heap.get? b = some o → h'.get? b = some o)) Ex) PySem.F.called_set.init.plain PySem.F.entry_set_init (check_set_init_1 hT ?_)) fun r₂ s₂ hr₂ => ?_
      · obtain ⟨ol, hol, hcl, nl, hdl⟩ := hl
        obtain ⟨ocl, odi, oda, osl⟩ := ol
        simp only at hcl hdl; subst hcl; subst hdl
        have hol' : (st.heap.push { cls := .type "set", dict := none, data := .set #[] 0 (.fresh 0 0 led) }).get? l = some { cls := .type "list", dict := odi, data := .seq row nl, slots := osl } := Heap.get?_push_of_some _ hol
        have ls := PySem.F.sub_list_set; have lf := PySem.F.sub_list_frozenset
        have ne : (Value.type "list" == Value.type "dict") = false := by decide
        have hl1 : (st.heap.push { cls := .type "set", dict := none, data := .set #[] 0 (.fresh 0 0 led) }).IsList l row := ⟨_, hol', rfl, nl, rfl⟩
        unfold Builtin.«set.__init__» noKeywords Builtin.Frozenset.updateFrom
        generalize iter : pyIter = PI; wp_walk; subst iter
        refine wpAny_pyIter_list hl1 ?_; refine wpAny_bind (wpAny_runValue ?_)
        have lS : l < st.heap.objs.size := Heap.lt_size hol
        have calm3 : Ar.in1.in1.in1.handled = none := by simp [calm]
        have neI : l ≠ (st.heap.push { cls := .type "set", dict := none, data := .set #[] 0 (.fresh 0 0 led) }).objs.size := by
          rw [Heap.size_push]
          exact Nat.ne_of_lt (Nat.lt_succ_of_lt lS)
        have zf : st.heap.objs.size ∉ [(st.heap.push { cls := .type "set", dict := none, data := .set #[] 0 (.fresh 0 0 led) }).objs.size, l] := by
          rw [Heap.size_push]
          simp only [List.mem_cons, List.mem_singleton, List.not_mem_nil, or_false, not_or]
          exact And.intro (Nat.ne_of_lt (Nat.lt_succ_self _)) (Nat.ne_of_gt lS)
        have sz : zs.length = row.size := by rw [← StrsAre.len_eq hi, Array.length_toList]
        have val : ∀ (j : Nat) (u : Value), row[j]? = some u → ∃ tk, u = .str (zs.getD j Str.empty) tk := fun j u hu => txts_at hi j u (by rw [Array.getElem?_toList]; exact hu)
        refine set_fill_txts ((Walks.list calm3 _ l neI row).toS) st.heap.objs.size zf zs sz (by omega) nd val (row.size - 0) 0 _ (by omega) (Nat.zero_le _) ⟨⟨_, Heap.get?_push_size _ rfl, rfl, rfl⟩, (hl1.push _)⟩ ?hS0 ?hR
        case hS0 =>
          have got : ((st.heap.push { cls := .type "set", dict := none, data := .set #[] 0 (.fresh 0 0 led) }).push { cls := .type "list_iterator", data := .fields #[.ref l, .int 0 0] }).get? st.heap.objs.size = some { cls := .type "set", dict := none, data := .set #[] 0 (.fresh 0 0 led) } := Heap.get?_push_of_some _ hZ
          exact PyProof.Rows.SetOf_congr ((PyProof.Rows.setObjOf_fresh (knd := PySem.strKind prog wd) led).setOf got (by unfold scanBound; omega)) (fun _ => rfl) rfl
        case hR =>
          intro st' mv hZ'
          obtain ⟨h', g', d', tk', os'⟩ := st'
          have eg : g' = st.gens := mv.gens
          have ed : d' = st.drawn := mv.drawn
          have eo : os' = st.os := mv.os
          subst eg ed eo
          show wpAny _ _ _ _ _ _
          refine wpAny_pure ?_; show wpAny _ _ (ret Value.none) _ _ _
          refine wpAny_pure ⟨rfl, h', tk', rfl, hZ', fun b o hb e => ?_⟩
          have n1 : b ≠ st.heap.objs.size := Nat.ne_of_lt hb
          have n2 : b ≠ (st.heap.push { cls := .type "set", dict := none, data := .set #[] 0 (.fresh 0 0 led) }).objs.size := by
            rw [Heap.size_push]
            exact Nat.ne_of_lt (Nat.lt_succ_of_lt hb)
          exact mv.heap b o (by simp only [List.mem_cons, List.mem_singleton, List.not_mem_nil, or_false, not_or]; exact And.intro n1 n2) (Heap.get?_push_of_some _ (Heap.get?_push_of_some _ e))
      · cases r₂ with
        | error e => exact (hr₂)
        | ok fl₂ =>
          cases fl₂ with
          | ret r =>
            obtain ⟨rfl, h', tk, rfl, hZ', keep⟩ := hr₂
            repeat (any_goals (first | assumption | wp_step))
            exact (fin _ _ hZ' keep)
          | _ => exact (hr₂).elim
    | _ => exact (hr).elim
end
section
variable {X : Cx}
def tLenSetS (K : PySem.W.Frag) (ta : TE) : TE := fun σ H Q => ta σ H fun x H1 => ∃ l, ∃ zs : List Str, x = .ref l ∧ SqL K H1 l (zs.map V.str) ∧ zs.length ≤ 64 ∧ zs.Nodup ∧ Q (.int zs.length) H1
theorem pe_lenSetS {a : Expr} {ta : TE} {p p2 q pos : Pos} (hc : X.calm = true) (h1 : Gl X "len") (m1 : X.mg "len" = none) (h2 : Gl X "set") (m2 : X.mg "set" = none) (ha : PE X a ta) (na : starEach [a] X.env = (false, eval a X.env) :: starEach [] X.env := by rfl) :
    PE X (.Call (.Name "len" p) [.Call (.Name "set" p2) [a] [] q] [] pos) (tLenSetS X.K ta) := by
  refine ⟨fun pins s σ H Q I h => ?_⟩
  refine Call_ (ld_blt I h1 m1 (PySem.boot_len) (PyProof.Rows.callWith_builtin1 (PyProof.Rows.args_cons ?_ rfl) rfl rfl))
  refine Call_ (ld_blt I h2 m2 (boot_set) (PyProof.Rows.callWith_type1 (PyProof.Rows.args_cons (thn (ha.run pins s σ H _ I h) fun v s1 ⟨x, H1, I1, r1, q1⟩ => PyProof.Rows.args_nil ?_) na) na rfl))
  obtain ⟨l, zs, rfl, hq, few, nd, q1⟩ := q1
  cases r1
  obtain ⟨its, r, pl, hz⟩ := I1.list hq
  refine set_of_txts (I1.ok.hd hc) pl.isList (by simpa using strsAre_of r) few nd fun h' tk hS hk => PyProof.Rows.args_nil ?_
  have hl : its.toArray.size = zs.length := by rw [List.size_toArray, ← r.length, List.length_map]
  rw [hl] at hS
  obtain ⟨o, es, ep, t, ho, hex, hd, _, _, _, hf, hn⟩ := hS
  have I2 : Inv X pins σ H1 { s1 with heap := h', toks := tk } := I1.kept fun b o e => hk b o (Heap.lt_size e) e
  exact call_len_set ho hex hd hf (by rw [hn] <;> omega) ⟨.int zs.length, H1, I2.tok _, ⟨_, by rw [hn]⟩, q1⟩
end
/-! ### join with the heap's frame named, for comprehensions -/
def rJoinK (K : PySem.W.Frag) : V → List V → Hp → VK → Prop := fun x xs H Q => ∃ a p, ∃ ys : List Str, x = .str a ∧ xs = [.ref p] ∧ (SqL K H p (ys.map V.str) ∨ SqT K H p (ys.map V.str)) ∧ (ys.map (·.length)).sum + ys.length * a.length ≤ 16777216 ∧ Q (.str (Txt.join a ys)) H
theorem pe_joinK {X : Cx} {o e : Expr} {to te : TE} {K : PySem.W.Frag} {apos pos : Pos} (hK : X.K = K) (ho : PE X o to) (he : PE X e te) (hs : starEach [e] X.env = [(false, eval e X.env)] := by rfl) (hb : attributeBase o "join" X.env (eval o X.env) = eval o X.env := by rfl) (hl : (apos.endLine == pos.line) = true := by rfl) :
    PE X (.Call (.Attribute o "join" apos) [e] [] pos) (tM1 (rJoinK K) to te) := by
  subst hK
  exact pe_join ho he hs hb hl
theorem tcut_nat (ts : List (List Nat)) {a b : Nat} (h : a ≤ b) : cutV (txs ts) (some (a : Int)) (some (b : Int)) = txs ((ts.drop a).take (b - a)) := by
  rw [cut_nat _ h]
  unfold txs
  rw [← List.map_drop, ← List.map_take, ← List.map_drop, ← List.map_take]
theorem tcut_from (ts : List (List Nat)) {a : Nat} (h : a ≤ ts.length) : cutV (txs ts) (some (a : Int)) none = txs (ts.drop a) := by
  show ((txs ts).drop (HT.sIx (txs ts).length 0 (some (a : Int)))).take (HT.sIx (txs ts).length (txs ts).length none - HT.sIx (txs ts).length 0 (some (a : Int))) = _
  rw [HT.sIx_nat, HT.sIx_none, txs_len, Nat.min_eq_left h, List.take_of_length_le (by rw [List.length_drop, txs_len]; exact Nat.le_refl _)]
  unfold txs
  rw [← List.map_drop, ← List.map_drop]
section
variable {X : Cx} {CX : CXT} {k : Nat} {ps : List Str} {sp : Sp} {E : L2.St → XK} {x : Str} {p pos : Pos}
theorem pe_calS {e : Expr} {es : List Expr} {t : TA} (c : Cal X.prog X.w X.K X.mg X.base CX k x ps sp) (hr : Room k X.A) (hx : ∀ σ, PassesAt CX X σ (E σ)) (ha : PA X (e :: es) t) (hg : Gl X x := by rfl)
    (hdb : (x == ("__debug__" : Str)) = false := by decide) (he : starEach (e :: es) X.env = (false, eval e X.env) :: starEach es X.env := by rfl) (hpl : (backTo pos (starEach es X.env)).any (·.1) = false := by rfl) :
    PE X (.Call (.Name x p) (e :: es) [] pos) (tCallS sp E t) := by
  obtain ⟨f, fd, F, m, kp, b⟩ := c
  exact pe_callS F hr hg m kp b hx ha hdb he hpl
end
theorem Rcp.flat : ∀ r : Rcp, r.th.flat = true
  | .num _ => rfl
  | .read _ => rfl
  | .two _ a b => by
    show (true && (a.th.flat && (b.th.flat && true))) = true
    rw [Rcp.flat a, Rcp.flat b]; rfl
  | .pick a b c => by
    show (true && (a.th.flat && (b.th.flat && (c.th.flat && true)))) = true
    rw [Rcp.flat a, Rcp.flat b, Rcp.flat c]; rfl
  | .choose a ns => by
    show (true && (a.th.flat && (Th.flatL (nmsTh ns) && true))) = true
    rw [Rcp.flat a, Nms.flat]; rfl
theorem nm_lay {s : List Nat} (h : Nm s) : (PyData.str (SX.S s)).canLay0 = true := by
  have := (nms_py (ns := [s]) fun x hx => by rw [List.mem_singleton.mp hx]; exact h).1
  have z : ((PyData.str (SX.S s)).canLay0 && true) = true := this
  rw [Bool.and_true] at z
  exact z
theorem str_lay {s : List Nat} (h : ∀ c ∈ s, c < 128) : (PyData.str (SX.S s)).canLay0 = true := by
  show (SX.S s).cps.all (· < 0x110000) = true
  rw [← Array.all_toList, List.all_eq_true]
  intro c hc
  have := h c hc
  exact decide_eq_true (by omega)
theorem Rcp.lays : ∀ {r : Rcp}, r.Good → r.th.py.canLay0 = true ∧ r.th.py.depth ≤ r.dep
  | .num n, _ => ⟨by show ((PyData.str (SX.S w_number)).canLay0 && ((PyData.int n).canLay0 && true)) = true; rw [str_lay (by decide)]; rfl, by show max 0 (max 0 0) + 1 ≤ 1; decide⟩
  | .read s, h => ⟨by show ((PyData.str (SX.S w_read)).canLay0 && ((PyData.str (SX.S s)).canLay0 && true)) = true; rw [nm_lay h, str_lay (s := w_read) (by decide)]; rfl, by show max 0 (max 0 0) + 1 ≤ 1; decide⟩
  | .two k a b, h => by
    have h1 := Rcp.lays h.1
    have h2 := Rcp.lays h.2
    refine ⟨?_, ?_⟩
    · show ((PyData.str (SX.S k.word)).canLay0 && (a.th.py.canLay0 && (b.th.py.canLay0 && true))) = true
      rw [h1.1, h2.1, str_lay (s := k.word) (by cases k <;> decide)]
      rfl
    · show max 0 (max a.th.py.depth (max b.th.py.depth 0)) + 1 ≤ max a.dep b.dep + 1
      omega
  | .pick a b c, h => by
    have h1 := Rcp.lays h.1
    have h2 := Rcp.lays h.2.1
    have h3 := Rcp.lays h.2.2
    refine ⟨?_, ?_⟩
    · show ((PyData.str (SX.S w_pick)).canLay0 && (a.th.py.canLay0 && (b.th.py.canLay0 && (c.th.py.canLay0 && true)))) = true
      rw [h1.1, h2.1, h3.1, str_lay (s := w_pick) (by decide)]
      rfl
    · show max 0 (max a.th.py.depth (max b.th.py.depth (max c.th.py.depth 0))) + 1 ≤ max a.dep (max b.dep c.dep) + 1
      omega
  | .choose a ns, h => by
    have h1 := Rcp.lays h.1
    have h2 := nms_py h.2.2.2
    have h3 := dep_pos a
    refine ⟨?_, ?_⟩
    · show ((PyData.str (SX.S w_choose)).canLay0 && (a.th.py.canLay0 && (PyData.canLayAll0 (Th.pyL (nmsTh ns)) && true))) = true
      rw [h1.1, h2.1, str_lay (s := w_choose) (by decide)]
      rfl
    · show max 0 (max a.th.py.depth (max (PyData.depthAll (Th.pyL (nmsTh ns)) + 1) 0)) + 1 ≤ a.dep + 1
      rw [h2.2]
      omega
theorem Rcp.shaped {r : Rcp} (hg : r.Good) (hd : r.dep ≤ 60) : SeqAt.shaped r.th.py = true := by
  have h := Rcp.lays hg
  show (r.th.py.canLay0 && decide (r.th.py.depth ≤ 64)) = true
  rw [h.1, decide_eq_true (by omega)]
  rfl
theorem Rcp.eqv {r : Rcp} (hg : r.Good) : PyData.eqv r.th.py r.th.py = true := SeqAt.eqv_refl _ (Rcp.lays hg).1
theorem nat_low (n : Nat) : ∀ c ∈ TL.numL n, c < 128 := fun c hc => by
  have := TL.numL_digits n c hc
  omega
theorem txt_low : ∀ {r : Rcp}, r.Good → ∀ c ∈ r.txt, c < 128
  | .num n, _, c, hc => by
    have hc' : c ∈ intL n := hc
    by_cases h0 : 0 ≤ n
    · obtain ⟨m, rfl⟩ := Int.eq_ofNat_of_zero_le h0
      rw [intL_nat m] at hc'
      exact nat_low m c hc'
    · obtain ⟨m, hm⟩ := Int.eq_ofNat_of_zero_le (show 0 ≤ -n by omega)
      have hn : n = -(m : Int) := by omega
      rw [hn, intL_neg (by omega)] at hc'
      rcases List.mem_cons.mp hc' with e | h
      · rw [e]; decide
      · exact nat_low m c h
  | .read s, hg, c, hc => by
    have := (show Nm s from hg).2.2 c hc
    omega
  | .two k a b, hg, c, hc => by
    have hk : k.sign < 128 := by cases k <;> decide
    have hc' : c ∈ 40 :: (a.txt ++ (32 :: k.sign :: 32 :: (b.txt ++ [41]))) := hc
    simp only [List.mem_cons, List.mem_append, List.not_mem_nil, or_false] at hc'
    rcases hc' with h | h | h | h | h | h | h
    · omega
    · exact txt_low hg.1 c h
    · omega
    · omega
    · omega
    · exact txt_low hg.2 c h
    · omega
  | .pick a b d, hg, c, hc => by
    have hc' : c ∈ 91 :: (a.txt ++ (32 :: 63 :: 32 :: (b.txt ++ (32 :: 58 :: 32 :: (d.txt ++ [93]))))) := hc
    simp only [List.mem_cons, List.mem_append, List.not_mem_nil, or_false] at hc'
    rcases hc' with h | h | h | h | h | h | h | h | h | h | h
    · omega
    · exact txt_low hg.1 c h
    · omega
    · omega
    · omega
    · exact txt_low hg.2.1 c h
    · omega
    · omega
    · omega
    · exact txt_low hg.2.2 c h
    · omega
  | .choose a ns, hg, c, hc => by
    have hc' : c ∈ a.txt ++ (123 :: (TL.joinL [44] ns ++ [125])) := hc
    simp only [List.mem_cons, List.mem_append, List.not_mem_nil, or_false] at hc'
    rcases hc' with h | h | h | h
    · exact txt_low hg.1 c h
    · omega
    · have := names_signs hg.2.2.2 c h
      rw [Bool.or_eq_true, decide_eq_true_eq] at this
      rcases this with z | z
      · unfold isLt at z
        rw [Bool.and_eq_true, decide_eq_true_eq, decide_eq_true_eq] at z
        omega
      · omega
    · omega
theorem txt_tame {r : Rcp} (hg : r.Good) (hs : r.siz ≤ 1000) : (Th.str r.txt).tame = true := by
  have := txt_len hg
  exact tame_of (by omega) (txt_low hg)
/-! ### recipes alike as data are the same; texts tell recipes apart -/
theorem eqv_head {k k' : List Nat} {l l' : List PyData} (h : PyData.eqv (.tuple (.str (SX.S k) :: l)) (.tuple (.str (SX.S k') :: l')) = true) : k = k' ∧ PyData.eqvAll l l' = true := by
  have e : ((SX.S k == SX.S k') && PyData.eqvAll l l') = true := h
  rw [Bool.and_eq_true, SX.S_beq] at e
  exact ⟨beq_iff_eq.mp e.1, e.2⟩
theorem eqv_cons {x y : PyData} {l l' : List PyData} (h : PyData.eqvAll (x :: l) (y :: l') = true) : PyData.eqv x y = true ∧ PyData.eqvAll l l' = true := by
  have e : (PyData.eqv x y && PyData.eqvAll l l') = true := h
  rw [Bool.and_eq_true] at e
  exact e
theorem eqv_str {a b : List Nat} (h : PyData.eqv (.str (SX.S a)) (.str (SX.S b)) = true) : a = b := by
  have e : (SX.S a == SX.S b) = true := h
  rw [SX.S_beq] at e
  exact beq_iff_eq.mp e
theorem eqv_nms : ∀ {ns ms : List (List Nat)}, PyData.eqvAll (Th.pyL (nmsTh ns)) (Th.pyL (nmsTh ms)) = true → ns = ms
  | [], [], _ => rfl
  | [], _ :: _, h => by cases h
  | _ :: _, [], h => by cases h
  | a :: ns, b :: ms, h => by
    obtain ⟨h1, h2⟩ := eqv_cons h
    rw [eqv_str h1, eqv_nms h2]
theorem kd_inj {k k' : Kd} (h : k.word = k'.word) : k = k' := by cases k <;> cases k' <;> first | rfl | (exact absurd h (by decide))
theorem eqv_rcp : ∀ {r s : Rcp}, PyData.eqv r.th.py s.th.py = true → r = s
  | .num n, .num m, h => by
    have e : (n == m) = true := (eqv_cons (eqv_head h).2).1
    rw [beq_iff_eq.mp e]
  | .read a, .read b, h => by rw [eqv_str (eqv_cons (eqv_head h).2).1]
  | .two k a b, .two k' a' b', h => by
    obtain ⟨h1, h2⟩ := eqv_head h
    obtain ⟨h3, h4⟩ := eqv_cons h2
    rw [kd_inj h1, eqv_rcp h3, eqv_rcp (eqv_cons h4).1]
  | .pick a b c, .pick a' b' c', h => by
    obtain ⟨h3, h4⟩ := eqv_cons (eqv_head h).2
    obtain ⟨h5, h6⟩ := eqv_cons h4
    rw [eqv_rcp h3, eqv_rcp h5, eqv_rcp (eqv_cons h6).1]
  | .choose a ns, .choose a' ms, h => by
    obtain ⟨h3, h4⟩ := eqv_cons (eqv_head h).2
    have h5 : PyData.eqvAll (Th.pyL (nmsTh ns)) (Th.pyL (nmsTh ms)) = true := (eqv_cons h4).1
    rw [eqv_rcp h3, eqv_nms h5]
  | .num _, .read _, h => absurd (eqv_head h).1 (by decide)
  | .num _, .two k _ _, h => absurd (eqv_head h).1 (by cases k <;> decide)
  | .num _, .pick _ _ _, h => absurd (eqv_head h).1 (by decide)
  | .num _, .choose _ _, h => absurd (eqv_head h).1 (by decide)
  | .read _, .num _, h => absurd (eqv_head h).1 (by decide)
  | .read _, .two k _ _, h => absurd (eqv_head h).1 (by cases k <;> decide)
  | .read _, .pick _ _ _, h => absurd (eqv_head h).1 (by decide)
  | .read _, .choose _ _, h => absurd (eqv_head h).1 (by decide)
  | .two k _ _, .num _, h => absurd (eqv_head h).1 (by cases k <;> decide)
  | .two k _ _, .read _, h => absurd (eqv_head h).1 (by cases k <;> decide)
  | .two k _ _, .pick _ _ _, h => absurd (eqv_head h).1 (by cases k <;> decide)
  | .two k _ _, .choose _ _, h => absurd (eqv_head h).1 (by cases k <;> decide)
  | .pick _ _ _, .num _, h => absurd (eqv_head h).1 (by decide)
  | .pick _ _ _, .read _, h => absurd (eqv_head h).1 (by decide)
  | .pick _ _ _, .two k _ _, h => absurd (eqv_head h).1 (by cases k <;> decide)
  | .pick _ _ _, .choose _ _, h => absurd (eqv_head h).1 (by decide)
  | .choose _ _, .num _, h => absurd (eqv_head h).1 (by decide)
  | .choose _ _, .read _, h => absurd (eqv_head h).1 (by decide)
  | .choose _ _, .two k _ _, h => absurd (eqv_head h).1 (by cases k <;> decide)
  | .choose _ _, .pick _ _ _, h => absurd (eqv_head h).1 (by decide)
theorem txt_inj {r s : Rcp} (hr : r.Good) (hs : s.Good) (dr : r.dep ≤ 8) (ds : s.dep ≤ 8) (zr : r.siz ≤ 100) (zs : s.siz ≤ 100) (h : r.txt = s.txt) : r = s := by
  have e1 := rRead_txt hr dr zr
  have e2 := rRead_txt hs ds zs
  rw [h, e2] at e1
  exact (Option.some.inj e1).symm
theorem eqv_txt {r s : Rcp} (hr : r.Good) (hs : s.Good) (dr : r.dep ≤ 8) (ds : s.dep ≤ 8) (zr : r.siz ≤ 100) (zs : s.siz ≤ 100) : PyData.eqv r.th.py s.th.py = decide (r.txt = s.txt) := by
  rw [Bool.eq_iff_iff, decide_eq_true_eq]
  refine ⟨fun h => by rw [eqv_rcp h], fun h => ?_⟩
  rw [txt_inj hr hs dr ds zr zs h]
  exact SeqAt.eqv_refl _ (Rcp.lays hs).1
/-! ### signs counted in the text of a recipe -/
def cnt (c : Nat) (l : List Nat) : Nat := l.countP fun x => decide (x = c)
theorem cnt_app (c : Nat) (a b : List Nat) : cnt c (a ++ b) = cnt c a + cnt c b := by unfold cnt; exact List.countP_append
theorem cnt_cons (c x : Nat) (l : List Nat) : cnt c (x :: l) = (if x = c then 1 else 0) + cnt c l := by
  unfold cnt
  rw [List.countP_cons, Nat.add_comm]
  by_cases h : x = c
  · rw [if_pos h, decide_eq_true h]; rfl
  · rw [if_neg h, decide_eq_false h]; rfl
theorem cnt_nil (c : Nat) : cnt c [] = 0 := rfl
theorem cnt_zero {c : Nat} {l : List Nat} (h : c ∉ l) : cnt c l = 0 := by
  unfold cnt
  rw [List.countP_eq_zero]
  intro x hx z
  exact h (of_decide_eq_true z ▸ hx)
theorem num_signs {n : Int} {c : Nat} (h : c ∈ intL n) : c = 45 ∨ (48 ≤ c ∧ c ≤ 57) := by
  by_cases h0 : 0 ≤ n
  · obtain ⟨m, rfl⟩ := Int.eq_ofNat_of_zero_le h0
    rw [intL_nat m] at h
    exact .inr (TL.numL_digits m c h)
  · obtain ⟨m, hm⟩ := Int.eq_ofNat_of_zero_le (show 0 ≤ -n by omega)
    rw [show n = -(m : Int) by omega, intL_neg (by omega)] at h
    rcases List.mem_cons.mp h with e | h
    · exact .inl e
    · exact .inr (TL.numL_digits m c h)
def Rcp.twos : Rcp → Nat
  | .two _ a b => a.twos + b.twos + 1
  | .pick a b c => a.twos + b.twos + c.twos
  | .choose a _ => a.twos
  | _ => 0
theorem twos_siz : ∀ r : Rcp, 2 * r.twos + 1 ≤ r.siz
  | .num _ => Nat.le_refl _
  | .read _ => Nat.le_refl _
  | .two _ a b => by
    have h1 := twos_siz a
    have h2 := twos_siz b
    show 2 * (a.twos + b.twos + 1) + 1 ≤ a.siz + b.siz + 1
    omega
  | .pick a b c => by
    have h1 := twos_siz a
    have h2 := twos_siz b
    have h3 := twos_siz c
    show 2 * (a.twos + b.twos + c.twos) + 1 ≤ a.siz + b.siz + c.siz + 1
    omega
  | .choose a _ => by
    have h1 := twos_siz a
    show 2 * a.twos + 1 ≤ a.siz + 1
    omega
/-- the opening and the closing brackets of sums -/
theorem cnt_twos {s : Nat} (hs : s = 40 ∨ s = 41) : ∀ {r : Rcp}, r.Good → cnt s r.txt = r.twos
  | .num n, _ => cnt_zero fun h => by
    rcases num_signs h with e | e <;> omega
  | .read z, hg => cnt_zero fun h => by
    have := (show Nm z from hg).2.2 s h
    omega
  | .two k a b, hg => by
    have h1 := cnt_twos hs hg.1
    have h2 := cnt_twos hs hg.2
    have hk : ¬ k.sign = s := by cases k <;> rcases hs with rfl | rfl <;> decide
    show cnt s (40 :: (a.txt ++ (32 :: k.sign :: 32 :: (b.txt ++ [41])))) = a.twos + b.twos + 1
    simp only [cnt_cons, cnt_app, cnt_nil, h1, h2, if_neg hk]
    rcases hs with rfl | rfl
    · simp; omega
    · simp; omega
  | .pick a b c, hg => by
    have h1 := cnt_twos hs hg.1
    have h2 := cnt_twos hs hg.2.1
    have h3 := cnt_twos hs hg.2.2
    show cnt s (91 :: (a.txt ++ (32 :: 63 :: 32 :: (b.txt ++ (32 :: 58 :: 32 :: (c.txt ++ [93])))))) = a.twos + b.twos + c.twos
    simp only [cnt_cons, cnt_app, cnt_nil, h1, h2, h3]
    rcases hs with rfl | rfl
    · simp; omega
    · simp; omega
  | .choose a ns, hg => by
    have h1 := cnt_twos hs hg.1
    have hn : cnt s (TL.joinL [44] ns) = 0 := cnt_zero fun h => by
      have z := names_signs hg.2.2.2 s h
      rcases hs with rfl | rfl
      · revert z; decide
      · revert z; decide
    show cnt s (a.txt ++ (123 :: (TL.joinL [44] ns ++ [125]))) = a.twos
    simp only [cnt_cons, cnt_app, cnt_nil, h1, hn]
    rcases hs with rfl | rfl <;> rfl
/-- brackets ahead go no deeper than the recipe -/
def lead (s : Nat) (l : List Nat) : Nat := (l.takeWhile fun x => decide (x = s)).length
theorem lead_hit (s : Nat) (l : List Nat) : lead s (s :: l) = lead s l + 1 := by
  unfold lead
  rw [List.takeWhile_cons, if_pos (decide_eq_true rfl)]
  rfl
theorem lead_miss {s c : Nat} (h : c ≠ s) (l : List Nat) : lead s (c :: l) = 0 := by
  unfold lead
  rw [List.takeWhile_cons, if_neg (fun z => h (of_decide_eq_true z))]
  rfl
theorem txt_head_num (n : Int) : ∃ c l, intL n = c :: l ∧ (c = 45 ∨ (48 ≤ c ∧ c ≤ 57)) := by
  cases e : intL n with
  | nil =>
    by_cases h0 : 0 ≤ n
    · obtain ⟨m, rfl⟩ := Int.eq_ofNat_of_zero_le h0
      rw [intL_nat m] at e
      exact absurd e (TL.numL_ne _)
    · obtain ⟨m, hm⟩ := Int.eq_ofNat_of_zero_le (show 0 ≤ -n by omega)
      rw [show n = -(m : Int) by omega, intL_neg (by omega)] at e
      cases e
  | cons c l => exact ⟨c, l, rfl, num_signs (n := n) (by rw [e]; exact List.mem_cons_self ..)⟩
theorem lead_dep {s : Nat} (hs : s = 40 ∨ s = 91) : ∀ {r : Rcp}, r.Good → ∀ rest, lead s (r.txt ++ rest) + 1 ≤ r.dep
  | .num n, _, rest => by
    obtain ⟨c, l, e, hc⟩ := txt_head_num n
    show lead s (intL n ++ rest) + 1 ≤ 1
    rw [e]
    show lead s (c :: (l ++ rest)) + 1 ≤ 1
    rw [lead_miss (by omega)]
    exact Nat.le_refl 1
  | .read z, hg, rest => by
    have hz : Nm z := hg
    show lead s (z ++ rest) + 1 ≤ 1
    cases z with
    | nil => exact absurd hz.1 (by decide)
    | cons c l =>
      have hc := hz.2.2 c (List.mem_cons_self ..)
      show lead s (c :: (l ++ rest)) + 1 ≤ 1
      rw [lead_miss (by omega)]
      exact Nat.le_refl 1
  | .two k a b, hg, rest => by
    have h1 := lead_dep hs hg.1 ((32 :: k.sign :: 32 :: (b.txt ++ [41])) ++ rest)
    have e : (Rcp.two k a b).txt ++ rest = 40 :: (a.txt ++ ((32 :: k.sign :: 32 :: (b.txt ++ [41])) ++ rest)) := by
      show 40 :: (a.txt ++ (32 :: k.sign :: 32 :: (b.txt ++ [41]))) ++ rest = _
      simp
    rw [e]
    show _ ≤ max a.dep b.dep + 1
    rcases hs with rfl | rfl
    · rw [lead_hit]
      omega
    · rw [lead_miss (by decide)]
      omega
  | .pick a b c, hg, rest => by
    have h1 := lead_dep hs hg.1 ((32 :: 63 :: 32 :: (b.txt ++ (32 :: 58 :: 32 :: (c.txt ++ [93])))) ++ rest)
    have e : (Rcp.pick a b c).txt ++ rest = 91 :: (a.txt ++ ((32 :: 63 :: 32 :: (b.txt ++ (32 :: 58 :: 32 :: (c.txt ++ [93])))) ++ rest)) := by
      show 91 :: (a.txt ++ (32 :: 63 :: 32 :: (b.txt ++ (32 :: 58 :: 32 :: (c.txt ++ [93]))))) ++ rest = _
      simp
    rw [e]
    show _ ≤ max a.dep (max b.dep c.dep) + 1
    rcases hs with rfl | rfl
    · rw [lead_miss (by decide)]
      omega
    · rw [lead_hit]
      omega
  | .choose a ns, hg, rest => by
    have h1 := lead_dep hs hg.1 ((123 :: (TL.joinL [44] ns ++ [125])) ++ rest)
    have e : (Rcp.choose a ns).txt ++ rest = a.txt ++ ((123 :: (TL.joinL [44] ns ++ [125])) ++ rest) := by
      show (a.txt ++ (123 :: (TL.joinL [44] ns ++ [125]))) ++ rest = _
      rw [List.append_assoc]
    rw [e]
    show _ ≤ a.dep + 1
    omega
/-- of what is a recipe: no deeper than 8 -/
theorem rcp_dep : ∀ (n : Nat) {r : Rcp}, r.Good → r.th.okay n = true → r.dep ≤ n
  | 0, r, _, h => by cases h
  | n + 1, r, hg, h => by
    have hp := r.parts_th hg
    have h' : (match r.th.parts with | none => false | some ps => ps.all (Th.okay n)) = true := h
    rw [hp] at h'
    have h2 : (r.subs.map Rcp.th).all (Th.okay n) = true := h'
    rw [List.all_map, List.all_eq_true] at h2
    have key : ∀ x ∈ r.subs, x.dep ≤ n := fun x hx => rcp_dep n (r.subs_good hg x hx).1 (h2 x hx)
    cases r with
    | num _ => exact Nat.le_add_left 1 n
    | read _ => exact Nat.le_add_left 1 n
    | two k a b =>
      have h1 := key a (by simp [Rcp.subs])
      have h2 := key b (by simp [Rcp.subs])
      show max a.dep b.dep + 1 ≤ n + 1
      omega
    | pick a b c =>
      have h1 := key a (by simp [Rcp.subs])
      have h2 := key b (by simp [Rcp.subs])
      have h3 := key c (by simp [Rcp.subs])
      show max a.dep (max b.dep c.dep) + 1 ≤ n + 1
      omega
    | choose a ns =>
      have h1 := key a (by simp [Rcp.subs])
      show a.dep + 1 ≤ n + 1
      omega
theorem rcp_is {r : Rcp} (hg : r.Good) (h : r.th.isRcp = true) : r.dep ≤ 8 ∧ r.siz ≤ 100 := by
  have h' : (r.th.okay 8 && decide (r.th.count 8 ≤ 100)) = true := h
  rw [Bool.and_eq_true, decide_eq_true_eq] at h'
  have hd := rcp_dep 8 hg h'.1
  have := (Rcp.okay 8 hg hd).2
  exact ⟨hd, by omega⟩
/-- without brackets a recipe is a row of chooses -/
theorem cnt_choose : ∀ {r : Rcp}, r.Good → 40 ∉ r.txt → 91 ∉ r.txt → cnt 123 r.txt + 1 = r.dep
  | .num n, _, _, _ => by
    have e : cnt 123 (intL n) = 0 := cnt_zero fun h => by
      rcases num_signs h with e | e <;> omega
    show cnt 123 (intL n) + 1 = 1
    rw [e]
  | .read z, hg, _, _ => by
    have e : cnt 123 z = 0 := cnt_zero fun h => by
      have := (show Nm z from hg).2.2 123 h
      omega
    show cnt 123 z + 1 = 1
    rw [e]
  | .two k a b, _, h, _ => absurd (List.mem_cons_self ..) h
  | .pick a b c, _, _, h => absurd (List.mem_cons_self ..) h
  | .choose a ns, hg, h1, h2 => by
    have e1 : (Rcp.choose a ns).txt = a.txt ++ (123 :: (TL.joinL [44] ns ++ [125])) := rfl
    have ih := cnt_choose hg.1 (fun z => h1 (by rw [e1]; exact List.mem_append_left _ z)) (fun z => h2 (by rw [e1]; exact List.mem_append_left _ z))
    have hn : cnt 123 (TL.joinL [44] ns) = 0 := cnt_zero fun h => by
      have z := names_signs hg.2.2.2 123 h
      revert z
      decide
    show cnt 123 (a.txt ++ (123 :: (TL.joinL [44] ns ++ [125]))) + 1 = a.dep + 1
    rw [cnt_app, cnt_cons, cnt_app, hn, ← ih]
    rfl
/-- of letters alone there are only names -/
theorem letters_only {r : Rcp} (hg : r.Good) (h : ∀ c ∈ r.txt, isLt c = true) : r.txt.length ≤ 8 := by
  cases r with
  | num n =>
    obtain ⟨c, l, e, hc⟩ := txt_head_num n
    have e' : (Rcp.num n).txt = c :: l := e
    have z := h c (by rw [e']; exact List.mem_cons_self ..)
    rw [lt_not (by omega)] at z
    cases z
  | read z => exact (show Nm z from hg).2.1
  | two k a b => exact absurd (h 40 (List.mem_cons_self ..)) (by decide)
  | pick a b c => exact absurd (h 91 (List.mem_cons_self ..)) (by decide)
  | choose a ns =>
    have e1 : (Rcp.choose a ns).txt = a.txt ++ (123 :: (TL.joinL [44] ns ++ [125])) := rfl
    exact absurd (h 123 (by rw [e1]; exact List.mem_append_right _ (List.mem_cons_self ..))) (by decide)
/-- what is no recipe's text is refused -/
theorem refused {T : List Nat} (h : ∀ r : Rcp, r.Good → r.dep ≤ 8 → r.siz ≤ 100 → T ≠ r.txt) : rRead (.str T) = none := by
  cases e : rRead (.str T) with
  | none => rfl
  | some r =>
    obtain ⟨h1, h2, h3⟩ := rRead_rev e
    obtain ⟨h4, h5⟩ := rcp_is h2 h3
    exact absurd h1 (h r h2 h4 h5)
theorem refused_lead {s : Nat} (hs : s = 40 ∨ s = 91) {T : List Nat} (h : 8 ≤ lead s T) : rRead (.str T) = none := refused fun r hg hd _ e => by
  have := lead_dep hs hg []
  rw [List.append_nil, ← e] at this
  omega
theorem refused_many {T : List Nat} (h : 50 ≤ cnt 40 T) : rRead (.str T) = none := refused fun r hg _ hz e => by
  have h1 := cnt_twos (.inl rfl) hg
  have h2 := twos_siz r
  rw [← e] at h1
  omega
theorem refused_choose {T : List Nat} (h1 : 40 ∉ T) (h2 : 91 ∉ T) (h : 8 ≤ cnt 123 T) : rRead (.str T) = none := refused fun r hg hd _ e => by
  have := cnt_choose hg (by rw [← e]; exact h1) (by rw [← e]; exact h2)
  rw [← e] at this
  omega
theorem refused_letters {T : List Nat} (h : ∀ c ∈ T, isLt c = true) (hl : 9 ≤ T.length) : rRead (.str T) = none := refused fun r hg _ _ e => by
  have := letters_only hg (by rw [← e]; exact h)
  rw [← e] at this
  omega
/-! ### drawn texts, and reading that may be refused -/
def drawn20 : List (List Nat) := [[97], [98], [40], [41], [32, 43, 32], [32, 42, 32], [48], [49], [45], [91], [93], [32, 63, 32], [32, 58, 32], [123], [125], [44], [120], [40, 97], [98, 41], [123, 97, 125]]
theorem drawn_ok : ∀ s ∈ drawn20, s.length ≤ 3 ∧ ∀ c ∈ s, c < 128 := by decide
def spDrawn : Sp := fun vs H Q _ => ∃ (B : Hp) (d : Addr), vs = [.ref d] ∧ DeckAt B H d ∧ ∀ (B' H' : Hp) (T : List Nat), Same B B' → DeckAt B' H' d → T.length ≤ 100 → (∀ c ∈ T, c < 128) → Q (.str (SX.S T)) H'
def spTry : Sp := fun vs H Q _ => ∃ (v : V) (t : Th), vs = [v] ∧ Data H t v ∧ t.tame = true ∧ (rRead t = none → ∀ H', Same H H' → Q .non H') ∧ (∀ r, rRead t = some r → r.Good → ∀ (H' : Hp) (v' : V), Same H H' → Rec H' r v' → Q v' H')
section
variable {P : Program} {w : World} {K : PySem.W.Frag} {mg : Str → Option Value} {base : Heap}
abbrev s__law_drawn : Stmt := topS 36
abbrev N__law_drawn : List Str := ["deck", "some", "k"]
theorem sc__law_drawn : FnScope N__law_drawn ["deck"] (defScope s__law_drawn) := ⟨rfl, rfl, rfl, by decide +kernel, rfl, by decide +kernel, by decide +kernel⟩

theorem ok__law_drawn (T : Txt K mg) (D : IsDef K mg "_law_drawn" s__law_drawn ["deck"]) (C__law_draw : Cal P w K mg base CX0 1 "_law_draw" ["deck", "many"] spDraw) : Cal P w K mg base CX0 2 "_law_drawn" ["deck"] spDrawn := by
  refine D.cal sc__law_drawn (fun vs H Q E h => ?_) (fun f cdv A outer s H vs Q E hr h => ?_)
  · obtain ⟨B, d, rfl, _⟩ := h
    rfl
  obtain ⟨B, d, rfl, hD, q⟩ := h
  refine ⟨_, (pss_cons (ps_set (i := 1) sc__law_drawn.nd rfl (Or.inr rfl) (pe_lst (pa_cons pe_str (pa_cons pe_str (pa_cons pe_str (pa_cons pe_str (pa_cons pe_str (pa_cons pe_str (pa_cons pe_str (pa_cons pe_str (pa_cons pe_str (pa_cons pe_str (pa_cons pe_str (pa_cons pe_str (pa_cons pe_str (pa_cons pe_str (pa_cons pe_str (pa_cons pe_str pa_nil))))))))))))))))))
      (pss_cons (ps_set (i := 1) sc__law_drawn.nd rfl (Or.inr rfl) (pe_op op_cat (pv 1) (pe_lst (pa_cons pe_str (pa_cons pe_str (pa_cons pe_str (pa_cons pe_str pa_nil)))))))
      (pss_one (ps_ret (pe_join pe_str (pe_lc (own := [("k", 2)]) (g := gName 2)  (by rfl) sc__law_drawn.nd  (pi_range1 rfl T.b_range (pa_cons (pe_op op_add pe_int (pe_cal C__law_draw (hr.mono (by first | decide | omega)) pass0 (pa_cons (pv 0) (pa_cons pe_int pa_nil)))) pa_nil)) (blkOk_by (own := [("k", 2)]) (N := N__law_drawn) (sc := defScope s__law_drawn) (by decide +kernel)) (fun _ _ _ _ _ => (pg_name (i := 2) sc__law_drawn.nd rfl (Or.inl rfl))) (fun _ _ _ _ _ => pts_nil) (fun _ _ _ _ _ => (pe_ix (r := rIxL K) ix_list (pv 1) (pe_cal C__law_draw (hr.mono (by first | decide | omega)) pass0 (pa_cons (pv 0) (pa_cons pe_int pa_nil))) (fun _ _ => rfl))))))))), ?_⟩
  have e20 : ([.str "a", .str "b", .str "(", .str ")", .str " + ", .str " * ", .str "0", .str "1", .str "-", .str "[", .str "]", .str " ? ", .str " : ", .str "{", .str "}", .str ",", .str "x", .str "(a", .str "b)", .str "{a}"] : List V) = txs drawn20 := by
    have e : (["a", "b", "(", ")", " + ", " * ", "0", "1", "-", "[", "]", " ? ", " : ", "{", "}", ",", "x", "(a", "b)", "{a}"] : List Str) = drawn20.map SX.S := by decide +kernel
    exact congrArg (List.map V.str) e
  refine ⟨le_line (Nat.le_of_ble_eq_true rfl), fun L1 n1 => ⟨_, rfl, le_line (Nat.le_of_ble_eq_true rfl), fun L2 n2 => ⟨L1, L2, _, _, rfl, rfl, (same_new n2 _) _ _ upd_same, upd_same, le_line (Nat.le_of_ble_eq_true rfl), fun L3 n3 => ?_⟩⟩⟩
  have hD1 := hD.new n1 (.lst [.str "a", .str "b", .str "(", .str ")", .str " + ", .str " * ", .str "0", .str "1", .str "-", .str "[", .str "]", .str " ? ", .str " : ", .str "{", .str "}", .str ","])
  have hD2 := hD1.new n2 (.lst [.str "x", .str "(a", .str "b)", .str "{a}"])
  have hD3 := hD2.new n3 (.lst [.str "a", .str "b", .str "(", .str ")", .str " + ", .str " * ", .str "0", .str "1", .str "-", .str "[", .str "]", .str " ? ", .str " : ", .str "{", .str "}", .str ",", .str "x", .str "(a", .str "b)", .str "{a}"])
  have b3 := (same_new (hD.free n1) _).trans ((same_new (hD1.free n2) _).trans (same_new (hD2.free n3) (.lst [.str "a", .str "b", .str "(", .str ")", .str " + ", .str " * ", .str "0", .str "1", .str "-", .str "[", .str "]", .str " ? ", .str " : ", .str "{", .str "}", .str ",", .str "x", .str "(a", .str "b)", .str "{a}"])))
  obtain ⟨B3, hb3, hD3, hL3⟩ : ∃ B3 : Hp, Same B B3 ∧ DeckAt B3 _ d ∧ B3 L3 = some (.lst (txs drawn20)) := ⟨_, b3, hD3, by rw [upd_same, e20]⟩
  refine ⟨⟨_, rfl⟩, _, rfl, B3, d, 12, rfl, hD3, by decide, by decide, fun H4 n hD4 n0 n12 => ⟨_, _, rfl, rfl, 1 + n, rfl, Int.le_trans (by decide) (Int.add_nonneg (by decide) n0), by omega, ?_⟩⟩
  refine fun L nL => lc_range (lo := 0) (n := (1 + n).toNat) (fun i H => ∃ (B' : Hp) (ss : List (List Nat)), Same B3 B' ∧ DeckAt B' H d ∧ B' L = some (.lst (txs ss)) ∧ ss.length = i ∧ ∀ s ∈ ss, s ∈ drawn20)
    ⟨_, [], same_new (hD4.free nL) _, hD4.new nL _, upd_same, rfl, by simp⟩ ?_ ?_
  · rintro i H5 hi ⟨B', ss, hB, hD5, hL, hn, hc⟩
    refine ⟨rfl, _, rfl, _, rfl, B', d, 20, rfl, hD5, by decide, by decide, fun H6 v hD6 v0 v20 => ?_⟩
    obtain ⟨x, hx, hat⟩ := one_of (xs := txs drawn20) v0 v20
    obtain ⟨s, hs, rfl⟩ := txs_mem hx
    have hL3' := hB _ _ hL3
    have hLn : L ≠ L3 := fun z => by
      have e := hD4.free nL
      rw [z, hL3] at e
      cases e
    refine ⟨L3, _, v, _, rfl, rfl, SqL.of (hD6.1 _ _ hL3'), hat, _, hD6.1 _ _ hL, by rw [txs_len, hn]; exact lt_line (by omega), ?_⟩
    refine ⟨upd B' L _, ss ++ [s], fun b o e => ?_, hD6.put hL _, by rw [upd_same, txs_app]; rfl, by rw [List.length_append, hn]; rfl, fun c hcm => ?_⟩
    · have z : b ≠ L := fun z => by
        rw [z] at e
        rw [hD4.free nL] at e
        cases e
      rw [upd_ne z]
      exact hB b o e
    · rcases List.mem_append.mp hcm with h | h
      · exact hc c h
      · rw [List.mem_singleton.mp h]
        exact hs
  · rintro H5 ⟨B', ss, hB, hD5, hL, hn, hc⟩
    have e0 : ("" : Str) = SX.S [] := by decide +kernel
    have ej : Txt.join "" (ss.map SX.S) = SX.S ss.flatten := by
      rw [e0, SX.join_S [] ss, joinL_nil]
    have hsum : ∀ ss : List (List Nat), (∀ s ∈ ss, s ∈ drawn20) → (((ss.map SX.S).map (·.length)).sum = ss.flatten.length) ∧ ss.flatten.length ≤ 3 * ss.length := fun ss h => by
      induction ss with
      | nil => exact ⟨rfl, Nat.le_refl _⟩
      | cons s ss ih =>
        obtain ⟨h1, h2⟩ := ih fun x hx => h x (List.mem_cons_of_mem _ hx)
        have h3 := (drawn_ok s (h s (List.mem_cons_self ..))).1
        rw [List.map_cons, List.map_cons, List.sum_cons, SX.S_len, h1, List.flatten_cons, List.length_append, List.length_cons]
        exact ⟨rfl, by omega⟩
    obtain ⟨hs1, hs2⟩ := hsum ss hc
    refine ⟨"", L, ss.map SX.S, rfl, rfl, .inl (SqL.of (hD5.1 _ _ hL)), ?_, ?_⟩
    · rw [hs1, List.length_map, e0, SX.S_len]
      show ss.flatten.length + ss.length * 0 ≤ 16777216
      omega
    · rw [ej]
      refine q B' _ ss.flatten (hb3.trans hB) hD5 (by omega) fun c hcm => ?_
      obtain ⟨l, hl, hcl⟩ := List.mem_flatten.mp hcm
      exact (drawn_ok l (hc l hl)).2 c hcl
abbrev s__law_read : Stmt := topS 35
abbrev N__law_read : List Str := ["text", "found"]
theorem sc__law_read : FnScope N__law_read ["text"] (defScope s__law_read) := ⟨rfl, rfl, rfl, by decide +kernel, rfl, by decide +kernel, by decide +kernel⟩

theorem ok__law_read {C : Addr} (T : Txt K mg) (X0 : NoT K mg C) (hm : PySem.W.exmOne K (.ref C) (.ref C) = some true) (D : IsDef K mg "_law_read" s__law_read ["text"]) (C_read_recipe : Cal P w K mg base (L2.CX P w) 20 "read_recipe" ["text"] (spRead C)) : Cal P w K mg base CX0 21 "_law_read" ["text"] spTry := by
  refine D.cal sc__law_read (fun vs H Q E h => ?_) (fun f cdv A outer s H vs Q E hr h => ?_)
  · obtain ⟨v, t, rfl, _⟩ := h
    rfl
  obtain ⟨v, t, rfl, hv, ht, q1, q2⟩ := h
  have GNoText := X0.g
  refine ⟨_, (pss_cons (ps_set (i := 1) sc__law_read.nd rfl (Or.inl rfl) pe_non)
      (pss_cons (ps_try_only rfl rfl ⟨rfl, by decide, .inl GNoText⟩ takes0 (fun W pn xe tk _ => (pss_one (ps_set (i := 1) sc__law_read.nd rfl (Or.inl rfl) (pe_calS C_read_recipe (hr.mono (by first | decide | omega)) (fun σ => passAt tk σ) (pa_cons (pv 0) pa_nil)))))
        (fun a oe cls d pn _ _ => (pss_one (ps_set (i := 1) sc__law_read.nd rfl (Or.inl rfl) pe_non))))
      (pss_one (ps_ret (pv 1))))), ?_⟩
  refine ⟨_, rfl, v, t, rfl, hv, ht, fun hn H1 hs1 => ?_, fun r e hG H1 v' hs1 hR => ?_⟩
  · refine ⟨true, hm, fun _ a na => ?_, fun z => nomatch z⟩
    exact ⟨_, rfl, q1 hn _ hs1⟩
  · exact ⟨_, rfl, q2 r e hG _ v' hs1 hR⟩
end
/-! ### slices and ends of texts -/
theorem cut_mid (a b : Nat) (M : List Nat) : cutS (SX.S (a :: (M ++ [b]))) (some 1) (some (-1)) = SX.S M := by
  have hl : (SX.S (a :: (M ++ [b]))).length = M.length + 2 := by rw [SX.S_len]; simp
  show (⟨(((SX.S (a :: (M ++ [b]))).cps.toList.drop (HT.sIx (SX.S (a :: (M ++ [b]))).length 0 (some 1))).take (HT.sIx (SX.S (a :: (M ++ [b]))).length (SX.S (a :: (M ++ [b]))).length (some (-1)) - HT.sIx (SX.S (a :: (M ++ [b]))).length 0 (some 1))).toArray⟩ : Str) = SX.S M
  rw [hl]
  have e1 : HT.sIx (M.length + 2) 0 (some 1) = 1 := by
    have := HT.sIx_nat (M.length + 2) 0 1
    exact this.trans (by omega)
  have e2 : HT.sIx (M.length + 2) (M.length + 2) (some (-1)) = M.length + 1 := by
    show (if (-1 : Int) < 0 then ((-1 : Int) + ((M.length + 2 : Nat) : Int)).toNat else min (-1 : Int).toNat (M.length + 2)) = M.length + 1
    rw [if_pos (by decide)]
    omega
  rw [e1, e2]
  show (⟨(((a :: (M ++ [b])).drop 1).take (M.length + 1 - 1)).toArray⟩ : Str) = SX.S M
  rw [List.drop_succ_cons, List.drop_zero, Nat.add_sub_cancel, List.take_left' rfl]
theorem starts_of (a b : List Nat) : Txt.startswith (SX.S (a ++ b)) (SX.S a) = true := by
  unfold Txt.startswith
  rw [StrLaws.subAt_eq, SX.S_len, SX.S_len, Bool.and_eq_true]
  refine ⟨decide_eq_true (by rw [List.length_append]; omega), ?_⟩
  show (((a ++ b).drop 0).take a.length == a) = true
  rw [List.drop_zero, List.take_left' rfl]
  exact beq_self_eq_true a
theorem ends_of (a b : List Nat) : Txt.endswith (SX.S (a ++ b)) (SX.S b) = true := by
  unfold Txt.endswith
  rw [StrLaws.subAt_eq, SX.S_len, SX.S_len, Bool.and_eq_true]
  refine ⟨decide_eq_true (by rw [List.length_append]; omega), ?_⟩
  show (((a ++ b).drop ((a ++ b).length - b.length)).take b.length == b) = true
  rw [List.length_append, Nat.add_sub_cancel, List.drop_left' rfl, List.take_of_length_le (Nat.le_refl _)]
  exact beq_self_eq_true b
theorem last_at (a b : Nat) (M : List Nat) : atI (a :: (M ++ [b])) (-1) = some b := atI_last (a :: M) b
def spLaw (K : PySem.W.Frag) : Sp := fun vs H Q _ => ∃ (a : Addr) (ns : List Int), vs = [.ref a] ∧ SqL K H a (ns.map V.int) ∧ ns.length ≤ 63 ∧ ∀ H', Q (.bl true) H'
theorem recs_lst {H : Hp} {D : Addr} {xs ys : List V} {rs : List Rcp} {vs : List V} (h : Recs H rs vs) (hD : H D = some (.lst xs)) : Recs (upd H D (.lst ys)) rs vs := h.keep (keep_lst hD)
/-- recipes small enough to be read -/
def Okay (r : Rcp) : Prop := r.Good ∧ r.dep ≤ 8 ∧ r.siz ≤ 100
theorem Recs.three {H : Hp} : ∀ {rs : List Rcp} {xs : List V}, Recs H rs xs → rs.length = 3 → ∃ r s t x y z, rs = [r, s, t] ∧ xs = [x, y, z] ∧ Rec H r x ∧ Rec H s y ∧ Rec H t z
  | [r, s, t], [x, y, z], h, _ => ⟨r, s, t, x, y, z, rfl, rfl, h.1, h.2.1, h.2.2.1⟩
  | [], _, _, e => by cases e
  | [_], _, _, e => by cases e
  | [_, _], _, _, e => by cases e
  | _ :: _ :: _ :: _ :: _, _, _, e => by simp at e
  | [_, _, _], [], h, _ => h.elim
  | [_, _, _], [_], h, _ => h.2.elim
  | [_, _, _], [_, _], h, _ => h.2.2.elim
  | [_, _, _], _ :: _ :: _ :: _ :: _, h, _ => h.2.2.2.elim
theorem rec_non {H : Hp} : ∀ {r : Rcp} {v : V}, Rec H r v → ¬ v = .non
  | .num _, _, ⟨_, e, _⟩ => by rw [e]; exact fun z => nomatch z
  | .read _, _, ⟨_, e, _⟩ => by rw [e]; exact fun z => nomatch z
  | .two _ _ _, _, ⟨_, _, _, e, _⟩ => by rw [e]; exact fun z => nomatch z
  | .pick _ _ _, _, ⟨_, _, _, _, e, _⟩ => by rw [e]; exact fun z => nomatch z
  | .choose _ _, _, ⟨_, _, _, e, _⟩ => by rw [e]; exact fun z => nomatch z
def kds4 : List Kd := [.plus, .minus, .times, .most]
theorem kws_at {i : Nat} {x : V} (h : ([.str "plus", .str "minus", .str "times", .str "most"] : List V)[i]? = some x) : ∃ k, kds4[i]? = some k ∧ x = .str k.name := by
  match i, h with
  | 0, h => exact ⟨.plus, rfl, (Option.some.inj h).symm⟩
  | 1, h => exact ⟨.minus, rfl, (Option.some.inj h).symm⟩
  | 2, h => exact ⟨.times, rfl, (Option.some.inj h).symm⟩
  | 3, h => exact ⟨.most, rfl, (Option.some.inj h).symm⟩
section
variable {P : Program} {w : World} {K : PySem.W.Frag} {mg : Str → Option Value} {base : Heap}
abbrev s_law : Stmt := topS 37
abbrev N_law : List Str := ["script", "deck", "k", "r", "s", "t", "names", "made", "one", "texts", "text", "found", "word"]
theorem sc_law : FnScope N_law ["script"] (defScope s_law) := ⟨rfl, rfl, rfl, by decide +kernel, rfl, by decide +kernel, by decide +kernel⟩

theorem ok_law {C fl : Addr} {fd : FuncData} (F : Fun K "law" "law" s_law fl fd) (T : Txt K mg) (C__law_draw : Cal P w K mg base CX0 1 "_law_draw" ["deck", "many"] spDraw) (C__law_deck : Cal P w K mg base CX0 1 "_law_deck" ["script"] (spDeck K))
    (C__law_name : Cal P w K mg base CX0 2 "_law_name" ["deck"] spName) (C__law_recipe : Cal P w K mg base CX0 9 "_law_recipe" ["deck", "deep", "left"] (spRecipe 6)) (C_read_recipe : Cal P w K mg base (L2.CX P w) 20 "read_recipe" ["text"] (spRead C))
    (C_show_recipe : Cal P w K mg base CX0 20 "show_recipe" ["r"] (spShow 20)) (C__law_drawn : Cal P w K mg base CX0 2 "_law_drawn" ["deck"] spDrawn) (C__law_read : Cal P w K mg base CX0 21 "_law_read" ["text"] spTry) : FnOk P w K mg base CX0 22 fl fd ["script"] (spLaw K) := by
  refine F.ok sc_law (fun vs H Q E h => ?_) (fun cdv A outer s H vs Q E hr h => ?_)
  · obtain ⟨a, ns, rfl, _⟩ := h
    rfl
  obtain ⟨a, ns, rfl, hS, h63, q⟩ := h
  refine ⟨_, (pss_cons (ps_set (i := 1) sc_law.nd rfl (Or.inr rfl) (pe_cal C__law_deck (hr.mono (by first | decide | omega)) pass0 (pa_cons (pv 0) pa_nil)))
      (pss_cons (ps_asg (pe_lc (own := [("k", 2)]) (g := gName 2)  (by rfl) sc_law.nd  (pi_range1 rfl T.b_range (pa_cons pe_int pa_nil)) (blkOk_by (own := [("k", 2)]) (N := N_law) (sc := defScope s_law) (by decide +kernel)) (fun _ _ _ _ _ => (pg_name (i := 2) sc_law.nd rfl (Or.inl rfl))) (fun _ _ _ _ _ => pts_nil) (fun _ _ _ _ _ => (pe_cal C__law_recipe (hr.mono (by first | decide | omega)) pass0 (pa_cons (pv 1) (pa_cons (pe_op op_add pe_int (pe_cal C__law_draw (hr.mono (by first | decide | omega)) pass0 (pa_cons (pv 1) (pa_cons pe_int pa_nil)))) (pa_cons (pe_lst (pa_cons pe_int pa_nil)) pa_nil)))))) (pg_unl rfl (pgs_cons (pg_name (i := 3) sc_law.nd rfl (Or.inr rfl)) (pgs_cons (pg_name (i := 4) sc_law.nd rfl (Or.inr rfl)) (pgs_cons (pg_name (i := 5) sc_law.nd rfl (Or.inl rfl)) pgs_nil)))))
      (pss_cons (ps_set (i := 6) sc_law.nd rfl (Or.inl rfl) (pe_callTy call_tuple_of (by rfl) T.b_tuple (by decide +kernel) (pa_cons (pe_lc (own := [("k", 2)]) (g := gName 2)  (by rfl) sc_law.nd  (pi_range1 rfl T.b_range (pa_cons (pe_op op_add pe_int (pe_cal C__law_draw (hr.mono (by first | decide | omega)) pass0 (pa_cons (pv 1) (pa_cons pe_int pa_nil)))) pa_nil)) (blkOk_by (own := [("k", 2)]) (N := N_law) (sc := defScope s_law) (by decide +kernel)) (fun _ _ _ _ _ => (pg_name (i := 2) sc_law.nd rfl (Or.inl rfl))) (fun _ _ _ _ _ => pts_nil) (fun _ _ _ _ _ => (pe_cal C__law_name (hr.mono (by first | decide | omega)) pass0 (pa_cons (pv 1) pa_nil)))) pa_nil)))
      (pss_cons (ps_set (i := 7) sc_law.nd rfl (Or.inl rfl) (pe_op op_cat (pe_lc (own := [("word", 12)]) (g := gName 12)  (by rfl) sc_law.nd  (pi_list (pe_lst (pa_cons pe_str (pa_cons pe_str (pa_cons pe_str (pa_cons pe_str pa_nil)))))) (blkOk_by (own := [("word", 12)]) (N := N_law) (sc := defScope s_law) (by decide +kernel)) (fun _ _ _ _ _ => (pg_name (i := 12) sc_law.nd rfl (Or.inl rfl))) (fun _ _ _ _ _ => pts_nil) (fun _ _ _ _ _ => (pe_tup (pa_cons (pv 12) (pa_cons (pv 3) (pa_cons (pv 4) pa_nil)))))) (pe_lst (pa_cons (pe_tup (pa_cons pe_str (pa_cons (pv 3) (pa_cons (pv 4) (pa_cons (pv 5) pa_nil))))) (pa_cons (pe_tup (pa_cons pe_str (pa_cons (pv 3) (pa_cons (pv 6) pa_nil)))) pa_nil)))))
      (pss_cons (ps_setLc (i := 9) (own := [("one", 8)]) (g := gName 8)  (by rfl) sc_law.nd rfl rfl (sw_true rfl rfl rfl (by decide +kernel)) (pi_list (pe_op op_cat (pe_lst (pa_cons (pv 3) (pa_cons (pv 4) (pa_cons (pv 5) pa_nil)))) (pv 7))) (blkOk_by (own := [("one", 8)]) (N := N_law) (sc := defScope s_law) (by decide +kernel)) (fun _ _ _ _ _ => (pg_name (i := 8) sc_law.nd rfl (Or.inl rfl))) (fun _ _ _ _ _ => pts_nil) (fun _ _ _ _ _ => (pe_cal C_show_recipe (hr.mono (by first | decide | omega)) pass0 (pa_cons (pv 8) pa_nil))))
      (pss_cons (ps_for PassesOwn.never rfl (pi_zip (by rfl) T.b_zip (pa_cons (pe_op op_cat (pe_lst (pa_cons (pv 3) (pa_cons (pv 4) (pa_cons (pv 5) pa_nil)))) (pv 7)) (pa_cons (pv 9) pa_nil))) (pg_tup rfl (pgs_cons (pg_name (i := 8) sc_law.nd rfl (Or.inl rfl)) (pgs_cons (pg_name (i := 10) sc_law.nd rfl (Or.inl rfl)) pgs_nil)))
        (pss_one (ps_if (pt_cmpR (op_neD hr.units) (pe_cal C_read_recipe (hr.mono (by first | decide | omega)) passL (pa_cons (pv 10) pa_nil)) (pv 8) (nomark _))
        (pss_one (ps_ret pe_bl))
        pss_nil)))
      (pss_cons (ps_for PassesOwn.never rfl (pi_range1 rfl T.b_range (pa_cons pe_int pa_nil)) (pg_name (i := 2) sc_law.nd rfl (Or.inl rfl))
        (pss_cons (ps_set (i := 10) sc_law.nd rfl (Or.inl rfl) (pe_ix (r := rIxL K) ix_list (pv 9) (pe_op op_add pe_int (pv 2)) (fun _ _ => rfl)))
      (pss_one (ps_if (PW.pt (pw_or (pt_cmpR op_ne (pe_op op_add_str (pe_ix (r := rIxS) ix_str (pv 10) pe_int (fun _ _ => rfl)) (pe_ix (r := rIxS) ix_str (pv 10) (pe_un un_neg pe_int) (fun _ _ => rfl))) pe_str (nomark _)) (pw_or1 (pt_cmpR op_ne (pe_slice sl_str (pv 10) (po_some pe_int) (po_some (pe_un un_neg pe_int))) (pe_op op_add_str (pe_op op_add_str (pe_op op_add_str (pe_op op_add_str (pe_ix (r := rIxL K) ix_list (pv 9) pe_int (fun _ _ => rfl)) pe_str) (pe_item_str pe_str (pv 2) (fun _ _ => rfl))) pe_str) (pe_ix (r := rIxL K) ix_list (pv 9) pe_int (fun _ _ => rfl))) (nomark _)))))
        (pss_one (ps_ret pe_bl))
        pss_nil))))
      (pss_cons (ps_if (pt_cmpR op_ne (pe_ix (r := rIxL K) ix_list (pv 9) pe_int (fun _ _ => rfl)) (pe_op op_add_str (pe_op op_add_str (pe_op op_add_str (pe_op op_add_str (pe_op op_add_str (pe_op op_add_str pe_str (pe_ix (r := rIxL K) ix_list (pv 9) pe_int (fun _ _ => rfl))) pe_str) (pe_ix (r := rIxL K) ix_list (pv 9) pe_int (fun _ _ => rfl))) pe_str) (pe_ix (r := rIxL K) ix_list (pv 9) pe_int (fun _ _ => rfl))) pe_str) (nomark _))
        (pss_one (ps_ret pe_bl))
        pss_nil)
      (pss_cons (ps_if (PW.pt (pw_or (pt_not (pt_val (pe_m1 PySem.F.slot_str_startswith PySem.F.type_str_startswith mt_startswith (pe_ix (r := rIxL K) ix_list (pv 9) pe_int (fun _ _ => rfl)) (pe_op op_add_str (pe_ix (r := rIxL K) ix_list (pv 9) pe_int (fun _ _ => rfl)) pe_str)))) (pw_or1 (pt_not (pt_val (pe_m1 PySem.F.slot_str_endswith PySem.F.type_str_endswith mt_endswith (pe_ix (r := rIxL K) ix_list (pv 9) pe_int (fun _ _ => rfl)) pe_str))))))
        (pss_one (ps_ret pe_bl))
        pss_nil)
      (pss_cons (ps_if (PW.pt (pw_or (pt_cmpR op_ne (pe_cmpR (op_eqD hr.units) (pv 3) (pv 4) (nomark _)) (pe_cmpR op_eq (pe_ix (r := rIxL K) ix_list (pv 9) pe_int (fun _ _ => rfl)) (pe_ix (r := rIxL K) ix_list (pv 9) pe_int (fun _ _ => rfl)) (nomark _)) (nomark _)) (pw_or (pt_cmpR op_ne (pe_cmpR (op_eqD hr.units) (pv 4) (pv 5) (nomark _)) (pe_cmpR op_eq (pe_ix (r := rIxL K) ix_list (pv 9) pe_int (fun _ _ => rfl)) (pe_ix (r := rIxL K) ix_list (pv 9) pe_int (fun _ _ => rfl)) (nomark _)) (nomark _)) (pw_or1 (pt_cmpR op_ne (pe_lenSetS rfl rfl T.b_len rfl T.b_set (pe_slice (r := rSlL K) sl_list (pv 9) (po_some pe_int) po_none)) pe_int (nomark _))))))
        (pss_one (ps_ret pe_bl))
        pss_nil)
      (pss_cons (ps_for PassesOwn.never rfl (pi_range1 rfl T.b_range (pa_cons (pe_callB (call_min2 rfl) (by rfl) T.b_min (by decide +kernel) (pa_cons pe_int (pa_cons (pe_callB (call_max2 rfl) (by rfl) T.b_max (by decide +kernel) (pa_cons pe_int (pa_cons (pe_callB call_len_seq (by rfl) T.b_len PySem.boot_len (pa_cons (pv 0) pa_nil)) pa_nil))) pa_nil))) pa_nil)) (pg_name (i := 2) sc_law.nd rfl (Or.inl rfl))
        (pss_cons (ps_set (i := 10) sc_law.nd rfl (Or.inl rfl) (pe_cal C__law_drawn (hr.mono (by first | decide | omega)) pass0 (pa_cons (pv 1) pa_nil)))
      (pss_cons (ps_set (i := 11) sc_law.nd rfl (Or.inl rfl) (pe_cal C__law_read (hr.mono (by first | decide | omega)) pass0 (pa_cons (pv 10) pa_nil)))
      (pss_one (ps_if (PW.pt (pw_and (pt_cmpR op_notN (pv 11) pe_non (nomark _)) (pw_and1 (pt_cmpR op_ne (pe_cal C_show_recipe (hr.mono (by first | decide | omega)) pass0 (pa_cons (pv 11) pa_nil)) (pv 10) (nomark _)))))
        (pss_one (ps_ret pe_bl))
        pss_nil)))))
      (pss_one (ps_ret pe_bl))))))))))))), ?_⟩
  refine ⟨_, rfl, a, ns, rfl, hS, h63, fun B1 H1 d hB1 hD1 => ?_⟩
  have hS1 : SqL K B1 a (ns.map V.int) := hB1.seq hS
  -- the three recipes
  refine ⟨3, rfl, by decide, by decide, fun L nL => lc_range (lo := 0) (n := 3) (fun i H' => ∃ (B' : Hp) (rs : List Rcp) (xs : List V), Same B1 B' ∧ DeckAt B' H' d ∧ B' L = some (.lst xs) ∧ Recs B' rs xs ∧ rs.length = i ∧ ∀ r ∈ rs, r.Good ∧ r.dep ≤ 6 ∧ r.siz ≤ 20)
    ⟨_, [], [], same_new (hD1.free nL) _, hD1.new nL _, upd_same, trivial, rfl, by simp⟩ ?_ ?_⟩
  · rintro i H2 hi ⟨B2, rs, xs, hB2, hD2, hL, hR, hn, hg⟩
    refine ⟨rfl, _, rfl, _, rfl, B2, d, 6, rfl, hD2, by decide, by decide, fun H3 n hD3 n0 n6 => ⟨_, _, rfl, rfl, le_line (Nat.le_of_ble_eq_true rfl), fun l nl => ?_⟩⟩
    have hD4 := hD3.new nl (.lst [.int 10])
    have nlB : B2 l = none := hD3.free nl
    refine ⟨_, d, l, 1 + n, 10, rfl, hD4, upd_same, by omega, by omega, fun B5 H5 n' v r hb hl5 hD5 hR5 hG hd hz hn' => ?_⟩
    have s25 : Same B2 B5 := fun b o e => by
      have ne : b ≠ l := ne_of_none e nlB
      exact hb b o ne (by rw [upd_ne ne]; exact e)
    have hL5 := s25 _ _ hL
    refine ⟨_, hD5.1 _ _ hL5, by rw [hR.len, hn]; exact lt_line (by omega), upd B5 L (.lst (xs ++ [v])), rs ++ [r], xs ++ [v], fun b o e => ?_, hD5.put hL5 _, upd_same, recs_lst (Recs.snoc hR5 (hR.keep (same_keep s25))) hL5, by rw [List.length_append, hn]; rfl, fun x hx => ?_⟩
    · have z : b ≠ L := fun z => by
        rw [z, hD1.free nL] at e
        cases e
      rw [upd_ne z]
      exact s25 b o (hB2 b o e)
    · rcases List.mem_append.mp hx with h | h
      · exact hg x h
      · rw [List.mem_singleton.mp h]
        exact ⟨hG, by omega, by omega⟩
  rintro H2 ⟨B2, rs, xs, hB2, hD2, hL2, hR2, hn2, hg2⟩
  obtain ⟨r, s0, t, x, y, z, rfl, rfl, rx, ry, rz⟩ := hR2.three hn2
  obtain ⟨gr, dr, zr⟩ := hg2 r (by simp)
  obtain ⟨gs, ds, zs⟩ := hg2 s0 (by simp)
  obtain ⟨gt, dt, zt⟩ := hg2 t (by simp)
  refine ⟨L, _, rfl, SqL.of (hD2.1 _ _ hL2), rfl, _, _, rfl, _, _, rfl, _, _, rfl, rfl, ?_⟩
  -- the names
  refine ⟨_, rfl, B2, d, 9, rfl, hD2, by decide, by decide, fun H3 n hD3 n0 n9 => ⟨_, _, rfl, rfl, 1 + n, rfl, Int.le_trans (by decide) (Int.add_nonneg (by decide) n0), by omega, fun N nN => lc_range (lo := 0) (n := (1 + n).toNat) (fun i H' => ∃ (B' : Hp) (ss : List (List Nat)), Same B2 B' ∧ DeckAt B' H' d ∧ B' N = some (.lst (txs ss)) ∧ ss.length = i ∧ ∀ c ∈ ss, Nm c)
    ⟨_, [], same_new (hD3.free nN) _, hD3.new nN _, upd_same, rfl, by simp⟩ ?_ ?_⟩⟩
  · rintro i H4 hi ⟨B4, ss, hB, hD4, hL, hn, hc⟩
    refine ⟨rfl, _, rfl, B4, d, rfl, hD4, fun B5 H5 z hB5 hD5 hz => ⟨_, hD5.1 _ _ (hB5 _ _ hL), by rw [txs_len, hn]; exact lt_line (by omega), ?_⟩⟩
    refine ⟨upd B5 N _, ss ++ [z], fun b o e => ?_, hD5.put (hB5 _ _ hL) _, by rw [upd_same, txs_app]; rfl, by rw [List.length_append, hn]; rfl, fun c hcm => ?_⟩
    · have ne : b ≠ N := fun z => by
        rw [z, hD3.free nN] at e
        cases e
      rw [upd_ne ne]
      exact hB5 b o (hB b o e)
    · rcases List.mem_append.mp hcm with h | h
      · exact hc c h
      · rw [List.mem_singleton.mp h]
        exact hz
  rintro H4 ⟨B4, ss, hB4, hD4, hN4, hn4, hc4⟩
  have hss : Nms ss := ⟨by omega, by omega, hc4⟩
  refine ⟨N, _, rfl, .inl ⟨SqL.of (hD4.1 _ _ hN4), fun u nu => ?_⟩⟩
  have hDu := hD4.new nu (.tup (txs ss))
  have hBu := hB4.trans (same_new (hD4.free nu) (.tup (txs ss)))
  obtain ⟨B5, hB5, hD5, hu5⟩ : ∃ B5 : Hp, Same B2 B5 ∧ DeckAt B5 _ d ∧ B5 u = some (.tup (txs ss)) := ⟨_, hBu, hDu, upd_same⟩
  -- what is made
  refine ⟨le_line (Nat.le_of_ble_eq_true rfl), fun W nW => ?_⟩
  have hD6 := hD5.new nW (.lst [.str "plus", .str "minus", .str "times", .str "most"])
  obtain ⟨B6, hB6, hD6, hW6⟩ : ∃ B6 : Hp, Same B5 B6 ∧ DeckAt B6 _ d ∧ B6 W = some (.lst [.str "plus", .str "minus", .str "times", .str "most"]) := ⟨_, same_new (hD5.free nW) _, hD6, upd_same⟩
  refine ⟨W, rfl, ⟨_, SqL.of upd_same⟩, fun M nM => lc_list (K := K) (a := W) (xs := [.str "plus", .str "minus", .str "times", .str "most"]) (fun i H' => ∃ (B' : Hp) (xs : List V), Same B6 B' ∧ DeckAt B' H' d ∧ B' M = some (.lst xs) ∧ Recs B' ((kds4.take i).map fun k => .two k r s0) xs)
    ⟨_, [], same_new (hD6.free nM) _, hD6.new nM _, upd_same, trivial⟩ (fun i H' _ ⟨B', _, h, g, _⟩ => SqL.of (g.1 _ _ (h _ _ hW6))) ?_ ?_⟩
  · rintro i w0 H7 hx ⟨B7, xs, hB7, hD7, hM, hR⟩
    obtain ⟨k, hk, rfl⟩ := kws_at hx
    have i4 : i < 4 := by
      have := (List.getElem?_eq_some_iff.mp hk).1
      exact this
    refine ⟨rfl, _, rfl, _, rfl, _, rfl, le_line (Nat.le_of_ble_eq_true rfl), fun p np => ?_⟩
    have np' := hD7.free np
    have nM' : M ≠ p := ne_of_none hM np'
    have sp := same_new np' (.tup [.str k.name, x, y])
    have hMp := sp _ _ hM
    have hB26 := (hB5.trans hB6).trans hB7
    have hRp : Rec (upd B7 p (.tup [.str k.name, x, y])) (.two k r s0) (.ref p) := ⟨p, x, y, rfl, upd_same, rx.same (hB26.trans sp), ry.same (hB26.trans sp)⟩
    have hl := hR.len
    rw [List.length_map, List.length_take] at hl
    have e4 : (kds4.take (i + 1)).map (fun k => Rcp.two k r s0) = (kds4.take i).map (fun k => Rcp.two k r s0) ++ [.two k r s0] := by
      rw [List.take_succ, hk, List.map_append]
      rfl
    refine ⟨xs, (same_new np _) _ _ (hD7.1 _ _ hM), lt_line (by omega), upd (upd B7 p (.tup [.str k.name, x, y])) M (.lst (xs ++ [.ref p])), xs ++ [.ref p], fun b o e => ?_, (hD7.new np _).put hMp _, upd_same, ?_⟩
    · have ne : b ≠ M := fun z => by
        rw [z, hD6.free nM] at e
        cases e
      rw [upd_ne ne]
      exact sp b o (hB7 b o e)
    · rw [e4]
      exact recs_lst (Recs.snoc hRp (hR.keep (same_keep sp))) hMp
  rintro H7 ⟨B7, xs, hB7, hD7, hM7, hR7⟩
  have hB27 := (hB5.trans hB6).trans hB7
  have hu7 := hB7 _ _ (hB6 _ _ hu5)
  refine ⟨_, rfl, _, rfl, _, rfl, le_line (Nat.le_of_ble_eq_true rfl), fun p np => ⟨_, rfl, _, rfl, le_line (Nat.le_of_ble_eq_true rfl), fun p2 np2 => ⟨le_line (Nat.le_of_ble_eq_true rfl), fun l2 nl2 => ?_⟩⟩⟩
  have hDp := hD7.new np (.tup [.str "pick", x, y, z])
  have hDp2 := hDp.new np2 (.tup [.str "choose", x, .ref u])
  have hDl2 := hDp2.new nl2 (.lst [.ref p, .ref p2])
  have k1 := same_new (hD7.free np) (.tup [.str "pick", x, y, z])
  have k2 := same_new (hDp.free np2) (.tup [.str "choose", x, .ref u])
  have k3 := same_new (hDp2.free nl2) (.lst [.ref p, .ref p2])
  have e6 : (kds4.take 4).map (fun k => Rcp.two k r s0) = [.two .plus r s0, .two .minus r s0, .two .times r s0, .two .most r s0] := rfl
  have hR7' : Recs B7 [.two .plus r s0, .two .minus r s0, .two .times r s0, .two .most r s0] xs := hR7
  have hl7 := hR7'.len
  have rp : Rec (upd (upd (upd B7 p (.tup [.str "pick", x, y, z])) p2 (.tup [.str "choose", x, .ref u])) l2 (.lst [.ref p, .ref p2])) (.pick r s0 t) (.ref p) :=
    ⟨p, x, y, z, rfl, k3 _ _ (k2 _ _ upd_same), rx.same (hB27.trans (k1.trans (k2.trans k3))), ry.same (hB27.trans (k1.trans (k2.trans k3))), rz.same (hB27.trans (k1.trans (k2.trans k3)))⟩
  have rc : Rec (upd (upd (upd B7 p (.tup [.str "pick", x, y, z])) p2 (.tup [.str "choose", x, .ref u])) l2 (.lst [.ref p, .ref p2])) (.choose r ss) (.ref p2) :=
    ⟨p2, x, u, rfl, k3 _ _ upd_same, rx.same (hB27.trans (k1.trans (k2.trans k3))), k3 _ _ (k2 _ _ (k1 _ _ hu7))⟩
  have r6 := Recs.snoc rc (Recs.snoc rp (hR7'.keep (same_keep (k1.trans (k2.trans k3)))))
  rw [show (xs ++ [V.ref p]) ++ [V.ref p2] = xs ++ [V.ref p, .ref p2] by simp] at r6
  refine ⟨M, l2, xs, _, rfl, rfl, hDl2.1 _ _ (k3 _ _ (k2 _ _ (k1 _ _ hM7))), upd_same, le_line (by rw [hl7]; show 4 + 2 ≤ 16777216; omega), fun D8 nD8 => ?_⟩
  have hD8 := hDl2.new nD8 (.lst (xs ++ [.ref p, .ref p2]))
  have k4 := same_new (hDl2.free nD8) (.lst (xs ++ [.ref p, .ref p2]))
  obtain ⟨B8, hB8, hD8, hM8, hR8⟩ : ∃ B8 : Hp, Same B2 B8 ∧ DeckAt B8 _ d ∧ B8 D8 = some (.lst (xs ++ [V.ref p, V.ref p2])) ∧ Recs B8 [.two .plus r s0, .two .minus r s0, .two .times r s0, .two .most r s0, .pick r s0 t, .choose r ss] (xs ++ [V.ref p, V.ref p2]) :=
    ⟨_, hB27.trans (k1.trans (k2.trans (k3.trans k4))), hD8, upd_same, r6.keep (same_keep k4)⟩
  generalize hms : xs ++ [V.ref p, .ref p2] = ms at *
  -- the texts
  refine ⟨_, rfl, _, rfl, _, rfl, le_line (Nat.le_of_ble_eq_true rfl), fun e1 ne1 => ?_⟩
  have j1 := same_new ne1 (.lst [x, y, z])
  refine ⟨_, rfl, e1, D8, _, _, rfl, rfl, upd_same, j1 _ _ (hD8.1 _ _ hM8), ?_, fun A nA => ?_⟩
  · have hl8 := hR8.len
    rw [hl8]
    exact le_line (Nat.le_of_ble_eq_true rfl)
  have hDe := hD8.new ne1 (.lst [x, y, z])
  have k5 := same_new (hD8.free ne1) (.lst [x, y, z])
  have k6 := same_new (hDe.free nA) (.lst ([x, y, z] ++ ms))
  obtain ⟨all9, hall⟩ : ∃ all9 : List Rcp, all9 = [r, s0, t, .two .plus r s0, .two .minus r s0, .two .times r s0, .two .most r s0, .pick r s0 t, .choose r ss] := ⟨_, rfl⟩
  have hok : ∀ q ∈ all9, q.Good ∧ q.dep ≤ 8 ∧ q.siz ≤ 100 := by
    rw [hall]
    intro q hq
    have two : ∀ k, (Rcp.two k r s0).Good ∧ (Rcp.two k r s0).dep ≤ 8 ∧ (Rcp.two k r s0).siz ≤ 100 := fun k => ⟨⟨gr, gs⟩, by show max r.dep s0.dep + 1 ≤ 8; omega, by show r.siz + s0.siz + 1 ≤ 100; omega⟩
    simp only [List.mem_cons, List.not_mem_nil, or_false] at hq
    rcases hq with rfl | rfl | rfl | rfl | rfl | rfl | rfl | rfl | rfl
    · exact ⟨gr, by omega, by omega⟩
    · exact ⟨gs, by omega, by omega⟩
    · exact ⟨gt, by omega, by omega⟩
    · exact two _
    · exact two _
    · exact two _
    · exact two _
    · exact ⟨⟨gr, gs, gt⟩, by show max r.dep (max s0.dep t.dep) + 1 ≤ 8; omega, by show r.siz + s0.siz + t.siz + 1 ≤ 100; omega⟩
    · exact ⟨⟨gr, hss⟩, by show r.dep + 1 ≤ 8; omega, by show r.siz + 1 ≤ 100; omega⟩
  obtain ⟨vs9, hvs⟩ : ∃ vs9 : List V, vs9 = [x, y, z] ++ ms := ⟨_, rfl⟩
  obtain ⟨B9, hB9, hD9, hA9, hM9, hR9⟩ : ∃ B9 : Hp, Same B2 B9 ∧ DeckAt B9 _ d ∧ B9 A = some (.lst ([x, y, z] ++ ms)) ∧ B9 D8 = some (.lst ms) ∧ Recs B9 all9 vs9 :=
    ⟨_, hB8.trans (k5.trans k6), hDe.new nA (.lst ([x, y, z] ++ ms)), upd_same, k6 _ _ (k5 _ _ hM8), by
      rw [hall, hvs]
      exact ⟨rx.same (hB8.trans (k5.trans k6)), ry.same (hB8.trans (k5.trans k6)), rz.same (hB8.trans (k5.trans k6)), hR8.keep (same_keep (k5.trans k6))⟩⟩
  have hl9 : vs9.length = 9 := by rw [hR9.len, hall]; rfl
  refine ⟨A, rfl, ⟨_, SqL.of upd_same⟩, fun Lt nLt => lc_list (K := K) (a := A) (xs := [x, y, z] ++ ms) (fun i H' => ∃ B' : Hp, Same B9 B' ∧ DeckAt B' H' d ∧ B' Lt = some (.lst (txs ((all9.take i).map Rcp.txt))))
    ⟨_, same_new (hD9.free nLt) _, hD9.new nLt _, upd_same⟩ (fun i H' _ ⟨B', h, g, _⟩ => SqL.of (g.1 _ _ (h _ _ hA9))) ?_ ?_⟩
  · rintro i v H10 hx ⟨B10, hB10, hD10, hL10⟩
    rw [← hvs] at hx
    obtain ⟨q9, hq9, hRv⟩ := hR9.at hx
    have hm := List.mem_of_getElem? hq9
    have i9 : i < 9 := by
      have := (List.getElem?_eq_some_iff.mp hx).1
      omega
    obtain ⟨g1, g2, g3⟩ := hok q9 hm
    refine ⟨rfl, _, rfl, v, q9, rfl, (hRv.same hB10).same hD10.1, g1, by omega, by omega, _, hD10.1 _ _ hL10, ?_, ?_⟩
    · rw [txs_len, List.length_map, List.length_take]
      exact lt_line (by omega)
    · refine ⟨upd B10 Lt _, fun b o e => ?_, hD10.put hL10 _, ?_⟩
      · have ne : b ≠ Lt := fun z => by
          rw [z, hD9.free nLt] at e
          cases e
        rw [upd_ne ne]
        exact hB10 b o e
      · rw [upd_same, List.take_add_one, hq9, List.map_append, txs_app]
        rfl
  rintro H10 ⟨B10, hB10, hD10, hL10⟩
  have e9 : all9.take ([x, y, z] ++ ms).length = all9 := by
    rw [← hvs, List.take_of_length_le]
    rw [hl9, hall]
    exact Nat.le_refl _
  rw [e9] at hL10
  -- read back
  refine ⟨_, rfl, _, rfl, _, rfl, le_line (Nat.le_of_ble_eq_true rfl), fun e2 ne2 => ?_⟩
  have j2 := same_new ne2 (.lst [x, y, z])
  refine ⟨_, rfl, e2, D8, _, _, rfl, rfl, upd_same, j2 _ _ (hD10.1 _ _ (hB10 _ _ hM9)), ?_, fun A2 nA2 => ?_⟩
  · have hl8 := hR8.len
    rw [hl8]
    exact le_line (Nat.le_of_ble_eq_true rfl)
  have j3 := same_new nA2 (.lst ([x, y, z] ++ ms))
  have hs0 := j2.trans j3
  have hA2 : SqL K (upd (upd H10 e2 (.lst [x, y, z])) A2 (.lst ([x, y, z] ++ ms))) A2 vs9 := by
    rw [hvs]
    exact SqL.of upd_same
  have hL0 := hs0 _ _ (hD10.1 _ _ hL10)
  have hD0 := hD10.same hs0
  have hR0 := (hR9.keep (same_keep hB10)).keep (same_keep hD0.1)
  have hS0 : SqL K _ a (ns.map V.int) := (((hB2.trans hB9).trans hB10).trans hD0.1).seq hS1
  clear hDe
  refine ⟨_, rfl, A2, Lt, vs9, txs (all9.map Rcp.txt), rfl, hA2, SqL.of hL0, RZ.for_zipL (K := K) (by rw [txs_len, List.length_map, hR9.len]) (fun i σ H' => ∃ v8 v10 : Option V, σ = [some (.ref a), some (.ref d), none, some x, some y, some z, some (.ref u), some (.ref D8), v8, some (.ref Lt), v10, none, none] ∧ Same (upd (upd H10 e2 (.lst [x, y, z])) A2 (.lst ([x, y, z] ++ ms))) H')
    ⟨none, none, rfl, Same.refl _⟩ (fun i σ H' ⟨_, _, _, h⟩ => ⟨h.seq hA2, SqL.of (h _ _ hL0)⟩) ?_ ?_⟩
  · rintro i v tv T1 σ H11 hx hy ⟨v8, v10, rfl, hs11⟩ nT
    obtain ⟨q9, hq9, hRv⟩ := hR0.at hx
    obtain ⟨g1, g2, g3⟩ := hok q9 (List.mem_of_getElem? hq9)
    have etv : tv = .str (SX.S q9.txt) := by
      unfold txs at hy
      rw [List.getElem?_map, List.getElem?_map, List.getElem?_map, hq9] at hy
      exact (Option.some.inj hy).symm
    subst etv
    have hrt := rRead_txt g1 g2 g3
    have sT := same_new nT (.tup [v, .str (SX.S q9.txt)])
    refine ⟨T1, _, rfl, SqT.of upd_same, rfl, _, _, rfl, _, _, rfl, rfl, ?_⟩
    refine ⟨_, rfl, _, .str q9.txt, rfl, rfl, txt_tame g1 (by omega), fun e => (by rw [hrt] at e; cases e), fun r' e hG' H12 v' hs12 hR' => ?_⟩
    rw [hrt] at e
    cases e
    have sA := hs11.trans (sT.trans hs12)
    refine ⟨_, rfl, _, _, Data.dp (Rcp.flat _) hR'.data, Data.dp (Rcp.flat _) (hRv.same sA).data, Rcp.shaped g1 (by omega), Rcp.shaped g1 (by omega), _, rfl, ?_⟩
    rw [Rcp.eqv g1]
    exact iteF ⟨_, _, rfl, sA⟩
  rintro σ H11 ⟨v8, v10, rfl, hs11⟩
  subst hall
  have ep : ("()" : Str) = SX.S [40, 41] := by decide +kernel
  have e1b : (" " : Str) = SX.S [32] := by decide +kernel
  have esg : ("+-*^" : Str) = SX.S [43, 45, 42, 94] := by decide +kernel
  have lr := txt_len gr
  have ls := txt_len gs
  have lt := txt_len gt
  have hmil : ∀ n : Nat, n ≤ 100000 → n ≤ sizeLine := fun n h => le_line (by omega)
  refine ⟨4, rfl, by decide, by decide, for_range (n := 4) (fun i σ H' => ∃ v2 v8 v10 : Option V, σ = [some (.ref a), some (.ref d), v2, some x, some y, some z, some (.ref u), some (.ref D8), v8, some (.ref Lt), v10, none, none] ∧ Same (upd (upd H10 e2 (.lst [x, y, z])) A2 (.lst ([x, y, z] ++ ms))) H')
    ⟨none, _, _, rfl, hs11⟩ ?_ ?_⟩
  · rintro i σ H12 hi ⟨v2, v8, v10, rfl, hs12⟩
    have hL12 := hs12 _ _ hL0
    have hi4 : i = 0 ∨ i = 1 ∨ i = 2 ∨ i = 3 := by omega
    rcases hi4 with rfl | rfl | rfl | rfl
    ·
      have hx : atI (txs (([r, s0, t, .two .plus r s0, .two .minus r s0, .two .times r s0, .two .most r s0, .pick r s0 t, .choose r ss] : List Rcp).map Rcp.txt)) (3 + (0 + ((0 : Nat) : Int))) = some (.str (SX.S (Rcp.two .plus r s0).txt)) := atI_at (by decide) rfl
      refine ⟨_, rfl, _, rfl, _, _, rfl, rfl, Lt, _, _, _, rfl, rfl, SqL.of hL12, hx, ?_⟩
      have ht : (Rcp.two .plus r s0).txt = 40 :: ((r.txt ++ (32 :: 43 :: 32 :: s0.txt)) ++ [41]) := by
        show 40 :: (r.txt ++ (32 :: 43 :: 32 :: (s0.txt ++ [41]))) = _
        simp
      rw [ht]
      have hll : (SX.S (40 :: ((r.txt ++ (32 :: 43 :: 32 :: s0.txt)) ++ [41]))).length ≤ sizeLine := by
        rw [SX.S_len]
        refine hmil _ ?_
        simp
        omega
      refine ⟨_, rfl, _, _, _, rfl, rfl, hll, atI_at (by decide) rfl, _, rfl, _, rfl, _, _, _, rfl, rfl, hll, last_at _ _ _, _, _, rfl, rfl, le_line (by decide +kernel), rfl, _, rfl, not_true_eq (decide_eq_true (by decide +kernel)) ?_⟩
      refine ⟨_, rfl, _, rfl, _, rfl, _, rfl, _, rfl, hll, ?_⟩
      refine ⟨_, rfl, Lt, _, _, _, rfl, rfl, SqL.of hL12, atI_at (by decide) rfl, _, _, rfl, rfl, ?_, _, rfl, _, _, 43, rfl, rfl, by decide, by decide, by decide +kernel, by decide +kernel, _, _, rfl, rfl, ?_, _, _, rfl, rfl, ?_, _, rfl, Lt, _, _, _, rfl, rfl, SqL.of hL12, atI_at (by decide) rfl, _, _, rfl, rfl, ?_, rfl, _, rfl, not_true_eq (decide_eq_true ?_) ?_⟩
      · simp only [e1b, SX.S_len, List.length_cons, List.length_nil]
        exact hmil _ (by omega)
      · show _ + (SX.S [43]).length ≤ _
        simp only [e1b, SX.S_cat, SX.S_len, List.length_append, List.length_cons, List.length_nil]
        exact hmil _ (by omega)
      · show ((SX.S r.txt ++ " ") ++ SX.S [43]).length + _ ≤ _
        simp only [e1b, SX.S_cat, SX.S_len, List.length_append, List.length_cons, List.length_nil]
        exact hmil _ (by omega)
      · show (((SX.S r.txt ++ " ") ++ SX.S [43]) ++ " ").length + _ ≤ _
        simp only [e1b, SX.S_cat, SX.S_len, List.length_append, List.length_cons, List.length_nil]
        exact hmil _ (by omega)
      · rw [cut_mid]
        show V.str _ = V.str ((((SX.S r.txt ++ " ") ++ SX.S [43]) ++ " ") ++ SX.S s0.txt)
        simp only [e1b, SX.S_cat, List.append_assoc, List.cons_append, List.nil_append]
      · exact ⟨_, _, _, rfl, hs12⟩
    ·
      have hx : atI (txs (([r, s0, t, .two .plus r s0, .two .minus r s0, .two .times r s0, .two .most r s0, .pick r s0 t, .choose r ss] : List Rcp).map Rcp.txt)) (3 + (0 + ((1 : Nat) : Int))) = some (.str (SX.S (Rcp.two .minus r s0).txt)) := atI_at (by decide) rfl
      refine ⟨_, rfl, _, rfl, _, _, rfl, rfl, Lt, _, _, _, rfl, rfl, SqL.of hL12, hx, ?_⟩
      have ht : (Rcp.two .minus r s0).txt = 40 :: ((r.txt ++ (32 :: 45 :: 32 :: s0.txt)) ++ [41]) := by
        show 40 :: (r.txt ++ (32 :: 45 :: 32 :: (s0.txt ++ [41]))) = _
        simp
      rw [ht]
      have hll : (SX.S (40 :: ((r.txt ++ (32 :: 45 :: 32 :: s0.txt)) ++ [41]))).length ≤ sizeLine := by
        rw [SX.S_len]
        refine hmil _ ?_
        simp
        omega
      refine ⟨_, rfl, _, _, _, rfl, rfl, hll, atI_at (by decide) rfl, _, rfl, _, rfl, _, _, _, rfl, rfl, hll, last_at _ _ _, _, _, rfl, rfl, le_line (by decide +kernel), rfl, _, rfl, not_true_eq (decide_eq_true (by decide +kernel)) ?_⟩
      refine ⟨_, rfl, _, rfl, _, rfl, _, rfl, _, rfl, hll, ?_⟩
      refine ⟨_, rfl, Lt, _, _, _, rfl, rfl, SqL.of hL12, atI_at (by decide) rfl, _, _, rfl, rfl, ?_, _, rfl, _, _, 45, rfl, rfl, by decide, by decide, by decide +kernel, by decide +kernel, _, _, rfl, rfl, ?_, _, _, rfl, rfl, ?_, _, rfl, Lt, _, _, _, rfl, rfl, SqL.of hL12, atI_at (by decide) rfl, _, _, rfl, rfl, ?_, rfl, _, rfl, not_true_eq (decide_eq_true ?_) ?_⟩
      · simp only [e1b, SX.S_len, List.length_cons, List.length_nil]
        exact hmil _ (by omega)
      · show _ + (SX.S [45]).length ≤ _
        simp only [e1b, SX.S_cat, SX.S_len, List.length_append, List.length_cons, List.length_nil]
        exact hmil _ (by omega)
      · show ((SX.S r.txt ++ " ") ++ SX.S [45]).length + _ ≤ _
        simp only [e1b, SX.S_cat, SX.S_len, List.length_append, List.length_cons, List.length_nil]
        exact hmil _ (by omega)
      · show (((SX.S r.txt ++ " ") ++ SX.S [45]) ++ " ").length + _ ≤ _
        simp only [e1b, SX.S_cat, SX.S_len, List.length_append, List.length_cons, List.length_nil]
        exact hmil _ (by omega)
      · rw [cut_mid]
        show V.str _ = V.str ((((SX.S r.txt ++ " ") ++ SX.S [45]) ++ " ") ++ SX.S s0.txt)
        simp only [e1b, SX.S_cat, List.append_assoc, List.cons_append, List.nil_append]
      · exact ⟨_, _, _, rfl, hs12⟩
    ·
      have hx : atI (txs (([r, s0, t, .two .plus r s0, .two .minus r s0, .two .times r s0, .two .most r s0, .pick r s0 t, .choose r ss] : List Rcp).map Rcp.txt)) (3 + (0 + ((2 : Nat) : Int))) = some (.str (SX.S (Rcp.two .times r s0).txt)) := atI_at (by decide) rfl
      refine ⟨_, rfl, _, rfl, _, _, rfl, rfl, Lt, _, _, _, rfl, rfl, SqL.of hL12, hx, ?_⟩
      have ht : (Rcp.two .times r s0).txt = 40 :: ((r.txt ++ (32 :: 42 :: 32 :: s0.txt)) ++ [41]) := by
        show 40 :: (r.txt ++ (32 :: 42 :: 32 :: (s0.txt ++ [41]))) = _
        simp
      rw [ht]
      have hll : (SX.S (40 :: ((r.txt ++ (32 :: 42 :: 32 :: s0.txt)) ++ [41]))).length ≤ sizeLine := by
        rw [SX.S_len]
        refine hmil _ ?_
        simp
        omega
      refine ⟨_, rfl, _, _, _, rfl, rfl, hll, atI_at (by decide) rfl, _, rfl, _, rfl, _, _, _, rfl, rfl, hll, last_at _ _ _, _, _, rfl, rfl, le_line (by decide +kernel), rfl, _, rfl, not_true_eq (decide_eq_true (by decide +kernel)) ?_⟩
      refine ⟨_, rfl, _, rfl, _, rfl, _, rfl, _, rfl, hll, ?_⟩
      refine ⟨_, rfl, Lt, _, _, _, rfl, rfl, SqL.of hL12, atI_at (by decide) rfl, _, _, rfl, rfl, ?_, _, rfl, _, _, 42, rfl, rfl, by decide, by decide, by decide +kernel, by decide +kernel, _, _, rfl, rfl, ?_, _, _, rfl, rfl, ?_, _, rfl, Lt, _, _, _, rfl, rfl, SqL.of hL12, atI_at (by decide) rfl, _, _, rfl, rfl, ?_, rfl, _, rfl, not_true_eq (decide_eq_true ?_) ?_⟩
      · simp only [e1b, SX.S_len, List.length_cons, List.length_nil]
        exact hmil _ (by omega)
      · show _ + (SX.S [42]).length ≤ _
        simp only [e1b, SX.S_cat, SX.S_len, List.length_append, List.length_cons, List.length_nil]
        exact hmil _ (by omega)
      · show ((SX.S r.txt ++ " ") ++ SX.S [42]).length + _ ≤ _
        simp only [e1b, SX.S_cat, SX.S_len, List.length_append, List.length_cons, List.length_nil]
        exact hmil _ (by omega)
      · show (((SX.S r.txt ++ " ") ++ SX.S [42]) ++ " ").length + _ ≤ _
        simp only [e1b, SX.S_cat, SX.S_len, List.length_append, List.length_cons, List.length_nil]
        exact hmil _ (by omega)
      · rw [cut_mid]
        show V.str _ = V.str ((((SX.S r.txt ++ " ") ++ SX.S [42]) ++ " ") ++ SX.S s0.txt)
        simp only [e1b, SX.S_cat, List.append_assoc, List.cons_append, List.nil_append]
      · exact ⟨_, _, _, rfl, hs12⟩
    ·
      have hx : atI (txs (([r, s0, t, .two .plus r s0, .two .minus r s0, .two .times r s0, .two .most r s0, .pick r s0 t, .choose r ss] : List Rcp).map Rcp.txt)) (3 + (0 + ((3 : Nat) : Int))) = some (.str (SX.S (Rcp.two .most r s0).txt)) := atI_at (by decide) rfl
      refine ⟨_, rfl, _, rfl, _, _, rfl, rfl, Lt, _, _, _, rfl, rfl, SqL.of hL12, hx, ?_⟩
      have ht : (Rcp.two .most r s0).txt = 40 :: ((r.txt ++ (32 :: 94 :: 32 :: s0.txt)) ++ [41]) := by
        show 40 :: (r.txt ++ (32 :: 94 :: 32 :: (s0.txt ++ [41]))) = _
        simp
      rw [ht]
      have hll : (SX.S (40 :: ((r.txt ++ (32 :: 94 :: 32 :: s0.txt)) ++ [41]))).length ≤ sizeLine := by
        rw [SX.S_len]
        refine hmil _ ?_
        simp
        omega
      refine ⟨_, rfl, _, _, _, rfl, rfl, hll, atI_at (by decide) rfl, _, rfl, _, rfl, _, _, _, rfl, rfl, hll, last_at _ _ _, _, _, rfl, rfl, le_line (by decide +kernel), rfl, _, rfl, not_true_eq (decide_eq_true (by decide +kernel)) ?_⟩
      refine ⟨_, rfl, _, rfl, _, rfl, _, rfl, _, rfl, hll, ?_⟩
      refine ⟨_, rfl, Lt, _, _, _, rfl, rfl, SqL.of hL12, atI_at (by decide) rfl, _, _, rfl, rfl, ?_, _, rfl, _, _, 94, rfl, rfl, by decide, by decide, by decide +kernel, by decide +kernel, _, _, rfl, rfl, ?_, _, _, rfl, rfl, ?_, _, rfl, Lt, _, _, _, rfl, rfl, SqL.of hL12, atI_at (by decide) rfl, _, _, rfl, rfl, ?_, rfl, _, rfl, not_true_eq (decide_eq_true ?_) ?_⟩
      · simp only [e1b, SX.S_len, List.length_cons, List.length_nil]
        exact hmil _ (by omega)
      · show _ + (SX.S [94]).length ≤ _
        simp only [e1b, SX.S_cat, SX.S_len, List.length_append, List.length_cons, List.length_nil]
        exact hmil _ (by omega)
      · show ((SX.S r.txt ++ " ") ++ SX.S [94]).length + _ ≤ _
        simp only [e1b, SX.S_cat, SX.S_len, List.length_append, List.length_cons, List.length_nil]
        exact hmil _ (by omega)
      · show (((SX.S r.txt ++ " ") ++ SX.S [94]) ++ " ").length + _ ≤ _
        simp only [e1b, SX.S_cat, SX.S_len, List.length_append, List.length_cons, List.length_nil]
        exact hmil _ (by omega)
      · rw [cut_mid]
        show V.str _ = V.str ((((SX.S r.txt ++ " ") ++ SX.S [94]) ++ " ") ++ SX.S s0.txt)
        simp only [e1b, SX.S_cat, List.append_assoc, List.cons_append, List.nil_append]
      · exact ⟨_, _, _, rfl, hs12⟩
  rintro σ H12 ⟨v2, v8, v10, rfl, hs12⟩
  have hL12 := hs12 _ _ hL0
  have eo : ("[" : Str) = SX.S [91] := by decide +kernel
  have ec : ("]" : Str) = SX.S [93] := by decide +kernel
  have eq : (" ? " : Str) = SX.S [32, 63, 32] := by decide +kernel
  have ecol : (" : " : Str) = SX.S [32, 58, 32] := by decide +kernel
  have elc : ("{" : Str) = SX.S [123] := by decide +kernel
  have erc : ("}" : Str) = SX.S [125] := by decide +kernel
  refine ⟨_, rfl, Lt, _, _, _, rfl, rfl, SqL.of hL12, atI_at (by decide) rfl, _, rfl, Lt, _, _, _, rfl, rfl, SqL.of hL12, atI_at (by decide) rfl, _, _, rfl, rfl, ?_, _, _, rfl, rfl, ?_, _, rfl, Lt, _, _, _, rfl, rfl, SqL.of hL12, atI_at (by decide) rfl, _, _, rfl, rfl, ?_, _, _, rfl, rfl, ?_,
    _, rfl, Lt, _, _, _, rfl, rfl, SqL.of hL12, atI_at (by decide) rfl, _, _, rfl, rfl, ?_, _, _, rfl, rfl, ?_, rfl, _, rfl, not_true_eq (decide_eq_true ?_) ?_⟩
  case refine_7 =>
    have e : (Rcp.pick r s0 t).txt = 91 :: (r.txt ++ (32 :: 63 :: 32 :: (s0.txt ++ (32 :: 58 :: 32 :: (t.txt ++ [93]))))) := rfl
    simp only [eo, ec, eq, ecol, SX.S_cat, List.append_assoc, List.cons_append, List.nil_append]
    rfl
  case refine_8 =>
    have etc : (Rcp.choose r ss).txt = (r.txt ++ [123]) ++ (TL.joinL [44] ss ++ [125]) := by
      show r.txt ++ (123 :: (TL.joinL [44] ss ++ [125])) = _
      simp
    have etc2 : (Rcp.choose r ss).txt = (r.txt ++ (123 :: TL.joinL [44] ss)) ++ [125] := by
      show r.txt ++ (123 :: (TL.joinL [44] ss ++ [125])) = _
      simp
    refine ⟨_, rfl, Lt, _, _, _, rfl, rfl, SqL.of hL12, atI_at (by decide) rfl, ⟨_, rfl⟩, _, rfl, Lt, _, _, _, rfl, rfl, SqL.of hL12, atI_at (by decide) rfl, _, _, rfl, rfl, ?_, _, _, rfl, rfl, ?_⟩
    · simp only [elc, SX.S_len, List.length_cons, List.length_nil]
      exact hmil _ (by omega)
    rw [elc, SX.S_cat]
    refine ⟨_, rfl, not_true_eq (by rw [show (SX.S (Rcp.choose r ss).txt) = SX.S ((r.txt ++ [123]) ++ (TL.joinL [44] ss ++ [125])) from congrArg SX.S etc]; exact starts_of _ _) ?_⟩
    refine ⟨_, rfl, Lt, _, _, _, rfl, rfl, SqL.of hL12, atI_at (by decide) rfl, ⟨_, rfl⟩, _, _, rfl, rfl, _, rfl, not_true_eq (by rw [erc, show (SX.S (Rcp.choose r ss).txt) = SX.S ((r.txt ++ (123 :: TL.joinL [44] ss)) ++ [125]) from congrArg SX.S etc2]; exact ends_of _ _) ?_⟩
    -- unlike ones
    have hB10' : Same B2 B10 := hB9.trans hB10
    have r12 := ((rx.same hB10').same hD0.1).same hs12
    have s12 := ((ry.same hB10').same hD0.1).same hs12
    have t12 := ((rz.same hB10').same hD0.1).same hs12
    have tx : ∀ u v : List Nat, decide (V.str (SX.S u) = V.str (SX.S v)) = decide (u = v) := fun u v => decide_eq_decide.mpr ⟨fun h => SS_eq.mp h, fun h => by rw [h]⟩
    refine ⟨_, rfl, _, rfl, _, _, Data.dp (Rcp.flat _) r12.data, Data.dp (Rcp.flat _) s12.data, Rcp.shaped gr (by omega), Rcp.shaped gs (by omega), _, rfl, Lt, _, _, _, rfl, rfl, SqL.of hL12, atI_at (by decide) rfl, _, rfl, Lt, _, _, _, rfl, rfl, SqL.of hL12, atI_at (by decide) rfl, rfl, rfl, _, rfl, not_true_eq (decide_eq_true ?_) ?_⟩
    · rw [eqv_txt gr gs (by omega) (by omega) (by omega) (by omega)]
      exact congrArg V.bl (tx _ _).symm
    refine ⟨_, rfl, _, rfl, _, _, Data.dp (Rcp.flat _) s12.data, Data.dp (Rcp.flat _) t12.data, Rcp.shaped gs (by omega), Rcp.shaped gt (by omega), _, rfl, Lt, _, _, _, rfl, rfl, SqL.of hL12, atI_at (by decide) rfl, _, rfl, Lt, _, _, _, rfl, rfl, SqL.of hL12, atI_at (by decide) rfl, rfl, rfl, _, rfl, not_true_eq (decide_eq_true ?_) ?_⟩
    · rw [eqv_txt gs gt (by omega) (by omega) (by omega) (by omega)]
      exact congrArg V.bl (tx _ _).symm
    refine ⟨_, rfl, _, rfl, Lt, _, rfl, SqL.of hL12, fun p0 np0 => ?_⟩
    have hct : cutV (txs (([r, s0, t, .two .plus r s0, .two .minus r s0, .two .times r s0, .two .most r s0, .pick r s0 t, .choose r ss] : List Rcp).map Rcp.txt)) (some 3) none = ((([.two .plus r s0, .two .minus r s0, .two .times r s0, .two .most r s0, .pick r s0 t, .choose r ss] : List Rcp).map fun q => SX.S q.txt).map V.str) := by
      have := tcut_from (([r, s0, t, .two .plus r s0, .two .minus r s0, .two .times r s0, .two .most r s0, .pick r s0 t, .choose r ss] : List Rcp).map Rcp.txt) (a := 3) (by simp)
      exact this
    have hnd : ((([.two .plus r s0, .two .minus r s0, .two .times r s0, .two .most r s0, .pick r s0 t, .choose r ss] : List Rcp).map fun q => SX.S q.txt)).Nodup := by
      have h6 : ([.two .plus r s0, .two .minus r s0, .two .times r s0, .two .most r s0, .pick r s0 t, .choose r ss] : List Rcp).Nodup := by simp
      unfold List.Nodup at h6 ⊢
      rw [List.pairwise_map]
      refine List.Pairwise.imp_of_mem (fun {q1 q2} m1 m2 hne he => hne ?_) h6
      obtain ⟨g1, g2, g3⟩ := hok q1 (List.mem_cons_of_mem _ (List.mem_cons_of_mem _ (List.mem_cons_of_mem _ m1)))
      obtain ⟨g4, g5, g6⟩ := hok q2 (List.mem_cons_of_mem _ (List.mem_cons_of_mem _ (List.mem_cons_of_mem _ m2)))
      exact txt_inj g1 g4 g2 g5 g3 g6 (SX.S_inj he)
    refine ⟨p0, _, rfl, SqL.of (by rw [upd_same, hct]), (by show 6 ≤ 64; omega), hnd, rfl, _, rfl, not_true_eq (decide_eq_true rfl) ?_⟩
    have hs13 := hs12.trans (same_new np0 (.lst (cutV (txs (([r, s0, t, .two .plus r s0, .two .minus r s0, .two .times r s0, .two .most r s0, .pick r s0 t, .choose r ss] : List Rcp).map Rcp.txt)) (some 3) none)))
    have hD13 := hD0.same hs13
    have hS13 := hs13.seq hS0
    -- drawn texts
    refine ⟨_, rfl, a, _, rfl, .inl hS13, _, _, rfl, _, _, rfl, ?_⟩
    have hnl : (ns.map V.int).length ≤ 63 := by rw [List.length_map]; exact h63
    obtain ⟨m, hm0, hm⟩ : ∃ m : Nat, m ≤ 12 ∧ (if (if (((ns.map V.int).length : Nat) : Int) > 1 then (((ns.map V.int).length : Nat) : Int) else 1) < 12 then (if (((ns.map V.int).length : Nat) : Int) > 1 then (((ns.map V.int).length : Nat) : Int) else 1) else 12) = (m : Int) := by
      refine ⟨(if (if (((ns.map V.int).length : Nat) : Int) > 1 then (((ns.map V.int).length : Nat) : Int) else 1) < 12 then (if (((ns.map V.int).length : Nat) : Int) > 1 then (((ns.map V.int).length : Nat) : Int) else 1) else 12).toNat, ?_, ?_⟩
      · split <;> split at * <;> omega
      · split <;> split at * <;> omega
    rw [hm]
    refine ⟨(m : Int), rfl, by omega, by omega, for_range (n := (m : Int).toNat) (fun i σ H' => ∃ (v2 v10 v11 : Option V) (B' : Hp), σ = [some (.ref a), some (.ref d), v2, some x, some y, some z, some (.ref u), some (.ref D8), v8, some (.ref Lt), v10, v11, none] ∧ DeckAt B' H' d) ⟨_, _, none, _, rfl, hD13⟩ ?_ ?_⟩
    · rintro i σ H14 hi ⟨v2, v10, v11, B14, rfl, hD14⟩
      refine ⟨_, rfl, B14, d, rfl, hD14, fun B15 H15 T15 hB15 hD15 hl15 hlow15 => ?_⟩
      refine ⟨_, rfl, _, .str T15, rfl, rfl, tame_of (by omega) hlow15, fun hn H16 hs16 => ?_, fun r' e hG' H16 v' hs16 hR' => ?_⟩
      · refine ⟨_, rfl, rfl, _, rfl, not_true_eq (decide_eq_true rfl) ?_⟩
        exact ⟨_, _, _, B15, rfl, hD15.same hs16⟩
      · obtain ⟨h1, h2, h3⟩ := rRead_rev e
        obtain ⟨h4, h5⟩ := rcp_is h2 h3
        refine ⟨_, rfl, rfl, _, rfl, not_false_eq (decide_eq_false (rec_non hR')) ?_⟩
        refine ⟨_, rfl, v', r', rfl, hR', h2, by omega, by omega, _, rfl, rfl, _, rfl, not_true_eq (decide_eq_true (by rw [h1])) ?_⟩
        exact ⟨_, _, _, B15, rfl, hD15.same hs16⟩
    · rintro σ H14 ⟨v2, v10, v11, B14, rfl, hD14⟩
      exact q _
  all_goals
    simp only [eo, ec, eq, ecol, SX.S_cat, SX.S_len, List.length_append, List.length_cons, List.length_nil]
    exact hmil _ (by omega)
end
theorem all_mk {l : PySem.W.OpenLaw} {w : World} {K : PySem.W.Frag} {h : Heap} {mg : Str → Option Value} {fa f_is_whole f_is_name f_are_names f_within f_is_recipe f_behind_signs f_expected f_read_name f_read_number f_read_two f_read_pick f_read_part f_read_recipe f_show_recipe f__law_deck f__law_draw f__law_name f__law_number f__law_recipe f__law_read f__law_drawn f_law : Addr} (X : K.In h) (G : h.Ns mainGlobals mg) (hfa : mg "law" = some (.ref fa))
    {od_is_whole an_is_whole od_is_name an_is_name od_are_names an_are_names od_within an_within od_is_recipe an_is_recipe od_behind_signs an_behind_signs od_expected an_expected od_read_name an_read_name od_read_number an_read_number od_read_two an_read_two od_read_pick an_read_pick od_read_part an_read_part od_read_recipe an_read_recipe od_show_recipe an_show_recipe od__law_deck an__law_deck od__law_draw an__law_draw od__law_name an__law_name od__law_number an__law_number od__law_recipe an__law_recipe od__law_read an__law_read od__law_drawn an__law_drawn od_law an_law : Option Addr} {sl_is_whole sl_is_name sl_are_names sl_within sl_is_recipe sl_behind_signs sl_expected sl_read_name sl_read_number sl_read_two sl_read_pick sl_read_part sl_read_recipe sl_show_recipe sl__law_deck sl__law_draw sl__law_name sl__law_number sl__law_recipe sl__law_read sl__law_drawn sl_law : Array (Option Value)} {oc_is_whole kV_is_whole dc_is_whole pm_is_whole cd_is_whole ct_is_whole oc_is_name kV_is_name dc_is_name pm_is_name cd_is_name ct_is_name oc_are_names kV_are_names dc_are_names pm_are_names cd_are_names ct_are_names oc_within kV_within dc_within pm_within cd_within ct_within oc_is_recipe kV_is_recipe dc_is_recipe pm_is_recipe cd_is_recipe ct_is_recipe oc_behind_signs kV_behind_signs dc_behind_signs pm_behind_signs cd_behind_signs ct_behind_signs oc_expected kV_expected dc_expected pm_expected cd_expected ct_expected oc_read_name kV_read_name dc_read_name pm_read_name cd_read_name ct_read_name oc_read_number kV_read_number dc_read_number pm_read_number cd_read_number ct_read_number oc_read_two kV_read_two dc_read_two pm_read_two cd_read_two ct_read_two oc_read_pick kV_read_pick dc_read_pick pm_read_pick cd_read_pick ct_read_pick oc_read_part kV_read_part dc_read_part pm_read_part cd_read_part ct_read_part oc_read_recipe kV_read_recipe dc_read_recipe pm_read_recipe cd_read_recipe ct_read_recipe oc_show_recipe kV_show_recipe dc_show_recipe pm_show_recipe cd_show_recipe ct_show_recipe oc__law_deck kV__law_deck dc__law_deck pm__law_deck cd__law_deck ct__law_deck oc__law_draw kV__law_draw dc__law_draw pm__law_draw cd__law_draw ct__law_draw oc__law_name kV__law_name dc__law_name pm__law_name cd__law_name ct__law_name oc__law_number kV__law_number dc__law_number pm__law_number cd__law_number ct__law_number oc__law_recipe kV__law_recipe dc__law_recipe pm__law_recipe cd__law_recipe ct__law_recipe oc__law_read kV__law_read dc__law_read pm__law_read cd__law_read ct__law_read oc__law_drawn kV__law_drawn dc__law_drawn pm__law_drawn cd__law_drawn ct__law_drawn oc_law kV_law dc_law pm_law cd_law ct_law : Value}
    (a_is_whole : PySem.W.nsIn K mainGlobals "is_whole" = some (some (.ref f_is_whole))) (l_is_whole : K.lookup f_is_whole = some ⟨oc_is_whole, od_is_whole, .func (PySem.W.fnOf "is_whole" "is_whole" (defArgs s_is_whole) (defBody s_is_whole) (defScope s_is_whole) .none kV_is_whole dc_is_whole pm_is_whole an_is_whole cd_is_whole ct_is_whole), sl_is_whole⟩) (c_is_whole : PySem.W.codeIn K cd_is_whole "is_whole" = true) (k_is_whole : PySem.W.keepIn K (.ref f_is_whole) = true)
    (a_is_name : PySem.W.nsIn K mainGlobals "is_name" = some (some (.ref f_is_name))) (l_is_name : K.lookup f_is_name = some ⟨oc_is_name, od_is_name, .func (PySem.W.fnOf "is_name" "is_name" (defArgs s_is_name) (defBody s_is_name) (defScope s_is_name) .none kV_is_name dc_is_name pm_is_name an_is_name cd_is_name ct_is_name), sl_is_name⟩) (c_is_name : PySem.W.codeIn K cd_is_name "is_name" = true) (k_is_name : PySem.W.keepIn K (.ref f_is_name) = true)
    (a_are_names : PySem.W.nsIn K mainGlobals "are_names" = some (some (.ref f_are_names))) (l_are_names : K.lookup f_are_names = some ⟨oc_are_names, od_are_names, .func (PySem.W.fnOf "are_names" "are_names" (defArgs s_are_names) (defBody s_are_names) (defScope s_are_names) .none kV_are_names dc_are_names pm_are_names an_are_names cd_are_names ct_are_names), sl_are_names⟩) (c_are_names : PySem.W.codeIn K cd_are_names "are_names" = true) (k_are_names : PySem.W.keepIn K (.ref f_are_names) = true)
    (a_within : PySem.W.nsIn K mainGlobals "within" = some (some (.ref f_within))) (l_within : K.lookup f_within = some ⟨oc_within, od_within, .func (PySem.W.fnOf "within" "within" (defArgs s_within) (defBody s_within) (defScope s_within) .none kV_within dc_within pm_within an_within cd_within ct_within), sl_within⟩) (c_within : PySem.W.codeIn K cd_within "within" = true) (k_within : PySem.W.keepIn K (.ref f_within) = true)
    (a_is_recipe : PySem.W.nsIn K mainGlobals "is_recipe" = some (some (.ref f_is_recipe))) (l_is_recipe : K.lookup f_is_recipe = some ⟨oc_is_recipe, od_is_recipe, .func (PySem.W.fnOf "is_recipe" "is_recipe" (defArgs s_is_recipe) (defBody s_is_recipe) (defScope s_is_recipe) .none kV_is_recipe dc_is_recipe pm_is_recipe an_is_recipe cd_is_recipe ct_is_recipe), sl_is_recipe⟩) (c_is_recipe : PySem.W.codeIn K cd_is_recipe "is_recipe" = true) (k_is_recipe : PySem.W.keepIn K (.ref f_is_recipe) = true)
    (a_behind_signs : PySem.W.nsIn K mainGlobals "behind_signs" = some (some (.ref f_behind_signs))) (l_behind_signs : K.lookup f_behind_signs = some ⟨oc_behind_signs, od_behind_signs, .func (PySem.W.fnOf "behind_signs" "behind_signs" (defArgs s_behind_signs) (defBody s_behind_signs) (defScope s_behind_signs) .none kV_behind_signs dc_behind_signs pm_behind_signs an_behind_signs cd_behind_signs ct_behind_signs), sl_behind_signs⟩) (c_behind_signs : PySem.W.codeIn K cd_behind_signs "behind_signs" = true) (k_behind_signs : PySem.W.keepIn K (.ref f_behind_signs) = true)
    (a_expected : PySem.W.nsIn K mainGlobals "expected" = some (some (.ref f_expected))) (l_expected : K.lookup f_expected = some ⟨oc_expected, od_expected, .func (PySem.W.fnOf "expected" "expected" (defArgs s_expected) (defBody s_expected) (defScope s_expected) .none kV_expected dc_expected pm_expected an_expected cd_expected ct_expected), sl_expected⟩) (c_expected : PySem.W.codeIn K cd_expected "expected" = true) (k_expected : PySem.W.keepIn K (.ref f_expected) = true)
    (a_read_name : PySem.W.nsIn K mainGlobals "read_name" = some (some (.ref f_read_name))) (l_read_name : K.lookup f_read_name = some ⟨oc_read_name, od_read_name, .func (PySem.W.fnOf "read_name" "read_name" (defArgs s_read_name) (defBody s_read_name) (defScope s_read_name) .none kV_read_name dc_read_name pm_read_name an_read_name cd_read_name ct_read_name), sl_read_name⟩) (c_read_name : PySem.W.codeIn K cd_read_name "read_name" = true) (k_read_name : PySem.W.keepIn K (.ref f_read_name) = true)
    (a_read_number : PySem.W.nsIn K mainGlobals "read_number" = some (some (.ref f_read_number))) (l_read_number : K.lookup f_read_number = some ⟨oc_read_number, od_read_number, .func (PySem.W.fnOf "read_number" "read_number" (defArgs s_read_number) (defBody s_read_number) (defScope s_read_number) .none kV_read_number dc_read_number pm_read_number an_read_number cd_read_number ct_read_number), sl_read_number⟩) (c_read_number : PySem.W.codeIn K cd_read_number "read_number" = true) (k_read_number : PySem.W.keepIn K (.ref f_read_number) = true)
    (a_read_two : PySem.W.nsIn K mainGlobals "read_two" = some (some (.ref f_read_two))) (l_read_two : K.lookup f_read_two = some ⟨oc_read_two, od_read_two, .func (PySem.W.fnOf "read_two" "read_two" (defArgs s_read_two) (defBody s_read_two) (defScope s_read_two) .none kV_read_two dc_read_two pm_read_two an_read_two cd_read_two ct_read_two), sl_read_two⟩) (c_read_two : PySem.W.codeIn K cd_read_two "read_two" = true) (k_read_two : PySem.W.keepIn K (.ref f_read_two) = true)
    (a_read_pick : PySem.W.nsIn K mainGlobals "read_pick" = some (some (.ref f_read_pick))) (l_read_pick : K.lookup f_read_pick = some ⟨oc_read_pick, od_read_pick, .func (PySem.W.fnOf "read_pick" "read_pick" (defArgs s_read_pick) (defBody s_read_pick) (defScope s_read_pick) .none kV_read_pick dc_read_pick pm_read_pick an_read_pick cd_read_pick ct_read_pick), sl_read_pick⟩) (c_read_pick : PySem.W.codeIn K cd_read_pick "read_pick" = true) (k_read_pick : PySem.W.keepIn K (.ref f_read_pick) = true)
    (a_read_part : PySem.W.nsIn K mainGlobals "read_part" = some (some (.ref f_read_part))) (l_read_part : K.lookup f_read_part = some ⟨oc_read_part, od_read_part, .func (PySem.W.fnOf "read_part" "read_part" (defArgs s_read_part) (defBody s_read_part) (defScope s_read_part) .none kV_read_part dc_read_part pm_read_part an_read_part cd_read_part ct_read_part), sl_read_part⟩) (c_read_part : PySem.W.codeIn K cd_read_part "read_part" = true) (k_read_part : PySem.W.keepIn K (.ref f_read_part) = true)
    (a_read_recipe : PySem.W.nsIn K mainGlobals "read_recipe" = some (some (.ref f_read_recipe))) (l_read_recipe : K.lookup f_read_recipe = some ⟨oc_read_recipe, od_read_recipe, .func (PySem.W.fnOf "read_recipe" "read_recipe" (defArgs s_read_recipe) (defBody s_read_recipe) (defScope s_read_recipe) .none kV_read_recipe dc_read_recipe pm_read_recipe an_read_recipe cd_read_recipe ct_read_recipe), sl_read_recipe⟩) (c_read_recipe : PySem.W.codeIn K cd_read_recipe "read_recipe" = true) (k_read_recipe : PySem.W.keepIn K (.ref f_read_recipe) = true)
    (a_show_recipe : PySem.W.nsIn K mainGlobals "show_recipe" = some (some (.ref f_show_recipe))) (l_show_recipe : K.lookup f_show_recipe = some ⟨oc_show_recipe, od_show_recipe, .func (PySem.W.fnOf "show_recipe" "show_recipe" (defArgs s_show_recipe) (defBody s_show_recipe) (defScope s_show_recipe) .none kV_show_recipe dc_show_recipe pm_show_recipe an_show_recipe cd_show_recipe ct_show_recipe), sl_show_recipe⟩) (c_show_recipe : PySem.W.codeIn K cd_show_recipe "show_recipe" = true) (k_show_recipe : PySem.W.keepIn K (.ref f_show_recipe) = true)
    (a__law_deck : PySem.W.nsIn K mainGlobals "_law_deck" = some (some (.ref f__law_deck))) (l__law_deck : K.lookup f__law_deck = some ⟨oc__law_deck, od__law_deck, .func (PySem.W.fnOf "_law_deck" "_law_deck" (defArgs s__law_deck) (defBody s__law_deck) (defScope s__law_deck) .none kV__law_deck dc__law_deck pm__law_deck an__law_deck cd__law_deck ct__law_deck), sl__law_deck⟩) (c__law_deck : PySem.W.codeIn K cd__law_deck "_law_deck" = true) (k__law_deck : PySem.W.keepIn K (.ref f__law_deck) = true)
    (a__law_draw : PySem.W.nsIn K mainGlobals "_law_draw" = some (some (.ref f__law_draw))) (l__law_draw : K.lookup f__law_draw = some ⟨oc__law_draw, od__law_draw, .func (PySem.W.fnOf "_law_draw" "_law_draw" (defArgs s__law_draw) (defBody s__law_draw) (defScope s__law_draw) .none kV__law_draw dc__law_draw pm__law_draw an__law_draw cd__law_draw ct__law_draw), sl__law_draw⟩) (c__law_draw : PySem.W.codeIn K cd__law_draw "_law_draw" = true) (k__law_draw : PySem.W.keepIn K (.ref f__law_draw) = true)
    (a__law_name : PySem.W.nsIn K mainGlobals "_law_name" = some (some (.ref f__law_name))) (l__law_name : K.lookup f__law_name = some ⟨oc__law_name, od__law_name, .func (PySem.W.fnOf "_law_name" "_law_name" (defArgs s__law_name) (defBody s__law_name) (defScope s__law_name) .none kV__law_name dc__law_name pm__law_name an__law_name cd__law_name ct__law_name), sl__law_name⟩) (c__law_name : PySem.W.codeIn K cd__law_name "_law_name" = true) (k__law_name : PySem.W.keepIn K (.ref f__law_name) = true)
    (a__law_number : PySem.W.nsIn K mainGlobals "_law_number" = some (some (.ref f__law_number))) (l__law_number : K.lookup f__law_number = some ⟨oc__law_number, od__law_number, .func (PySem.W.fnOf "_law_number" "_law_number" (defArgs s__law_number) (defBody s__law_number) (defScope s__law_number) .none kV__law_number dc__law_number pm__law_number an__law_number cd__law_number ct__law_number), sl__law_number⟩) (c__law_number : PySem.W.codeIn K cd__law_number "_law_number" = true) (k__law_number : PySem.W.keepIn K (.ref f__law_number) = true)
    (a__law_recipe : PySem.W.nsIn K mainGlobals "_law_recipe" = some (some (.ref f__law_recipe))) (l__law_recipe : K.lookup f__law_recipe = some ⟨oc__law_recipe, od__law_recipe, .func (PySem.W.fnOf "_law_recipe" "_law_recipe" (defArgs s__law_recipe) (defBody s__law_recipe) (defScope s__law_recipe) .none kV__law_recipe dc__law_recipe pm__law_recipe an__law_recipe cd__law_recipe ct__law_recipe), sl__law_recipe⟩) (c__law_recipe : PySem.W.codeIn K cd__law_recipe "_law_recipe" = true) (k__law_recipe : PySem.W.keepIn K (.ref f__law_recipe) = true)
    (a__law_read : PySem.W.nsIn K mainGlobals "_law_read" = some (some (.ref f__law_read))) (l__law_read : K.lookup f__law_read = some ⟨oc__law_read, od__law_read, .func (PySem.W.fnOf "_law_read" "_law_read" (defArgs s__law_read) (defBody s__law_read) (defScope s__law_read) .none kV__law_read dc__law_read pm__law_read an__law_read cd__law_read ct__law_read), sl__law_read⟩) (c__law_read : PySem.W.codeIn K cd__law_read "_law_read" = true) (k__law_read : PySem.W.keepIn K (.ref f__law_read) = true)
    (a__law_drawn : PySem.W.nsIn K mainGlobals "_law_drawn" = some (some (.ref f__law_drawn))) (l__law_drawn : K.lookup f__law_drawn = some ⟨oc__law_drawn, od__law_drawn, .func (PySem.W.fnOf "_law_drawn" "_law_drawn" (defArgs s__law_drawn) (defBody s__law_drawn) (defScope s__law_drawn) .none kV__law_drawn dc__law_drawn pm__law_drawn an__law_drawn cd__law_drawn ct__law_drawn), sl__law_drawn⟩) (c__law_drawn : PySem.W.codeIn K cd__law_drawn "_law_drawn" = true) (k__law_drawn : PySem.W.keepIn K (.ref f__law_drawn) = true)
    (a_law : PySem.W.nsIn K mainGlobals "law" = some (some (.ref f_law))) (l_law : K.lookup f_law = some ⟨oc_law, od_law, .func (PySem.W.fnOf "law" "law" (defArgs s_law) (defBody s_law) (defScope s_law) .none kV_law dc_law pm_law an_law cd_law ct_law), sl_law⟩) (c_law : PySem.W.codeIn K cd_law "law" = true) (k_law : PySem.W.keepIn K (.ref f_law) = true)
    (z_len : PySem.W.nsIn K mainGlobals "len" = some none)
    (z_list : PySem.W.nsIn K mainGlobals "list" = some none)
    (z_range : PySem.W.nsIn K mainGlobals "range" = some none)
    (z_tuple : PySem.W.nsIn K mainGlobals "tuple" = some none)
    (z_str : PySem.W.nsIn K mainGlobals "str" = some none)
    (z_int : PySem.W.nsIn K mainGlobals "int" = some none)
    (z_isinstance : PySem.W.nsIn K mainGlobals "isinstance" = some none)
    (z_bool : PySem.W.nsIn K mainGlobals "bool" = some none)
    (z_zip : PySem.W.nsIn K mainGlobals "zip" = some none)
    (z_min : PySem.W.nsIn K mainGlobals "min" = some none)
    (z_max : PySem.W.nsIn K mainGlobals "max" = some none)
    (z_set : PySem.W.nsIn K mainGlobals "set" = some none)
    {f_TWOS : Addr} {d_TWOS : Option Addr} {it_TWOS : Array Value} {n_TWOS : Nat} {sl_TWOS : Array (Option Value)} {tk1 tk2 tk3 tk4 tk5 : Tok}
    (r_LETTERS : PySem.W.nsIn K mainGlobals "LETTERS" = some (some (.str "abcdefghijklmnopqrstuvwxyz" tk1)))
    (r_LONGEST : PySem.W.nsIn K mainGlobals "LONGEST" = some (some (.int 8 tk2)))
    (r_DEEPEST : PySem.W.nsIn K mainGlobals "DEEPEST" = some (some (.int 8 tk3)))
    (r_MOST : PySem.W.nsIn K mainGlobals "MOST" = some (some (.int 100 tk4)))
    (r_MOST_NAMES : PySem.W.nsIn K mainGlobals "MOST_NAMES" = some (some (.int 9 tk5)))
    (r_TWOS : PySem.W.nsIn K mainGlobals "TWOS" = some (some (.ref f_TWOS)))
    (l_TWOS : K.lookup f_TWOS = some ⟨.type "tuple", d_TWOS, .seq it_TWOS n_TWOS, sl_TWOS⟩)
    (v_TWOS : ∃ t1 t2 t3 t4 : Tok, it_TWOS = #[.str "plus" t1, .str "minus" t2, .str "times" t3, .str "most" t4])
    {f_WORDS : Addr} {es_WORDS : Array DictEntry} {n_WORDS : Nat} {tk6 tk7 t1 t2 t3 t4 : Tok} {C_NoText : Addr}
    (r_FIGURES : PySem.W.nsIn K mainGlobals "FIGURES" = some (some (.str "0123456789" tk6)))
    (r_MOST_FIGURES : PySem.W.nsIn K mainGlobals "MOST_FIGURES" = some (some (.int 40 tk7)))
    (a_WORDS : PySem.W.nsIn K mainGlobals "WORDS" = some (some (.ref f_WORDS)))
    (l_WORDS : K.lookup f_WORDS = some ⟨.type "dict", none, .dict es_WORDS n_WORDS, #[]⟩)
    (y_WORDS : PySem.W.KeysLit w.params es_WORDS.toList)
    (b_WORDS : (f_WORDS == sysModules) = false)
    (v_WORDS : ∃ (h1 h2 h3 h4 : Int) (t1 t2 t3 t4 : Tok) (v1 v2 v3 v4 : Value), es_WORDS = #[⟨h1, .str " + " t1, v1⟩, ⟨h2, .str " - " t2, v2⟩, ⟨h3, .str " * " t3, v3⟩, ⟨h4, .str " ^ " t4, v4⟩])
    (e1 : PySem.W.nsIn K f_WORDS " + " = some (some (.str "plus" t1)))
    (e2 : PySem.W.nsIn K f_WORDS " - " = some (some (.str "minus" t2)))
    (e3 : PySem.W.nsIn K f_WORDS " * " = some (some (.str "times" t3)))
    (e4 : PySem.W.nsIn K f_WORDS " ^ " = some (some (.str "most" t4)))
    (a_NoText : PySem.W.nsIn K mainGlobals "NoText" = some (some (.ref C_NoText)))
    (x_NoText : PySem.W.excIn K C_NoText [.type "ValueError", .type "Exception", .type "BaseException", .type "object"] "ValueError.__new__" = true)
    (k_NoText : PySem.W.keepIn K (.ref C_NoText) = true)
    (b_NoText : PySem.W.subIn K (.ref C_NoText) (.type "BaseException") = some true)
    (t_NoText : PySem.W.typeIn K (.ref C_NoText) = some (.type "type"))
    {f_SIGNS : Addr} {es_SIGNS : Array DictEntry} {n_SIGNS : Nat} {ts1 ts2 ts3 ts4 : Tok}
    (a_SIGNS : PySem.W.nsIn K mainGlobals "SIGNS" = some (some (.ref f_SIGNS)))
    (l_SIGNS : K.lookup f_SIGNS = some ⟨.type "dict", none, .dict es_SIGNS n_SIGNS, #[]⟩)
    (y_SIGNS : PySem.W.KeysLit w.params es_SIGNS.toList)
    (s1 : PySem.W.nsIn K f_SIGNS "plus" = some (some (.str " + " ts1)))
    (s2 : PySem.W.nsIn K f_SIGNS "minus" = some (some (.str " - " ts2)))
    (s3 : PySem.W.nsIn K f_SIGNS "times" = some (some (.str " * " ts3)))
    (s4 : PySem.W.nsIn K f_SIGNS "most" = some (some (.str " ^ " ts4)))
    (d_NoText : PySem.W.hasDictIn K C_NoText = true)
    (u_NoText : PySem.W.subIn K (.ref C_NoText) (.ref C_NoText) = some true)
    : ∃ fd : FuncData, (∀ (s : Shared) (v : Value), BindsTo s fd ⟨[v], []⟩ [("script", v)]) ∧ ∀ base : Heap, K.In base → base.Ns mainGlobals mg → FnOk l.prog w K mg base CX0 22 fa fd ["script"] (spLaw K) := by
  have e := hfa.symm.trans (PySem.W.mg_of X G a_law)
  cases e
  have F_is_whole := fun_mk (st := s_is_whole) l_is_whole c_is_whole k_is_whole
  have D_is_whole : IsDef K mg "is_whole" s_is_whole ["thing"] := ⟨f_is_whole, _, F_is_whole, PySem.W.mg_of X G a_is_whole, F_is_whole.binds (ps := ["thing"]) fun _ _ _ _ _ _ us hl => match us, hl with | [_], _ => rfl⟩
  have F_is_name := fun_mk (st := s_is_name) l_is_name c_is_name k_is_name
  have D_is_name : IsDef K mg "is_name" s_is_name ["thing"] := ⟨f_is_name, _, F_is_name, PySem.W.mg_of X G a_is_name, F_is_name.binds (ps := ["thing"]) fun _ _ _ _ _ _ us hl => match us, hl with | [_], _ => rfl⟩
  have F_are_names := fun_mk (st := s_are_names) l_are_names c_are_names k_are_names
  have D_are_names : IsDef K mg "are_names" s_are_names ["thing"] := ⟨f_are_names, _, F_are_names, PySem.W.mg_of X G a_are_names, F_are_names.binds (ps := ["thing"]) fun _ _ _ _ _ _ us hl => match us, hl with | [_], _ => rfl⟩
  have F_within := fun_mk (st := s_within) l_within c_within k_within
  have D_within : IsDef K mg "within" s_within ["thing"] := ⟨f_within, _, F_within, PySem.W.mg_of X G a_within, F_within.binds (ps := ["thing"]) fun _ _ _ _ _ _ us hl => match us, hl with | [_], _ => rfl⟩
  have F_is_recipe := fun_mk (st := s_is_recipe) l_is_recipe c_is_recipe k_is_recipe
  have D_is_recipe : IsDef K mg "is_recipe" s_is_recipe ["thing"] := ⟨f_is_recipe, _, F_is_recipe, PySem.W.mg_of X G a_is_recipe, F_is_recipe.binds (ps := ["thing"]) fun _ _ _ _ _ _ us hl => match us, hl with | [_], _ => rfl⟩
  have F_behind_signs := fun_mk (st := s_behind_signs) l_behind_signs c_behind_signs k_behind_signs
  have D_behind_signs : IsDef K mg "behind_signs" s_behind_signs ["text", "at", "signs"] := ⟨f_behind_signs, _, F_behind_signs, PySem.W.mg_of X G a_behind_signs, F_behind_signs.binds (ps := ["text", "at", "signs"]) fun _ _ _ _ _ _ us hl => match us, hl with | [_, _, _], _ => rfl⟩
  have F_expected := fun_mk (st := s_expected) l_expected c_expected k_expected
  have D_expected : IsDef K mg "expected" s_expected ["text", "at", "word"] := ⟨f_expected, _, F_expected, PySem.W.mg_of X G a_expected, F_expected.binds (ps := ["text", "at", "word"]) fun _ _ _ _ _ _ us hl => match us, hl with | [_, _, _], _ => rfl⟩
  have F_read_name := fun_mk (st := s_read_name) l_read_name c_read_name k_read_name
  have D_read_name : IsDef K mg "read_name" s_read_name ["text", "at"] := ⟨f_read_name, _, F_read_name, PySem.W.mg_of X G a_read_name, F_read_name.binds (ps := ["text", "at"]) fun _ _ _ _ _ _ us hl => match us, hl with | [_, _], _ => rfl⟩
  have F_read_number := fun_mk (st := s_read_number) l_read_number c_read_number k_read_number
  have D_read_number : IsDef K mg "read_number" s_read_number ["text", "at"] := ⟨f_read_number, _, F_read_number, PySem.W.mg_of X G a_read_number, F_read_number.binds (ps := ["text", "at"]) fun _ _ _ _ _ _ us hl => match us, hl with | [_, _], _ => rfl⟩
  have F_read_two := fun_mk (st := s_read_two) l_read_two c_read_two k_read_two
  have D_read_two : IsDef K mg "read_two" s_read_two ["text", "at", "depth"] := ⟨f_read_two, _, F_read_two, PySem.W.mg_of X G a_read_two, F_read_two.binds (ps := ["text", "at", "depth"]) fun _ _ _ _ _ _ us hl => match us, hl with | [_, _, _], _ => rfl⟩
  have F_read_pick := fun_mk (st := s_read_pick) l_read_pick c_read_pick k_read_pick
  have D_read_pick : IsDef K mg "read_pick" s_read_pick ["text", "at", "depth"] := ⟨f_read_pick, _, F_read_pick, PySem.W.mg_of X G a_read_pick, F_read_pick.binds (ps := ["text", "at", "depth"]) fun _ _ _ _ _ _ us hl => match us, hl with | [_, _, _], _ => rfl⟩
  have F_read_part := fun_mk (st := s_read_part) l_read_part c_read_part k_read_part
  have D_read_part : IsDef K mg "read_part" s_read_part ["text", "at", "depth"] := ⟨f_read_part, _, F_read_part, PySem.W.mg_of X G a_read_part, F_read_part.binds (ps := ["text", "at", "depth"]) fun _ _ _ _ _ _ us hl => match us, hl with | [_, _, _], _ => rfl⟩
  have F_read_recipe := fun_mk (st := s_read_recipe) l_read_recipe c_read_recipe k_read_recipe
  have D_read_recipe : IsDef K mg "read_recipe" s_read_recipe ["text"] := ⟨f_read_recipe, _, F_read_recipe, PySem.W.mg_of X G a_read_recipe, F_read_recipe.binds (ps := ["text"]) fun _ _ _ _ _ _ us hl => match us, hl with | [_], _ => rfl⟩
  have F_show_recipe := fun_mk (st := s_show_recipe) l_show_recipe c_show_recipe k_show_recipe
  have D_show_recipe : IsDef K mg "show_recipe" s_show_recipe ["r"] := ⟨f_show_recipe, _, F_show_recipe, PySem.W.mg_of X G a_show_recipe, F_show_recipe.binds (ps := ["r"]) fun _ _ _ _ _ _ us hl => match us, hl with | [_], _ => rfl⟩
  have F__law_deck := fun_mk (st := s__law_deck) l__law_deck c__law_deck k__law_deck
  have D__law_deck : IsDef K mg "_law_deck" s__law_deck ["script"] := ⟨f__law_deck, _, F__law_deck, PySem.W.mg_of X G a__law_deck, F__law_deck.binds (ps := ["script"]) fun _ _ _ _ _ _ us hl => match us, hl with | [_], _ => rfl⟩
  have F__law_draw := fun_mk (st := s__law_draw) l__law_draw c__law_draw k__law_draw
  have D__law_draw : IsDef K mg "_law_draw" s__law_draw ["deck", "many"] := ⟨f__law_draw, _, F__law_draw, PySem.W.mg_of X G a__law_draw, F__law_draw.binds (ps := ["deck", "many"]) fun _ _ _ _ _ _ us hl => match us, hl with | [_, _], _ => rfl⟩
  have F__law_name := fun_mk (st := s__law_name) l__law_name c__law_name k__law_name
  have D__law_name : IsDef K mg "_law_name" s__law_name ["deck"] := ⟨f__law_name, _, F__law_name, PySem.W.mg_of X G a__law_name, F__law_name.binds (ps := ["deck"]) fun _ _ _ _ _ _ us hl => match us, hl with | [_], _ => rfl⟩
  have F__law_number := fun_mk (st := s__law_number) l__law_number c__law_number k__law_number
  have D__law_number : IsDef K mg "_law_number" s__law_number ["deck"] := ⟨f__law_number, _, F__law_number, PySem.W.mg_of X G a__law_number, F__law_number.binds (ps := ["deck"]) fun _ _ _ _ _ _ us hl => match us, hl with | [_], _ => rfl⟩
  have F__law_recipe := fun_mk (st := s__law_recipe) l__law_recipe c__law_recipe k__law_recipe
  have D__law_recipe : IsDef K mg "_law_recipe" s__law_recipe ["deck", "deep", "left"] := ⟨f__law_recipe, _, F__law_recipe, PySem.W.mg_of X G a__law_recipe, F__law_recipe.binds (ps := ["deck", "deep", "left"]) fun _ _ _ _ _ _ us hl => match us, hl with | [_, _, _], _ => rfl⟩
  have F__law_read := fun_mk (st := s__law_read) l__law_read c__law_read k__law_read
  have D__law_read : IsDef K mg "_law_read" s__law_read ["text"] := ⟨f__law_read, _, F__law_read, PySem.W.mg_of X G a__law_read, F__law_read.binds (ps := ["text"]) fun _ _ _ _ _ _ us hl => match us, hl with | [_], _ => rfl⟩
  have F__law_drawn := fun_mk (st := s__law_drawn) l__law_drawn c__law_drawn k__law_drawn
  have D__law_drawn : IsDef K mg "_law_drawn" s__law_drawn ["deck"] := ⟨f__law_drawn, _, F__law_drawn, PySem.W.mg_of X G a__law_drawn, F__law_drawn.binds (ps := ["deck"]) fun _ _ _ _ _ _ us hl => match us, hl with | [_], _ => rfl⟩
  have F_law := fun_mk (st := s_law) l_law c_law k_law
  have m_len := PySem.W.mg_none_of X G z_len
  have m_list := PySem.W.mg_none_of X G z_list
  have m_range := PySem.W.mg_none_of X G z_range
  have m_tuple := PySem.W.mg_none_of X G z_tuple
  have m_str := PySem.W.mg_none_of X G z_str
  have m_int := PySem.W.mg_none_of X G z_int
  have m_isinstance := PySem.W.mg_none_of X G z_isinstance
  have m_bool := PySem.W.mg_none_of X G z_bool
  have m_zip := PySem.W.mg_none_of X G z_zip
  have m_min := PySem.W.mg_none_of X G z_min
  have m_max := PySem.W.mg_none_of X G z_max
  have m_set := PySem.W.mg_none_of X G z_set
  have T : Txt K mg := ⟨m_len, m_list, m_range, m_tuple, m_str, m_int, m_isinstance, m_bool, m_zip, m_min, m_max, m_set⟩
  have R : RTxt K mg f_TWOS := ⟨⟨_, PySem.W.mg_of X G r_LETTERS⟩, ⟨_, PySem.W.mg_of X G r_LONGEST⟩, ⟨_, PySem.W.mg_of X G r_DEEPEST⟩, ⟨_, PySem.W.mg_of X G r_MOST⟩, ⟨_, PySem.W.mg_of X G r_MOST_NAMES⟩, PySem.W.mg_of X G r_TWOS, fun H => by
      obtain ⟨t1, t2, t3, t4, e⟩ := v_TWOS
      subst e
      exact .inr ⟨_, _, _, l_TWOS, rfl, rfl, le_line (Nat.le_of_ble_eq_true rfl), .cons ⟨_, rfl⟩ (.cons ⟨_, rfl⟩ (.cons ⟨_, rfl⟩ (.cons ⟨_, rfl⟩ .nil)))⟩⟩
  have F0 : FTxt K mg := ⟨⟨_, PySem.W.mg_of X G r_FIGURES⟩, ⟨_, PySem.W.mg_of X G r_MOST_FIGURES⟩⟩
  have XN : NoT K mg C_NoText := ⟨x_NoText, PySem.W.mg_of X G a_NoText, k_NoText, b_NoText, t_NoText⟩
  have XW : WordsT K w mg f_WORDS es_WORDS n_WORDS := ⟨PySem.W.mg_of X G a_WORDS, ⟨l_WORDS, y_WORDS, b_WORDS⟩, fun z hz => by
      obtain ⟨h1, h2, h3, h4, u1, u2, u3, u4, v1, v2, v3, v4, e⟩ := v_WORDS
      subst e
      exact words_no l_WORDS z hz, fun z k hz => by
      rw [two_yes hz]
      cases k
      · exact ⟨_, _, _, l_WORDS, y_WORDS, (show (" + " : Str) = SX.S [32, 43, 32] by decide +kernel) ▸ e1, ⟨_, rfl⟩⟩
      · exact ⟨_, _, _, l_WORDS, y_WORDS, (show (" - " : Str) = SX.S [32, 45, 32] by decide +kernel) ▸ e2, ⟨_, rfl⟩⟩
      · exact ⟨_, _, _, l_WORDS, y_WORDS, (show (" * " : Str) = SX.S [32, 42, 32] by decide +kernel) ▸ e3, ⟨_, rfl⟩⟩
      · exact ⟨_, _, _, l_WORDS, y_WORDS, (show (" ^ " : Str) = SX.S [32, 94, 32] by decide +kernel) ▸ e4, ⟨_, rfl⟩⟩⟩
  have hsg : ∀ k : Kd, KDct K w f_SIGNS k.name (.str k.signS) := fun k => by
    cases k
    · exact ⟨_, _, _, l_SIGNS, y_SIGNS, s1, ⟨_, rfl⟩⟩
    · exact ⟨_, _, _, l_SIGNS, y_SIGNS, s2, ⟨_, rfl⟩⟩
    · exact ⟨_, _, _, l_SIGNS, y_SIGNS, s3, ⟨_, rfl⟩⟩
    · exact ⟨_, _, _, l_SIGNS, y_SIGNS, s4, ⟨_, rfl⟩⟩
  refine ⟨PySem.W.fnOf "law" "law" (defArgs s_law) (defBody s_law) (defScope s_law) .none kV_law dc_law pm_law an_law cd_law ct_law, fun s v => .of_eq rfl, fun base _ _ => ?_⟩
  have C1 := ok__law_draw (P := l.prog) (w := w) (base := base) T D__law_draw
  have C2 := ok__law_name T D__law_name C1
  have C3 := ok__law_number T D__law_number C1
  have W1 := ok_is_whole (P := l.prog) (w := w) (base := base) T D_is_whole
  have W2 := ok_is_name (P := l.prog) (w := w) (base := base) T R D_is_name
  have W3 := ok_are_names T R D_are_names W2
  have W4 := ok_within T R D_within W1 W2 W3
  have W5 := ok_is_recipe T R D_is_recipe W4
  have Y1 := ok_behind_signs (P := l.prog) (w := w) (base := base) T D_behind_signs
  have Y2 := ok_expected (P := l.prog) (w := w) (base := base) T XN D_expected
  have Y3 := ok_read_name T R XN D_read_name Y1 W2
  have Y4 := ok_read_number T F0 XN D_read_number Y1
  have Y5 := all_read_part T R XW XN D_read_part D_read_two D_read_pick Y1 W3 Y2 Y3 Y4 8
  have Y6 := ok_read_recipe T XN D_read_recipe W5 Y5
  have L1 := ok__law_read T XN (PySem.W.exm_ref b_NoText d_NoText t_NoText u_NoText) D__law_read Y6
  exact ok_law F_law T C1 (ok__law_deck T D__law_deck) C2 (all__law_recipe T D__law_recipe C1 C3 C2 6) Y6 (all_show_recipe T (PySem.W.mg_of X G a_SIGNS) hsg D_show_recipe 20) (ok__law_drawn T D__law_drawn C1) L1
theorem walk {l : PySem.W.OpenLaw} {q : Program} {loose : List Str} {XP : (Str → Option Value) → Heap → Prop} {YP : World → Heap → Prop} {d : DefRec} {K : Params → PySem.W.Frag} (hn : l.most = some 63) (hdf : d.params.defaults = [])
    (hY : ∀ (w : World) (h : Heap), YP w h → (K w.params).In h)
    (F : ∀ (w : World) (mg : Str → Option Value) (fa : Addr) (h : Heap), (K w.params).In h → h.Ns mainGlobals mg → mg d.name = some (.ref fa) →
      ∃ fd : FuncData, (∀ (s : Shared) (u : Value), BindsTo s fd ⟨[u], []⟩ [("script", u)]) ∧ ∀ base : Heap, (K w.params).In base → base.Ns mainGlobals mg → FnOk l.prog w (K w.params) mg base CX0 22 fa fd ["script"] (spLaw (K w.params))) :
    PySem.W.WalkO q loose XP YP l.row.toRowW d [] (fun f vs => PySem.call f vs) :=
  L2.walk_of (n := 63) (k := 22) (x := "script") (CX := fun _ => CX0) (sp := fun w => spLaw (K w.params)) hn (by decide) hdf ⟨rfl, by decide, by decide⟩ hY F (fun _ _ a ns hl _ hS => ⟨a, ns, rfl, hS, hl, fun _ => rfl⟩) fun _ _ _ _ _ z => z
end Mad
open PySem PySem.W PyProof.Rows
set_option maxRecDepth 100000 in
set_option maxHeartbeats 0 in
theorem PySem.Challenge.cw_madeagain_k09_whole_texts_there_and_back_holds : PySem.Challenge.rw_madeagain_k09_whole_texts_there_and_back.Holds := by
  w_on; o_law; k_head; (case hw => w_witness2)
  k_fill
  refine Mad.walk (l := PySem.Challenge.rw_madeagain_k09_whole_texts_there_and_back) rfl rfl (fun w h Y => PySem.W.kIn_of Y) ?F
  case F =>
    intro w mg fa h KX G hmg
    refine' Mad.all_mk KX G hmg ?a_is_whole ?l_is_whole ?c_is_whole ?k_is_whole ?a_is_name ?l_is_name ?c_is_name ?k_is_name ?a_are_names ?l_are_names ?c_are_names ?k_are_names ?a_within ?l_within ?c_within ?k_within ?a_is_recipe ?l_is_recipe ?c_is_recipe ?k_is_recipe ?a_behind_signs ?l_behind_signs ?c_behind_signs ?k_behind_signs ?a_expected ?l_expected ?c_expected ?k_expected ?a_read_name ?l_read_name ?c_read_name ?k_read_name ?a_read_number ?l_read_number ?c_read_number ?k_read_number ?a_read_two ?l_read_two ?c_read_two ?k_read_two ?a_read_pick ?l_read_pick ?c_read_pick ?k_read_pick ?a_read_part ?l_read_part ?c_read_part ?k_read_part ?a_read_recipe ?l_read_recipe ?c_read_recipe ?k_read_recipe ?a_show_recipe ?l_show_recipe ?c_show_recipe ?k_show_recipe ?a__law_deck ?l__law_deck ?c__law_deck ?k__law_deck ?a__law_draw ?l__law_draw ?c__law_draw ?k__law_draw ?a__law_name ?l__law_name ?c__law_name ?k__law_name ?a__law_number ?l__law_number ?c__law_number ?k__law_number ?a__law_recipe ?l__law_recipe ?c__law_recipe ?k__law_recipe ?a__law_read ?l__law_read ?c__law_read ?k__law_read ?a__law_drawn ?l__law_drawn ?c__law_drawn ?k__law_drawn ?a_law ?l_law ?c_law ?k_law ?z_len ?z_list ?z_range ?z_tuple ?z_str ?z_int ?z_isinstance ?z_bool ?z_zip ?z_min ?z_max ?z_set ?r_LETTERS ?r_LONGEST ?r_DEEPEST ?r_MOST ?r_MOST_NAMES ?r_TWOS ?l_TWOS ?v_TWOS ?r_FIGURES ?r_MOST_FIGURES ?a_WORDS ?l_WORDS ?y_WORDS ?b_WORDS ?v_WORDS ?e1 ?e2 ?e3 ?e4 ?a_NoText ?x_NoText ?k_NoText ?b_NoText ?t_NoText ?a_SIGNS ?l_SIGNS ?y_SIGNS ?s1 ?s2 ?s3 ?s4 ?d_NoText ?u_NoText
    (case a_is_whole => k_is)
    (case l_is_whole => k_is)
    (case c_is_whole => k_is)
    (case k_is_whole => k_is)
    (case a_is_name => k_is)
    (case l_is_name => k_is)
    (case c_is_name => k_is)
    (case k_is_name => k_is)
    (case a_are_names => k_is)
    (case l_are_names => k_is)
    (case c_are_names => k_is)
    (case k_are_names => k_is)
    (case a_within => k_is)
    (case l_within => k_is)
    (case c_within => k_is)
    (case k_within => k_is)
    (case a_is_recipe => k_is)
    (case l_is_recipe => k_is)
    (case c_is_recipe => k_is)
    (case k_is_recipe => k_is)
    (case a_behind_signs => k_is)
    (case l_behind_signs => k_is)
    (case c_behind_signs => k_is)
    (case k_behind_signs => k_is)
    (case a_expected => k_is)
    (case l_expected => k_is)
    (case c_expected => k_is)
    (case k_expected => k_is)
    (case a_read_name => k_is)
    (case l_read_name => k_is)
    (case c_read_name => k_is)
    (case k_read_name => k_is)
    (case a_read_number => k_is)
    (case l_read_number => k_is)
    (case c_read_number => k_is)
    (case k_read_number => k_is)
    (case a_read_two => k_is)
    (case l_read_two => k_is)
    (case c_read_two => k_is)
    (case k_read_two => k_is)
    (case a_read_pick => k_is)
    (case l_read_pick => k_is)
    (case c_read_pick => k_is)
    (case k_read_pick => k_is)
    (case a_read_part => k_is)
    (case l_read_part => k_is)
    (case c_read_part => k_is)
    (case k_read_part => k_is)
    (case a_read_recipe => k_is)
    (case l_read_recipe => k_is)
    (case c_read_recipe => k_is)
    (case k_read_recipe => k_is)
    (case a_show_recipe => k_is)
    (case l_show_recipe => k_is)
    (case c_show_recipe => k_is)
    (case k_show_recipe => k_is)
    (case a__law_deck => k_is)
    (case l__law_deck => k_is)
    (case c__law_deck => k_is)
    (case k__law_deck => k_is)
    (case a__law_draw => k_is)
    (case l__law_draw => k_is)
    (case c__law_draw => k_is)
    (case k__law_draw => k_is)
    (case a__law_name => k_is)
    (case l__law_name => k_is)
    (case c__law_name => k_is)
    (case k__law_name => k_is)
    (case a__law_number => k_is)
    (case l__law_number => k_is)
    (case c__law_number => k_is)
    (case k__law_number => k_is)
    (case a__law_recipe => k_is)
    (case l__law_recipe => k_is)
    (case c__law_recipe => k_is)
    (case k__law_recipe => k_is)
    (case a__law_read => k_is)
    (case l__law_read => k_is)
    (case c__law_read => k_is)
    (case k__law_read => k_is)
    (case a__law_drawn => k_is)
    (case l__law_drawn => k_is)
    (case c__law_drawn => k_is)
    (case k__law_drawn => k_is)
    (case a_law => k_is)
    (case l_law => k_is)
    (case c_law => k_is)
    (case k_law => k_is)
    (case z_len => k_is)
    (case z_list => k_is)
    (case z_range => k_is)
    (case z_tuple => k_is)
    (case z_str => k_is)
    (case z_int => k_is)
    (case z_isinstance => k_is)
    (case z_bool => k_is)
    (case z_zip => k_is)
    (case z_min => k_is)
    (case z_max => k_is)
    (case z_set => k_is)
    (case r_LETTERS => k_is)
    (case r_LONGEST => k_is)
    (case r_DEEPEST => k_is)
    (case r_MOST => k_is)
    (case r_MOST_NAMES => k_is)
    (case r_TWOS => k_is)
    (case l_TWOS => k_is)
    (case v_TWOS => exact ⟨_, _, _, _, rfl⟩)
    (case r_FIGURES => k_is)
    (case r_MOST_FIGURES => k_is)
    (case a_WORDS => k_is)
    (case l_WORDS => k_is)
    (case y_WORDS => k_keys)
    (case b_WORDS => first | rfl | decide)
    (case v_WORDS => exact ⟨_, _, _, _, _, _, _, _, _, _, _, _, rfl⟩)
    (case e1 => k_is)
    (case e2 => k_is)
    (case e3 => k_is)
    (case e4 => k_is)
    (case a_NoText => k_is)
    (case x_NoText => k_exc)
    (case k_NoText => k_is)
    (case b_NoText => k_is)
    (case t_NoText => k_is)
    (case a_SIGNS => k_is)
    (case l_SIGNS => k_is)
    (case y_SIGNS => k_keys)
    (case s1 => k_is)
    (case s2 => k_is)
    (case s3 => k_is)
    (case s4 => k_is)
    (case d_NoText => k_is)
    (case u_NoText => k_is)
#print axioms PySem.Challenge.cw_madeagain_k09_whole_texts_there_and_back_holds
