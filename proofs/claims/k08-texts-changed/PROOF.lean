import PyProof.Rows.All
import Wide.All
import OpenK.AllK
import Wide.FinOn
import HandS.ForMost
import HandS.Wide
import HandS.IsInst
import HandS.Codes
import HandS.More
import HandS.Style
import HandS.TupMul
import HandS.TupAny
import HandS.Dict
import HandS.Iter
import HandS.SortInts
import HandS.SortOrd
import KE.KEqSeq
import HandS.Exc
import HandS.ExcOwn
import HandS.WordsExc
import KE.IntTextLaws
import KE.IntTextText
import HandS.ExcValue
import HandS.TryOnly
import HandS.ExcIs
import PyProof.StrOps2
import HandS.Strs
import HandS.NoneIn
import HandS.Zip
import HandS.Deep
import HandS.StrMore
import HandS.Walk
import PySem.Challenge.RW_madeagain_k08_texts_changed
set_option Elab.async false
set_option linter.all false
set_option maxRecDepth 100000
set_option maxHeartbeats 4000000
set_option pp.maxSteps 300
namespace Mad
open PySem PySem.Spec PyProof.Rows L2
def topS (i : Nat) : Stmt := PySem.Challenge.pw_madeagain_k08_texts_changed.main.body.getD i (.Pass ⟨0, 0, 0, 0⟩)
/-! ### short words over the layer -/
/-- the def x of the text stands in the module as st says -/
def IsDef (K : PySem.W.Frag) (mg : Str → Option Value) (x : Str) (st : Stmt) (ps : List Str) : Prop := ∃ (f : Addr) (fd : FuncData), Fun K x x st f fd ∧ mg x = some (.ref f) ∧ Binds K fd ps []
/-- the def x keeps the promise sp by at most k calls in one another -/
def Cal (P : Program) (w : World) (K : PySem.W.Frag) (mg : Str → Option Value) (base : Heap) (CX : CXT) (k : Nat) (x : Str) (ps : List Str) (sp : Sp) : Prop :=
  ∃ (f : Addr) (fd : FuncData), FnOk P w K mg base CX k f fd ps sp ∧ mg x = some (.ref f) ∧ PySem.W.keepIn K (.ref f) = true ∧ Binds K fd ps []
section
variable {P : Program} {w : World} {K : PySem.W.Frag} {mg : Str → Option Value} {base : Heap}
theorem Cal.mono {CX : CXT} {j k : Nat} {x : Str} {ps : List Str} {sp : Sp} (c : Cal P w K mg base CX j x ps sp) (h : j ≤ k) : Cal P w K mg base CX k x ps sp := by
  obtain ⟨f, fd, F, r⟩ := c
  exact ⟨f, fd, F.mono h, r⟩
theorem Cal.imp {CX : CXT} {k : Nat} {x : Str} {ps : List Str} {sp sp' : Sp} (c : Cal P w K mg base CX k x ps sp) (h : ∀ vs H Q E, sp' vs H Q E → sp vs H Q E) : Cal P w K mg base CX k x ps sp' := by
  obtain ⟨f, fd, F, r⟩ := c
  exact ⟨f, fd, F.imp h, r⟩
/-- of no depth none is asked -/
theorem cal_none {x : Str} {st : Stmt} {ps : List Str} {sp : Sp} {CX : CXT} {k : Nat} (D : IsDef K mg x st ps) (no : ∀ vs H Q E, ¬ sp vs H Q E) : Cal P w K mg base CX k x ps sp := by
  obtain ⟨f, fd, F, m, b⟩ := D
  exact ⟨f, fd, ⟨fun vs H Q E h => absurd h (no vs H Q E), fun A outer s H args us vs Q E _ _ _ _ h => absurd h (no vs H Q E)⟩, m, F.kp, b⟩
theorem IsDef.cal {x : Str} {st : Stmt} {N ps : List Str} {k : Nat} {sp : Sp} (D : IsDef K mg x st ps) (S : FnScope N ps (defScope st)) (len : ∀ vs H Q E, sp vs H Q E → vs.length = ps.length)
    (hbody : ∀ (f : Addr) (cdv : Value) (A : Around) (outer : List Env) (s : Shared) (H : Hp) (vs : List V) (Q : VK) (E : XK), Room k (A.deeper (envOfC x (defScope st) s.heap.objs.size f cdv)) → sp vs H Q E →
      ∃ t, PSs (cxOf CX0 P w K mg base N x (defScope st) f cdv A outer s H E).nox (defBody st) t ∧ t { nx := fun _ H' => Q .non H', rt := Q } (start N vs) H) : Cal P w K mg base CX0 (k + 1) x ps sp := by
  obtain ⟨f, fd, F, m, b⟩ := D
  exact ⟨f, fd, F.ok S len fun cdv A outer s H vs Q E => hbody f cdv A outer s H vs Q E, m, F.kp, b⟩
end
section
variable {X : Cx} {CX : CXT} {k : Nat} {ps : List Str} {sp : Sp} {E : XK} {x : Str} {p pos : Pos}
theorem pe_cal {e : Expr} {es : List Expr} {t : TA} (c : Cal X.prog X.w X.K X.mg X.base CX k x ps sp) (hr : Room k X.A) (hx : Passes CX X E) (ha : PA X (e :: es) t) (hg : Gl X x := by rfl)
    (hdb : (x == ("__debug__" : Str)) = false := by decide) (he : starEach (e :: es) X.env = (false, eval e X.env) :: starEach es X.env := by rfl) (hpl : (backTo pos (starEach es X.env)).any (·.1) = false := by rfl) :
    PE X (.Call (.Name x p) (e :: es) [] pos) (tCall sp [] E t) := by
  obtain ⟨f, fd, F, m, kp, b⟩ := c
  exact pe_call F hr hg m kp b .nil hx ha hdb he hpl
theorem pe_cal0 (c : Cal X.prog X.w X.K X.mg X.base CX k x ps sp) (hr : Room k X.A) (hx : Passes CX X E) (hg : Gl X x := by rfl) (hdb : (x == ("__debug__" : Str)) = false := by decide) :
    PE X (.Call (.Name x p) [] [] pos) (tCall sp [] E tNil) := by
  obtain ⟨f, fd, F, m, kp, b⟩ := c
  exact pe_call0 F hr hg m kp b .nil hx hdb
end
theorem le_line {n : Nat} (h : n ≤ 16777216) : n ≤ sizeLine := by rw [sizeLine_eq]; exact h
theorem lt_line {n : Nat} (h : n < 16777216) : n < sizeLine := by rw [sizeLine_eq]; exact h
theorem same_new {H : Hp} {p : Addr} (h : H p = none) (o : HO) : Same H (upd H p o) := fun b u q => by rw [upd_ne (ne_of_none q h)]; exact q
theorem same_upd {B H : Hp} {p : Addr} (s : Same B H) (h : B p = none) (o : HO) : Same B (upd H p o) := fun b u q => by
  have z : b ≠ p := fun e => by rw [e, h] at q; cases q
  rw [upd_ne z]; exact s _ _ q
theorem atI_at {α : Type} {xs : List α} {i : Int} {v : α} (h0 : 0 ≤ i) (h : xs[i.toNat]? = some v) : atI xs i = some v := by
  have e : i = ((i.toNat : Nat) : Int) := by omega
  rw [e]; exact atI_nat h
theorem ixN_at {n : Nat} {i : Int} (h0 : 0 ≤ i) (h : i < n) : ixN n i = some i.toNat := by
  unfold ixN
  rw [if_pos h0, if_pos h]
theorem int_at {ns : List Int} {i : Int} (h0 : 0 ≤ i) (h : i < ns.length) : ∃ v : Int, atI (ns.map V.int) i = some (.int v) := by
  have hk : i.toNat < ns.length := by omega
  exact ⟨ns[i.toNat], atI_at h0 (by rw [List.getElem?_map, List.getElem?_eq_getElem hk] <;> rfl)⟩
theorem if_true_eq {c : Bool} {A B : Prop} (h : c = true) (a : A) : if c = true then A else B := by rw [if_pos h]; exact a
theorem if_false_eq {c : Bool} {A B : Prop} (h : c = false) (b : B) : if c = true then A else B := by rw [h]; exact b
theorem not_true_eq {c : Bool} {A B : Prop} (h : c = true) (b : B) : if (!c) = true then A else B := by rw [h]; exact b
theorem not_false_eq {c : Bool} {A B : Prop} (h : c = false) (a : A) : if (!c) = true then A else B := by rw [h]; exact a
structure Txt (K : PySem.W.Frag) (mg : Str → Option Value) : Prop where
  b_len : mg "len" = none
  b_list : mg "list" = none
  b_range : mg "range" = none
  b_tuple : mg "tuple" = none
  b_str : mg "str" = none
  b_int : mg "int" = none
  b_isinstance : mg "isinstance" = none
  b_bool : mg "bool" = none
  b_sum : mg "sum" = none
  b_zip : mg "zip" = none
  b_ValueError : mg "ValueError" = none
/-! ### recipes as data -/
inductive Kd where
  | plus | minus | times | most
  deriving DecidableEq
def Kd.name : Kd → Str
  | .plus => "plus" | .minus => "minus" | .times => "times" | .most => "most"
inductive Rcp where
  | num (n : Int)
  | read (s : List Nat)
  | two (k : Kd) (a b : Rcp)
  | pick (a b c : Rcp)
  | choose (a : Rcp) (ns : List (List Nat))
def Rcp.dep : Rcp → Nat
  | .num _ => 1
  | .read _ => 1
  | .two _ a b => max a.dep b.dep + 1
  | .pick a b c => max a.dep (max b.dep c.dep) + 1
  | .choose a _ => a.dep + 1
def Rcp.siz : Rcp → Nat
  | .num _ => 1
  | .read _ => 1
  | .two _ a b => a.siz + b.siz + 1
  | .pick a b c => a.siz + b.siz + c.siz + 1
  | .choose a _ => a.siz + 1
/-- a name's signs -/
def Nm (s : List Nat) : Prop := 1 ≤ s.length ∧ s.length ≤ 8 ∧ ∀ c ∈ s, 97 ≤ c ∧ c ≤ 122
def Nms (ns : List (List Nat)) : Prop := 1 ≤ ns.length ∧ ns.length ≤ 9 ∧ ∀ s ∈ ns, Nm s
def Rcp.Good : Rcp → Prop
  | .num n => n.natAbs < 10 ^ 40
  | .read s => Nm s
  | .two _ a b => a.Good ∧ b.Good
  | .pick a b c => a.Good ∧ b.Good ∧ c.Good
  | .choose a ns => a.Good ∧ Nms ns
def txs (ns : List (List Nat)) : List V := (ns.map SX.S).map V.str
/-- the value v is the recipe r in H -/
def Rec (H : Hp) : Rcp → V → Prop
  | .num n, v => ∃ p, v = .ref p ∧ H p = some (.tup [.str "number", .int n])
  | .read s, v => ∃ p, v = .ref p ∧ H p = some (.tup [.str "read", .str (SX.S s)])
  | .two k a b, v => ∃ p x y, v = .ref p ∧ H p = some (.tup [.str k.name, x, y]) ∧ Rec H a x ∧ Rec H b y
  | .pick a b c, v => ∃ p x y z, v = .ref p ∧ H p = some (.tup [.str "pick", x, y, z]) ∧ Rec H a x ∧ Rec H b y ∧ Rec H c z
  | .choose a ns, v => ∃ p x q, v = .ref p ∧ H p = some (.tup [.str "choose", x, .ref q]) ∧ Rec H a x ∧ H q = some (.tup (txs ns))
/-- tuples stay -/
def Keep (H H' : Hp) : Prop := ∀ b xs, H b = some (.tup xs) → H' b = some (.tup xs)
theorem Keep.refl (H : Hp) : Keep H H := fun _ _ h => h
theorem Keep.trans {A B C : Hp} (h : Keep A B) (k : Keep B C) : Keep A C := fun b xs q => k b xs (h b xs q)
theorem same_keep {H H' : Hp} (s : Same H H') : Keep H H' := fun b xs q => s b _ q
theorem keep_lst {H : Hp} {l : Addr} {xs ys : List V} (h : H l = some (.lst xs)) : Keep H (upd H l (.lst ys)) := fun b zs q => by
  have z : b ≠ l := fun e => by rw [e, h] at q; cases q
  rw [upd_ne z]; exact q
theorem Rec.keep {H H' : Hp} (k : Keep H H') : ∀ {r : Rcp} {v : V}, Rec H r v → Rec H' r v
  | .num n, v, ⟨p, e, h⟩ => ⟨p, e, k _ _ h⟩
  | .read s, v, ⟨p, e, h⟩ => ⟨p, e, k _ _ h⟩
  | .two _ a b, v, ⟨p, x, y, e, h, ra, rb⟩ => ⟨p, x, y, e, k _ _ h, Rec.keep k ra, Rec.keep k rb⟩
  | .pick a b c, v, ⟨p, x, y, z, e, h, ra, rb, rc⟩ => ⟨p, x, y, z, e, k _ _ h, Rec.keep k ra, Rec.keep k rb, Rec.keep k rc⟩
  | .choose a ns, v, ⟨p, x, q, e, h, ra, hq⟩ => ⟨p, x, q, e, k _ _ h, Rec.keep k ra, k _ _ hq⟩
theorem Rec.same {H H' : Hp} (s : Same H H') {r : Rcp} {v : V} (h : Rec H r v) : Rec H' r v := h.keep (same_keep s)
theorem dep_pos : ∀ r : Rcp, 1 ≤ r.dep
  | .num _ => Nat.le_refl _
  | .read _ => Nat.le_refl _
  | .two _ _ _ => Nat.le_add_left _ _
  | .pick _ _ _ => Nat.le_add_left _ _
  | .choose _ _ => Nat.le_add_left _ _
theorem siz_pos : ∀ r : Rcp, 1 ≤ r.siz
  | .num _ => Nat.le_refl _
  | .read _ => Nat.le_refl _
  | .two _ _ _ => Nat.le_add_left _ _
  | .pick _ _ _ => Nat.le_add_left _ _
  | .choose _ _ => Nat.le_add_left _ _
theorem iteY {p A B : Prop} [Decidable p] (h : p) (a : A) : if decide p = true then A else B := by
  rw [if_pos (decide_eq_true h)]; exact a
theorem iteN {p A B : Prop} [Decidable p] (h : ¬p) (b : B) : if decide p = true then A else B := by
  rw [if_neg (fun z => h (of_decide_eq_true z))]; exact b
theorem txs_get {ns : List (List Nat)} {i : Nat} (h : i < ns.length) : (txs ns)[i]? = some (.str (SX.S ns[i])) := by
  unfold txs
  rw [List.getElem?_map, List.getElem?_map, List.getElem?_eq_getElem h]
  all_goals rfl
theorem txs_mem {ns : List (List Nat)} {x : V} (h : x ∈ txs ns) : ∃ s, s ∈ ns ∧ x = .str (SX.S s) := by
  obtain ⟨y, hy, rfl⟩ := List.mem_map.mp h
  obtain ⟨s, hs, rfl⟩ := List.mem_map.mp hy
  exact ⟨s, hs, rfl⟩
theorem txs_len (ns : List (List Nat)) : (txs ns).length = ns.length := by unfold txs; rw [List.length_map, List.length_map]
theorem txs_app (a b : List (List Nat)) : txs (a ++ b) = txs a ++ txs b := by unfold txs; rw [List.map_append, List.map_append]
/-- the signs, one by one -/
def ones (ss : List Nat) : List (List Nat) := ss.map fun c => [c]
theorem ones_flat (ss : List Nat) : (ones ss).flatten = ss := by
  induction ss with
  | nil => rfl
  | cons a r ih => show [a] ++ (ones r).flatten = _; rw [ih]; rfl
theorem ones_sum (ss : List Nat) : (((ones ss).map SX.S).map (·.length)).sum = ss.length := by
  induction ss with
  | nil => rfl
  | cons a r ih => show 1 + (((ones r).map SX.S).map (·.length)).sum = r.length + 1; rw [ih, Nat.add_comm]
theorem ones_len (ss : List Nat) : (ones ss).length = ss.length := List.length_map _
/-- the pick out of some things by a drawn number -/
theorem one_of {α : Type} {xs : List α} {v : Int} (h0 : 0 ≤ v) (h : v < xs.length) : ∃ x, x ∈ xs ∧ atI xs v = some x := by
  have hk : v.toNat < xs.length := by omega
  exact ⟨xs[v.toNat], List.getElem_mem hk, atI_at h0 (List.getElem?_eq_getElem hk)⟩
def letters : List Nat := [97, 98, 99, 100, 101, 102, 103, 104, 105, 106, 107, 108, 109, 110, 111, 112, 113, 114, 115, 116, 117, 118, 119, 120, 121, 122]
theorem letters_is : ("abcdefghijklmnopqrstuvwxyz" : Str) = SX.S letters := by decide +kernel
theorem letters_ok : ∀ c ∈ letters, 97 ≤ c ∧ c ≤ 122 := by decide
/-! ### rows of recipes -/
def Recs (H : Hp) : List Rcp → List V → Prop
  | [], [] => True
  | r :: rs, v :: vs => Rec H r v ∧ Recs H rs vs
  | _, _ => False
theorem Recs.keep {H H' : Hp} (k : Keep H H') : ∀ {rs : List Rcp} {vs : List V}, Recs H rs vs → Recs H' rs vs
  | [], [], _ => trivial
  | _ :: _, _ :: _, h => ⟨h.1.keep k, Recs.keep k h.2⟩
  | [], _ :: _, h => h.elim
  | _ :: _, [], h => h.elim
theorem Recs.len {H : Hp} : ∀ {rs : List Rcp} {vs : List V}, Recs H rs vs → vs.length = rs.length
  | [], [], _ => rfl
  | _ :: _, _ :: _, h => congrArg (· + 1) (Recs.len h.2)
  | [], _ :: _, h => h.elim
  | _ :: _, [], h => h.elim
theorem Recs.snoc {H : Hp} {r : Rcp} {v : V} (hr : Rec H r v) : ∀ {rs : List Rcp} {vs : List V}, Recs H rs vs → Recs H (rs ++ [r]) (vs ++ [v])
  | [], [], _ => ⟨hr, trivial⟩
  | _ :: _, _ :: _, h => ⟨h.1, Recs.snoc hr h.2⟩
  | [], _ :: _, h => h.elim
  | _ :: _, [], h => h.elim
theorem Recs.at {H : Hp} : ∀ {rs : List Rcp} {vs : List V} {i : Nat} {v : V}, Recs H rs vs → vs[i]? = some v → ∃ r, rs[i]? = some r ∧ Rec H r v
  | [], [], i, v, _, e => by simp at e
  | r :: _, _ :: _, 0, v, h, e => ⟨r, rfl, by cases e; exact h.1⟩
  | _ :: _, _ :: _, i + 1, v, h, e => Recs.at (i := i) h.2 (by simpa using e)
  | [], _ :: _, _, _, h, _ => h.elim
  | _ :: _, [], _, _, h, _ => h.elim
theorem Recs.get {H : Hp} {rs : List Rcp} {vs : List V} {i : Nat} (h : Recs H rs vs) (hi : i < rs.length) : ∃ v r, vs[i]? = some v ∧ rs[i]? = some r ∧ Rec H r v := by
  have hv : i < vs.length := by rw [h.len]; exact hi
  obtain ⟨r, e, hr⟩ := h.at (List.getElem?_eq_getElem hv)
  exact ⟨_, r, List.getElem?_eq_getElem hv, e, hr⟩
/-- a comprehension over a range with a step -/
theorem lcC {lo c : Int} {n : Nat} {g : TG} {tt : TT} {te : TE} {vs : List Nat} {σ : L2.St} {H1 : Hp} {D : Addr} {Qd : Hp → Prop} (Pv : Nat → Hp → Prop)
    (h0 : Pv 0 (upd H1 D (.lst [])))
    (hs : ∀ i H, i < n → Pv i H → g (.int (lo + (i : Nat) * c)) (wipe σ vs) H
      fun σ2 H2 => wipe σ2 vs = wipe σ vs ∧ tt σ2 H2
        fun b H3 => if b = true then te σ2 H3
          fun y H4 => ∃ acc, H4 D = some (.lst acc) ∧ acc.length < sizeLine ∧ Pv (i + 1) (upd H4 D (.lst (acc ++ [y])))
        else Pv (i + 1) H3)
    (hd : ∀ H, Pv n H → Qd H) :
    ∃ W : Nat → Nat → Hp → Prop, (∃ m, W 0 m (upd H1 D (.lst []))) ∧
      ∀ i m H, W i m H → ((Itc lo c n).stop i H ∧ Qd H) ∨ ((Itc lo c n).go i H ∧
        ∃ Nx : Hp → Prop, (∀ H', Nx H' → ∃ m', m' < m ∧ W (i + 1) m' H') ∧
          ∀ x H', (Itc lo c n).yld i H x H' → g x (wipe σ vs) H'
            fun σ2 H2 => wipe σ2 vs = wipe σ vs ∧ tt σ2 H2
              fun b H3 => if b = true then te σ2 H3
                fun y H4 => ∃ acc, H4 D = some (.lst acc) ∧ acc.length < sizeLine ∧ Nx (upd H4 D (.lst (acc ++ [y])))
              else Nx H3) := by
  refine ⟨fun i m H => m = n - i ∧ i ≤ n ∧ Pv i H, ⟨n, rfl, Nat.zero_le _, h0⟩, fun i m H w => ?_⟩
  obtain ⟨em, hi, p⟩ := w
  by_cases hlt : i < n
  · refine Or.inr ⟨hlt, Pv (i + 1), fun H' p' => ⟨n - (i + 1), by omega, rfl, hlt, p'⟩, fun x H' y => ?_⟩
    obtain ⟨e1, e2⟩ := y
    rw [e1, e2]
    exact hs i H hlt p
  · have e : i = n := by omega
    rw [e] at p
    exact Or.inl ⟨by show n ≤ i; omega, hd H p⟩
theorem cut_nat (xs : List V) {a b : Nat} (h : a ≤ b) : cutV xs (some (a : Int)) (some (b : Int)) = (xs.drop a).take (b - a) := by
  show (xs.drop (HT.sIx xs.length 0 (some (a : Int)))).take (HT.sIx xs.length xs.length (some (b : Int)) - HT.sIx xs.length 0 (some (a : Int))) = _
  rw [HT.sIx_nat, HT.sIx_nat]
  by_cases ha : a ≤ xs.length
  · rw [Nat.min_eq_left ha]
    by_cases hb : b ≤ xs.length
    · rw [Nat.min_eq_left hb]
    · rw [Nat.min_eq_right (by omega), List.take_of_length_le (by rw [List.length_drop]; omega), List.take_of_length_le (by rw [List.length_drop]; omega)]
  · have e1 : min a xs.length = xs.length := by omega
    rw [e1, List.drop_eq_nil_of_le (Nat.le_refl _), List.drop_eq_nil_of_le (by omega), List.take_nil, List.take_nil]
theorem cut_to (xs : List V) (b : Nat) : cutV xs none (some (b : Int)) = xs.take b := by
  show (xs.drop (HT.sIx xs.length 0 none)).take (HT.sIx xs.length xs.length (some (b : Int)) - HT.sIx xs.length 0 none) = _
  rw [HT.sIx_none, HT.sIx_nat, List.drop_zero, Nat.sub_zero]
  by_cases hb : b ≤ xs.length
  · rw [Nat.min_eq_left hb]
  · rw [Nat.min_eq_right (by omega), List.take_of_length_le (Nat.le_refl _), List.take_of_length_le (by omega)]
/-! ### any things as data -/
inductive Th where
  | non
  | bl (b : Bool)
  | int (i : Int)
  | str (s : List Nat)
  | tup (l : List Th)
  | lst (l : List Th)
  | dct
mutual
/-- the value stands for the thing in H -/
def Data (H : Hp) : Th → V → Prop
  | .non, v => v = .non
  | .bl b, v => v = .bl b
  | .int i, v => v = .int i
  | .str s, v => v = .str (SX.S s)
  | .tup l, v => ∃ p xs, v = .ref p ∧ H p = some (.tup xs) ∧ DataL H l xs
  | .lst l, v => ∃ p xs, v = .ref p ∧ H p = some (.lst xs) ∧ DataL H l xs
  | .dct, v => ∃ p kvs, v = .ref p ∧ H p = some (.dK kvs)
def DataL (H : Hp) : List Th → List V → Prop
  | [], xs => xs = []
  | t :: l, xs => ∃ x r, xs = x :: r ∧ Data H t x ∧ DataL H l r
end
mutual
theorem Data.same {H H' : Hp} (s : Same H H') : ∀ {t : Th} {v : V}, Data H t v → Data H' t v
  | .non, _, h => h
  | .bl _, _, h => h
  | .int _, _, h => h
  | .str _, _, h => h
  | .tup _, _, ⟨p, xs, e, hp, hl⟩ => ⟨p, xs, e, s _ _ hp, DataL.same s hl⟩
  | .lst _, _, ⟨p, xs, e, hp, hl⟩ => ⟨p, xs, e, s _ _ hp, DataL.same s hl⟩
  | .dct, _, ⟨p, kvs, e, hp⟩ => ⟨p, kvs, e, s _ _ hp⟩
theorem DataL.same {H H' : Hp} (s : Same H H') : ∀ {l : List Th} {xs : List V}, DataL H l xs → DataL H' l xs
  | [], _, h => h
  | _ :: _, _, ⟨x, r, e, h1, h2⟩ => ⟨x, r, e, Data.same s h1, DataL.same s h2⟩
end
theorem DataL.len {H : Hp} : ∀ {l : List Th} {xs : List V}, DataL H l xs → xs.length = l.length
  | [], _, h => by rw [show _ = [] from h]; rfl
  | _ :: _, _, ⟨x, r, e, _, h2⟩ => by rw [e, List.length_cons, DataL.len h2]; rfl
theorem DataL.at {H : Hp} : ∀ {l : List Th} {xs : List V} {i : Nat} {v : V}, DataL H l xs → xs[i]? = some v → ∃ t, l[i]? = some t ∧ Data H t v
  | [], _, i, v, h, e => by rw [show _ = [] from h] at e; simp at e
  | t :: _, _, 0, v, ⟨x, r, e1, h1, _⟩, e => by subst e1; cases e; exact ⟨t, rfl, h1⟩
  | _ :: _, _, i + 1, v, ⟨x, r, e1, _, h2⟩, e => by subst e1; exact DataL.at (i := i) h2 (by simpa using e)
theorem DataL.get {H : Hp} {l : List Th} {xs : List V} {i : Nat} {t : Th} (h : DataL H l xs) (e : l[i]? = some t) : ∃ v, xs[i]? = some v ∧ Data H t v := by
  have hi : i < xs.length := by
    rw [h.len]
    exact (List.getElem?_eq_some_iff.mp e).1
  obtain ⟨t', e', hd⟩ := h.at (List.getElem?_eq_getElem hi)
  rw [e] at e'
  cases e'
  exact ⟨_, List.getElem?_eq_getElem hi, hd⟩
theorem DataL.drop {H : Hp} : ∀ {l : List Th} {xs : List V} (n : Nat), DataL H l xs → DataL H (l.drop n) (xs.drop n)
  | _, _, 0, h => h
  | [], _, n + 1, h => by rw [show _ = [] from h]; exact rfl
  | _ :: _, _, n + 1, ⟨x, r, e, _, h2⟩ => by subst e; exact DataL.drop n h2
theorem DataL.take {H : Hp} : ∀ {l : List Th} {xs : List V} (n : Nat), DataL H l xs → DataL H (l.take n) (xs.take n)
  | _, _, 0, _ => rfl
  | [], _, n + 1, h => by rw [show _ = [] from h]; exact rfl
  | _ :: _, _, n + 1, ⟨x, r, e, h1, h2⟩ => by subst e; exact ⟨x, _, rfl, h1, DataL.take n h2⟩
theorem DataL.snoc {H : Hp} {t : Th} {v : V} (h : Data H t v) : ∀ {l : List Th} {xs : List V}, DataL H l xs → DataL H (l ++ [t]) (xs ++ [v])
  | [], _, e => by rw [show _ = [] from e]; exact ⟨v, [], rfl, h, rfl⟩
  | _ :: _, _, ⟨x, r, e, h1, h2⟩ => by subst e; exact ⟨x, _, rfl, h1, DataL.snoc h h2⟩
mutual
/-- without dicts -/
def Th.flat : Th → Bool
  | .dct => false
  | .tup l => Th.flatL l
  | .lst l => Th.flatL l
  | _ => true
def Th.flatL : List Th → Bool
  | [] => true
  | t :: l => t.flat && Th.flatL l
end
mutual
def Th.py : Th → PyData
  | .non => .none
  | .bl b => .bool b
  | .int i => .int i
  | .str s => .str (SX.S s)
  | .tup l => .tuple (Th.pyL l)
  | .lst l => .list (Th.pyL l)
  | .dct => .none
def Th.pyL : List Th → List PyData
  | [] => []
  | t :: l => t.py :: Th.pyL l
end
mutual
theorem Data.dp {K : PySem.W.Frag} {H : Hp} : ∀ {t : Th} {v : V}, t.flat = true → Data H t v → Dp K H v t.py
  | .non, _, _, h => by rw [show _ = V.non from h]; exact .non
  | .bl _, _, _, h => by rw [show _ = V.bl _ from h]; exact .bl _
  | .int _, _, _, h => by rw [show _ = V.int _ from h]; exact .int _
  | .str _, _, _, h => by rw [show _ = V.str _ from h]; exact .str _
  | .tup l, _, f, ⟨p, xs, e, hp, hl⟩ => by rw [e]; exact .tup (SqT.of hp) (DataL.dp f hl)
  | .lst l, _, f, ⟨p, xs, e, hp, hl⟩ => by rw [e]; exact .lst (SqL.of hp) (DataL.dp f hl)
theorem DataL.dp {K : PySem.W.Frag} {H : Hp} : ∀ {l : List Th} {xs : List V}, Th.flatL l = true → DataL H l xs → DpAll K H xs (Th.pyL l)
  | [], _, _, h => by rw [show _ = [] from h]; exact .nil
  | t :: l, _, f, ⟨x, r, e, h1, h2⟩ => by
    have f' : t.flat = true ∧ Th.flatL l = true := by
      have : (t.flat && Th.flatL l) = true := f
      exact Bool.and_eq_true_iff.mp this
    rw [e]
    exact .cons (Data.dp f'.1 h1) (DataL.dp f'.2 h2)
end
/-! ### what is a name, a recipe -/
def nmOk (s : List Nat) : Bool := decide (1 ≤ s.length) && decide (s.length ≤ 8) && s.all fun c => decide (97 ≤ c) && decide (c ≤ 122)
theorem nmOk_iff {s : List Nat} : nmOk s = true ↔ Nm s := by
  unfold nmOk Nm
  simp only [Bool.and_eq_true, decide_eq_true_eq, List.all_eq_true]
  exact ⟨fun ⟨⟨a, b⟩, c⟩ => ⟨a, b, c⟩, fun ⟨a, b, c⟩ => ⟨⟨a, b⟩, c⟩⟩
def Th.isNm : Th → Bool
  | .str s => nmOk s
  | _ => false
def Th.areNms : Th → Bool
  | .tup l => decide (1 ≤ l.length) && decide (l.length ≤ 9) && l.all Th.isNm
  | _ => false
def Th.isInt : Th → Bool
  | .int _ => true
  | _ => false
def w_number : List Nat := [110, 117, 109, 98, 101, 114]
def w_read : List Nat := [114, 101, 97, 100]
def w_pick : List Nat := [112, 105, 99, 107]
def w_choose : List Nat := [99, 104, 111, 111, 115, 101]
def w_plus : List Nat := [112, 108, 117, 115]
def w_minus : List Nat := [109, 105, 110, 117, 115]
def w_times : List Nat := [116, 105, 109, 101, 115]
def w_most : List Nat := [109, 111, 115, 116]
def twos : List (List Nat) := [w_plus, w_minus, w_times, w_most]
/-- the parts of a thing that has a recipe's form -/
def formParts (k : List Nat) (l : List Th) : Option (List Th) :=
  if k = w_number then (if l.length = 1 ∧ (l.headD .non).isInt = true then some [] else none)
  else if k = w_read then (if l.length = 1 ∧ (l.headD .non).isNm = true then some [] else none)
  else if k ∈ twos then (if l.length = 2 then some l else none)
  else if k = w_pick then (if l.length = 3 then some l else none)
  else if k = w_choose then (if l.length = 2 ∧ (l.getD 1 .non).areNms = true then some (l.take 1) else none)
  else none
def Th.parts : Th → Option (List Th)
  | .tup (.str k :: l) => formParts k l
  | _ => none
/-- all well formed, n deep at most -/
def Th.okay : Nat → Th → Bool
  | 0, _ => false
  | n + 1, t => match t.parts with
    | none => false
    | some ps => ps.all (Th.okay n)
def Th.count : Nat → Th → Nat
  | 0, _ => 1
  | n + 1, t => match t.parts with
    | none => 1
    | some ps => 1 + (ps.map (Th.count n)).sum
def Th.isRcp (t : Th) : Bool := t.okay 8 && decide (t.count 8 ≤ 100)
theorem count_pos : ∀ (n : Nat) (t : Th), 1 ≤ t.count n
  | 0, _ => Nat.le_refl _
  | n + 1, t => by
    unfold Th.count
    cases t.parts with
    | none => exact Nat.le_refl _
    | some ps => exact Nat.le_add_right _ _
theorem parts_tup {t : Th} {ps : List Th} (h : t.parts = some ps) : ∃ k l, t = .tup (.str k :: l) := by
  unfold Th.parts at h
  split at h
  · exact ⟨_, _, rfl⟩
  · cases h
/-- what the walk may meet: texts of ASCII signs, not too long; names without dicts -/
def tameS (s : List Nat) : Bool := decide (s.length ≤ 1000000) && s.all fun c => decide (c < 128)
def namesTame : List Th → Bool
  | [.str k, _, .tup m] => !decide (k = w_choose) || (Th.flatL m && SeqAt.shaped (.list (Th.pyL m)))
  | _ => true
mutual
def Th.tame : Th → Bool
  | .str s => tameS s
  | .tup l => Th.tameL l && decide (l.length ≤ 1000000) && namesTame l
  | _ => true
def Th.tameL : List Th → Bool
  | [] => true
  | t :: l => t.tame && Th.tameL l
end
theorem tameL_mem : ∀ {l : List Th}, Th.tameL l = true → ∀ t ∈ l, t.tame = true
  | [], _, t, h => by cases h
  | a :: l, f, t, h => by
    have f' : (a.tame && Th.tameL l) = true := f
    rw [Bool.and_eq_true] at f'
    rcases List.mem_cons.mp h with h | h
    · rw [h]; exact f'.1
    · exact tameL_mem f'.2 t h
theorem flatL_mem : ∀ {l : List Th}, Th.flatL l = true → ∀ t ∈ l, t.flat = true
  | [], _, t, h => by cases h
  | a :: l, f, t, h => by
    have f' : (a.flat && Th.flatL l) = true := f
    rw [Bool.and_eq_true] at f'
    rcases List.mem_cons.mp h with h | h
    · rw [h]; exact f'.1
    · exact flatL_mem f'.2 t h
theorem flatL_filter (p : Th → Bool) : ∀ {l : List Th}, Th.flatL l = true → Th.flatL (l.filter p) = true
  | [], _ => rfl
  | a :: l, f => by
    have f' : (a.flat && Th.flatL l) = true := f
    rw [Bool.and_eq_true] at f'
    rw [List.filter_cons]
    split
    · show (a.flat && Th.flatL (l.filter p)) = true
      rw [f'.1, flatL_filter p f'.2]; rfl
    · exact flatL_filter p f'.2
theorem shaped_parts {ds : List PyData} : SeqAt.shaped (.list ds) = true ↔ PyData.canLayAll0 ds = true ∧ PyData.depthAll ds + 1 ≤ 64 := by
  show (PyData.canLayAll0 ds && decide (PyData.depthAll ds + 1 ≤ 64)) = true ↔ _
  rw [Bool.and_eq_true, decide_eq_true_eq]
theorem py_filter (p : Th → Bool) : ∀ (l : List Th), PyData.canLayAll0 (Th.pyL l) = true → PyData.canLayAll0 (Th.pyL (l.filter p)) = true ∧ PyData.depthAll (Th.pyL (l.filter p)) ≤ PyData.depthAll (Th.pyL l)
  | [], _ => ⟨rfl, Nat.le_refl _⟩
  | a :: l, f => by
    have f' : (a.py.canLay0 && PyData.canLayAll0 (Th.pyL l)) = true := f
    rw [Bool.and_eq_true] at f'
    have ih := py_filter p l f'.2
    rw [List.filter_cons]
    split
    · refine ⟨?_, ?_⟩
      · show (a.py.canLay0 && PyData.canLayAll0 (Th.pyL (l.filter p))) = true
        rw [f'.1, ih.1]; rfl
      · show max a.py.depth (PyData.depthAll (Th.pyL (l.filter p))) ≤ max a.py.depth (PyData.depthAll (Th.pyL l))
        omega
    · refine ⟨ih.1, ?_⟩
      show _ ≤ max a.py.depth (PyData.depthAll (Th.pyL l))
      omega
theorem shaped_filter (p : Th → Bool) {l : List Th} (h : SeqAt.shaped (.list (Th.pyL l)) = true) : SeqAt.shaped (.list (Th.pyL (l.filter p))) = true := by
  rw [shaped_parts] at h ⊢
  have := py_filter p l h.1
  exact ⟨this.1, by omega⟩
def Th.tyName : Th → String
  | .non => "NoneType" | .bl _ => "bool" | .int _ => "int" | .str _ => "str" | .tup _ => "tuple" | .lst _ => "list" | .dct => "dict"
theorem Data.ty {K : PySem.W.Frag} {H : Hp} : ∀ {t : Th} {v : V}, Data H t v → TyX K H v (.type t.tyName)
  | .non, _, h => by rw [show _ = V.non from h]; exact .base .non
  | .bl _, _, h => by rw [show _ = V.bl _ from h]; exact .base (.bl _)
  | .int _, _, h => by rw [show _ = V.int _ from h]; exact .base (.int _)
  | .str _, _, h => by rw [show _ = V.str _ from h]; exact .base (.str _)
  | .tup l, _, ⟨p, xs, e, hp, hl⟩ => by rw [e]; exact .base (.tup hp)
  | .lst l, _, ⟨p, xs, e, hp, hl⟩ => by rw [e]; exact .base (.lst hp)
  | .dct, _, ⟨p, kvs, e, hp⟩ => by rw [e]; exact .base (.dK hp)
def Th.isTup : Th → Bool
  | .tup _ => true
  | _ => false
def Th.isStr : Th → Bool
  | .str _ => true
  | _ => false
def Th.isBl : Th → Bool
  | .bl _ => true
  | _ => false
def Th.isIntB : Th → Bool
  | .bl _ => true
  | .int _ => true
  | _ => false
theorem kit_tup {K : PySem.W.Frag} : ∀ t : Th, PySem.W.kitOne K (.type t.tyName) (.type "tuple") = some t.isTup
  | .non => kit_ty (show kitB "NoneType" "tuple" = some false by decide +kernel)
  | .bl _ => kit_ty (show kitB "bool" "tuple" = some false by decide +kernel)
  | .int _ => kit_ty (show kitB "int" "tuple" = some false by decide +kernel)
  | .str _ => kit_ty (show kitB "str" "tuple" = some false by decide +kernel)
  | .tup _ => kit_ty (show kitB "tuple" "tuple" = some true by decide +kernel)
  | .lst _ => kit_ty (show kitB "list" "tuple" = some false by decide +kernel)
  | .dct => kit_ty (show kitB "dict" "tuple" = some false by decide +kernel)
theorem kit_str {K : PySem.W.Frag} : ∀ t : Th, PySem.W.kitOne K (.type t.tyName) (.type "str") = some t.isStr
  | .non => kit_ty (show kitB "NoneType" "str" = some false by decide +kernel)
  | .bl _ => kit_ty (show kitB "bool" "str" = some false by decide +kernel)
  | .int _ => kit_ty (show kitB "int" "str" = some false by decide +kernel)
  | .str _ => kit_ty (show kitB "str" "str" = some true by decide +kernel)
  | .tup _ => kit_ty (show kitB "tuple" "str" = some false by decide +kernel)
  | .lst _ => kit_ty (show kitB "list" "str" = some false by decide +kernel)
  | .dct => kit_ty (show kitB "dict" "str" = some false by decide +kernel)
theorem kit_int {K : PySem.W.Frag} : ∀ t : Th, PySem.W.kitOne K (.type t.tyName) (.type "int") = some t.isIntB
  | .non => kit_ty (show kitB "NoneType" "int" = some false by decide +kernel)
  | .bl _ => kit_ty (show kitB "bool" "int" = some true by decide +kernel)
  | .int _ => kit_ty (show kitB "int" "int" = some true by decide +kernel)
  | .str _ => kit_ty (show kitB "str" "int" = some false by decide +kernel)
  | .tup _ => kit_ty (show kitB "tuple" "int" = some false by decide +kernel)
  | .lst _ => kit_ty (show kitB "list" "int" = some false by decide +kernel)
  | .dct => kit_ty (show kitB "dict" "int" = some false by decide +kernel)
theorem kit_bl {K : PySem.W.Frag} : ∀ t : Th, PySem.W.kitOne K (.type t.tyName) (.type "bool") = some t.isBl
  | .non => kit_ty (show kitB "NoneType" "bool" = some false by decide +kernel)
  | .bl _ => kit_ty (show kitB "bool" "bool" = some true by decide +kernel)
  | .int _ => kit_ty (show kitB "int" "bool" = some false by decide +kernel)
  | .str _ => kit_ty (show kitB "str" "bool" = some false by decide +kernel)
  | .tup _ => kit_ty (show kitB "tuple" "bool" = some false by decide +kernel)
  | .lst _ => kit_ty (show kitB "list" "bool" = some false by decide +kernel)
  | .dct => kit_ty (show kitB "dict" "bool" = some false by decide +kernel)
theorem isInt_is (t : Th) : (t.isIntB && !t.isBl) = t.isInt := by cases t <;> rfl
/-- a comprehension over a text -/
theorem lcS {z : Str} {g : TG} {tt : TT} {te : TE} {vs : List Nat} {σ : L2.St} {H1 : Hp} {D : Addr} {Qd : Hp → Prop} (Pv : Nat → Hp → Prop)
    (h0 : Pv 0 (upd H1 D (.lst [])))
    (hs : ∀ i c H, z.cps[i]? = some c → Pv i H → g (.str ⟨#[c]⟩) (wipe σ vs) H
      fun σ2 H2 => wipe σ2 vs = wipe σ vs ∧ tt σ2 H2
        fun b H3 => if b = true then te σ2 H3
          fun y H4 => ∃ acc, H4 D = some (.lst acc) ∧ acc.length < sizeLine ∧ Pv (i + 1) (upd H4 D (.lst (acc ++ [y])))
        else Pv (i + 1) H3)
    (hd : ∀ H, Pv z.cps.size H → Qd H) :
    ∃ W : Nat → Nat → Hp → Prop, (∃ m, W 0 m (upd H1 D (.lst []))) ∧
      ∀ i m H, W i m H → ((Its z).stop i H ∧ Qd H) ∨ ((Its z).go i H ∧
        ∃ Nx : Hp → Prop, (∀ H', Nx H' → ∃ m', m' < m ∧ W (i + 1) m' H') ∧
          ∀ x H', (Its z).yld i H x H' → g x (wipe σ vs) H'
            fun σ2 H2 => wipe σ2 vs = wipe σ vs ∧ tt σ2 H2
              fun b H3 => if b = true then te σ2 H3
                fun y H4 => ∃ acc, H4 D = some (.lst acc) ∧ acc.length < sizeLine ∧ Nx (upd H4 D (.lst (acc ++ [y])))
              else Nx H3) := by
  refine ⟨fun i m H => m = z.cps.size - i ∧ i ≤ z.cps.size ∧ Pv i H, ⟨z.cps.size, rfl, Nat.zero_le _, h0⟩, fun i m H w => ?_⟩
  obtain ⟨em, hi, p⟩ := w
  by_cases hlt : i < z.cps.size
  · refine Or.inr ⟨hlt, Pv (i + 1), fun H' p' => ⟨z.cps.size - (i + 1), by omega, rfl, hlt, p'⟩, fun x H' y => ?_⟩
    obtain ⟨e1, c, e2, e3⟩ := y
    rw [e1, e3]
    exact hs i c H e2 p
  · have e : i = z.cps.size := by omega
    rw [e] at p
    exact Or.inl ⟨by show z.cps.size ≤ i; omega, hd H p⟩
/-- a list of data against a new empty one -/
theorem eqv_nil (l : List Th) : PyData.eqv (.list (Th.pyL l)) (.list []) = l.isEmpty := by cases l <;> rfl
theorem kw {k : List Nat} {w : List Nat} {lit : Str} (h : lit = SX.S w) : V.str (SX.S k) = V.str lit ↔ k = w := by
  rw [h]
  exact ⟨fun e => SX.S_inj (by cases e; rfl), fun e => by rw [e]⟩
theorem q_number : ("number" : Str) = SX.S w_number := by decide +kernel
theorem q_read : ("read" : Str) = SX.S w_read := by decide +kernel
theorem q_pick : ("pick" : Str) = SX.S w_pick := by decide +kernel
theorem q_choose : ("choose" : Str) = SX.S w_choose := by decide +kernel
theorem q_plus : ("plus" : Str) = SX.S w_plus := by decide +kernel
theorem q_minus : ("minus" : Str) = SX.S w_minus := by decide +kernel
theorem q_times : ("times" : Str) = SX.S w_times := by decide +kernel
theorem q_most : ("most" : Str) = SX.S w_most := by decide +kernel
theorem in_twos (k : List Nat) : inV (.str (SX.S k)) [.str "plus", .str "minus", .str "times", .str "most"] = decide (k ∈ twos) := by
  rw [q_plus, q_minus, q_times, q_most]
  have e : ∀ w : List Nat, (SX.S w == SX.S k) = decide (k = w) := fun w => by
    rw [SX.S_beq_eq]
    exact decide_eq_decide.mpr ⟨Eq.symm, Eq.symm⟩
  show ((SX.S w_plus == SX.S k) || ((SX.S w_minus == SX.S k) || ((SX.S w_times == SX.S k) || ((SX.S w_most == SX.S k) || false)))) = _
  rw [e, e, e, e]
  unfold twos
  simp only [List.mem_cons, List.not_mem_nil, or_false]
  simp [Bool.decide_or]
/-! ### names and recipes told -/
structure RTxt (K : PySem.W.Frag) (mg : Str → Option Value) (tw : Addr) : Prop where
  LETTERS : ∃ t, mg "LETTERS" = some (.str "abcdefghijklmnopqrstuvwxyz" t)
  LONGEST : ∃ t, mg "LONGEST" = some (.int 8 t)
  DEEPEST : ∃ t, mg "DEEPEST" = some (.int 8 t)
  MOST : ∃ t, mg "MOST" = some (.int 100 t)
  MOST_NAMES : ∃ t, mg "MOST_NAMES" = some (.int 9 t)
  TWOS : mg "TWOS" = some (.ref tw)
  twos : ∀ H, SqT K H tw [.str "plus", .str "minus", .str "times", .str "most"]
def spIsWhole : Sp := fun vs H Q _ => ∃ (v : V) (t : Th), vs = [v] ∧ Data H t v ∧ Q (.bl t.isInt) H
def spIsName : Sp := fun vs H Q _ => ∃ (v : V) (t : Th), vs = [v] ∧ Data H t v ∧ t.tame = true ∧ ∀ H', Same H H' → Q (.bl t.isNm) H'
def spAreNames : Sp := fun vs H Q _ => ∃ (v : V) (t : Th), vs = [v] ∧ Data H t v ∧ t.tame = true ∧ (∀ m, t = .tup m → Th.flatL m = true ∧ SeqAt.shaped (.list (Th.pyL m)) = true) ∧ ∀ H', Same H H' → Q (.bl t.areNms) H'
theorem letter_in (c : Nat) : decide (c ∈ ("abcdefghijklmnopqrstuvwxyz" : Str).cps.toList) = (decide (97 ≤ c) && decide (c ≤ 122)) := by
  rw [letters_is]
  show decide (c ∈ letters) = _
  rw [← Bool.decide_and]
  refine decide_eq_decide.mpr ⟨fun h => letters_ok c h, fun ⟨h1, h2⟩ => ?_⟩
  have : ∀ d : Nat, d < 26 → (97 + d) ∈ letters := by decide
  have := this (c - 97) (by omega)
  rwa [show 97 + (c - 97) = c by omega] at this
section
variable {P : Program} {w : World} {K : PySem.W.Frag} {mg : Str → Option Value} {base : Heap}
abbrev s_is_whole : Stmt := topS 16
abbrev N_is_whole : List Str := ["thing"]
theorem sc_is_whole : FnScope N_is_whole ["thing"] (defScope s_is_whole) := ⟨rfl, rfl, rfl, by decide +kernel, rfl, by decide +kernel, by decide +kernel⟩

theorem ok_is_whole (T : Txt K mg) (D : IsDef K mg "is_whole" s_is_whole ["thing"]) : Cal P w K mg base CX0 1 "is_whole" ["thing"] spIsWhole := by
  refine D.cal sc_is_whole (fun vs H Q E h => ?_) (fun f cdv A outer s H vs Q E hr h => ?_)
  · obtain ⟨v, t, rfl, _⟩ := h
    rfl
  obtain ⟨v, t, rfl, hv, q⟩ := h
  refine ⟨_, (pss_one (ps_ret (pe_and (pe_callB call_isi (by rfl) T.b_isinstance (by decide +kernel) (pa_cons (pv 0) (pa_cons (pe_bltn (v := .ty "int") (by rfl) T.b_int (by decide +kernel) rfl) pa_nil))) (pe_one (pe_not (pe_callB call_isi (by rfl) T.b_isinstance (by decide +kernel) (pa_cons (pv 0) (pa_cons (pe_bltn (v := .ty "bool") (by rfl) T.b_bool (by decide +kernel) rfl) pa_nil)))))))), ?_⟩
  refine ⟨_, rfl, _, _, _, _, _, rfl, .ty _, hv.ty, kit_int t, _, rfl, ?_⟩
  have e := isInt_is t
  cases h1 : t.isIntB with
  | false =>
    rw [h1, Bool.false_and] at e
    refine iteF ?_
    rw [e]
    exact q
  | true =>
    rw [h1, Bool.true_and] at e
    refine iteT ?_
    refine ⟨_, rfl, _, _, _, _, _, rfl, .ty _, hv.ty, kit_bl t, _, rfl, ?_⟩
    rw [e]
    exact q
abbrev s_is_name : Stmt := topS 17
abbrev N_is_name : List Str := ["thing", "sign"]
theorem sc_is_name : FnScope N_is_name ["thing"] (defScope s_is_name) := ⟨rfl, rfl, rfl, by decide +kernel, rfl, by decide +kernel, by decide +kernel⟩

theorem ok_is_name {tw : Addr} (T : Txt K mg) (R : RTxt K mg tw) (D : IsDef K mg "is_name" s_is_name ["thing"]) : Cal P w K mg base CX0 1 "is_name" ["thing"] spIsName := by
  refine D.cal sc_is_name (fun vs H Q E h => ?_) (fun f cdv A outer s H vs Q E hr h => ?_)
  · obtain ⟨v, t, rfl, _⟩ := h
    rfl
  obtain ⟨v, t, rfl, hv, ht, q⟩ := h
  obtain ⟨_, g_LETTERS⟩ := R.LETTERS
  obtain ⟨_, g_LONGEST⟩ := R.LONGEST
  refine ⟨_, (pss_cons (ps_if (PW.pt (pw_or (pt_not (pt_val (pe_callB call_isi (by rfl) T.b_isinstance (by decide +kernel) (pa_cons (pv 0) (pa_cons (pe_bltn (v := .ty "str") (by rfl) T.b_str (by decide +kernel) rfl) pa_nil))))) (pw_or (pt_cmpR op_lt (pe_callB call_len_str (by rfl) T.b_len PySem.boot_len (pa_cons (pv 0) pa_nil)) pe_int (nomark _)) (pw_or1 (pt_cmpR op_gt (pe_callB call_len_str (by rfl) T.b_len PySem.boot_len (pa_cons (pv 0) pa_nil)) (pe_glob (v := .int _) rfl g_LONGEST ⟨_, rfl⟩) (nomark _))))))
        (pss_one (ps_ret pe_bl))
        pss_nil)
      (pss_one (ps_ret (pe_cmpR (op_eqD hr.units) (pe_lc (own := [("sign", 1)]) (g := gName 1)  (by rfl) sc_is_name.nd  (pi_str (pv 0)) (blkOk_by (own := [("sign", 1)]) (N := N_is_name) (sc := defScope s_is_name) (by decide +kernel)) (fun _ _ _ _ _ => (pg_name (i := 1) sc_is_name.nd rfl (Or.inl rfl))) (fun _ _ _ _ _ => (pts_one (pt_cmpR op_notIn_sign (pv 1) (pe_glob (v := .str _) rfl g_LETTERS ⟨_, rfl⟩) rfl))) (fun _ _ _ _ _ => (pv 1))) (pe_lst pa_nil) (nomark _))))), ?_⟩
  refine ⟨_, rfl, _, _, _, _, _, rfl, .ty _, hv.ty, kit_str t, _, rfl, ?_⟩
  cases t with
  | str z =>
    have hz : z.length ≤ 1000000 := by
      have : (decide (z.length ≤ 1000000) && z.all fun c => decide (c < 128)) = true := ht
      rw [Bool.and_eq_true, decide_eq_true_eq] at this
      exact this.1
    have hc : ∀ c ∈ z, c < 128 := by
      have : (decide (z.length ≤ 1000000) && z.all fun c => decide (c < 128)) = true := ht
      rw [Bool.and_eq_true, List.all_eq_true] at this
      exact fun c h => of_decide_eq_true (this.2 c h)
    have ev : v = .str (SX.S z) := hv
    subst ev
    refine iteF ?_
    have hl : (SX.S z).length ≤ sizeLine := by rw [SX.S_len]; exact le_line (by omega)
    refine ⟨_, rfl, _, rfl, hl, _, _, rfl, rfl, _, rfl, ?_⟩
    by_cases h1 : (((SX.S z).length : Nat) : Int) < 1
    · refine iteY h1 (iteT ?_)
      have e : nmOk z = false := by
        unfold nmOk
        rw [SX.S_len] at h1
        rw [decide_eq_false (show ¬ 1 ≤ z.length by omega)]
        rfl
      have : Q (.bl (nmOk z)) H := q H (Same.refl H)
      rw [e] at this
      exact this
    refine iteN h1 ?_
    refine ⟨_, rfl, _, rfl, hl, _, _, rfl, rfl, _, rfl, ?_⟩
    by_cases h2 : (((SX.S z).length : Nat) : Int) > 8
    · refine iteY h2 ?_
      have e : nmOk z = false := by
        unfold nmOk
        rw [SX.S_len] at h2
        rw [decide_eq_false (show ¬ z.length ≤ 8 by omega), Bool.and_false]
        rfl
      have : Q (.bl (nmOk z)) H := q H (Same.refl H)
      rw [e] at this
      exact this
    refine iteN h2 ?_
    rw [SX.S_len] at h1 h2
    refine ⟨_, rfl, _, rfl, fun L nL => lcS (z := SX.S z) (fun i H' => Same H H' ∧ H' L = some (.lst (txs (ones ((z.take i).filter fun c => !(decide (97 ≤ c) && decide (c ≤ 122)))))))
      ⟨same_new nL _, upd_same⟩ ?_ ?_⟩
    · rintro i c H1 hc1 ⟨hs, hL⟩
      have hci : z[i]? = some c := by
        have : z.toArray[i]? = some c := hc1
        rwa [List.getElem?_toArray] at this
      have e1 : (z.take (i + 1)) = z.take i ++ [c] := by rw [List.take_add_one, hci]; rfl
      refine ⟨rfl, _, rfl, c, _, rfl, rfl, _, rfl, ?_⟩
      rw [letter_in]
      cases hcc : (decide (97 ≤ c) && decide (c ≤ 122)) with
      | true =>
        refine iteF ⟨hs, ?_⟩
        rw [e1, List.filter_append, List.filter_cons_of_neg (by rw [hcc]; decide), List.filter_nil, List.append_nil]
        exact hL
      | false =>
        refine iteT ⟨_, rfl, _, hL, ?_, same_upd hs nL _, ?_⟩
        · rw [txs_len, ones_len]
          exact lt_line (Nat.lt_of_le_of_lt (List.length_filter_le _ _) (by rw [List.length_take]; omega))
        · rw [upd_same, e1, List.filter_append, List.filter_cons_of_pos (by rw [hcc]; rfl), List.filter_nil]
          unfold ones
          rw [List.map_append, txs_app]
          rfl
    · rintro H1 ⟨hs, hL⟩
      have ez : z.take (SX.S z).cps.size = z := List.take_of_length_le (by show z.length ≤ z.toArray.size; simp)
      rw [ez] at hL
      refine ⟨Nat.zero_le _, fun e ne => ?_⟩
      have Le : L ≠ e := ne_of_none hL ne
      have dd : ∀ (H : Hp) (l : List Nat), DpAll K H (txs (ones l)) (l.map fun c => PyData.str (SX.S [c])) := fun H l => by
        induction l with
        | nil => exact .nil
        | cons c l ih => exact .cons (.str _) ih
      have sh : ∀ l : List Nat, (∀ c ∈ l, c < 128) → PyData.canLayAll0 (l.map fun c => PyData.str (SX.S [c])) = true ∧ PyData.depthAll (l.map fun c => PyData.str (SX.S [c])) = 0 := fun l hl => by
        induction l with
        | nil => exact ⟨rfl, rfl⟩
        | cons c l ih =>
          have ih := ih fun d h => hl d (List.mem_cons_of_mem _ h)
          refine ⟨?_, ?_⟩
          · show ((SX.S [c]).cps.all (· < 0x110000) && PyData.canLayAll0 _) = true
            rw [ih.1]
            have := hl c (List.mem_cons_self ..)
            simp
            omega
          · show max 0 _ = 0
            rw [ih.2]
            rfl
      have s1 := sh (z.filter fun c => !(decide (97 ≤ c) && decide (c ≤ 122))) fun c h => hc c (List.mem_filter.mp h).1
      refine ⟨_, _, .lst (SqL.of (by rw [upd_ne Le]; exact hL)) (dd _ _), .lst (SqL.of upd_same) .nil, shaped_parts.mpr ⟨s1.1, by rw [s1.2]; decide⟩, rfl, ?_⟩
      have ef : ∀ l : List Nat, PyData.eqv (.list (l.map fun c => PyData.str (SX.S [c]))) (.list []) = l.isEmpty := fun l => by cases l <;> rfl
      rw [ef]
      have en : nmOk z = (z.filter fun c => !(decide (97 ≤ c) && decide (c ≤ 122))).isEmpty := by
        unfold nmOk
        rw [decide_eq_true (show 1 ≤ z.length by omega), decide_eq_true (show z.length ≤ 8 by omega)]
        show (z.all fun c => decide (97 ≤ c) && decide (c ≤ 122)) = _
        generalize z = l
        induction l with
        | nil => rfl
        | cons c l ih =>
          rw [List.all_cons, List.filter_cons, ih]
          cases (decide (97 ≤ c) && decide (c ≤ 122)) <;> rfl
      rw [← en]
      exact q _ (hs.trans (same_new ne _))
  | _ => exact iteT (q H (Same.refl H))
end
def spWithin (K : PySem.W.Frag) : Sp := fun vs H Q _ => ∃ (v : V) (t : Th), vs = [v] ∧ Data H t v ∧ t.tame = true ∧ (t.parts = none → ∀ H', Same H H' → Q .non H') ∧ (∀ ps, t.parts = some ps → ∀ (H' : Hp) (a : Addr) (xs : List V), Same H H' → H' a = some (.tup xs) → (∀ B, Same B H → Data B t v → DataL B ps xs) → Q (.ref a) H')
theorem data_in {B H : Hp} (s : Same B H) {l : List Th} {p : Addr} {xs : List V} (d : Data B (.tup l) (.ref p)) (hp : H p = some (.tup xs)) : DataL B l xs := by
  obtain ⟨p', xs', e, hp', hl⟩ := d
  cases e
  have z := s _ _ hp'
  rw [hp] at z
  cases z
  exact hl
theorem tup_tame {k : List Nat} {l : List Th} (h : (Th.tup (.str k :: l)).tame = true) : tameS k = true ∧ Th.tameL l = true ∧ l.length ≤ 1000000 ∧ namesTame (.str k :: l) = true := by
  have e : ((tameS k && Th.tameL l) && decide (l.length + 1 ≤ 1000000) && namesTame (.str k :: l)) = true := h
  rw [Bool.and_eq_true, Bool.and_eq_true, Bool.and_eq_true, decide_eq_true_eq] at e
  exact ⟨e.1.1.1, e.1.1.2, by omega, e.2⟩
section
variable {P : Program} {w : World} {K : PySem.W.Frag} {mg : Str → Option Value} {base : Heap}
abbrev s_are_names : Stmt := topS 18
abbrev N_are_names : List Str := ["thing", "name"]
theorem sc_are_names : FnScope N_are_names ["thing"] (defScope s_are_names) := ⟨rfl, rfl, rfl, by decide +kernel, rfl, by decide +kernel, by decide +kernel⟩

theorem ok_are_names {tw : Addr} (T : Txt K mg) (R : RTxt K mg tw) (D : IsDef K mg "are_names" s_are_names ["thing"]) (C_is_name : Cal P w K mg base CX0 1 "is_name" ["thing"] spIsName) : Cal P w K mg base CX0 2 "are_names" ["thing"] spAreNames := by
  refine D.cal sc_are_names (fun vs H Q E h => ?_) (fun f cdv A outer s H vs Q E hr h => ?_)
  · obtain ⟨v, t, rfl, _⟩ := h
    rfl
  obtain ⟨v, t, rfl, hv, ht, hf, q⟩ := h
  obtain ⟨_, g_MOST_NAMES⟩ := R.MOST_NAMES
  refine ⟨_, (pss_cons (ps_if (PW.pt (pw_or (pt_not (pt_val (pe_callB call_isi (by rfl) T.b_isinstance (by decide +kernel) (pa_cons (pv 0) (pa_cons (pe_bltn (v := .ty "tuple") (by rfl) T.b_tuple (by decide +kernel) rfl) pa_nil))))) (pw_or (pt_cmpR op_lt (pe_callB call_len_seq (by rfl) T.b_len PySem.boot_len (pa_cons (pv 0) pa_nil)) pe_int (nomark _)) (pw_or1 (pt_cmpR op_gt (pe_callB call_len_seq (by rfl) T.b_len PySem.boot_len (pa_cons (pv 0) pa_nil)) (pe_glob (v := .int _) rfl g_MOST_NAMES ⟨_, rfl⟩) (nomark _))))))
        (pss_one (ps_ret pe_bl))
        pss_nil)
      (pss_one (ps_ret (pe_cmpR (op_eqD hr.units) (pe_lc (own := [("name", 1)]) (g := gName 1)  (by rfl) sc_are_names.nd  (pi_tup (pv 0)) (blkOk_by (own := [("name", 1)]) (N := N_are_names) (sc := defScope s_are_names) (by decide +kernel)) (fun _ _ _ _ _ => (pg_name (i := 1) sc_are_names.nd rfl (Or.inl rfl))) (fun _ _ _ _ _ => (pts_one (pt_not (pt_val (pe_cal C_is_name (hr.mono (by first | decide | omega)) pass0 (pa_cons (pv 1) pa_nil)))))) (fun _ _ _ _ _ => (pv 1))) (pe_lst pa_nil) (nomark _))))), ?_⟩
  refine ⟨_, rfl, _, _, _, _, _, rfl, .ty _, hv.ty, kit_tup t, _, rfl, ?_⟩
  cases t with
  | tup l =>
    obtain ⟨p, xs, rfl, hp, hl⟩ := hv
    have hxl := hl.len
    have hq := q H (Same.refl H)
    have ea : (Th.tup l).areNms = (decide (1 ≤ l.length) && decide (l.length ≤ 9) && l.all Th.isNm) := rfl
    rw [ea] at hq q
    refine iteF ?_
    refine ⟨_, rfl, p, _, rfl, .inr (SqT.of hp), _, _, rfl, rfl, _, rfl, ?_⟩
    by_cases h1 : ((xs.length : Nat) : Int) < 1
    · refine iteY h1 (iteT ?_)
      rw [decide_eq_false (show ¬ 1 ≤ l.length by omega)] at hq
      exact hq
    refine iteN h1 ?_
    refine ⟨_, rfl, p, _, rfl, .inr (SqT.of hp), _, _, rfl, rfl, _, rfl, ?_⟩
    by_cases h2 : ((xs.length : Nat) : Int) > 9
    · refine iteY h2 ?_
      rw [decide_eq_false (show ¬ l.length ≤ 9 by omega), Bool.and_false] at hq
      exact hq
    refine iteN h2 ?_
    rw [decide_eq_true (show 1 ≤ l.length by omega), decide_eq_true (show l.length ≤ 9 by omega)] at q
    have htl : Th.tameL l = true := by
      have e : (Th.tameL l && decide (l.length ≤ 1000000) && namesTame l) = true := ht
      rw [Bool.and_eq_true, Bool.and_eq_true] at e
      exact e.1.1
    refine ⟨_, rfl, p, rfl, ⟨_, SqT.of hp⟩, fun L nL => lc_tup (K := K) (a := p) (xs := xs) (fun i H' => Same H H' ∧ ∃ ys, H' L = some (.lst ys) ∧ DataL H ((l.take i).filter fun t => !t.isNm) ys)
      ⟨same_new nL _, [], upd_same, rfl⟩ (fun i H' _ h => SqT.of (h.1 _ _ hp)) ?_ ?_⟩
    · rintro i x H1 hx ⟨hs, ys, hL, hy⟩
      obtain ⟨t, hti, hd⟩ := hl.at hx
      have hm : t ∈ l := List.mem_of_getElem? hti
      have e1 : (l.take (i + 1)) = l.take i ++ [t] := by rw [List.take_add_one, hti]; rfl
      refine ⟨rfl, _, rfl, x, t, rfl, hd.same hs, tameL_mem htl t hm, fun H2 s2 => ⟨_, rfl, ?_⟩⟩
      have hs2 := hs.trans s2
      cases htt : t.isNm with
      | true =>
        refine iteF ⟨hs2, ys, s2 _ _ hL, ?_⟩
        rw [e1, List.filter_append, List.filter_cons_of_neg (by rw [htt]; decide), List.filter_nil, List.append_nil]
        exact hy
      | false =>
        have hyl : ys.length ≤ 9 := by
          rw [hy.len]
          have := List.length_filter_le (fun t : Th => !t.isNm) (l.take i)
          have := List.length_take_le i l
          rw [List.length_take] at *
          omega
        refine iteT ⟨_, rfl, ys, s2 _ _ hL, lt_line (by omega), same_upd hs2 nL _, _, upd_same, ?_⟩
        rw [e1, List.filter_append, List.filter_cons_of_pos (by rw [htt]; rfl), List.filter_nil]
        exact hy.snoc hd
    · rintro H1 ⟨hs, ys, hL, hy⟩
      rw [hxl, List.take_length] at hy
      refine ⟨Nat.zero_le _, fun e ne => ?_⟩
      have Le : L ≠ e := ne_of_none hL ne
      have hff := hf l rfl
      refine ⟨_, _, .lst (SqL.of (by rw [upd_ne Le]; exact hL)) (DataL.dp (flatL_filter (fun t => !t.isNm) hff.1) (hy.same (hs.trans (same_new ne _)))), .lst (SqL.of upd_same) .nil, shaped_filter (fun t => !t.isNm) hff.2, rfl, ?_⟩
      rw [eqv_nil]
      have en : (l.filter fun t => !t.isNm).isEmpty = l.all Th.isNm := by
        generalize l = m
        induction m with
        | nil => rfl
        | cons c m ih =>
          rw [List.all_cons, List.filter_cons, ← ih]
          cases c.isNm <;> rfl
      rw [en]
      exact q _ (hs.trans (same_new ne _))
  | _ => exact iteT (q H (Same.refl H))
abbrev s_within : Stmt := topS 19
abbrev N_within : List Str := ["thing", "kind"]
theorem sc_within : FnScope N_within ["thing"] (defScope s_within) := ⟨rfl, rfl, rfl, by decide +kernel, rfl, by decide +kernel, by decide +kernel⟩

theorem cut_tail (a b : V) (r : List V) : cutV (a :: b :: r) (some 1) none = b :: r := by
  show ((a :: b :: r).drop (HT.sIx (a :: b :: r).length 0 (some ((1 : Nat) : Int)))).take (HT.sIx (a :: b :: r).length (a :: b :: r).length none - HT.sIx (a :: b :: r).length 0 (some ((1 : Nat) : Int))) = _
  rw [HT.sIx_nat, HT.sIx_none, Nat.min_eq_left (by simp), List.drop_one, List.tail_cons, List.take_of_length_le (by simp)]
theorem slice_ne (a b : V) (r : List V) : ¬ (HT.sIx (a :: b :: r).length 0 (some 1) = 0 ∧ HT.sIx (a :: b :: r).length (a :: b :: r).length none = (a :: b :: r).length) := fun z => by
  have z1 : HT.sIx (a :: b :: r).length 0 (some ((1 : Nat) : Int)) = 0 := z.1
  rw [HT.sIx_nat, Nat.min_eq_left (by simp)] at z1
  cases z1
theorem cut_one (a b c : V) : cutV [a, b, c] (some 1) (some 2) = [b] := rfl
theorem iteInY {k : List Nat} {A B : Prop} (h : k ∈ twos) (a : A) : if inV (.str (SX.S k)) [.str "plus", .str "minus", .str "times", .str "most"] = true then A else B := by
  rw [in_twos, if_pos (decide_eq_true h)]; exact a
theorem iteInN {k : List Nat} {A B : Prop} (h : ¬ k ∈ twos) (b : B) : if inV (.str (SX.S k)) [.str "plus", .str "minus", .str "times", .str "most"] = true then A else B := by
  rw [in_twos, if_neg (fun z => h (of_decide_eq_true z))]; exact b
theorem ok_within {tw : Addr} (T : Txt K mg) (R : RTxt K mg tw) (D : IsDef K mg "within" s_within ["thing"]) (C_is_whole : Cal P w K mg base CX0 1 "is_whole" ["thing"] spIsWhole) (C_is_name : Cal P w K mg base CX0 1 "is_name" ["thing"] spIsName)
    (C_are_names : Cal P w K mg base CX0 2 "are_names" ["thing"] spAreNames) : Cal P w K mg base CX0 3 "within" ["thing"] (spWithin K) := by
  refine D.cal sc_within (fun vs H Q E h => ?_) (fun f cdv A outer s H vs Q E hr h => ?_)
  · obtain ⟨v, t, rfl, _⟩ := h
    rfl
  obtain ⟨v, t, rfl, hv, ht, qn, qs⟩ := h
  have g_TWOS := R.TWOS
  refine ⟨_, (pss_cons (ps_if (PW.pt (pw_or (pt_not (pt_val (pe_callB call_isi (by rfl) T.b_isinstance (by decide +kernel) (pa_cons (pv 0) (pa_cons (pe_bltn (v := .ty "tuple") (by rfl) T.b_tuple (by decide +kernel) rfl) pa_nil))))) (pw_or (pt_cmpR op_lt (pe_callB call_len_seq (by rfl) T.b_len PySem.boot_len (pa_cons (pv 0) pa_nil)) pe_int (nomark _)) (pw_or1 (pt_not (pt_val (pe_callB call_isi (by rfl) T.b_isinstance (by decide +kernel) (pa_cons (pe_ix (r := rIxT K) ix_tup (pv 0) pe_int (fun _ _ => rfl)) (pa_cons (pe_bltn (v := .ty "str") (by rfl) T.b_str (by decide +kernel) rfl) pa_nil)))))))))
        (pss_one (ps_ret pe_non))
        pss_nil)
      (pss_cons (ps_set (i := 1) sc_within.nd rfl (Or.inl rfl) (pe_ix (r := rIxT K) ix_tup (pv 0) pe_int (fun _ _ => rfl)))
      (pss_cons (ps_if (PW.pt (pw_and (pt_cmpR op_eq (pv 1) pe_str (nomark _)) (pw_and (pt_cmpR op_eq (pe_callB call_len_seq (by rfl) T.b_len PySem.boot_len (pa_cons (pv 0) pa_nil)) pe_int (nomark _)) (pw_and1 (pt_val (pe_cal C_is_whole (hr.mono (by first | decide | omega)) pass0 (pa_cons (pe_ix (r := rIxT K) ix_tup (pv 0) pe_int (fun _ _ => rfl)) pa_nil)))))))
        (pss_one (ps_ret (pe_tup pa_nil)))
        pss_nil)
      (pss_cons (ps_if (PW.pt (pw_and (pt_cmpR op_eq (pv 1) pe_str (nomark _)) (pw_and (pt_cmpR op_eq (pe_callB call_len_seq (by rfl) T.b_len PySem.boot_len (pa_cons (pv 0) pa_nil)) pe_int (nomark _)) (pw_and1 (pt_val (pe_cal C_is_name (hr.mono (by first | decide | omega)) pass0 (pa_cons (pe_ix (r := rIxT K) ix_tup (pv 0) pe_int (fun _ _ => rfl)) pa_nil)))))))
        (pss_one (ps_ret (pe_tup pa_nil)))
        pss_nil)
      (pss_cons (ps_if (PW.pt (pw_or (PW.pt (pw_and (pt_cmpR op_in_seq (pv 1) (pe_glob (v := .ref _) rfl g_TWOS rfl) (by with_unfolding_all rfl)) (pw_and1 (pt_cmpR op_eq (pe_callB call_len_seq (by rfl) T.b_len PySem.boot_len (pa_cons (pv 0) pa_nil)) pe_int (nomark _))))) (pw_or1 (PW.pt (pw_and (pt_cmpR op_eq (pv 1) pe_str (nomark _)) (pw_and1 (pt_cmpR op_eq (pe_callB call_len_seq (by rfl) T.b_len PySem.boot_len (pa_cons (pv 0) pa_nil)) pe_int (nomark _))))))))
        (pss_one (ps_ret (pe_slice (r := rSlT K) sl_tup (pv 0) (po_some pe_int) po_none)))
        pss_nil)
      (pss_cons (ps_if (PW.pt (pw_and (pt_cmpR op_eq (pv 1) pe_str (nomark _)) (pw_and (pt_cmpR op_eq (pe_callB call_len_seq (by rfl) T.b_len PySem.boot_len (pa_cons (pv 0) pa_nil)) pe_int (nomark _)) (pw_and1 (pt_val (pe_cal C_are_names (hr.mono (by first | decide | omega)) pass0 (pa_cons (pe_ix (r := rIxT K) ix_tup (pv 0) pe_int (fun _ _ => rfl)) pa_nil)))))))
        (pss_one (ps_ret (pe_slice (r := rSlT K) sl_tup (pv 0) (po_some pe_int) (po_some pe_int))))
        pss_nil)
      (pss_one (ps_ret pe_non)))))))), ?_⟩
  refine ⟨_, rfl, _, _, _, _, _, rfl, .ty _, hv.ty, kit_tup t, _, rfl, ?_⟩
  cases t with
  | tup l0 =>
    obtain ⟨p, xs0, rfl, hp, hl0⟩ := hv
    refine iteF ?_
    refine ⟨_, rfl, p, _, rfl, .inr (SqT.of hp), _, _, rfl, rfl, _, rfl, ?_⟩
    cases l0 with
    | nil =>
      rw [show xs0 = [] from hl0]
      exact iteY (by decide) (iteT (qn rfl H (Same.refl H)))
    | cons t0 l =>
      obtain ⟨x0, xs, rfl, hd0, hl⟩ := hl0
      cases l with
      | nil =>
        rw [show xs = [] from hl]
        refine iteY (by show ((1 : Nat) : Int) < 2; decide) (iteT (qn ?_ H (Same.refl H)))
        cases t0 with
        | str k =>
          show formParts k [] = none
          unfold formParts
          simp
        | _ => rfl
      | cons t1 l' =>
        have hxl : xs.length = (t1 :: l').length := hl.len
        have hlen : (((x0 :: xs).length : Nat) : Int) = ((l'.length + 2 : Nat) : Int) := by rw [List.length_cons, hxl]; rfl
        refine iteN (by rw [hlen]; omega) ?_
        refine ⟨_, rfl, p, _, _, _, rfl, rfl, SqT.of hp, atI_at (by decide) rfl, _, _, _, _, _, rfl, .ty _, hd0.ty, kit_str t0, _, rfl, ?_⟩
        cases t0 with
        | str k =>
          obtain rfl : x0 = V.str (SX.S k) := hd0
          obtain ⟨_, htl, _, hnt⟩ := tup_tame ht
          have ep : (Th.tup (.str k :: t1 :: l')).parts = formParts k (t1 :: l') := rfl
          rw [ep] at qn qs
          obtain ⟨x1, xs', rfl, hd1, hl'⟩ := hl
          have hx' := hl'.len
          refine iteF ?_
          refine ⟨_, rfl, p, _, _, _, rfl, rfl, SqT.of hp, atI_at (by decide) rfl, ?_⟩
          have no : formParts k (t1 :: l') = none → ∀ H', Same H H' → Q .non H' := qn
          have n0 : ∀ w : List Nat, ∀ lit : Str, lit = SX.S w → k ≠ w → ¬ V.str (SX.S k) = V.str lit := fun w lit e hk z => hk ((kw e).mp z)
          have y0 : ∀ w : List Nat, ∀ lit : Str, lit = SX.S w → k = w → V.str (SX.S k) = V.str lit := fun w lit e hk => (kw e).mpr hk
          have len_is : ∀ m : Nat, (V.int (((V.str (SX.S k) :: x1 :: xs').length : Nat) : Int) = V.int ((m + 2 : Nat) : Int)) ↔ l'.length = m := fun m => by
            constructor
            · intro e
              have e' : (((V.str (SX.S k) :: x1 :: xs').length : Nat) : Int) = ((m + 2 : Nat) : Int) := by cases e; rfl
              rw [hlen] at e'
              omega
            · intro e
              rw [hlen, e]
          by_cases k1 : k = w_number
          · have fp : formParts k (t1 :: l') = if l'.length = 0 ∧ t1.isInt = true then some [] else none := by
                unfold formParts
                rw [if_pos k1]
                simp
            have n_read : k ≠ w_read := by rw [k1]; decide
            have n_pick : k ≠ w_pick := by rw [k1]; decide
            have n_choose : k ≠ w_choose := by rw [k1]; decide
            have nt : ¬ k ∈ twos := by rw [k1]; decide
            refine ⟨_, rfl, rfl, _, rfl, iteY (y0 _ _ q_number k1) ?_⟩
            refine ⟨_, rfl, p, _, rfl, .inr (SqT.of hp), rfl, _, rfl, ?_⟩
            by_cases hl0 : l'.length = 0
            · refine iteY ((len_is 0).mpr hl0) ?_
              refine ⟨_, rfl, p, _, _, _, rfl, rfl, SqT.of hp, atI_at (by decide) rfl, x1, t1, rfl, hd1, _, rfl, ?_⟩
              cases hi : t1.isInt with
              | true =>
                exact iteT ⟨Nat.zero_le _, fun a na => qs [] (by rw [fp, if_pos ⟨hl0, hi⟩]) _ a [] (same_new na _) upd_same fun _ _ _ => rfl⟩
              | false =>
                refine iteF ?_
                refine ⟨_, rfl, rfl, _, rfl, iteN (n0 _ _ q_read n_read) (iteF ?_)⟩
                refine ⟨_, rfl, tw, _, rfl, .inr (R.twos H), rfl, rfl, _, rfl, iteInN nt (iteF ?_)⟩
                refine ⟨_, rfl, rfl, _, rfl, iteN (n0 _ _ q_pick n_pick) (iteF ?_)⟩
                refine ⟨_, rfl, rfl, _, rfl, iteN (n0 _ _ q_choose n_choose) (iteF ?_)⟩
                exact no (by rw [fp, if_neg (fun z => by rw [hi] at z; cases z.2)]) H (Same.refl H)
            · refine iteN (fun z => hl0 ((len_is 0).mp z)) (iteF ?_)
              refine ⟨_, rfl, rfl, _, rfl, iteN (n0 _ _ q_read n_read) (iteF ?_)⟩
              refine ⟨_, rfl, tw, _, rfl, .inr (R.twos H), rfl, rfl, _, rfl, iteInN nt (iteF ?_)⟩
              refine ⟨_, rfl, rfl, _, rfl, iteN (n0 _ _ q_pick n_pick) (iteF ?_)⟩
              refine ⟨_, rfl, rfl, _, rfl, iteN (n0 _ _ q_choose n_choose) (iteF ?_)⟩
              exact no (by rw [fp, if_neg (fun z => hl0 z.1)]) H (Same.refl H)
          have n_number := k1
          refine ⟨_, rfl, rfl, _, rfl, iteN (n0 _ _ q_number n_number) (iteF ?_)⟩
          by_cases k2 : k = w_read
          · have fp : formParts k (t1 :: l') = if l'.length = 0 ∧ t1.isNm = true then some [] else none := by
              unfold formParts
              rw [if_neg k1, if_pos k2]
              simp
            have n_pick : k ≠ w_pick := by rw [k2]; decide
            have n_choose : k ≠ w_choose := by rw [k2]; decide
            have nt : ¬ k ∈ twos := by rw [k2]; decide
            refine ⟨_, rfl, rfl, _, rfl, iteY (y0 _ _ q_read k2) ?_⟩
            refine ⟨_, rfl, p, _, rfl, .inr (SqT.of hp), rfl, _, rfl, ?_⟩
            by_cases hl0 : l'.length = 0
            · refine iteY ((len_is 0).mpr hl0) ?_
              refine ⟨_, rfl, p, _, _, _, rfl, rfl, SqT.of hp, atI_at (by decide) rfl, x1, t1, rfl, hd1, tameL_mem htl t1 (List.mem_cons_self ..), fun H1 hs1 => ⟨_, rfl, ?_⟩⟩
              cases hi : t1.isNm with
              | true =>
                exact iteT ⟨Nat.zero_le _, fun a na => qs [] (by rw [fp, if_pos ⟨hl0, hi⟩]) _ a [] (hs1.trans (same_new na _)) upd_same fun _ _ _ => rfl⟩
              | false =>
                refine iteF ?_
                refine ⟨_, rfl, tw, _, rfl, .inr (R.twos H1), rfl, rfl, _, rfl, iteInN nt (iteF ?_)⟩
                refine ⟨_, rfl, rfl, _, rfl, iteN (n0 _ _ q_pick n_pick) (iteF ?_)⟩
                refine ⟨_, rfl, rfl, _, rfl, iteN (n0 _ _ q_choose n_choose) (iteF ?_)⟩
                exact no (by rw [fp, if_neg (fun z => by rw [hi] at z; cases z.2)]) H1 hs1
            · refine iteN (fun z => hl0 ((len_is 0).mp z)) (iteF ?_)
              refine ⟨_, rfl, tw, _, rfl, .inr (R.twos H), rfl, rfl, _, rfl, iteInN nt (iteF ?_)⟩
              refine ⟨_, rfl, rfl, _, rfl, iteN (n0 _ _ q_pick n_pick) (iteF ?_)⟩
              refine ⟨_, rfl, rfl, _, rfl, iteN (n0 _ _ q_choose n_choose) (iteF ?_)⟩
              exact no (by rw [fp, if_neg (fun z => hl0 z.1)]) H (Same.refl H)
          have n_read := k2
          refine ⟨_, rfl, rfl, _, rfl, iteN (n0 _ _ q_read n_read) (iteF ?_)⟩
          by_cases k3 : k ∈ twos
          · have fp : formParts k (t1 :: l') = if l'.length = 1 then some (t1 :: l') else none := by
              unfold formParts
              rw [if_neg k1, if_neg k2, if_pos k3]
              simp
            have n_pick : k ≠ w_pick := fun z => by rw [z] at k3; revert k3; decide
            have n_choose : k ≠ w_choose := fun z => by rw [z] at k3; revert k3; decide
            refine ⟨_, rfl, tw, _, rfl, .inr (R.twos H), rfl, rfl, _, rfl, iteInY k3 ?_⟩
            refine ⟨_, rfl, p, _, rfl, .inr (SqT.of hp), rfl, _, rfl, ?_⟩
            by_cases hl0 : l'.length = 1
            · refine iteY ((len_is 1).mpr hl0) (iteT ?_)
              refine ⟨_, rfl, _, rfl, p, _, rfl, SqT.of hp, slice_ne _ _ _, fun a na => ?_⟩
              refine qs _ (by rw [fp, if_pos hl0]) _ a _ (same_new na _) upd_same fun B sB dB => ?_
              rw [cut_tail]
              exact DataL.drop 1 (data_in sB dB hp)
            · refine iteN (fun z => hl0 ((len_is 1).mp z)) ?_
              refine ⟨_, rfl, rfl, _, rfl, iteN (n0 _ _ q_pick n_pick) (iteF ?_)⟩
              refine ⟨_, rfl, rfl, _, rfl, iteN (n0 _ _ q_choose n_choose) (iteF ?_)⟩
              exact no (by rw [fp, if_neg hl0]) H (Same.refl H)
          have nt := k3
          refine ⟨_, rfl, tw, _, rfl, .inr (R.twos H), rfl, rfl, _, rfl, iteInN nt (iteF ?_)⟩
          by_cases k4 : k = w_pick
          · have fp : formParts k (t1 :: l') = if l'.length = 2 then some (t1 :: l') else none := by
              unfold formParts
              rw [if_neg k1, if_neg k2, if_neg k3, if_pos k4]
              simp
            have n_choose : k ≠ w_choose := by rw [k4]; decide
            refine ⟨_, rfl, rfl, _, rfl, iteY (y0 _ _ q_pick k4) ?_⟩
            refine ⟨_, rfl, p, _, rfl, .inr (SqT.of hp), rfl, _, rfl, ?_⟩
            by_cases hl0 : l'.length = 2
            · refine iteY ((len_is 2).mpr hl0) ?_
              refine ⟨_, rfl, _, rfl, p, _, rfl, SqT.of hp, slice_ne _ _ _, fun a na => ?_⟩
              refine qs _ (by rw [fp, if_pos hl0]) _ a _ (same_new na _) upd_same fun B sB dB => ?_
              rw [cut_tail]
              exact DataL.drop 1 (data_in sB dB hp)
            · refine iteN (fun z => hl0 ((len_is 2).mp z)) ?_
              refine ⟨_, rfl, rfl, _, rfl, iteN (n0 _ _ q_choose n_choose) (iteF ?_)⟩
              exact no (by rw [fp, if_neg hl0]) H (Same.refl H)
          have n_pick := k4
          refine ⟨_, rfl, rfl, _, rfl, iteN (n0 _ _ q_pick n_pick) (iteF ?_)⟩
          by_cases k5 : k = w_choose
          · have fp : formParts k (t1 :: l') = if l'.length = 1 ∧ (l'.headD .non).areNms = true then some [t1] else none := by
              unfold formParts
              rw [if_neg k1, if_neg k2, if_neg k3, if_neg k4, if_pos k5]
              cases l' <;> simp
            refine ⟨_, rfl, rfl, _, rfl, iteY (y0 _ _ q_choose k5) ?_⟩
            refine ⟨_, rfl, p, _, rfl, .inr (SqT.of hp), rfl, _, rfl, ?_⟩
            by_cases hl0 : l'.length = 1
            · refine iteY ((len_is 1).mpr hl0) ?_
              match l', hl0, hl', htl, hnt, fp with
              | [t2], _, ⟨x2, xs2, e2, hd2, e3⟩, htl, hnt, fp =>
                subst e2
                obtain rfl : xs2 = [] := e3
                refine ⟨_, rfl, p, _, _, _, rfl, rfl, SqT.of hp, atI_at (by decide) rfl, x2, t2, rfl, hd2, tameL_mem htl t2 (by simp), fun m hm => ?_, fun H1 hs1 => ⟨_, rfl, ?_⟩⟩
                · subst hm
                  have e : (!decide (k = w_choose) || (Th.flatL m && SeqAt.shaped (.list (Th.pyL m)))) = true := hnt
                  rw [decide_eq_true k5] at e
                  exact Bool.and_eq_true_iff.mp e
                cases hi : t2.areNms with
                | true =>
                  refine iteT ⟨_, rfl, _, rfl, _, rfl, p, _, rfl, SqT.of (hs1 _ _ hp), fun z => absurd z.1 (by show ¬ HT.sIx 3 0 (some 1) = 0; decide), fun a na => ?_⟩
                  refine qs [t1] (by rw [fp, if_pos ⟨rfl, hi⟩]) _ a _ (hs1.trans (same_new na _)) upd_same fun B sB dB => ?_
                  rw [cut_one]
                  exact DataL.take 1 (DataL.drop 1 (data_in sB dB hp))
                | false =>
                  exact iteF (no (by rw [fp, if_neg (fun z => by rw [show ([t2] : List Th).headD .non = t2 from rfl, hi] at z; cases z.2)]) H1 hs1)
            · exact iteN (fun z => hl0 ((len_is 1).mp z)) (iteF (no (by rw [fp, if_neg (fun z => hl0 z.1)]) H (Same.refl H)))
          have n_choose := k5
          refine ⟨_, rfl, rfl, _, rfl, iteN (n0 _ _ q_choose n_choose) (iteF ?_)⟩
          exact no (by unfold formParts; rw [if_neg k1, if_neg k2, if_neg k3, if_neg k4, if_neg k5]) H (Same.refl H)
        | _ => exact iteT (qn rfl H (Same.refl H))
  | _ => exact iteT (qn rfl H (Same.refl H))
end
section
variable {P : Program} {w : World} {K : PySem.W.Frag} {mg : Str → Option Value} {base : Heap}
abbrev s_is_recipe : Stmt := topS 20
abbrev N_is_recipe : List Str := ["thing", "row", "at", "one", "depth", "parts", "part"]
theorem sc_is_recipe : FnScope N_is_recipe ["thing"] (defScope s_is_recipe) := ⟨rfl, rfl, rfl, by decide +kernel, rfl, by decide +kernel, by decide +kernel⟩

/-- what is still to be looked at -/
def pend (n : Nat) (rest : List (Th × Nat)) : Nat := (rest.map fun p => Th.count (9 - p.2) p.1).sum
def Row (H : Hp) : List (Th × Nat) → List V → Prop
  | [], xs => xs = []
  | p :: r, xs => ∃ (a : Addr) (x : V) (ys : List V), xs = .ref a :: ys ∧ H a = some (.tup [x, .int (p.2 : Int)]) ∧ Data H p.1 x ∧ Row H r ys
theorem Row.same {H H' : Hp} (s : Same H H') : ∀ {r : List (Th × Nat)} {xs : List V}, Row H r xs → Row H' r xs
  | [], _, h => h
  | _ :: _, _, ⟨a, x, ys, e, h, d, r⟩ => ⟨a, x, ys, e, s _ _ h, d.same s, Row.same s r⟩
theorem Row.len {H : Hp} : ∀ {r : List (Th × Nat)} {xs : List V}, Row H r xs → xs.length = r.length
  | [], _, h => by rw [show _ = [] from h]; rfl
  | _ :: _, _, ⟨a, x, ys, e, h, d, r⟩ => by rw [e, List.length_cons, Row.len r]; rfl
theorem Row.at {H : Hp} : ∀ {r : List (Th × Nat)} {xs : List V} {i : Nat} {p : Th × Nat}, Row H r xs → r[i]? = some p → ∃ (a : Addr) (x : V), xs[i]? = some (.ref a) ∧ H a = some (.tup [x, .int (p.2 : Int)]) ∧ Data H p.1 x
  | [], _, i, p, _, e => by simp at e
  | q :: _, _, 0, p, ⟨a, x, ys, e1, h, d, _⟩, e => by subst e1; cases e; exact ⟨a, x, rfl, h, d⟩
  | _ :: _, _, i + 1, p, ⟨a, x, ys, e1, h, d, r⟩, e => by subst e1; exact Row.at (i := i) r (by simpa using e)
theorem Row.snoc {H : Hp} {p : Th × Nat} {a : Addr} {x : V} (h : H a = some (.tup [x, .int (p.2 : Int)])) (d : Data H p.1 x) : ∀ {r : List (Th × Nat)} {xs : List V}, Row H r xs → Row H (r ++ [p]) (xs ++ [.ref a])
  | [], _, e => by rw [show _ = [] from e]; exact ⟨a, x, [], rfl, h, d, rfl⟩
  | _ :: _, _, ⟨b, y, ys, e, h', d', r⟩ => by subst e; exact ⟨b, y, _, rfl, h', d', Row.snoc h d r⟩
theorem pend_ge (n : Nat) : ∀ r : List (Th × Nat), r.length ≤ pend n r
  | [] => Nat.zero_le _
  | p :: r => by
    have := pend_ge n r
    have := count_pos (9 - p.2) p.1
    show r.length + 1 ≤ Th.count (9 - p.2) p.1 + pend n r
    omega
theorem pend_app (n : Nat) (a b : List (Th × Nat)) : pend n (a ++ b) = pend n a + pend n b := by unfold pend; rw [List.map_append, List.sum_append]
def allOk (r : List (Th × Nat)) : Bool := r.all fun p => Th.okay (9 - p.2) p.1
def spIsRecipe : Sp := fun vs H Q _ => ∃ (v : V) (t : Th), vs = [v] ∧ Data H t v ∧ t.tame = true ∧ ∀ H', Same H H' → Q (.bl t.isRcp) H'
theorem parts_tame {t : Th} {ps : List Th} (ht : t.tame = true) (h : t.parts = some ps) : ps.length ≤ 3 ∧ ∀ p ∈ ps, p.tame = true := by
  obtain ⟨k, l, rfl⟩ := parts_tup h
  have hm := tameL_mem (tup_tame ht).2.1
  have e : formParts k l = some ps := h
  unfold formParts at e
  have none_ne : ∀ {x : List Th}, (Option.none : Option (List Th)) = some x → False := fun z => by cases z
  split at e
  · split at e
    · cases e; exact ⟨by decide, by simp⟩
    · cases e
  split at e
  · split at e
    · cases e; exact ⟨by decide, by simp⟩
    · cases e
  split at e
  · split at e
    · rename_i h2; cases e; exact ⟨by omega, hm⟩
    · cases e
  split at e
  · split at e
    · rename_i h2; cases e; exact ⟨by omega, hm⟩
    · cases e
  split at e
  · split at e
    · rename_i h2; cases e
      refine ⟨by rw [List.length_take]; omega, fun p hp => hm p (List.mem_of_mem_take hp)⟩
    · cases e
  · cases e
theorem ok_is_recipe {tw : Addr} (T : Txt K mg) (R : RTxt K mg tw) (D : IsDef K mg "is_recipe" s_is_recipe ["thing"]) (C_within : Cal P w K mg base CX0 3 "within" ["thing"] (spWithin K)) : Cal P w K mg base CX0 4 "is_recipe" ["thing"] spIsRecipe := by
  refine D.cal sc_is_recipe (fun vs H Q E h => ?_) (fun f cdv A outer s H vs Q E hr h => ?_)
  · obtain ⟨v, t, rfl, _⟩ := h
    rfl
  obtain ⟨v, t, rfl, hv, ht, q⟩ := h
  obtain ⟨_, g_MOST⟩ := R.MOST
  obtain ⟨_, g_DEEPEST⟩ := R.DEEPEST
  refine ⟨_, (pss_cons (ps_set (i := 1) sc_is_recipe.nd rfl (Or.inl rfl) (pe_lst (pa_cons (pe_tup (pa_cons (pv 0) (pa_cons pe_int pa_nil))) pa_nil)))
      (pss_cons (ps_set (i := 2) sc_is_recipe.nd rfl (Or.inl rfl) pe_int)
      (pss_cons (ps_while PassesOwn.never (pt_cmpR op_lt (pv 2) (pe_callB call_len_seq (by rfl) T.b_len PySem.boot_len (pa_cons (pv 1) pa_nil)) (nomark _))
        (pss_cons (ps_asg (pe_ix (r := rIxL K) ix_list (pv 1) (pv 2) (fun _ _ => rfl)) (pg_tup rfl (pgs_cons (pg_name (i := 3) sc_is_recipe.nd rfl (Or.inl rfl)) (pgs_cons (pg_name (i := 4) sc_is_recipe.nd rfl (Or.inl rfl)) pgs_nil))))
      (pss_cons (ps_set (i := 5) sc_is_recipe.nd rfl (Or.inl rfl) (pe_cal C_within (hr.mono (by first | decide | omega)) pass0 (pa_cons (pv 3) pa_nil)))
      (pss_cons (ps_if (PW.pt (pw_or (pt_cmpR op_isN (pv 5) pe_non (nomark _)) (pw_or (pt_cmpR op_gt (pv 4) (pe_glob (v := .int _) rfl g_DEEPEST ⟨_, rfl⟩) (nomark _)) (pw_or1 (pt_cmpR op_gt (pe_callB call_len_seq (by rfl) T.b_len PySem.boot_len (pa_cons (pv 1) pa_nil)) (pe_glob (v := .int _) rfl g_MOST ⟨_, rfl⟩) (nomark _))))))
        (pss_one (ps_ret pe_bl))
        pss_nil)
      (pss_cons (ps_for PassesOwn.never rfl (pi_tup (pv 5)) (pg_name (i := 6) sc_is_recipe.nd rfl (Or.inl rfl))
        (pss_one (ps_expr (pe_bm PySem.F.plainAttrs_list PySem.F.slot_list_append PySem.F.type_list_append mt_append (pv 1) (pa_cons (pe_tup (pa_cons (pv 6) (pa_cons (pe_op op_add (pv 4) pe_int) pa_nil))) pa_nil)))))
      (pss_one (ps_aug (i := 2) sc_is_recipe.nd rfl (Or.inl rfl) pe_int ip_add)))))))
      (pss_one (ps_ret pe_bl))))), ?_⟩
  refine ⟨_, rfl, le_line (Nat.le_of_ble_eq_true rfl), fun p np => ⟨le_line (Nat.le_of_ble_eq_true rfl), fun L nL => ?_⟩⟩
  have s1 := same_new np (.tup [v, .int 1])
  -- the row: looked at, and still to be looked at
  refine ⟨fun m σ H' => ∃ (B : Hp) (all : List (Th × Nat)) (xs : List V) (i : Nat) (o1 o2 o3 o4 : Option V), σ = [some v, some (.ref L), some (.int (i : Int)), o1, o2, o3, o4] ∧ Same H B ∧ B L = none ∧ Same B H' ∧ H' L = some (.lst xs) ∧ Row B all xs ∧
      i ≤ all.length ∧ all.length ≤ 103 ∧ (∀ q ∈ all, q.1.tame = true ∧ 1 ≤ q.2 ∧ q.2 ≤ 9) ∧ (all.length ≤ 100 ∨ i < all.length) ∧ t.isRcp = (allOk (all.drop i) && decide (i + pend 0 (all.drop i) ≤ 100)) ∧ m = 104 - i, ?_, ?_⟩
  · refine ⟨104, _, [(t, 1)], [.ref p], 0, none, none, none, none, rfl, s1, nL, same_new nL _, upd_same, ⟨p, v, [], rfl, upd_same, hv.same s1, rfl⟩, Nat.zero_le _, Nat.le_of_ble_eq_true rfl, ?_, .inl (Nat.le_of_ble_eq_true rfl), ?_, rfl⟩
    · intro q' hq
      rw [List.mem_singleton.mp hq]
      exact ⟨ht, Nat.le_refl 1, (by decide : 1 ≤ 9)⟩
    · show (t.okay 8 && decide (t.count 8 ≤ 100)) = ((t.okay 8 && true) && decide (0 + (t.count 8 + 0) ≤ 100))
      rw [Bool.and_true, Nat.zero_add, Nat.add_zero]
  rintro m σ H1 ⟨B, all, xs, i, o1, o2, o3, o4, rfl, hB, nB, hs, hL, hrow, hi, h103, htm, hlast, heq, rfl⟩
  have hxl := hrow.len
  refine ⟨_, rfl, _, rfl, L, _, rfl, .inl (SqL.of hL), _, _, rfl, rfl, _, rfl, ?_⟩
  by_cases hlt : ((i : Nat) : Int) < ((xs.length : Nat) : Int)
  · refine iteY hlt ?_
    have hia : i < all.length := by omega
    have hget := List.getElem?_eq_getElem hia
    obtain ⟨a, x, hxa, hpa, hda⟩ := hrow.at hget
    generalize hqe : all[i] = pq at hget hpa hda
    obtain ⟨t1, d1⟩ := pq
    have hq1 := htm (t1, d1) (by rw [← hqe]; exact List.getElem_mem hia)
    have hdrop : all.drop i = (t1, d1) :: all.drop (i + 1) := by rw [List.drop_eq_getElem_cons hia, hqe]
    refine ⟨fun σ' H' => ∃ (B : Hp) (all : List (Th × Nat)) (xs : List V) (i' : Nat) (o1 o2 o3 o4 : Option V), σ' = [some v, some (.ref L), some (.int (i' : Int)), o1, o2, o3, o4] ∧ Same H B ∧ B L = none ∧ Same B H' ∧ H' L = some (.lst xs) ∧ Row B all xs ∧
      i' ≤ all.length ∧ all.length ≤ 103 ∧ (∀ q ∈ all, q.1.tame = true ∧ 1 ≤ q.2 ∧ q.2 ≤ 9) ∧ (all.length ≤ 100 ∨ i' < all.length) ∧ t.isRcp = (allOk (all.drop i') && decide (i' + pend 0 (all.drop i') ≤ 100)) ∧ i' = i + 1, ?_, ?_⟩
    · rintro σ' H' ⟨B, all, xs, i', o1, o2, o3, o4, e1, e2, e3, e4, e5, e6, e7, e8, e9, e10, e11, e12⟩
      exact ⟨104 - i', by omega, B, all, xs, i', o1, o2, o3, o4, e1, e2, e3, e4, e5, e6, e7, e8, e9, e10, e11, rfl⟩
    -- one, depth = row[at]
    refine ⟨_, rfl, _, rfl, L, _, _, _, rfl, rfl, SqL.of hL, atI_nat hxa, ?_⟩
    refine ⟨a, _, rfl, SqT.of (hs _ _ hpa), rfl, x, _, rfl, _, _, rfl, rfl, ?_⟩
    refine ⟨_, rfl, x, t1, rfl, hda.same hs, hq1.1, fun hno H2 hs2 => ?_, fun ps hps H2 ap zs hs2 hap hzs => ?_⟩
    · refine ⟨_, rfl, rfl, _, rfl, iteY rfl (iteT ?_)⟩
      have : t.isRcp = false := by
        rw [heq, hdrop]
        show ((Th.okay (9 - d1) t1 && allOk (all.drop (i + 1))) && _) = false
        have : Th.okay (9 - d1) t1 = false := by
          cases 9 - d1 with
          | zero => rfl
          | succ n => show (match t1.parts with | none => false | some ps => ps.all (Th.okay n)) = false; rw [hno]
        rw [this]
        rfl
      rw [← this]
      exact q _ (hB.trans (hs.trans hs2))
    · refine ⟨_, rfl, rfl, _, rfl, iteN (by intro z; cases z) ?_⟩
      have hs12 := hs.trans hs2
      have hL2 := hs2 _ _ hL
      refine ⟨_, rfl, _, _, rfl, rfl, _, rfl, ?_⟩
      by_cases hd9 : ((d1 : Nat) : Int) > 8
      · refine iteY hd9 (iteT ?_)
        have : t.isRcp = false := by
          rw [heq, hdrop]
          show ((Th.okay (9 - d1) t1 && allOk (all.drop (i + 1))) && _) = false
          have e9 : 9 - d1 = 0 := by omega
          rw [e9]
          rfl
        rw [← this]
        exact q _ (hB.trans hs12)
      refine iteN hd9 ?_
      refine ⟨_, rfl, L, _, rfl, .inl (SqL.of hL2), _, _, rfl, rfl, _, rfl, ?_⟩
      by_cases hbig : ((xs.length : Nat) : Int) > 100
      · refine iteY hbig ?_
        have : t.isRcp = false := by
          rw [heq, hdrop]
          have hge := pend_ge 0 (all.drop i)
          rw [hdrop] at hge
          have hln : ((t1, d1) :: all.drop (i + 1)).length = all.length - i := by rw [← hdrop, List.length_drop]
          rw [decide_eq_false (show ¬ i + pend 0 ((t1, d1) :: all.drop (i + 1)) ≤ 100 by omega), Bool.and_false]
        rw [← this]
        exact q _ (hB.trans hs12)
      refine iteN hbig ?_
      obtain ⟨hp3, hptm⟩ := parts_tame hq1.1 hps
      have hzl := (hzs B hs hda).len
      obtain ⟨nn, hnn⟩ : ∃ nn, 9 - d1 = nn + 1 := ⟨8 - d1, by omega⟩
      have hnn2 : 9 - (d1 + 1) = nn := by omega
      have hok : Th.okay (9 - d1) t1 = allOk (ps.map fun p => (p, d1 + 1)) := by
        rw [hnn]
        show (match t1.parts with | none => false | some ps => ps.all (Th.okay nn)) = _
        rw [hps]
        unfold allOk
        rw [List.all_map]
        show ps.all (Th.okay nn) = ps.all fun p => Th.okay (9 - (d1 + 1)) p
        rw [hnn2]
      have hct : Th.count (9 - d1) t1 = 1 + pend 0 (ps.map fun p => (p, d1 + 1)) := by
        rw [hnn]
        show (match t1.parts with | none => 1 | some ps => 1 + (ps.map (Th.count nn)).sum) = _
        rw [hps]
        unfold pend
        rw [List.map_map]
        show 1 + (ps.map (Th.count nn)).sum = 1 + (ps.map fun p => Th.count (9 - (d1 + 1)) p).sum
        rw [hnn2]
      -- for part in parts
      refine ⟨_, rfl, ap, rfl, ⟨_, SqT.of hap⟩, for_tup (K := K) (a := ap) (xs := zs) (fun j σ' H' => ∃ (B' : Hp) (ys : List V) (o4 : Option V), σ' = [some v, some (.ref L), some (.int (i : Int)), some x, some (.int (d1 : Int)), some (.ref ap), o4] ∧ Same B B' ∧ B' L = none ∧ Same B' H' ∧ H' ap = some (.tup zs) ∧ H' L = some (.lst ys) ∧
          Row B' (all ++ (ps.take j).map fun p => (p, d1 + 1)) ys ∧ DataL B' ps zs) ?_ (fun j σ' H' _ ⟨_, _, _, _, _, _, _, h, _⟩ => SqT.of h) ?_ ?_⟩
      · exact ⟨B, xs, o4, rfl, Same.refl _, nB, hs12, hap, hL2, by rw [List.take_zero, List.map_nil, List.append_nil]; exact hrow, hzs B hs hda⟩
      · rintro j y σ' H3 hy ⟨B', ys, o4', rfl, hBB, nB', hs3, hap3, hL3, hrow3, hzs3⟩
        obtain ⟨tj, htj, hdj⟩ := hzs3.at hy
        have hyl := hrow3.len
        have hjl : (ps.take j).length ≤ 3 := by rw [List.length_take]; omega
        rw [List.length_append, List.length_map] at hyl
        refine ⟨_, rfl, .inl ⟨rfl, _, SqL.of hL3⟩, _, rfl, _, rfl, _, _, rfl, rfl, le_line (Nat.le_of_ble_eq_true rfl), fun u nu => ⟨L, _, _, rfl, rfl, same_new nu _ _ _ hL3, lt_line (by omega), ?_⟩⟩
        have Lu : L ≠ u := ne_of_none hL3 nu
        have apL : ap ≠ L := fun z => by rw [z, hL3] at hap3; cases hap3
        have nu' : B' u = none := hs3.free nu
        refine ⟨upd B' u (.tup [y, .int ((d1 : Int) + 1)]), _, _, rfl, hBB.trans (same_new nu' _), by rw [upd_ne Lu]; exact nB', fun b o e => ?_, ?_, upd_same, ?_, hzs3.same (same_new nu' _)⟩
        · have hbL : b ≠ L := fun z => by rw [z, upd_ne Lu, nB'] at e; cases e
          rw [upd_ne hbL]
          by_cases hbu : b = u
          · rw [hbu, upd_same] at e ⊢; exact e
          · rw [upd_ne hbu] at e ⊢; exact hs3 _ _ e
        · rw [upd_ne apL]; exact same_new nu _ _ _ hap3
        · rw [List.take_add_one, htj, List.map_append, ← List.append_assoc]
          exact Row.snoc (p := (tj, d1 + 1)) upd_same (hdj.same (same_new nu' _)) (hrow3.same (same_new nu' _))
      · rintro σ' H3 ⟨B', ys, o4', rfl, hBB, nB', hs3, hap3, hL3, hrow3, hzs3⟩
        rw [hzl, List.take_length] at hrow3
        refine ⟨_, rfl, _, _, rfl, rfl, ?_⟩
        have hnl : (ps.map fun p => (p, d1 + 1)).length = ps.length := List.length_map _
        refine ⟨B', all ++ ps.map fun p => (p, d1 + 1), ys, i + 1, _, _, _, _, rfl, hB.trans hBB, nB', hs3, hL3, hrow3, ?_, ?_, ?_, ?_, ?_, rfl⟩
        · rw [List.length_append]; omega
        · rw [List.length_append, hnl]; omega
        · intro q' hq'
          rcases List.mem_append.mp hq' with h | h
          · exact htm q' h
          · obtain ⟨p', hp', rfl⟩ := List.mem_map.mp h
            exact ⟨hptm p' hp', by show 1 ≤ d1 + 1; omega, by show d1 + 1 ≤ 9; omega⟩
        · rw [List.length_append, hnl]
          cases ps with
          | nil => exact .inl (by show all.length + 0 ≤ 100; omega)
          | cons p0 r0 => exact .inr (by rw [List.length_cons]; omega)
        · rw [heq, hdrop, List.drop_append_of_le_length (by omega), pend_app]
          have ea : allOk ((t1, d1) :: all.drop (i + 1)) = (Th.okay (9 - d1) t1 && allOk (all.drop (i + 1))) := rfl
          have ep : pend 0 ((t1, d1) :: all.drop (i + 1)) = Th.count (9 - d1) t1 + pend 0 (all.drop (i + 1)) := rfl
          have eb : allOk (all.drop (i + 1) ++ ps.map fun p => (p, d1 + 1)) = (allOk (all.drop (i + 1)) && allOk (ps.map fun p => (p, d1 + 1))) := List.all_append
          rw [ea, ep, eb, hok, hct, Bool.and_comm (allOk (ps.map fun p => (p, d1 + 1)))]
          congr 2
          exact propext ⟨fun z => by omega, fun z => by omega⟩
  · refine iteN hlt ?_
    have e : all.drop i = [] := List.drop_eq_nil_of_le (by omega)
    have : t.isRcp = true := by
      rw [heq, e]
      show (true && decide (i + 0 ≤ 100)) = true
      rw [decide_eq_true (show i + 0 ≤ 100 by omega)]
      rfl
    have h := q _ (hB.trans hs)
    rw [this] at h
    exact h
end
theorem num_parts (k : List Nat) (h : k = w_number) (t1 : Th) : (t1.isInt = true → formParts k [t1] = some []) ∧ (t1.isInt = false → formParts k [t1] = none) := by
  unfold formParts
  rw [if_pos h]
  exact ⟨fun z => if_pos ⟨rfl, z⟩, fun z => if_neg fun y => by rw [show ([t1] : List Th).headD .non = t1 from rfl, z] at y; cases y.2⟩
theorem read_parts (k : List Nat) (h1 : k ≠ w_number) (h : k = w_read) (t1 : Th) : (t1.isNm = true → formParts k [t1] = some []) ∧ (t1.isNm = false → formParts k [t1] = none) := by
  unfold formParts
  rw [if_neg h1, if_pos h]
  exact ⟨fun z => if_pos ⟨rfl, z⟩, fun z => if_neg fun y => by rw [show ([t1] : List Th).headD .non = t1 from rfl, z] at y; cases y.2⟩
theorem one_none (k : List Nat) (h1 : k ≠ w_number) (h2 : k ≠ w_read) (t1 : Th) : formParts k [t1] = none := by
  unfold formParts
  rw [if_neg h1, if_neg h2]
  simp
theorem twos_parts (k : List Nat) (h : k ∈ twos) (t1 t2 : Th) : formParts k [t1, t2] = some [t1, t2] := by
  have n1 : k ≠ w_number := fun z => by rw [z] at h; revert h; decide
  have n2 : k ≠ w_read := fun z => by rw [z] at h; revert h; decide
  unfold formParts
  rw [if_neg n1, if_neg n2, if_pos h]
  rfl
theorem choose_parts (k : List Nat) (h : k = w_choose) (t1 t2 : Th) : (t2.areNms = true → formParts k [t1, t2] = some [t1]) ∧ (t2.areNms = false → formParts k [t1, t2] = none) := by
  have n1 : k ≠ w_number := by rw [h]; decide
  have n2 : k ≠ w_read := by rw [h]; decide
  have n3 : ¬ k ∈ twos := by rw [h]; decide
  have n4 : k ≠ w_pick := by rw [h]; decide
  unfold formParts
  rw [if_neg n1, if_neg n2, if_neg n3, if_neg n4, if_pos h]
  exact ⟨fun z => if_pos ⟨rfl, z⟩, fun z => if_neg fun y => by rw [show ([t1, t2] : List Th).getD 1 .non = t2 from rfl, z] at y; cases y.2⟩
theorem two_none (k : List Nat) (h1 : ¬ k ∈ twos) (h2 : k ≠ w_choose) (t1 t2 : Th) : formParts k [t1, t2] = none := by
  unfold formParts
  rw [if_neg h1, if_neg h2]
  simp
theorem pick_parts (k : List Nat) (h : k = w_pick) (t1 t2 t3 : Th) : formParts k [t1, t2, t3] = some [t1, t2, t3] := by
  have n1 : k ≠ w_number := by rw [h]; decide
  have n2 : k ≠ w_read := by rw [h]; decide
  have n3 : ¬ k ∈ twos := by rw [h]; decide
  unfold formParts
  rw [if_neg n1, if_neg n2, if_neg n3, if_pos h]
  rfl
theorem three_none (k : List Nat) (h1 : k ≠ w_pick) (t1 t2 t3 : Th) : formParts k [t1, t2, t3] = none := by
  unfold formParts
  rw [if_neg h1]
  simp
/-! ### recipes as things -/
def Kd.word : Kd → List Nat
  | .plus => w_plus | .minus => w_minus | .times => w_times | .most => w_most
theorem kd_word (k : Kd) : k.name = SX.S k.word := by cases k <;> decide +kernel
theorem kd_twos (k : Kd) : k.word ∈ twos := by cases k <;> decide
def nmsTh (ns : List (List Nat)) : List Th := ns.map Th.str
def Rcp.tail : Rcp → List Th × List Nat
  | .num n => ([.int n], w_number)
  | .read s => ([.str s], w_read)
  | _ => ([], [])
def Rcp.th : Rcp → Th
  | .num n => .tup [.str w_number, .int n]
  | .read s => .tup [.str w_read, .str s]
  | .two k a b => .tup [.str k.word, a.th, b.th]
  | .pick a b c => .tup [.str w_pick, a.th, b.th, c.th]
  | .choose a ns => .tup [.str w_choose, a.th, .tup (nmsTh ns)]
theorem nms_data (H : Hp) : ∀ ns : List (List Nat), DataL H (nmsTh ns) (txs ns)
  | [] => rfl
  | s :: ns => ⟨_, _, rfl, rfl, nms_data H ns⟩
theorem Rec.data {H : Hp} : ∀ {r : Rcp} {v : V}, Rec H r v → Data H r.th v
  | .num n, v, ⟨p, e, h⟩ => ⟨p, _, e, h, _, _, rfl, congrArg V.str q_number, _, _, rfl, rfl, rfl⟩
  | .read s, v, ⟨p, e, h⟩ => ⟨p, _, e, h, _, _, rfl, congrArg V.str q_read, _, _, rfl, rfl, rfl⟩
  | .two k a b, v, ⟨p, x, y, e, h, ra, rb⟩ => ⟨p, _, e, h, _, _, rfl, congrArg V.str (kd_word k), _, _, rfl, ra.data, _, _, rfl, rb.data, rfl⟩
  | .pick a b c, v, ⟨p, x, y, z, e, h, ra, rb, rc⟩ => ⟨p, _, e, h, _, _, rfl, congrArg V.str q_pick, _, _, rfl, ra.data, _, _, rfl, rb.data, _, _, rfl, rc.data, rfl⟩
  | .choose a ns, v, ⟨p, x, q, e, h, ra, hq⟩ => ⟨p, _, e, h, _, _, rfl, congrArg V.str q_choose, _, _, rfl, ra.data, _, _, rfl, ⟨q, _, rfl, hq, nms_data H ns⟩, rfl⟩
theorem Nm.tame {s : List Nat} (h : Nm s) : tameS s = true := by
  unfold tameS
  rw [Bool.and_eq_true, decide_eq_true_eq, List.all_eq_true]
  refine ⟨by have := h.2.1; omega, fun c hc => decide_eq_true ?_⟩
  have := h.2.2 c hc
  omega
theorem Nms.flat : ∀ {ns : List (List Nat)}, Th.flatL (nmsTh ns) = true
  | [] => rfl
  | s :: ns => by show (true && Th.flatL (nmsTh ns)) = true; rw [Nms.flat]; rfl
theorem nms_py : ∀ {ns : List (List Nat)}, (∀ s ∈ ns, Nm s) → PyData.canLayAll0 (Th.pyL (nmsTh ns)) = true ∧ PyData.depthAll (Th.pyL (nmsTh ns)) = 0
  | [], _ => ⟨rfl, rfl⟩
  | s :: ns, h => by
    have ih := nms_py (ns := ns) fun x hx => h x (List.mem_cons_of_mem _ hx)
    refine ⟨?_, ?_⟩
    · show ((SX.S s).cps.all (· < 0x110000) && PyData.canLayAll0 (Th.pyL (nmsTh ns))) = true
      rw [ih.1, Bool.and_true]
      have hs := (h s (List.mem_cons_self ..)).2.2
      rw [← Array.all_toList, List.all_eq_true]
      intro c hc
      have := hs c hc
      exact decide_eq_true (by omega)
    · show max 0 (PyData.depthAll (Th.pyL (nmsTh ns))) = 0
      rw [ih.2]
      rfl
theorem Nms.shaped {ns : List (List Nat)} (h : ∀ s ∈ ns, Nm s) : SeqAt.shaped (.list (Th.pyL (nmsTh ns))) = true := by
  rw [shaped_parts, (nms_py h).1, (nms_py h).2]
  exact ⟨rfl, by decide⟩
theorem nms_tame : ∀ {ns : List (List Nat)}, (∀ s ∈ ns, Nm s) → Th.tameL (nmsTh ns) = true
  | [], _ => rfl
  | s :: ns, h => by
    show (tameS s && Th.tameL (nmsTh ns)) = true
    rw [(h s (List.mem_cons_self ..)).tame, nms_tame fun x hx => h x (List.mem_cons_of_mem _ hx)]
    rfl
theorem tame_tup {l : List Th} (h : Th.tameL l = true) (hl : l.length ≤ 1000000) (hn : namesTame l = true) : (Th.tup l).tame = true := by
  show (Th.tameL l && decide (l.length ≤ 1000000) && namesTame l) = true
  rw [h, hn, decide_eq_true hl]
  rfl
theorem namesTame3 {k : List Nat} (hk : k ≠ w_choose) (a b : Th) : namesTame [.str k, a, b] = true := by
  cases b with
  | tup m => show (!decide (k = w_choose) || _) = true; rw [decide_eq_false hk]; rfl
  | _ => rfl
theorem namesTame4 (a b c d : Th) (r : List Th) : namesTame (a :: b :: c :: d :: r) = true := by cases a <;> cases c <;> rfl
theorem namesTame2 (a b : Th) : namesTame [a, b] = true := by cases a <;> rfl
theorem namesTameC {k : List Nat} {m : List Th} (a : Th) (h1 : Th.flatL m = true) (h2 : SeqAt.shaped (.list (Th.pyL m)) = true) : namesTame [.str k, a, .tup m] = true := by
  show (!decide (k = w_choose) || (Th.flatL m && SeqAt.shaped (.list (Th.pyL m)))) = true
  rw [h1, h2]; simp
theorem kd_nochoose (k : Kd) : k.word ≠ w_choose := by cases k <;> decide
theorem nms_names_tame {ns : List (List Nat)} (h : Nms ns) : (Th.tup (nmsTh ns)).tame = true := by
  refine tame_tup (nms_tame h.2.2) ?_ ?_
  · unfold nmsTh; rw [List.length_map]; have := h.2.1; omega
  · match ns with
    | [] => rfl
    | [a] => rfl
    | [a, b] => rfl
    | [a, b, c] => rfl
    | a :: b :: c :: d :: r => rfl
theorem Rcp.tame : ∀ {r : Rcp}, r.Good → r.th.tame = true
  | .num n, _ => tame_tup (by show (tameS w_number && (true && true)) = true; decide) (Nat.le_of_ble_eq_true rfl) rfl
  | .read s, h => tame_tup (by show (tameS w_read && (tameS s && true)) = true; rw [Nm.tame h]; decide) (Nat.le_of_ble_eq_true rfl) rfl
  | .two k a b, h => by
    refine tame_tup ?_ (Nat.le_of_ble_eq_true rfl) (namesTame3 (kd_nochoose k) _ _)
    show (tameS k.word && (a.th.tame && (b.th.tame && true))) = true
    rw [Rcp.tame h.1, Rcp.tame h.2]
    cases k <;> decide
  | .pick a b c, h => by
    refine tame_tup ?_ (Nat.le_of_ble_eq_true rfl) (namesTame4 _ _ _ _ _)
    show (tameS w_pick && (a.th.tame && (b.th.tame && (c.th.tame && true)))) = true
    rw [Rcp.tame h.1, Rcp.tame h.2.1, Rcp.tame h.2.2]
    decide
  | .choose a ns, h => by
    refine tame_tup ?_ (Nat.le_of_ble_eq_true rfl) (namesTameC _ Nms.flat (Nms.shaped h.2.2.2))
    show (tameS w_choose && (a.th.tame && ((Th.tup (nmsTh ns)).tame && true))) = true
    rw [Rcp.tame h.1, nms_names_tame h.2]
    decide
theorem nms_are {ns : List (List Nat)} (h : Nms ns) : (Th.tup (nmsTh ns)).areNms = true := by
  show (decide (1 ≤ (nmsTh ns).length) && decide ((nmsTh ns).length ≤ 9) && (nmsTh ns).all Th.isNm) = true
  have hl : (nmsTh ns).length = ns.length := List.length_map _
  rw [hl, decide_eq_true h.1, decide_eq_true h.2.1]
  show (nmsTh ns).all Th.isNm = true
  rw [List.all_eq_true]
  intro t ht
  obtain ⟨s, hs, rfl⟩ := List.mem_map.mp ht
  exact nmOk_iff.mpr (h.2.2 s hs)
def Rcp.subs : Rcp → List Rcp
  | .num _ => []
  | .read _ => []
  | .two _ a b => [a, b]
  | .pick a b c => [a, b, c]
  | .choose a _ => [a]
theorem Rcp.parts_th : ∀ {r : Rcp}, r.Good → r.th.parts = some (r.subs.map Rcp.th)
  | .num n, _ => (num_parts _ rfl _).1 rfl
  | .read s, h => (read_parts _ (by decide) rfl _).1 (nmOk_iff.mpr h)
  | .two k a b, _ => twos_parts _ (kd_twos k) _ _
  | .pick a b c, _ => pick_parts _ rfl _ _ _
  | .choose a ns, h => (choose_parts _ rfl _ _).1 (nms_are h.2)
theorem Rcp.subs_good : ∀ {r : Rcp}, r.Good → ∀ x ∈ r.subs, x.Good ∧ x.dep + 1 ≤ r.dep
  | .num n, _, x, hx => by cases hx
  | .read s, h, x, hx => by cases hx
  | .two k a b, h, x, hx => by
    have e : (Rcp.two k a b).dep = max a.dep b.dep + 1 := rfl
    simp only [Rcp.subs, List.mem_cons, List.not_mem_nil, or_false] at hx
    rcases hx with rfl | rfl
    · exact ⟨h.1, by omega⟩
    · exact ⟨h.2, by omega⟩
  | .pick a b c, h, x, hx => by
    have e : (Rcp.pick a b c).dep = max a.dep (max b.dep c.dep) + 1 := rfl
    simp only [Rcp.subs, List.mem_cons, List.not_mem_nil, or_false] at hx
    rcases hx with rfl | rfl | rfl
    · exact ⟨h.1, by omega⟩
    · exact ⟨h.2.1, by omega⟩
    · exact ⟨h.2.2, by omega⟩
  | .choose a ns, h, x, hx => by
    have e : (Rcp.choose a ns).dep = a.dep + 1 := rfl
    rw [List.mem_singleton.mp hx]
    exact ⟨h.1, by omega⟩
theorem Rcp.siz_subs : ∀ r : Rcp, r.siz = 1 + (r.subs.map Rcp.siz).sum
  | .num _ => rfl
  | .read _ => rfl
  | .two _ a b => by show a.siz + b.siz + 1 = 1 + (a.siz + (b.siz + 0)); omega
  | .pick a b c => by show a.siz + b.siz + c.siz + 1 = 1 + (a.siz + (b.siz + (c.siz + 0))); omega
  | .choose a _ => by show a.siz + 1 = 1 + (a.siz + 0); omega
theorem Rcp.okay : ∀ (n : Nat) {r : Rcp}, r.Good → r.dep ≤ n → r.th.okay n = true ∧ r.th.count n = r.siz
  | 0, r, _, h => by have := dep_pos r; omega
  | n + 1, r, hg, h => by
    have hp := r.parts_th hg
    have hs := r.subs_good hg
    refine ⟨?_, ?_⟩
    · show (match r.th.parts with | none => false | some ps => ps.all (Th.okay n)) = true
      rw [hp]
      show (r.subs.map Rcp.th).all (Th.okay n) = true
      rw [List.all_map, List.all_eq_true]
      intro x hx
      exact (Rcp.okay n (hs x hx).1 (by have := (hs x hx).2; omega)).1
    · show (match r.th.parts with | none => 1 | some ps => 1 + (ps.map (Th.count n)).sum) = r.siz
      rw [hp, Rcp.siz_subs r]
      show 1 + ((r.subs.map Rcp.th).map (Th.count n)).sum = _
      rw [List.map_map]
      congr 2
      exact List.map_congr_left fun x hx => (Rcp.okay n (hs x hx).1 (by have := (hs x hx).2; omega)).2
theorem Rcp.isRcp {r : Rcp} (hg : r.Good) (hd : r.dep ≤ 8) (hs : r.siz ≤ 100) : r.th.isRcp = true := by
  unfold Th.isRcp
  rw [(Rcp.okay 8 hg hd).1, (Rcp.okay 8 hg hd).2, decide_eq_true hs]
  rfl
/-! ### texts of recipes -/
def Kd.sign : Kd → Nat
  | .plus => 43 | .minus => 45 | .times => 42 | .most => 94
def Kd.signS : Kd → Str
  | .plus => " + " | .minus => " - " | .times => " * " | .most => " ^ "
def intL (n : Int) : List Nat := (Str.ofString (toString n)).cps.toList
theorem intL_S (n : Int) : Str.ofString (toString n) = SX.S (intL n) := (SX.S_tl _).symm
def Rcp.txt : Rcp → List Nat
  | .num n => intL n
  | .read s => s
  | .two k a b => 40 :: (a.txt ++ (32 :: k.sign :: 32 :: (b.txt ++ [41])))
  | .pick a b c => 91 :: (a.txt ++ (32 :: 63 :: 32 :: (b.txt ++ (32 :: 58 :: 32 :: (c.txt ++ [93])))))
  | .choose a ns => a.txt ++ (123 :: (TL.joinL [44] ns ++ [125]))
theorem intL_len {n : Int} (h : n.natAbs < 10 ^ 40) : (intL n).length ≤ 41 := by
  have z : ∀ m : Int, 0 ≤ m → m.natAbs < 10 ^ 40 → (Str.ofString (toString m)).length ≤ 40 := fun m m0 hm => by
    refine PyProof.Rows.toString_length_le m0 (by decide) ?_
    have e : (m.natAbs : Int) = m := Int.natAbs_of_nonneg m0
    rw [← e]
    exact Int.ofNat_lt.mpr hm
  have e : (intL n).length = (Str.ofString (toString n)).length := by
    rw [intL_S n, SX.S_len]
  rw [e]
  by_cases h0 : 0 ≤ n
  · exact Nat.le_succ_of_le (z n h0 h)
  · rw [PyProof.Rows.len_text_neg (by omega)]
    have := z (0 - n) (by omega) (by rw [show (0 - n).natAbs = n.natAbs by omega]; exact h)
    omega
theorem joinL_len : ∀ {ns : List (List Nat)} (m : Nat), (∀ s ∈ ns, s.length ≤ m) → (TL.joinL [44] ns).length ≤ (m + 1) * ns.length
  | [], _, _ => Nat.zero_le _
  | [p], m, h => by
    have := h p (by simp)
    show p.length ≤ _
    simp; omega
  | p :: q :: r, m, h => by
    have h1 := h p (by simp)
    have h2 := joinL_len (ns := q :: r) m fun s hs => h s (List.mem_cons_of_mem _ hs)
    have e : (TL.joinL [44] (p :: q :: r)).length = p.length + (1 + (TL.joinL [44] (q :: r)).length) := by
      show (p ++ ([44] ++ TL.joinL [44] (q :: r))).length = _
      rw [List.length_append, List.length_append]
      rfl
    have e2 : (m + 1) * (p :: q :: r).length = (m + 1) * (q :: r).length + (m + 1) := Nat.mul_succ _ _
    rw [e, e2]
    omega
theorem names_len {ns : List (List Nat)} (h : Nms ns) : (TL.joinL [44] ns).length ≤ 81 := by
  have := joinL_len 8 fun s hs => (h.2.2 s hs).2.1
  have := h.2.1
  omega
theorem names_sum : ∀ {ns : List (List Nat)}, (∀ s ∈ ns, Nm s) → ((ns.map SX.S).map (·.length)).sum ≤ 8 * ns.length
  | [], _ => Nat.zero_le _
  | p :: r, h => by
    have h1 := (h p (by simp)).2.1
    have h2 := names_sum (ns := r) fun s hs => h s (List.mem_cons_of_mem _ hs)
    rw [List.map_cons, List.map_cons, List.sum_cons, SX.S_len, List.length_cons]
    omega
theorem txt_len : ∀ {r : Rcp}, r.Good → r.txt.length ≤ 100 * r.siz
  | .num n, h => by
    have := intL_len h
    show (intL n).length ≤ 100
    omega
  | .read s, h => by
    have := h.2.1
    show s.length ≤ 100
    omega
  | .two k a b, h => by
    have h1 := txt_len h.1
    have h2 := txt_len h.2
    simp only [Rcp.txt, Rcp.siz, List.length_cons, List.length_append, List.length_nil]
    omega
  | .pick a b c, h => by
    have h1 := txt_len h.1
    have h2 := txt_len h.2.1
    have h3 := txt_len h.2.2
    simp only [Rcp.txt, Rcp.siz, List.length_cons, List.length_append, List.length_nil]
    omega
  | .choose a ns, h => by
    have h1 := txt_len h.1
    have h2 := names_len h.2
    simp only [Rcp.txt, Rcp.siz, List.length_cons, List.length_append, List.length_nil]
    omega
theorem q_open : ("(" : Str) = SX.S [40] := by decide +kernel
theorem q_close : (")" : Str) = SX.S [41] := by decide +kernel
theorem q_lb : ("[" : Str) = SX.S [91] := by decide +kernel
theorem q_rb : ("]" : Str) = SX.S [93] := by decide +kernel
theorem q_lc : ("{" : Str) = SX.S [123] := by decide +kernel
theorem q_rc : ("}" : Str) = SX.S [125] := by decide +kernel
theorem q_ask : (" ? " : Str) = SX.S [32, 63, 32] := by decide +kernel
theorem q_col : (" : " : Str) = SX.S [32, 58, 32] := by decide +kernel
theorem q_blank : (" " : Str) = SX.S [32] := by decide +kernel
theorem q_comma : ("," : Str) = SX.S [44] := by decide +kernel
theorem q_sign (k : Kd) : k.signS = SX.S [32, k.sign, 32] := by cases k <;> decide +kernel
theorem kn_num (k : Kd) : ¬ V.str k.name = V.str "number" := by cases k <;> decide +kernel
theorem kn_read (k : Kd) : ¬ V.str k.name = V.str "read" := by cases k <;> decide +kernel
theorem kn_pick (k : Kd) : ¬ V.str k.name = V.str "pick" := by cases k <;> decide +kernel
theorem kn_choose (k : Kd) : ¬ V.str k.name = V.str "choose" := by cases k <;> decide +kernel
theorem log_small {n : Int} (h : n.natAbs < 10 ^ 40) : n.natAbs.log2 < 1920 := by
  by_cases z : n.natAbs = 0
  · rw [z]; decide
  · exact (Nat.log2_lt z).mpr (Nat.lt_trans h (by decide +kernel))
theorem Rcp.flat : ∀ r : Rcp, r.th.flat = true
  | .num _ => rfl
  | .read _ => rfl
  | .two _ a b => by
    show (true && (a.th.flat && (b.th.flat && true))) = true
    rw [Rcp.flat a, Rcp.flat b]; rfl
  | .pick a b c => by
    show (true && (a.th.flat && (b.th.flat && (c.th.flat && true)))) = true
    rw [Rcp.flat a, Rcp.flat b, Rcp.flat c]; rfl
  | .choose a ns => by
    show (true && (a.th.flat && (Th.flatL (nmsTh ns) && true))) = true
    rw [Rcp.flat a, Nms.flat]; rfl
theorem nm_lay {s : List Nat} (h : Nm s) : (PyData.str (SX.S s)).canLay0 = true := by
  have := (nms_py (ns := [s]) fun x hx => by rw [List.mem_singleton.mp hx]; exact h).1
  have z : ((PyData.str (SX.S s)).canLay0 && true) = true := this
  rw [Bool.and_true] at z
  exact z
theorem str_lay {s : List Nat} (h : ∀ c ∈ s, c < 128) : (PyData.str (SX.S s)).canLay0 = true := by
  show (SX.S s).cps.all (· < 0x110000) = true
  rw [← Array.all_toList, List.all_eq_true]
  intro c hc
  have := h c hc
  exact decide_eq_true (by omega)
theorem Rcp.lays : ∀ {r : Rcp}, r.Good → r.th.py.canLay0 = true ∧ r.th.py.depth ≤ r.dep
  | .num n, _ => ⟨by show ((PyData.str (SX.S w_number)).canLay0 && ((PyData.int n).canLay0 && true)) = true; rw [str_lay (by decide)]; rfl, by show max 0 (max 0 0) + 1 ≤ 1; decide⟩
  | .read s, h => ⟨by show ((PyData.str (SX.S w_read)).canLay0 && ((PyData.str (SX.S s)).canLay0 && true)) = true; rw [nm_lay h, str_lay (s := w_read) (by decide)]; rfl, by show max 0 (max 0 0) + 1 ≤ 1; decide⟩
  | .two k a b, h => by
    have h1 := Rcp.lays h.1
    have h2 := Rcp.lays h.2
    refine ⟨?_, ?_⟩
    · show ((PyData.str (SX.S k.word)).canLay0 && (a.th.py.canLay0 && (b.th.py.canLay0 && true))) = true
      rw [h1.1, h2.1, str_lay (s := k.word) (by cases k <;> decide)]
      rfl
    · show max 0 (max a.th.py.depth (max b.th.py.depth 0)) + 1 ≤ max a.dep b.dep + 1
      omega
  | .pick a b c, h => by
    have h1 := Rcp.lays h.1
    have h2 := Rcp.lays h.2.1
    have h3 := Rcp.lays h.2.2
    refine ⟨?_, ?_⟩
    · show ((PyData.str (SX.S w_pick)).canLay0 && (a.th.py.canLay0 && (b.th.py.canLay0 && (c.th.py.canLay0 && true)))) = true
      rw [h1.1, h2.1, h3.1, str_lay (s := w_pick) (by decide)]
      rfl
    · show max 0 (max a.th.py.depth (max b.th.py.depth (max c.th.py.depth 0))) + 1 ≤ max a.dep (max b.dep c.dep) + 1
      omega
  | .choose a ns, h => by
    have h1 := Rcp.lays h.1
    have h2 := nms_py h.2.2.2
    have h3 := dep_pos a
    refine ⟨?_, ?_⟩
    · show ((PyData.str (SX.S w_choose)).canLay0 && (a.th.py.canLay0 && (PyData.canLayAll0 (Th.pyL (nmsTh ns)) && true))) = true
      rw [h1.1, h2.1, str_lay (s := w_choose) (by decide)]
      rfl
    · show max 0 (max a.th.py.depth (max (PyData.depthAll (Th.pyL (nmsTh ns)) + 1) 0)) + 1 ≤ a.dep + 1
      rw [h2.2]
      omega
theorem Rcp.shaped {r : Rcp} (hg : r.Good) (hd : r.dep ≤ 60) : SeqAt.shaped r.th.py = true := by
  have h := Rcp.lays hg
  show (r.th.py.canLay0 && decide (r.th.py.depth ≤ 64)) = true
  rw [h.1, decide_eq_true (by omega)]
  rfl
theorem Rcp.eqv {r : Rcp} (hg : r.Good) : PyData.eqv r.th.py r.th.py = true := SeqAt.eqv_refl _ (Rcp.lays hg).1
section
variable {X : Cx} {CX : CXT} {k : Nat} {ps : List Str} {sp : Sp} {E : L2.St → XK} {x : Str} {p pos : Pos}
theorem pe_calS {e : Expr} {es : List Expr} {t : TA} (c : Cal X.prog X.w X.K X.mg X.base CX k x ps sp) (hr : Room k X.A) (hx : ∀ σ, PassesAt CX X σ (E σ)) (ha : PA X (e :: es) t) (hg : Gl X x := by rfl)
    (hdb : (x == ("__debug__" : Str)) = false := by decide) (he : starEach (e :: es) X.env = (false, eval e X.env) :: starEach es X.env := by rfl) (hpl : (backTo pos (starEach es X.env)).any (·.1) = false := by rfl) :
    PE X (.Call (.Name x p) (e :: es) [] pos) (tCallS sp E t) := by
  obtain ⟨f, fd, F, m, kp, b⟩ := c
  exact pe_callS F hr hg m kp b hx ha hdb he hpl
end
end Mad
/-! ### try .. except X as n, where the caught error is tracked behind the suite -/
namespace L2
open PySem PySem.Spec PyProof.Rows
def EzO (cls : Value) (d : Option Addr) (a : Addr) : HO := .ext fun h =>
  ∃ (oe : Obj) (vs : Array Value), h.get? a = some oe ∧ Zc cls d oe ∧
    oe.data = .fields vs
theorem ezO_ok {P : Program} {w : World} {H : Hp} {h : Heap} {a : Addr} {cls : Value} {d : Option Addr} {oe : Obj} {vs : Array Value}
    (e : h.get? a = some oe) (z : Zc cls d oe) (k : oe.data = .fields vs) : ObjOk P w H h a (EzO cls d a) :=
  ⟨⟨oe, vs, e, z, k⟩, ⟨oe, e⟩, fun _ _ y r => by
    obtain ⟨o, v, q, t⟩ := y
    exact ⟨o, v, r o q, t⟩⟩
section
variable {X : Cx} {pins : List (Addr × Obj)} {σ : St} {H : Hp} {B : Heap} {sI s' : Shared}
theorem Inv.landedT {a : Addr} {o : HO} (I : Inv X pins σ H sI) (nb : ∀ b u, sI.heap.get? b = some u → b ∉ frs X.stack → B.get? b = some u)
    (st : B.StaysIn s'.heap) (up : sI.heap.UpToSlots s'.heap) (os : s'.os = sI.os) (ag : AllBare s'.gens)
    (n0 : sI.heap.get? a = none) (na : H a = none) (new : ObjOk X.prog X.w (upd H a o) s'.heap a o) : Inv X pins σ (upd H a o) s' := by
  have nf : ∀ b ∈ frs X.stack, ∀ u, sI.heap.get? b = some u → ∃ sl, s'.heap.get? b = some { u with slots := sl } := by
    intro b hb u e
    obtain ⟨_, u', e', hd⟩ := I.stack.mem hb
    rw [e] at e'
    cases e'
    exact up b u e hd
  have U : Un (frs X.stack) [] H (upd H a o) sI.heap s'.heap := by
    refine ⟨fun b u e _ hb _ => st b u (nb b u e hb), fun b u e _ hb _ => nf b hb u e, fun b u e n _ => ?_, fun b u e _ => ?_, fun b xs q => ?_, fun b u xs q => ?_, fun b ps q => ?_⟩
    · have z : b ≠ a := fun z => by rw [z, n0] at e; cases e
      rw [upd_ne z]
      exact n
    · by_cases hb : b ∈ frs X.stack
      · obtain ⟨sl, q⟩ := nf b hb u e
        exact ⟨_, q⟩
      · exact ⟨u, st b u (nb b u e hb)⟩
    · rw [upd_ne (ne_of_none q na)]
      exact q
    · rw [upd_ne (ne_of_none q na)]
      exact q
    · exact ⟨#[], by rw [upd_ne (ne_of_none q na), q]; simp⟩
  have J := I.call (ch := []) (h' := s'.heap) (g' := s'.gens) (t' := s'.toks) (d' := s'.drawn) U
    (HOk.laidN ((I.inGround nb).kept st) (fun _ _ h => h) na new) ag (fun _ z => nomatch z)
  obtain ⟨a1, a2, a3, a4, a5⟩ := s'
  have e5 : a5 = sI.os := os
  subst e5
  exact J
theorem Inv.suiteN {s : Shared} (I : Inv X pins σ H s) (a : Addr) : Inv (X.suite a (X.pn ++ pins)) [] σ H s :=
  ⟨I.ok.suite _ _, I.os, I.bare, I.base, I.loc,
    I.cell, I.free, I.freeC,
    fun p hp => I.pin p (by rw [List.append_nil] at hp; exact hp), I.hok, I.len⟩
theorem Inv.unsuiteN {s : Shared} {a : Addr} (I : Inv (X.suite a (X.pn ++ pins)) [] σ H s) (ok : X.Ok) : Inv X pins σ H s :=
  ⟨ok, I.os, I.bare, I.base, I.loc,
    I.cell, I.free, I.freeC,
    fun p hp => I.pin p (List.mem_append_left _ hp), I.hok, I.len⟩
end
/-- what the clause wishes of an error of the body: slot i is n's; the error is tracked from here on -/
def wKeep (K : PySem.W.Frag) (c : Value) (i : Nat) (ts : Addr → Value → Option Addr → TS) (Wout : WX) (D : Ends) : WX := fun cls d σ H =>
  ∃ b, PySem.W.exmOne K cls c = some b ∧
    (b = true → ∀ a, H a = none → ts a cls d
      { nx := fun σ2 H2 => D.nx (σ2.set i none) H2, rt := D.rt, bk := fun σ2 H2 => D.bk (σ2.set i none) H2, ct := fun σ2 H2 => D.ct (σ2.set i none) H2 }
      (σ.set i (some (.ref a))) (upd H a (EzO cls d a))) ∧
    (b = false → Wout cls d σ H)
section
variable {X : Cx} {x n : Str} {c : Value} {i : Nat} {body suite : List Stmt} {b₀ : Stmt} {np pos pos' : Pos} {tb : WX → TS} {ts : Addr → Value → Option Addr → TS} {Wout : WX}
theorem ps_try_keep (hs : X.stack = X.env :: X.outer) (hf : X.env.frame = some X.env.locals) (hN : X.N.Nodup)
    (hi : X.N[i]? = some n) (hln : X.env.kindOf n = some .local) (hc : Names X x c) (tk : Takes X Wout)
    (hb : ∀ (W : WX) (pn : List (Addr × Obj)) (xe : Value → Shared → Prop), Takes (X.tr pn xe) W →
      PassesOwn (model X.prog X.w) X.A X.env xe → PSs (X.tr pn xe) body (tb W))
    (hsu : ∀ (a : Addr) (cls : Value) (d : Option Addr) (pn : List (Addr × Obj)),
      PSs (X.suite a pn) (b₀ :: suite) (ts a cls d)) :
    PS X (.Try body [.ExceptHandler (some (.Name x np)) (some n) (b₀ :: suite) pos'] [] [] pos)
      (fun D σ H => tb (wKeep X.K c i ts Wout D) D σ H) := by
  refine ⟨fun pins s σ H D I h => ?_⟩
  have okX := I.ok
  have hfr : X.A.frames = some (X.env :: X.outer) := by
    rw [okX.frames, hs]
  have hlc : Loc X.env.scope n := .inl hln
  refine wpAny_Try_except ?_
  refine wpAny_mono
    ((hb (wKeep X.K c i ts Wout D) (X.pn ++ pins)
      (fun e t1 => wpAny (model X.prog X.w) X.A (noteFrame e X.env)
        (fun _ t2 => wpAny (model X.prog X.w) X.A (setFlight e none)
          (fun _ t3 => wpAny (model X.prog X.w) X.A (handleBy e X.env [.ExceptHandler (some (.Name x np)) (some n) (b₀ :: suite) pos']) (SP X pins D) X.xe t3)
          X.xe t2)
        X.xe t1)
      (fun u t xx => ?_) PassesOwn.looking).run [] s σ H D (I.toTry _) h)
    (fun f s1 hsp => ?_) (fun e s1 he => he)
  · obtain ⟨a, B, sI, pn2, σ2, H2, cls, d, rfl, J0, nb, up, sky, na, os, ag, b, hb1, hyes, hno⟩ := xx
    have J : Inv X pins σ2 H2 sI := J0.ofTry okX
    have sky2 : Sky B (X.env :: X.outer) a (Zc cls d) X.env.locals t.heap := by
      rw [← hs]
      exact sky
    show wpAny (model X.prog X.w) X.A (noteFrame (.ref a) X.env) _ _ _
    refine Sky.land Zc.steady hfr hf sky2 fun h3 fl3 up3 => ?_
    have J3 : Inv X pins σ2 H2 { t with heap := h3 } :=
      J.landed nb fl3.1 (up.trans up3) os ag
    obtain ⟨oe3, vs3, he3, hz3, hd3⟩ := fl3.there
    have nfr : a ∉ frs (X.env :: X.outer) := fun hm => by
      obtain ⟨_, o', e', hnf⟩ := fl3.2.2.1.mem hm
      rw [he3] at e'
      cases e'
      exact hnf _ hd3
    have n0 : sI.heap.get? a = none := by
      cases q : sI.heap.get? a with
      | none => rfl
      | some u =>
        have z := nb a u q (by rw [hs]; exact nfr)
        rw [fl3.2.1] at z
        cases z
    have S3 := J3.suiteN a
    refine wpAny_handleBy_cons (codeAny_handlers_test ?_) (by intro q; cases q)
    have LT : PySem.W.Looks (model X.prog X.w) h3 (typeOf (.ref a)) cls := fun A Q E s k q =>
      wpAny_typeOf_ref (k _ _ he3) (by rw [hz3.1]; exact q)
    have LM := PySem.W.exm_one (M := model X.prog X.w) (J3.kIn) LT hb1
    have test : ∀ {Q : Value → Shared → Prop} {E : Value → Shared → Prop}, Q c { t with heap := h3 } →
        wpAny (model X.prog X.w) (X.A.mark (some (.ref a))) (eval (.Name x np) X.env) Q E { t with heap := h3 } := by
      intro Q E q
      obtain ⟨hg, hdbg, hm | ⟨hm, hv, hnn⟩⟩ := hc
      · exact ld_glob (X := X.suite a (X.pn ++ pins)) S3 hg hm q hdbg
      · exact ld_blt (X := X.suite a (X.pn ++ pins)) S3 hg hm hv q hnn hdbg
    refine test (LM.here ?_)
    cases b with
    | true =>
      refine codeAny_handlers_suite_as ?_
      refine HandSPX.lands_againZ fl3 fun h4 fl4 up4 => ?_
      obtain ⟨oe4, vs4, he4, hz4, hd4⟩ := fl4.there
      have J4 : Inv X pins σ2 (upd H2 a (EzO cls d a)) { t with heap := h4 } :=
        J.landedT nb fl4.1 ((up.trans up3).trans up4) os ag n0 na (ezO_ok he4 hz4 hd4)
      have S4 := J4.suiteN a
      refine store_ok (X := X.suite a (X.pn ++ pins)) (v := .ref a) S4 hN hi hlc rfl (fun s5 S5 => ?_) (.inr hln)
      refine wpAny_mono ((hsu a cls d (X.pn ++ pins)).run [] s5 _ _ _ S5 (hyes rfl a na)) (fun f s6 hsp => ?_) (fun _ _ z => False.elim z)
      have fin : ∀ {σ6 : St} {H6 : Hp} {Q : Shared → Prop}, Inv (X.suite a (X.pn ++ pins)) [] σ6 H6 s6 →
          (∀ s7, Inv X pins (σ6.set i none) H6 s7 → Q s7) →
          wpAny (model X.prog X.w) X.A (do bindName X.env n .none; unbindBehindTheSuite X.env n pos') (fun _ s7 => Q s7) X.xe s6 := by
        intro σ6 H6 Q S6 hq
        exact gone_ok (S6.unsuiteN okX) hN hi hln hq
      cases f with
      | ret u =>
        obtain ⟨v6, σ6, H6, S6, r6, q6⟩ := hsp
        exact fin S6 fun s7 J7 => ⟨_, _, _, J7, r6, q6⟩
      | next =>
        obtain ⟨σ6, H6, S6, q6⟩ := hsp
        exact fin S6 fun s7 J7 => ⟨_, _, J7, q6⟩
      | brk =>
        obtain ⟨σ6, H6, S6, q6⟩ := hsp
        exact fin S6 fun s7 J7 => ⟨_, _, J7, q6⟩
      | cont =>
        obtain ⟨σ6, H6, S6, q6⟩ := hsp
        exact fin S6 fun s7 J7 => ⟨_, _, J7, q6⟩
    | false =>
      show wpAny _ X.A (handleBy (.ref a) X.env []) _ _ _
      refine wpAny_handleBy_nil ?_
      obtain ⟨k1, k2, k3, oe, vs, T, oT, ts', he, hz, hd, h1, hr⟩ := id fl3
      unfold PySem.passOn
      refine wpAny_bind (wpAny_field he hd h1 ?_)
      rw [if_neg (show ¬ ((Value.ref T == Value.none) = true) from by simp)]
      have fin : wpAny (model X.prog X.w) X.A (setFlight (.ref a) X.env.frame)
          (fun _ t4 => wpAny (model X.prog X.w) X.A (throw (.ref a) : Sem Flow) (SP X pins D) X.xe t4) X.xe { t with heap := h3 } := by
        rw [hf]
        refine HandSPX.setFlight_upZ fl3 fun h4 hh4 up4 => wpAny_throw (tk _ _ ?_)
        exact ⟨a, B, sI, pins, σ2, H2, cls, d, rfl, J, nb,
          (up.trans up3).trans up4, .inr (.inr (by rw [hs]; exact hh4)), na, os, ag, hno rfl⟩
      first
        | exact wpAny_bind (wpAny_pure (wpAny_bind fin))
        | exact wpAny_bind fin
  · cases f with
    | next =>
      obtain ⟨σ2, H2, J2, q⟩ := hsp
      exact wpAny_execs_nil ⟨σ2, H2, J2.ofTry okX, q⟩
    | brk =>
      obtain ⟨σ2, H2, J2, q⟩ := hsp
      exact ⟨σ2, H2, J2.ofTry okX, q⟩
    | cont =>
      obtain ⟨σ2, H2, J2, q⟩ := hsp
      exact ⟨σ2, H2, J2.ofTry okX, q⟩
    | ret u =>
      obtain ⟨v, σ2, H2, J2, r, q⟩ := hsp
      exact ⟨v, σ2, H2, J2.ofTry okX, r, q⟩
end
/-- the object of a tracked error -/
theorem ezO_inst {X : Cx} {pins : List (Addr × Obj)} {σ : St} {H : Hp} {s : Shared} {a D : Addr} (I : Inv X pins σ H s) (h : H a = some (EzO (.ref D) none a)) :
    ∃ oe, PySem.W.InstAt s.heap a oe D none := by
  obtain ⟨⟨oe, vs, he, hz, hd⟩, _⟩ := (show ObjOk X.prog X.w H s.heap a (EzO (.ref D) none a) from I.hok a _ h)
  obtain ⟨oc, od, oda, osl⟩ := oe
  obtain ⟨h1, h2⟩ := hz
  dsimp only at h1 h2 hd
  subst h1 h2 hd
  exact ⟨_, he, rfl, rfl, trivial⟩
/-- isinstance(e, T), e a tracked error -/
def rIsX (K : PySem.W.Frag) : List V → Hp → VK → Prop := fun xs H Q => ∃ (a D : Addr) (c : V) (cv : Value) (b : Bool),
  xs = [.ref a, c] ∧ H a = some (EzO (.ref D) none a) ∧ ExcC K D ∧ ClsV c cv ∧
  PySem.W.kitOne K (.ref D) cv = some b ∧ Q (.bl b) H
/-- isinstance(e, (T1, T2)) -/
def rIsXT (K : PySem.W.Frag) : List V → Hp → VK → Prop := fun xs H Q => ∃ (a D tp : Addr) (cs : List V) (us : List Value) (b : Bool),
  xs = [.ref a, .ref tp] ∧ H tp = some (.tup cs) ∧ Paired ClsV cs us ∧ H a = some (EzO (.ref D) none a) ∧ ExcC K D ∧
  PySem.W.kitAny K (.ref D) us = some b ∧ Q (.bl b) H
section
variable {X : Cx}
theorem call_isX : CallR X (.builtin "isinstance") (rIsX X.K) := by
  intro pins s σ H xs us Q I r h
  obtain ⟨a, D, c, cv, b, rfl, hH, C, k, e, q⟩ := h
  obtain ⟨u1, u2, rfl, r1, r2⟩ := vals2 r
  have e2 := k.eq r2
  subst e2
  cases r1
  obtain ⟨oe, J⟩ := ezO_inst I hH
  exact PySem.W.kia_one (PySem.W.handS_kitx_exc C.hg C.hk C.hs C.hd C.ha C.hn C.ht C.hm) I.kIn J e (fun z => nomatch z)
    fun tk => ⟨.bl b, H, I.tok tk, rfl, q⟩
theorem call_isXT : CallR X (.builtin "isinstance") (rIsXT X.K) := by
  intro pins s σ H xs us Q I r h
  obtain ⟨a, D, tp, cs, ws, b, rfl, hT, k, hH, C, e, q⟩ := h
  obtain ⟨u1, u2, rfl, r1, r2⟩ := vals2 r
  cases r1
  cases (show u2 = Value.ref tp from r2)
  obtain ⟨oe, J⟩ := ezO_inst I hH
  obtain ⟨_, its, rv, o, h1, h2, n, h3⟩ := (show ObjOk X.prog X.w H s.heap tp (.tup cs) from I.hok tp _ hT)
  have e3 := ClsV.all k rv
  subst e3
  obtain ⟨oc, od, dt, sl⟩ := o
  simp only at h2 h3
  subst h2 h3
  exact PySem.W.kia_tup (PySem.W.handS_kitx_exc C.hg C.hk C.hs C.hd C.ha C.hn C.ht C.hm) I.kIn J h1 e (fun z => nomatch z)
    fun tk => ⟨.bl b, H, I.tok tk, rfl, q⟩
end
end L2
namespace Mad
open PySem PySem.Spec PyProof.Rows L2
/-! ### error classes: what a class answers when asked for another -/
theorem kit_self {K : PySem.W.Frag} {t : Value} : PySem.W.kitOne K t t = some true := by
  unfold PySem.W.kitOne
  rw [if_pos (beq_self_eq_true t)]
theorem kit_built {K : PySem.W.Frag} {C : Addr} {n : String} (hm : PySem.W.kitMeta n = true) (hs : PySem.W.subIn K (.ref C) (.type n) = some true) : PySem.W.kitOne K (.ref C) (.type n) = some true := by
  unfold PySem.W.kitOne
  split
  · rfl
  · show (if PySem.W.kitMeta n = true then PySem.W.subIn K (.ref C) (.type n) else none) = some true
    rw [if_pos hm]
    exact hs
theorem kit_own {K : PySem.W.Frag} {C D : Addr} {b : Bool} (hne : (C == D) = false) (hd : PySem.W.hasDictIn K D = true) (ht : PySem.W.typeIn K (.ref D) = some (.type "type")) (hs : PySem.W.subIn K (.ref C) (.ref D) = some b) : PySem.W.kitOne K (.ref C) (.ref D) = some b := by
  obtain ⟨cd, hc, _⟩ := PySem.W.any_some hd
  have e2 : ((PySem.W.clsIn K D).isSome && PySem.W.typeIn K (.ref D) == some (.type "type")) = true := by rw [hc, ht] <;> rfl
  have hz : ¬ ((Value.ref C == Value.ref D) = true) := fun q => by
    have e : C = D := Value.ref.inj (beq_iff_eq.mp q)
    rw [e, beq_self_eq_true] at hne
    cases hne
  unfold PySem.W.kitOne
  rw [if_neg hz]
  show (if ((PySem.W.clsIn K D).isSome && PySem.W.typeIn K (.ref D) == some (.type "type")) = true then PySem.W.subIn K (.ref C) (.ref D) else none) = some b
  rw [if_pos e2]
  exact hs
theorem kit_cons {K : PySem.W.Frag} {t c : Value} {r : List Value} {b : Bool} (h : PySem.W.kitOne K t c = some false) (g : PySem.W.kitAny K t r = some b) : PySem.W.kitAny K t (c :: r) = some b := by
  show (match PySem.W.kitOne K t c with | some true => some true | some false => PySem.W.kitAny K t r | none => none) = some b
  rw [h]
  exact g
/-! ### reading: what a text writes, from a place on -/
def isLt (c : Nat) : Bool := decide (97 ≤ c) && decide (c ≤ 122)
def isFg (c : Nat) : Bool := decide (48 ≤ c) && decide (c ≤ 57)
abbrev digVal (cs : List Nat) : Nat := NumText.digitsVal cs
def rName (l : List Nat) : Option (Rcp × Nat) := if nmOk (l.takeWhile isLt) = true then some (.read (l.takeWhile isLt), (l.takeWhile isLt).length) else none
def sgn (l : List Nat) : Nat := if l.take 1 = [45] then 1 else 0
def figs (l : List Nat) : List Nat := (l.drop (sgn l)).takeWhile isFg
def rNum (l : List Nat) : Option (Rcp × Nat) :=
  if (figs l).length < 1 ∨ 40 < (figs l).length then none
  else if (figs l).take 1 = [48] ∧ (1 < (figs l).length ∨ 0 < sgn l) then none
  else some (.num (if sgn l = 1 then -(digVal (figs l) : Int) else digVal (figs l)), sgn l + (figs l).length)
def twoWord (z : List Nat) : Option Kd :=
  if z = [32, 43, 32] then some .plus else if z = [32, 45, 32] then some .minus else if z = [32, 42, 32] then some .times else if z = [32, 94, 32] then some .most else none
abbrev Rdr := List Nat → Option (Rcp × Nat)
def rTwo (rp : Rdr) : Rdr := fun l =>
  match rp l with
  | none => none
  | some (a, n) => match twoWord ((l.drop n).take 3) with
    | none => none
    | some w => match rp (l.drop (n + 3)) with
      | none => none
      | some (b, m) => if (l.drop (n + 3 + m)).take 1 = [41] then some (.two w a b, n + 3 + m + 1) else none
def rPick (rp : Rdr) : Rdr := fun l =>
  match rp l with
  | none => none
  | some (a, n) => if (l.drop n).take 3 = [32, 63, 32] then
      match rp (l.drop (n + 3)) with
      | none => none
      | some (b, m) => if (l.drop (n + 3 + m)).take 3 = [32, 58, 32] then
          match rp (l.drop (n + 3 + m + 3)) with
          | none => none
          | some (c, o) => if (l.drop (n + 3 + m + 3 + o)).take 1 = [93] then some (.pick a b c, n + 3 + m + 3 + o + 1) else none
        else none
    else none
def more (d : Nat) : Option (Rcp × Nat) → Option (Rcp × Nat)
  | none => none
  | some (r, n) => some (r, d + n)
def rBase (rp : Rdr) : Rdr := fun l =>
  if l.take 1 = [40] then more 1 (rTwo rp (l.drop 1))
  else if l.take 1 = [91] then more 1 (rPick rp (l.drop 1))
  else if (l.take 1).any isLt = true then rName l
  else rNum l
def nmSigns (l : List Nat) : List Nat := l.takeWhile fun c => isLt c || decide (c = 44)
/-- what stands behind it -/
def rTail : Nat → List Nat → Rcp → Nat → Option (Rcp × Nat)
  | 0, _, r, n => some (r, n)
  | f + 1, l, r, n =>
    if (l.drop n).take 1 = [123] then
      if (Th.tup (nmsTh (TL.spl [44] 0 [] (nmSigns (l.drop (n + 1)))))).areNms = true then
        if (l.drop (n + 1 + (nmSigns (l.drop (n + 1))).length)).take 1 = [125] then
          rTail f l (.choose r (TL.spl [44] 0 [] (nmSigns (l.drop (n + 1))))) (n + 1 + (nmSigns (l.drop (n + 1))).length + 1)
        else none
      else none
    else some (r, n)
def rPart : Nat → Rdr
  | 0, _ => none
  | k + 1, l => match rBase (rPart k) l with
    | none => none
    | some (r, n) => rTail l.length l r n
/-! ### pieces of a text -/
theorem cutS_add (z : List Nat) (a k : Nat) : cutS (SX.S z) (some (a : Int)) (some ((a : Int) + (k : Int))) = SX.S ((z.drop a).take k) := by
  have e : ((a : Int) + (k : Int)) = ((a + k : Nat) : Int) := rfl
  rw [e]
  have hl := SX.S_len z
  show (⟨(((SX.S z).cps.toList.drop (HT.sIx (SX.S z).length 0 (some (a : Int)))).take (HT.sIx (SX.S z).length (SX.S z).length (some ((a + k : Nat) : Int)) - HT.sIx (SX.S z).length 0 (some (a : Int)))).toArray⟩ : Str) = SX.S ((z.drop a).take k)
  rw [HT.sIx_nat, HT.sIx_nat, hl]
  show SX.S ((z.drop (min a z.length)).take (min (a + k) z.length - min a z.length)) = _
  congr 1
  by_cases ha : a ≤ z.length
  · rw [Nat.min_eq_left ha]
    by_cases hb : a + k ≤ z.length
    · rw [Nat.min_eq_left hb, Nat.add_sub_cancel_left]
    · rw [Nat.min_eq_right (by omega), List.take_of_length_le (by rw [List.length_drop]; omega), List.take_of_length_le (by rw [List.length_drop]; omega)]
  · have e1 : min a z.length = z.length := by omega
    rw [e1, List.drop_eq_nil_of_le (Nat.le_refl _), List.drop_eq_nil_of_le (by omega), List.take_nil, List.take_nil]
theorem take_while (p : Nat → Bool) (l : List Nat) : l.take (l.takeWhile p).length = l.takeWhile p := by
  induction l with
  | nil => rfl
  | cons a r ih =>
    rw [List.takeWhile_cons]
    cases p a with
    | true => show a :: r.take (r.takeWhile p).length = _; rw [ih]; rfl
    | false => rfl
theorem SS_eq {a b : List Nat} : (V.str (SX.S a) = V.str (SX.S b)) ↔ a = b := ⟨fun h => SX.S_inj (V.str.inj h), fun h => by rw [h]⟩
def spBehind : Sp := fun vs H Q _ => ∃ (T : List Nat) (a : Nat) (S : List Nat), vs = [.str (SX.S T), .int (a : Int), .str (SX.S S)] ∧ T.length ≤ 1000000 ∧ Q (.int ((a + ((T.drop a).takeWhile fun c => decide (c ∈ S)).length : Nat) : Int)) H
structure NoT (K : PySem.W.Frag) (mg : Str → Option Value) (C : Addr) : Prop where
  x : PySem.W.excIn K C [.type "ValueError", .type "Exception", .type "BaseException", .type "object"] "ValueError.__new__" = true
  g : mg "NoText" = some (.ref C)
  k : PySem.W.keepIn K (.ref C) = true
  b : PySem.W.subIn K (.ref C) (.type "BaseException") = some true
  t : PySem.W.typeIn K (.ref C) = some (.type "type")
structure WordsT (K : PySem.W.Frag) (w : World) (mg : Str → Option Value) (wd : Addr) (es : Array DictEntry) (n : Nat) : Prop where
  g : mg "WORDS" = some (.ref wd)
  dict : KDict K w wd es n
  no : ∀ z, twoWord z = none → PySem.W.nsIn K wd (SX.S z) = some none
  yes : ∀ z k, twoWord z = some k → KDct K w wd (SX.S z) (.str k.name)
structure FTxt (K : PySem.W.Frag) (mg : Str → Option Value) : Prop where
  FIGURES : ∃ t, mg "FIGURES" = some (.str "0123456789" t)
  MOST_FIGURES : ∃ t, mg "MOST_FIGURES" = some (.int 40 t)
/-- a def that may let an error out -/
theorem IsDef.calX {P : Program} {w : World} {K : PySem.W.Frag} {mg : Str → Option Value} {base : Heap} {x : Str} {st : Stmt} {N ps : List Str} {k : Nat} {sp : Sp} (D : IsDef K mg x st ps) (S : FnScope N ps (defScope st)) (len : ∀ vs H Q E, sp vs H Q E → vs.length = ps.length)
    (hbody : ∀ (f : Addr) (cdv : Value) (A : Around) (outer : List Env) (s : Shared) (H : Hp) (vs : List V) (Q : VK) (E : XK), Room k (A.deeper (envOfC x (defScope st) s.heap.objs.size f cdv)) → sp vs H Q E →
      ∃ t, PSs (cxOf (L2.CX P w) P w K mg base N x (defScope st) f cdv A outer s H E) (defBody st) t ∧ t { nx := fun _ H' => Q .non H', rt := Q } (start N vs) H) : Cal P w K mg base (L2.CX P w) (k + 1) x ps sp := by
  obtain ⟨f, fd, F, m, b⟩ := D
  exact ⟨f, fd, F.okX S len fun cdv A outer s H vs Q E => hbody f cdv A outer s H vs Q E, m, F.kp, b⟩
/-- a reader of a text from a place on -/
def spRd (C : Addr) (g : Rdr) : Sp := fun vs H Q E => ∃ (T : List Nat) (a : Nat), vs = [.str (SX.S T), .int (a : Int)] ∧ tameS T = true ∧
  (g (T.drop a) = none → ∀ H', Same H H' → E (.ref C) none H') ∧
  (∀ r n, g (T.drop a) = some (r, n) → ∀ (H' : Hp) (p : Addr) (v : V), Same H H' → H' p = some (.tup [v, .int ((a + n : Nat) : Int)]) → Rec H' r v → Q (.ref p) H')
def spRdD (C : Addr) (m : Nat) (g : Rdr) : Sp := fun vs H Q E => ∃ (T : List Nat) (a d : Nat), vs = [.str (SX.S T), .int (a : Int), .int (d : Int)] ∧ d + m = 9 ∧ tameS T = true ∧
  (g (T.drop a) = none → ∀ H', Same H H' → E (.ref C) none H') ∧
  (∀ r n, g (T.drop a) = some (r, n) → ∀ (H' : Hp) (p : Addr) (v : V), Same H H' → H' p = some (.tup [v, .int ((a + n : Nat) : Int)]) → Rec H' r v → Q (.ref p) H')
def spExp (C : Addr) : Sp := fun vs H Q E => ∃ (T : List Nat) (a : Nat) (wd : List Nat), vs = [.str (SX.S T), .int (a : Int), .str (SX.S wd)] ∧ T.length ≤ 1000000 ∧ wd.length ≤ 1000 ∧
  ((T.drop a).take wd.length ≠ wd → E (.ref C) none H) ∧ ((T.drop a).take wd.length = wd → Q (.int ((a + wd.length : Nat) : Int)) H)
section
variable {P : Program} {w : World} {K : PySem.W.Frag} {mg : Str → Option Value} {base : Heap}
abbrev s_behind_signs : Stmt := topS 25
abbrev N_behind_signs : List Str := ["text", "at", "signs"]
theorem sc_behind_signs : FnScope N_behind_signs ["text", "at", "signs"] (defScope s_behind_signs) := ⟨rfl, rfl, rfl, by decide +kernel, rfl, by decide +kernel, by decide +kernel⟩

theorem ok_behind_signs (T : Txt K mg) (D : IsDef K mg "behind_signs" s_behind_signs ["text", "at", "signs"]) : Cal P w K mg base CX0 1 "behind_signs" ["text", "at", "signs"] spBehind := by
  refine D.cal sc_behind_signs (fun vs H Q E h => ?_) (fun f cdv A outer s H vs Q E hr h => ?_)
  · obtain ⟨T1, a, S, rfl, _⟩ := h
    rfl
  obtain ⟨T1, a, S, rfl, hT, q⟩ := h
  refine ⟨_, (pss_cons (ps_while PassesOwn.never (PW.pt (pw_and (pt_cmpR op_lt (pv 1) (pe_callB call_len_str (by rfl) T.b_len PySem.boot_len (pa_cons (pv 0) pa_nil)) (nomark _)) (pw_and1 (pt_cmpR op_in_sign (pe_item_str (pv 0) (pv 1) (fun _ _ => rfl)) (pv 2) rfl))))
        (pss_one (ps_aug (i := 1) sc_behind_signs.nd rfl (Or.inl rfl) pe_int ip_add)))
      (pss_one (ps_ret (pv 1)))), ?_⟩
  have hl : (SX.S T1).length ≤ sizeLine := by rw [SX.S_len]; exact le_line (by omega)
  refine ⟨fun m σ H' => ∃ j : Nat, σ = [some (.str (SX.S T1)), some (.int (j : Int)), some (.str (SX.S S))] ∧ H' = H ∧ j + ((T1.drop j).takeWhile fun c => decide (c ∈ S)).length = a + ((T1.drop a).takeWhile fun c => decide (c ∈ S)).length ∧ m = T1.length - j, ⟨T1.length - a, a, rfl, rfl, rfl, rfl⟩, ?_⟩
  rintro m σ H1 ⟨j, rfl, rfl, hj, rfl⟩
  refine ⟨_, rfl, _, rfl, _, rfl, hl, _, _, rfl, rfl, _, rfl, ?_⟩
  rw [SX.S_len]
  by_cases h1 : ((j : Nat) : Int) < ((T1.length : Nat) : Int)
  · have hjl : j < T1.length := by omega
    have hd : T1.drop j = T1[j] :: T1.drop (j + 1) := List.drop_eq_getElem_cons hjl
    refine iteY h1 ?_
    refine ⟨_, rfl, _, rfl, SX.S T1, _, T1[j], rfl, rfl, by omega, by omega, by rw [SX.S_len]; exact h1, ?_, _, rfl, T1[j], SX.S S, rfl, rfl, _, rfl, ?_⟩
    · show (T1.toArray)[((j : Nat) : Int).toNat]? = some T1[j]
      simp
    show if decide (T1[j] ∈ S) = true then _ else _
    by_cases hin : T1[j] ∈ S
    · refine iteY hin ?_
      refine ⟨fun σ' H' => ∃ j' : Nat, σ' = [some (.str (SX.S T1)), some (.int (j' : Int)), some (.str (SX.S S))] ∧ H' = H1 ∧ j' + ((T1.drop j').takeWhile fun c => decide (c ∈ S)).length = a + ((T1.drop a).takeWhile fun c => decide (c ∈ S)).length ∧ j' = j + 1, ?_, ?_⟩
      · rintro σ' H' ⟨j', e1, e2, e3, e4⟩
        exact ⟨T1.length - j', by omega, j', e1, e2, e3, rfl⟩
      · refine ⟨_, rfl, _, _, rfl, rfl, j + 1, rfl, rfl, ?_, rfl⟩
        rw [← hj, hd, List.takeWhile_cons, if_pos (decide_eq_true hin), List.length_cons]
        omega
    · refine iteN hin ?_
      rw [hd, List.takeWhile_cons, if_neg (fun z => hin (of_decide_eq_true z))] at hj
      refine ⟨_, rfl, ?_⟩
      rw [← hj] at q
      exact q
  · refine iteN h1 ?_
    rw [List.drop_eq_nil_of_le (by omega)] at hj
    refine ⟨_, rfl, ?_⟩
    rw [← hj] at q
    exact q
abbrev s_expected : Stmt := topS 26
abbrev N_expected : List Str := ["text", "at", "word"]
theorem sc_expected : FnScope N_expected ["text", "at", "word"] (defScope s_expected) := ⟨rfl, rfl, rfl, by decide +kernel, rfl, by decide +kernel, by decide +kernel⟩

theorem ok_expected {C : Addr} (T0 : Txt K mg) (XNoText : NoT K mg C) (D : IsDef K mg "expected" s_expected ["text", "at", "word"]) : Cal P w K mg base (L2.CX P w) 1 "expected" ["text", "at", "word"] (spExp C) := by
  refine D.calX sc_expected (fun vs H Q E h => ?_) (fun f cdv A outer s H vs Q E hr h => ?_)
  · obtain ⟨T, a, wd, rfl, _⟩ := h
    rfl
  obtain ⟨L, a, wd, rfl, hT, hw, qe, q⟩ := h
  have T := T0
  refine ⟨_, (pss_cons (ps_if (pt_cmpR op_ne (pe_slice sl_str (pv 0) (po_some (pv 1)) (po_some (pe_op op_add (pv 1) (pe_callB call_len_str (by rfl) T.b_len PySem.boot_len (pa_cons (pv 2) pa_nil))))) (pv 2) (nomark _))
        (pss_one (ps_raise rfl (takes_of rfl rfl rfl rfl) (pmk_own PySem.F.excBase_ValueError XNoText.x XNoText.g XNoText.k (raises_own XNoText.b XNoText.t) rfl)))
        pss_nil)
      (pss_one (ps_ret (pe_op op_add (pv 1) (pe_callB call_len_str (by rfl) T.b_len PySem.boot_len (pa_cons (pv 2) pa_nil)))))), ?_⟩
  have hl : (SX.S L).length ≤ sizeLine := by rw [SX.S_len]; exact le_line (by omega)
  have hlw : (SX.S wd).length ≤ sizeLine := by rw [SX.S_len]; exact le_line (by omega)
  refine ⟨_, rfl, _, rfl, _, rfl, _, rfl, _, rfl, _, rfl, hlw, _, _, rfl, rfl, _, rfl, _, rfl, hl, _, rfl, rfl, _, rfl, ?_⟩
  rw [SX.S_len, cutS_add]
  by_cases h : (L.drop a).take wd.length = wd
  · refine not_true_eq (decide_eq_true (SS_eq.mpr h)) ?_
    refine ⟨_, rfl, _, rfl, _, rfl, hlw, _, _, rfl, rfl, ?_⟩
    rw [SX.S_len]
    exact q h
  · refine not_false_eq (decide_eq_false fun z => h (SS_eq.mp z)) ?_
    exact qe h
end
theorem cutS_nat (z : List Nat) (a k : Nat) : cutS (SX.S z) (some (a : Int)) (some ((a + k : Nat) : Int)) = SX.S ((z.drop a).take k) := cutS_add z a k
theorem lt_in : (fun c => decide (c ∈ letters)) = isLt := funext fun c => by
  have h := letter_in c
  rw [letters_is] at h
  exact h
theorem tame_cut {z : List Nat} (h : tameS z = true) (a k : Nat) : tameS ((z.drop a).take k) = true := by
  unfold tameS at h ⊢
  rw [Bool.and_eq_true, decide_eq_true_eq, List.all_eq_true] at h ⊢
  refine ⟨?_, fun c hc => h.2 c (List.mem_of_mem_drop (List.mem_of_mem_take hc))⟩
  rw [List.length_take, List.length_drop]
  omega
theorem tame_len {z : List Nat} (h : tameS z = true) : z.length ≤ 1000000 := by
  unfold tameS at h
  rw [Bool.and_eq_true, decide_eq_true_eq] at h
  exact h.1
theorem tw_all (p : Nat → Bool) : ∀ (l : List Nat), ∀ c ∈ l.takeWhile p, p c = true
  | [], c, h => by cases h
  | a :: r, c, h => by
    rw [List.takeWhile_cons] at h
    cases hp : p a with
    | false => rw [hp] at h; cases h
    | true =>
      rw [hp] at h
      rcases List.mem_cons.mp h with e | h
      · rw [e]; exact hp
      · exact tw_all p r c h
def figures : List Nat := [48, 49, 50, 51, 52, 53, 54, 55, 56, 57]
theorem figures_is : ("0123456789" : Str) = SX.S figures := by decide +kernel
theorem fg_in : (fun c => decide (c ∈ figures)) = isFg := funext fun c => by
  unfold isFg figures
  rw [← Bool.decide_and]
  refine decide_eq_decide.mpr ?_
  simp only [List.mem_cons, List.not_mem_nil, or_false]
  omega
section
variable {P : Program} {w : World} {K : PySem.W.Frag} {mg : Str → Option Value} {base : Heap}
abbrev s_read_name : Stmt := topS 27
abbrev N_read_name : List Str := ["text", "at", "behind"]
theorem sc_read_name : FnScope N_read_name ["text", "at"] (defScope s_read_name) := ⟨rfl, rfl, rfl, by decide +kernel, rfl, by decide +kernel, by decide +kernel⟩

theorem ok_read_name {C tw : Addr} (T : Txt K mg) (R : RTxt K mg tw) (XNoText : NoT K mg C) (D : IsDef K mg "read_name" s_read_name ["text", "at"]) (C_behind_signs : Cal P w K mg base CX0 1 "behind_signs" ["text", "at", "signs"] spBehind)
    (C_is_name : Cal P w K mg base CX0 1 "is_name" ["thing"] spIsName) : Cal P w K mg base (L2.CX P w) 2 "read_name" ["text", "at"] (spRd C rName) := by
  refine D.calX sc_read_name (fun vs H Q E h => ?_) (fun f cdv A outer s H vs Q E hr h => ?_)
  · obtain ⟨L, a, rfl, _⟩ := h
    rfl
  obtain ⟨L, a, rfl, ht, qe, q⟩ := h
  obtain ⟨_, g_LETTERS⟩ := R.LETTERS
  have hL := tame_len ht
  have hl : (SX.S L).length ≤ sizeLine := by rw [SX.S_len]; exact le_line (by omega)
  refine ⟨_, (pss_cons (ps_set (i := 2) sc_read_name.nd rfl (Or.inl rfl) (pe_cal C_behind_signs (hr.mono (by first | decide | omega)) pass0 (pa_cons (pv 0) (pa_cons (pv 1) (pa_cons (pe_glob (v := .str _) rfl g_LETTERS ⟨_, rfl⟩) pa_nil)))))
      (pss_cons (ps_if (pt_not (pt_val (pe_cal C_is_name (hr.mono (by first | decide | omega)) pass0 (pa_cons (pe_slice sl_str (pv 0) (po_some (pv 1)) (po_some (pv 2))) pa_nil))))
        (pss_one (ps_raise rfl (takes_of rfl rfl rfl rfl) (pmk_own PySem.F.excBase_ValueError XNoText.x XNoText.g XNoText.k (raises_own XNoText.b XNoText.t) rfl)))
        pss_nil)
      (pss_one (ps_ret (pe_tup (pa_cons (pe_tup (pa_cons pe_str (pa_cons (pe_slice sl_str (pv 0) (po_some (pv 1)) (po_some (pv 2))) pa_nil))) (pa_cons (pv 2) pa_nil))))))), ?_⟩
  refine ⟨_, rfl, _, rfl, L, a, letters, by rw [letters_is]; rfl, hL, ?_⟩
  rw [lt_in]
  have hcut : cutS (SX.S L) (some (a : Int)) (some ((a + ((L.drop a).takeWhile isLt).length : Nat) : Int)) = SX.S ((L.drop a).takeWhile isLt) := by rw [cutS_nat, take_while]
  have htm : (Th.str ((L.drop a).takeWhile isLt)).tame = true := by
    have := tame_cut ht a ((L.drop a).takeWhile isLt).length
    rw [take_while] at this
    exact this
  refine ⟨_, rfl, _, rfl, _, rfl, _, rfl, _, rfl, _, rfl, hl, _, .str ((L.drop a).takeWhile isLt), rfl, congrArg V.str hcut, htm, fun H1 hs1 => ⟨_, rfl, ?_⟩⟩
  cases hn : nmOk ((L.drop a).takeWhile isLt) with
  | false =>
    refine not_false_eq hn ?_
    exact qe (by unfold rName; rw [hn]; rfl) _ hs1
  | true =>
    refine not_true_eq hn ?_
    refine ⟨_, rfl, _, rfl, _, rfl, _, rfl, _, rfl, _, rfl, hl, le_line (Nat.le_of_ble_eq_true rfl), fun p1 n1 => ⟨_, rfl, le_line (Nat.le_of_ble_eq_true rfl), fun p2 n2 => ?_⟩⟩
    refine q (.read ((L.drop a).takeWhile isLt)) _ (by unfold rName; rw [hn]; rfl) _ p2 (.ref p1) (hs1.trans ((same_new n1 _).trans (same_new n2 _))) upd_same ⟨p1, rfl, ?_⟩
    rw [upd_ne (ne_of_none upd_same n2), upd_same, hcut]
abbrev s_read_number : Stmt := topS 28
abbrev N_read_number : List Str := ["text", "at", "first", "behind", "figures"]
theorem sc_read_number : FnScope N_read_number ["text", "at"] (defScope s_read_number) := ⟨rfl, rfl, rfl, by decide +kernel, rfl, by decide +kernel, by decide +kernel⟩

theorem ok_read_number {C : Addr} (T : Txt K mg) (F0 : FTxt K mg) (XNoText : NoT K mg C) (D : IsDef K mg "read_number" s_read_number ["text", "at"]) (C_behind_signs : Cal P w K mg base CX0 1 "behind_signs" ["text", "at", "signs"] spBehind) :
    Cal P w K mg base (L2.CX P w) 2 "read_number" ["text", "at"] (spRd C rNum) := by
  refine D.calX sc_read_number (fun vs H Q E h => ?_) (fun f cdv A outer s H vs Q E hr h => ?_)
  · obtain ⟨L, a, rfl, _⟩ := h
    rfl
  obtain ⟨L, a, rfl, ht, qe, q⟩ := h
  obtain ⟨_, g_FIGURES⟩ := F0.FIGURES
  obtain ⟨_, g_MOST_FIGURES⟩ := F0.MOST_FIGURES
  have hL := tame_len ht
  have hl : (SX.S L).length ≤ sizeLine := by rw [SX.S_len]; exact le_line (by omega)
  refine ⟨_, (pss_cons (ps_set (i := 2) sc_read_number.nd rfl (Or.inl rfl) (pe_op op_add (pv 1) (pe_callTy call_int1 (by rfl) T.b_int (by decide +kernel) (pa_cons (pe_cmpR op_eq (pe_slice sl_str (pv 0) (po_some (pv 1)) (po_some (pe_op op_add (pv 1) pe_int))) pe_str (nomark _)) pa_nil))))
      (pss_cons (ps_set (i := 3) sc_read_number.nd rfl (Or.inl rfl) (pe_cal C_behind_signs (hr.mono (by first | decide | omega)) pass0 (pa_cons (pv 0) (pa_cons (pv 2) (pa_cons (pe_glob (v := .str _) rfl g_FIGURES ⟨_, rfl⟩) pa_nil)))))
      (pss_cons (ps_set (i := 4) sc_read_number.nd rfl (Or.inl rfl) (pe_slice sl_str (pv 0) (po_some (pv 2)) (po_some (pv 3))))
      (pss_cons (ps_if (PW.pt (pw_or (pt_cmpR op_lt (pe_callB call_len_str (by rfl) T.b_len PySem.boot_len (pa_cons (pv 4) pa_nil)) pe_int (nomark _)) (pw_or1 (pt_cmpR op_gt (pe_callB call_len_str (by rfl) T.b_len PySem.boot_len (pa_cons (pv 4) pa_nil)) (pe_glob (v := .int _) rfl g_MOST_FIGURES ⟨_, rfl⟩) (nomark _)))))
        (pss_one (ps_raise rfl (takes_of rfl rfl rfl rfl) (pmk_own PySem.F.excBase_ValueError XNoText.x XNoText.g XNoText.k (raises_own XNoText.b XNoText.t) rfl)))
        pss_nil)
      (pss_cons (ps_if (PW.pt (pw_and (pt_cmpR op_eq (pe_item_str (pv 4) pe_int (fun _ _ => rfl)) pe_str (nomark _)) (pw_and1 (PW.pt (pw_or (pt_cmpR op_gt (pe_callB call_len_str (by rfl) T.b_len PySem.boot_len (pa_cons (pv 4) pa_nil)) pe_int (nomark _)) (pw_or1 (pt_cmpR op_gt (pv 2) (pv 1) (nomark _))))))))
        (pss_one (ps_raise rfl (takes_of rfl rfl rfl rfl) (pmk_own PySem.F.excBase_ValueError XNoText.x XNoText.g XNoText.k (raises_own XNoText.b XNoText.t) rfl)))
        pss_nil)
      (pss_one (ps_ret (pe_tup (pa_cons (pe_tup (pa_cons pe_str (pa_cons (pe_callTy call_int_str (by rfl) T.b_int (by decide +kernel) (pa_cons (pe_slice sl_str (pv 0) (po_some (pv 1)) (po_some (pv 3))) pa_nil)) pa_nil))) (pa_cons (pv 3) pa_nil)))))))))), ?_⟩
  generalize hgl : L.drop a = l at q qe
  have h1c : cutS (SX.S L) (some (a : Int)) (some ((a : Int) + 1)) = SX.S (l.take 1) := by rw [← hgl]; exact cutS_add L a 1
  have hmin : ("-" : Str) = SX.S [45] := by decide +kernel
  have hk : [V.bl (decide (V.str (cutS (SX.S L) (some (a : Int)) (some ((a : Int) + 1))) = V.str "-"))] = [V.bl (decide (l.take 1 = [45]))] := by
    rw [h1c, hmin]
    congr 2
    exact decide_eq_decide.mpr SS_eq
  have hj : V.int (if decide (l.take 1 = [45]) = true then 1 else 0) = V.int ((sgn l : Nat) : Int) := by
    unfold sgn
    by_cases h : l.take 1 = [45]
    · rw [if_pos h, if_pos (decide_eq_true h)]; rfl
    · rw [if_neg h, if_neg (fun z => h (of_decide_eq_true z))]; rfl
  have hfig : (L.drop (a + sgn l)).takeWhile (fun c => decide (c ∈ figures)) = figs l := by
    rw [fg_in, ← List.drop_drop, hgl]; rfl
  have hcut2 : cutS (SX.S L) (some ((a : Int) + ((sgn l : Nat) : Int))) (some ((a + sgn l + (figs l).length : Nat) : Int)) = SX.S (figs l) := by
    have := cutS_nat L (a + sgn l) (figs l).length
    rw [← List.drop_drop, hgl] at this
    rw [show figs l = (l.drop (sgn l)).takeWhile isFg from rfl] at this ⊢
    rw [take_while] at this
    exact this
  have hcut3 : cutS (SX.S L) (some (a : Int)) (some ((a + sgn l + (figs l).length : Nat) : Int)) = SX.S (l.take (sgn l + (figs l).length)) := by
    have := cutS_nat L a (sgn l + (figs l).length)
    rw [hgl, ← Nat.add_assoc] at this
    exact this
  have hfl : (figs l).length ≤ 1000000 := by
    have h1 : (figs l).length ≤ (l.drop (sgn l)).length := by
      have := congrArg List.length (take_while isFg (l.drop (sgn l)))
      rw [List.length_take] at this
      show ((l.drop (sgn l)).takeWhile isFg).length ≤ _
      omega
    have h2 : l.length ≤ 1000000 := by rw [← hgl, List.length_drop]; omega
    rw [List.length_drop] at h1
    omega
  have hlf : (SX.S (figs l)).length ≤ sizeLine := by rw [SX.S_len]; exact le_line (by omega)
  refine ⟨_, rfl, _, rfl, _, rfl, _, rfl, _, rfl, _, _, rfl, rfl, _, rfl, _, rfl, hl, rfl, .inr ⟨decide (l.take 1 = [45]), hk, (a : Int), ((sgn l : Nat) : Int), rfl, hj, ?_⟩⟩
  refine ⟨_, rfl, _, rfl, L, a + sgn l, figures, by rw [figures_is]; rfl, hL, ?_⟩
  rw [hfig]
  refine ⟨_, rfl, _, rfl, _, rfl, _, rfl, _, rfl, _, rfl, hl, ?_⟩
  rw [hcut2]
  refine ⟨_, rfl, _, rfl, hlf, _, _, rfl, rfl, _, rfl, ?_⟩
  rw [SX.S_len]
  by_cases c1 : (((figs l).length : Nat) : Int) < 1
  · refine iteY c1 (iteT ?_)
    exact qe (by unfold rNum; rw [if_pos (.inl (by omega))]) _ (Same.refl H)
  refine iteN c1 ?_
  refine ⟨_, rfl, _, rfl, hlf, _, _, rfl, rfl, _, rfl, ?_⟩
  rw [SX.S_len]
  by_cases c2 : (((figs l).length : Nat) : Int) > 40
  · refine iteY c2 ?_
    exact qe (by unfold rNum; rw [if_pos (.inr (by omega))]) _ (Same.refl H)
  refine iteN c2 ?_
  have hnot : ¬ ((figs l).length < 1 ∨ 40 < (figs l).length) := by omega
  obtain ⟨c, rest, hcr⟩ : ∃ c rest, figs l = c :: rest := by
    cases hf : figs l with
    | nil => rw [hf] at c1; exact absurd (by show ((0 : Nat) : Int) < 1; decide) c1
    | cons c rest => exact ⟨c, rest, rfl⟩
  have htk : (figs l).take 1 = [c] := by rw [hcr]; rfl
  have hdig : NumText.AllDigits (figs l) := fun c' hc' => by
    have z : isFg c' = true := tw_all isFg _ c' hc'
    unfold isFg at z
    rw [Bool.and_eq_true, decide_eq_true_eq, decide_eq_true_eq] at z
    exact z
  have hint : intText? (SX.S (l.take (sgn l + (figs l).length))) = some (if sgn l = 1 then -(digVal (figs l) : Int) else digVal (figs l)) := by
    by_cases h : l.take 1 = [45]
    · have hs1 : sgn l = 1 := by unfold sgn; rw [if_pos h]
      obtain ⟨l', hl'⟩ : ∃ l', l = 45 :: l' := by
        cases l with
        | nil => cases h
        | cons x l' => exact ⟨l', by rw [show x = 45 from List.head_eq_of_cons_eq h]⟩
      have hf' : figs l = l'.takeWhile isFg := by unfold figs; rw [hs1, hl']; rfl
      have e : l.take (1 + (figs l).length) = 45 :: figs l := by
        rw [Nat.add_comm, hl', List.take_succ_cons, ← hl', hf', take_while]
      rw [hs1, e, if_pos rfl]
      exact intText_neg (cs := figs l) rfl hdig (by rw [hcr]; exact List.cons_ne_nil _ _) (by rw [SX.S_len, List.length_cons]; omega)
    · have hs0 : sgn l = 0 := by unfold sgn; rw [if_neg h]
      have e : l.take (0 + (figs l).length) = figs l := by
        rw [Nat.zero_add]
        unfold figs
        rw [hs0, List.drop_zero, take_while]
      rw [hs0, e, if_neg (by decide)]
      exact intText_digits (x := SX.S (figs l)) hdig (by show figs l ≠ []; rw [hcr]; exact List.cons_ne_nil _ _) (by rw [SX.S_len]; omega)
  have hlen : (SX.S (l.take (sgn l + (figs l).length))).length ≤ 640 := by
    rw [SX.S_len, List.length_take]
    have : sgn l ≤ 1 := by unfold sgn; split <;> omega
    omega
  refine ⟨_, rfl, SX.S (figs l), 0, c, rfl, rfl, by decide, by decide, by rw [SX.S_len]; omega, by rw [hcr]; rfl, rfl, _, rfl, ?_⟩
  have hz : ("0" : Str) = SX.S [48] := by decide +kernel
  by_cases c3 : c = 48
  · refine iteY (by rw [c3, hz]) ?_
    refine ⟨_, rfl, _, rfl, hlf, _, _, rfl, rfl, _, rfl, ?_⟩
    rw [SX.S_len]
    by_cases c4 : (((figs l).length : Nat) : Int) > 1
    · refine iteY c4 ?_
      exact iteT (qe (by unfold rNum; rw [if_neg hnot, if_pos ⟨by rw [htk, c3], .inl (by omega)⟩]) _ (Same.refl H))
    refine iteN c4 ?_
    refine ⟨_, rfl, _, rfl, _, _, rfl, rfl, _, rfl, ?_⟩
    by_cases c5 : (a : Int) + ((sgn l : Nat) : Int) > (a : Int)
    · refine iteY c5 ?_
      exact qe (by unfold rNum; rw [if_neg hnot, if_pos ⟨by rw [htk, c3], .inr (by omega)⟩]) _ (Same.refl H)
    refine iteN c5 ?_
    have hno : ¬ ((figs l).take 1 = [48] ∧ (1 < (figs l).length ∨ 0 < sgn l)) := fun z => by
      rcases z.2 with z | z <;> omega
    refine ⟨_, rfl, _, rfl, _, rfl, _, rfl, _, rfl, _, rfl, hl, _, _, congrArg (fun z => [V.str z]) hcut3, hint, hlen, le_line (Nat.le_of_ble_eq_true rfl), fun p1 n1 => ⟨_, rfl, le_line (Nat.le_of_ble_eq_true rfl), fun p2 n2 => ?_⟩⟩
    refine q (.num (if sgn l = 1 then -(digVal (figs l) : Int) else digVal (figs l))) (sgn l + (figs l).length) (by unfold rNum; rw [if_neg hnot, if_neg hno]) _ p2 (.ref p1) ((same_new n1 _).trans (same_new n2 _)) ?_ ⟨p1, rfl, ?_⟩
    · rw [← Nat.add_assoc]
      exact upd_same
    · rw [upd_ne (ne_of_none upd_same n2), upd_same]
  · have hno : ¬ ((figs l).take 1 = [48] ∧ (1 < (figs l).length ∨ 0 < sgn l)) := fun z => by
      rw [htk] at z
      exact c3 (List.head_eq_of_cons_eq z.1)
    refine iteN (fun z => c3 (by rw [hz] at z; exact List.head_eq_of_cons_eq (SS_eq.mp (show V.str (SX.S [c]) = V.str (SX.S [48]) from z)))) ?_
    refine ⟨_, rfl, _, rfl, _, rfl, _, rfl, _, rfl, _, rfl, hl, _, _, congrArg (fun z => [V.str z]) hcut3, hint, hlen, le_line (Nat.le_of_ble_eq_true rfl), fun p1 n1 => ⟨_, rfl, le_line (Nat.le_of_ble_eq_true rfl), fun p2 n2 => ?_⟩⟩
    refine q (.num (if sgn l = 1 then -(digVal (figs l) : Int) else digVal (figs l))) (sgn l + (figs l).length) (by unfold rNum; rw [if_neg hnot, if_neg hno]) _ p2 (.ref p1) ((same_new n1 _).trans (same_new n2 _)) ?_ ⟨p1, rfl, ?_⟩
    · rw [← Nat.add_assoc]
      exact upd_same
    · rw [upd_ne (ne_of_none upd_same n2), upd_same]
end
theorem SX1 {z : List Nat} {a k : Nat} {i j : Int} (hi : i = (a : Int)) (hj : j = ((a + k : Nat) : Int)) : cutS (SX.S z) (some i) (some j) = SX.S ((z.drop a).take k) := by
  rw [hi, hj]; exact cutS_nat z a k
section
variable {P : Program} {w : World} {K : PySem.W.Frag} {mg : Str → Option Value} {base : Heap}
abbrev s_read_two : Stmt := topS 29
abbrev N_read_two : List Str := ["text", "at", "depth", "one", "word", "other"]
theorem sc_read_two : FnScope N_read_two ["text", "at", "depth"] (defScope s_read_two) := ⟨rfl, rfl, rfl, by decide +kernel, rfl, by decide +kernel, by decide +kernel⟩

theorem ok_read_two {C wd : Addr} {es : Array DictEntry} {n0 k j : Nat} (T : Txt K mg) (XW : WordsT K w mg wd es n0) (XNoText : NoT K mg C) (D : IsDef K mg "read_two" s_read_two ["text", "at", "depth"])
    (C_expected : Cal P w K mg base (L2.CX P w) 1 "expected" ["text", "at", "word"] (spExp C)) (hj1 : 1 ≤ j) (C_read_part : Cal P w K mg base (L2.CX P w) j "read_part" ["text", "at", "depth"] (spRdD C k (rPart k))) :
    Cal P w K mg base (L2.CX P w) (j + 1) "read_two" ["text", "at", "depth"] (spRdD C (k + 1) (rTwo (rPart k))) := by
  refine D.calX sc_read_two (fun vs H Q E h => ?_) (fun f cdv A outer s H vs Q E hr h => ?_)
  · obtain ⟨L, a, d, rfl, _⟩ := h
    rfl
  obtain ⟨L, a, d, rfl, hdm, ht, qe, q⟩ := h
  have g_WORDS := XW.g
  have hL := tame_len ht
  have hl : (SX.S L).length ≤ sizeLine := by rw [SX.S_len]; exact le_line (by omega)
  refine ⟨_, (pss_cons (ps_asg (pe_cal C_read_part (hr.mono (by first | decide | omega)) (passes_call (takes_of rfl rfl rfl rfl) (fun _ _ _ _ h => h)) (pa_cons (pv 0) (pa_cons (pv 1) (pa_cons (pe_op op_add (pv 2) pe_int) pa_nil)))) (pg_tup rfl (pgs_cons (pg_name (i := 3) sc_read_two.nd rfl (Or.inl rfl)) (pgs_cons (pg_name (i := 1) sc_read_two.nd rfl (Or.inl rfl)) pgs_nil))))
      (pss_cons (ps_if (pt_cmpR (op_notIn_kd XW.dict) (pe_slice sl_str (pv 0) (po_some (pv 1)) (po_some (pe_op op_add (pv 1) pe_int))) (pe_glob (v := .ref _) rfl g_WORDS rfl) (by with_unfolding_all rfl))
        (pss_one (ps_raise rfl (takes_of rfl rfl rfl rfl) (pmk_own PySem.F.excBase_ValueError XNoText.x XNoText.g XNoText.k (raises_own XNoText.b XNoText.t) rfl)))
        pss_nil)
      (pss_cons (ps_set (i := 4) sc_read_two.nd rfl (Or.inl rfl) (pe_ix (r := rIxD K w) ix_kdict (pe_glob (v := .ref _) rfl g_WORDS rfl) (pe_slice sl_str (pv 0) (po_some (pv 1)) (po_some (pe_op op_add (pv 1) pe_int))) (fun _ _ => rfl)))
      (pss_cons (ps_asg (pe_cal C_read_part (hr.mono (by first | decide | omega)) (passes_call (takes_of rfl rfl rfl rfl) (fun _ _ _ _ h => h)) (pa_cons (pv 0) (pa_cons (pe_op op_add (pv 1) pe_int) (pa_cons (pe_op op_add (pv 2) pe_int) pa_nil)))) (pg_tup rfl (pgs_cons (pg_name (i := 5) sc_read_two.nd rfl (Or.inl rfl)) (pgs_cons (pg_name (i := 1) sc_read_two.nd rfl (Or.inl rfl)) pgs_nil))))
      (pss_one (ps_ret (pe_tup (pa_cons (pe_tup (pa_cons (pv 4) (pa_cons (pv 3) (pa_cons (pv 5) pa_nil)))) (pa_cons (pe_cal C_expected (hr.mono (by first | decide | omega)) (passes_call (takes_of rfl rfl rfl rfl) (fun _ _ _ _ h => h)) (pa_cons (pv 0) (pa_cons (pv 1) (pa_cons pe_str pa_nil)))) pa_nil))))))))), ?_⟩
  have dd : ∀ i : Nat, L.drop (a + i) = (L.drop a).drop i := fun i => by rw [List.drop_drop]
  refine ⟨_, rfl, _, rfl, _, rfl, _, _, rfl, rfl, L, a, d + 1, rfl, by omega, ht, fun hg => qe (by unfold rTwo; rw [hg]), fun r1 n1 hg1 H1 p1 v1 hs1 hp1 hr1 => ?_⟩
  refine ⟨p1, _, rfl, SqT.of hp1, rfl, v1, _, rfl, _, _, rfl, rfl, ?_⟩
  have hc : cutS (SX.S L) (some ((a + n1 : Nat) : Int)) (some (((a + n1 : Nat) : Int) + 3)) = SX.S (((L.drop a).drop n1).take 3) := by rw [← dd]; exact cutS_add L (a + n1) 3
  cases hw : twoWord (((L.drop a).drop n1).take 3) with
  | none =>
    refine ⟨_, rfl, _, rfl, _, rfl, _, rfl, _, _, rfl, rfl, _, rfl, _, rfl, hl, _, none, congrArg V.str hc, rfl, XW.no _ hw, _, rfl, iteT ?_⟩
    exact qe (by unfold rTwo; rw [hg1]; dsimp only; rw [hw]) _ hs1
  | some kd =>
    obtain ⟨es', n', u, hl1, hl2, hl3, hl4⟩ := XW.yes _ kd hw
    refine ⟨_, rfl, _, rfl, _, rfl, _, rfl, _, _, rfl, rfl, _, rfl, _, rfl, hl, _, some u, congrArg V.str hc, rfl, hl3, _, rfl, iteF ?_⟩
    refine ⟨_, rfl, _, rfl, _, rfl, _, rfl, _, _, rfl, rfl, _, rfl, _, rfl, hl, wd, _, .str kd.name, rfl, congrArg V.str hc, ⟨es', n', u, hl1, hl2, hl3, hl4⟩, ?_⟩
    have e2 : ∀ x, rPart k ((L.drop a).drop (n1 + 3)) = x → rPart k (L.drop (a + n1 + 3)) = x := fun x h => by rw [Nat.add_assoc, dd]; exact h
    have e3 : ∀ x, rPart k (L.drop (a + n1 + 3)) = x → rPart k ((L.drop a).drop (n1 + 3)) = x := fun x h => by rw [Nat.add_assoc, dd] at h; exact h
    refine ⟨_, rfl, _, rfl, _, _, rfl, rfl, _, rfl, _, _, rfl, rfl, L, a + n1 + 3, d + 1, rfl, by omega, ht, fun hg => ?_, fun r2 n2 hg2 H2 p2 v2 hs2 hp2 hr2 => ?_⟩
    · intro H2 hs2
      refine qe ?_ _ (hs1.trans hs2)
      unfold rTwo
      rw [hg1]
      dsimp only
      rw [hw]
      dsimp only
      rw [e3 _ hg]
    refine ⟨p2, _, rfl, SqT.of hp2, rfl, v2, _, rfl, _, _, rfl, rfl, ?_⟩
    have hq2 : rTwo (rPart k) (L.drop a) = if ((L.drop a).drop (n1 + 3 + n2)).take 1 = [41] then some (.two kd r1 r2, n1 + 3 + n2 + 1) else none := by
      unfold rTwo
      rw [hg1]
      dsimp only
      rw [hw]
      dsimp only
      rw [e3 _ hg2]
    have hb : (")" : Str) = SX.S [41] := by decide +kernel
    have ed : L.drop (a + n1 + 3 + n2) = (L.drop a).drop (n1 + 3 + n2) := by rw [← dd]; congr 1; omega
    refine ⟨_, rfl, _, rfl, _, rfl, le_line (Nat.le_of_ble_eq_true rfl), fun p3 np3 => ⟨_, rfl, _, rfl, L, a + n1 + 3 + n2, [41], by rw [hb]; rfl, hL, by decide, fun hne => ?_, fun he => ⟨le_line (Nat.le_of_ble_eq_true rfl), fun p4 np4 => ?_⟩⟩⟩
    · refine qe ?_ _ ((hs1.trans hs2).trans (same_new np3 _))
      rw [hq2, if_neg]
      rw [ed] at hne
      exact hne
    · have s4 : Same H2 (upd (upd H2 p3 (.tup [.str kd.name, v1, v2])) p4 (.tup [.ref p3, .int ((a + n1 + 3 + n2 + 1 : Nat) : Int)])) := (same_new np3 _).trans (same_new np4 _)
      refine q (.two kd r1 r2) (n1 + 3 + n2 + 1) (by rw [hq2, if_pos]; rw [ed] at he; exact he) _ p4 (.ref p3) ((hs1.trans hs2).trans s4) ?_ ⟨p3, v1, v2, rfl, ?_, (hr1.same hs2).same s4, hr2.same s4⟩
      · rw [show a + (n1 + 3 + n2 + 1) = a + n1 + 3 + n2 + 1 by omega]
        exact upd_same
      · rw [upd_ne (ne_of_none upd_same np4)]
        exact upd_same
abbrev s_read_pick : Stmt := topS 30
abbrev N_read_pick : List Str := ["text", "at", "depth", "test", "one", "other"]
theorem sc_read_pick : FnScope N_read_pick ["text", "at", "depth"] (defScope s_read_pick) := ⟨rfl, rfl, rfl, by decide +kernel, rfl, by decide +kernel, by decide +kernel⟩

theorem ok_read_pick {C : Addr} {k j : Nat} (T : Txt K mg) (XNoText : NoT K mg C) (D : IsDef K mg "read_pick" s_read_pick ["text", "at", "depth"])
    (C_expected : Cal P w K mg base (L2.CX P w) 1 "expected" ["text", "at", "word"] (spExp C)) (hj1 : 1 ≤ j) (C_read_part : Cal P w K mg base (L2.CX P w) j "read_part" ["text", "at", "depth"] (spRdD C k (rPart k))) :
    Cal P w K mg base (L2.CX P w) (j + 1) "read_pick" ["text", "at", "depth"] (spRdD C (k + 1) (rPick (rPart k))) := by
  refine D.calX sc_read_pick (fun vs H Q E h => ?_) (fun f cdv A outer s H vs Q E hr h => ?_)
  · obtain ⟨L, a, d, rfl, _⟩ := h
    rfl
  obtain ⟨L, a, d, rfl, hdm, ht, qe, q⟩ := h
  have hL := tame_len ht
  refine ⟨_, (pss_cons (ps_asg (pe_cal C_read_part (hr.mono (by first | decide | omega)) (passes_call (takes_of rfl rfl rfl rfl) (fun _ _ _ _ h => h)) (pa_cons (pv 0) (pa_cons (pv 1) (pa_cons (pe_op op_add (pv 2) pe_int) pa_nil)))) (pg_tup rfl (pgs_cons (pg_name (i := 3) sc_read_pick.nd rfl (Or.inl rfl)) (pgs_cons (pg_name (i := 1) sc_read_pick.nd rfl (Or.inl rfl)) pgs_nil))))
      (pss_cons (ps_asg (pe_cal C_read_part (hr.mono (by first | decide | omega)) (passes_call (takes_of rfl rfl rfl rfl) (fun _ _ _ _ h => h)) (pa_cons (pv 0) (pa_cons (pe_cal C_expected (hr.mono (by first | decide | omega)) (passes_call (takes_of rfl rfl rfl rfl) (fun _ _ _ _ h => h)) (pa_cons (pv 0) (pa_cons (pv 1) (pa_cons pe_str pa_nil)))) (pa_cons (pe_op op_add (pv 2) pe_int) pa_nil)))) (pg_tup rfl (pgs_cons (pg_name (i := 4) sc_read_pick.nd rfl (Or.inl rfl)) (pgs_cons (pg_name (i := 1) sc_read_pick.nd rfl (Or.inl rfl)) pgs_nil))))
      (pss_cons (ps_asg (pe_cal C_read_part (hr.mono (by first | decide | omega)) (passes_call (takes_of rfl rfl rfl rfl) (fun _ _ _ _ h => h)) (pa_cons (pv 0) (pa_cons (pe_cal C_expected (hr.mono (by first | decide | omega)) (passes_call (takes_of rfl rfl rfl rfl) (fun _ _ _ _ h => h)) (pa_cons (pv 0) (pa_cons (pv 1) (pa_cons pe_str pa_nil)))) (pa_cons (pe_op op_add (pv 2) pe_int) pa_nil)))) (pg_tup rfl (pgs_cons (pg_name (i := 5) sc_read_pick.nd rfl (Or.inl rfl)) (pgs_cons (pg_name (i := 1) sc_read_pick.nd rfl (Or.inl rfl)) pgs_nil))))
      (pss_one (ps_ret (pe_tup (pa_cons (pe_tup (pa_cons pe_str (pa_cons (pv 3) (pa_cons (pv 4) (pa_cons (pv 5) pa_nil))))) (pa_cons (pe_cal C_expected (hr.mono (by first | decide | omega)) (passes_call (takes_of rfl rfl rfl rfl) (fun _ _ _ _ h => h)) (pa_cons (pv 0) (pa_cons (pv 1) (pa_cons pe_str pa_nil)))) pa_nil)))))))), ?_⟩
  have dd : ∀ i : Nat, L.drop (a + i) = (L.drop a).drop i := fun i => by rw [List.drop_drop]
  refine ⟨_, rfl, _, rfl, _, rfl, _, _, rfl, rfl, L, a, d + 1, rfl, by omega, ht, fun hg => qe (by unfold rPick; rw [hg]), fun r1 n1 hg1 H1 p1 v1 hs1 hp1 hr1 => ?_⟩
  refine ⟨p1, _, rfl, SqT.of hp1, rfl, v1, _, rfl, _, _, rfl, rfl, ?_⟩
  have b1 : (" ? " : Str) = SX.S [32, 63, 32] := by decide +kernel
  have b2 : (" : " : Str) = SX.S [32, 58, 32] := by decide +kernel
  have b3 : ("]" : Str) = SX.S [93] := by decide +kernel
  have t1 : L.drop (a + n1) = (L.drop a).drop n1 := dd n1
  have hq1 : rPick (rPart k) (L.drop a) = if ((L.drop a).drop n1).take 3 = [32, 63, 32] then
      match rPart k ((L.drop a).drop (n1 + 3)) with
      | none => none
      | some (b, m) => if ((L.drop a).drop (n1 + 3 + m)).take 3 = [32, 58, 32] then
          match rPart k ((L.drop a).drop (n1 + 3 + m + 3)) with
          | none => none
          | some (c, o) => if ((L.drop a).drop (n1 + 3 + m + 3 + o)).take 1 = [93] then some (.pick r1 b c, n1 + 3 + m + 3 + o + 1) else none
        else none
    else none := by
    unfold rPick
    rw [hg1]
    try rfl
  refine ⟨_, rfl, _, rfl, _, rfl, L, a + n1, [32, 63, 32], by rw [b1]; rfl, hL, by decide, fun hne => qe (by rw [hq1, if_neg]; rw [t1] at hne; exact hne) _ hs1, fun he1 => ?_⟩
  rw [t1] at he1
  have he1' : ((L.drop a).drop n1).take 3 = [32, 63, 32] := he1
  rw [if_pos he1'] at hq1
  have e3 : L.drop (a + n1 + 3) = (L.drop a).drop (n1 + 3) := by rw [Nat.add_assoc, dd]
  refine ⟨_, rfl, _, _, rfl, rfl, L, a + n1 + 3, d + 1, rfl, by omega, ht, fun hg H2 hs2 => ?_, fun r2 n2 hg2 H2 p2 v2 hs2 hp2 hr2 => ?_⟩
  · refine qe ?_ _ (hs1.trans hs2)
    rw [e3] at hg
    rw [hq1, hg]
  rw [e3] at hg2
  rw [hg2] at hq1
  dsimp only at hq1
  refine ⟨p2, _, rfl, SqT.of hp2, rfl, v2, _, rfl, _, _, rfl, rfl, ?_⟩
  have t2 : L.drop (a + n1 + 3 + n2) = (L.drop a).drop (n1 + 3 + n2) := by rw [← dd]; congr 1; omega
  refine ⟨_, rfl, _, rfl, _, rfl, L, a + n1 + 3 + n2, [32, 58, 32], by rw [b2]; rfl, hL, by decide, fun hne => qe (by rw [hq1, if_neg]; rw [t2] at hne; exact hne) _ (hs1.trans hs2), fun he2 => ?_⟩
  rw [t2] at he2
  have he2' : ((L.drop a).drop (n1 + 3 + n2)).take 3 = [32, 58, 32] := he2
  rw [if_pos he2'] at hq1
  have e4 : L.drop (a + n1 + 3 + n2 + 3) = (L.drop a).drop (n1 + 3 + n2 + 3) := by rw [← dd]; congr 1; omega
  refine ⟨_, rfl, _, _, rfl, rfl, L, a + n1 + 3 + n2 + 3, d + 1, rfl, by omega, ht, fun hg H3 hs3 => ?_, fun r3 n3 hg3 H3 p3 v3 hs3 hp3 hr3 => ?_⟩
  · refine qe ?_ _ ((hs1.trans hs2).trans hs3)
    rw [e4] at hg
    rw [hq1, hg]
  rw [e4] at hg3
  rw [hg3] at hq1
  dsimp only at hq1
  refine ⟨p3, _, rfl, SqT.of hp3, rfl, v3, _, rfl, _, _, rfl, rfl, ?_⟩
  have t3 : L.drop (a + n1 + 3 + n2 + 3 + n3) = (L.drop a).drop (n1 + 3 + n2 + 3 + n3) := by rw [← dd]; congr 1; omega
  refine ⟨_, rfl, _, rfl, _, rfl, le_line (Nat.le_of_ble_eq_true rfl), fun p4 np4 => ⟨_, rfl, _, rfl, L, a + n1 + 3 + n2 + 3 + n3, [93], by rw [b3]; rfl, hL, by decide, fun hne => ?_, fun he => ⟨le_line (Nat.le_of_ble_eq_true rfl), fun p5 np5 => ?_⟩⟩⟩
  · refine qe ?_ _ (((hs1.trans hs2).trans hs3).trans (same_new np4 _))
    rw [hq1, if_neg]
    rw [t3] at hne
    exact hne
  · rw [t3] at he
    have he' : ((L.drop a).drop (n1 + 3 + n2 + 3 + n3)).take 1 = [93] := he
    rw [if_pos he'] at hq1
    have s5 : Same H3 (upd (upd H3 p4 (.tup [.str "pick", v1, v2, v3])) p5 (.tup [.ref p4, .int ((a + n1 + 3 + n2 + 3 + n3 + 1 : Nat) : Int)])) := (same_new np4 _).trans (same_new np5 _)
    refine q (.pick r1 r2 r3) (n1 + 3 + n2 + 3 + n3 + 1) hq1 _ p5 (.ref p4) (((hs1.trans hs2).trans hs3).trans s5) ?_ ⟨p4, v1, v2, v3, rfl, ?_, ((hr1.same hs2).same hs3).same s5, (hr2.same hs3).same s5, hr3.same s5⟩
    · rw [show a + (n1 + 3 + n2 + 3 + n3 + 1) = a + n1 + 3 + n2 + 3 + n3 + 1 by omega]
      exact upd_same
    · rw [upd_ne (ne_of_none upd_same np5)]
      exact upd_same
end
theorem sn_in : (fun c => decide (c ∈ letters ++ [44])) = fun c => isLt c || decide (c = 44) := funext fun c => by
  have h : decide (c ∈ letters) = isLt c := congrFun lt_in c
  rw [← h]
  simp only [List.mem_append, List.mem_singleton]
  exact Bool.decide_or _ _
theorem take1 {l : List Nat} {c : Nat} (h : l.take 1 = [c]) : ∃ l', l = c :: l' := by
  cases l with
  | nil => cases h
  | cons x l' => exact ⟨l', by rw [show x = c from List.head_eq_of_cons_eq h]⟩
/-- all of it is a recipe -/
theorem are_nms {ps : List (List Nat)} (h : (Th.tup (nmsTh ps)).areNms = true) : Nms ps := by
  have e : (decide (1 ≤ (nmsTh ps).length) && decide ((nmsTh ps).length ≤ 9) && (nmsTh ps).all Th.isNm) = true := h
  rw [Bool.and_eq_true, Bool.and_eq_true, decide_eq_true_eq, decide_eq_true_eq, List.all_eq_true] at e
  have hl : (nmsTh ps).length = ps.length := List.length_map _
  rw [hl] at e
  refine ⟨e.1.1, e.1.2, fun s hs => ?_⟩
  have := e.2 (.str s) (List.mem_map.mpr ⟨s, hs, rfl⟩)
  exact nmOk_iff.mp this
theorem tame_drop {z : List Nat} (h : tameS z = true) (a : Nat) (p : Nat → Bool) : tameS ((z.drop a).takeWhile p) = true := by
  have := tame_cut h a ((z.drop a).takeWhile p).length
  rw [take_while] at this
  exact this
/-- what is parted is no longer than the whole, and of the same signs -/
theorem spl_tame : ∀ (z acc : List Nat) (k : Nat), (∀ c ∈ acc, c < 128) → (∀ c ∈ z, c < 128) → ∀ p ∈ TL.spl [44] k acc z, p.length ≤ acc.length + z.length ∧ ∀ c ∈ p, c < 128
  | [], acc, k, ha, hz, p, hp => by
    rw [TL.spl_nil] at hp
    rw [List.mem_singleton.mp hp]
    exact ⟨Nat.le_refl _, ha⟩
  | c :: z, acc, 0, ha, hz, p, hp => by
    have hz' : ∀ x ∈ z, x < 128 := fun x hx => hz x (List.mem_cons_of_mem _ hx)
    by_cases hpre : TL.pre [44] (c :: z) = true
    · rw [TL.spl_hit hpre] at hp
      rcases List.mem_cons.mp hp with e | hp
      · rw [e]; exact ⟨Nat.le_add_right _ _, ha⟩
      · have := spl_tame z [] _ (fun _ h => by cases h) hz' p hp
        refine ⟨?_, this.2⟩
        have h1 := this.1
        rw [List.length_cons]
        simp only [List.length_nil] at h1
        omega
    · rw [TL.spl_miss (Bool.eq_false_iff.mpr hpre)] at hp
      have := spl_tame z (acc ++ [c]) 0 (fun x hx => by
        rcases List.mem_append.mp hx with h | h
        · exact ha x h
        · rw [List.mem_singleton.mp h]; exact hz c (List.mem_cons_self ..)) hz' p hp
      refine ⟨?_, this.2⟩
      have h1 := this.1
      rw [List.length_append] at h1
      rw [List.length_cons]
      simp only [List.length_cons, List.length_nil] at h1
      omega
  | c :: z, acc, k + 1, ha, hz, p, hp => by
    have hz' : ∀ x ∈ z, x < 128 := fun x hx => hz x (List.mem_cons_of_mem _ hx)
    have := spl_tame z acc k ha hz' p hp
    refine ⟨?_, this.2⟩
    have h1 := this.1
    rw [List.length_cons]
    omega
theorem spl_len : ∀ (z acc : List Nat) (k : Nat), (TL.spl [44] k acc z).length ≤ z.length + 1
  | [], acc, k => by rw [TL.spl_nil]; exact Nat.le_refl _
  | c :: z, acc, 0 => by
    by_cases hpre : TL.pre [44] (c :: z) = true
    · rw [TL.spl_hit hpre]
      have := spl_len z [] ([44] : List Nat).length.pred
      show (TL.spl [44] _ [] z).length + 1 ≤ z.length + 1 + 1
      exact Nat.succ_le_succ (spl_len z [] _)
    · rw [TL.spl_miss (Bool.eq_false_iff.mpr hpre)]
      have := spl_len z (acc ++ [c]) 0
      rw [List.length_cons]
      omega
  | c :: z, acc, k + 1 => by
    have := spl_len z acc k
    show (TL.spl [44] k acc z).length ≤ z.length + 1 + 1
    omega
theorem split_is (z : List Nat) : Txt.split (SX.S z) "," = (TL.spl [44] 0 [] z).map SX.S := by
  have h := TL.split_spl (SX.S z) "," (by decide +kernel) (TL.kind_ok (by decide +kernel))
  have h2 := congrArg (List.map SX.S) h
  rw [List.map_map] at h2
  have e : (SX.S ∘ TL.tl) = (id : Str → Str) := by funext y; exact SX.S_tl y
  rw [e, List.map_id] at h2
  rw [h2]
  rfl
theorem low_py : ∀ {ns : List (List Nat)}, (∀ s ∈ ns, ∀ c ∈ s, c < 128) → PyData.canLayAll0 (Th.pyL (nmsTh ns)) = true ∧ PyData.depthAll (Th.pyL (nmsTh ns)) = 0
  | [], _ => ⟨rfl, rfl⟩
  | s :: ns, h => by
    have ih := low_py (ns := ns) fun x hx => h x (List.mem_cons_of_mem _ hx)
    refine ⟨?_, ?_⟩
    · show ((SX.S s).cps.all (· < 0x110000) && PyData.canLayAll0 (Th.pyL (nmsTh ns))) = true
      rw [ih.1, Bool.and_true]
      have hs := h s (List.mem_cons_self ..)
      rw [← Array.all_toList, List.all_eq_true]
      intro c hc
      have := hs c hc
      exact decide_eq_true (by omega)
    · show max 0 (PyData.depthAll (Th.pyL (nmsTh ns))) = 0
      rw [ih.2]
      rfl
theorem low_shaped {ns : List (List Nat)} (h : ∀ s ∈ ns, ∀ c ∈ s, c < 128) : SeqAt.shaped (.list (Th.pyL (nmsTh ns))) = true := by
  rw [shaped_parts, (low_py h).1, (low_py h).2]
  exact ⟨rfl, by decide⟩
theorem low_tameL : ∀ {ns : List (List Nat)}, (∀ s ∈ ns, tameS s = true) → Th.tameL (nmsTh ns) = true
  | [], _ => rfl
  | s :: ns, h => by
    show (tameS s && Th.tameL (nmsTh ns)) = true
    rw [h s (List.mem_cons_self ..), low_tameL fun x hx => h x (List.mem_cons_of_mem _ hx)]
    rfl
theorem low_tame {ns : List (List Nat)} (h : ∀ s ∈ ns, tameS s = true) (hl : ns.length ≤ 1000000) : (Th.tup (nmsTh ns)).tame = true := by
  refine tame_tup (low_tameL h) (by unfold nmsTh; rw [List.length_map]; exact hl) ?_
  match ns with
  | [] => rfl
  | [a] => rfl
  | [a, b] => rfl
  | [a, b, c] => rfl
  | a :: b :: c :: d :: r => rfl
theorem tame_of {z : List Nat} (h1 : z.length ≤ 1000000) (h2 : ∀ c ∈ z, c < 128) : tameS z = true := by
  unfold tameS
  rw [decide_eq_true h1, List.all_eq_true.mpr fun c hc => decide_eq_true (h2 c hc)]
  rfl
theorem tame_low {z : List Nat} (h : tameS z = true) : ∀ c ∈ z, c < 128 := by
  unfold tameS at h
  rw [Bool.and_eq_true, List.all_eq_true] at h
  exact fun c hc => of_decide_eq_true (h.2 c hc)
/-- the parts of a tame text, short of a million -/
theorem parts_tameS {z : List Nat} (h : tameS z = true) : (∀ s ∈ TL.spl [44] 0 [] z, ∀ c ∈ s, c < 128) ∧ ∀ s ∈ TL.spl [44] 0 [] z, tameS s = true := by
  have hp := spl_tame z [] 0 (fun _ h => by cases h) (tame_low h)
  refine ⟨fun s hs => (hp s hs).2, fun s hs => tame_of ?_ (hp s hs).2⟩
  have h1 := (hp s hs).1
  have h2 := tame_len h
  simp only [List.length_nil] at h1
  omega
section
variable {P : Program} {w : World} {K : PySem.W.Frag} {mg : Str → Option Value} {base : Heap}
abbrev s_read_part : Stmt := topS 31
abbrev N_read_part : List Str := ["text", "at", "depth", "sign", "found", "behind", "names"]
theorem sc_read_part : FnScope N_read_part ["text", "at", "depth"] (defScope s_read_part) := ⟨rfl, rfl, rfl, by decide +kernel, rfl, by decide +kernel, by decide +kernel⟩

theorem ok_read_part0 {C tw : Addr} {i j : Nat} (T : Txt K mg) (R : RTxt K mg tw) (XNoText : NoT K mg C) (D : IsDef K mg "read_part" s_read_part ["text", "at", "depth"])
    (C_behind_signs : Cal P w K mg base CX0 1 "behind_signs" ["text", "at", "signs"] spBehind) (C_are_names : Cal P w K mg base CX0 2 "are_names" ["thing"] spAreNames) (C_expected : Cal P w K mg base (L2.CX P w) 1 "expected" ["text", "at", "word"] (spExp C))
    (C_read_name : Cal P w K mg base (L2.CX P w) 2 "read_name" ["text", "at"] (spRd C rName)) (C_read_number : Cal P w K mg base (L2.CX P w) 2 "read_number" ["text", "at"] (spRd C rNum))
    (C_read_two : Cal P w K mg base (L2.CX P w) 1 "read_two" ["text", "at", "depth"] fun _ _ _ _ => False) (C_read_pick : Cal P w K mg base (L2.CX P w) 1 "read_pick" ["text", "at", "depth"] fun _ _ _ _ => False) :
    Cal P w K mg base (L2.CX P w) 3 "read_part" ["text", "at", "depth"] (spRdD C 0 (rPart 0)) := by
  refine D.calX sc_read_part (fun vs H Q E h => ?_) (fun f cdv A outer s H vs Q E hr h => ?_)
  · obtain ⟨L, a, d, rfl, _⟩ := h
    rfl
  obtain ⟨L, a, d, rfl, hdm, ht, qe, q⟩ := h
  obtain ⟨_, g_LETTERS⟩ := R.LETTERS
  obtain ⟨_, g_DEEPEST⟩ := R.DEEPEST
  refine ⟨_, (pss_cons (ps_if (pt_cmpR op_gt (pv 2) (pe_glob (v := .int _) rfl g_DEEPEST ⟨_, rfl⟩) (nomark _))
        (pss_one (ps_raise rfl (takes_of rfl rfl rfl rfl) (pmk_own PySem.F.excBase_ValueError XNoText.x XNoText.g XNoText.k (raises_own XNoText.b XNoText.t) rfl)))
        pss_nil)
      (pss_cons (ps_set (i := 3) sc_read_part.nd rfl (Or.inl rfl) (pe_slice sl_str (pv 0) (po_some (pv 1)) (po_some (pe_op op_add (pv 1) pe_int))))
      (pss_cons (ps_if (pt_cmpR op_eq (pv 3) pe_str (nomark _))
        (pss_one (ps_asg (pe_cal C_read_two (hr.mono (by first | decide | omega)) (passes_call (takes_of rfl rfl rfl rfl) (fun _ _ _ _ h => h)) (pa_cons (pv 0) (pa_cons (pe_op op_add (pv 1) pe_int) (pa_cons (pv 2) pa_nil)))) (pg_tup rfl (pgs_cons (pg_name (i := 4) sc_read_part.nd rfl (Or.inl rfl)) (pgs_cons (pg_name (i := 1) sc_read_part.nd rfl (Or.inl rfl)) pgs_nil)))))
        (pss_one (ps_if (pt_cmpR op_eq (pv 3) pe_str (nomark _))
        (pss_one (ps_asg (pe_cal C_read_pick (hr.mono (by first | decide | omega)) (passes_call (takes_of rfl rfl rfl rfl) (fun _ _ _ _ h => h)) (pa_cons (pv 0) (pa_cons (pe_op op_add (pv 1) pe_int) (pa_cons (pv 2) pa_nil)))) (pg_tup rfl (pgs_cons (pg_name (i := 4) sc_read_part.nd rfl (Or.inl rfl)) (pgs_cons (pg_name (i := 1) sc_read_part.nd rfl (Or.inl rfl)) pgs_nil)))))
        (pss_one (ps_if (PW.pt (pw_and (pt_cmpR op_ne (pv 3) pe_str (nomark _)) (pw_and1 (pt_cmpR op_in_sign (pv 3) (pe_glob (v := .str _) rfl g_LETTERS ⟨_, rfl⟩) rfl))))
        (pss_one (ps_asg (pe_cal C_read_name (hr.mono (by first | decide | omega)) (passes_call (takes_of rfl rfl rfl rfl) (fun _ _ _ _ h => h)) (pa_cons (pv 0) (pa_cons (pv 1) pa_nil))) (pg_tup rfl (pgs_cons (pg_name (i := 4) sc_read_part.nd rfl (Or.inl rfl)) (pgs_cons (pg_name (i := 1) sc_read_part.nd rfl (Or.inl rfl)) pgs_nil)))))
        (pss_one (ps_asg (pe_cal C_read_number (hr.mono (by first | decide | omega)) (passes_call (takes_of rfl rfl rfl rfl) (fun _ _ _ _ h => h)) (pa_cons (pv 0) (pa_cons (pv 1) pa_nil))) (pg_tup rfl (pgs_cons (pg_name (i := 4) sc_read_part.nd rfl (Or.inl rfl)) (pgs_cons (pg_name (i := 1) sc_read_part.nd rfl (Or.inl rfl)) pgs_nil))))))))))
      (pss_cons (ps_while (passes_of rfl) (pt_cmpR op_eq (pe_slice sl_str (pv 0) (po_some (pv 1)) (po_some (pe_op op_add (pv 1) pe_int))) pe_str (nomark _))
        (pss_cons (ps_set (i := 5) sc_read_part.nd rfl (Or.inl rfl) (pe_cal C_behind_signs (hr.mono (by first | decide | omega)) pass0 (pa_cons (pv 0) (pa_cons (pe_op op_add (pv 1) pe_int) (pa_cons (pe_op op_add_str (pe_glob (v := .str _) rfl g_LETTERS ⟨_, rfl⟩) pe_str) pa_nil)))))
      (pss_cons (ps_set (i := 6) sc_read_part.nd rfl (Or.inl rfl) (pe_callTy call_tuple_of (by rfl) T.b_tuple (by decide +kernel) (pa_cons (pe_split (pe_slice sl_str (pv 0) (po_some (pe_op op_add (pv 1) pe_int)) (po_some (pv 5))) pe_str) pa_nil)))
      (pss_cons (ps_if (pt_not (pt_val (pe_cal C_are_names (hr.mono (by first | decide | omega)) pass0 (pa_cons (pv 6) pa_nil))))
        (pss_one (ps_raise rfl (takes_of rfl rfl rfl rfl) (pmk_own PySem.F.excBase_ValueError XNoText.x XNoText.g XNoText.k (raises_own XNoText.b XNoText.t) rfl)))
        pss_nil)
      (pss_cons (ps_set (i := 4) sc_read_part.nd rfl (Or.inl rfl) (pe_tup (pa_cons pe_str (pa_cons (pv 4) (pa_cons (pv 6) pa_nil)))))
      (pss_one (ps_set (i := 1) sc_read_part.nd rfl (Or.inl rfl) (pe_cal C_expected (hr.mono (by first | decide | omega)) (passes_call (takes_of rfl rfl rfl rfl) (fun _ _ _ _ h => h)) (pa_cons (pv 0) (pa_cons (pv 5) (pa_cons pe_str pa_nil)))))))))))
      (pss_one (ps_ret (pe_tup (pa_cons (pv 4) (pa_cons (pv 1) pa_nil))))))))), ?_⟩
  refine ⟨_, rfl, _, _, rfl, rfl, _, rfl, iteY (by omega) ?_⟩
  exact qe rfl _ (Same.refl H)
theorem ok_read_part {C tw : Addr} {k j : Nat} (T : Txt K mg) (R : RTxt K mg tw) (XNoText : NoT K mg C) (D : IsDef K mg "read_part" s_read_part ["text", "at", "depth"])
    (C_behind_signs : Cal P w K mg base CX0 1 "behind_signs" ["text", "at", "signs"] spBehind) (C_are_names : Cal P w K mg base CX0 2 "are_names" ["thing"] spAreNames) (C_expected : Cal P w K mg base (L2.CX P w) 1 "expected" ["text", "at", "word"] (spExp C))
    (C_read_name : Cal P w K mg base (L2.CX P w) 2 "read_name" ["text", "at"] (spRd C rName)) (C_read_number : Cal P w K mg base (L2.CX P w) 2 "read_number" ["text", "at"] (spRd C rNum)) (hj : 2 ≤ j)
    (C_read_two : Cal P w K mg base (L2.CX P w) j "read_two" ["text", "at", "depth"] (spRdD C (k + 1) (rTwo (rPart k)))) (C_read_pick : Cal P w K mg base (L2.CX P w) j "read_pick" ["text", "at", "depth"] (spRdD C (k + 1) (rPick (rPart k)))) :
    Cal P w K mg base (L2.CX P w) (j + 1) "read_part" ["text", "at", "depth"] (spRdD C (k + 1) (rPart (k + 1))) := by
  refine D.calX sc_read_part (fun vs H Q E h => ?_) (fun f cdv A outer s H vs Q E hr h => ?_)
  · obtain ⟨L, a, d, rfl, _⟩ := h
    rfl
  obtain ⟨L, a, d, rfl, hdm, ht, qe, q⟩ := h
  obtain ⟨_, g_LETTERS⟩ := R.LETTERS
  obtain ⟨_, g_DEEPEST⟩ := R.DEEPEST
  have hL := tame_len ht
  have hl : (SX.S L).length ≤ sizeLine := by rw [SX.S_len]; exact le_line (by omega)
  have hbr : ("{" : Str) = SX.S [123] := by decide +kernel
  have hb1 : ("(" : Str) = SX.S [40] := by decide +kernel
  have hb2 : ("[" : Str) = SX.S [91] := by decide +kernel
  have hb3 : ("" : Str) = SX.S [] := by decide +kernel
  have hc1 : cutS (SX.S L) (some (a : Int)) (some ((a : Int) + 1)) = SX.S ((L.drop a).take 1) := cutS_add L a 1
  have d1 : L.drop (a + 1) = (L.drop a).drop 1 := by rw [List.drop_drop]
  have hP : ∀ x, rBase (rPart k) (L.drop a) = x → rPart (k + 1) (L.drop a) = (match x with | none => none | some (r, n) => rTail (L.drop a).length (L.drop a) r n) := fun x h => by rw [← h]; rfl
  refine ⟨_, (pss_cons (ps_if (pt_cmpR op_gt (pv 2) (pe_glob (v := .int _) rfl g_DEEPEST ⟨_, rfl⟩) (nomark _))
        (pss_one (ps_raise rfl (takes_of rfl rfl rfl rfl) (pmk_own PySem.F.excBase_ValueError XNoText.x XNoText.g XNoText.k (raises_own XNoText.b XNoText.t) rfl)))
        pss_nil)
      (pss_cons (ps_set (i := 3) sc_read_part.nd rfl (Or.inl rfl) (pe_slice sl_str (pv 0) (po_some (pv 1)) (po_some (pe_op op_add (pv 1) pe_int))))
      (pss_cons (ps_if (pt_cmpR op_eq (pv 3) pe_str (nomark _))
        (pss_one (ps_asg (pe_cal C_read_two (hr.mono (by first | decide | omega)) (passes_call (takes_of rfl rfl rfl rfl) (fun _ _ _ _ h => h)) (pa_cons (pv 0) (pa_cons (pe_op op_add (pv 1) pe_int) (pa_cons (pv 2) pa_nil)))) (pg_tup rfl (pgs_cons (pg_name (i := 4) sc_read_part.nd rfl (Or.inl rfl)) (pgs_cons (pg_name (i := 1) sc_read_part.nd rfl (Or.inl rfl)) pgs_nil)))))
        (pss_one (ps_if (pt_cmpR op_eq (pv 3) pe_str (nomark _))
        (pss_one (ps_asg (pe_cal C_read_pick (hr.mono (by first | decide | omega)) (passes_call (takes_of rfl rfl rfl rfl) (fun _ _ _ _ h => h)) (pa_cons (pv 0) (pa_cons (pe_op op_add (pv 1) pe_int) (pa_cons (pv 2) pa_nil)))) (pg_tup rfl (pgs_cons (pg_name (i := 4) sc_read_part.nd rfl (Or.inl rfl)) (pgs_cons (pg_name (i := 1) sc_read_part.nd rfl (Or.inl rfl)) pgs_nil)))))
        (pss_one (ps_if (PW.pt (pw_and (pt_cmpR op_ne (pv 3) pe_str (nomark _)) (pw_and1 (pt_cmpR op_in_sign (pv 3) (pe_glob (v := .str _) rfl g_LETTERS ⟨_, rfl⟩) rfl))))
        (pss_one (ps_asg (pe_cal C_read_name (hr.mono (by first | decide | omega)) (passes_call (takes_of rfl rfl rfl rfl) (fun _ _ _ _ h => h)) (pa_cons (pv 0) (pa_cons (pv 1) pa_nil))) (pg_tup rfl (pgs_cons (pg_name (i := 4) sc_read_part.nd rfl (Or.inl rfl)) (pgs_cons (pg_name (i := 1) sc_read_part.nd rfl (Or.inl rfl)) pgs_nil)))))
        (pss_one (ps_asg (pe_cal C_read_number (hr.mono (by first | decide | omega)) (passes_call (takes_of rfl rfl rfl rfl) (fun _ _ _ _ h => h)) (pa_cons (pv 0) (pa_cons (pv 1) pa_nil))) (pg_tup rfl (pgs_cons (pg_name (i := 4) sc_read_part.nd rfl (Or.inl rfl)) (pgs_cons (pg_name (i := 1) sc_read_part.nd rfl (Or.inl rfl)) pgs_nil))))))))))
      (pss_cons (ps_while (passes_of rfl) (pt_cmpR op_eq (pe_slice sl_str (pv 0) (po_some (pv 1)) (po_some (pe_op op_add (pv 1) pe_int))) pe_str (nomark _))
        (pss_cons (ps_set (i := 5) sc_read_part.nd rfl (Or.inl rfl) (pe_cal C_behind_signs (hr.mono (by first | decide | omega)) pass0 (pa_cons (pv 0) (pa_cons (pe_op op_add (pv 1) pe_int) (pa_cons (pe_op op_add_str (pe_glob (v := .str _) rfl g_LETTERS ⟨_, rfl⟩) pe_str) pa_nil)))))
      (pss_cons (ps_set (i := 6) sc_read_part.nd rfl (Or.inl rfl) (pe_callTy call_tuple_of (by rfl) T.b_tuple (by decide +kernel) (pa_cons (pe_split (pe_slice sl_str (pv 0) (po_some (pe_op op_add (pv 1) pe_int)) (po_some (pv 5))) pe_str) pa_nil)))
      (pss_cons (ps_if (pt_not (pt_val (pe_cal C_are_names (hr.mono (by first | decide | omega)) pass0 (pa_cons (pv 6) pa_nil))))
        (pss_one (ps_raise rfl (takes_of rfl rfl rfl rfl) (pmk_own PySem.F.excBase_ValueError XNoText.x XNoText.g XNoText.k (raises_own XNoText.b XNoText.t) rfl)))
        pss_nil)
      (pss_cons (ps_set (i := 4) sc_read_part.nd rfl (Or.inl rfl) (pe_tup (pa_cons pe_str (pa_cons (pv 4) (pa_cons (pv 6) pa_nil)))))
      (pss_one (ps_set (i := 1) sc_read_part.nd rfl (Or.inl rfl) (pe_cal C_expected (hr.mono (by first | decide | omega)) (passes_call (takes_of rfl rfl rfl rfl) (fun _ _ _ _ h => h)) (pa_cons (pv 0) (pa_cons (pv 5) (pa_cons pe_str pa_nil)))))))))))
      (pss_one (ps_ret (pe_tup (pa_cons (pv 4) (pa_cons (pv 1) pa_nil))))))))), ?_⟩
  refine ⟨_, rfl, _, _, rfl, rfl, _, rfl, iteN (by omega) ?_⟩
  refine ⟨_, rfl, _, rfl, _, rfl, _, rfl, _, _, rfl, rfl, _, rfl, _, rfl, hl, ?_⟩
  rw [hc1]
  refine ⟨_, rfl, rfl, _, rfl, ?_⟩
  rw [hb1]
  by_cases k1 : (L.drop a).take 1 = [40]
  · refine iteY (SS_eq.mpr k1) ?_
    have hB : ∀ x, rTwo (rPart k) (L.drop (a + 1)) = x → rBase (rPart k) (L.drop a) = more 1 x := fun x h => by unfold rBase; rw [if_pos k1, ← d1, h]
    refine ⟨_, rfl, _, rfl, _, _, rfl, rfl, _, rfl, L, a + 1, d, rfl, hdm, ht, fun hg => qe (hP _ (hB _ hg)), fun r1 n1 hg1 H1 p1 v1 hs1 hp1 hr1 => ?_⟩
    refine ⟨p1, _, rfl, SqT.of hp1, rfl, v1, _, rfl, _, _, rfl, rfl, ?_⟩
    refine ⟨fun u σ H' => ∃ (f : Nat) (r : Rcp) (m : Nat) (v : V) (b : Nat) (o5 o6 : Option V), σ = [some (.str (SX.S L)), some (.int (b : Int)), some (.int (d : Int)), some (.str (SX.S ((L.drop a).take 1))), some v, o5, o6] ∧ b = a + m ∧ Same H H' ∧ Rec H' r v ∧
      rPart (k + 1) (L.drop a) = rTail f (L.drop a) r m ∧ (L.drop a).length ≤ f + m ∧ u = f, ?_, ?_⟩
    · exact ⟨_, (L.drop a).length, r1, 1 + n1, v1, _, none, none, rfl, by omega, hs1, hr1, hP _ (hB _ hg1), Nat.le_add_right _ _, rfl⟩
    rintro u σ H2 ⟨f, r, m, v, b, o5, o6, rfl, hb, hs2, hr2, heq, hfm, hu⟩
    subst u
    have hc : cutS (SX.S L) (some (b : Int)) (some ((b : Int) + 1)) = SX.S ((L.drop b).take 1) := cutS_add L b 1
    have hdb : L.drop b = (L.drop a).drop m := by rw [List.drop_drop, hb]
    have hdb1 : L.drop (b + 1) = (L.drop a).drop (m + 1) := by rw [List.drop_drop, hb]; congr 1
    refine ⟨_, rfl, _, rfl, _, rfl, _, rfl, _, _, rfl, rfl, _, rfl, _, rfl, hl, rfl, _, rfl, ?_⟩
    rw [hc, hbr]
    by_cases hbrace : (L.drop b).take 1 = [123]
    · refine iteY (SS_eq.mpr hbrace) ?_
      cases f with
      | zero =>
        rw [hdb, List.drop_eq_nil_of_le (by omega)] at hbrace
        cases hbrace
      | succ f =>
        have hT : rTail (f + 1) (L.drop a) r m = if (Th.tup (nmsTh (TL.spl [44] 0 [] (nmSigns (L.drop (b + 1)))))).areNms = true then
            if (L.drop (b + 1 + (nmSigns (L.drop (b + 1))).length)).take 1 = [125] then rTail f (L.drop a) (.choose r (TL.spl [44] 0 [] (nmSigns (L.drop (b + 1))))) (m + 1 + (nmSigns (L.drop (b + 1))).length + 1) else none else none := by
          have e1 : L.drop (b + 1 + (nmSigns (L.drop (b + 1))).length) = (L.drop a).drop (m + 1 + (nmSigns (L.drop (b + 1))).length) := by rw [List.drop_drop, hb]; congr 1; omega
          rw [e1, hdb1]
          show (if ((L.drop a).drop m).take 1 = [123] then _ else _) = _
          rw [if_pos (by rw [← hdb]; exact hbrace)]
        have htz : tameS (nmSigns (L.drop (b + 1))) = true := tame_drop ht (b + 1) _
        have hzl := tame_len htz
        obtain ⟨hp1, hp2⟩ := parts_tameS htz
        have hbl : b < L.length := Decidable.byContradiction fun z => by
          rw [List.drop_eq_nil_of_le (by omega)] at hbrace
          cases hbrace
        have hzs : (nmSigns (L.drop (b + 1))).length + 1 ≤ L.length := by
          have h1 := congrArg List.length (take_while (fun c => isLt c || decide (c = 44)) (L.drop (b + 1)))
          rw [List.length_take, List.length_drop] at h1
          show ((L.drop (b + 1)).takeWhile _).length + 1 ≤ _
          omega
        have hpl := spl_len (nmSigns (L.drop (b + 1))) [] 0
        have hcut : cutS (SX.S L) (some ((b : Int) + 1)) (some ((b + 1 + (nmSigns (L.drop (b + 1))).length : Nat) : Int)) = SX.S (nmSigns (L.drop (b + 1))) := by
          have := cutS_nat L (b + 1) (nmSigns (L.drop (b + 1))).length
          rw [show (nmSigns (L.drop (b + 1))) = (L.drop (b + 1)).takeWhile (fun c => isLt c || decide (c = 44)) from rfl] at this ⊢
          rw [take_while] at this
          exact this
        refine ⟨fun σ' H' => ∃ (f' : Nat) (r : Rcp) (m : Nat) (v : V) (b : Nat) (o5 o6 : Option V), σ' = [some (.str (SX.S L)), some (.int (b : Int)), some (.int (d : Int)), some (.str (SX.S ((L.drop a).take 1))), some v, o5, o6] ∧ b = a + m ∧ Same H H' ∧ Rec H' r v ∧
          rPart (k + 1) (L.drop a) = rTail f' (L.drop a) r m ∧ (L.drop a).length ≤ f' + m ∧ f' = f, ?_, ?_⟩
        · rintro σ' H' ⟨f', r, m, v, b, o5, o6, e1, e2, e3, e4, e5, e6, e7⟩
          exact ⟨f', by omega, f', r, m, v, b, o5, o6, e1, e2, e3, e4, e5, e6, rfl⟩
        have hcm : ("," : Str) = SX.S [44] := by decide +kernel
        refine ⟨_, rfl, _, rfl, _, _, rfl, rfl, _, _, rfl, rfl, le_line (Nat.le_of_ble_eq_true (by decide +kernel)), L, b + 1, letters ++ [44], by rw [hcm, letters_is, SX.S_cat]; rfl, hL, ?_⟩
        have e9 : ((L.drop (b + 1)).takeWhile fun c => decide (c ∈ letters ++ [44])) = nmSigns (L.drop (b + 1)) := by rw [sn_in]; rfl
        rw [e9]
        refine ⟨_, rfl, _, rfl, _, _, rfl, rfl, _, rfl, _, rfl, _, rfl, _, rfl, hl, ⟨_, rfl⟩, _, _, congrArg V.str hcut, rfl, by decide +kernel, by rw [SX.S_len]; exact le_line (by omega), fun p5 n5 => ?_⟩
        rw [split_is]
        refine ⟨p5, _, rfl, .inl ⟨SqL.of upd_same, fun p6 n6 => ?_⟩⟩
        have s6 := (same_new n5 (.lst (txs (TL.spl [44] 0 [] (nmSigns (L.drop (b + 1))))))).trans (same_new n6 (.tup (txs (TL.spl [44] 0 [] (nmSigns (L.drop (b + 1)))))))
        refine ⟨_, rfl, _, .tup (nmsTh (TL.spl [44] 0 [] (nmSigns (L.drop (b + 1))))), rfl, ⟨p6, _, rfl, upd_same, nms_data _ _⟩, low_tame hp2 (by omega), fun m e => by cases e; exact ⟨Nms.flat, low_shaped hp1⟩, fun H7 hs7 => ⟨_, rfl, ?_⟩⟩
        have hp6 := hs7 _ _ (upd_same (H := upd H2 p5 (.lst (txs (TL.spl [44] 0 [] (nmSigns (L.drop (b + 1))))))) (a := p6) (o := HO.tup (txs (TL.spl [44] 0 [] (nmSigns (L.drop (b + 1)))))))
        have hs27 := s6.trans hs7
        cases har : (Th.tup (nmsTh (TL.spl [44] 0 [] (nmSigns (L.drop (b + 1)))))).areNms with
        | false =>
          refine iteT ?_
          exact qe (by rw [heq, hT, if_neg (by rw [har]; exact Bool.false_ne_true)]) _ (hs2.trans hs27)
        | true =>
          rw [if_pos har] at hT
          refine iteF ?_
          refine ⟨_, rfl, _, rfl, le_line (Nat.le_of_ble_eq_true rfl), fun p8 n8 => ?_⟩
          have hcb : ("}" : Str) = SX.S [125] := by decide +kernel
          refine ⟨_, rfl, _, rfl, L, b + 1 + (nmSigns (L.drop (b + 1))).length, [125], by rw [hcb]; rfl, hL, by decide, fun hne0 => ?_, fun he0 => ?_⟩
          · have hne : ¬ (L.drop (b + 1 + (nmSigns (L.drop (b + 1))).length)).take 1 = [125] := hne0
            exact qe (by rw [heq, hT, if_neg hne]) _ ((hs2.trans hs27).trans (same_new n8 _))
          · have he : (L.drop (b + 1 + (nmSigns (L.drop (b + 1))).length)).take 1 = [125] := he0
            refine ⟨f, .choose r (TL.spl [44] 0 [] (nmSigns (L.drop (b + 1)))), m + 1 + (nmSigns (L.drop (b + 1))).length + 1, .ref p8, _, _, _, rfl, by show _ + 1 = _; omega, (hs2.trans hs27).trans (same_new n8 _), ⟨p8, v, p6, rfl, upd_same, (hr2.same hs27).same (same_new n8 _), ?_⟩, by rw [heq, hT, if_pos he], by omega, rfl⟩
            exact same_new n8 _ _ _ hp6
    · refine iteN (fun z => hbrace (SS_eq.mp z)) ?_
      have hres : rPart (k + 1) (L.drop a) = some (r, m) := by
        rw [heq]
        cases f with
        | zero => rfl
        | succ f =>
          show (if ((L.drop a).drop m).take 1 = [123] then _ else _) = _
          rw [if_neg (by rw [← hdb]; exact hbrace)]
      refine ⟨_, rfl, _, rfl, le_line (Nat.le_of_ble_eq_true rfl), fun p9 n9 => ?_⟩
      refine q r m hres _ p9 v (hs2.trans (same_new n9 _)) ?_ (hr2.same (same_new n9 _))
      rw [← hb]
      exact upd_same
  refine iteN (fun z => k1 (SS_eq.mp z)) ?_
  refine ⟨_, rfl, rfl, _, rfl, ?_⟩
  rw [hb2]
  by_cases k2 : (L.drop a).take 1 = [91]
  · refine iteY (SS_eq.mpr k2) ?_
    have hB : ∀ x, rPick (rPart k) (L.drop (a + 1)) = x → rBase (rPart k) (L.drop a) = more 1 x := fun x h => by unfold rBase; rw [if_neg k1, if_pos k2, ← d1, h]
    refine ⟨_, rfl, _, rfl, _, _, rfl, rfl, _, rfl, L, a + 1, d, rfl, hdm, ht, fun hg => qe (hP _ (hB _ hg)), fun r1 n1 hg1 H1 p1 v1 hs1 hp1 hr1 => ?_⟩
    refine ⟨p1, _, rfl, SqT.of hp1, rfl, v1, _, rfl, _, _, rfl, rfl, ?_⟩
    refine ⟨fun u σ H' => ∃ (f : Nat) (r : Rcp) (m : Nat) (v : V) (b : Nat) (o5 o6 : Option V), σ = [some (.str (SX.S L)), some (.int (b : Int)), some (.int (d : Int)), some (.str (SX.S ((L.drop a).take 1))), some v, o5, o6] ∧ b = a + m ∧ Same H H' ∧ Rec H' r v ∧
      rPart (k + 1) (L.drop a) = rTail f (L.drop a) r m ∧ (L.drop a).length ≤ f + m ∧ u = f, ?_, ?_⟩
    · exact ⟨_, (L.drop a).length, r1, 1 + n1, v1, _, none, none, rfl, by omega, hs1, hr1, hP _ (hB _ hg1), Nat.le_add_right _ _, rfl⟩
    rintro u σ H2 ⟨f, r, m, v, b, o5, o6, rfl, hb, hs2, hr2, heq, hfm, hu⟩
    subst u
    have hc : cutS (SX.S L) (some (b : Int)) (some ((b : Int) + 1)) = SX.S ((L.drop b).take 1) := cutS_add L b 1
    have hdb : L.drop b = (L.drop a).drop m := by rw [List.drop_drop, hb]
    have hdb1 : L.drop (b + 1) = (L.drop a).drop (m + 1) := by rw [List.drop_drop, hb]; congr 1
    refine ⟨_, rfl, _, rfl, _, rfl, _, rfl, _, _, rfl, rfl, _, rfl, _, rfl, hl, rfl, _, rfl, ?_⟩
    rw [hc, hbr]
    by_cases hbrace : (L.drop b).take 1 = [123]
    · refine iteY (SS_eq.mpr hbrace) ?_
      cases f with
      | zero =>
        rw [hdb, List.drop_eq_nil_of_le (by omega)] at hbrace
        cases hbrace
      | succ f =>
        have hT : rTail (f + 1) (L.drop a) r m = if (Th.tup (nmsTh (TL.spl [44] 0 [] (nmSigns (L.drop (b + 1)))))).areNms = true then
            if (L.drop (b + 1 + (nmSigns (L.drop (b + 1))).length)).take 1 = [125] then rTail f (L.drop a) (.choose r (TL.spl [44] 0 [] (nmSigns (L.drop (b + 1))))) (m + 1 + (nmSigns (L.drop (b + 1))).length + 1) else none else none := by
          have e1 : L.drop (b + 1 + (nmSigns (L.drop (b + 1))).length) = (L.drop a).drop (m + 1 + (nmSigns (L.drop (b + 1))).length) := by rw [List.drop_drop, hb]; congr 1; omega
          rw [e1, hdb1]
          show (if ((L.drop a).drop m).take 1 = [123] then _ else _) = _
          rw [if_pos (by rw [← hdb]; exact hbrace)]
        have htz : tameS (nmSigns (L.drop (b + 1))) = true := tame_drop ht (b + 1) _
        have hzl := tame_len htz
        obtain ⟨hp1, hp2⟩ := parts_tameS htz
        have hbl : b < L.length := Decidable.byContradiction fun z => by
          rw [List.drop_eq_nil_of_le (by omega)] at hbrace
          cases hbrace
        have hzs : (nmSigns (L.drop (b + 1))).length + 1 ≤ L.length := by
          have h1 := congrArg List.length (take_while (fun c => isLt c || decide (c = 44)) (L.drop (b + 1)))
          rw [List.length_take, List.length_drop] at h1
          show ((L.drop (b + 1)).takeWhile _).length + 1 ≤ _
          omega
        have hpl := spl_len (nmSigns (L.drop (b + 1))) [] 0
        have hcut : cutS (SX.S L) (some ((b : Int) + 1)) (some ((b + 1 + (nmSigns (L.drop (b + 1))).length : Nat) : Int)) = SX.S (nmSigns (L.drop (b + 1))) := by
          have := cutS_nat L (b + 1) (nmSigns (L.drop (b + 1))).length
          rw [show (nmSigns (L.drop (b + 1))) = (L.drop (b + 1)).takeWhile (fun c => isLt c || decide (c = 44)) from rfl] at this ⊢
          rw [take_while] at this
          exact this
        refine ⟨fun σ' H' => ∃ (f' : Nat) (r : Rcp) (m : Nat) (v : V) (b : Nat) (o5 o6 : Option V), σ' = [some (.str (SX.S L)), some (.int (b : Int)), some (.int (d : Int)), some (.str (SX.S ((L.drop a).take 1))), some v, o5, o6] ∧ b = a + m ∧ Same H H' ∧ Rec H' r v ∧
          rPart (k + 1) (L.drop a) = rTail f' (L.drop a) r m ∧ (L.drop a).length ≤ f' + m ∧ f' = f, ?_, ?_⟩
        · rintro σ' H' ⟨f', r, m, v, b, o5, o6, e1, e2, e3, e4, e5, e6, e7⟩
          exact ⟨f', by omega, f', r, m, v, b, o5, o6, e1, e2, e3, e4, e5, e6, rfl⟩
        have hcm : ("," : Str) = SX.S [44] := by decide +kernel
        refine ⟨_, rfl, _, rfl, _, _, rfl, rfl, _, _, rfl, rfl, le_line (Nat.le_of_ble_eq_true (by decide +kernel)), L, b + 1, letters ++ [44], by rw [hcm, letters_is, SX.S_cat]; rfl, hL, ?_⟩
        have e9 : ((L.drop (b + 1)).takeWhile fun c => decide (c ∈ letters ++ [44])) = nmSigns (L.drop (b + 1)) := by rw [sn_in]; rfl
        rw [e9]
        refine ⟨_, rfl, _, rfl, _, _, rfl, rfl, _, rfl, _, rfl, _, rfl, _, rfl, hl, ⟨_, rfl⟩, _, _, congrArg V.str hcut, rfl, by decide +kernel, by rw [SX.S_len]; exact le_line (by omega), fun p5 n5 => ?_⟩
        rw [split_is]
        refine ⟨p5, _, rfl, .inl ⟨SqL.of upd_same, fun p6 n6 => ?_⟩⟩
        have s6 := (same_new n5 (.lst (txs (TL.spl [44] 0 [] (nmSigns (L.drop (b + 1))))))).trans (same_new n6 (.tup (txs (TL.spl [44] 0 [] (nmSigns (L.drop (b + 1)))))))
        refine ⟨_, rfl, _, .tup (nmsTh (TL.spl [44] 0 [] (nmSigns (L.drop (b + 1))))), rfl, ⟨p6, _, rfl, upd_same, nms_data _ _⟩, low_tame hp2 (by omega), fun m e => by cases e; exact ⟨Nms.flat, low_shaped hp1⟩, fun H7 hs7 => ⟨_, rfl, ?_⟩⟩
        have hp6 := hs7 _ _ (upd_same (H := upd H2 p5 (.lst (txs (TL.spl [44] 0 [] (nmSigns (L.drop (b + 1))))))) (a := p6) (o := HO.tup (txs (TL.spl [44] 0 [] (nmSigns (L.drop (b + 1)))))))
        have hs27 := s6.trans hs7
        cases har : (Th.tup (nmsTh (TL.spl [44] 0 [] (nmSigns (L.drop (b + 1)))))).areNms with
        | false =>
          refine iteT ?_
          exact qe (by rw [heq, hT, if_neg (by rw [har]; exact Bool.false_ne_true)]) _ (hs2.trans hs27)
        | true =>
          rw [if_pos har] at hT
          refine iteF ?_
          refine ⟨_, rfl, _, rfl, le_line (Nat.le_of_ble_eq_true rfl), fun p8 n8 => ?_⟩
          have hcb : ("}" : Str) = SX.S [125] := by decide +kernel
          refine ⟨_, rfl, _, rfl, L, b + 1 + (nmSigns (L.drop (b + 1))).length, [125], by rw [hcb]; rfl, hL, by decide, fun hne0 => ?_, fun he0 => ?_⟩
          · have hne : ¬ (L.drop (b + 1 + (nmSigns (L.drop (b + 1))).length)).take 1 = [125] := hne0
            exact qe (by rw [heq, hT, if_neg hne]) _ ((hs2.trans hs27).trans (same_new n8 _))
          · have he : (L.drop (b + 1 + (nmSigns (L.drop (b + 1))).length)).take 1 = [125] := he0
            refine ⟨f, .choose r (TL.spl [44] 0 [] (nmSigns (L.drop (b + 1)))), m + 1 + (nmSigns (L.drop (b + 1))).length + 1, .ref p8, _, _, _, rfl, by show _ + 1 = _; omega, (hs2.trans hs27).trans (same_new n8 _), ⟨p8, v, p6, rfl, upd_same, (hr2.same hs27).same (same_new n8 _), ?_⟩, by rw [heq, hT, if_pos he], by omega, rfl⟩
            exact same_new n8 _ _ _ hp6
    · refine iteN (fun z => hbrace (SS_eq.mp z)) ?_
      have hres : rPart (k + 1) (L.drop a) = some (r, m) := by
        rw [heq]
        cases f with
        | zero => rfl
        | succ f =>
          show (if ((L.drop a).drop m).take 1 = [123] then _ else _) = _
          rw [if_neg (by rw [← hdb]; exact hbrace)]
      refine ⟨_, rfl, _, rfl, le_line (Nat.le_of_ble_eq_true rfl), fun p9 n9 => ?_⟩
      refine q r m hres _ p9 v (hs2.trans (same_new n9 _)) ?_ (hr2.same (same_new n9 _))
      rw [← hb]
      exact upd_same
  refine iteN (fun z => k2 (SS_eq.mp z)) ?_
  refine ⟨_, rfl, rfl, _, rfl, ?_⟩
  rw [hb3]
  by_cases k3 : (L.drop a).take 1 = []
  · refine not_true_eq (decide_eq_true (SS_eq.mpr k3)) ?_
    refine iteF ?_
    have hno : ¬ ((L.drop a).take 1).any isLt = true := by rw [k3]; exact Bool.false_ne_true
    have hB : ∀ x, rNum (L.drop a) = x → rBase (rPart k) (L.drop a) = x := fun x h => by unfold rBase; rw [if_neg k1, if_neg k2, if_neg hno, h]
    refine ⟨_, rfl, _, rfl, L, a, rfl, ht, fun hg => qe (hP _ (hB _ hg)), fun r1 n1 hg1 H1 p1 v1 hs1 hp1 hr1 => ?_⟩
    refine ⟨p1, _, rfl, SqT.of hp1, rfl, v1, _, rfl, _, _, rfl, rfl, ?_⟩
    refine ⟨fun u σ H' => ∃ (f : Nat) (r : Rcp) (m : Nat) (v : V) (b : Nat) (o5 o6 : Option V), σ = [some (.str (SX.S L)), some (.int (b : Int)), some (.int (d : Int)), some (.str (SX.S ((L.drop a).take 1))), some v, o5, o6] ∧ b = a + m ∧ Same H H' ∧ Rec H' r v ∧
      rPart (k + 1) (L.drop a) = rTail f (L.drop a) r m ∧ (L.drop a).length ≤ f + m ∧ u = f, ?_, ?_⟩
    · exact ⟨_, (L.drop a).length, r1, n1, v1, _, none, none, rfl, by omega, hs1, hr1, hP _ (hB _ hg1), Nat.le_add_right _ _, rfl⟩
    rintro u σ H2 ⟨f, r, m, v, b, o5, o6, rfl, hb, hs2, hr2, heq, hfm, hu⟩
    subst u
    have hc : cutS (SX.S L) (some (b : Int)) (some ((b : Int) + 1)) = SX.S ((L.drop b).take 1) := cutS_add L b 1
    have hdb : L.drop b = (L.drop a).drop m := by rw [List.drop_drop, hb]
    have hdb1 : L.drop (b + 1) = (L.drop a).drop (m + 1) := by rw [List.drop_drop, hb]; congr 1
    refine ⟨_, rfl, _, rfl, _, rfl, _, rfl, _, _, rfl, rfl, _, rfl, _, rfl, hl, rfl, _, rfl, ?_⟩
    rw [hc, hbr]
    by_cases hbrace : (L.drop b).take 1 = [123]
    · refine iteY (SS_eq.mpr hbrace) ?_
      cases f with
      | zero =>
        rw [hdb, List.drop_eq_nil_of_le (by omega)] at hbrace
        cases hbrace
      | succ f =>
        have hT : rTail (f + 1) (L.drop a) r m = if (Th.tup (nmsTh (TL.spl [44] 0 [] (nmSigns (L.drop (b + 1)))))).areNms = true then
            if (L.drop (b + 1 + (nmSigns (L.drop (b + 1))).length)).take 1 = [125] then rTail f (L.drop a) (.choose r (TL.spl [44] 0 [] (nmSigns (L.drop (b + 1))))) (m + 1 + (nmSigns (L.drop (b + 1))).length + 1) else none else none := by
          have e1 : L.drop (b + 1 + (nmSigns (L.drop (b + 1))).length) = (L.drop a).drop (m + 1 + (nmSigns (L.drop (b + 1))).length) := by rw [List.drop_drop, hb]; congr 1; omega
          rw [e1, hdb1]
          show (if ((L.drop a).drop m).take 1 = [123] then _ else _) = _
          rw [if_pos (by rw [← hdb]; exact hbrace)]
        have htz : tameS (nmSigns (L.drop (b + 1))) = true := tame_drop ht (b + 1) _
        have hzl := tame_len htz
        obtain ⟨hp1, hp2⟩ := parts_tameS htz
        have hbl : b < L.length := Decidable.byContradiction fun z => by
          rw [List.drop_eq_nil_of_le (by omega)] at hbrace
          cases hbrace
        have hzs : (nmSigns (L.drop (b + 1))).length + 1 ≤ L.length := by
          have h1 := congrArg List.length (take_while (fun c => isLt c || decide (c = 44)) (L.drop (b + 1)))
          rw [List.length_take, List.length_drop] at h1
          show ((L.drop (b + 1)).takeWhile _).length + 1 ≤ _
          omega
        have hpl := spl_len (nmSigns (L.drop (b + 1))) [] 0
        have hcut : cutS (SX.S L) (some ((b : Int) + 1)) (some ((b + 1 + (nmSigns (L.drop (b + 1))).length : Nat) : Int)) = SX.S (nmSigns (L.drop (b + 1))) := by
          have := cutS_nat L (b + 1) (nmSigns (L.drop (b + 1))).length
          rw [show (nmSigns (L.drop (b + 1))) = (L.drop (b + 1)).takeWhile (fun c => isLt c || decide (c = 44)) from rfl] at this ⊢
          rw [take_while] at this
          exact this
        refine ⟨fun σ' H' => ∃ (f' : Nat) (r : Rcp) (m : Nat) (v : V) (b : Nat) (o5 o6 : Option V), σ' = [some (.str (SX.S L)), some (.int (b : Int)), some (.int (d : Int)), some (.str (SX.S ((L.drop a).take 1))), some v, o5, o6] ∧ b = a + m ∧ Same H H' ∧ Rec H' r v ∧
          rPart (k + 1) (L.drop a) = rTail f' (L.drop a) r m ∧ (L.drop a).length ≤ f' + m ∧ f' = f, ?_, ?_⟩
        · rintro σ' H' ⟨f', r, m, v, b, o5, o6, e1, e2, e3, e4, e5, e6, e7⟩
          exact ⟨f', by omega, f', r, m, v, b, o5, o6, e1, e2, e3, e4, e5, e6, rfl⟩
        have hcm : ("," : Str) = SX.S [44] := by decide +kernel
        refine ⟨_, rfl, _, rfl, _, _, rfl, rfl, _, _, rfl, rfl, le_line (Nat.le_of_ble_eq_true (by decide +kernel)), L, b + 1, letters ++ [44], by rw [hcm, letters_is, SX.S_cat]; rfl, hL, ?_⟩
        have e9 : ((L.drop (b + 1)).takeWhile fun c => decide (c ∈ letters ++ [44])) = nmSigns (L.drop (b + 1)) := by rw [sn_in]; rfl
        rw [e9]
        refine ⟨_, rfl, _, rfl, _, _, rfl, rfl, _, rfl, _, rfl, _, rfl, _, rfl, hl, ⟨_, rfl⟩, _, _, congrArg V.str hcut, rfl, by decide +kernel, by rw [SX.S_len]; exact le_line (by omega), fun p5 n5 => ?_⟩
        rw [split_is]
        refine ⟨p5, _, rfl, .inl ⟨SqL.of upd_same, fun p6 n6 => ?_⟩⟩
        have s6 := (same_new n5 (.lst (txs (TL.spl [44] 0 [] (nmSigns (L.drop (b + 1))))))).trans (same_new n6 (.tup (txs (TL.spl [44] 0 [] (nmSigns (L.drop (b + 1)))))))
        refine ⟨_, rfl, _, .tup (nmsTh (TL.spl [44] 0 [] (nmSigns (L.drop (b + 1))))), rfl, ⟨p6, _, rfl, upd_same, nms_data _ _⟩, low_tame hp2 (by omega), fun m e => by cases e; exact ⟨Nms.flat, low_shaped hp1⟩, fun H7 hs7 => ⟨_, rfl, ?_⟩⟩
        have hp6 := hs7 _ _ (upd_same (H := upd H2 p5 (.lst (txs (TL.spl [44] 0 [] (nmSigns (L.drop (b + 1))))))) (a := p6) (o := HO.tup (txs (TL.spl [44] 0 [] (nmSigns (L.drop (b + 1)))))))
        have hs27 := s6.trans hs7
        cases har : (Th.tup (nmsTh (TL.spl [44] 0 [] (nmSigns (L.drop (b + 1)))))).areNms with
        | false =>
          refine iteT ?_
          exact qe (by rw [heq, hT, if_neg (by rw [har]; exact Bool.false_ne_true)]) _ (hs2.trans hs27)
        | true =>
          rw [if_pos har] at hT
          refine iteF ?_
          refine ⟨_, rfl, _, rfl, le_line (Nat.le_of_ble_eq_true rfl), fun p8 n8 => ?_⟩
          have hcb : ("}" : Str) = SX.S [125] := by decide +kernel
          refine ⟨_, rfl, _, rfl, L, b + 1 + (nmSigns (L.drop (b + 1))).length, [125], by rw [hcb]; rfl, hL, by decide, fun hne0 => ?_, fun he0 => ?_⟩
          · have hne : ¬ (L.drop (b + 1 + (nmSigns (L.drop (b + 1))).length)).take 1 = [125] := hne0
            exact qe (by rw [heq, hT, if_neg hne]) _ ((hs2.trans hs27).trans (same_new n8 _))
          · have he : (L.drop (b + 1 + (nmSigns (L.drop (b + 1))).length)).take 1 = [125] := he0
            refine ⟨f, .choose r (TL.spl [44] 0 [] (nmSigns (L.drop (b + 1)))), m + 1 + (nmSigns (L.drop (b + 1))).length + 1, .ref p8, _, _, _, rfl, by show _ + 1 = _; omega, (hs2.trans hs27).trans (same_new n8 _), ⟨p8, v, p6, rfl, upd_same, (hr2.same hs27).same (same_new n8 _), ?_⟩, by rw [heq, hT, if_pos he], by omega, rfl⟩
            exact same_new n8 _ _ _ hp6
    · refine iteN (fun z => hbrace (SS_eq.mp z)) ?_
      have hres : rPart (k + 1) (L.drop a) = some (r, m) := by
        rw [heq]
        cases f with
        | zero => rfl
        | succ f =>
          show (if ((L.drop a).drop m).take 1 = [123] then _ else _) = _
          rw [if_neg (by rw [← hdb]; exact hbrace)]
      refine ⟨_, rfl, _, rfl, le_line (Nat.le_of_ble_eq_true rfl), fun p9 n9 => ?_⟩
      refine q r m hres _ p9 v (hs2.trans (same_new n9 _)) ?_ (hr2.same (same_new n9 _))
      rw [← hb]
      exact upd_same
  refine not_false_eq (decide_eq_false fun z => k3 (SS_eq.mp z)) ?_
  obtain ⟨c, hcl⟩ : ∃ c, (L.drop a).take 1 = [c] := by
    cases hd : L.drop a with
    | nil => rw [hd] at k3; exact absurd rfl k3
    | cons c l' => exact ⟨c, rfl⟩
  refine ⟨_, rfl, c, _, congrArg (fun z => V.str (SX.S z)) hcl, rfl, _, rfl, ?_⟩
  rw [letter_in]
  have hlt : ((L.drop a).take 1).any isLt = isLt c := by rw [hcl]; exact Bool.or_false _
  cases hc4 : isLt c with
  | true =>
    have hc4' : (decide (97 ≤ c) && decide (c ≤ 122)) = true := hc4
    refine if_true_eq hc4' ?_
    have hB : ∀ x, rName (L.drop a) = x → rBase (rPart k) (L.drop a) = x := fun x h => by unfold rBase; rw [if_neg k1, if_neg k2, if_pos (by rw [hlt, hc4]), h]
    refine ⟨_, rfl, _, rfl, L, a, rfl, ht, fun hg => qe (hP _ (hB _ hg)), fun r1 n1 hg1 H1 p1 v1 hs1 hp1 hr1 => ?_⟩
    refine ⟨p1, _, rfl, SqT.of hp1, rfl, v1, _, rfl, _, _, rfl, rfl, ?_⟩
    refine ⟨fun u σ H' => ∃ (f : Nat) (r : Rcp) (m : Nat) (v : V) (b : Nat) (o5 o6 : Option V), σ = [some (.str (SX.S L)), some (.int (b : Int)), some (.int (d : Int)), some (.str (SX.S ((L.drop a).take 1))), some v, o5, o6] ∧ b = a + m ∧ Same H H' ∧ Rec H' r v ∧
      rPart (k + 1) (L.drop a) = rTail f (L.drop a) r m ∧ (L.drop a).length ≤ f + m ∧ u = f, ?_, ?_⟩
    · exact ⟨_, (L.drop a).length, r1, n1, v1, _, none, none, rfl, by omega, hs1, hr1, hP _ (hB _ hg1), Nat.le_add_right _ _, rfl⟩
    rintro u σ H2 ⟨f, r, m, v, b, o5, o6, rfl, hb, hs2, hr2, heq, hfm, hu⟩
    subst u
    have hc : cutS (SX.S L) (some (b : Int)) (some ((b : Int) + 1)) = SX.S ((L.drop b).take 1) := cutS_add L b 1
    have hdb : L.drop b = (L.drop a).drop m := by rw [List.drop_drop, hb]
    have hdb1 : L.drop (b + 1) = (L.drop a).drop (m + 1) := by rw [List.drop_drop, hb]; congr 1
    refine ⟨_, rfl, _, rfl, _, rfl, _, rfl, _, _, rfl, rfl, _, rfl, _, rfl, hl, rfl, _, rfl, ?_⟩
    rw [hc, hbr]
    by_cases hbrace : (L.drop b).take 1 = [123]
    · refine iteY (SS_eq.mpr hbrace) ?_
      cases f with
      | zero =>
        rw [hdb, List.drop_eq_nil_of_le (by omega)] at hbrace
        cases hbrace
      | succ f =>
        have hT : rTail (f + 1) (L.drop a) r m = if (Th.tup (nmsTh (TL.spl [44] 0 [] (nmSigns (L.drop (b + 1)))))).areNms = true then
            if (L.drop (b + 1 + (nmSigns (L.drop (b + 1))).length)).take 1 = [125] then rTail f (L.drop a) (.choose r (TL.spl [44] 0 [] (nmSigns (L.drop (b + 1))))) (m + 1 + (nmSigns (L.drop (b + 1))).length + 1) else none else none := by
          have e1 : L.drop (b + 1 + (nmSigns (L.drop (b + 1))).length) = (L.drop a).drop (m + 1 + (nmSigns (L.drop (b + 1))).length) := by rw [List.drop_drop, hb]; congr 1; omega
          rw [e1, hdb1]
          show (if ((L.drop a).drop m).take 1 = [123] then _ else _) = _
          rw [if_pos (by rw [← hdb]; exact hbrace)]
        have htz : tameS (nmSigns (L.drop (b + 1))) = true := tame_drop ht (b + 1) _
        have hzl := tame_len htz
        obtain ⟨hp1, hp2⟩ := parts_tameS htz
        have hbl : b < L.length := Decidable.byContradiction fun z => by
          rw [List.drop_eq_nil_of_le (by omega)] at hbrace
          cases hbrace
        have hzs : (nmSigns (L.drop (b + 1))).length + 1 ≤ L.length := by
          have h1 := congrArg List.length (take_while (fun c => isLt c || decide (c = 44)) (L.drop (b + 1)))
          rw [List.length_take, List.length_drop] at h1
          show ((L.drop (b + 1)).takeWhile _).length + 1 ≤ _
          omega
        have hpl := spl_len (nmSigns (L.drop (b + 1))) [] 0
        have hcut : cutS (SX.S L) (some ((b : Int) + 1)) (some ((b + 1 + (nmSigns (L.drop (b + 1))).length : Nat) : Int)) = SX.S (nmSigns (L.drop (b + 1))) := by
          have := cutS_nat L (b + 1) (nmSigns (L.drop (b + 1))).length
          rw [show (nmSigns (L.drop (b + 1))) = (L.drop (b + 1)).takeWhile (fun c => isLt c || decide (c = 44)) from rfl] at this ⊢
          rw [take_while] at this
          exact this
        refine ⟨fun σ' H' => ∃ (f' : Nat) (r : Rcp) (m : Nat) (v : V) (b : Nat) (o5 o6 : Option V), σ' = [some (.str (SX.S L)), some (.int (b : Int)), some (.int (d : Int)), some (.str (SX.S ((L.drop a).take 1))), some v, o5, o6] ∧ b = a + m ∧ Same H H' ∧ Rec H' r v ∧
          rPart (k + 1) (L.drop a) = rTail f' (L.drop a) r m ∧ (L.drop a).length ≤ f' + m ∧ f' = f, ?_, ?_⟩
        · rintro σ' H' ⟨f', r, m, v, b, o5, o6, e1, e2, e3, e4, e5, e6, e7⟩
          exact ⟨f', by omega, f', r, m, v, b, o5, o6, e1, e2, e3, e4, e5, e6, rfl⟩
        have hcm : ("," : Str) = SX.S [44] := by decide +kernel
        refine ⟨_, rfl, _, rfl, _, _, rfl, rfl, _, _, rfl, rfl, le_line (Nat.le_of_ble_eq_true (by decide +kernel)), L, b + 1, letters ++ [44], by rw [hcm, letters_is, SX.S_cat]; rfl, hL, ?_⟩
        have e9 : ((L.drop (b + 1)).takeWhile fun c => decide (c ∈ letters ++ [44])) = nmSigns (L.drop (b + 1)) := by rw [sn_in]; rfl
        rw [e9]
        refine ⟨_, rfl, _, rfl, _, _, rfl, rfl, _, rfl, _, rfl, _, rfl, _, rfl, hl, ⟨_, rfl⟩, _, _, congrArg V.str hcut, rfl, by decide +kernel, by rw [SX.S_len]; exact le_line (by omega), fun p5 n5 => ?_⟩
        rw [split_is]
        refine ⟨p5, _, rfl, .inl ⟨SqL.of upd_same, fun p6 n6 => ?_⟩⟩
        have s6 := (same_new n5 (.lst (txs (TL.spl [44] 0 [] (nmSigns (L.drop (b + 1))))))).trans (same_new n6 (.tup (txs (TL.spl [44] 0 [] (nmSigns (L.drop (b + 1)))))))
        refine ⟨_, rfl, _, .tup (nmsTh (TL.spl [44] 0 [] (nmSigns (L.drop (b + 1))))), rfl, ⟨p6, _, rfl, upd_same, nms_data _ _⟩, low_tame hp2 (by omega), fun m e => by cases e; exact ⟨Nms.flat, low_shaped hp1⟩, fun H7 hs7 => ⟨_, rfl, ?_⟩⟩
        have hp6 := hs7 _ _ (upd_same (H := upd H2 p5 (.lst (txs (TL.spl [44] 0 [] (nmSigns (L.drop (b + 1))))))) (a := p6) (o := HO.tup (txs (TL.spl [44] 0 [] (nmSigns (L.drop (b + 1)))))))
        have hs27 := s6.trans hs7
        cases har : (Th.tup (nmsTh (TL.spl [44] 0 [] (nmSigns (L.drop (b + 1)))))).areNms with
        | false =>
          refine iteT ?_
          exact qe (by rw [heq, hT, if_neg (by rw [har]; exact Bool.false_ne_true)]) _ (hs2.trans hs27)
        | true =>
          rw [if_pos har] at hT
          refine iteF ?_
          refine ⟨_, rfl, _, rfl, le_line (Nat.le_of_ble_eq_true rfl), fun p8 n8 => ?_⟩
          have hcb : ("}" : Str) = SX.S [125] := by decide +kernel
          refine ⟨_, rfl, _, rfl, L, b + 1 + (nmSigns (L.drop (b + 1))).length, [125], by rw [hcb]; rfl, hL, by decide, fun hne0 => ?_, fun he0 => ?_⟩
          · have hne : ¬ (L.drop (b + 1 + (nmSigns (L.drop (b + 1))).length)).take 1 = [125] := hne0
            exact qe (by rw [heq, hT, if_neg hne]) _ ((hs2.trans hs27).trans (same_new n8 _))
          · have he : (L.drop (b + 1 + (nmSigns (L.drop (b + 1))).length)).take 1 = [125] := he0
            refine ⟨f, .choose r (TL.spl [44] 0 [] (nmSigns (L.drop (b + 1)))), m + 1 + (nmSigns (L.drop (b + 1))).length + 1, .ref p8, _, _, _, rfl, by show _ + 1 = _; omega, (hs2.trans hs27).trans (same_new n8 _), ⟨p8, v, p6, rfl, upd_same, (hr2.same hs27).same (same_new n8 _), ?_⟩, by rw [heq, hT, if_pos he], by omega, rfl⟩
            exact same_new n8 _ _ _ hp6
    · refine iteN (fun z => hbrace (SS_eq.mp z)) ?_
      have hres : rPart (k + 1) (L.drop a) = some (r, m) := by
        rw [heq]
        cases f with
        | zero => rfl
        | succ f =>
          show (if ((L.drop a).drop m).take 1 = [123] then _ else _) = _
          rw [if_neg (by rw [← hdb]; exact hbrace)]
      refine ⟨_, rfl, _, rfl, le_line (Nat.le_of_ble_eq_true rfl), fun p9 n9 => ?_⟩
      refine q r m hres _ p9 v (hs2.trans (same_new n9 _)) ?_ (hr2.same (same_new n9 _))
      rw [← hb]
      exact upd_same
  | false =>
    have hc4' : (decide (97 ≤ c) && decide (c ≤ 122)) = false := hc4
    refine if_false_eq hc4' ?_
    have hno : ¬ ((L.drop a).take 1).any isLt = true := by rw [hlt, hc4]; exact Bool.false_ne_true
    have hB : ∀ x, rNum (L.drop a) = x → rBase (rPart k) (L.drop a) = x := fun x h => by unfold rBase; rw [if_neg k1, if_neg k2, if_neg hno, h]
    refine ⟨_, rfl, _, rfl, L, a, rfl, ht, fun hg => qe (hP _ (hB _ hg)), fun r1 n1 hg1 H1 p1 v1 hs1 hp1 hr1 => ?_⟩
    refine ⟨p1, _, rfl, SqT.of hp1, rfl, v1, _, rfl, _, _, rfl, rfl, ?_⟩
    refine ⟨fun u σ H' => ∃ (f : Nat) (r : Rcp) (m : Nat) (v : V) (b : Nat) (o5 o6 : Option V), σ = [some (.str (SX.S L)), some (.int (b : Int)), some (.int (d : Int)), some (.str (SX.S ((L.drop a).take 1))), some v, o5, o6] ∧ b = a + m ∧ Same H H' ∧ Rec H' r v ∧
      rPart (k + 1) (L.drop a) = rTail f (L.drop a) r m ∧ (L.drop a).length ≤ f + m ∧ u = f, ?_, ?_⟩
    · exact ⟨_, (L.drop a).length, r1, n1, v1, _, none, none, rfl, by omega, hs1, hr1, hP _ (hB _ hg1), Nat.le_add_right _ _, rfl⟩
    rintro u σ H2 ⟨f, r, m, v, b, o5, o6, rfl, hb, hs2, hr2, heq, hfm, hu⟩
    subst u
    have hc : cutS (SX.S L) (some (b : Int)) (some ((b : Int) + 1)) = SX.S ((L.drop b).take 1) := cutS_add L b 1
    have hdb : L.drop b = (L.drop a).drop m := by rw [List.drop_drop, hb]
    have hdb1 : L.drop (b + 1) = (L.drop a).drop (m + 1) := by rw [List.drop_drop, hb]; congr 1
    refine ⟨_, rfl, _, rfl, _, rfl, _, rfl, _, _, rfl, rfl, _, rfl, _, rfl, hl, rfl, _, rfl, ?_⟩
    rw [hc, hbr]
    by_cases hbrace : (L.drop b).take 1 = [123]
    · refine iteY (SS_eq.mpr hbrace) ?_
      cases f with
      | zero =>
        rw [hdb, List.drop_eq_nil_of_le (by omega)] at hbrace
        cases hbrace
      | succ f =>
        have hT : rTail (f + 1) (L.drop a) r m = if (Th.tup (nmsTh (TL.spl [44] 0 [] (nmSigns (L.drop (b + 1)))))).areNms = true then
            if (L.drop (b + 1 + (nmSigns (L.drop (b + 1))).length)).take 1 = [125] then rTail f (L.drop a) (.choose r (TL.spl [44] 0 [] (nmSigns (L.drop (b + 1))))) (m + 1 + (nmSigns (L.drop (b + 1))).length + 1) else none else none := by
          have e1 : L.drop (b + 1 + (nmSigns (L.drop (b + 1))).length) = (L.drop a).drop (m + 1 + (nmSigns (L.drop (b + 1))).length) := by rw [List.drop_drop, hb]; congr 1; omega
          rw [e1, hdb1]
          show (if ((L.drop a).drop m).take 1 = [123] then _ else _) = _
          rw [if_pos (by rw [← hdb]; exact hbrace)]
        have htz : tameS (nmSigns (L.drop (b + 1))) = true := tame_drop ht (b + 1) _
        have hzl := tame_len htz
        obtain ⟨hp1, hp2⟩ := parts_tameS htz
        have hbl : b < L.length := Decidable.byContradiction fun z => by
          rw [List.drop_eq_nil_of_le (by omega)] at hbrace
          cases hbrace
        have hzs : (nmSigns (L.drop (b + 1))).length + 1 ≤ L.length := by
          have h1 := congrArg List.length (take_while (fun c => isLt c || decide (c = 44)) (L.drop (b + 1)))
          rw [List.length_take, List.length_drop] at h1
          show ((L.drop (b + 1)).takeWhile _).length + 1 ≤ _
          omega
        have hpl := spl_len (nmSigns (L.drop (b + 1))) [] 0
        have hcut : cutS (SX.S L) (some ((b : Int) + 1)) (some ((b + 1 + (nmSigns (L.drop (b + 1))).length : Nat) : Int)) = SX.S (nmSigns (L.drop (b + 1))) := by
          have := cutS_nat L (b + 1) (nmSigns (L.drop (b + 1))).length
          rw [show (nmSigns (L.drop (b + 1))) = (L.drop (b + 1)).takeWhile (fun c => isLt c || decide (c = 44)) from rfl] at this ⊢
          rw [take_while] at this
          exact this
        refine ⟨fun σ' H' => ∃ (f' : Nat) (r : Rcp) (m : Nat) (v : V) (b : Nat) (o5 o6 : Option V), σ' = [some (.str (SX.S L)), some (.int (b : Int)), some (.int (d : Int)), some (.str (SX.S ((L.drop a).take 1))), some v, o5, o6] ∧ b = a + m ∧ Same H H' ∧ Rec H' r v ∧
          rPart (k + 1) (L.drop a) = rTail f' (L.drop a) r m ∧ (L.drop a).length ≤ f' + m ∧ f' = f, ?_, ?_⟩
        · rintro σ' H' ⟨f', r, m, v, b, o5, o6, e1, e2, e3, e4, e5, e6, e7⟩
          exact ⟨f', by omega, f', r, m, v, b, o5, o6, e1, e2, e3, e4, e5, e6, rfl⟩
        have hcm : ("," : Str) = SX.S [44] := by decide +kernel
        refine ⟨_, rfl, _, rfl, _, _, rfl, rfl, _, _, rfl, rfl, le_line (Nat.le_of_ble_eq_true (by decide +kernel)), L, b + 1, letters ++ [44], by rw [hcm, letters_is, SX.S_cat]; rfl, hL, ?_⟩
        have e9 : ((L.drop (b + 1)).takeWhile fun c => decide (c ∈ letters ++ [44])) = nmSigns (L.drop (b + 1)) := by rw [sn_in]; rfl
        rw [e9]
        refine ⟨_, rfl, _, rfl, _, _, rfl, rfl, _, rfl, _, rfl, _, rfl, _, rfl, hl, ⟨_, rfl⟩, _, _, congrArg V.str hcut, rfl, by decide +kernel, by rw [SX.S_len]; exact le_line (by omega), fun p5 n5 => ?_⟩
        rw [split_is]
        refine ⟨p5, _, rfl, .inl ⟨SqL.of upd_same, fun p6 n6 => ?_⟩⟩
        have s6 := (same_new n5 (.lst (txs (TL.spl [44] 0 [] (nmSigns (L.drop (b + 1))))))).trans (same_new n6 (.tup (txs (TL.spl [44] 0 [] (nmSigns (L.drop (b + 1)))))))
        refine ⟨_, rfl, _, .tup (nmsTh (TL.spl [44] 0 [] (nmSigns (L.drop (b + 1))))), rfl, ⟨p6, _, rfl, upd_same, nms_data _ _⟩, low_tame hp2 (by omega), fun m e => by cases e; exact ⟨Nms.flat, low_shaped hp1⟩, fun H7 hs7 => ⟨_, rfl, ?_⟩⟩
        have hp6 := hs7 _ _ (upd_same (H := upd H2 p5 (.lst (txs (TL.spl [44] 0 [] (nmSigns (L.drop (b + 1))))))) (a := p6) (o := HO.tup (txs (TL.spl [44] 0 [] (nmSigns (L.drop (b + 1)))))))
        have hs27 := s6.trans hs7
        cases har : (Th.tup (nmsTh (TL.spl [44] 0 [] (nmSigns (L.drop (b + 1)))))).areNms with
        | false =>
          refine iteT ?_
          exact qe (by rw [heq, hT, if_neg (by rw [har]; exact Bool.false_ne_true)]) _ (hs2.trans hs27)
        | true =>
          rw [if_pos har] at hT
          refine iteF ?_
          refine ⟨_, rfl, _, rfl, le_line (Nat.le_of_ble_eq_true rfl), fun p8 n8 => ?_⟩
          have hcb : ("}" : Str) = SX.S [125] := by decide +kernel
          refine ⟨_, rfl, _, rfl, L, b + 1 + (nmSigns (L.drop (b + 1))).length, [125], by rw [hcb]; rfl, hL, by decide, fun hne0 => ?_, fun he0 => ?_⟩
          · have hne : ¬ (L.drop (b + 1 + (nmSigns (L.drop (b + 1))).length)).take 1 = [125] := hne0
            exact qe (by rw [heq, hT, if_neg hne]) _ ((hs2.trans hs27).trans (same_new n8 _))
          · have he : (L.drop (b + 1 + (nmSigns (L.drop (b + 1))).length)).take 1 = [125] := he0
            refine ⟨f, .choose r (TL.spl [44] 0 [] (nmSigns (L.drop (b + 1)))), m + 1 + (nmSigns (L.drop (b + 1))).length + 1, .ref p8, _, _, _, rfl, by show _ + 1 = _; omega, (hs2.trans hs27).trans (same_new n8 _), ⟨p8, v, p6, rfl, upd_same, (hr2.same hs27).same (same_new n8 _), ?_⟩, by rw [heq, hT, if_pos he], by omega, rfl⟩
            exact same_new n8 _ _ _ hp6
    · refine iteN (fun z => hbrace (SS_eq.mp z)) ?_
      have hres : rPart (k + 1) (L.drop a) = some (r, m) := by
        rw [heq]
        cases f with
        | zero => rfl
        | succ f =>
          show (if ((L.drop a).drop m).take 1 = [123] then _ else _) = _
          rw [if_neg (by rw [← hdb]; exact hbrace)]
      refine ⟨_, rfl, _, rfl, le_line (Nat.le_of_ble_eq_true rfl), fun p9 n9 => ?_⟩
      refine q r m hres _ p9 v (hs2.trans (same_new n9 _)) ?_ (hr2.same (same_new n9 _))
      rw [← hb]
      exact upd_same
end
theorem digVal_lt : ∀ (cs : List Nat) (acc : Nat), (∀ c ∈ cs, 48 ≤ c ∧ c ≤ 57) → cs.foldl (fun acc c => acc * 10 + (c - 48)) acc < (acc + 1) * 10 ^ cs.length
  | [], acc, _ => by show acc < (acc + 1) * 1; omega
  | c :: cs, acc, h => by
    have hc := h c (List.mem_cons_self ..)
    have ih := digVal_lt cs (acc * 10 + (c - 48)) fun x hx => h x (List.mem_cons_of_mem _ hx)
    show cs.foldl _ (acc * 10 + (c - 48)) < (acc + 1) * 10 ^ (cs.length + 1)
    refine Nat.lt_of_lt_of_le ih ?_
    rw [Nat.pow_succ, ← Nat.mul_assoc, Nat.mul_right_comm]
    exact Nat.mul_le_mul_right _ (by omega)
def RdGood (g : Rdr) : Prop := ∀ l r n, g l = some (r, n) → r.Good
theorem rName_good : RdGood rName := fun l r n h => by
  unfold rName at h
  by_cases c : nmOk (l.takeWhile isLt) = true
  · rw [if_pos c] at h
    cases h
    exact nmOk_iff.mp c
  · rw [if_neg c] at h
    cases h
theorem figs_dig (l : List Nat) : ∀ c ∈ figs l, 48 ≤ c ∧ c ≤ 57 := fun c hc => by
  have z : isFg c = true := tw_all isFg _ c hc
  unfold isFg at z
  rw [Bool.and_eq_true, decide_eq_true_eq, decide_eq_true_eq] at z
  exact z
theorem rNum_good : RdGood rNum := fun l r n h => by
  unfold rNum at h
  by_cases c : (figs l).length < 1 ∨ 40 < (figs l).length
  · rw [if_pos c] at h; cases h
  rw [if_neg c] at h
  by_cases c2 : (figs l).take 1 = [48] ∧ (1 < (figs l).length ∨ 0 < sgn l)
  · rw [if_pos c2] at h; cases h
  rw [if_neg c2] at h
  cases h
  have hv := digVal_lt (figs l) 0 (figs_dig l)
  have hp : 10 ^ (figs l).length ≤ 10 ^ 40 := Nat.pow_le_pow_right (by decide) (by omega)
  have hv2 : digVal (figs l) < 10 ^ 40 := Nat.lt_of_lt_of_le (by rw [Nat.zero_add, Nat.one_mul] at hv; exact hv) hp
  show (if sgn l = 1 then -((digVal (figs l) : Nat) : Int) else ((digVal (figs l) : Nat) : Int)).natAbs < 10 ^ 40
  by_cases s1 : sgn l = 1
  · rw [if_pos s1, Int.natAbs_neg, Int.natAbs_natCast]; exact hv2
  · rw [if_neg s1, Int.natAbs_natCast]; exact hv2
theorem rTwo_good {rp : Rdr} (g : RdGood rp) : RdGood (rTwo rp) := fun l r n h => by
  unfold rTwo at h
  split at h
  · cases h
  · rename_i a n1 h1
    split at h
    · cases h
    · split at h
      · cases h
      · rename_i b m h2
        split at h
        · cases h
          exact ⟨g _ _ _ h1, g _ _ _ h2⟩
        · cases h
theorem rPick_good {rp : Rdr} (g : RdGood rp) : RdGood (rPick rp) := fun l r n h => by
  unfold rPick at h
  split at h
  · cases h
  · rename_i a n1 h1
    split at h
    · split at h
      · cases h
      · rename_i b m h2
        split at h
        · split at h
          · cases h
          · rename_i c o h3
            split at h
            · cases h
              exact ⟨g _ _ _ h1, g _ _ _ h2, g _ _ _ h3⟩
            · cases h
        · cases h
    · cases h
theorem more_some {d : Nat} {x : Option (Rcp × Nat)} {r : Rcp} {n : Nat} (h : more d x = some (r, n)) : ∃ m, x = some (r, m) := by
  cases x with
  | none => cases h
  | some p =>
    obtain ⟨r', m⟩ := p
    cases h
    exact ⟨m, rfl⟩
theorem rBase_good {rp : Rdr} (g : RdGood rp) : RdGood (rBase rp) := fun l r n h => by
  unfold rBase at h
  split at h
  · obtain ⟨m, e⟩ := more_some h
    exact rTwo_good g _ _ _ e
  · split at h
    · obtain ⟨m, e⟩ := more_some h
      exact rPick_good g _ _ _ e
    · split at h
      · exact rName_good _ _ _ h
      · exact rNum_good _ _ _ h
theorem rTail_good : ∀ (f : Nat) (l : List Nat) (r0 : Rcp) (n0 : Nat) (r : Rcp) (n : Nat), r0.Good → rTail f l r0 n0 = some (r, n) → r.Good
  | 0, l, r0, n0, r, n, hg, h => by cases h; exact hg
  | f + 1, l, r0, n0, r, n, hg, h => by
    unfold rTail at h
    split at h
    · split at h
      · rename_i hn
        split at h
        · refine rTail_good f l _ _ r n ?_ h
          exact ⟨hg, are_nms hn⟩
        · cases h
      · cases h
    · cases h; exact hg
theorem rPart_good : ∀ k, RdGood (rPart k)
  | 0 => fun l r n h => by cases h
  | k + 1 => fun l r n h => by
    unfold rPart at h
    split at h
    · cases h
    · rename_i r1 n1 h1
      exact rTail_good _ _ _ _ _ _ (rBase_good (rPart_good k) _ _ _ h1) h
/-- the recipe that a thing writes -/
def rRead : Th → Option Rcp
  | .str T => match rPart 8 T with
    | none => none
    | some (r, n) => if n = T.length ∧ r.th.isRcp = true then some r else none
  | _ => none
def spRead (C : Addr) : Sp := fun vs H Q E => ∃ (v : V) (t : Th), vs = [v] ∧ Data H t v ∧ t.tame = true ∧ (rRead t = none → ∀ H', Same H H' → E (.ref C) none H') ∧
  (∀ r, rRead t = some r → r.Good → ∀ (H' : Hp) (v' : V), Same H H' → Rec H' r v' → Q v' H')
section
variable {P : Program} {w : World} {K : PySem.W.Frag} {mg : Str → Option Value} {base : Heap}
theorem all_read_part {C tw wd : Addr} {es : Array DictEntry} {n0 : Nat} (T : Txt K mg) (R : RTxt K mg tw) (XW : WordsT K w mg wd es n0) (XNoText : NoT K mg C) (D : IsDef K mg "read_part" s_read_part ["text", "at", "depth"])
    (D2 : IsDef K mg "read_two" s_read_two ["text", "at", "depth"]) (D3 : IsDef K mg "read_pick" s_read_pick ["text", "at", "depth"])
    (C1 : Cal P w K mg base CX0 1 "behind_signs" ["text", "at", "signs"] spBehind) (C2 : Cal P w K mg base CX0 2 "are_names" ["thing"] spAreNames) (C3 : Cal P w K mg base (L2.CX P w) 1 "expected" ["text", "at", "word"] (spExp C))
    (C4 : Cal P w K mg base (L2.CX P w) 2 "read_name" ["text", "at"] (spRd C rName)) (C5 : Cal P w K mg base (L2.CX P w) 2 "read_number" ["text", "at"] (spRd C rNum)) :
    ∀ k : Nat, Cal P w K mg base (L2.CX P w) (2 * k + 3) "read_part" ["text", "at", "depth"] (spRdD C k (rPart k))
  | 0 => ok_read_part0 (i := 0) (j := 0) T R XNoText D C1 C2 C3 C4 C5 (cal_none D2 fun _ _ _ _ h => h) (cal_none D3 fun _ _ _ _ h => h)
  | k + 1 => by
    have ih := all_read_part T R XW XNoText D D2 D3 C1 C2 C3 C4 C5 k
    exact ok_read_part T R XNoText D C1 C2 C3 C4 C5 (by omega) (ok_read_two T XW XNoText D2 C3 (by omega) ih) (ok_read_pick T XNoText D3 C3 (by omega) ih)
abbrev s_read_recipe : Stmt := topS 32
abbrev N_read_recipe : List Str := ["text", "found", "behind"]
theorem sc_read_recipe : FnScope N_read_recipe ["text"] (defScope s_read_recipe) := ⟨rfl, rfl, rfl, by decide +kernel, rfl, by decide +kernel, by decide +kernel⟩

theorem ok_read_recipe {C : Addr} (T : Txt K mg) (XNoText : NoT K mg C) (D : IsDef K mg "read_recipe" s_read_recipe ["text"])
    (C_is_recipe : Cal P w K mg base CX0 4 "is_recipe" ["thing"] spIsRecipe) (C_read_part : Cal P w K mg base (L2.CX P w) 19 "read_part" ["text", "at", "depth"] (spRdD C 8 (rPart 8))) :
    Cal P w K mg base (L2.CX P w) 20 "read_recipe" ["text"] (spRead C) := by
  refine D.calX sc_read_recipe (fun vs H Q E h => ?_) (fun f cdv A outer s H vs Q E hr h => ?_)
  · obtain ⟨v, t, rfl, _⟩ := h
    rfl
  obtain ⟨v, t, rfl, hv, ht, qe, q⟩ := h
  refine ⟨_, (pss_cons (ps_if (pt_not (pt_val (pe_callB call_isi (by rfl) T.b_isinstance (by decide +kernel) (pa_cons (pv 0) (pa_cons (pe_bltn (v := .ty "str") (by rfl) T.b_str (by decide +kernel) rfl) pa_nil)))))
        (pss_one (ps_raise rfl (takes_of rfl rfl rfl rfl) (pmk_own PySem.F.excBase_ValueError XNoText.x XNoText.g XNoText.k (raises_own XNoText.b XNoText.t) rfl)))
        pss_nil)
      (pss_cons (ps_asg (pe_cal C_read_part (hr.mono (by first | decide | omega)) (passes_call (takes_of rfl rfl rfl rfl) (fun _ _ _ _ h => h)) (pa_cons (pv 0) (pa_cons pe_int (pa_cons pe_int pa_nil)))) (pg_tup rfl (pgs_cons (pg_name (i := 1) sc_read_recipe.nd rfl (Or.inl rfl)) (pgs_cons (pg_name (i := 2) sc_read_recipe.nd rfl (Or.inl rfl)) pgs_nil))))
      (pss_cons (ps_if (PW.pt (pw_or (pt_cmpR op_ne (pv 2) (pe_callB call_len_str (by rfl) T.b_len PySem.boot_len (pa_cons (pv 0) pa_nil)) (nomark _)) (pw_or1 (pt_not (pt_val (pe_cal C_is_recipe (hr.mono (by first | decide | omega)) pass0 (pa_cons (pv 1) pa_nil)))))))
        (pss_one (ps_raise rfl (takes_of rfl rfl rfl rfl) (pmk_own PySem.F.excBase_ValueError XNoText.x XNoText.g XNoText.k (raises_own XNoText.b XNoText.t) rfl)))
        pss_nil)
      (pss_one (ps_ret (pv 1)))))), ?_⟩
  refine ⟨_, rfl, _, _, _, _, _, rfl, .ty _, hv.ty, kit_str t, _, rfl, ?_⟩
  cases t with
  | str L =>
    have ev : v = .str (SX.S L) := hv
    subst ev
    have hts : tameS L = true := ht
    have hL := tame_len hts
    have hl : (SX.S L).length ≤ sizeLine := by rw [SX.S_len]; exact le_line (by omega)
    refine iteF ?_
    refine ⟨_, rfl, L, 0, 1, rfl, by decide, hts, fun hg => qe (by show (match rPart 8 L with | none => none | some (r, n) => _) = none; rw [show rPart 8 L = none from hg]), fun r n hg H1 p1 v1 hs1 hp1 hr1 => ?_⟩
    have hg' : rPart 8 L = some (r, n) := hg
    have hq : rRead (.str L) = if n = L.length ∧ r.th.isRcp = true then some r else none := by
      show (match rPart 8 L with | none => none | some (r, n) => _) = _
      rw [hg']
    have hgood := rPart_good 8 _ _ _ hg'
    refine ⟨p1, _, rfl, SqT.of hp1, rfl, v1, _, rfl, _, _, rfl, rfl, ?_⟩
    refine ⟨_, rfl, _, rfl, _, rfl, hl, rfl, _, rfl, ?_⟩
    rw [SX.S_len]
    by_cases hn : n = L.length
    · refine not_true_eq (decide_eq_true (by rw [hn, Nat.zero_add])) ?_
      refine ⟨_, rfl, v1, r.th, rfl, hr1.data, Rcp.tame hgood, fun H2 hs2 => ⟨_, rfl, ?_⟩⟩
      cases hi : r.th.isRcp with
      | true =>
        refine iteF ?_
        exact ⟨_, rfl, q r (by rw [hq, if_pos ⟨hn, hi⟩]) hgood _ v1 (hs1.trans hs2) (hr1.same hs2)⟩
      | false =>
        refine iteT ?_
        exact qe (by rw [hq, if_neg (fun z => by rw [hi] at z; cases z.2)]) _ (hs1.trans hs2)
    · refine not_false_eq (decide_eq_false fun z => hn (by
        have z' : ((0 + n : Nat) : Int) = ((L.length : Nat) : Int) := V.int.inj z
        omega)) ?_
      exact iteT (qe (by rw [hq, if_neg (fun z => hn z.1)]) _ hs1)
  | _ => exact iteT (qe rfl _ (Same.refl H))
end
/-! ### the text of a recipe is read to it -/
def Free (rest : List Nat) : Prop := ∀ c, rest.take 1 = [c] → isLt c = false ∧ isFg c = false
theorem tw_app (p : Nat → Bool) : ∀ (s rest : List Nat), (∀ c ∈ s, p c = true) → (∀ c, rest.take 1 = [c] → p c = false) → (s ++ rest).takeWhile p = s
  | [], rest, _, h => by
    cases rest with
    | nil => rfl
    | cons c r =>
      show (c :: r).takeWhile p = []
      rw [List.takeWhile_cons, h c rfl]
      rfl
  | a :: s, rest, hs, h => by
    show (a :: (s ++ rest)).takeWhile p = a :: s
    rw [List.takeWhile_cons, hs a (List.mem_cons_self ..), tw_app p s rest (fun c hc => hs c (List.mem_cons_of_mem _ hc)) h]
    rfl
theorem num_head : ∀ (b n : Nat), n ≤ b → 1 ≤ n → (TL.numL n).take 1 ≠ [48]
  | 0, n, h, h1 => by omega
  | b + 1, n, h, h1 => by
    by_cases h10 : n < 10
    · rw [TL.numL_lt h10]
      intro z
      have : 48 + n = 48 := List.head_eq_of_cons_eq z
      omega
    · rw [TL.numL_step (by omega)]
      have ih := num_head b (n / 10) (by omega) (by omega)
      cases e : TL.numL (n / 10) with
      | nil => exact absurd e (TL.numL_ne _)
      | cons c r => rw [e] at ih; exact ih
theorem intL_nat (n : Nat) : intL (n : Int) = TL.numL n := TL.tl_num n
theorem lt_of {c : Nat} (h : 97 ≤ c ∧ c ≤ 122) : isLt c = true := by unfold isLt; rw [decide_eq_true h.1, decide_eq_true h.2]; rfl
theorem fg_of {c : Nat} (h : 48 ≤ c ∧ c ≤ 57) : isFg c = true := by unfold isFg; rw [decide_eq_true h.1, decide_eq_true h.2]; rfl
theorem fg_not {c : Nat} (h : ¬ (48 ≤ c ∧ c ≤ 57)) : isFg c = false := by
  unfold isFg
  by_cases h1 : 48 ≤ c
  · rw [decide_eq_false (show ¬ c ≤ 57 from fun z => h ⟨h1, z⟩), Bool.and_false]
  · rw [decide_eq_false h1]; rfl
theorem lt_not {c : Nat} (h : ¬ (97 ≤ c ∧ c ≤ 122)) : isLt c = false := by
  unfold isLt
  by_cases h1 : 97 ≤ c
  · rw [decide_eq_false (show ¬ c ≤ 122 from fun z => h ⟨h1, z⟩), Bool.and_false]
  · rw [decide_eq_false h1]; rfl
theorem free_of {c : Nat} {r : List Nat} (h1 : ¬ (97 ≤ c ∧ c ≤ 122)) (h2 : ¬ (48 ≤ c ∧ c ≤ 57)) : Free (c :: r) := fun d e => by
  have : c = d := List.head_eq_of_cons_eq e
  rw [← this]
  exact ⟨lt_not h1, fg_not h2⟩
theorem num_txt {m : Nat} (hm : m < 10 ^ 40) {rest : List Nat} (hf : Free rest) (g : Nat) (hg : g = 0 ∨ (g = 1 ∧ 1 ≤ m)) (L : List Nat) (hL : L = (if g = 1 then [45] else []) ++ (TL.numL m ++ rest)) :
    rNum L = some (.num (if g = 1 then -(m : Int) else m), g + (TL.numL m).length) ∧ L.take 1 ≠ [40] ∧ L.take 1 ≠ [91] ∧ ¬ (L.take 1).any isLt = true := by
  obtain ⟨c, r, hcr⟩ : ∃ c r, TL.numL m = c :: r := by
    cases e : TL.numL m with
    | nil => exact absurd e (TL.numL_ne _)
    | cons c r => exact ⟨c, r, rfl⟩
  have hdig := TL.numL_digits m
  have hc := hdig c (by rw [hcr]; exact List.mem_cons_self ..)
  have hlen : (TL.numL m).length ≤ 40 := TL.numL_len (by decide) hm
  have hlen1 : 1 ≤ (TL.numL m).length := by rw [hcr]; exact Nat.succ_le_succ (Nat.zero_le _)
  have hs : sgn L = g := by
    unfold sgn
    rw [hL]
    rcases hg with rfl | ⟨rfl, _⟩
    · rw [hcr, if_neg]
      intro z
      have : c = 45 := List.head_eq_of_cons_eq z
      omega
    · rfl
  have hfig : figs L = TL.numL m := by
    unfold figs
    rw [hs]
    have : L.drop g = TL.numL m ++ rest := by
      rw [hL]
      rcases hg with rfl | ⟨rfl, _⟩
      · rfl
      · rfl
    rw [this]
    exact tw_app isFg _ _ (fun c hc => fg_of (hdig c hc)) fun c hc => (hf c hc).2
  have h0 : ¬ ((TL.numL m).take 1 = [48] ∧ (1 < (TL.numL m).length ∨ 0 < g)) := by
    rintro ⟨h1, h2⟩
    by_cases m0 : m = 0
    · rw [m0] at h2
      rw [TL.numL_lt (by decide)] at h2
      rcases h2 with h2 | h2
      · exact absurd h2 (by decide)
      · rcases hg with rfl | ⟨_, hm1⟩
        · exact absurd h2 (by decide)
        · omega
    · exact num_head m m (Nat.le_refl _) (by omega) h1
  refine ⟨?_, ?_⟩
  · unfold rNum
    rw [hs, hfig, if_neg (by omega), if_neg h0]
    rw [show digVal (TL.numL m) = m from TL.numL_val m]
  · rw [hL]
    rcases hg with rfl | ⟨rfl, _⟩
    · rw [hcr]
      refine ⟨fun z => ?_, fun z => ?_, fun z => ?_⟩
      · have : c = 40 := List.head_eq_of_cons_eq z
        omega
      · have : c = 91 := List.head_eq_of_cons_eq z
        omega
      · have e : isLt c = false := lt_not (by omega)
        have z' : (isLt c || false) = true := z
        rw [e] at z'
        cases z'
    · exact ⟨fun z => absurd (List.head_eq_of_cons_eq (show 45 :: ([] : List Nat) = [40] from z)) (by decide), fun z => absurd (List.head_eq_of_cons_eq (show 45 :: ([] : List Nat) = [91] from z)) (by decide), by show ¬ ([45] : List Nat).any isLt = true; decide⟩
theorem intL_neg {m : Nat} (h : 1 ≤ m) : intL (-(m : Int)) = 45 :: TL.numL m := by
  have hn : (-(m : Int)) < 0 := by omega
  unfold intL
  rw [PyProof.Rows.toString_neg hn, show (0 - -(m : Int)) = (m : Int) by omega]
  rw [← TL.tl_num m]
  show (Str.ofString ("-" ++ toString (m : Int))).cps.toList = 45 :: (Str.ofString (toString (m : Int))).cps.toList
  rw [Str.ofString_eq_toList, Str.ofString_eq_toList]
  simp
def Rcp.chooses : Rcp → Nat
  | .choose a _ => a.chooses + 1
  | _ => 0
theorem spl_names {ns : List (List Nat)} (h : Nms ns) : TL.spl [44] 0 [] (TL.joinL [44] ns) = ns := by
  refine TL.spl_join (s := 44) (S := []) ?_ fun p hp hm => ?_
  · intro e
    have := h.1
    rw [e] at this
    exact absurd this (by decide)
  · have := (h.2.2 p hp).2.2 44 hm
    omega
theorem names_signs : ∀ {ns : List (List Nat)}, (∀ s ∈ ns, Nm s) → ∀ c ∈ TL.joinL [44] ns, (isLt c || decide (c = 44)) = true
  | [], _, c, hc => by cases hc
  | [p], h, c, hc => by
    have hc' : c ∈ p := hc
    rw [lt_of ((h p (List.mem_singleton.mpr rfl)).2.2 c hc')]
    rfl
  | p :: q :: r, h, c, hc => by
    have hc' : c ∈ p ++ ([44] ++ TL.joinL [44] (q :: r)) := hc
    rcases List.mem_append.mp hc' with m | m
    · rw [lt_of ((h p (List.mem_cons_self ..)).2.2 c m)]
      rfl
    · rcases List.mem_append.mp m with m | m
      · rw [List.mem_singleton.mp m]
        rfl
      · exact names_signs (fun s hs => h s (List.mem_cons_of_mem _ hs)) c m
theorem chooses_le : ∀ r : Rcp, r.chooses ≤ r.txt.length
  | .num _ => Nat.zero_le _
  | .read _ => Nat.zero_le _
  | .two _ _ _ => Nat.zero_le _
  | .pick _ _ _ => Nat.zero_le _
  | .choose a ns => by
    have := chooses_le a
    show a.chooses + 1 ≤ (a.txt ++ (123 :: (TL.joinL [44] ns ++ [125]))).length
    rw [List.length_append, List.length_cons]
    omega
theorem drop_len (a b : List Nat) (n : Nat) (h : n = a.length) : (a ++ b).drop n = b := by rw [h]; exact List.drop_left
def Tells (rp : Rdr) (k : Nat) : Prop := ∀ r : Rcp, r.Good → r.dep ≤ k → ∀ rest, Free rest → rest.take 1 ≠ [123] → rp (r.txt ++ rest) = some (r, r.txt.length)
theorem sign_word (k : Kd) : twoWord [32, k.sign, 32] = some k := by cases k <;> rfl
theorem base_txt {rp : Rdr} {k : Nat} (ht : Tells rp k) : ∀ r : Rcp, r.Good → r.dep ≤ k + 1 → ∀ rest, Free rest → ∃ r0 n0, rBase rp (r.txt ++ rest) = some (r0, n0) ∧ ∀ f, rTail (f + r.chooses) (r.txt ++ rest) r0 n0 = rTail f (r.txt ++ rest) r r.txt.length
  | .num n, hg, _, rest, hf => by
    have hgn : n.natAbs < 10 ^ 40 := hg
    refine ⟨.num n, (intL n).length, ?_, fun f => rfl⟩
    show rBase rp (intL n ++ rest) = _
    have key : ∀ (g m : Nat), m < 10 ^ 40 → (g = 0 ∨ (g = 1 ∧ 1 ≤ m)) → n = (if g = 1 then -(m : Int) else m) → intL n = (if g = 1 then [45] else []) ++ TL.numL m → rBase rp (intL n ++ rest) = some (.num n, (intL n).length) := fun g m hm hgm hn he => by
      obtain ⟨h1, h2, h3, h4⟩ := num_txt hm hf g hgm (intL n ++ rest) (by rw [he, List.append_assoc])
      unfold rBase
      rw [if_neg h2, if_neg h3, if_neg h4, h1, ← hn, he, List.length_append]
      congr 3
      rcases hgm with rfl | ⟨rfl, _⟩ <;> rfl
    by_cases h0 : 0 ≤ n
    · obtain ⟨m, rfl⟩ := Int.eq_ofNat_of_zero_le h0
      exact key 0 m (by omega) (.inl rfl) rfl (intL_nat m)
    · obtain ⟨m, hm⟩ := Int.eq_ofNat_of_zero_le (show 0 ≤ -n by omega)
      have hn : n = -(m : Int) := by omega
      refine key 1 m (by omega) (.inr ⟨rfl, by omega⟩) hn ?_
      rw [hn]
      exact intL_neg (by omega)
  | .read s, hg, _, rest, hf => by
    have hgs : Nm s := hg
    refine ⟨.read s, s.length, ?_, fun f => rfl⟩
    show rBase rp (s ++ rest) = _
    obtain ⟨c, s', hcs⟩ : ∃ c s', s = c :: s' := by
      cases s with
      | nil => exact absurd hgs.1 (by decide)
      | cons c s' => exact ⟨c, s', rfl⟩
    have hc := hgs.2.2 c (by rw [hcs]; exact List.mem_cons_self ..)
    have htk : (s ++ rest).take 1 = [c] := by rw [hcs]; rfl
    have htw : (s ++ rest).takeWhile isLt = s := tw_app isLt s rest (fun c hc => lt_of (hgs.2.2 c hc)) fun c hc => (hf c hc).1
    unfold rBase
    rw [htk, if_neg (fun z => by have : c = 40 := List.head_eq_of_cons_eq z; omega), if_neg (fun z => by have : c = 91 := List.head_eq_of_cons_eq z; omega), if_pos (by show (isLt c || false) = true; rw [lt_of hc]; rfl)]
    unfold rName
    rw [htw, if_pos (nmOk_iff.mpr hgs)]
  | .two kd a b, hg, hd, rest, hf => by
    have hd' : max a.dep b.dep + 1 ≤ k + 1 := hd
    refine ⟨.two kd a b, (Rcp.two kd a b).txt.length, ?_, fun f => rfl⟩
    have hL : (Rcp.two kd a b).txt ++ rest = 40 :: (a.txt ++ (32 :: kd.sign :: 32 :: (b.txt ++ (41 :: rest)))) := by
      show 40 :: (a.txt ++ (32 :: kd.sign :: 32 :: (b.txt ++ [41]))) ++ rest = _
      simp
    have hlen : (Rcp.two kd a b).txt.length = 1 + (a.txt.length + 3 + b.txt.length + 1) := by
      show (40 :: (a.txt ++ (32 :: kd.sign :: 32 :: (b.txt ++ [41])))).length = _
      simp
      omega
    have h1 := ht a hg.1 (by omega) (32 :: kd.sign :: 32 :: (b.txt ++ (41 :: rest))) (free_of (by decide) (by decide)) (fun z => absurd (List.head_eq_of_cons_eq z) (by decide))
    have h2 := ht b hg.2 (by omega) (41 :: rest) (free_of (by decide) (by decide)) (fun z => absurd (List.head_eq_of_cons_eq z) (by decide))
    have d1 : (a.txt ++ (32 :: kd.sign :: 32 :: (b.txt ++ (41 :: rest)))).drop a.txt.length = 32 :: kd.sign :: 32 :: (b.txt ++ (41 :: rest)) := List.drop_left
    have d2 : (a.txt ++ (32 :: kd.sign :: 32 :: (b.txt ++ (41 :: rest)))).drop (a.txt.length + 3) = b.txt ++ (41 :: rest) := by rw [← List.drop_drop, d1]; rfl
    have d3 : (a.txt ++ (32 :: kd.sign :: 32 :: (b.txt ++ (41 :: rest)))).drop (a.txt.length + 3 + b.txt.length) = 41 :: rest := by rw [← List.drop_drop, d2]; exact List.drop_left
    have hT : rTwo rp (a.txt ++ (32 :: kd.sign :: 32 :: (b.txt ++ (41 :: rest)))) = some (.two kd a b, a.txt.length + 3 + b.txt.length + 1) := by
      unfold rTwo
      rw [h1]
      dsimp only
      rw [d1, show (32 :: kd.sign :: 32 :: (b.txt ++ (41 :: rest))).take 3 = [32, kd.sign, 32] from rfl, sign_word]
      dsimp only
      rw [d2, h2]
      dsimp only
      rw [d3, if_pos (show (41 :: rest).take 1 = [41] from rfl)]
    rw [hL, hlen]
    unfold rBase
    rw [if_pos (show (40 :: (a.txt ++ (32 :: kd.sign :: 32 :: (b.txt ++ (41 :: rest))))).take 1 = [40] from rfl)]
    show more 1 (rTwo rp (a.txt ++ (32 :: kd.sign :: 32 :: (b.txt ++ (41 :: rest))))) = _
    rw [hT]
    rfl
  | .pick a b c, hg, hd, rest, hf => by
    have hd' : max a.dep (max b.dep c.dep) + 1 ≤ k + 1 := hd
    refine ⟨.pick a b c, (Rcp.pick a b c).txt.length, ?_, fun f => rfl⟩
    have hL : (Rcp.pick a b c).txt ++ rest = 91 :: (a.txt ++ (32 :: 63 :: 32 :: (b.txt ++ (32 :: 58 :: 32 :: (c.txt ++ (93 :: rest)))))) := by
      show 91 :: (a.txt ++ (32 :: 63 :: 32 :: (b.txt ++ (32 :: 58 :: 32 :: (c.txt ++ [93]))))) ++ rest = _
      simp
    have hlen : (Rcp.pick a b c).txt.length = 1 + (a.txt.length + 3 + b.txt.length + 3 + c.txt.length + 1) := by
      show (91 :: (a.txt ++ (32 :: 63 :: 32 :: (b.txt ++ (32 :: 58 :: 32 :: (c.txt ++ [93])))))).length = _
      simp
      omega
    have h1 := ht a hg.1 (by omega) (32 :: 63 :: 32 :: (b.txt ++ (32 :: 58 :: 32 :: (c.txt ++ (93 :: rest))))) (free_of (by decide) (by decide)) (fun z => absurd (List.head_eq_of_cons_eq z) (by decide))
    have h2 := ht b hg.2.1 (by omega) (32 :: 58 :: 32 :: (c.txt ++ (93 :: rest))) (free_of (by decide) (by decide)) (fun z => absurd (List.head_eq_of_cons_eq z) (by decide))
    have h3 := ht c hg.2.2 (by omega) (93 :: rest) (free_of (by decide) (by decide)) (fun z => absurd (List.head_eq_of_cons_eq z) (by decide))
    generalize hM : a.txt ++ (32 :: 63 :: 32 :: (b.txt ++ (32 :: 58 :: 32 :: (c.txt ++ (93 :: rest))))) = M at *
    have d1 : M.drop a.txt.length = 32 :: 63 :: 32 :: (b.txt ++ (32 :: 58 :: 32 :: (c.txt ++ (93 :: rest)))) := by rw [← hM]; exact List.drop_left
    have d2 : M.drop (a.txt.length + 3) = b.txt ++ (32 :: 58 :: 32 :: (c.txt ++ (93 :: rest))) := by rw [← List.drop_drop, d1]; rfl
    have d3 : M.drop (a.txt.length + 3 + b.txt.length) = 32 :: 58 :: 32 :: (c.txt ++ (93 :: rest)) := by rw [← List.drop_drop, d2]; exact List.drop_left
    have d4 : M.drop (a.txt.length + 3 + b.txt.length + 3) = c.txt ++ (93 :: rest) := by rw [← List.drop_drop, d3]; rfl
    have d5 : M.drop (a.txt.length + 3 + b.txt.length + 3 + c.txt.length) = 93 :: rest := by rw [← List.drop_drop, d4]; exact List.drop_left
    have hT : rPick rp M = some (.pick a b c, a.txt.length + 3 + b.txt.length + 3 + c.txt.length + 1) := by
      unfold rPick
      rw [h1]
      dsimp only
      rw [d1, if_pos (show (32 :: 63 :: 32 :: (b.txt ++ (32 :: 58 :: 32 :: (c.txt ++ (93 :: rest))))).take 3 = [32, 63, 32] from rfl), d2, h2]
      dsimp only
      rw [d3, if_pos (show (32 :: 58 :: 32 :: (c.txt ++ (93 :: rest))).take 3 = [32, 58, 32] from rfl), d4, h3]
      dsimp only
      rw [d5, if_pos (show (93 :: rest).take 1 = [93] from rfl)]
    rw [hL, hlen]
    unfold rBase
    rw [if_neg (show ¬ (91 :: M).take 1 = [40] from fun z => absurd (List.head_eq_of_cons_eq z) (by decide)), if_pos (show (91 :: M).take 1 = [91] from rfl)]
    show more 1 (rPick rp M) = _
    rw [hT]
    rfl
  | .choose a ns, hg, hd, rest, hf => by
    have hd' : a.dep + 1 ≤ k + 1 := hd
    have hns : Nms ns := hg.2
    obtain ⟨r0, n0, h1, h2⟩ := base_txt ht a hg.1 (by omega) (123 :: (TL.joinL [44] ns ++ (125 :: rest))) (free_of (by decide) (by decide))
    have hL : (Rcp.choose a ns).txt ++ rest = a.txt ++ (123 :: (TL.joinL [44] ns ++ (125 :: rest))) := by
      show (a.txt ++ (123 :: (TL.joinL [44] ns ++ [125]))) ++ rest = _
      simp
    refine ⟨r0, n0, by rw [hL]; exact h1, fun f => ?_⟩
    have hlen : (Rcp.choose a ns).txt.length = a.txt.length + 1 + (TL.joinL [44] ns).length + 1 := by
      show (a.txt ++ (123 :: (TL.joinL [44] ns ++ [125]))).length = _
      simp
      omega
    have e : f + (Rcp.choose a ns).chooses = (f + 1) + a.chooses := by
      show f + (a.chooses + 1) = _
      omega
    rw [hL, hlen, e, h2]
    generalize hM : a.txt ++ (123 :: (TL.joinL [44] ns ++ (125 :: rest))) = M
    have d1 : M.drop a.txt.length = 123 :: (TL.joinL [44] ns ++ (125 :: rest)) := by rw [← hM]; exact List.drop_left
    have d2 : M.drop (a.txt.length + 1) = TL.joinL [44] ns ++ (125 :: rest) := by rw [← List.drop_drop, d1]; rfl
    have d3 : M.drop (a.txt.length + 1 + (TL.joinL [44] ns).length) = 125 :: rest := by rw [← List.drop_drop, d2]; exact List.drop_left
    have hnm : nmSigns (TL.joinL [44] ns ++ (125 :: rest)) = TL.joinL [44] ns := by
      refine tw_app _ _ _ (names_signs hns.2.2) fun c hc => ?_
      have : 125 = c := List.head_eq_of_cons_eq hc
      rw [← this]
      rfl
    show (if (M.drop a.txt.length).take 1 = [123] then _ else _) = _
    rw [d2, hnm, spl_names hns, d3, d1, if_pos (show (123 :: (TL.joinL [44] ns ++ (125 :: rest))).take 1 = [123] from rfl), if_pos (nms_are hns), if_pos (show (125 :: rest).take 1 = [125] from rfl)]
theorem part_txt : ∀ k : Nat, Tells (rPart k) k
  | 0 => fun r _ hd => by have := dep_pos r; omega
  | k + 1 => fun r hg hd rest hf hb => by
    obtain ⟨r0, n0, h1, h2⟩ := base_txt (part_txt k) r hg hd rest hf
    have hle : r.chooses ≤ (r.txt ++ rest).length := by
      have := chooses_le r
      rw [List.length_append]
      omega
    have h3 := h2 ((r.txt ++ rest).length - r.chooses)
    rw [Nat.sub_add_cancel hle] at h3
    show (match rBase (rPart k) (r.txt ++ rest) with | none => none | some (r1, n1) => rTail (r.txt ++ rest).length (r.txt ++ rest) r1 n1) = _
    rw [h1]
    dsimp only
    rw [h3]
    cases (r.txt ++ rest).length - r.chooses with
    | zero => rfl
    | succ f =>
      show (if ((r.txt ++ rest).drop r.txt.length).take 1 = [123] then _ else _) = _
      rw [if_neg]
      rw [List.drop_left]
      exact hb
/-- the text told of a recipe is read back to it -/
theorem rRead_txt {r : Rcp} (hg : r.Good) (hd : r.dep ≤ 8) (hs : r.siz ≤ 100) : rRead (.str r.txt) = some r := by
  have h := part_txt 8 r hg hd [] (fun c hc => by cases hc) (fun z => by cases z)
  rw [List.append_nil] at h
  show (match rPart 8 r.txt with | none => none | some (r', n) => if n = r.txt.length ∧ r'.th.isRcp = true then some r' else none) = some r
  rw [h]
  dsimp only
  rw [if_pos ⟨rfl, Rcp.isRcp hg hd hs⟩]
/-! ### what is read has that text -/
theorem spl_some (z acc : List Nat) : TL.spl [44] 0 acc z ≠ [] := by
  induction z generalizing acc with
  | nil => rw [TL.spl_nil]; exact List.cons_ne_nil _ _
  | cons c z ih =>
    by_cases hpre : TL.pre [44] (c :: z) = true
    · rw [TL.spl_hit hpre]; exact List.cons_ne_nil _ _
    · rw [TL.spl_miss (Bool.eq_false_iff.mpr hpre)]; exact ih _
theorem joinL_cons {p : List Nat} {l : List (List Nat)} (h : l ≠ []) : TL.joinL [44] (p :: l) = p ++ (44 :: TL.joinL [44] l) := by
  cases l with
  | nil => exact absurd rfl h
  | cons q r => rfl
theorem pre_comma {c : Nat} {z : List Nat} (h : TL.pre [44] (c :: z) = true) : c = 44 := Decidable.byContradiction fun n => by
  have e : TL.pre [44] (c :: z) = false := TL.pre_of_head [] z n
  rw [h] at e
  cases e
theorem join_spl (z acc : List Nat) : TL.joinL [44] (TL.spl [44] 0 acc z) = acc ++ z := by
  induction z generalizing acc with
  | nil => rw [TL.spl_nil, List.append_nil]; rfl
  | cons c z ih =>
    by_cases hpre : TL.pre [44] (c :: z) = true
    · rw [TL.spl_hit hpre, show ([44] : List Nat).length - 1 = 0 from rfl, joinL_cons (spl_some z []), ih, pre_comma hpre]
      rfl
    · rw [TL.spl_miss (Bool.eq_false_iff.mpr hpre), ih, List.append_assoc]
      rfl
def RevOk (g : Rdr) : Prop := ∀ l r n, g l = some (r, n) → l.take n = r.txt
theorem take_two {l : List Nat} {a b : Nat} {x y : List Nat} (h1 : l.take a = x) (h2 : (l.drop a).take b = y) : l.take (a + b) = x ++ y := by
  rw [List.take_add, h1, h2]
theorem rName_rev : RevOk rName := fun l r n h => by
  unfold rName at h
  by_cases c : nmOk (l.takeWhile isLt) = true
  · rw [if_pos c] at h
    cases h
    exact take_while _ _
  · rw [if_neg c] at h; cases h
theorem numL_back {cs : List Nat} (h1 : ∀ c ∈ cs, 48 ≤ c ∧ c ≤ 57) (h2 : 1 ≤ cs.length) (h3 : cs.length = 1 ∨ cs.take 1 ≠ [48]) : TL.numL (digVal cs) = cs := by
  obtain ⟨c, r, rfl⟩ : ∃ c r, cs = c :: r := by
    cases cs with
    | nil => exact absurd h2 (by decide)
    | cons c r => exact ⟨c, r, rfl⟩
  have hc := h1 c (List.mem_cons_self ..)
  have e := NumText.toDigits_digitsVal r.length (c :: r) rfl h1 (by
    rcases h3 with h3 | h3
    · left
      have : r.length + 1 = 1 := h3
      omega
    · right
      refine ⟨c, r, rfl, ?_⟩
      have : c ≠ 48 := fun z => h3 (by rw [z]; rfl)
      omega)
  unfold TL.numL
  rw [show Nat.toDigits 10 (digVal (c :: r)) = (c :: r).map Char.ofNat from e, List.map_map]
  have hid : ∀ l : List Nat, (∀ x ∈ l, 48 ≤ x ∧ x ≤ 57) → l.map (Char.toNat ∘ Char.ofNat) = l := by
    intro l
    induction l with
    | nil => intro _; rfl
    | cons x l ih =>
      intro hl
      rw [List.map_cons, ih fun y hy => hl y (List.mem_cons_of_mem _ hy)]
      congr 1
      have hx := hl x (List.mem_cons_self ..)
      have : x = 48 ∨ x = 49 ∨ x = 50 ∨ x = 51 ∨ x = 52 ∨ x = 53 ∨ x = 54 ∨ x = 55 ∨ x = 56 ∨ x = 57 := by omega
      rcases this with rfl | rfl | rfl | rfl | rfl | rfl | rfl | rfl | rfl | rfl <;> rfl
  exact hid _ h1
theorem rNum_rev : RevOk rNum := fun l r n h => by
  unfold rNum at h
  by_cases c : (figs l).length < 1 ∨ 40 < (figs l).length
  · rw [if_pos c] at h; cases h
  rw [if_neg c] at h
  by_cases c2 : (figs l).take 1 = [48] ∧ (1 < (figs l).length ∨ 0 < sgn l)
  · rw [if_pos c2] at h; cases h
  rw [if_neg c2] at h
  cases h
  have hb : TL.numL (digVal (figs l)) = figs l := numL_back (figs_dig l) (by omega) (by
    by_cases h1 : (figs l).length = 1
    · exact .inl h1
    · exact .inr fun z => c2 ⟨z, .inl (by omega)⟩)
  have hfg : (l.drop (sgn l)).take (figs l).length = figs l := take_while isFg _
  by_cases s1 : l.take 1 = [45]
  · have hs : sgn l = 1 := by unfold sgn; rw [if_pos s1]
    have hpos : 1 ≤ digVal (figs l) := Decidable.byContradiction fun z => by
      have z0 : digVal (figs l) = 0 := by omega
      rw [z0, TL.numL_lt (by decide)] at hb
      exact c2 ⟨by rw [← hb]; rfl, .inr (by omega)⟩
    rw [hs] at hfg ⊢
    rw [take_two s1 hfg, if_pos rfl]
    show _ = intL (-((digVal (figs l) : Nat) : Int))
    rw [intL_neg hpos, hb]
    rfl
  · have hs : sgn l = 0 := by unfold sgn; rw [if_neg s1]
    rw [hs] at hfg ⊢
    rw [Nat.zero_add, if_neg (by decide)]
    show _ = intL ((digVal (figs l) : Nat) : Int)
    rw [intL_nat, hb]
    exact hfg
theorem two_sign {z : List Nat} {k : Kd} (h : twoWord z = some k) : z = [32, k.sign, 32] := by
  unfold twoWord at h
  split at h
  · rename_i e; cases h; exact e
  split at h
  · rename_i e; cases h; exact e
  split at h
  · rename_i e; cases h; exact e
  split at h
  · rename_i e; cases h; exact e
  · cases h
theorem rTwo_rev {rp : Rdr} (g : RevOk rp) : ∀ l r n, rTwo rp l = some (r, n) → 40 :: l.take n = r.txt := fun l r n h => by
  unfold rTwo at h
  split at h
  · cases h
  · rename_i a n1 h1
    split at h
    · cases h
    · rename_i w hw
      split at h
      · cases h
      · rename_i b m h2
        split at h
        · rename_i h3
          cases h
          rw [take_two (take_two (take_two (g _ _ _ h1) (two_sign hw)) (g _ _ _ h2)) h3]
          show _ = 40 :: (a.txt ++ (32 :: w.sign :: 32 :: (b.txt ++ [41])))
          simp
        · cases h
theorem rPick_rev {rp : Rdr} (g : RevOk rp) : ∀ l r n, rPick rp l = some (r, n) → 91 :: l.take n = r.txt := fun l r n h => by
  unfold rPick at h
  split at h
  · cases h
  · rename_i a n1 h1
    split at h
    · rename_i k1
      split at h
      · cases h
      · rename_i b m h2
        split at h
        · rename_i k2
          split at h
          · cases h
          · rename_i c o h3
            split at h
            · rename_i k3
              cases h
              rw [take_two (take_two (take_two (take_two (take_two (g _ _ _ h1) k1) (g _ _ _ h2)) k2) (g _ _ _ h3)) k3]
              show _ = 91 :: (a.txt ++ (32 :: 63 :: 32 :: (b.txt ++ (32 :: 58 :: 32 :: (c.txt ++ [93])))))
              simp
            · cases h
        · cases h
    · cases h
theorem more_is {d : Nat} {x : Option (Rcp × Nat)} {r : Rcp} {n : Nat} (h : more d x = some (r, n)) : ∃ m, x = some (r, m) ∧ n = d + m := by
  cases x with
  | none => cases h
  | some p =>
    obtain ⟨r', m⟩ := p
    cases h
    exact ⟨m, rfl, rfl⟩
theorem rBase_rev {rp : Rdr} (g : RevOk rp) : RevOk (rBase rp) := fun l r n h => by
  unfold rBase at h
  split at h
  · rename_i k
    obtain ⟨m, e, rfl⟩ := more_is h
    rw [take_two k rfl, ← rTwo_rev g _ _ _ e]
    rfl
  · split at h
    · rename_i k
      obtain ⟨m, e, rfl⟩ := more_is h
      rw [take_two k rfl, ← rPick_rev g _ _ _ e]
      rfl
    · split at h
      · exact rName_rev _ _ _ h
      · exact rNum_rev _ _ _ h
theorem rTail_rev : ∀ (f : Nat) (l : List Nat) (r0 : Rcp) (n0 : Nat) (r : Rcp) (n : Nat), l.take n0 = r0.txt → rTail f l r0 n0 = some (r, n) → l.take n = r.txt
  | 0, l, r0, n0, r, n, hg, h => by cases h; exact hg
  | f + 1, l, r0, n0, r, n, hg, h => by
    unfold rTail at h
    split at h
    · rename_i k1
      split at h
      · split at h
        · rename_i k2
          refine rTail_rev f l _ _ r n ?_ h
          have k3 : (l.drop (n0 + 1)).take (nmSigns (l.drop (n0 + 1))).length = nmSigns (l.drop (n0 + 1)) := take_while _ _
          rw [take_two (take_two (take_two hg k1) k3) k2]
          show _ = r0.txt ++ (123 :: (TL.joinL [44] (TL.spl [44] 0 [] (nmSigns (l.drop (n0 + 1)))) ++ [125]))
          rw [join_spl]
          simp
        · cases h
      · cases h
    · cases h; exact hg
/-- what is read of a text's beginning has that beginning for its text -/
theorem rPart_rev : ∀ k, RevOk (rPart k)
  | 0 => fun l r n h => by cases h
  | k + 1 => fun l r n h => by
    unfold rPart at h
    split at h
    · cases h
    · rename_i r1 n1 h1
      exact rTail_rev _ _ _ _ _ _ (rBase_rev (rPart_rev k) _ _ _ h1) h
/-- a text that is let by is the text of what it is read to -/
theorem rRead_rev {T : List Nat} {r : Rcp} (h : rRead (.str T) = some r) : T = r.txt ∧ r.Good ∧ r.th.isRcp = true := by
  have h' : (match rPart 8 T with | none => none | some (r, n) => if n = T.length ∧ r.th.isRcp = true then some r else none) = some r := h
  split at h'
  · cases h'
  · rename_i r1 n h1
    split at h'
    · rename_i k
      cases h'
      have := rPart_rev 8 _ _ _ h1
      rw [k.1, List.take_length] at this
      exact ⟨this, rPart_good 8 _ _ _ h1, k.2⟩
    · cases h'
/-! ### the law's own reckoning of what is a recipe -/
def spSpots (K : PySem.W.Frag) : Sp := fun vs H Q _ => ∃ (v : V) (t : Th), vs = [v] ∧ Data H t v ∧ t.tame = true ∧ (t.parts = none → ∀ H', Same H H' → Q .non H') ∧
  (∀ ps, t.parts = some ps → ∀ (H' : Hp) (a : Addr), Same H H' → H' a = some (.lst ((List.range ps.length).map fun (i : Nat) => V.int ((i : Int) + 1))) → H a = none → Q (.ref a) H')
def lawCnt : Nat → Th → Nat
  | 0, _ => 1000
  | n + 1, t => match t.parts with
    | none => 1000
    | some ps => 1 + (ps.map (lawCnt n)).sum
theorem sum_ge {α : Type} (f : α → Nat) : ∀ {l : List α} {x : α}, x ∈ l → f x ≤ (l.map f).sum
  | a :: l, x, h => by
    rcases List.mem_cons.mp h with h | h
    · rw [h, List.map_cons, List.sum_cons]; omega
    · have := sum_ge f h
      rw [List.map_cons, List.sum_cons]; omega
theorem lawCnt_is : ∀ (n : Nat) (t : Th), (t.okay n = true → lawCnt n t = t.count n) ∧ (t.okay n = false → 1000 ≤ lawCnt n t)
  | 0, t => ⟨fun h => (by cases h), fun _ => Nat.le_refl _⟩
  | n + 1, t => by
    cases hp : t.parts with
    | none =>
      have e1 : t.okay (n + 1) = false := by show (match t.parts with | none => false | some ps => ps.all (Th.okay n)) = false; rw [hp]
      have e2 : lawCnt (n + 1) t = 1000 := by show (match t.parts with | none => 1000 | some ps => 1 + (ps.map (lawCnt n)).sum) = 1000; rw [hp]
      exact ⟨fun h => (by rw [e1] at h; cases h), fun _ => (by rw [e2]; exact Nat.le_refl _)⟩
    | some ps =>
      have e1 : t.okay (n + 1) = ps.all (Th.okay n) := by show (match t.parts with | none => false | some ps => ps.all (Th.okay n)) = _; rw [hp]
      have e2 : lawCnt (n + 1) t = 1 + (ps.map (lawCnt n)).sum := by show (match t.parts with | none => 1000 | some ps => 1 + (ps.map (lawCnt n)).sum) = _; rw [hp]
      have e3 : t.count (n + 1) = 1 + (ps.map (Th.count n)).sum := by show (match t.parts with | none => 1 | some ps => 1 + (ps.map (Th.count n)).sum) = _; rw [hp]
      rw [e1, e2, e3]
      refine ⟨fun h => ?_, fun h => ?_⟩
      · rw [List.all_eq_true] at h
        have : ps.map (lawCnt n) = ps.map (Th.count n) := List.map_congr_left fun p hpm => (lawCnt_is n p).1 (h p hpm)
        rw [this]
      · rw [List.all_eq_false] at h
        obtain ⟨p, hpm, hno⟩ := h
        have h1 := (lawCnt_is n p).2 (by simpa using hno)
        have h2 := sum_ge (lawCnt n) hpm
        omega
theorem isRcp_law (t : Th) : decide (((lawCnt 8 t : Nat) : Int) ≤ 100) = t.isRcp := by
  unfold Th.isRcp
  have h := lawCnt_is 8 t
  cases ho : t.okay 8 with
  | true =>
    rw [h.1 ho, Bool.true_and]
    exact decide_eq_decide.mpr ⟨fun z => by omega, fun z => by omega⟩
  | false =>
    have := h.2 ho
    rw [Bool.false_and]
    exact decide_eq_false (by omega)
theorem le_sign (a c : Nat) : (!decide (([c] : List Nat) < [a])) = decide (a ≤ c) := by
  have e : (([c] : List Nat) < [a]) ↔ c < a := by
    constructor
    · intro h
      cases h with
      | rel h => exact h
      | cons h => cases h
    · intro h; exact List.Lex.rel h
  rw [decide_eq_decide.mpr e]
  by_cases h : c < a
  · rw [decide_eq_true h, decide_eq_false (by omega)]; rfl
  · rw [decide_eq_false h, decide_eq_true (by omega)]; rfl
/-- the filter of bad signs is empty just where all are good -/
theorem no_bad (l : List Nat) : (l.filter fun c => !(decide (97 ≤ c) && decide (c ≤ 122))).isEmpty = l.all fun c => decide (97 ≤ c) && decide (c ≤ 122) := by
  induction l with
  | nil => rfl
  | cons c l ih =>
    rw [List.all_cons, List.filter_cons, ← ih]
    cases (decide (97 ≤ c) && decide (c ≤ 122)) <;> rfl
theorem no_badN (l : List Th) : (l.filter fun t => !t.isNm).isEmpty = l.all Th.isNm := by
  induction l with
  | nil => rfl
  | cons c l ih =>
    rw [List.all_cons, List.filter_cons, ← ih]
    cases c.isNm <;> rfl
def signsPy (l : List Nat) : List PyData := l.map fun c => PyData.str (SX.S [c])
theorem signs_dp (K : PySem.W.Frag) (H : Hp) : ∀ l : List Nat, DpAll K H (txs (ones l)) (signsPy l)
  | [] => .nil
  | _ :: l => .cons (.str _) (signs_dp K H l)
theorem signs_shaped : ∀ {l : List Nat}, (∀ c ∈ l, c < 128) → PyData.canLayAll0 (signsPy l) = true ∧ PyData.depthAll (signsPy l) = 0
  | [], _ => ⟨rfl, rfl⟩
  | c :: l, hl => by
    have ih := signs_shaped (l := l) fun d h => hl d (List.mem_cons_of_mem _ h)
    refine ⟨?_, ?_⟩
    · show ((SX.S [c]).cps.all (· < 0x110000) && PyData.canLayAll0 (signsPy l)) = true
      rw [ih.1]
      have := hl c (List.mem_cons_self ..)
      simp
      omega
    · show max 0 (PyData.depthAll (signsPy l)) = 0
      rw [ih.2]
      rfl
theorem signs_eqv (l : List Nat) : PyData.eqv (.list (signsPy l)) (.list []) = l.isEmpty := by cases l <;> rfl
theorem tameS_is {z : List Nat} (h : tameS z = true) : z.length ≤ 1000000 ∧ ∀ c ∈ z, c < 128 := by
  unfold tameS at h
  rw [Bool.and_eq_true, decide_eq_true_eq, List.all_eq_true] at h
  exact ⟨h.1, fun c hc => of_decide_eq_true (h.2 c hc)⟩
theorem parts_take {t : Th} {ps : List Th} (h : t.parts = some ps) : ∃ k l, t = .tup (.str k :: l) ∧ ps = l.take ps.length := by
  obtain ⟨k, l, rfl⟩ := parts_tup h
  refine ⟨k, l, rfl, ?_⟩
  have e : formParts k l = some ps := h
  unfold formParts at e
  split at e
  · split at e
    · cases e; rfl
    · cases e
  split at e
  · split at e
    · cases e; rfl
    · cases e
  split at e
  · split at e
    · cases e; rw [List.take_of_length_le (Nat.le_refl _)]
    · cases e
  split at e
  · split at e
    · cases e; rw [List.take_of_length_le (Nat.le_refl _)]
    · cases e
  split at e
  · split at e
    · rename_i h2; cases e; rw [List.length_take, h2.1]; rfl
    · cases e
  · cases e
section
variable {P : Program} {w : World} {K : PySem.W.Frag} {mg : Str → Option Value} {base : Heap}
abbrev s__law_is_name : Stmt := topS 40
abbrev N__law_is_name : List Str := ["thing", "sign"]
theorem sc__law_is_name : FnScope N__law_is_name ["thing"] (defScope s__law_is_name) := ⟨rfl, rfl, rfl, by decide +kernel, rfl, by decide +kernel, by decide +kernel⟩

theorem ok__law_is_name (T : Txt K mg) (D : IsDef K mg "_law_is_name" s__law_is_name ["thing"]) : Cal P w K mg base CX0 1 "_law_is_name" ["thing"] spIsName := by
  refine D.cal sc__law_is_name (fun vs H Q E h => ?_) (fun f cdv A outer s H vs Q E hr h => ?_)
  · obtain ⟨v, t, rfl, _⟩ := h
    rfl
  obtain ⟨v, t, rfl, hv, ht, q⟩ := h
  have ea : ("a" : Str) = SX.S [97] := by decide +kernel
  have ez : ("z" : Str) = SX.S [122] := by decide +kernel
  refine ⟨_, (pss_cons (ps_if (PW.pt (pw_or (pt_not (pt_val (pe_callB call_isi (by rfl) T.b_isinstance (by decide +kernel) (pa_cons (pv 0) (pa_cons (pe_bltn (v := .ty "str") (by rfl) T.b_str (by decide +kernel) rfl) pa_nil))))) (pw_or1 (pt_not (pt_chain op_le op_le pe_int (pe_callB call_len_str (by rfl) T.b_len PySem.boot_len (pa_cons (pv 0) pa_nil)) pe_int)))))
        (pss_one (ps_ret pe_bl))
        pss_nil)
      (pss_one (ps_ret (pe_cmpR (op_eqD hr.units) (pe_lc (own := [("sign", 1)]) (g := gName 1)  (by rfl) sc__law_is_name.nd  (pi_str (pv 0)) (blkOk_by (own := [("sign", 1)]) (N := N__law_is_name) (sc := defScope s__law_is_name) (by decide +kernel)) (fun _ _ _ _ _ => (pg_name (i := 1) sc__law_is_name.nd rfl (Or.inl rfl))) (fun _ _ _ _ _ => (pts_one (pt_not (pt_chain op_le_str op_le_str pe_str (pv 1) pe_str)))) (fun _ _ _ _ _ => (pv 1))) (pe_lst pa_nil) (nomark _))))), ?_⟩
  refine ⟨_, rfl, _, _, _, _, _, rfl, .ty _, hv.ty, kit_str t, _, rfl, ?_⟩
  cases t with
  | str z =>
    obtain ⟨hz, hc⟩ := tameS_is ht
    have ev : v = .str (SX.S z) := hv
    subst ev
    refine iteF ?_
    have hl : (SX.S z).length ≤ sizeLine := by rw [SX.S_len]; exact le_line (by omega)
    have hlz : (SX.S z).length = z.length := SX.S_len z
    refine ⟨_, rfl, _, rfl, hl, _, _, rfl, rfl, _, rfl, ?_⟩
    by_cases h1 : (1 : Int) ≤ (((SX.S z).length : Nat) : Int)
    · refine iteY h1 ⟨_, _, rfl, rfl, _, rfl, ?_⟩
      by_cases h2 : (((SX.S z).length : Nat) : Int) ≤ 8
      · rw [decide_eq_true h2]
        refine iteF ?_
        rw [hlz] at h1 h2
        refine ⟨_, rfl, _, rfl, fun L nL => lcS (z := SX.S z) (fun i H' => Same H H' ∧ H' L = some (.lst (txs (ones ((z.take i).filter fun c => !(decide (97 ≤ c) && decide (c ≤ 122)))))))
          ⟨same_new nL _, upd_same⟩ ?_ ?_⟩
        · rintro i c H1 hc1 ⟨hs, hL⟩
          have hci : z[i]? = some c := by
            have : z.toArray[i]? = some c := hc1
            rwa [List.getElem?_toArray] at this
          have e1 : (z.take (i + 1)) = z.take i ++ [c] := by rw [List.take_add_one, hci]; rfl
          have good : (decide (97 ≤ c) && decide (c ≤ 122)) = true → Same H H1 ∧ H1 L = some (.lst (txs (ones ((z.take (i + 1)).filter fun c => !(decide (97 ≤ c) && decide (c ≤ 122)))))) := fun hcc => by
            refine ⟨hs, ?_⟩
            rw [e1, List.filter_append, List.filter_cons_of_neg (by rw [hcc]; decide), List.filter_nil, List.append_nil]
            exact hL
          have bad : (decide (97 ≤ c) && decide (c ≤ 122)) = false → ∃ acc, H1 L = some (.lst acc) ∧ acc.length < sizeLine ∧ Same H (upd H1 L (.lst (acc ++ [.str ⟨#[c]⟩]))) ∧ (upd H1 L (.lst (acc ++ [.str ⟨#[c]⟩]))) L = some (.lst (txs (ones ((z.take (i + 1)).filter fun c => !(decide (97 ≤ c) && decide (c ≤ 122)))))) := fun hcc => by
            refine ⟨_, hL, ?_, same_upd hs nL _, ?_⟩
            · rw [txs_len, ones_len]
              exact lt_line (Nat.lt_of_le_of_lt (List.length_filter_le _ _) (by rw [List.length_take]; omega))
            · rw [upd_same, e1, List.filter_append, List.filter_cons_of_pos (by rw [hcc]; rfl), List.filter_nil]
              unfold ones
              rw [List.map_append, txs_app]
              rfl
          refine ⟨rfl, _, rfl, _, _, rfl, rfl, _, rfl, ?_⟩
          have l1 : (!decide (([c] : List Nat) < ("a" : Str).cps.toList)) = decide (97 ≤ c) := by rw [ea]; exact le_sign 97 c
          have l2 : (!decide ((("z" : Str).cps.toList : List Nat) < [c])) = decide (c ≤ 122) := by rw [ez]; exact le_sign c 122
          by_cases g1 : 97 ≤ c
          · have g1' : (!decide (([c] : List Nat) < ("a" : Str).cps.toList)) = true := by rw [l1]; exact decide_eq_true g1
            refine if_true_eq g1' ⟨_, _, rfl, rfl, _, rfl, ?_⟩
            by_cases g2 : c ≤ 122
            · have g2' : (!decide ((("z" : Str).cps.toList : List Nat) < [c])) = true := by rw [l2]; exact decide_eq_true g2
              exact not_true_eq g2' (good (by rw [decide_eq_true g1, decide_eq_true g2]; rfl))
            · have g2' : (!decide ((("z" : Str).cps.toList : List Nat) < [c])) = false := by rw [l2]; exact decide_eq_false g2
              exact not_false_eq g2' ⟨_, rfl, bad (by rw [decide_eq_true g1, decide_eq_false g2]; rfl)⟩
          · have g1' : (!decide (([c] : List Nat) < ("a" : Str).cps.toList)) = false := by rw [l1]; exact decide_eq_false g1
            refine if_false_eq g1' ⟨_, rfl, ?_⟩
            exact iteT ⟨_, rfl, bad (by rw [decide_eq_false g1]; rfl)⟩
        · rintro H1 ⟨hs, hL⟩
          have ez : z.take (SX.S z).cps.size = z := List.take_of_length_le (by show z.length ≤ z.toArray.size; simp)
          rw [ez] at hL
          refine ⟨Nat.zero_le _, fun e ne => ?_⟩
          have Le : L ≠ e := ne_of_none hL ne
          have s1 := signs_shaped (l := z.filter fun c => !(decide (97 ≤ c) && decide (c ≤ 122))) fun c h => hc c (List.mem_filter.mp h).1
          refine ⟨_, _, .lst (SqL.of (by rw [upd_ne Le]; exact hL)) (signs_dp _ _ _), .lst (SqL.of upd_same) .nil, shaped_parts.mpr ⟨s1.1, by rw [s1.2]; decide⟩, rfl, ?_⟩
          rw [signs_eqv, no_bad]
          have en : nmOk z = z.all fun c => decide (97 ≤ c) && decide (c ≤ 122) := by
            unfold nmOk
            rw [decide_eq_true (show 1 ≤ z.length by omega), decide_eq_true (show z.length ≤ 8 by omega)]
            rfl
          rw [← en]
          exact q _ (hs.trans (same_new ne _))
      · rw [decide_eq_false h2]
        refine iteT ?_
        have e : nmOk z = false := by
          unfold nmOk
          rw [hlz] at h2
          rw [decide_eq_false (show ¬ z.length ≤ 8 by omega), Bool.and_false]
          rfl
        have : Q (.bl (nmOk z)) H := q H (Same.refl H)
        rw [e] at this
        exact this
    · refine iteN h1 ⟨_, rfl, iteT ?_⟩
      have e : nmOk z = false := by
        unfold nmOk
        rw [hlz] at h1
        rw [decide_eq_false (show ¬ 1 ≤ z.length by omega)]
        rfl
      have : Q (.bl (nmOk z)) H := q H (Same.refl H)
      rw [e] at this
      exact this
  | _ => exact iteT (q H (Same.refl H))
theorem formParts_len {k : List Nat} {l ps : List Th} (h : formParts k l = some ps) : l.length = 1 ∨ l.length = 2 ∨ l.length = 3 := by
  unfold formParts at h
  split at h
  · split at h
    · rename_i h2; exact .inl h2.1
    · cases h
  split at h
  · split at h
    · rename_i h2; exact .inl h2.1
    · cases h
  split at h
  · split at h
    · rename_i h2; exact .inr (.inl h2)
    · cases h
  split at h
  · split at h
    · rename_i h2; exact .inr (.inr h2)
    · cases h
  split at h
  · split at h
    · rename_i h2; exact .inr (.inl h2.1)
    · cases h
  · cases h
theorem in234 (n : Nat) : inV (.int (n : Int)) [.int 2, .int 3, .int 4] = decide (n = 2 ∨ n = 3 ∨ n = 4) := by
  show (((2 : Int) == (n : Int)) || (((3 : Int) == (n : Int)) || (((4 : Int) == (n : Int)) || false))) = _
  by_cases h : n = 2 ∨ n = 3 ∨ n = 4
  · rw [decide_eq_true h]
    rcases h with h | h | h <;> subst h <;> rfl
  · rw [decide_eq_false h]
    have e : ∀ m : Nat, m ≠ n → ((m : Int) == (n : Int)) = false := fun m hm => by
      rw [beq_eq_false_iff_ne]
      omega
    have e2 := e 2 (by omega)
    have e3 := e 3 (by omega)
    have e4 := e 4 (by omega)
    have e2' : ((2 : Int) == (n : Int)) = false := e2
    have e3' : ((3 : Int) == (n : Int)) = false := e3
    have e4' : ((4 : Int) == (n : Int)) = false := e4
    rw [e2', e3', e4']
    rfl
theorem iteInY4 {k : List Nat} {A B : Prop} (h : k ∈ twos) (a : A) : if inV (.str (SX.S k)) [.str "plus", .str "minus", .str "times", .str "most"] = true then A else B := by
  rw [in_twos, if_pos (decide_eq_true h)]; exact a
theorem iteInN4 {k : List Nat} {A B : Prop} (h : ¬ k ∈ twos) (b : B) : if inV (.str (SX.S k)) [.str "plus", .str "minus", .str "times", .str "most"] = true then A else B := by
  rw [in_twos, if_neg (fun z => h (of_decide_eq_true z))]; exact b
abbrev s__law_spots : Stmt := topS 41
abbrev N__law_spots : List Str := ["thing", "name"]
theorem sc__law_spots : FnScope N__law_spots ["thing"] (defScope s__law_spots) := ⟨rfl, rfl, rfl, by decide +kernel, rfl, by decide +kernel, by decide +kernel⟩

theorem ok__law_spots (T : Txt K mg) (D : IsDef K mg "_law_spots" s__law_spots ["thing"]) (C__law_is_name : Cal P w K mg base CX0 1 "_law_is_name" ["thing"] spIsName) : Cal P w K mg base CX0 2 "_law_spots" ["thing"] (spSpots K) := by
  refine D.cal sc__law_spots (fun vs H Q E h => ?_) (fun f cdv A outer s H vs Q E hr h => ?_)
  · obtain ⟨v, t, rfl, _⟩ := h
    rfl
  obtain ⟨v, t, rfl, hv, ht, qn, qs⟩ := h
  refine ⟨_, (pss_cons (ps_if (PW.pt (pw_or (pt_not (pt_val (pe_callB call_isi (by rfl) T.b_isinstance (by decide +kernel) (pa_cons (pv 0) (pa_cons (pe_bltn (v := .ty "tuple") (by rfl) T.b_tuple (by decide +kernel) rfl) pa_nil))))) (pw_or (pt_cmpR op_notIn_seq (pe_callB call_len_seq (by rfl) T.b_len PySem.boot_len (pa_cons (pv 0) pa_nil)) (pe_lst (pa_cons pe_int (pa_cons pe_int (pa_cons pe_int pa_nil)))) (by with_unfolding_all rfl)) (pw_or1 (pt_not (pt_val (pe_callB call_isi (by rfl) T.b_isinstance (by decide +kernel) (pa_cons (pe_ix (r := rIxT K) ix_tup (pv 0) pe_int (fun _ _ => rfl)) (pa_cons (pe_bltn (v := .ty "str") (by rfl) T.b_str (by decide +kernel) rfl) pa_nil)))))))))
        (pss_one (ps_ret pe_non))
        pss_nil)
      (pss_cons (ps_if (PW.pt (pw_and (pt_cmpR op_eq (pe_callB call_len_seq (by rfl) T.b_len PySem.boot_len (pa_cons (pv 0) pa_nil)) pe_int (nomark _)) (pw_and1 (pt_cmpR op_eq (pe_ix (r := rIxT K) ix_tup (pv 0) pe_int (fun _ _ => rfl)) pe_str (nomark _)))))
        (pss_one (ps_ret (pe_ix (r := rIxL K) ix_list (pe_lst (pa_cons pe_non (pa_cons (pe_lst pa_nil) pa_nil))) (pe_callTy call_int1 (by rfl) T.b_int (by decide +kernel) (pa_cons (pe_and (pe_callB call_isi (by rfl) T.b_isinstance (by decide +kernel) (pa_cons (pe_ix (r := rIxT K) ix_tup (pv 0) pe_int (fun _ _ => rfl)) (pa_cons (pe_bltn (v := .ty "int") (by rfl) T.b_int (by decide +kernel) rfl) pa_nil))) (pe_one (pe_not (pe_callB call_isi (by rfl) T.b_isinstance (by decide +kernel) (pa_cons (pe_ix (r := rIxT K) ix_tup (pv 0) pe_int (fun _ _ => rfl)) (pa_cons (pe_bltn (v := .ty "bool") (by rfl) T.b_bool (by decide +kernel) rfl) pa_nil)))))) pa_nil)) (fun _ _ => rfl))))
        pss_nil)
      (pss_cons (ps_if (PW.pt (pw_and (pt_cmpR op_eq (pe_callB call_len_seq (by rfl) T.b_len PySem.boot_len (pa_cons (pv 0) pa_nil)) pe_int (nomark _)) (pw_and1 (pt_cmpR op_eq (pe_ix (r := rIxT K) ix_tup (pv 0) pe_int (fun _ _ => rfl)) pe_str (nomark _)))))
        (pss_one (ps_ret (pe_ix (r := rIxL K) ix_list (pe_lst (pa_cons pe_non (pa_cons (pe_lst pa_nil) pa_nil))) (pe_callTy call_int1 (by rfl) T.b_int (by decide +kernel) (pa_cons (pe_cal C__law_is_name (hr.mono (by first | decide | omega)) pass0 (pa_cons (pe_ix (r := rIxT K) ix_tup (pv 0) pe_int (fun _ _ => rfl)) pa_nil)) pa_nil)) (fun _ _ => rfl))))
        pss_nil)
      (pss_cons (ps_if (PW.pt (pw_and (pt_cmpR op_eq (pe_callB call_len_seq (by rfl) T.b_len PySem.boot_len (pa_cons (pv 0) pa_nil)) pe_int (nomark _)) (pw_and1 (pt_cmpR op_in_seq (pe_ix (r := rIxT K) ix_tup (pv 0) pe_int (fun _ _ => rfl)) (pe_lst (pa_cons pe_str (pa_cons pe_str (pa_cons pe_str (pa_cons pe_str pa_nil))))) (by with_unfolding_all rfl)))))
        (pss_one (ps_ret (pe_lst (pa_cons pe_int (pa_cons pe_int pa_nil)))))
        pss_nil)
      (pss_cons (ps_if (PW.pt (pw_and (pt_cmpR op_eq (pe_callB call_len_seq (by rfl) T.b_len PySem.boot_len (pa_cons (pv 0) pa_nil)) pe_int (nomark _)) (pw_and1 (pt_cmpR op_eq (pe_ix (r := rIxT K) ix_tup (pv 0) pe_int (fun _ _ => rfl)) pe_str (nomark _)))))
        (pss_one (ps_ret (pe_lst (pa_cons pe_int (pa_cons pe_int (pa_cons pe_int pa_nil))))))
        pss_nil)
      (pss_cons (ps_if (PW.pt (pw_and (pt_cmpR op_eq (pe_callB call_len_seq (by rfl) T.b_len PySem.boot_len (pa_cons (pv 0) pa_nil)) pe_int (nomark _)) (pw_and (pt_cmpR op_eq (pe_ix (r := rIxT K) ix_tup (pv 0) pe_int (fun _ _ => rfl)) pe_str (nomark _)) (pw_and (pt_val (pe_callB call_isi (by rfl) T.b_isinstance (by decide +kernel) (pa_cons (pe_ix (r := rIxT K) ix_tup (pv 0) pe_int (fun _ _ => rfl)) (pa_cons (pe_bltn (v := .ty "tuple") (by rfl) T.b_tuple (by decide +kernel) rfl) pa_nil)))) (pw_and1 (pt_chain op_le op_le pe_int (pe_callB call_len_seq (by rfl) T.b_len PySem.boot_len (pa_cons (pe_ix (r := rIxT K) ix_tup (pv 0) pe_int (fun _ _ => rfl)) pa_nil)) pe_int))))))
        (pss_one (ps_ret (pe_ix (r := rIxL K) ix_list (pe_lst (pa_cons pe_non (pa_cons (pe_lst (pa_cons pe_int pa_nil)) pa_nil))) (pe_callTy call_int1 (by rfl) T.b_int (by decide +kernel) (pa_cons (pe_cmpR (op_eqD hr.units) (pe_lc (own := [("name", 1)]) (g := gName 1)  (by rfl) sc__law_spots.nd  (pi_tup (pe_ix (r := rIxT K) ix_tup (pv 0) pe_int (fun _ _ => rfl))) (blkOk_by (own := [("name", 1)]) (N := N__law_spots) (sc := defScope s__law_spots) (by decide +kernel)) (fun _ _ _ _ _ => (pg_name (i := 1) sc__law_spots.nd rfl (Or.inl rfl))) (fun _ _ _ _ _ => (pts_one (pt_not (pt_val (pe_cal C__law_is_name (hr.mono (by first | decide | omega)) pass0 (pa_cons (pv 1) pa_nil)))))) (fun _ _ _ _ _ => (pv 1))) (pe_lst pa_nil) (nomark _)) pa_nil)) (fun _ _ => rfl))))
        pss_nil)
      (pss_one (ps_ret pe_non)))))))), ?_⟩
  refine ⟨_, rfl, _, _, _, _, _, rfl, .ty _, hv.ty, kit_tup t, _, rfl, ?_⟩
  cases t with
  | tup l0 =>
    obtain ⟨p, xs0, rfl, hp, hl0⟩ := hv
    have hxl := hl0.len
    refine iteF ?_
    refine ⟨_, rfl, p, _, rfl, .inr (SqT.of hp), le_line (Nat.le_of_ble_eq_true rfl), fun u nu => ⟨u, _, rfl, .inl (SqL.of upd_same), rfl, rfl, _, rfl, ?_⟩⟩
    have s1 := same_new nu (.lst [.int 2, .int 3, .int 4])
    have hp1 := s1 _ _ hp
    have i234 : inV (.int ((xs0.length : Nat) : Int)) [.int 2, .int 3, .int 4] = decide (xs0.length = 2 ∨ xs0.length = 3 ∨ xs0.length = 4) := in234 _
    by_cases hn : xs0.length = 2 ∨ xs0.length = 3 ∨ xs0.length = 4
    · rw [decide_eq_true hn] at i234
      refine not_true_eq i234 ?_
      match l0, hl0, ht, qn, qs with
      | [], hl0, _, _, _ =>
        rw [show xs0 = [] from hl0] at hn
        simp at hn
      | t0 :: l, ⟨x0, xs, ex, hd0, hl⟩, ht, qn, qs =>
        subst ex
        refine ⟨_, rfl, p, _, _, _, rfl, rfl, SqT.of hp1, atI_at (by decide) rfl, _, _, _, _, _, rfl, .ty _, (hd0.same s1).ty, kit_str t0, _, rfl, ?_⟩
        cases t0 with
        | str k =>
          obtain rfl : x0 = V.str (SX.S k) := hd0
          obtain ⟨_, htl, _, hnt⟩ := tup_tame ht
          have n0 : ∀ w : List Nat, ∀ lit : Str, lit = SX.S w → k ≠ w → ¬ V.str (SX.S k) = V.str lit := fun w lit e hk z => hk ((kw e).mp z)
          have y0 : ∀ w : List Nat, ∀ lit : Str, lit = SX.S w → k = w → V.str (SX.S k) = V.str lit := fun w lit e hk => (kw e).mpr hk
          refine iteF ?_
          have L : ∀ m : Nat, xs.length + 1 ≠ m → ¬ V.int (((V.str (SX.S k) :: xs).length : Nat) : Int) = V.int (m : Int) := fun m hm z => by
            rw [List.length_cons] at z
            exact hm (by
              have : (((xs.length + 1 : Nat) : Int)) = (m : Int) := by cases z; rfl
              omega)
          have hx0 : xs.length = l.length := hl.len
          match l, hl, htl, hnt, qn, qs with
          | [], hl, _, _, _, _ =>
            rw [show xs = [] from hl] at hn
            simp at hn
          | [t1], ⟨x1, _, e1, hd1, e2⟩, htl, hnt, qn, qs =>
            obtain rfl : _ = [] := e2
            subst e1
            refine ⟨_, rfl, p, _, rfl, .inr (SqT.of hp1), rfl, _, rfl, iteY rfl ⟨_, rfl, p, _, _, _, rfl, rfl, SqT.of hp1, atI_at (by decide) rfl, rfl, _, rfl, ?_⟩⟩
            by_cases k1 : k = w_number
            · have hh := num_parts k k1 t1
              refine iteY (y0 _ _ q_number k1) ⟨le_line (Nat.le_of_ble_eq_true rfl), fun e ne => ⟨le_line (Nat.le_of_ble_eq_true rfl), fun o no => ?_⟩⟩
              have s2 := s1.trans ((same_new ne (.lst [])).trans (same_new no (.lst [.non, .ref e])))
              have he := same_new no (.lst [.non, .ref e]) _ _ (upd_same (H := upd H u (.lst [.int 2, .int 3, .int 4])) (a := e) (o := .lst []))
              refine ⟨_, rfl, p, _, _, _, rfl, rfl, SqT.of (s2 _ _ hp), atI_at (by decide) rfl, _, _, _, _, _, rfl, .ty _, (hd1.same s2).ty, kit_int t1, _, rfl, ?_⟩
              have ei := isInt_is t1
              cases h1 : t1.isIntB with
              | false =>
                rw [h1, Bool.false_and] at ei
                refine iteF (.inr ⟨_, rfl, o, _, _, _, rfl, rfl, SqL.of upd_same, rfl, ?_⟩)
                exact qn (hh.2 ei.symm) _ s2
              | true =>
                rw [h1, Bool.true_and] at ei
                refine iteT ⟨_, rfl, p, _, _, _, rfl, rfl, SqT.of (s2 _ _ hp), atI_at (by decide) rfl, _, _, _, _, _, rfl, .ty _, (hd1.same s2).ty, kit_bl t1, _, rfl, ?_⟩
                cases h2 : t1.isBl with
                | true =>
                  rw [h2] at ei
                  exact .inr ⟨_, rfl, o, _, _, _, rfl, rfl, SqL.of upd_same, rfl, qn (hh.2 ei.symm) _ s2⟩
                | false =>
                  rw [h2] at ei
                  exact .inr ⟨_, rfl, o, _, _, _, rfl, rfl, SqL.of upd_same, rfl, qs [] (hh.1 ei.symm) _ e s2 he (s1.free ne)⟩
            · refine iteN (n0 _ _ q_number k1) ?_
              refine ⟨_, rfl, p, _, rfl, .inr (SqT.of hp1), rfl, _, rfl, iteY rfl ⟨_, rfl, p, _, _, _, rfl, rfl, SqT.of hp1, atI_at (by decide) rfl, rfl, _, rfl, ?_⟩⟩
              by_cases k2 : k = w_read
              · have hh := read_parts k k1 k2 t1
                refine iteY (y0 _ _ q_read k2) ⟨le_line (Nat.le_of_ble_eq_true rfl), fun e ne => ⟨le_line (Nat.le_of_ble_eq_true rfl), fun o no => ?_⟩⟩
                have s2 := s1.trans ((same_new ne (.lst [])).trans (same_new no (.lst [.non, .ref e])))
                have he := same_new no (.lst [.non, .ref e]) _ _ (upd_same (H := upd H u (.lst [.int 2, .int 3, .int 4])) (a := e) (o := .lst []))
                refine ⟨_, rfl, p, _, _, _, rfl, rfl, SqT.of (s2 _ _ hp), atI_at (by decide) rfl, x1, t1, rfl, hd1.same s2, tameL_mem htl t1 (by simp), fun H2 s3 => .inr ⟨_, rfl, o, ?_⟩⟩
                cases h2 : t1.isNm with
                | true => exact ⟨_, _, _, rfl, rfl, SqL.of (s3 _ _ upd_same), rfl, qs [] (hh.1 h2) _ e (s2.trans s3) (s3 _ _ he) (s1.free ne)⟩
                | false => exact ⟨_, _, _, rfl, rfl, SqL.of (s3 _ _ upd_same), rfl, qn (hh.2 h2) _ (s2.trans s3)⟩
              · refine iteN (n0 _ _ q_read k2) ?_
                refine ⟨_, rfl, p, _, rfl, .inr (SqT.of hp1), rfl, _, rfl, iteN (L 3 (by simp)) (iteF ?_)⟩
                refine ⟨_, rfl, p, _, rfl, .inr (SqT.of hp1), rfl, _, rfl, iteN (L 4 (by simp)) (iteF ?_)⟩
                refine ⟨_, rfl, p, _, rfl, .inr (SqT.of hp1), rfl, _, rfl, iteN (L 3 (by simp)) (iteF ?_)⟩
                exact qn (one_none k k1 k2 t1) _ s1
          | [t1, t2], ⟨x1, _, e1, hd1, x2, _, e2, hd2, e3⟩, htl, hnt, qn, qs =>
            obtain rfl : _ = [] := e3
            subst e2
            subst e1
            refine ⟨_, rfl, p, _, rfl, .inr (SqT.of hp1), rfl, _, rfl, iteN (L 2 (by simp)) (iteF ?_)⟩
            refine ⟨_, rfl, p, _, rfl, .inr (SqT.of hp1), rfl, _, rfl, iteN (L 2 (by simp)) (iteF ?_)⟩
            refine ⟨_, rfl, p, _, rfl, .inr (SqT.of hp1), rfl, _, rfl, iteY rfl ⟨_, rfl, p, _, _, _, rfl, rfl, SqT.of hp1, atI_at (by decide) rfl, le_line (Nat.le_of_ble_eq_true rfl), fun e ne => ⟨e, _, rfl, .inl (SqL.of upd_same), rfl, rfl, _, rfl, ?_⟩⟩⟩
            have s2 := s1.trans (same_new ne (.lst [.str "plus", .str "minus", .str "times", .str "most"]))
            have hp2 := s2 _ _ hp
            by_cases k3 : k ∈ twos
            · refine iteInY4 k3 ⟨le_line (Nat.le_of_ble_eq_true rfl), fun a na => ?_⟩
              exact qs _ (twos_parts k k3 t1 t2) _ a (s2.trans (same_new na _)) upd_same (s2.free na)
            · refine iteInN4 k3 ?_
              refine ⟨_, rfl, p, _, rfl, .inr (SqT.of hp2), rfl, _, rfl, iteN (L 4 (by simp)) (iteF ?_)⟩
              refine ⟨_, rfl, p, _, rfl, .inr (SqT.of hp2), rfl, _, rfl, iteY rfl ⟨_, rfl, p, _, _, _, rfl, rfl, SqT.of hp2, atI_at (by decide) rfl, rfl, _, rfl, ?_⟩⟩
              by_cases k5 : k = w_choose
              · have hh := choose_parts k k5 t1 t2
                refine iteY (y0 _ _ q_choose k5) ⟨_, rfl, p, _, _, _, rfl, rfl, SqT.of hp2, atI_at (by decide) rfl, _, _, _, _, _, rfl, .ty _, (hd2.same s2).ty, kit_tup t2, _, rfl, ?_⟩
                cases t2 with
                | tup m =>
                  obtain ⟨pm, ys, rfl, hpm, hlm⟩ := hd2
                  have hyl := hlm.len
                  have e9 : (Th.tup m).areNms = (decide (1 ≤ m.length) && decide (m.length ≤ 9) && m.all Th.isNm) := rfl
                  refine iteT ⟨_, rfl, p, _, _, _, rfl, rfl, SqT.of hp2, atI_at (by decide) rfl, pm, _, rfl, .inr (SqT.of (s2 _ _ hpm)), _, _, rfl, rfl, _, rfl, ?_⟩
                  by_cases g1 : (1 : Int) ≤ ((ys.length : Nat) : Int)
                  · refine iteY g1 ⟨_, _, rfl, rfl, _, rfl, ?_⟩
                    by_cases g2 : ((ys.length : Nat) : Int) ≤ 9
                    · refine iteY g2 ⟨le_line (Nat.le_of_ble_eq_true rfl), fun e1 ne1 => ⟨le_line (Nat.le_of_ble_eq_true rfl), fun o no => ?_⟩⟩
                      have s3 := s2.trans ((same_new ne1 (.lst [.int 1])).trans (same_new no (.lst [.non, .ref e1])))
                      have he := same_new no (.lst [.non, .ref e1]) _ _ (upd_same (H := upd (upd H u (.lst [.int 2, .int 3, .int 4])) e (.lst [.str "plus", .str "minus", .str "times", .str "most"])) (a := e1) (o := .lst [.int 1]))
                      have ho := upd_same (H := upd (upd (upd H u (.lst [.int 2, .int 3, .int 4])) e (.lst [.str "plus", .str "minus", .str "times", .str "most"])) e1 (.lst [.int 1])) (a := o) (o := .lst [.non, .ref e1])
                      have htm : Th.tameL m = true := by
                        have e : (Th.tameL m && decide (m.length ≤ 1000000) && namesTame m) = true := tameL_mem htl (.tup m) (by simp)
                        rw [Bool.and_eq_true, Bool.and_eq_true] at e
                        exact e.1.1
                      have hff : Th.flatL m = true ∧ SeqAt.shaped (.list (Th.pyL m)) = true := by
                        have e : (!decide (k = w_choose) || (Th.flatL m && SeqAt.shaped (.list (Th.pyL m)))) = true := hnt
                        rw [decide_eq_true k5] at e
                        exact Bool.and_eq_true_iff.mp e
                      refine ⟨_, rfl, p, _, _, _, rfl, rfl, SqT.of (s3 _ _ hp), atI_at (by decide) rfl, pm, rfl, ⟨_, SqT.of (s3 _ _ hpm)⟩, fun L nL => ?_⟩
                      refine lc_tup (K := K) (a := pm) (xs := ys) (fun i H' => Same (upd (upd (upd (upd H u (.lst [.int 2, .int 3, .int 4])) e (.lst [.str "plus", .str "minus", .str "times", .str "most"])) e1 (.lst [.int 1])) o (.lst [.non, .ref e1])) H' ∧ ∃ zs, H' L = some (.lst zs) ∧ DataL H ((m.take i).filter fun t => !t.isNm) zs)
                        ⟨same_new nL _, [], upd_same, rfl⟩ (fun i H' _ h => SqT.of (h.1 _ _ (s3 _ _ hpm))) ?_ ?_
                      · rintro i x H1 hx ⟨hs, zs, hL, hz⟩
                        obtain ⟨tj, hti, hd⟩ := hlm.at hx
                        have hm : tj ∈ m := List.mem_of_getElem? hti
                        have e1 : (m.take (i + 1)) = m.take i ++ [tj] := by rw [List.take_add_one, hti]; rfl
                        refine ⟨rfl, _, rfl, x, tj, rfl, hd.same (s3.trans hs), tameL_mem htm tj hm, fun H2 s4 => ⟨_, rfl, ?_⟩⟩
                        have hs2 := hs.trans s4
                        cases htt : tj.isNm with
                        | true =>
                          refine iteF ⟨hs2, zs, s4 _ _ hL, ?_⟩
                          rw [e1, List.filter_append, List.filter_cons_of_neg (by rw [htt]; decide), List.filter_nil, List.append_nil]
                          exact hz
                        | false =>
                          have hyl : zs.length ≤ 9 := by
                            rw [hz.len]
                            have := List.length_filter_le (fun t : Th => !t.isNm) (m.take i)
                            rw [List.length_take] at this
                            omega
                          refine iteT ⟨_, rfl, zs, s4 _ _ hL, lt_line (by omega), same_upd hs2 nL _, _, upd_same, ?_⟩
                          rw [e1, List.filter_append, List.filter_cons_of_pos (by rw [htt]; rfl), List.filter_nil]
                          exact hz.snoc hd
                      · rintro H1 ⟨hs, zs, hL, hz⟩
                        rw [hyl, List.take_length] at hz
                        refine ⟨Nat.zero_le _, fun e2 ne2 => ?_⟩
                        have Le : L ≠ e2 := ne_of_none hL ne2
                        have s5 := hs.trans (same_new ne2 (.lst []))
                        refine ⟨_, _, .lst (SqL.of (by rw [upd_ne Le]; exact hL)) (DataL.dp (flatL_filter (fun t => !t.isNm) hff.1) (hz.same (s3.trans s5))), .lst (SqL.of upd_same) .nil, shaped_filter (fun t => !t.isNm) hff.2, rfl, ?_⟩
                        rw [eqv_nil, no_badN]
                        rw [e9, decide_eq_true (show 1 ≤ m.length by omega), decide_eq_true (show m.length ≤ 9 by omega)] at hh
                        refine .inr ⟨_, rfl, o, ?_⟩
                        cases h2 : m.all Th.isNm with
                        | true => exact ⟨_, _, _, rfl, rfl, SqL.of (s5 _ _ ho), rfl, qs _ (hh.1 h2) _ e1 (s3.trans s5) (s5 _ _ he) (s2.free ne1)⟩
                        | false => exact ⟨_, _, _, rfl, rfl, SqL.of (s5 _ _ ho), rfl, qn (hh.2 h2) _ (s3.trans s5)⟩
                    · refine iteN g2 (qn (hh.2 ?_) _ s2)
                      rw [e9, decide_eq_false (show ¬ m.length ≤ 9 by omega), Bool.and_false]
                      rfl
                  · refine iteN g1 ⟨_, rfl, iteF (qn (hh.2 ?_) _ s2)⟩
                    rw [e9, decide_eq_false (show ¬ 1 ≤ m.length by omega)]
                    rfl
                | _ => exact iteF (iteF (qn (hh.2 rfl) _ s2))
              · refine iteN (n0 _ _ q_choose k5) (iteF ?_)
                exact qn (two_none k k3 k5 t1 t2) _ s2
          | [t1, t2, t3], ⟨x1, _, e1, hd1, x2, _, e2, hd2, x3, _, e3, hd3, e4⟩, htl, hnt, qn, qs =>
            obtain rfl : _ = [] := e4
            subst e3
            subst e2
            subst e1
            refine ⟨_, rfl, p, _, rfl, .inr (SqT.of hp1), rfl, _, rfl, iteN (L 2 (by simp)) (iteF ?_)⟩
            refine ⟨_, rfl, p, _, rfl, .inr (SqT.of hp1), rfl, _, rfl, iteN (L 2 (by simp)) (iteF ?_)⟩
            refine ⟨_, rfl, p, _, rfl, .inr (SqT.of hp1), rfl, _, rfl, iteN (L 3 (by simp)) (iteF ?_)⟩
            refine ⟨_, rfl, p, _, rfl, .inr (SqT.of hp1), rfl, _, rfl, iteY rfl ⟨_, rfl, p, _, _, _, rfl, rfl, SqT.of hp1, atI_at (by decide) rfl, rfl, _, rfl, ?_⟩⟩
            by_cases k4 : k = w_pick
            · refine iteY (y0 _ _ q_pick k4) ⟨le_line (Nat.le_of_ble_eq_true rfl), fun a na => ?_⟩
              exact qs _ (pick_parts k k4 t1 t2 t3) _ a (s1.trans (same_new na _)) upd_same (s1.free na)
            · refine iteN (n0 _ _ q_pick k4) ?_
              refine ⟨_, rfl, p, _, rfl, .inr (SqT.of hp1), rfl, _, rfl, iteN (L 3 (by simp)) (iteF ?_)⟩
              exact qn (three_none k k4 t1 t2 t3) _ s1
          | a :: b :: c :: d :: l, hl, _, _, _, _ =>
            rw [List.length_cons, hx0] at hn
            simp at hn
        | _ => exact iteT (qn rfl _ s1)
    · rw [decide_eq_false hn] at i234
      refine not_false_eq i234 (iteT (qn ?_ _ s1))
      match l0, hl0, ht with
      | [], _, _ => rfl
      | t0 :: l, _, _ =>
        cases t0 with
        | str k =>
          cases hf : formParts k l with
          | none => exact hf
          | some ps =>
            have := formParts_len hf
            rw [hxl, List.length_cons] at hn
            omega
        | _ => rfl
  | _ => exact iteT (qn rfl H (Same.refl H))
abbrev s__law_size : Stmt := topS 42
abbrev N__law_size : List Str := ["thing", "depth", "spots", "spot"]
theorem sc__law_size : FnScope N__law_size ["thing", "depth"] (defScope s__law_size) := ⟨rfl, rfl, rfl, by decide +kernel, rfl, by decide +kernel, by decide +kernel⟩

def spSize (n : Nat) : Sp := fun vs H Q _ => ∃ (v : V) (t : Th) (d : Nat), vs = [v, .int (d : Int)] ∧ Data H t v ∧ t.tame = true ∧ 1 ≤ d ∧ d ≤ 9 ∧ 9 - d ≤ n ∧ ∀ H', Same H H' → Q (.int ((lawCnt (9 - d) t : Nat) : Int)) H'
theorem ok__law_size (T : Txt K mg) (D : IsDef K mg "_law_size" s__law_size ["thing", "depth"]) (C__law_spots : Cal P w K mg base CX0 2 "_law_spots" ["thing"] (spSpots K)) {n : Nat}
    (C__law_size : n = 0 ∨ ∃ m, n = m + 1 ∧ Cal P w K mg base CX0 (n + 2) "_law_size" ["thing", "depth"] (spSize m)) : Cal P w K mg base CX0 (n + 3) "_law_size" ["thing", "depth"] (spSize n) := by
  have C__law_size : ∃ sp, Cal P w K mg base CX0 (n + 2) "_law_size" ["thing", "depth"] sp ∧ (∀ m, n = m + 1 → sp = spSize m) := by
    rcases C__law_size with h | ⟨m, h, c⟩
    · exact ⟨fun _ _ _ _ => False, cal_none D (fun _ _ _ _ h => h), fun m e => by omega⟩
    · exact ⟨_, c, fun m' e => by rw [h] at e; cases e; rfl⟩
  obtain ⟨sp, C__law_size, hsp⟩ := C__law_size
  refine D.cal sc__law_size (fun vs H Q E h => ?_) (fun f cdv A outer s H vs Q E hr h => ?_)
  · obtain ⟨v, t, d, rfl, _⟩ := h
    rfl
  obtain ⟨v, t, d, rfl, hv, ht, d1, d9, dn, q⟩ := h
  refine ⟨_, (pss_cons (ps_set (i := 2) sc__law_size.nd rfl (Or.inl rfl) (pe_cal C__law_spots (hr.mono (by first | decide | omega)) pass0 (pa_cons (pv 0) pa_nil)))
      (pss_cons (ps_if (PW.pt (pw_or (pt_cmpR op_isN (pv 2) pe_non (nomark _)) (pw_or1 (pt_cmpR op_gt (pv 1) pe_int (nomark _)))))
        (pss_one (ps_ret pe_int))
        pss_nil)
      (pss_one (ps_ret (pe_op op_add pe_int (pe_callB (cr_sum rfl) (by rfl) T.b_sum (by decide +kernel) (pa_cons (pe_lc (own := [("spot", 3)]) (g := gName 3)  (by rfl) sc__law_size.nd  (pi_list (pv 2)) (blkOk_by (own := [("spot", 3)]) (N := N__law_size) (sc := defScope s__law_size) (by decide +kernel)) (fun _ _ _ _ _ => (pg_name (i := 3) sc__law_size.nd rfl (Or.inl rfl))) (fun _ _ _ _ _ => pts_nil) (fun _ _ _ _ _ => (pe_cal C__law_size (hr.mono (by first | decide | omega)) pass0 (pa_cons (pe_ix (r := rIxT K) ix_tup (pv 0) (pv 3) (fun _ _ => rfl)) (pa_cons (pe_op op_add (pv 1) pe_int) pa_nil))))) pa_nil))))))), ?_⟩
  refine ⟨_, rfl, v, t, rfl, hv, ht, fun hno H1 hs1 => ?_, fun ps hps H1 a hs1 ha na => ?_⟩
  · refine ⟨_, rfl, rfl, _, rfl, iteY rfl (iteT ?_)⟩
    have e : lawCnt (9 - d) t = 1000 := by
      cases 9 - d with
      | zero => rfl
      | succ m => show (match t.parts with | none => 1000 | some ps => 1 + (ps.map (lawCnt m)).sum) = 1000; rw [hno]
    have := q H1 hs1
    rw [e] at this
    exact this
  · refine ⟨_, rfl, rfl, _, rfl, iteN (by intro z; cases z) ?_⟩
    refine ⟨_, rfl, _, _, rfl, rfl, _, rfl, ?_⟩
    by_cases h8 : ((d : Nat) : Int) > 8
    · refine iteY h8 ?_
      have e : 9 - d = 0 := by omega
      have := q H1 hs1
      rw [e] at this
      exact this
    · refine iteN h8 ?_
      obtain ⟨m, hm⟩ : ∃ m, 9 - d = m + 1 := ⟨8 - d, by omega⟩
      obtain ⟨n', hn'⟩ : ∃ n', n = n' + 1 := ⟨n - 1, by omega⟩
      have hspE := hsp n' hn'
      subst hspE
      obtain ⟨k, l, rfl, hpl⟩ := parts_take hps
      obtain ⟨p, xs, rfl, hp, hl⟩ := hv
      have hptm := (parts_tame ht hps)
      refine ⟨_, rfl, a, rfl, ⟨_, SqL.of ha⟩, fun L nL => lc_list (K := K) (a := a) (xs := (List.range ps.length).map fun (i : Nat) => V.int ((i : Int) + 1)) (fun i H' => Same H1 H' ∧ H' L = some (.lst (((ps.take i).map fun t => ((lawCnt m t : Nat) : Int)).map V.int)))
        ⟨same_new nL _, upd_same⟩ (fun i H' _ h => SqL.of (h.1 _ _ ha)) ?_ ?_⟩
      · rintro i x H2 hx ⟨hs2, hL⟩
        have hip : i < ps.length := by
          have := (List.getElem?_eq_some_iff.mp hx).1
          simpa using this
        have ex : x = V.int ((i : Int) + 1) := by
          rw [List.getElem?_map, List.getElem?_range hip] at hx
          exact (Option.some.inj hx).symm
        subst ex
        have hpi := List.getElem?_eq_getElem hip
        have hli : (Th.str k :: l)[i + 1]? = some ps[i] := by
          rw [List.getElem?_cons_succ]
          have h2 : (l.take ps.length)[i]? = some ps[i] := Eq.trans (congrArg (fun z => z[i]?) hpl.symm) hpi
          rwa [List.getElem?_take_of_lt hip] at h2
        obtain ⟨y, hy, hdy⟩ := hl.get hli
        refine ⟨rfl, _, rfl, _, rfl, p, _, _, _, rfl, rfl, SqT.of (hs2 _ _ (hs1 _ _ hp)), atI_at (by omega) (by rw [show ((i : Int) + 1).toNat = i + 1 by omega]; exact hy), _, rfl, _, _, rfl, rfl, y, ps[i], d + 1, rfl, hdy.same (hs1.trans hs2), hptm.2 _ (List.getElem_mem hip), by omega, by omega, by omega, fun H3 hs3 => ?_⟩
        refine ⟨_, hs3 _ _ hL, ?_, same_upd (hs2.trans hs3) nL _, ?_⟩
        · rw [List.length_map, List.length_map, List.length_take]
          have := hptm.1
          exact lt_line (by omega)
        · rw [upd_same, List.take_add_one, hpi, List.map_append, List.map_append]
          rw [show 9 - (d + 1) = m by omega]
          rfl
      · rintro H2 ⟨hs2, hL⟩
        rw [List.length_map, List.length_range, List.take_length] at hL
        refine ⟨L, _, rfl, SqL.of hL, _, _, rfl, rfl, ?_⟩
        have e : 1 + (ps.map fun t => ((lawCnt m t : Nat) : Int)).sum = ((lawCnt (9 - d) (Th.tup (.str k :: l)) : Nat) : Int) := by
          rw [hm]
          have e2 : lawCnt (m + 1) (Th.tup (.str k :: l)) = 1 + (ps.map (lawCnt m)).sum := by show (match (Th.tup (.str k :: l)).parts with | none => 1000 | some ps => 1 + (ps.map (lawCnt m)).sum) = _; rw [hps]
          rw [e2]
          have : ∀ l : List Th, (l.map fun t => ((lawCnt m t : Nat) : Int)).sum = (((l.map (lawCnt m)).sum : Nat) : Int) := fun l => by
            induction l with
            | nil => rfl
            | cons a l ih => rw [List.map_cons, List.sum_cons, List.map_cons, List.sum_cons, ih]; omega
          rw [this]
          omega
        show Q (V.int (1 + (ps.map fun t => ((lawCnt m t : Nat) : Int)).sum)) H2
        rw [e]
        exact q _ (hs1.trans hs2)
theorem all__law_size (T : Txt K mg) (D : IsDef K mg "_law_size" s__law_size ["thing", "depth"]) (C__law_spots : Cal P w K mg base CX0 2 "_law_spots" ["thing"] (spSpots K)) : ∀ n : Nat, Cal P w K mg base CX0 (n + 3) "_law_size" ["thing", "depth"] (spSize n)
  | 0 => ok__law_size T D C__law_spots (.inl rfl)
  | n + 1 => ok__law_size T D C__law_spots (.inr ⟨n, rfl, all__law_size T D C__law_spots n⟩)
abbrev s__law_is : Stmt := topS 43
abbrev N__law_is : List Str := ["thing"]
theorem sc__law_is : FnScope N__law_is ["thing"] (defScope s__law_is) := ⟨rfl, rfl, rfl, by decide +kernel, rfl, by decide +kernel, by decide +kernel⟩

theorem ok__law_is (T : Txt K mg) (D : IsDef K mg "_law_is" s__law_is ["thing"]) (C__law_size : Cal P w K mg base CX0 11 "_law_size" ["thing", "depth"] (spSize 8)) : Cal P w K mg base CX0 12 "_law_is" ["thing"] spIsRecipe := by
  refine D.cal sc__law_is (fun vs H Q E h => ?_) (fun f cdv A outer s H vs Q E hr h => ?_)
  · obtain ⟨v, t, rfl, _⟩ := h
    rfl
  obtain ⟨v, t, rfl, hv, ht, q⟩ := h
  refine ⟨_, (pss_one (ps_ret (pe_cmpR op_le (pe_cal C__law_size (hr.mono (by first | decide | omega)) pass0 (pa_cons (pv 0) (pa_cons pe_int pa_nil))) pe_int (nomark _)))), ?_⟩
  refine ⟨_, rfl, v, t, 1, rfl, hv, ht, Nat.le_refl 1, by decide, by decide, fun H' hs => ⟨_, _, rfl, rfl, ?_⟩⟩
  have e := isRcp_law t
  have := q H' hs
  rw [← e] at this
  exact this
end
/-! ### the deck of drawn cells -/
/-- at d a deck, what B tracks besides stands -/
def DeckAt (B H : Hp) (d : Addr) : Prop := Same B H ∧ B d = none ∧ ∃ (c : Addr) (m n : Int) (ns : List Int), B c = none ∧ H d = some (.lst [.ref c, .int m, .int n]) ∧ H c = some (.lst (ns.map V.int)) ∧ 0 < ns.length ∧ ns.length ≤ 63
def spDraw : Sp := fun vs H Q _ => ∃ (B : Hp) (d : Addr) (many : Int), vs = [.ref d, .int many] ∧ DeckAt B H d ∧ 0 < many ∧ many.natAbs < 2 ^ 200 ∧ ∀ (H' : Hp) (v : Int), DeckAt B H' d → 0 ≤ v → v < many → Q (.int v) H'
section
variable {P : Program} {w : World} {K : PySem.W.Frag} {mg : Str → Option Value} {base : Heap}
abbrev s__law_draw : Stmt := topS 35
abbrev N__law_draw : List Str := ["deck", "many", "at", "found", "number"]
theorem sc__law_draw : FnScope N__law_draw ["deck", "many"] (defScope s__law_draw) := ⟨rfl, rfl, rfl, by decide +kernel, rfl, by decide +kernel, by decide +kernel⟩

theorem ok__law_draw (T : Txt K mg) (D : IsDef K mg "_law_draw" s__law_draw ["deck", "many"]) : Cal P w K mg base CX0 1 "_law_draw" ["deck", "many"] spDraw := by
  refine D.cal sc__law_draw (fun vs H Q E h => ?_) (fun f cdv A outer s H vs Q E hr h => ?_)
  · obtain ⟨B, d, many, rfl, _⟩ := h
    rfl
  obtain ⟨B, d, many, rfl, ⟨hs, bd, c, m, n, ns, bc, hd, hc, h0, h63⟩, hp, hm, q⟩ := h
  have dc : d ≠ c := fun e => by
    subst e
    rw [hd] at hc
    cases ns with
    | nil => cases hc
    | cons a r => simp at hc
  have hl : (ns.map V.int).length = ns.length := List.length_map _
  refine ⟨_, (pss_cons (ps_set (i := 2) sc__law_draw.nd rfl (Or.inl rfl) (pe_op op_mod (pe_ix (r := rIxL K) ix_list (pv 0) pe_int (fun _ _ => rfl)) (pe_callB call_len_seq (by rfl) T.b_len PySem.boot_len (pa_cons (pe_ix (r := rIxL K) ix_list (pv 0) pe_int (fun _ _ => rfl)) pa_nil))))
      (pss_cons (ps_asg (pe_op op_add (pe_ix (r := rIxL K) ix_list (pv 0) pe_int (fun _ _ => rfl)) pe_int) (pg_sub (pv 0) pe_int set_list))
      (pss_cons (ps_if (pt_cmpR op_eq (pe_ix (r := rIxL K) ix_list (pv 0) pe_int (fun _ _ => rfl)) pe_int (nomark _))
        (pss_cons (ps_set (i := 3) sc__law_draw.nd rfl (Or.inl rfl) (pe_op op_mod (pe_ix (r := rIxL K) ix_list (pe_ix (r := rIxL K) ix_list (pv 0) pe_int (fun _ _ => rfl)) (pv 2) (fun _ _ => rfl)) (pv 1)))
      (pss_cons (ps_asg (pe_op op_fdivW (pe_ix (r := rIxL K) ix_list (pe_ix (r := rIxL K) ix_list (pv 0) pe_int (fun _ _ => rfl)) (pv 2) (fun _ _ => rfl)) (pv 1)) (pg_sub (pe_ix (r := rIxL K) ix_list (pv 0) pe_int (fun _ _ => rfl)) (pv 2) set_list))
      (pss_one (ps_ret (pv 3)))))
        pss_nil)
      (pss_cons (ps_set (i := 4) sc__law_draw.nd rfl (Or.inl rfl) (pe_op op_mod (pe_op op_add (pe_op op_mul (pe_op op_mod (pe_ix (r := rIxL K) ix_list (pe_ix (r := rIxL K) ix_list (pv 0) pe_int (fun _ _ => rfl)) (pv 2) (fun _ _ => rfl)) pe_int) pe_int) (pe_op op_mul (pe_ix (r := rIxL K) ix_list (pv 0) pe_int (fun _ _ => rfl)) pe_int)) pe_int))
      (pss_cons (ps_set (i := 4) sc__law_draw.nd rfl (Or.inl rfl) (pe_op op_mod (pe_op op_mul (pv 4) (pv 4)) pe_int))
      (pss_one (ps_ret (pe_op op_mod (pe_op op_fdivW (pe_op op_mod (pe_op op_add (pe_op op_mul (pv 4) pe_int) (pe_ix (r := rIxL K) ix_list (pv 0) pe_int (fun _ _ => rfl))) pe_int) pe_int) (pv 1))))))))), ?_⟩
  -- at = deck[2] % len(deck[0])
  refine ⟨_, rfl, d, _, _, _, rfl, rfl, SqL.of hd, rfl, _, rfl, d, _, _, _, rfl, rfl, SqL.of hd, rfl, c, _, rfl, .inl (SqL.of hc), _, _, rfl, rfl, by rw [hl]; omega, ?_⟩
  have a0 : 0 ≤ n % (((ns.map V.int).length : Nat) : Int) := Int.emod_nonneg _ (by rw [hl]; omega)
  have a1 : n % (((ns.map V.int).length : Nat) : Int) < ns.length := by rw [hl]; exact Int.emod_lt_of_pos _ (by omega)
  have a1' : n % (((ns.map V.int).length : Nat) : Int) < (ns.map V.int).length := by rw [hl] at a1 ⊢; exact a1
  obtain ⟨v, hv⟩ := int_at a0 a1
  -- deck[2] = deck[2] + 1
  refine ⟨_, rfl, d, _, _, _, rfl, rfl, SqL.of hd, rfl, _, _, rfl, rfl, _, rfl, d, _, _, _, rfl, rfl, hd, rfl, ?_⟩
  have hd1 : upd H d (.lst [.ref c, .int m, .int (n + 1)]) d = some (.lst [.ref c, .int m, .int (n + 1)]) := upd_same
  have hc1 : upd H d (.lst [.ref c, .int m, .int (n + 1)]) c = some (.lst (ns.map V.int)) := by rw [upd_ne dc.symm]; exact hc
  have hs1 : Same B (upd H d (.lst [.ref c, .int m, .int (n + 1)])) := same_upd hs bd _
  -- if deck[1] == 0
  refine ⟨_, rfl, d, _, _, _, rfl, rfl, SqL.of hd1, rfl, rfl, _, rfl, ?_⟩
  refine ite2 (fun _ => ?_) (fun _ => ?_)
  · refine ⟨_, rfl, d, _, _, _, rfl, rfl, SqL.of hd1, rfl, _, rfl, c, _, _, _, rfl, rfl, SqL.of hc1, hv, _, rfl, _, _, rfl, rfl, hp, ?_⟩
    refine ⟨_, rfl, d, _, _, _, rfl, rfl, SqL.of hd1, rfl, _, rfl, c, _, _, _, rfl, rfl, SqL.of hc1, hv, _, rfl, _, _, rfl, rfl, wide_div hp hm (by decide) (by decide), _, rfl, d, _, _, _, rfl, rfl, SqL.of hd1, rfl, _, rfl, c, _, _, _, rfl, rfl, hc1, ixN_at a0 a1', ?_⟩
    refine ⟨_, rfl, q _ _ ⟨same_upd hs1 bc _, bd, c, m, n + 1, ns.set (n % (((ns.map V.int).length : Nat) : Int)).toNat (v / many), bc, ?_, ?_, ?_, ?_⟩ (Int.emod_nonneg _ (by omega)) (Int.emod_lt_of_pos _ hp)⟩
    · rw [upd_ne dc]; exact hd1
    · rw [upd_same, List.map_set]
    · rw [List.length_set]; exact h0
    · rw [List.length_set]; exact h63
  · refine ⟨_, rfl, d, _, _, _, rfl, rfl, SqL.of hd1, rfl, _, rfl, c, _, _, _, rfl, rfl, SqL.of hc1, hv, _, _, rfl, rfl, (by show (0 : Int) < 1000000007; decide), _, _, rfl, rfl, .inr ⟨by decide, by decide⟩, _, rfl, d, _, _, _, rfl, rfl, SqL.of hd1, rfl, _, _, rfl, rfl, .inr ⟨by decide, by decide⟩, _, _, rfl, rfl, _, _, rfl, rfl, (by show (0 : Int) < 1000000009; decide), ?_⟩
    have y0 : 0 ≤ (v % 1000000007 * 7919 + (n + 1) * 104729) % 1000000009 := Int.emod_nonneg _ (by decide)
    have y1 : (v % 1000000007 * 7919 + (n + 1) * 104729) % 1000000009 < 1000000009 := Int.emod_lt_of_pos _ (by decide)
    refine ⟨_, rfl, _, rfl, _, _, rfl, rfl, .inl ⟨Int.lt_of_lt_of_le (by decide) y0, Int.lt_trans y1 (by decide)⟩, _, _, rfl, rfl, (by show (0 : Int) < _; decide), ?_⟩
    refine ⟨_, rfl, _, _, rfl, rfl, .inr ⟨by decide, by decide⟩, _, rfl, d, _, _, _, rfl, rfl, SqL.of hd1, rfl, _, _, rfl, rfl, _, _, rfl, rfl, (by show (0 : Int) < _; decide), _, _, rfl, rfl, ⟨by decide, by decide +kernel⟩, _, rfl, _, _, rfl, rfl, hp, ?_⟩
    exact q _ _ ⟨hs1, bd, c, m, n + 1, ns, bc, hd1, hc1, h0, h63⟩ (Int.emod_nonneg _ (by omega)) (Int.emod_lt_of_pos _ hp)
end
/-! ### names, numbers and recipes drawn of a deck -/
def spDeck (K : PySem.W.Frag) : Sp := fun vs H Q _ => ∃ (a : Addr) (ns : List Int), vs = [.ref a] ∧ SqL K H a (ns.map V.int) ∧ ns.length ≤ 63 ∧ ∀ (B H' : Hp) (d : Addr), Same H B → DeckAt B H' d → Q (.ref d) H'
def spName : Sp := fun vs H Q _ => ∃ (B : Hp) (d : Addr), vs = [.ref d] ∧ DeckAt B H d ∧ ∀ (B' H' : Hp) (s : List Nat), Same B B' → DeckAt B' H' d → Nm s → Q (.str (SX.S s)) H'
def spNumber : Sp := fun vs H Q _ => ∃ (B : Hp) (d : Addr), vs = [.ref d] ∧ DeckAt B H d ∧ ∀ (H' : Hp) (n : Int), DeckAt B H' d → n.natAbs < 10 ^ 40 → Q (.int n) H'
/-- the frame may grow -/
theorem DeckAt.new {B H : Hp} {d : Addr} {p : Addr} (k : DeckAt B H d) (h : H p = none) (o : HO) : DeckAt (upd B p o) (upd H p o) d := by
  obtain ⟨s, bd, c, m, n, ns, bc, hd, hc, h0, h63⟩ := k
  have dp : d ≠ p := ne_of_none hd h
  have cp : c ≠ p := ne_of_none hc h
  refine ⟨fun b u q => ?_, by rw [upd_ne dp]; exact bd, c, m, n, ns, by rw [upd_ne cp]; exact bc, by rw [upd_ne dp]; exact hd, by rw [upd_ne cp]; exact hc, h0, h63⟩
  by_cases e : b = p
  · subst e; rw [upd_same] at q ⊢; exact q
  · rw [upd_ne e] at q ⊢; exact s _ _ q
/-- what the frame tracks may be written -/
theorem DeckAt.put {B H : Hp} {d : Addr} {p : Addr} {u : HO} (k : DeckAt B H d) (h : B p = some u) (o : HO) : DeckAt (upd B p o) (upd H p o) d := by
  obtain ⟨s, bd, c, m, n, ns, bc, hd, hc, h0, h63⟩ := k
  have dp : d ≠ p := fun e => by rw [e, h] at bd; cases bd
  have cp : c ≠ p := fun e => by rw [e, h] at bc; cases bc
  refine ⟨fun b w q => ?_, by rw [upd_ne dp]; exact bd, c, m, n, ns, by rw [upd_ne cp]; exact bc, by rw [upd_ne dp]; exact hd, by rw [upd_ne cp]; exact hc, h0, h63⟩
  by_cases e : b = p
  · subst e; rw [upd_same] at q ⊢; exact q
  · rw [upd_ne e] at q ⊢; exact s _ _ q
theorem DeckAt.same {B H H' : Hp} {d : Addr} (k : DeckAt B H d) (h : Same H H') : DeckAt B H' d := by
  obtain ⟨s, bd, c, m, n, ns, bc, hd, hc, h0, h63⟩ := k
  exact ⟨s.trans h, bd, c, m, n, ns, bc, h _ _ hd, h _ _ hc, h0, h63⟩
theorem DeckAt.free {B H : Hp} {d p : Addr} (k : DeckAt B H d) (h : H p = none) : B p = none := k.1.free h
theorem joinL_nil : ∀ l : List (List Nat), TL.joinL [] l = l.flatten
  | [] => rfl
  | [p] => by simp [TL.joinL]
  | p :: q :: r => by
    show p ++ ([] ++ TL.joinL [] (q :: r)) = _
    rw [joinL_nil (q :: r)]
    simp
section
variable {P : Program} {w : World} {K : PySem.W.Frag} {mg : Str → Option Value} {base : Heap}
abbrev s__law_deck : Stmt := topS 34
abbrev N__law_deck : List Str := ["script", "cells"]
theorem sc__law_deck : FnScope N__law_deck ["script"] (defScope s__law_deck) := ⟨rfl, rfl, rfl, by decide +kernel, rfl, by decide +kernel, by decide +kernel⟩

theorem ok__law_deck (T : Txt K mg) (D : IsDef K mg "_law_deck" s__law_deck ["script"]) : Cal P w K mg base CX0 1 "_law_deck" ["script"] (spDeck K) := by
  refine D.cal sc__law_deck (fun vs H Q E h => ?_) (fun f cdv A outer s H vs Q E hr h => ?_)
  · obtain ⟨a, ns, rfl, _⟩ := h
    rfl
  obtain ⟨a, ns, rfl, hS, h63, q⟩ := h
  refine ⟨_, (pss_cons (ps_set (i := 1) sc__law_deck.nd rfl (Or.inl rfl) (pe_callTy call_list_of (by rfl) T.b_list (by decide +kernel) (pa_cons (pe_slice (r := rSlL K) sl_list (pv 0) po_none (po_some pe_int)) pa_nil)))
      (pss_cons (ps_if (pt_cmpR (op_eqD hr.units) (pv 1) (pe_lst pa_nil) (nomark _))
        (pss_one (ps_set (i := 1) sc__law_deck.nd rfl (Or.inl rfl) (pe_lst (pa_cons pe_int pa_nil))))
        pss_nil)
      (pss_one (ps_ret (pe_lst (pa_cons (pv 1) (pa_cons (pe_op op_mod (pe_callB call_len_seq (by rfl) T.b_len PySem.boot_len (pa_cons (pv 0) pa_nil)) pe_int) (pa_cons pe_int pa_nil)))))))), ?_⟩
  have hl : (ns.map V.int).length = ns.length := List.length_map _
  refine ⟨_, rfl, _, rfl, a, _, rfl, hS, fun p np => ?_⟩
  have g1 : Same H (upd H p (.lst (cutV (ns.map V.int) none (some 63)))) := same_new np _
  have ec : cutV (ns.map V.int) none (some 63) = ns.map V.int := by
    show ((ns.map V.int).drop (HT.sIx (ns.map V.int).length 0 none)).take (HT.sIx (ns.map V.int).length (ns.map V.int).length (some ((63 : Nat) : Int)) - HT.sIx (ns.map V.int).length 0 none) = ns.map V.int
    rw [HT.sIx_none, HT.sIx_nat, List.drop_zero, List.take_of_length_le]
    rw [hl]
    omega
  refine ⟨p, _, rfl, .inl (SqL.of upd_same), fun l nl => ?_⟩
  have g2 := g1.trans (same_new nl (.lst (cutV (ns.map V.int) none (some 63))))
  refine ⟨_, rfl, Nat.zero_le _, fun e ne => ?_⟩
  have le : l ≠ e := ne_of_none upd_same ne
  have dp : ∀ (H : Hp) (l : List Int), DpAll K H (l.map V.int) (l.map PyData.int) := fun H l => by
    induction l with
    | nil => exact .nil
    | cons x l ih => exact .cons (.int x) ih
  refine ⟨.list (ns.map PyData.int), .list [], .lst (xs := ns.map V.int) (SqL.of (by rw [upd_ne le, upd_same, ec])) (dp _ _), .lst (SqL.of upd_same) .nil, PySem.W.ke_shaped_ints ns, rfl, _, rfl, ?_⟩
  have fin : ∀ (H1 : Hp) (c : Addr) (zs : List Int), Same H H1 → H c = none → H1 c = some (.lst (zs.map V.int)) → 0 < zs.length → zs.length ≤ 63 → ∀ d, H1 d = none → ∀ m n : Int, Q (.ref d) (upd H1 d (.lst [.ref c, .int m, .int n])) := fun H1 c zs h1 hc0 hc z0 z63 d nd m n => by
    have cd : c ≠ d := ne_of_none hc nd
    exact q H _ d (Same.refl H) ⟨h1.trans (same_new nd _), h1.free nd, c, m, n, zs, hc0, upd_same, by rw [upd_ne cd]; exact hc, z0, z63⟩
  have g3 := g2.trans (same_new ne (.lst []))
  cases ns with
  | nil =>
    refine iteT ?_
    refine ⟨(by decide +kernel : 1 ≤ sizeLine), fun c nc => ?_⟩
    have g4 := g3.trans (same_new nc (.lst [.int 0]))
    refine ⟨_, rfl, _, rfl, a, _, rfl, .inl (g4.seq hS), _, _, rfl, rfl, (by show (0 : Int) < 2; decide), le_line (by show 3 ≤ 16777216; decide), fun d nd => ?_⟩
    exact fin _ c [0] g4 (g3.free nc) upd_same (by decide) (by decide) d nd _ _
  | cons x r =>
    refine iteF ?_
    refine ⟨_, rfl, _, rfl, a, _, rfl, .inl (g3.seq hS), _, _, rfl, rfl, (by show (0 : Int) < 2; decide), le_line (by show 3 ≤ 16777216; decide), fun d nd => ?_⟩
    exact fin _ l (x :: r) g3 ((same_new np _).free nl) (by rw [upd_ne le, upd_same, ec]) (Nat.succ_pos _) h63 d nd _ _
def names6 : List (List Nat) := [[97], [98], [97, 98], [120], [121], [122, 122, 122, 122, 122, 122, 122, 122]]
theorem six_is : ([.str "a", .str "b", .str "ab", .str "x", .str "y", .str "zzzzzzzz"] : List V) = txs names6 := by
  rw [show ("a" : Str) = SX.S [97] from by decide +kernel, show ("b" : Str) = SX.S [98] from by decide +kernel, show ("ab" : Str) = SX.S [97, 98] from by decide +kernel, show ("x" : Str) = SX.S [120] from by decide +kernel,
    show ("y" : Str) = SX.S [121] from by decide +kernel, show ("zzzzzzzz" : Str) = SX.S [122, 122, 122, 122, 122, 122, 122, 122] from by decide +kernel]
  all_goals rfl
theorem six_ok : ∀ s ∈ names6, Nm s := by unfold Nm; decide
abbrev s__law_name : Stmt := topS 36
abbrev N__law_name : List Str := ["deck", "letters", "k"]
theorem sc__law_name : FnScope N__law_name ["deck"] (defScope s__law_name) := ⟨rfl, rfl, rfl, by decide +kernel, rfl, by decide +kernel, by decide +kernel⟩

theorem ok__law_name (T : Txt K mg) (D : IsDef K mg "_law_name" s__law_name ["deck"]) (C__law_draw : Cal P w K mg base CX0 1 "_law_draw" ["deck", "many"] spDraw) : Cal P w K mg base CX0 2 "_law_name" ["deck"] spName := by
  refine D.cal sc__law_name (fun vs H Q E h => ?_) (fun f cdv A outer s H vs Q E hr h => ?_)
  · obtain ⟨B, d, rfl, _⟩ := h
    rfl
  obtain ⟨B, d, rfl, hD, q⟩ := h
  refine ⟨_, (pss_cons (ps_if (pt_cmpR op_gt (pe_cal C__law_draw (hr.mono (by first | decide | omega)) pass0 (pa_cons (pv 0) (pa_cons pe_int pa_nil))) pe_int (nomark _))
        (pss_one (ps_ret (pe_ix (r := rIxL K) ix_list (pe_lst (pa_cons pe_str (pa_cons pe_str (pa_cons pe_str (pa_cons pe_str (pa_cons pe_str (pa_cons pe_str pa_nil))))))) (pe_cal C__law_draw (hr.mono (by first | decide | omega)) pass0 (pa_cons (pv 0) (pa_cons pe_int pa_nil))) (fun _ _ => rfl))))
        pss_nil)
      (pss_cons (ps_set (i := 1) sc__law_name.nd rfl (Or.inr rfl) pe_str)
      (pss_one (ps_ret (pe_join pe_str (pe_lc (own := [("k", 2)]) (g := gName 2)  (by rfl) sc__law_name.nd  (pi_range1 rfl T.b_range (pa_cons (pe_op op_add pe_int (pe_cal C__law_draw (hr.mono (by first | decide | omega)) pass0 (pa_cons (pv 0) (pa_cons pe_int pa_nil)))) pa_nil)) (blkOk_by (own := [("k", 2)]) (N := N__law_name) (sc := defScope s__law_name) (by decide +kernel)) (fun _ _ _ _ _ => (pg_name (i := 2) sc__law_name.nd rfl (Or.inl rfl))) (fun _ _ _ _ _ => pts_nil) (fun _ _ _ _ _ => (pe_item_str (pv 1) (pe_cal C__law_draw (hr.mono (by first | decide | omega)) pass0 (pa_cons (pv 0) (pa_cons pe_int pa_nil))) (fun _ _ => rfl))))))))), ?_⟩
  refine ⟨_, rfl, B, d, 4, rfl, hD, by decide, by decide, fun H1 v1 hD1 _ _ => ⟨_, _, rfl, rfl, _, rfl, ?_⟩⟩
  refine ite2 (fun _ => ?_) (fun _ => ?_)
  · refine ⟨le_line (by decide), fun p np => ?_⟩
    refine ⟨_, rfl, _, d, 6, rfl, hD1.new np _, by decide, by decide, fun H2 v hD2 v0 v6 => ?_⟩
    obtain ⟨x, hx, hat⟩ := one_of (xs := txs names6) v0 v6
    obtain ⟨s, hs, rfl⟩ := txs_mem hx
    refine ⟨p, _, v, _, rfl, rfl, SqL.of (hD2.1 _ _ upd_same), by rw [six_is]; exact hat, ?_⟩
    exact q _ _ s (same_new (hD1.free np) _) hD2 (six_ok s hs)
  · refine ⟨⟨_, rfl⟩, _, rfl, B, d, 8, rfl, hD1, by decide, by decide, fun H2 n hD2 n0 n8 => ⟨_, _, rfl, rfl, 1 + n, rfl, Int.le_trans (by decide) (Int.add_nonneg (by decide) n0), by omega, ?_⟩⟩
    refine fun L nL => lc_range (lo := 0) (n := (1 + n).toNat) (fun i H => ∃ (B' : Hp) (ss : List Nat), Same B B' ∧ DeckAt B' H d ∧ B' L = some (.lst (txs (ones ss))) ∧ ss.length = i ∧ ∀ c ∈ ss, 97 ≤ c ∧ c ≤ 122)
      ⟨_, [], same_new (hD2.free nL) _, hD2.new nL _, upd_same, rfl, by simp⟩ ?_ ?_
    · rintro i H3 hi ⟨B', ss, hB, hD3, hL, hn, hc⟩
      refine ⟨rfl, _, rfl, _, rfl, B', d, 26, rfl, hD3, by decide, by decide, fun H4 v hD4 v0 v26 => ?_⟩
      have hv : v.toNat < letters.length := by show v.toNat < 26; omega
      refine ⟨_, v, letters[v.toNat], rfl, rfl, v0, by omega, by rw [letters_is, SX.S_len]; exact v26, ?_, _, hD4.1 _ _ hL, ?_, ?_⟩
      · rw [letters_is]
        show letters.toArray[v.toNat]? = _
        rw [List.getElem?_toArray, List.getElem?_eq_getElem hv]
      · rw [txs_len, ones_len, hn]
        exact lt_line (by omega)
      · refine ⟨upd B' L _, ss ++ [letters[v.toNat]], fun b o e => ?_, hD4.put hL _, ?_, by rw [List.length_append, hn]; rfl, fun c hcm => ?_⟩
        · have z : b ≠ L := fun z => by
            rw [z] at e
            rw [hD2.free nL] at e
            cases e
          rw [upd_ne z]
          exact hB b o e
        · rw [upd_same]
          unfold ones
          rw [List.map_append, txs_app]
          rfl
        · rcases List.mem_append.mp hcm with h | h
          · exact hc c h
          · rw [List.mem_singleton.mp h]
            exact letters_ok _ (List.getElem_mem hv)
    · rintro H3 ⟨B', ss, hB, hD3, hL, hn, hc⟩
      have e0 : ("" : Str) = SX.S [] := by decide +kernel
      have ej : Txt.join "" ((ones ss).map SX.S) = SX.S ss := by
        rw [e0]
        refine (SX.join_S [] (ones ss)).trans ?_
        rw [joinL_nil, ones_flat]
      refine ⟨"", L, (ones ss).map SX.S, rfl, rfl, .inl (SqL.of (hD3.1 _ _ hL)), ?_, ?_⟩
      · rw [ones_sum, List.length_map, ones_len, e0, SX.S_len]
        show ss.length + ss.length * 0 ≤ 16777216
        omega
      · rw [ej]
        exact q B' _ ss hB hD3 ⟨by omega, by omega, hc⟩
end
def spRecipe (k : Nat) : Sp := fun vs H Q _ => ∃ (B : Hp) (d l : Addr) (deep n : Int), vs = [.ref d, .int deep, .ref l] ∧ DeckAt B H d ∧ B l = some (.lst [.int n]) ∧ 1 ≤ deep ∧ deep ≤ k ∧
  ∀ (B' H' : Hp) (n' : Int) (v : V) (r : Rcp), (∀ b o, b ≠ l → B b = some o → B' b = some o) → B' l = some (.lst [.int n']) → DeckAt B' H' d → Rec B' r v → r.Good → (r.dep : Int) ≤ deep → (r.siz : Int) = n - n' → (n - 1 ≤ n' ∨ -2 * (deep - 1) ≤ n') → Q v H'
theorem keep_but {B B' : Hp} {l : Addr} {xs : List V} (h : B l = some (.lst xs)) (k : ∀ b o, b ≠ l → B b = some o → B' b = some o) : Keep B B' := fun b ys q =>
  k b _ (fun e => by rw [e, h] at q; cases q) q
theorem kind_is {n : Int} (h0 : 0 ≤ n) (h : n < 5) : ∃ k : Kd, atI ([.str "plus", .str "minus", .str "times", .str "most", .str "plus"] : List V) n = some (.str k.name) := by
  have e : n = 0 ∨ n = 1 ∨ n = 2 ∨ n = 3 ∨ n = 4 := by omega
  rcases e with e | e | e | e | e <;> subst e
  · exact ⟨.plus, rfl⟩
  · exact ⟨.minus, rfl⟩
  · exact ⟨.times, rfl⟩
  · exact ⟨.most, rfl⟩
  · exact ⟨.plus, rfl⟩
section
variable {P : Program} {w : World} {K : PySem.W.Frag} {mg : Str → Option Value} {base : Heap}
abbrev s__law_number : Stmt := topS 37
abbrev N__law_number : List Str := ["deck", "great"]
theorem sc__law_number : FnScope N__law_number ["deck"] (defScope s__law_number) := ⟨rfl, rfl, rfl, by decide +kernel, rfl, by decide +kernel, by decide +kernel⟩

theorem ok__law_number (T : Txt K mg) (D : IsDef K mg "_law_number" s__law_number ["deck"]) (C__law_draw : Cal P w K mg base CX0 1 "_law_draw" ["deck", "many"] spDraw) : Cal P w K mg base CX0 2 "_law_number" ["deck"] spNumber := by
  refine D.cal sc__law_number (fun vs H Q E h => ?_) (fun f cdv A outer s H vs Q E hr h => ?_)
  · obtain ⟨B, d, rfl, _⟩ := h
    rfl
  obtain ⟨B, d, rfl, hD, q⟩ := h
  refine ⟨_, (pss_cons (ps_if (pt_cmpR op_gt (pe_cal C__law_draw (hr.mono (by first | decide | omega)) pass0 (pa_cons (pv 0) (pa_cons pe_int pa_nil))) pe_int (nomark _))
        (pss_one (ps_ret (pe_op op_sub (pe_cal C__law_draw (hr.mono (by first | decide | omega)) pass0 (pa_cons (pv 0) (pa_cons pe_int pa_nil))) pe_int)))
        pss_nil)
      (pss_cons (ps_set (i := 1) sc__law_number.nd rfl (Or.inl rfl) (pe_op op_sub (pe_op op_pow pe_int pe_int) pe_int))
      (pss_one (ps_ret (pe_op op_sub (pe_cal C__law_draw (hr.mono (by first | decide | omega)) pass0 (pa_cons (pv 0) (pa_cons (pe_op op_add (pe_op op_mul pe_int (pv 1)) pe_int) pa_nil))) (pv 1)))))), ?_⟩
  refine ⟨_, rfl, B, d, 4, rfl, hD, by decide, by decide, fun H1 v1 hD1 _ _ => ⟨_, _, rfl, rfl, _, rfl, ?_⟩⟩
  refine ite2 (fun _ => ?_) (fun _ => ?_)
  · refine ⟨_, rfl, B, d, 21, rfl, hD1, by decide, by decide, fun H2 v hD2 v0 v6 => ⟨_, _, rfl, rfl, q _ _ hD2 ?_⟩⟩
    have : (v - 10).natAbs ≤ 10 := by omega
    exact Nat.lt_of_le_of_lt this (by decide)
  · refine ⟨10, 40, rfl, rfl, ⟨by decide, by decide, by decide⟩, _, _, rfl, rfl, ?_⟩
    refine ⟨_, rfl, _, rfl, _, _, rfl, rfl, .inl ⟨by decide, by decide⟩, _, _, rfl, rfl, B, d, _, rfl, hD1, by decide, by decide, fun H2 v hD2 v0 v6 => ⟨_, rfl, _, _, rfl, rfl, q _ _ hD2 ?_⟩⟩
    have e1 : (10 : Int) ^ (40 : Int).toNat - 1 = 9999999999999999999999999999999999999999 := by decide
    rw [e1] at v6 ⊢
    have e2 : (10 : Nat) ^ 40 = 10000000000000000000000000000000000000000 := by decide
    rw [e2]
    omega
abbrev s__law_recipe : Stmt := topS 38
abbrev N__law_recipe : List Str := ["deck", "deep", "left", "kind", "one", "word", "two", "k"]
theorem sc__law_recipe : FnScope N__law_recipe ["deck", "deep", "left"] (defScope s__law_recipe) := ⟨rfl, rfl, rfl, by decide +kernel, rfl, by decide +kernel, by decide +kernel⟩

theorem ok__law_recipe (T : Txt K mg) (D : IsDef K mg "_law_recipe" s__law_recipe ["deck", "deep", "left"]) (C__law_draw : Cal P w K mg base CX0 1 "_law_draw" ["deck", "many"] spDraw)
    (C__law_number : Cal P w K mg base CX0 2 "_law_number" ["deck"] spNumber) (C__law_name : Cal P w K mg base CX0 2 "_law_name" ["deck"] spName) {k : Nat}
    (C__law_recipe : Cal P w K mg base CX0 (k + 3) "_law_recipe" ["deck", "deep", "left"] (spRecipe k)) : Cal P w K mg base CX0 (k + 4) "_law_recipe" ["deck", "deep", "left"] (spRecipe (k + 1)) := by
  refine D.cal sc__law_recipe (fun vs H Q E h => ?_) (fun f cdv A outer s H vs Q E hr h => ?_)
  · obtain ⟨B, d, l, deep, n, rfl, _⟩ := h
    rfl
  obtain ⟨B, d, l, deep, n, rfl, hD, hl, d1, dk, q⟩ := h
  refine ⟨_, (pss_cons (ps_asg (pe_op op_sub (pe_ix (r := rIxL K) ix_list (pv 2) pe_int (fun _ _ => rfl)) pe_int) (pg_sub (pv 2) pe_int set_list))
      (pss_cons (ps_set (i := 3) sc__law_recipe.nd rfl (Or.inl rfl) (pe_cal C__law_draw (hr.mono (by first | decide | omega)) pass0 (pa_cons (pv 0) (pa_cons pe_int pa_nil))))
      (pss_cons (ps_if (PW.pt (pw_or (pt_cmpR op_lt (pv 1) pe_int (nomark _)) (pw_or (pt_cmpR op_lt (pe_ix (r := rIxL K) ix_list (pv 2) pe_int (fun _ _ => rfl)) pe_int (nomark _)) (pw_or1 (pt_cmpR op_lt (pv 3) pe_int (nomark _))))))
        (pss_cons (ps_if (pt_cmpR op_eq (pe_cal C__law_draw (hr.mono (by first | decide | omega)) pass0 (pa_cons (pv 0) (pa_cons pe_int pa_nil))) pe_int (nomark _))
        (pss_one (ps_ret (pe_tup (pa_cons pe_str (pa_cons (pe_cal C__law_number (hr.mono (by first | decide | omega)) pass0 (pa_cons (pv 0) pa_nil)) pa_nil)))))
        pss_nil)
      (pss_one (ps_ret (pe_tup (pa_cons pe_str (pa_cons (pe_cal C__law_name (hr.mono (by first | decide | omega)) pass0 (pa_cons (pv 0) pa_nil)) pa_nil))))))
        pss_nil)
      (pss_cons (ps_set (i := 4) sc__law_recipe.nd rfl (Or.inl rfl) (pe_cal C__law_recipe (hr.mono (by first | decide | omega)) pass0 (pa_cons (pv 0) (pa_cons (pe_op op_sub (pv 1) pe_int) (pa_cons (pv 2) pa_nil)))))
      (pss_cons (ps_if (pt_cmpR op_lt (pv 3) pe_int (nomark _))
        (pss_cons (ps_set (i := 5) sc__law_recipe.nd rfl (Or.inl rfl) (pe_ix (r := rIxL K) ix_list (pe_lst (pa_cons pe_str (pa_cons pe_str (pa_cons pe_str (pa_cons pe_str (pa_cons pe_str pa_nil)))))) (pe_op op_sub (pv 3) pe_int) (fun _ _ => rfl)))
      (pss_one (ps_ret (pe_tup (pa_cons (pv 5) (pa_cons (pv 4) (pa_cons (pe_cal C__law_recipe (hr.mono (by first | decide | omega)) pass0 (pa_cons (pv 0) (pa_cons (pe_op op_sub (pv 1) pe_int) (pa_cons (pv 2) pa_nil)))) pa_nil)))))))
        pss_nil)
      (pss_cons (ps_if (pt_cmpR op_eq (pv 3) pe_int (nomark _))
        (pss_cons (ps_set (i := 6) sc__law_recipe.nd rfl (Or.inl rfl) (pe_cal C__law_recipe (hr.mono (by first | decide | omega)) pass0 (pa_cons (pv 0) (pa_cons (pe_op op_sub (pv 1) pe_int) (pa_cons (pv 2) pa_nil)))))
      (pss_one (ps_ret (pe_tup (pa_cons pe_str (pa_cons (pv 4) (pa_cons (pv 6) (pa_cons (pe_cal C__law_recipe (hr.mono (by first | decide | omega)) pass0 (pa_cons (pv 0) (pa_cons (pe_op op_sub (pv 1) pe_int) (pa_cons (pv 2) pa_nil)))) pa_nil))))))))
        pss_nil)
      (pss_one (ps_ret (pe_tup (pa_cons pe_str (pa_cons (pv 4) (pa_cons (pe_callTy call_tuple_of (by rfl) T.b_tuple (by decide +kernel) (pa_cons (pe_lc (own := [("k", 7)]) (g := gName 7)  (by rfl) sc__law_recipe.nd  (pi_range1 rfl T.b_range (pa_cons (pe_op op_add pe_int (pe_cal C__law_draw (hr.mono (by first | decide | omega)) pass0 (pa_cons (pv 0) (pa_cons pe_int pa_nil)))) pa_nil)) (blkOk_by (own := [("k", 7)]) (N := N__law_recipe) (sc := defScope s__law_recipe) (by decide +kernel)) (fun _ _ _ _ _ => (pg_name (i := 7) sc__law_recipe.nd rfl (Or.inl rfl))) (fun _ _ _ _ _ => pts_nil) (fun _ _ _ _ _ => (pe_cal C__law_name (hr.mono (by first | decide | omega)) pass0 (pa_cons (pv 0) pa_nil)))) pa_nil)) pa_nil)))))))))))), ?_⟩
  -- left[0] = left[0] - 1
  refine ⟨_, rfl, l, _, _, _, rfl, rfl, SqL.of (hD.1 _ _ hl), rfl, _, _, rfl, rfl, _, rfl, l, _, _, _, rfl, rfl, hD.1 _ _ hl, rfl, ?_⟩
  have hD1 : DeckAt (upd B l (.lst [.int (n - 1)])) (upd H l (.lst [.int (n - 1)])) d := hD.put hl _
  have hl1 : upd B l (.lst [.int (n - 1)]) l = some (.lst [.int (n - 1)]) := upd_same
  have hb1 : ∀ b o, b ≠ l → B b = some o → upd B l (.lst [.int (n - 1)]) b = some o := fun b o z e => by rw [upd_ne z]; exact e
  -- kind = _law_draw(deck, 10)
  refine ⟨_, rfl, _, d, 10, rfl, hD1, by decide, by decide, fun H2 kind hD2 k0 k10 => ?_⟩
  refine ⟨_, rfl, _, _, rfl, rfl, _, rfl, ite2 (fun c1 => ?leaf1) (fun c1 => ⟨_, rfl, l, _, _, _, rfl, rfl, SqL.of (hD2.1 _ _ hl1), rfl, _, _, rfl, rfl, _, rfl, ite2 (fun c2 => ?leaf2) (fun c2 => ⟨_, rfl, _, _, rfl, rfl, _, rfl, ite2 (fun c3 => ?leaf3) (fun c3 => ?main)⟩)⟩)⟩
  case main =>
    have hdeep : 2 ≤ deep := by
      have : ¬ deep < 2 := fun z => c1 (decide_eq_true z)
      omega
    have hn1 : 1 ≤ n - 1 := by
      have : ¬ n - 1 < 1 := fun z => c2 (decide_eq_true z)
      omega
    have hk2 : 2 ≤ kind := by
      have : ¬ kind < 2 := fun z => c3 (decide_eq_true z)
      omega
    -- one = _law_recipe(deck, deep - 1, left)
    refine ⟨_, rfl, _, rfl, _, _, rfl, rfl, _, rfl, _, d, l, deep - 1, n - 1, rfl, hD2, hl1, by omega, by omega, fun B3 H3 n3 v3 r3 hb3 hl3 hD3 rr3 g3 dp3 sz3 mn3 => ?_⟩
    refine ⟨_, rfl, _, _, rfl, rfl, _, rfl, ite2 (fun c4 => ?_) (fun c4 => ?_)⟩
    · have hk7 : kind < 7 := of_decide_eq_true c4
      obtain ⟨kd, hkd⟩ := kind_is (n := kind - 2) (by omega) (by omega)
      refine ⟨le_line (Nat.le_of_ble_eq_true rfl), fun p np => ⟨_, rfl, _, _, rfl, rfl, p, _, _, _, rfl, rfl, SqL.of upd_same, hkd, ?_⟩⟩
      have hD3' := hD3.new np (.lst [.str "plus", .str "minus", .str "times", .str "most", .str "plus"])
      have lp : l ≠ p := ne_of_none (hD3.1 _ _ hl3) np
      have np' : B3 p = none := hD3.free np
      refine ⟨_, rfl, _, rfl, _, rfl, _, rfl, _, _, rfl, rfl, _, rfl, _, d, l, deep - 1, n3, rfl, hD3', by rw [upd_ne lp]; exact hl3, by omega, by omega, fun B4 H4 n4 v4 r4 hb4 hl4 hD4 rr4 g4 dp4 sz4 mn4 => ?_⟩
      refine ⟨le_line (Nat.le_of_ble_eq_true rfl), fun t nt => ?_⟩
      have nt' : B4 t = none := hD4.free nt
      have hpl : upd B3 p (.lst [.str "plus", .str "minus", .str "times", .str "most", .str "plus"]) l = some (.lst [.int n3]) := by rw [upd_ne lp]; exact hl3
      have tl : l ≠ t := ne_of_none hl4 nt'
      have k4 : Keep B4 (upd B4 t (.tup [.str kd.name, v3, v4])) := same_keep (same_new nt' _)
      refine q _ _ n4 (.ref t) (.two kd r3 r4) (fun b o z e => ?_) (by rw [upd_ne tl]; exact hl4) (hD4.new nt _) ⟨t, v3, v4, rfl, upd_same, ?_, rr4.keep k4⟩ ⟨g3, g4⟩ ?_ ?_ ?_
      · have e4 := hb4 b o z (same_new np' _ b o (hb3 b o z (hb1 b o z e)))
        rw [upd_ne (ne_of_none e4 nt')]
        exact e4
      · exact rr3.keep (((same_keep (same_new np' _)).trans (keep_but hpl hb4)).trans k4)
      · show ((max r3.dep r4.dep + 1 : Nat) : Int) ≤ deep
        omega
      · show ((r3.siz + r4.siz + 1 : Nat) : Int) = n - n4
        omega
      · omega
    · have hk7 : 7 ≤ kind := by
        have : ¬ kind < 7 := fun z => c4 (decide_eq_true z)
        omega
      refine ⟨_, rfl, rfl, _, rfl, ite2 (fun c5 => ?_) (fun c5 => ?_)⟩
      · refine ⟨_, rfl, _, rfl, _, _, rfl, rfl, _, rfl, _, d, l, deep - 1, n3, rfl, hD3, hl3, by omega, by omega, fun B4 H4 n4 v4 r4 hb4 hl4 hD4 rr4 g4 dp4 sz4 mn4 => ?_⟩
        refine ⟨_, rfl, _, rfl, _, rfl, _, rfl, _, _, rfl, rfl, _, rfl, _, d, l, deep - 1, n4, rfl, hD4, hl4, by omega, by omega, fun B5 H5 n5 v5 r5 hb5 hl5 hD5 rr5 g5 dp5 sz5 mn5 => ?_⟩
        refine ⟨le_line (Nat.le_of_ble_eq_true rfl), fun t nt => ?_⟩
        have nt' : B5 t = none := hD5.free nt
        have tl : l ≠ t := ne_of_none hl5 nt'
        have k5 : Keep B5 (upd B5 t (.tup [.str "pick", v3, v4, v5])) := same_keep (same_new nt' _)
        refine q _ _ n5 (.ref t) (.pick r3 r4 r5) (fun b o z e => ?_) (by rw [upd_ne tl]; exact hl5) (hD5.new nt _) ⟨t, v3, v4, v5, rfl, upd_same, ?_, ?_, rr5.keep k5⟩ ⟨g3, g4, g5⟩ ?_ ?_ ?_
        · have e4 := hb5 b o z (hb4 b o z (hb3 b o z (hb1 b o z e)))
          rw [upd_ne (ne_of_none e4 nt')]
          exact e4
        · exact rr3.keep (((keep_but hl3 hb4).trans (keep_but hl4 hb5)).trans k5)
        · exact rr4.keep ((keep_but hl4 hb5).trans k5)
        · show ((max r3.dep (max r4.dep r5.dep) + 1 : Nat) : Int) ≤ deep
          omega
        · show ((r3.siz + r4.siz + r5.siz + 1 : Nat) : Int) = n - n5
          omega
        · omega
      · refine ⟨_, rfl, _, rfl, B3, d, 9, rfl, hD3, by decide, by decide, fun H4 m hD4 m0 m9 => ⟨_, _, rfl, rfl, 1 + m, rfl, Int.le_trans (by decide) (Int.add_nonneg (by decide) m0), by omega, ?_⟩⟩
        refine fun L nL => lc_range (lo := 0) (n := (1 + m).toNat) (fun i H => ∃ (B' : Hp) (ss : List (List Nat)), Same B3 B' ∧ DeckAt B' H d ∧ B' L = some (.lst (txs ss)) ∧ ss.length = i ∧ ∀ s ∈ ss, Nm s)
          ⟨_, [], same_new (hD4.free nL) _, hD4.new nL _, upd_same, rfl, by simp⟩ ?_ ?_
        · rintro i H5 hi ⟨B', ss, hB, hD5, hL, hn, hc⟩
          refine ⟨rfl, _, rfl, B', d, rfl, hD5, fun B6 H6 s hB6 hD6 hs => ⟨_, hD6.1 _ _ (hB6 _ _ hL), by rw [txs_len, hn]; exact lt_line (by omega), ?_⟩⟩
          refine ⟨upd B6 L _, ss ++ [s], fun b o e => ?_, hD6.put (hB6 _ _ hL) _, by rw [upd_same, txs_app]; rfl, by rw [List.length_append, hn]; rfl, fun c hcm => ?_⟩
          · have z : b ≠ L := fun z => by
              rw [z] at e
              rw [hD4.free nL] at e
              cases e
            rw [upd_ne z]
            exact hB6 b o (hB b o e)
          · rcases List.mem_append.mp hcm with h | h
            · exact hc c h
            · rw [List.mem_singleton.mp h]
              exact hs
        · rintro H5 ⟨B', ss, hB, hD5, hL, hn, hc⟩
          refine ⟨L, _, rfl, .inl ⟨SqL.of (hD5.1 _ _ hL), fun u nu => ⟨le_line (Nat.le_of_ble_eq_true rfl), fun t nt => ?_⟩⟩⟩
          have ut : u ≠ t := ne_of_none upd_same nt
          have nu' : B' u = none := hD5.free nu
          have hDu := hD5.new nu (.tup (txs ss))
          have nt' : upd B' u (.tup (txs ss)) t = none := hDu.free nt
          have hl' : B' l = some (.lst [.int n3]) := hB _ _ hl3
          have lu : l ≠ u := ne_of_none hl' nu'
          have hlu : upd B' u (.tup (txs ss)) l = some (.lst [.int n3]) := by rw [upd_ne lu]; exact hl'
          have tl : l ≠ t := ne_of_none hlu nt'
          refine q _ _ n3 (.ref t) (.choose r3 ss) (fun b o z e => ?_) (by rw [upd_ne tl]; exact hlu) (hDu.new nt _) ⟨t, v3, u, rfl, upd_same, ?_, by rw [upd_ne ut, upd_same]⟩ ⟨g3, by omega, by omega, hc⟩ ?_ ?_ ?_
          · exact same_new nt' _ b o (same_new nu' _ b o (hB b o (hb3 b o z (hb1 b o z e))))
          · exact rr3.same ((hB.trans (same_new nu' _)).trans (same_new nt' _))
          · show ((r3.dep + 1 : Nat) : Int) ≤ deep
            omega
          · show ((r3.siz + 1 : Nat) : Int) = n - n3
            omega
          · omega
  all_goals
    refine ⟨_, rfl, _, d, 2, rfl, hD2, by decide, by decide, fun H3 c hD3 _ _ => ⟨rfl, _, rfl, ite2 (fun _ => ?_) (fun _ => ?_)⟩⟩
    · refine ⟨_, rfl, _, d, rfl, hD3, fun H4 x hD4 hx => ⟨le_line (Nat.le_of_ble_eq_true rfl), fun t nt => ?_⟩⟩
      have nt' := hD4.free nt
      have tl : l ≠ t := ne_of_none hl1 nt'
      refine q _ _ (n - 1) (.ref t) (.num x) (fun b o z e => same_new nt' _ b o (hb1 b o z e)) (by rw [upd_ne tl]; exact hl1) (hD4.new nt _) ⟨t, rfl, upd_same⟩ hx ?_ ?_ ?_
      · show ((1 : Nat) : Int) ≤ deep
        omega
      · show ((1 : Nat) : Int) = n - (n - 1)
        omega
      · omega
    · refine ⟨_, rfl, _, d, rfl, hD3, fun B4 H4 x hB4 hD4 hx => ⟨le_line (Nat.le_of_ble_eq_true rfl), fun t nt => ?_⟩⟩
      have nt' := hD4.free nt
      have hl4 := hB4 _ _ hl1
      have tl : l ≠ t := ne_of_none hl4 nt'
      refine q _ _ (n - 1) (.ref t) (.read x) (fun b o z e => same_new nt' _ b o (hB4 b o (hb1 b o z e))) (by rw [upd_ne tl]; exact hl4) (hD4.new nt _) ⟨t, rfl, upd_same⟩ hx ?_ ?_ ?_
      · show ((1 : Nat) : Int) ≤ deep
        omega
      · show ((1 : Nat) : Int) = n - (n - 1)
        omega
      · omega
theorem all__law_recipe (T : Txt K mg) (D : IsDef K mg "_law_recipe" s__law_recipe ["deck", "deep", "left"]) (C__law_draw : Cal P w K mg base CX0 1 "_law_draw" ["deck", "many"] spDraw)
    (C__law_number : Cal P w K mg base CX0 2 "_law_number" ["deck"] spNumber) (C__law_name : Cal P w K mg base CX0 2 "_law_name" ["deck"] spName) :
    ∀ k : Nat, Cal P w K mg base CX0 (k + 3) "_law_recipe" ["deck", "deep", "left"] (spRecipe k)
  | 0 => cal_none D fun vs H Q E h => by
    obtain ⟨B, d, l, deep, n, _, _, _, h1, h2, _⟩ := h
    omega
  | k + 1 => ok__law_recipe T D C__law_draw C__law_number C__law_name (all__law_recipe T D C__law_draw C__law_number C__law_name k)
end
def spText (k : Nat) : Sp := fun vs H Q _ => ∃ (v : V) (r : Rcp), vs = [v] ∧ Rec H r v ∧ r.Good ∧ r.dep ≤ k ∧ r.siz ≤ 1000 ∧ ∀ H', Same H H' → Q (.str (SX.S r.txt)) H'
def spBoth (K : PySem.W.Frag) : Sp := fun vs H Q _ => ∃ (a : Addr) (c : Int) (xs : List V), vs = [.ref a, .int c] ∧ SqL K H a xs ∧
  ((∃ x, xs = [x] ∧ Q x H) ∨ (∃ x y, xs = [x, y] ∧ ∀ (H' : Hp) (kd : Kd) (t : Addr), Same H H' → H' t = some (.tup [.str kd.name, x, y]) → Q (.ref t) H'))
def spLong : Sp := fun vs H Q _ => ∃ (c : Int), vs = [.int c] ∧ ∀ (H' : Hp) (v : V) (r : Rcp), Same H H' → Rec H' r v → r.Good → r.dep ≤ 8 → r.siz ≤ 100 → Q v H'
def kd4 : List (Str × Str) := [("plus", "+"), ("minus", "-"), ("times", "*"), ("most", "^")]
def Kd.sgn : Kd → Str
  | .plus => "+" | .minus => "-" | .times => "*" | .most => "^"
theorem q_sgn (k : Kd) : k.sgn = SX.S [k.sign] := by cases k <;> decide +kernel
def signsKV : List (Key × V) := [(.inr "plus", .str "+"), (.inr "minus", .str "-"), (.inr "times", .str "*"), (.inr "most", .str "^")]
theorem signs_get (k : Kd) : valV (mergeK [] signsKV) (.inr k.name) = some (.str k.sgn) := by cases k <;> decide +kernel
theorem kind4 {n : Int} (h0 : 0 ≤ n) (h : n < 4) : ∃ k : Kd, atI ([.str "plus", .str "minus", .str "times", .str "most"] : List V) n = some (.str k.name) := by
  have e : n = 0 ∨ n = 1 ∨ n = 2 ∨ n = 3 := by omega
  rcases e with e | e | e | e <;> subst e
  · exact ⟨.plus, rfl⟩
  · exact ⟨.minus, rfl⟩
  · exact ⟨.times, rfl⟩
  · exact ⟨.most, rfl⟩
theorem rg2 : ∀ n : Nat, n < 101 → Builtin.Range.small 0 n 2 = true ∧ Builtin.Range.rangeSize 0 n 2 = (((n + 1) / 2 : Nat) : Int) := by decide +kernel
def sizes (rs : List Rcp) : Nat := (rs.map Rcp.siz).sum
theorem sizes_snoc (rs : List Rcp) (r : Rcp) : sizes (rs ++ [r]) = sizes rs + r.siz := by unfold sizes; rw [List.map_append, List.sum_append]; simp
section
variable {P : Program} {w : World} {K : PySem.W.Frag} {mg : Str → Option Value} {base : Heap}
abbrev s__law_text : Stmt := topS 39
abbrev N__law_text : List Str := ["r", "parts", "part"]
theorem sc__law_text : FnScope N__law_text ["r"] (defScope s__law_text) := ⟨rfl, rfl, rfl, by decide +kernel, rfl, by decide +kernel, by decide +kernel⟩

theorem ok__law_text (T : Txt K mg) (D : IsDef K mg "_law_text" s__law_text ["r"]) {k : Nat}
    (C__law_text : Cal P w K mg base CX0 k "_law_text" ["r"] (spText k)) : Cal P w K mg base CX0 (k + 1) "_law_text" ["r"] (spText (k + 1)) := by
  refine D.cal sc__law_text (fun vs H Q E h => ?_) (fun f cdv A outer s H vs Q E hr h => ?_)
  · obtain ⟨v, r, rfl, _⟩ := h
    rfl
  have hu := hu_of hr
  obtain ⟨v, r, rfl, hR, hG, hd, hz, q⟩ := h
  refine ⟨_, (pss_cons (ps_if (pt_cmpR op_eq (pe_ix (r := rIxT K) ix_tup (pv 0) pe_int (fun _ _ => rfl)) pe_str (nomark _))
        (pss_one (ps_ret (pe_callTy call_str_int (by rfl) T.b_str (by decide +kernel) (pa_cons (pe_ix (r := rIxT K) ix_tup (pv 0) pe_int (fun _ _ => rfl)) pa_nil))))
        pss_nil)
      (pss_cons (ps_if (pt_cmpR op_eq (pe_ix (r := rIxT K) ix_tup (pv 0) pe_int (fun _ _ => rfl)) pe_str (nomark _))
        (pss_one (ps_ret (pe_ix (r := rIxT K) ix_tup (pv 0) pe_int (fun _ _ => rfl))))
        pss_nil)
      (pss_cons (ps_setLc (i := 1) (own := [("part", 2)]) (g := gName 2)  (by rfl) sc__law_text.nd rfl rfl (sw_true rfl rfl rfl (by decide +kernel)) (pi_tup (pe_slice (r := rSlT K) sl_tup (pv 0) (po_some pe_int) (po_some (pe_op op_add (pe_op op_add pe_int (pe_callTy call_int1 (by rfl) T.b_int (by decide +kernel) (pa_cons (pe_cmpR op_ne (pe_ix (r := rIxT K) ix_tup (pv 0) pe_int (fun _ _ => rfl)) pe_str (nomark _)) pa_nil))) (pe_callTy call_int1 (by rfl) T.b_int (by decide +kernel) (pa_cons (pe_cmpR op_eq (pe_ix (r := rIxT K) ix_tup (pv 0) pe_int (fun _ _ => rfl)) pe_str (nomark _)) pa_nil)))))) (blkOk_by (own := [("part", 2)]) (N := N__law_text) (sc := defScope s__law_text) (by decide +kernel)) (fun _ _ _ _ _ => (pg_name (i := 2) sc__law_text.nd rfl (Or.inl rfl))) (fun _ _ _ _ _ => pts_nil) (fun _ _ _ _ _ => (pe_cal C__law_text (hr.mono (by first | decide | omega)) pass0 (pa_cons (pv 2) pa_nil))))
      (pss_cons (ps_if (pt_cmpR op_eq (pe_ix (r := rIxT K) ix_tup (pv 0) pe_int (fun _ _ => rfl)) pe_str (nomark _))
        (pss_one (ps_ret (pe_op op_add_str (pe_op op_add_str (pe_op op_add_str (pe_ix (r := rIxL K) ix_list (pv 1) pe_int (fun _ _ => rfl)) pe_str) (pe_join pe_str (pe_ix (r := rIxT K) ix_tup (pv 0) pe_int (fun _ _ => rfl)))) pe_str)))
        pss_nil)
      (pss_cons (ps_if (pt_cmpR op_eq (pe_ix (r := rIxT K) ix_tup (pv 0) pe_int (fun _ _ => rfl)) pe_str (nomark _))
        (pss_one (ps_ret (pe_op op_add_str (pe_op op_add_str (pe_op op_add_str (pe_op op_add_str (pe_op op_add_str (pe_op op_add_str pe_str (pe_ix (r := rIxL K) ix_list (pv 1) pe_int (fun _ _ => rfl))) pe_str) (pe_ix (r := rIxL K) ix_list (pv 1) pe_int (fun _ _ => rfl))) pe_str) (pe_ix (r := rIxL K) ix_list (pv 1) pe_int (fun _ _ => rfl))) pe_str)))
        pss_nil)
      (pss_one (ps_ret (pe_op op_add_str (pe_op op_add_str (pe_op op_add_str (pe_op op_add_str (pe_op op_add_str (pe_op op_add_str pe_str (pe_ix (r := rIxL K) ix_list (pv 1) pe_int (fun _ _ => rfl))) pe_str) (pe_dget hu (pe_disp (pps_cons pe_str pe_str (pps_cons pe_str pe_str (pps_cons pe_str pe_str (pps_cons pe_str pe_str pps_nil)))) (by rfl) (by rfl) (fun z => by cases z) (by decide)) (pe_ix (r := rIxT K) ix_tup (pv 0) pe_int (fun _ _ => rfl)) (fun _ _ => rfl))) pe_str) (pe_ix (r := rIxL K) ix_list (pv 1) pe_int (fun _ _ => rfl))) pe_str)))))))), ?_⟩
  cases r with
  | num n =>
    obtain ⟨p, rfl, hp⟩ := hR
    refine ⟨_, rfl, p, _, _, _, rfl, rfl, SqT.of hp, rfl, rfl, _, rfl, iteY rfl ?_⟩
    refine ⟨_, rfl, p, _, _, _, rfl, rfl, SqT.of hp, rfl, n, rfl, log_small hG, ?_⟩
    rw [intL_S]
    exact q _ (Same.refl _)
  | read s =>
    obtain ⟨p, rfl, hp⟩ := hR
    refine ⟨_, rfl, p, _, _, _, rfl, rfl, SqT.of hp, rfl, rfl, _, rfl, iteN (by decide +kernel) ?_⟩
    refine ⟨_, rfl, p, _, _, _, rfl, rfl, SqT.of hp, rfl, rfl, _, rfl, iteY rfl ?_⟩
    exact ⟨_, rfl, p, _, _, _, rfl, rfl, SqT.of hp, rfl, q _ (Same.refl _)⟩
  | two kd a b =>
    obtain ⟨p, x, y, rfl, hp, ra, rb⟩ := hR
    have da : a.dep ≤ k ∧ b.dep ≤ k := by
      have : max a.dep b.dep + 1 ≤ k + 1 := hd
      omega
    have za : a.siz ≤ 1000 ∧ b.siz ≤ 1000 := by
      have : a.siz + b.siz + 1 ≤ 1000 := hz
      omega
    have la := txt_len hG.1
    have lb := txt_len hG.2
    have nc : decide (V.str kd.name = V.str "choose") = false := decide_eq_false (kn_choose kd)
    have np : decide (V.str kd.name = V.str "pick") = false := decide_eq_false (kn_pick kd)
    refine ⟨_, rfl, p, _, _, _, rfl, rfl, SqT.of hp, rfl, rfl, _, rfl, iteN (kn_num kd) ?_⟩
    refine ⟨_, rfl, p, _, _, _, rfl, rfl, SqT.of hp, rfl, rfl, _, rfl, iteN (kn_read kd) ?_⟩
    refine ⟨_, rfl, _, rfl, _, rfl, p, _, _, _, rfl, rfl, SqT.of hp, rfl, rfl, .inr ⟨_, rfl, _, _, rfl, rfl, _, rfl, p, _, _, _, rfl, rfl, SqT.of hp, rfl, rfl, .inr ⟨_, rfl, _, _, rfl, rfl, _, rfl, p, _, rfl, SqT.of hp, ?_, ?_⟩⟩⟩
    · exact fun z => absurd z.1 (by show ¬ HT.sIx 3 0 (some 1) = 0; decide)
    rw [nc, np]
    intro t nt
    have ec : cutV [V.str kd.name, x, y] (some 1) (some (2 + (if (!false) = true then 1 else 0) + (if false = true then 1 else 0))) = [x, y] := rfl
    have hrel : Recs (upd H t (.tup [x, y])) [a, b] [x, y] := ⟨ra.same (same_new nt _), rb.same (same_new nt _), trivial⟩
    have hall : ∀ r' ∈ [a, b], r'.Good ∧ r'.dep ≤ k ∧ r'.siz ≤ 1000 := by
      intro r' h
      simp only [List.mem_cons, List.not_mem_nil, or_false] at h
      rcases h with rfl | rfl
      · exact ⟨hG.1, da.1, za.1⟩
      · exact ⟨hG.2, da.2, za.2⟩
    refine ⟨t, rfl, ⟨_, SqT.of upd_same⟩, fun L nL => lc_tup (K := K) (a := t) (xs := [x, y]) (fun i H' => Same (upd H t (.tup [x, y])) H' ∧ H' L = some (.lst (txs (([a, b].take i).map Rcp.txt))))
      ⟨same_new nL _, upd_same⟩ (fun i H' _ h => SqT.of (h.1 _ _ upd_same)) ?_ ?_⟩
    · rintro i x H' hx ⟨hs, hL⟩
      obtain ⟨r', hr', hrr⟩ := hrel.at hx
      have hm : r' ∈ [a, b] := List.mem_of_getElem? hr'
      refine ⟨rfl, _, rfl, x, r', rfl, hrr.same hs, (hall r' hm).1, (hall r' hm).2.1, (hall r' hm).2.2, fun H3 hs3 => ⟨_, hs3 _ _ hL, ?_, same_upd (hs.trans hs3) nL _, ?_⟩⟩
      · rw [txs_len, List.length_map]
        exact lt_line (Nat.lt_of_le_of_lt (List.length_take_le' _ _) (Nat.lt_of_le_of_lt (m := 3) (Nat.le_of_ble_eq_true rfl) (by decide)))
      · rw [upd_same, List.take_add_one, hr', List.map_append, txs_app]
        rfl
    rintro H' ⟨hs, hL⟩
    have hp' := hs _ _ (same_new nt (.tup [x, y]) _ _ hp)
    have hs' := (same_new nt (.tup [x, y])).trans hs
    refine ⟨_, rfl, p, _, _, _, rfl, rfl, SqT.of hp', rfl, rfl, _, rfl, iteN (kn_choose kd) ?_⟩
    refine ⟨_, rfl, p, _, _, _, rfl, rfl, SqT.of hp', rfl, rfl, _, rfl, iteN (kn_pick kd) ?_⟩
    refine ⟨_, rfl, L, _, _, _, rfl, rfl, SqL.of hL, rfl, _, _, rfl, rfl, ?_, _, _, rfl, rfl, ?_, fun dd nd => ⟨upd_same, signsKV, rfl, by decide, ?_⟩⟩
    rotate_right
    · have ss := same_upd (same_new nd (.dK [])) nd (.dK (mergeK [] signsKV))
      have hpd := ss _ _ hp'
      have hLd := ss _ _ hL
      refine ⟨_, rfl, p, _, _, _, rfl, rfl, SqT.of hpd, rfl, dd, _, rfl, by have g := DGet.k (k := Sum.inr kd.name) (upd_same (H := upd H' dd (.dK [])) (a := dd) (o := .dK (mergeK [] signsKV))); rw [signs_get] at g; exact g, _, _, rfl, rfl, ?_, _, _, rfl, rfl, ?_, _, rfl, L, _, _, _, rfl, rfl, SqL.of hLd, rfl, _, _, rfl, rfl, ?_, _, _, rfl, rfl, ?_, ?_⟩
      case refine_5 =>
        rw [q_open, q_close, q_blank, q_sgn, SX.S_cat, SX.S_cat, SX.S_cat, SX.S_cat, SX.S_cat, SX.S_cat]
        have e : ([40] ++ a.txt ++ [32] ++ [kd.sign] ++ [32] ++ b.txt ++ [41]) = (Rcp.two kd a b).txt := by simp [Rcp.txt]
        rw [e]
        exact q _ (hs'.trans ss)
      all_goals
        simp only [q_open, q_close, q_blank, q_sgn, SX.S_cat, SX.S_len, List.length_append, List.length_cons, List.length_nil]
        exact le_line (by omega)
    all_goals
      simp only [q_open, q_close, q_blank, q_sgn, SX.S_cat, SX.S_len, List.length_append, List.length_cons, List.length_nil]
      exact le_line (by omega)
  | pick a b c =>
    obtain ⟨p, x, y, z, rfl, hp, ra, rb, rc⟩ := hR
    have da : a.dep ≤ k ∧ b.dep ≤ k ∧ c.dep ≤ k := by
      have : max a.dep (max b.dep c.dep) + 1 ≤ k + 1 := hd
      omega
    have za : a.siz ≤ 1000 ∧ b.siz ≤ 1000 ∧ c.siz ≤ 1000 := by
      have : a.siz + b.siz + c.siz + 1 ≤ 1000 := hz
      omega
    have la := txt_len hG.1
    have lb := txt_len hG.2.1
    have lc := txt_len hG.2.2
    refine ⟨_, rfl, p, _, _, _, rfl, rfl, SqT.of hp, rfl, rfl, _, rfl, iteN (by decide +kernel) ?_⟩
    refine ⟨_, rfl, p, _, _, _, rfl, rfl, SqT.of hp, rfl, rfl, _, rfl, iteN (by decide +kernel) ?_⟩
    have nc : decide (V.str "pick" = V.str "choose") = false := by decide +kernel
    have np : decide (V.str "pick" = V.str "pick") = true := by decide +kernel
    refine ⟨_, rfl, _, rfl, _, rfl, p, _, _, _, rfl, rfl, SqT.of hp, rfl, rfl, .inr ⟨_, rfl, _, _, rfl, rfl, _, rfl, p, _, _, _, rfl, rfl, SqT.of hp, rfl, rfl, .inr ⟨_, rfl, _, _, rfl, rfl, _, rfl, p, _, rfl, SqT.of hp, ?_, ?_⟩⟩⟩
    · exact fun z => absurd z.1 (by show ¬ HT.sIx 4 0 (some 1) = 0; decide)
    rw [nc, np]
    intro t nt
    have hrel : Recs (upd H t (.tup [x, y, z])) [a, b, c] [x, y, z] := ⟨ra.same (same_new nt _), rb.same (same_new nt _), rc.same (same_new nt _), trivial⟩
    have hall : ∀ r' ∈ [a, b, c], r'.Good ∧ r'.dep ≤ k ∧ r'.siz ≤ 1000 := by
      intro r' h
      simp only [List.mem_cons, List.not_mem_nil, or_false] at h
      rcases h with rfl | rfl | rfl
      · exact ⟨hG.1, da.1, za.1⟩
      · exact ⟨hG.2.1, da.2.1, za.2.1⟩
      · exact ⟨hG.2.2, da.2.2, za.2.2⟩
    refine ⟨t, rfl, ⟨_, SqT.of upd_same⟩, fun L nL => lc_tup (K := K) (a := t) (xs := [x, y, z]) (fun i H' => Same (upd H t (.tup [x, y, z])) H' ∧ H' L = some (.lst (txs (([a, b, c].take i).map Rcp.txt))))
      ⟨same_new nL _, upd_same⟩ (fun i H' _ h => SqT.of (h.1 _ _ upd_same)) ?_ ?_⟩
    · rintro i x H' hx ⟨hs, hL⟩
      obtain ⟨r', hr', hrr⟩ := hrel.at hx
      have hm : r' ∈ [a, b, c] := List.mem_of_getElem? hr'
      refine ⟨rfl, _, rfl, x, r', rfl, hrr.same hs, (hall r' hm).1, (hall r' hm).2.1, (hall r' hm).2.2, fun H3 hs3 => ⟨_, hs3 _ _ hL, ?_, same_upd (hs.trans hs3) nL _, ?_⟩⟩
      · rw [txs_len, List.length_map]
        exact lt_line (Nat.lt_of_le_of_lt (List.length_take_le' _ _) (Nat.lt_of_le_of_lt (m := 3) (Nat.le_of_ble_eq_true rfl) (by decide)))
      · rw [upd_same, List.take_add_one, hr', List.map_append, txs_app]
        rfl
    rintro H' ⟨hs, hL⟩
    have hp' := hs _ _ (same_new nt (.tup [x, y, z]) _ _ hp)
    have hs' := (same_new nt (.tup [x, y, z])).trans hs
    refine ⟨_, rfl, p, _, _, _, rfl, rfl, SqT.of hp', rfl, rfl, _, rfl, iteN (by decide +kernel) ?_⟩
    refine ⟨_, rfl, p, _, _, _, rfl, rfl, SqT.of hp', rfl, rfl, _, rfl, iteY rfl ?_⟩
    refine ⟨_, rfl, L, _, _, _, rfl, rfl, SqL.of hL, rfl, _, _, rfl, rfl, ?_, _, _, rfl, rfl, ?_, _, rfl, L, _, _, _, rfl, rfl, SqL.of hL, rfl, _, _, rfl, rfl, ?_, _, _, rfl, rfl, ?_, _, rfl, L, _, _, _, rfl, rfl, SqL.of hL, rfl, _, _, rfl, rfl, ?_, _, _, rfl, rfl, ?_, ?_⟩
    case refine_7 =>
      rw [q_lb, q_rb, q_ask, q_col, SX.S_cat, SX.S_cat, SX.S_cat, SX.S_cat, SX.S_cat, SX.S_cat]
      have e : ([91] ++ a.txt ++ [32, 63, 32] ++ b.txt ++ [32, 58, 32] ++ c.txt ++ [93]) = (Rcp.pick a b c).txt := by simp [Rcp.txt]
      rw [e]
      exact q _ hs'
    all_goals
      simp only [q_lb, q_rb, q_ask, q_col, SX.S_cat, SX.S_len, List.length_append, List.length_cons, List.length_nil]
      exact le_line (by omega)
  | choose a ns =>
    obtain ⟨p, x, qa, rfl, hp, ra, hq⟩ := hR
    have da : a.dep ≤ k := by
      have : a.dep + 1 ≤ k + 1 := hd
      omega
    have za : a.siz ≤ 1000 := by
      have : a.siz + 1 ≤ 1000 := hz
      omega
    have la := txt_len hG.1
    have ln := names_len hG.2
    have l9 := hG.2.2.1
    have ls := names_sum hG.2.2.2
    refine ⟨_, rfl, p, _, _, _, rfl, rfl, SqT.of hp, rfl, rfl, _, rfl, iteN (by decide +kernel) ?_⟩
    refine ⟨_, rfl, p, _, _, _, rfl, rfl, SqT.of hp, rfl, rfl, _, rfl, iteN (by decide +kernel) ?_⟩
    have nc : decide (V.str "choose" = V.str "choose") = true := by decide +kernel
    have np : decide (V.str "choose" = V.str "pick") = false := by decide +kernel
    refine ⟨_, rfl, _, rfl, _, rfl, p, _, _, _, rfl, rfl, SqT.of hp, rfl, rfl, .inr ⟨_, rfl, _, _, rfl, rfl, _, rfl, p, _, _, _, rfl, rfl, SqT.of hp, rfl, rfl, .inr ⟨_, rfl, _, _, rfl, rfl, _, rfl, p, _, rfl, SqT.of hp, ?_, ?_⟩⟩⟩
    · exact fun z => absurd z.1 (by show ¬ HT.sIx 3 0 (some 1) = 0; decide)
    rw [nc, np]
    intro t nt
    have hrel : Recs (upd H t (.tup [x])) [a] [x] := ⟨ra.same (same_new nt _), trivial⟩
    have hall : ∀ r' ∈ [a], r'.Good ∧ r'.dep ≤ k ∧ r'.siz ≤ 1000 := by
      intro r' h
      rw [List.mem_singleton.mp h]
      exact ⟨hG.1, da, za⟩
    refine ⟨t, rfl, ⟨_, SqT.of upd_same⟩, fun L nL => lc_tup (K := K) (a := t) (xs := [x]) (fun i H' => Same (upd H t (.tup [x])) H' ∧ H' L = some (.lst (txs (([a].take i).map Rcp.txt))))
      ⟨same_new nL _, upd_same⟩ (fun i H' _ h => SqT.of (h.1 _ _ upd_same)) ?_ ?_⟩
    · rintro i x H' hx ⟨hs, hL⟩
      obtain ⟨r', hr', hrr⟩ := hrel.at hx
      have hm : r' ∈ [a] := List.mem_of_getElem? hr'
      refine ⟨rfl, _, rfl, x, r', rfl, hrr.same hs, (hall r' hm).1, (hall r' hm).2.1, (hall r' hm).2.2, fun H3 hs3 => ⟨_, hs3 _ _ hL, ?_, same_upd (hs.trans hs3) nL _, ?_⟩⟩
      · rw [txs_len, List.length_map]
        exact lt_line (Nat.lt_of_le_of_lt (List.length_take_le' _ _) (Nat.lt_of_le_of_lt (m := 3) (Nat.le_of_ble_eq_true rfl) (by decide)))
      · rw [upd_same, List.take_add_one, hr', List.map_append, txs_app]
        rfl
    rintro H' ⟨hs, hL⟩
    have hp' := hs _ _ (same_new nt (.tup [x]) _ _ hp)
    have hq' := hs _ _ (same_new nt (.tup [x]) _ _ hq)
    have hs' := (same_new nt (.tup [x])).trans hs
    refine ⟨_, rfl, p, _, _, _, rfl, rfl, SqT.of hp', rfl, rfl, _, rfl, iteY rfl ?_⟩
    refine ⟨_, rfl, L, _, _, _, rfl, rfl, SqL.of hL, rfl, _, _, rfl, rfl, ?_, ⟨_, rfl⟩, _, rfl, p, _, _, _, rfl, rfl, SqT.of hp', rfl, _, qa, ns.map SX.S, rfl, rfl, .inr (SqT.of hq'), ?_, _, _, rfl, rfl, ?_, _, _, rfl, rfl, ?_, ?_⟩
    case refine_5 =>
      rw [q_lc, q_rc, q_comma, SX.join_S, SX.S_cat, SX.S_cat, SX.S_cat]
      have e : (a.txt ++ [123] ++ TL.joinL [44] ns ++ [125]) = (Rcp.choose a ns).txt := by simp [Rcp.txt]
      rw [e]
      exact q _ hs'
    case refine_2 =>
      rw [q_comma, SX.S_len, List.length_map]
      show _ + ns.length * 1 ≤ _
      omega
    all_goals
      simp only [q_lc, q_rc, q_comma, SX.join_S, SX.S_cat, SX.S_len, List.length_append, List.length_cons, List.length_nil]
      exact le_line (by omega)
theorem all__law_text (T : Txt K mg) (D : IsDef K mg "_law_text" s__law_text ["r"]) : ∀ k : Nat, Cal P w K mg base CX0 k "_law_text" ["r"] (spText k)
  | 0 => cal_none D fun vs H Q E h => by
    obtain ⟨v, r, _, _, _, h1, _⟩ := h
    have := dep_pos r
    omega
  | k + 1 => ok__law_text T D (all__law_text T D k)
end
/-! ### the words of sums as a written dict -/
theorem words_no {K : PySem.W.Frag} {wd : Addr} {n : Nat} {h1 h2 h3 h4 : Int} {t1 t2 t3 t4 : Tok} {v1 v2 v3 v4 : Value} (hl : K.lookup wd = some ⟨.type "dict", none, .dict #[⟨h1, .str " + " t1, v1⟩, ⟨h2, .str " - " t2, v2⟩, ⟨h3, .str " * " t3, v3⟩, ⟨h4, .str " ^ " t4, v4⟩] n, #[]⟩) (z : List Nat) (hz : twoWord z = none) :
    PySem.W.nsIn K wd (SX.S z) = some none := by
  have ne : ∀ (lit : Str) (wz : List Nat), lit = SX.S wz → z ≠ wz → (lit == SX.S z) = false := fun lit wz e h => by
    rw [e, SX.S_beq]
    exact beq_eq_false_iff_ne.mpr fun q => h q.symm
  have n1 : z ≠ [32, 43, 32] := fun e => by rw [e] at hz; cases hz
  have n2 : z ≠ [32, 45, 32] := fun e => by rw [e] at hz; cases hz
  have n3 : z ≠ [32, 42, 32] := fun e => by rw [e] at hz; cases hz
  have n4 : z ≠ [32, 94, 32] := fun e => by rw [e] at hz; cases hz
  have e1 : (Value.str " + " t1).isStr (SX.S z) = false := ne " + " _ (by decide +kernel) n1
  have e2 : (Value.str " - " t2).isStr (SX.S z) = false := ne " - " _ (by decide +kernel) n2
  have e3 : (Value.str " * " t3).isStr (SX.S z) = false := ne " * " _ (by decide +kernel) n3
  have e4 : (Value.str " ^ " t4).isStr (SX.S z) = false := ne " ^ " _ (by decide +kernel) n4
  unfold PySem.W.nsIn
  rw [hl]
  show (match List.find? (fun e : DictEntry => e.key.isStr (SX.S z)) [⟨h1, .str " + " t1, v1⟩, ⟨h2, .str " - " t2, v2⟩, ⟨h3, .str " * " t3, v3⟩, ⟨h4, .str " ^ " t4, v4⟩] with | some e => some (some e.val) | none => _) = _
  rw [List.find?_cons_of_neg (by rw [e1]; exact Bool.false_ne_true), List.find?_cons_of_neg (by rw [e2]; exact Bool.false_ne_true), List.find?_cons_of_neg (by rw [e3]; exact Bool.false_ne_true), List.find?_cons_of_neg (by rw [e4]; exact Bool.false_ne_true)]
  rfl
theorem two_yes {z : List Nat} {k : Kd} (h : twoWord z = some k) : z = [32, k.sign, 32] := by
  unfold twoWord at h
  split at h
  · rename_i e; cases h; exact e
  split at h
  · rename_i e; cases h; exact e
  split at h
  · rename_i e; cases h; exact e
  split at h
  · rename_i e; cases h; exact e
  · cases h
theorem nat_low (n : Nat) : ∀ c ∈ TL.numL n, c < 128 := fun c hc => by
  have := TL.numL_digits n c hc
  omega
theorem txt_low : ∀ {r : Rcp}, r.Good → ∀ c ∈ r.txt, c < 128
  | .num n, _, c, hc => by
    have hc' : c ∈ intL n := hc
    by_cases h0 : 0 ≤ n
    · obtain ⟨m, rfl⟩ := Int.eq_ofNat_of_zero_le h0
      rw [intL_nat m] at hc'
      exact nat_low m c hc'
    · obtain ⟨m, hm⟩ := Int.eq_ofNat_of_zero_le (show 0 ≤ -n by omega)
      have hn : n = -(m : Int) := by omega
      rw [hn, intL_neg (by omega)] at hc'
      rcases List.mem_cons.mp hc' with e | h
      · rw [e]; decide
      · exact nat_low m c h
  | .read s, hg, c, hc => by
    have := (show Nm s from hg).2.2 c hc
    omega
  | .two k a b, hg, c, hc => by
    have hk : k.sign < 128 := by cases k <;> decide
    have hc' : c ∈ 40 :: (a.txt ++ (32 :: k.sign :: 32 :: (b.txt ++ [41]))) := hc
    simp only [List.mem_cons, List.mem_append, List.not_mem_nil, or_false] at hc'
    rcases hc' with h | h | h | h | h | h | h
    · omega
    · exact txt_low hg.1 c h
    · omega
    · omega
    · omega
    · exact txt_low hg.2 c h
    · omega
  | .pick a b d, hg, c, hc => by
    have hc' : c ∈ 91 :: (a.txt ++ (32 :: 63 :: 32 :: (b.txt ++ (32 :: 58 :: 32 :: (d.txt ++ [93]))))) := hc
    simp only [List.mem_cons, List.mem_append, List.not_mem_nil, or_false] at hc'
    rcases hc' with h | h | h | h | h | h | h | h | h | h | h
    · omega
    · exact txt_low hg.1 c h
    · omega
    · omega
    · omega
    · exact txt_low hg.2.1 c h
    · omega
    · omega
    · omega
    · exact txt_low hg.2.2 c h
    · omega
  | .choose a ns, hg, c, hc => by
    have hc' : c ∈ a.txt ++ (123 :: (TL.joinL [44] ns ++ [125])) := hc
    simp only [List.mem_cons, List.mem_append, List.not_mem_nil, or_false] at hc'
    rcases hc' with h | h | h | h
    · exact txt_low hg.1 c h
    · omega
    · have := names_signs hg.2.2.2 c h
      rw [Bool.or_eq_true, decide_eq_true_eq] at this
      rcases this with z | z
      · unfold isLt at z
        rw [Bool.and_eq_true, decide_eq_true_eq, decide_eq_true_eq] at z
        omega
      · omega
    · omega
theorem txt_tame {r : Rcp} (hg : r.Good) (hs : r.siz ≤ 1000) : (Th.str r.txt).tame = true := by
  have := txt_len hg
  exact tame_of (by omega) (txt_low hg)
/-! ### the law's own parser, mirrored -/
def opn (c : Nat) : Bool := decide (c = 40) || (decide (c = 91) || decide (c = 123))
def cls (c : Nat) : Bool := decide (c = 41) || (decide (c = 93) || decide (c = 125))
def lvS (lv c : Nat) : Option Nat := if opn c = true then some (lv + 1) else if cls c = true then (if lv = 0 then none else some (lv - 1)) else some lv
def plGo (ws : List (List Nat)) : List Nat → Nat → Nat → List Nat → List Nat
  | [], _, _, acc => acc
  | c :: r, a, lv, acc => match lvS lv c with
    | none => []
    | some l => plGo ws r (a + 1) l (if l = 0 ∧ (c :: r).take 3 ∈ ws then acc ++ [a] else acc)
def wsT : List (List Nat) := [[32, 43, 32], [32, 45, 32], [32, 42, 32], [32, 94, 32]]
def wsP : List (List Nat) := [[32, 63, 32], [32, 58, 32]]
def pLeaf (z : List Nat) : Option Rcp := if nmOk z = true then some (.read z) else match rNum z with
  | none => none
  | some (r, n) => if n = z.length then some r else none
def sub (z : List Nat) (a b : Nat) : List Nat := (z.drop a).take (b - a)
def pTwo (p : List Nat → Option Rcp) (z : List Nat) : List Nat → Option Rcp
  | [a] => match p (sub z 1 (a + 1)), p (sub z (a + 4) (z.length - 1)), twoWord (sub z (a + 1) (a + 4)) with
    | some x, some y, some k => some (.two k x y)
    | _, _, _ => none
  | _ => none
def pPick (p : List Nat → Option Rcp) (z : List Nat) : List Nat → Option Rcp
  | [a, b] => match p (sub z 1 (a + 1)), p (sub z (a + 4) (b + 1)), p (sub z (b + 4) (z.length - 1)) with
    | some x, some y, some w => if z[a + 2]? = some 63 ∧ z[b + 2]? = some 58 then some (.pick x y w) else none
    | _, _, _ => none
  | _ => none
def pParted (p : List Nat → Option Rcp) (z : List Nat) : Option Rcp :=
  if z.getLast? = some 93 then pPick p z (plGo wsP (sub z 1 (z.length - 1)) 0 0 []) else pTwo p z (plGo wsT (sub z 1 (z.length - 1)) 0 0 [])
/-- one behind the last place of c, 0 where there is none -/
def lastB (c : Nat) (z : List Nat) : Nat := (z.reverse.dropWhile fun x => !decide (x = c)).length
def pChoose (p : List Nat → Option Rcp) (z : List Nat) : Option Rcp :=
  if 1 < lastB 123 z then match p (z.take (lastB 123 z - 1)) with
    | none => none
    | some r => if (TL.spl [44] 0 [] (sub z (lastB 123 z) (z.length - 1))).length ≤ 9 ∧ (TL.spl [44] 0 [] (sub z (lastB 123 z) (z.length - 1))).all nmOk = true then some (.choose r (TL.spl [44] 0 [] (sub z (lastB 123 z) (z.length - 1)))) else none
  else none
def pParse : Nat → List Nat → Option Rcp
  | 0, _ => none
  | n + 1, z => if z = [] then none
    else if z.getLast? = some 125 then pChoose (pParse n) z
    else if 2 < z.length ∧ ((z.head? = some 40 ∧ z.getLast? = some 41) ∨ (z.head? = some 91 ∧ z.getLast? = some 93)) then pParted (pParse n) z
    else pLeaf z
/-! a text is gone through without a place -/
theorem pl_plain (ws : List (List Nat)) : ∀ (s rest : List Nat) (a lv : Nat) (acc : List Nat), (∀ w ∈ ws, w.take 1 = [32]) → (∀ c ∈ s, opn c = false ∧ cls c = false ∧ (c ≠ 32 ∨ lv ≠ 0)) → plGo ws (s ++ rest) a lv acc = plGo ws rest (a + s.length) lv acc
  | [], _, _, _, _, _, _ => rfl
  | c :: s, rest, a, lv, acc, hw, h => by
    obtain ⟨h1, h2, h3⟩ := h c (List.mem_cons_self ..)
    have e : lvS lv c = some lv := by unfold lvS; rw [h1, if_neg Bool.false_ne_true, h2, if_neg Bool.false_ne_true]
    have no : ¬ (lv = 0 ∧ (c :: (s ++ rest)).take 3 ∈ ws) := fun z => by
      have := hw _ z.2
      rcases h3 with h3 | h3
      · exact h3 (List.head_eq_of_cons_eq (show c :: ([] : List Nat) = [32] from this))
      · exact h3 z.1
    show (match lvS lv c with | none => [] | some l => plGo ws (s ++ rest) (a + 1) l (if l = 0 ∧ (c :: (s ++ rest)).take 3 ∈ ws then acc ++ [a] else acc)) = _
    rw [e]
    show plGo ws (s ++ rest) (a + 1) lv (if lv = 0 ∧ (c :: (s ++ rest)).take 3 ∈ ws then acc ++ [a] else acc) = _
    rw [if_neg no, pl_plain ws s rest (a + 1) lv acc hw fun x hx => h x (List.mem_cons_of_mem _ hx)]
    congr 1
    show a + 1 + s.length = a + (s.length + 1)
    omega
theorem pl_open (ws : List (List Nat)) {c : Nat} (h : opn c = true) (rest : List Nat) (a lv : Nat) (acc : List Nat) : plGo ws (c :: rest) a lv acc = plGo ws rest (a + 1) (lv + 1) acc := by
  have e : lvS lv c = some (lv + 1) := by unfold lvS; rw [if_pos h]
  show (match lvS lv c with | none => [] | some l => plGo ws rest (a + 1) l (if l = 0 ∧ (c :: rest).take 3 ∈ ws then acc ++ [a] else acc)) = _
  rw [e]
  show plGo ws rest (a + 1) (lv + 1) (if lv + 1 = 0 ∧ _ then _ else _) = _
  rw [if_neg (fun z => by have := z.1; omega)]
theorem pl_close (ws : List (List Nat)) (hw : ∀ w ∈ ws, w.take 1 = [32]) {c : Nat} (h : cls c = true) (rest : List Nat) (a lv : Nat) (acc : List Nat) : plGo ws (c :: rest) a (lv + 1) acc = plGo ws rest (a + 1) lv acc := by
  have ho : opn c = false := by
    unfold cls at h
    unfold opn
    simp only [Bool.or_eq_true, decide_eq_true_eq] at h
    rcases h with rfl | rfl | rfl <;> rfl
  have hc : c ≠ 32 := fun z => by rw [z] at h; exact absurd h (by decide)
  have e : lvS (lv + 1) c = some lv := by unfold lvS; rw [ho, if_neg Bool.false_ne_true, if_pos h, if_neg (by omega)]; rfl
  show (match lvS (lv + 1) c with | none => [] | some l => plGo ws rest (a + 1) l (if l = 0 ∧ (c :: rest).take 3 ∈ ws then acc ++ [a] else acc)) = _
  rw [e]
  show plGo ws rest (a + 1) lv (if lv = 0 ∧ (c :: rest).take 3 ∈ ws then _ else _) = _
  have no : ¬ (lv = 0 ∧ (c :: rest).take 3 ∈ ws) := fun z => by
    have := hw _ z.2
    exact hc (List.head_eq_of_cons_eq (show c :: ([] : List Nat) = [32] from this))
  rw [if_neg no]
theorem plain_num {n : Int} (h : n.natAbs < 10 ^ 40) : ∀ c ∈ intL n, c = 45 ∨ (48 ≤ c ∧ c ≤ 57) := fun c hc => by
  by_cases h0 : 0 ≤ n
  · obtain ⟨m, rfl⟩ : ∃ m : Nat, n = (m : Int) := ⟨n.toNat, by omega⟩
    rw [intL_nat] at hc
    exact .inr (TL.numL_digits m c hc)
  · obtain ⟨m, rfl, hm⟩ : ∃ m : Nat, n = -(m : Int) ∧ 1 ≤ m := ⟨(-n).toNat, by omega, by omega⟩
    rw [intL_neg hm] at hc
    rcases List.mem_cons.mp hc with h | h
    · exact .inl h
    · exact .inr (TL.numL_digits m c h)
theorem plain_c {c : Nat} (h : c = 45 ∨ (48 ≤ c ∧ c ≤ 57) ∨ (97 ≤ c ∧ c ≤ 122) ∨ c = 44) : opn c = false ∧ cls c = false ∧ c ≠ 32 := by
  unfold opn cls
  refine ⟨?_, ?_, by omega⟩ <;> (rw [decide_eq_false (by omega), decide_eq_false (by omega), decide_eq_false (by omega)]; rfl)
theorem plain_names {ns : List (List Nat)} (h : ∀ s ∈ ns, Nm s) : ∀ c ∈ TL.joinL [44] ns, (97 ≤ c ∧ c ≤ 122) ∨ c = 44 := fun c hc => by
  have := names_signs h c hc
  rw [Bool.or_eq_true, decide_eq_true_eq] at this
  rcases this with h | h
  · left
    unfold isLt at h
    rw [Bool.and_eq_true, decide_eq_true_eq, decide_eq_true_eq] at h
    exact h
  · exact .inr h
theorem pl_skip (ws : List (List Nat)) (hw : ∀ w ∈ ws, w.take 1 = [32]) : ∀ (r : Rcp), r.Good → ∀ (rest : List Nat) (a lv : Nat) (acc : List Nat), plGo ws (r.txt ++ rest) a lv acc = plGo ws rest (a + r.txt.length) lv acc
  | .num n, h, rest, a, lv, acc => pl_plain ws _ rest a lv acc hw fun c hc => by
    obtain ⟨h1, h2, h3⟩ := plain_c (c := c) (by have := plain_num h c hc; omega)
    exact ⟨h1, h2, .inl h3⟩
  | .read s, h, rest, a, lv, acc => pl_plain ws _ rest a lv acc hw fun c hc => by
    obtain ⟨h1, h2, h3⟩ := plain_c (c := c) (by have := h.2.2 c hc; omega)
    exact ⟨h1, h2, .inl h3⟩
  | .two k x y, h, rest, a, lv, acc => by
    have e : (Rcp.two k x y).txt ++ rest = 40 :: (x.txt ++ ([32, k.sign, 32] ++ (y.txt ++ (41 :: rest)))) := by
      show (40 :: (x.txt ++ (32 :: k.sign :: 32 :: (y.txt ++ [41])))) ++ rest = _
      simp
    have el : (Rcp.two k x y).txt.length = x.txt.length + y.txt.length + 5 := by
      show (40 :: (x.txt ++ (32 :: k.sign :: 32 :: (y.txt ++ [41])))).length = _
      simp; omega
    rw [e, pl_open ws (by rfl), pl_skip ws hw x h.1, pl_plain ws [32, k.sign, 32] _ _ (lv + 1) acc hw (fun c hc => by
      have hc' : c = 32 ∨ c = k.sign := by simp at hc; omega
      rcases hc' with rfl | rfl
      · exact ⟨rfl, rfl, .inr (by omega)⟩
      · exact ⟨by cases k <;> rfl, by cases k <;> rfl, .inr (by omega)⟩), pl_skip ws hw y h.2, pl_close ws hw (by rfl)]
    congr 1
    show a + 1 + x.txt.length + 3 + y.txt.length + 1 = _
    omega
  | .pick x y z, h, rest, a, lv, acc => by
    have e : (Rcp.pick x y z).txt ++ rest = 91 :: (x.txt ++ ([32, 63, 32] ++ (y.txt ++ ([32, 58, 32] ++ (z.txt ++ (93 :: rest)))))) := by
      show (91 :: (x.txt ++ (32 :: 63 :: 32 :: (y.txt ++ (32 :: 58 :: 32 :: (z.txt ++ [93])))))) ++ rest = _
      simp
    have el : (Rcp.pick x y z).txt.length = x.txt.length + y.txt.length + z.txt.length + 8 := by
      show (91 :: (x.txt ++ (32 :: 63 :: 32 :: (y.txt ++ (32 :: 58 :: 32 :: (z.txt ++ [93])))))).length = _
      simp; omega
    have pl : ∀ t : Nat, (t = 63 ∨ t = 58) → ∀ c ∈ [32, t, 32], opn c = false ∧ cls c = false ∧ (c ≠ 32 ∨ lv + 1 ≠ 0) := fun t ht c hc => by
      have hc' : c = 32 ∨ c = t := by simp at hc; omega
      rcases hc' with rfl | rfl
      · exact ⟨rfl, rfl, .inr (by omega)⟩
      · rcases ht with rfl | rfl <;> exact ⟨rfl, rfl, .inr (by omega)⟩
    rw [e, pl_open ws (by rfl), pl_skip ws hw x h.1, pl_plain ws [32, 63, 32] _ _ (lv + 1) acc hw (pl 63 (.inl rfl)), pl_skip ws hw y h.2.1, pl_plain ws [32, 58, 32] _ _ (lv + 1) acc hw (pl 58 (.inr rfl)), pl_skip ws hw z h.2.2, pl_close ws hw (by rfl)]
    congr 1
    show a + 1 + x.txt.length + 3 + y.txt.length + 3 + z.txt.length + 1 = _
    omega
  | .choose x ns, h, rest, a, lv, acc => by
    have e : (Rcp.choose x ns).txt ++ rest = x.txt ++ (123 :: (TL.joinL [44] ns ++ (125 :: rest))) := by
      show (x.txt ++ (123 :: (TL.joinL [44] ns ++ [125]))) ++ rest = _
      simp
    have el : (Rcp.choose x ns).txt.length = x.txt.length + (TL.joinL [44] ns).length + 2 := by
      show (x.txt ++ (123 :: (TL.joinL [44] ns ++ [125]))).length = _
      simp; omega
    rw [e, pl_skip ws hw x h.1, pl_open ws (by rfl), pl_plain ws _ _ _ (lv + 1) acc hw (fun c hc => by
      obtain ⟨h1, h2, h3⟩ := plain_c (c := c) (by have := plain_names h.2.2.2 c hc; omega)
      exact ⟨h1, h2, .inl h3⟩), pl_close ws hw (by rfl)]
    congr 1
    omega
/-! ### its answers -/
def Wsk (ws : List (List Nat)) : Prop := ∀ w ∈ ws, ∃ c, w = [32, c, 32] ∧ ¬ (48 ≤ c ∧ c ≤ 57) ∧ ¬ (97 ≤ c ∧ c ≤ 122)
theorem Wsk.hw {ws : List (List Nat)} (h : Wsk ws) : ∀ w ∈ ws, w.take 1 = [32] := fun w m => by
  obtain ⟨c, rfl, _⟩ := h w m
  rfl
theorem wskT : Wsk wsT := fun w m => by
  simp only [wsT, List.mem_cons, List.not_mem_nil, or_false] at m
  rcases m with rfl | rfl | rfl | rfl <;> exact ⟨_, rfl, by decide, by decide⟩
theorem wskP : Wsk wsP := fun w m => by
  simp only [wsP, List.mem_cons, List.not_mem_nil, or_false] at m
  rcases m with rfl | rfl <;> exact ⟨_, rfl, by decide, by decide⟩
theorem num_cons {n : Int} (h : n.natAbs < 10 ^ 40) : (∃ c r, intL n = c :: r ∧ 48 ≤ c ∧ c ≤ 57) ∨ ∃ c r, intL n = 45 :: c :: r ∧ 48 ≤ c ∧ c ≤ 57 := by
  have key : ∀ m : Nat, ∃ c r, TL.numL m = c :: r ∧ 48 ≤ c ∧ c ≤ 57 := fun m => by
    cases e : TL.numL m with
    | nil => exact absurd e (TL.numL_ne _)
    | cons c r => exact ⟨c, r, rfl, TL.numL_digits m c (by rw [e]; exact List.mem_cons_self ..)⟩
  by_cases h0 : 0 ≤ n
  · obtain ⟨m, rfl⟩ : ∃ m : Nat, n = (m : Int) := ⟨n.toNat, by omega⟩
    rw [intL_nat]
    exact .inl (key m)
  · obtain ⟨m, rfl, hm⟩ : ∃ m : Nat, n = -(m : Int) ∧ 1 ≤ m := ⟨(-n).toNat, by omega, by omega⟩
    rw [intL_neg hm]
    obtain ⟨c, r, e, h1⟩ := key m
    rw [e]
    exact .inr ⟨c, r, rfl, h1⟩
theorem txt_first : ∀ (r : Rcp), r.Good → ∃ c t, r.txt = c :: t ∧ c ≠ 32 ∧ c ≠ 125 ∧ ∀ rest d, (t ++ rest).take 1 = [d] → d = 32 → (48 ≤ c ∧ c ≤ 57) ∨ (97 ≤ c ∧ c ≤ 122)
  | .num n, h => by
    rcases num_cons h with ⟨c, t, e, h1⟩ | ⟨c, t, e, h1⟩
    · exact ⟨c, t, e, by omega, by omega, fun _ _ _ _ => .inl h1⟩
    · exact ⟨45, c :: t, e, by decide, by decide, fun rest d hd h32 => by
        have : c = d := List.head_eq_of_cons_eq hd
        omega⟩
  | .read s, h => by
    obtain ⟨h1, _, h3⟩ := h
    cases s with
    | nil => exact absurd h1 (by decide)
    | cons c t =>
      have := h3 c (List.mem_cons_self ..)
      exact ⟨c, t, rfl, by omega, by omega, fun _ _ _ _ => .inr this⟩
  | .two k x y, h => by
    obtain ⟨c, t, e, h1, _⟩ := txt_first x h.1
    refine ⟨40, x.txt ++ (32 :: k.sign :: 32 :: (y.txt ++ [41])), rfl, by decide, by decide, fun rest d hd h32 => ?_⟩
    rw [e] at hd
    exact absurd ((List.head_eq_of_cons_eq hd).trans h32) h1
  | .pick x y z, h => by
    obtain ⟨c, t, e, h1, _⟩ := txt_first x h.1
    refine ⟨91, x.txt ++ (32 :: 63 :: 32 :: (y.txt ++ (32 :: 58 :: 32 :: (z.txt ++ [93])))), rfl, by decide, by decide, fun rest d hd h32 => ?_⟩
    rw [e] at hd
    exact absurd ((List.head_eq_of_cons_eq hd).trans h32) h1
  | .choose x ns, h => by
    obtain ⟨c, t, e, h1, h2, h3⟩ := txt_first x h.1
    refine ⟨c, t ++ (123 :: (TL.joinL [44] ns ++ [125])), ?_, h1, h2, fun rest d hd h32 => h3 _ d (by rw [List.append_assoc] at hd; exact hd) h32⟩
    show x.txt ++ _ = _
    rw [e]
    rfl
theorem txt_ne {r : Rcp} (h : r.Good) : r.txt ≠ [] := by
  obtain ⟨c, t, e, _⟩ := txt_first r h
  rw [e]
  exact fun z => by cases z
theorem pl_sign {ws : List (List Nat)} (hw : Wsk ws) {s : Nat} (hs : [32, s, 32] ∈ ws) (ho : opn s = false) (hc : cls s = false) (h32 : s ≠ 32) (b : Rcp) (hb : b.Good) (rest : List Nat) (a : Nat) (acc : List Nat) :
    plGo ws (32 :: s :: 32 :: (b.txt ++ rest)) a 0 acc = plGo ws rest (a + 3 + b.txt.length) 0 (acc ++ [a]) := by
  have e : lvS 0 32 = some 0 := rfl
  have e2 : ∀ l a acc, plGo ws (32 :: l) a 0 acc = plGo ws l (a + 1) 0 (if 0 = 0 ∧ (32 :: l).take 3 ∈ ws then acc ++ [a] else acc) := fun l a acc => rfl
  have key : 32 :: (b.txt ++ rest).take 2 ∉ ws := fun z => by
    obtain ⟨c, e, h1, h2⟩ := hw _ z
    obtain ⟨f, t, et, k1, _, k3⟩ := txt_first b hb
    rw [et] at e
    have e' : (32 : Nat) :: f :: ((t ++ rest).take 1) = [32, c, 32] := e
    injection e' with _ e'
    injection e' with ef e'
    have := k3 rest 32 e' rfl
    rw [ef] at this
    rcases this with h | h
    · exact h1 h
    · exact h2 h
  rw [e2, if_pos ⟨rfl, hs⟩, show s :: 32 :: (b.txt ++ rest) = [s] ++ (32 :: (b.txt ++ rest)) from rfl, pl_plain ws [s] _ _ 0 _ hw.hw (fun c hc' => by rw [List.mem_singleton.mp hc']; exact ⟨ho, hc, .inl h32⟩), e2, if_neg (fun z => key z.2), pl_skip ws hw.hw b hb]
  congr 1
theorem sub_mid {p m q : List Nat} {a b : Nat} (ha : a = p.length) (hb : b = a + m.length) : sub (p ++ (m ++ q)) a b = m := by
  unfold sub
  rw [ha, List.drop_left' rfl, show b - p.length = m.length by omega, List.take_left' rfl]
theorem lastB_of {c : Nat} {p q : List Nat} (h : ∀ x ∈ q, x ≠ c) : lastB c (p ++ c :: q) = p.length + 1 := by
  unfold lastB
  have e : (p ++ c :: q).reverse = q.reverse ++ (c :: p.reverse) := by simp
  have dw : ∀ (l r : List Nat), (∀ x ∈ l, x ≠ c) → (l ++ (c :: r)).dropWhile (fun x => !decide (x = c)) = c :: r := by
    intro l
    induction l with
    | nil => intro r _; simp [List.dropWhile]
    | cons x l ih =>
      intro r hl
      rw [List.cons_append, List.dropWhile_cons_of_pos (by rw [decide_eq_false (hl x (List.mem_cons_self ..))]; rfl)]
      exact ih r fun y hy => hl y (List.mem_cons_of_mem _ hy)
  rw [e, dw _ _ fun x hx => h x (List.mem_reverse.mp hx)]
  simp
theorem lastB_split {c : Nat} {z : List Nat} (h : 0 < lastB c z) : z = z.take (lastB c z - 1) ++ c :: z.drop (lastB c z) ∧ lastB c z ≤ z.length := by
  unfold lastB at h ⊢
  have key : ∀ l : List Nat, 0 < (l.dropWhile fun x => !decide (x = c)).length → ∃ q r, l = q ++ c :: r ∧ (l.dropWhile fun x => !decide (x = c)) = c :: r := by
    intro l
    induction l with
    | nil => intro h; simp at h
    | cons x l ih =>
      intro h
      by_cases e : x = c
      · rw [List.dropWhile_cons_of_neg (by rw [decide_eq_true e]; decide)]
        exact ⟨[], l, by rw [e]; rfl, by rw [e]⟩
      · rw [List.dropWhile_cons_of_pos (by rw [decide_eq_false e]; rfl)] at h ⊢
        obtain ⟨q, r, e1, e2⟩ := ih h
        exact ⟨x :: q, r, by rw [e1]; rfl, e2⟩
  obtain ⟨q, r, e1, e2⟩ := key _ h
  have ez : z = r.reverse ++ c :: q.reverse := by
    have := congrArg List.reverse e1
    rw [List.reverse_reverse] at this
    rw [this]
    simp
  rw [e2]
  show z = z.take (r.length + 1 - 1) ++ c :: z.drop (r.length + 1) ∧ r.length + 1 ≤ z.length
  have hr : r.length = r.reverse.length := List.length_reverse.symm
  refine ⟨?_, by rw [ez]; simp⟩
  rw [Nat.add_sub_cancel]
  conv => rhs; rw [ez]
  rw [hr, List.take_left' rfl, ← List.drop_drop, List.drop_left' rfl]
  exact ez
theorem last_cat (l : List Nat) (c : Nat) : (l ++ [c]).getLast? = some c := by simp
theorem leaf_num {n : Int} (h : n.natAbs < 10 ^ 40) : pLeaf (intL n) = some (.num n) := by
  have hnm : ¬ nmOk (intL n) = true := fun z => by
    have := (nmOk_iff.mp z).2.2
    rcases num_cons h with ⟨c, t, e, h1⟩ | ⟨c, t, e, h1⟩
    · have := this c (by rw [e]; exact List.mem_cons_self ..)
      omega
    · have := this 45 (by rw [e]; exact List.mem_cons_self ..)
      omega
  unfold pLeaf
  rw [if_neg hnm]
  have fr : Free [] := fun c e => by cases e
  by_cases h0 : 0 ≤ n
  · obtain ⟨m, rfl⟩ : ∃ m : Nat, n = (m : Int) := ⟨n.toNat, by omega⟩
    rw [intL_nat, (num_txt (m := m) (by omega) fr 0 (.inl rfl) (TL.numL m) (by rw [if_neg (by decide), List.append_nil]; rfl)).1, if_neg (by decide), Nat.zero_add]
    show (if _ then _ else _) = _
    rw [if_pos rfl]
  · obtain ⟨m, rfl, hm⟩ : ∃ m : Nat, n = -(m : Int) ∧ 1 ≤ m := ⟨(-n).toNat, by omega, by omega⟩
    rw [intL_neg hm, (num_txt (m := m) (by omega) fr 1 (.inr ⟨rfl, hm⟩) (45 :: TL.numL m) (by rw [if_pos rfl, List.append_nil]; rfl)).1, if_pos rfl]
    show (if 1 + (TL.numL m).length = (TL.numL m).length + 1 then _ else _) = _
    rw [if_pos (Nat.add_comm _ _)]
theorem leaf_rev {z : List Nat} {r : Rcp} (h : pLeaf z = some r) : z = r.txt ∧ r.Good ∧ r.dep ≤ 1 := by
  unfold pLeaf at h
  by_cases c : nmOk z = true
  · rw [if_pos c] at h
    cases h
    exact ⟨rfl, nmOk_iff.mp c, Nat.le_refl _⟩
  · rw [if_neg c] at h
    cases e : rNum z with
    | none => rw [e] at h; cases h
    | some p =>
      obtain ⟨r1, n⟩ := p
      rw [e] at h
      have h' : (if n = z.length then some r1 else none) = some r := h
      by_cases c2 : n = z.length
      · rw [if_pos c2] at h'
        cases h'
        have h1 := rNum_rev z r n e
        rw [c2, List.take_length] at h1
        refine ⟨h1, rNum_good z r n e, ?_⟩
        unfold rNum at e
        split at e
        · cases e
        · split at e
          · cases e
          · cases e; exact Nat.le_refl _
      · rw [if_neg c2] at h'; cases h'
/-! ### signs counted in the text of a recipe -/
def cnt (c : Nat) (l : List Nat) : Nat := l.countP fun x => decide (x = c)
theorem cnt_app (c : Nat) (a b : List Nat) : cnt c (a ++ b) = cnt c a + cnt c b := by unfold cnt; exact List.countP_append
theorem cnt_cons (c x : Nat) (l : List Nat) : cnt c (x :: l) = (if x = c then 1 else 0) + cnt c l := by
  unfold cnt
  rw [List.countP_cons, Nat.add_comm]
  by_cases h : x = c
  · rw [if_pos h, decide_eq_true h]; rfl
  · rw [if_neg h, decide_eq_false h]; rfl
theorem cnt_nil (c : Nat) : cnt c [] = 0 := rfl
theorem cnt_zero {c : Nat} {l : List Nat} (h : c ∉ l) : cnt c l = 0 := by
  unfold cnt
  rw [List.countP_eq_zero]
  intro x hx z
  exact h (of_decide_eq_true z ▸ hx)
theorem num_signs {n : Int} {c : Nat} (h : c ∈ intL n) : c = 45 ∨ (48 ≤ c ∧ c ≤ 57) := by
  by_cases h0 : 0 ≤ n
  · obtain ⟨m, rfl⟩ := Int.eq_ofNat_of_zero_le h0
    rw [intL_nat m] at h
    exact .inr (TL.numL_digits m c h)
  · obtain ⟨m, hm⟩ := Int.eq_ofNat_of_zero_le (show 0 ≤ -n by omega)
    rw [show n = -(m : Int) by omega, intL_neg (by omega)] at h
    rcases List.mem_cons.mp h with e | h
    · exact .inl e
    · exact .inr (TL.numL_digits m c h)
def Rcp.twos : Rcp → Nat
  | .two _ a b => a.twos + b.twos + 1
  | .pick a b c => a.twos + b.twos + c.twos
  | .choose a _ => a.twos
  | _ => 0
theorem twos_siz : ∀ r : Rcp, 2 * r.twos + 1 ≤ r.siz
  | .num _ => Nat.le_refl _
  | .read _ => Nat.le_refl _
  | .two _ a b => by
    have h1 := twos_siz a
    have h2 := twos_siz b
    show 2 * (a.twos + b.twos + 1) + 1 ≤ a.siz + b.siz + 1
    omega
  | .pick a b c => by
    have h1 := twos_siz a
    have h2 := twos_siz b
    have h3 := twos_siz c
    show 2 * (a.twos + b.twos + c.twos) + 1 ≤ a.siz + b.siz + c.siz + 1
    omega
  | .choose a _ => by
    have h1 := twos_siz a
    show 2 * a.twos + 1 ≤ a.siz + 1
    omega
/-- the opening and the closing brackets of sums -/
theorem cnt_twos {s : Nat} (hs : s = 40 ∨ s = 41) : ∀ {r : Rcp}, r.Good → cnt s r.txt = r.twos
  | .num n, _ => cnt_zero fun h => by
    rcases num_signs h with e | e <;> omega
  | .read z, hg => cnt_zero fun h => by
    have := (show Nm z from hg).2.2 s h
    omega
  | .two k a b, hg => by
    have h1 := cnt_twos hs hg.1
    have h2 := cnt_twos hs hg.2
    have hk : ¬ k.sign = s := by cases k <;> rcases hs with rfl | rfl <;> decide
    show cnt s (40 :: (a.txt ++ (32 :: k.sign :: 32 :: (b.txt ++ [41])))) = a.twos + b.twos + 1
    simp only [cnt_cons, cnt_app, cnt_nil, h1, h2, if_neg hk]
    rcases hs with rfl | rfl
    · simp; omega
    · simp; omega
  | .pick a b c, hg => by
    have h1 := cnt_twos hs hg.1
    have h2 := cnt_twos hs hg.2.1
    have h3 := cnt_twos hs hg.2.2
    show cnt s (91 :: (a.txt ++ (32 :: 63 :: 32 :: (b.txt ++ (32 :: 58 :: 32 :: (c.txt ++ [93])))))) = a.twos + b.twos + c.twos
    simp only [cnt_cons, cnt_app, cnt_nil, h1, h2, h3]
    rcases hs with rfl | rfl
    · simp; omega
    · simp; omega
  | .choose a ns, hg => by
    have h1 := cnt_twos hs hg.1
    have hn : cnt s (TL.joinL [44] ns) = 0 := cnt_zero fun h => by
      have z := names_signs hg.2.2.2 s h
      rcases hs with rfl | rfl
      · revert z; decide
      · revert z; decide
    show cnt s (a.txt ++ (123 :: (TL.joinL [44] ns ++ [125]))) = a.twos
    simp only [cnt_cons, cnt_app, cnt_nil, h1, hn]
    rcases hs with rfl | rfl <;> rfl
/-- brackets ahead go no deeper than the recipe -/
def lead (s : Nat) (l : List Nat) : Nat := (l.takeWhile fun x => decide (x = s)).length
theorem lead_hit (s : Nat) (l : List Nat) : lead s (s :: l) = lead s l + 1 := by
  unfold lead
  rw [List.takeWhile_cons, if_pos (decide_eq_true rfl)]
  rfl
theorem lead_miss {s c : Nat} (h : c ≠ s) (l : List Nat) : lead s (c :: l) = 0 := by
  unfold lead
  rw [List.takeWhile_cons, if_neg (fun z => h (of_decide_eq_true z))]
  rfl
theorem txt_head_num (n : Int) : ∃ c l, intL n = c :: l ∧ (c = 45 ∨ (48 ≤ c ∧ c ≤ 57)) := by
  cases e : intL n with
  | nil =>
    by_cases h0 : 0 ≤ n
    · obtain ⟨m, rfl⟩ := Int.eq_ofNat_of_zero_le h0
      rw [intL_nat m] at e
      exact absurd e (TL.numL_ne _)
    · obtain ⟨m, hm⟩ := Int.eq_ofNat_of_zero_le (show 0 ≤ -n by omega)
      rw [show n = -(m : Int) by omega, intL_neg (by omega)] at e
      cases e
  | cons c l => exact ⟨c, l, rfl, num_signs (n := n) (by rw [e]; exact List.mem_cons_self ..)⟩
theorem lead_dep {s : Nat} (hs : s = 40 ∨ s = 91) : ∀ {r : Rcp}, r.Good → ∀ rest, lead s (r.txt ++ rest) + 1 ≤ r.dep
  | .num n, _, rest => by
    obtain ⟨c, l, e, hc⟩ := txt_head_num n
    show lead s (intL n ++ rest) + 1 ≤ 1
    rw [e]
    show lead s (c :: (l ++ rest)) + 1 ≤ 1
    rw [lead_miss (by omega)]
    exact Nat.le_refl 1
  | .read z, hg, rest => by
    have hz : Nm z := hg
    show lead s (z ++ rest) + 1 ≤ 1
    cases z with
    | nil => exact absurd hz.1 (by decide)
    | cons c l =>
      have hc := hz.2.2 c (List.mem_cons_self ..)
      show lead s (c :: (l ++ rest)) + 1 ≤ 1
      rw [lead_miss (by omega)]
      exact Nat.le_refl 1
  | .two k a b, hg, rest => by
    have h1 := lead_dep hs hg.1 ((32 :: k.sign :: 32 :: (b.txt ++ [41])) ++ rest)
    have e : (Rcp.two k a b).txt ++ rest = 40 :: (a.txt ++ ((32 :: k.sign :: 32 :: (b.txt ++ [41])) ++ rest)) := by
      show 40 :: (a.txt ++ (32 :: k.sign :: 32 :: (b.txt ++ [41]))) ++ rest = _
      simp
    rw [e]
    show _ ≤ max a.dep b.dep + 1
    rcases hs with rfl | rfl
    · rw [lead_hit]
      omega
    · rw [lead_miss (by decide)]
      omega
  | .pick a b c, hg, rest => by
    have h1 := lead_dep hs hg.1 ((32 :: 63 :: 32 :: (b.txt ++ (32 :: 58 :: 32 :: (c.txt ++ [93])))) ++ rest)
    have e : (Rcp.pick a b c).txt ++ rest = 91 :: (a.txt ++ ((32 :: 63 :: 32 :: (b.txt ++ (32 :: 58 :: 32 :: (c.txt ++ [93])))) ++ rest)) := by
      show 91 :: (a.txt ++ (32 :: 63 :: 32 :: (b.txt ++ (32 :: 58 :: 32 :: (c.txt ++ [93]))))) ++ rest = _
      simp
    rw [e]
    show _ ≤ max a.dep (max b.dep c.dep) + 1
    rcases hs with rfl | rfl
    · rw [lead_miss (by decide)]
      omega
    · rw [lead_hit]
      omega
  | .choose a ns, hg, rest => by
    have h1 := lead_dep hs hg.1 ((123 :: (TL.joinL [44] ns ++ [125])) ++ rest)
    have e : (Rcp.choose a ns).txt ++ rest = a.txt ++ ((123 :: (TL.joinL [44] ns ++ [125])) ++ rest) := by
      show (a.txt ++ (123 :: (TL.joinL [44] ns ++ [125]))) ++ rest = _
      rw [List.append_assoc]
    rw [e]
    show _ ≤ a.dep + 1
    omega
/-- of what is a recipe: no deeper than 8 -/
theorem rcp_dep : ∀ (n : Nat) {r : Rcp}, r.Good → r.th.okay n = true → r.dep ≤ n
  | 0, r, _, h => by cases h
  | n + 1, r, hg, h => by
    have hp := r.parts_th hg
    have h' : (match r.th.parts with | none => false | some ps => ps.all (Th.okay n)) = true := h
    rw [hp] at h'
    have h2 : (r.subs.map Rcp.th).all (Th.okay n) = true := h'
    rw [List.all_map, List.all_eq_true] at h2
    have key : ∀ x ∈ r.subs, x.dep ≤ n := fun x hx => rcp_dep n (r.subs_good hg x hx).1 (h2 x hx)
    cases r with
    | num _ => exact Nat.le_add_left 1 n
    | read _ => exact Nat.le_add_left 1 n
    | two k a b =>
      have h1 := key a (by simp [Rcp.subs])
      have h2 := key b (by simp [Rcp.subs])
      show max a.dep b.dep + 1 ≤ n + 1
      omega
    | pick a b c =>
      have h1 := key a (by simp [Rcp.subs])
      have h2 := key b (by simp [Rcp.subs])
      have h3 := key c (by simp [Rcp.subs])
      show max a.dep (max b.dep c.dep) + 1 ≤ n + 1
      omega
    | choose a ns =>
      have h1 := key a (by simp [Rcp.subs])
      show a.dep + 1 ≤ n + 1
      omega
theorem rcp_is {r : Rcp} (hg : r.Good) (h : r.th.isRcp = true) : r.dep ≤ 8 ∧ r.siz ≤ 100 := by
  have h' : (r.th.okay 8 && decide (r.th.count 8 ≤ 100)) = true := h
  rw [Bool.and_eq_true, decide_eq_true_eq] at h'
  have hd := rcp_dep 8 hg h'.1
  have := (Rcp.okay 8 hg hd).2
  exact ⟨hd, by omega⟩
/-- without brackets a recipe is a row of chooses -/
theorem cnt_choose : ∀ {r : Rcp}, r.Good → 40 ∉ r.txt → 91 ∉ r.txt → cnt 123 r.txt + 1 = r.dep
  | .num n, _, _, _ => by
    have e : cnt 123 (intL n) = 0 := cnt_zero fun h => by
      rcases num_signs h with e | e <;> omega
    show cnt 123 (intL n) + 1 = 1
    rw [e]
  | .read z, hg, _, _ => by
    have e : cnt 123 z = 0 := cnt_zero fun h => by
      have := (show Nm z from hg).2.2 123 h
      omega
    show cnt 123 z + 1 = 1
    rw [e]
  | .two k a b, _, h, _ => absurd (List.mem_cons_self ..) h
  | .pick a b c, _, _, h => absurd (List.mem_cons_self ..) h
  | .choose a ns, hg, h1, h2 => by
    have e1 : (Rcp.choose a ns).txt = a.txt ++ (123 :: (TL.joinL [44] ns ++ [125])) := rfl
    have ih := cnt_choose hg.1 (fun z => h1 (by rw [e1]; exact List.mem_append_left _ z)) (fun z => h2 (by rw [e1]; exact List.mem_append_left _ z))
    have hn : cnt 123 (TL.joinL [44] ns) = 0 := cnt_zero fun h => by
      have z := names_signs hg.2.2.2 123 h
      revert z
      decide
    show cnt 123 (a.txt ++ (123 :: (TL.joinL [44] ns ++ [125]))) + 1 = a.dep + 1
    rw [cnt_app, cnt_cons, cnt_app, hn, ← ih]
    rfl
/-- of letters alone there are only names -/
theorem letters_only {r : Rcp} (hg : r.Good) (h : ∀ c ∈ r.txt, isLt c = true) : r.txt.length ≤ 8 := by
  cases r with
  | num n =>
    obtain ⟨c, l, e, hc⟩ := txt_head_num n
    have e' : (Rcp.num n).txt = c :: l := e
    have z := h c (by rw [e']; exact List.mem_cons_self ..)
    rw [lt_not (by omega)] at z
    cases z
  | read z => exact (show Nm z from hg).2.1
  | two k a b => exact absurd (h 40 (List.mem_cons_self ..)) (by decide)
  | pick a b c => exact absurd (h 91 (List.mem_cons_self ..)) (by decide)
  | choose a ns =>
    have e1 : (Rcp.choose a ns).txt = a.txt ++ (123 :: (TL.joinL [44] ns ++ [125])) := rfl
    exact absurd (h 123 (by rw [e1]; exact List.mem_append_right _ (List.mem_cons_self ..))) (by decide)
/-- what is no recipe's text is refused -/
theorem refused {T : List Nat} (h : ∀ r : Rcp, r.Good → r.dep ≤ 8 → r.siz ≤ 100 → T ≠ r.txt) : rRead (.str T) = none := by
  cases e : rRead (.str T) with
  | none => rfl
  | some r =>
    obtain ⟨h1, h2, h3⟩ := rRead_rev e
    obtain ⟨h4, h5⟩ := rcp_is h2 h3
    exact absurd h1 (h r h2 h4 h5)
theorem refused_lead {s : Nat} (hs : s = 40 ∨ s = 91) {T : List Nat} (h : 8 ≤ lead s T) : rRead (.str T) = none := refused fun r hg hd _ e => by
  have := lead_dep hs hg []
  rw [List.append_nil, ← e] at this
  omega
theorem refused_many {T : List Nat} (h : 50 ≤ cnt 40 T) : rRead (.str T) = none := refused fun r hg _ hz e => by
  have h1 := cnt_twos (.inl rfl) hg
  have h2 := twos_siz r
  rw [← e] at h1
  omega
theorem refused_choose {T : List Nat} (h1 : 40 ∉ T) (h2 : 91 ∉ T) (h : 8 ≤ cnt 123 T) : rRead (.str T) = none := refused fun r hg hd _ e => by
  have := cnt_choose hg (by rw [← e]; exact h1) (by rw [← e]; exact h2)
  rw [← e] at this
  omega
theorem refused_letters {T : List Nat} (h : ∀ c ∈ T, isLt c = true) (hl : 9 ≤ T.length) : rRead (.str T) = none := refused fun r hg _ _ e => by
  have := letters_only hg (by rw [← e]; exact h)
  rw [← e] at this
  omega
/-! ### a recipe's text is parsed to it; what is parsed to a recipe is its text -/
theorem at_mid {p q : List Nat} {c i : Nat} (h : i = p.length) : (p ++ (c :: q))[i]? = some c := by
  rw [h, List.getElem?_append_right (Nat.le_refl _), Nat.sub_self]
  rfl
theorem pTwo_some {p : List Nat → Option Rcp} {z : List Nat} {a : Nat} {x y : Rcp} {k : Kd} (h1 : p (sub z 1 (a + 1)) = some x) (h2 : p (sub z (a + 4) (z.length - 1)) = some y) (h3 : twoWord (sub z (a + 1) (a + 4)) = some k) : pTwo p z [a] = some (.two k x y) := by
  show (match p (sub z 1 (a + 1)), p (sub z (a + 4) (z.length - 1)), twoWord (sub z (a + 1) (a + 4)) with | some x, some y, some k => some (Rcp.two k x y) | _, _, _ => none) = _
  rw [h1, h2, h3]
theorem pPick_some {p : List Nat → Option Rcp} {z : List Nat} {a b : Nat} {x y w : Rcp} (h1 : p (sub z 1 (a + 1)) = some x) (h2 : p (sub z (a + 4) (b + 1)) = some y) (h3 : p (sub z (b + 4) (z.length - 1)) = some w) (h4 : z[a + 2]? = some 63 ∧ z[b + 2]? = some 58) : pPick p z [a, b] = some (.pick x y w) := by
  show (match p (sub z 1 (a + 1)), p (sub z (a + 4) (b + 1)), p (sub z (b + 4) (z.length - 1)) with | some x, some y, some w => if z[a + 2]? = some 63 ∧ z[b + 2]? = some 58 then some (Rcp.pick x y w) else none | _, _, _ => none) = _
  rw [h1, h2, h3]
  show (if _ then _ else _) = _
  rw [if_pos h4]
theorem parse_txt : ∀ (n : Nat) (r : Rcp), r.Good → r.dep ≤ n → pParse n r.txt = some r
  | 0, r, _, h => by have := dep_pos r; omega
  | n + 1, r, hg, hd => by
    have hne := txt_ne hg
    show (if r.txt = [] then none else if r.txt.getLast? = some 125 then pChoose (pParse n) r.txt else if 2 < r.txt.length ∧ ((r.txt.head? = some 40 ∧ r.txt.getLast? = some 41) ∨ (r.txt.head? = some 91 ∧ r.txt.getLast? = some 93)) then pParted (pParse n) r.txt else pLeaf r.txt) = some r
    rw [if_neg hne]
    cases r with
    | num m =>
      have hl : ∀ c, (intL m).getLast? = some c → c = 45 ∨ (48 ≤ c ∧ c ≤ 57) := fun c e => plain_num hg c (List.mem_of_getLast? e)
      show (if (intL m).getLast? = some 125 then _ else if 2 < (intL m).length ∧ (((intL m).head? = some 40 ∧ (intL m).getLast? = some 41) ∨ ((intL m).head? = some 91 ∧ (intL m).getLast? = some 93)) then _ else pLeaf (intL m)) = _
      rw [if_neg (fun z => by have := hl _ z; omega), if_neg (fun z => by
        rcases z.2 with z | z
        · have := hl _ z.2; omega
        · have := hl _ z.2; omega)]
      exact leaf_num hg
    | read s =>
      have hl : ∀ c, s.getLast? = some c → 97 ≤ c ∧ c ≤ 122 := fun c e => hg.2.2 c (List.mem_of_getLast? e)
      show (if s.getLast? = some 125 then _ else if 2 < s.length ∧ ((s.head? = some 40 ∧ s.getLast? = some 41) ∨ (s.head? = some 91 ∧ s.getLast? = some 93)) then _ else pLeaf s) = _
      rw [if_neg (fun z => by have := hl _ z; omega), if_neg (fun z => by
        rcases z.2 with z | z
        · have := hl _ z.2; omega
        · have := hl _ z.2; omega)]
      unfold pLeaf
      rw [if_pos (nmOk_iff.mpr hg)]
    | two k x y =>
      have hd1 : x.dep ≤ n ∧ y.dep ≤ n := by
        have e : (Rcp.two k x y).dep = max x.dep y.dep + 1 := rfl
        omega
      have ez : (Rcp.two k x y).txt = [40] ++ ((x.txt ++ ([32, k.sign, 32] ++ y.txt)) ++ [41]) := by
        show 40 :: (x.txt ++ (32 :: k.sign :: 32 :: (y.txt ++ [41]))) = _
        simp
      have el : (Rcp.two k x y).txt.length = x.txt.length + y.txt.length + 5 := by rw [ez]; simp <;> omega
      have lst : (Rcp.two k x y).txt.getLast? = some 41 := by rw [ez, ← List.append_assoc]; exact last_cat _ _
      have hdd : (Rcp.two k x y).txt.head? = some 40 := by rw [ez]; rfl
      have s0 : sub (Rcp.two k x y).txt 1 ((Rcp.two k x y).txt.length - 1) = x.txt ++ ([32, k.sign, 32] ++ y.txt) := by
        rw [el, ez]
        exact sub_mid rfl (by simp <;> omega)
      have s1 : sub (Rcp.two k x y).txt 1 (x.txt.length + 1) = x.txt := by
        rw [ez, List.append_assoc x.txt]
        exact sub_mid rfl (by omega)
      have s2 : sub (Rcp.two k x y).txt (x.txt.length + 4) ((Rcp.two k x y).txt.length - 1) = y.txt := by
        rw [el, ez, show [40] ++ ((x.txt ++ ([32, k.sign, 32] ++ y.txt)) ++ [41]) = ([40] ++ (x.txt ++ [32, k.sign, 32])) ++ (y.txt ++ [41]) by simp]
        exact sub_mid (by simp <;> omega) (by omega)
      have s3 : sub (Rcp.two k x y).txt (x.txt.length + 1) (x.txt.length + 4) = [32, k.sign, 32] := by
        rw [ez, show [40] ++ ((x.txt ++ ([32, k.sign, 32] ++ y.txt)) ++ [41]) = ([40] ++ x.txt) ++ ([32, k.sign, 32] ++ (y.txt ++ [41])) by simp]
        exact sub_mid (by simp <;> omega) rfl
      rw [if_neg (fun z => by rw [lst] at z; exact absurd (Option.some.inj z) (by decide)), if_pos ⟨by omega, .inl ⟨hdd, lst⟩⟩]
      unfold pParted
      rw [if_neg (fun z => by rw [lst] at z; exact absurd (Option.some.inj z) (by decide)), s0, pl_skip wsT wskT.hw x hg.1]
      have hs := pl_sign wskT (s := k.sign) (by cases k <;> decide) (by cases k <;> rfl) (by cases k <;> rfl) (by cases k <;> decide) y hg.2 [] (0 + x.txt.length) []
      rw [List.append_nil] at hs
      rw [show [32, k.sign, 32] ++ y.txt = 32 :: k.sign :: 32 :: y.txt from rfl, hs]
      show pTwo (pParse n) _ ([] ++ [0 + x.txt.length]) = _
      rw [Nat.zero_add]
      exact pTwo_some (by rw [s1]; exact parse_txt n x hg.1 hd1.1) (by rw [s2]; exact parse_txt n y hg.2 hd1.2) (by rw [s3]; exact sign_word k)
    | pick x y w =>
      have hd1 : x.dep ≤ n ∧ y.dep ≤ n ∧ w.dep ≤ n := by
        have e : (Rcp.pick x y w).dep = max x.dep (max y.dep w.dep) + 1 := rfl
        omega
      have ez : (Rcp.pick x y w).txt = [91] ++ ((x.txt ++ ([32, 63, 32] ++ (y.txt ++ ([32, 58, 32] ++ w.txt)))) ++ [93]) := by
        show 91 :: (x.txt ++ (32 :: 63 :: 32 :: (y.txt ++ (32 :: 58 :: 32 :: (w.txt ++ [93]))))) = _
        simp
      have el : (Rcp.pick x y w).txt.length = x.txt.length + y.txt.length + w.txt.length + 8 := by rw [ez]; simp <;> omega
      have lst : (Rcp.pick x y w).txt.getLast? = some 93 := by rw [ez, ← List.append_assoc]; exact last_cat _ _
      have hdd : (Rcp.pick x y w).txt.head? = some 91 := by rw [ez]; rfl
      have s0 : sub (Rcp.pick x y w).txt 1 ((Rcp.pick x y w).txt.length - 1) = x.txt ++ ([32, 63, 32] ++ (y.txt ++ ([32, 58, 32] ++ w.txt))) := by
        rw [el, ez]
        exact sub_mid rfl (by simp <;> omega)
      have s1 : sub (Rcp.pick x y w).txt 1 (x.txt.length + 1) = x.txt := by
        rw [ez, List.append_assoc x.txt]
        exact sub_mid rfl (by omega)
      have s2 : sub (Rcp.pick x y w).txt (x.txt.length + 4) (x.txt.length + 3 + y.txt.length + 1) = y.txt := by
        rw [ez, show [91] ++ ((x.txt ++ ([32, 63, 32] ++ (y.txt ++ ([32, 58, 32] ++ w.txt)))) ++ [93]) = ([91] ++ (x.txt ++ [32, 63, 32])) ++ (y.txt ++ ([32, 58, 32] ++ (w.txt ++ [93]))) by simp]
        exact sub_mid (by simp <;> omega) (by omega)
      have s3 : sub (Rcp.pick x y w).txt (x.txt.length + 3 + y.txt.length + 4) ((Rcp.pick x y w).txt.length - 1) = w.txt := by
        rw [el, ez, show [91] ++ ((x.txt ++ ([32, 63, 32] ++ (y.txt ++ ([32, 58, 32] ++ w.txt)))) ++ [93]) = ([91] ++ (x.txt ++ ([32, 63, 32] ++ (y.txt ++ [32, 58, 32])))) ++ (w.txt ++ [93]) by simp]
        exact sub_mid (by simp <;> omega) (by omega)
      have g1 : (Rcp.pick x y w).txt[x.txt.length + 2]? = some 63 := by
        rw [ez, show [91] ++ ((x.txt ++ ([32, 63, 32] ++ (y.txt ++ ([32, 58, 32] ++ w.txt)))) ++ [93]) = ([91] ++ (x.txt ++ [32])) ++ (63 :: ([32] ++ (y.txt ++ ([32, 58, 32] ++ (w.txt ++ [93]))))) by simp]
        exact at_mid (by simp <;> omega)
      have g2 : (Rcp.pick x y w).txt[x.txt.length + 3 + y.txt.length + 2]? = some 58 := by
        rw [ez, show [91] ++ ((x.txt ++ ([32, 63, 32] ++ (y.txt ++ ([32, 58, 32] ++ w.txt)))) ++ [93]) = ([91] ++ (x.txt ++ ([32, 63, 32] ++ (y.txt ++ [32])))) ++ (58 :: ([32] ++ (w.txt ++ [93]))) by simp]
        exact at_mid (by simp <;> omega)
      rw [if_neg (fun z => by rw [lst] at z; exact absurd (Option.some.inj z) (by decide)), if_pos ⟨by omega, .inr ⟨hdd, lst⟩⟩]
      unfold pParted
      rw [if_pos lst, s0, pl_skip wsP wskP.hw x hg.1]
      have hs1 := pl_sign wskP (s := 63) (by decide) rfl rfl (by decide) y hg.2.1 ([32, 58, 32] ++ w.txt) (0 + x.txt.length) []
      have hs2 := pl_sign wskP (s := 58) (by decide) rfl rfl (by decide) w hg.2.2 [] (0 + x.txt.length + 3 + y.txt.length) ([] ++ [0 + x.txt.length])
      rw [List.append_nil] at hs2
      rw [show [32, 63, 32] ++ (y.txt ++ ([32, 58, 32] ++ w.txt)) = 32 :: 63 :: 32 :: (y.txt ++ ([32, 58, 32] ++ w.txt)) from rfl, hs1, show [32, 58, 32] ++ w.txt = 32 :: 58 :: 32 :: w.txt from rfl, hs2]
      show pPick (pParse n) _ [0 + x.txt.length, 0 + x.txt.length + 3 + y.txt.length] = _
      rw [Nat.zero_add]
      exact pPick_some (by rw [s1]; exact parse_txt n x hg.1 hd1.1) (by rw [s2]; exact parse_txt n y hg.2.1 hd1.2.1) (by rw [s3]; exact parse_txt n w hg.2.2 hd1.2.2) ⟨g1, g2⟩
    | choose x ns =>
      have hd1 : x.dep ≤ n := by
        have e : (Rcp.choose x ns).dep = x.dep + 1 := rfl
        omega
      have ez : (Rcp.choose x ns).txt = x.txt ++ 123 :: (TL.joinL [44] ns ++ [125]) := rfl
      have lst : (Rcp.choose x ns).txt.getLast? = some 125 := by rw [ez, show x.txt ++ 123 :: (TL.joinL [44] ns ++ [125]) = (x.txt ++ 123 :: TL.joinL [44] ns) ++ [125] by simp]; exact last_cat _ _
      have el : (Rcp.choose x ns).txt.length = x.txt.length + (TL.joinL [44] ns).length + 2 := by rw [ez]; simp <;> omega
      have hlb : lastB 123 (Rcp.choose x ns).txt = x.txt.length + 1 := by
        rw [ez]
        refine lastB_of fun c hc => ?_
        rcases List.mem_append.mp hc with h | h
        · have := plain_names hg.2.2.2 c h
          omega
        · rw [List.mem_singleton.mp h]; decide
      have hx1 : 1 ≤ x.txt.length := by
        cases e : x.txt with
        | nil => exact absurd e (txt_ne hg.1)
        | cons a b => exact Nat.succ_le_succ (Nat.zero_le _)
      have s1 : sub (Rcp.choose x ns).txt (x.txt.length + 1) ((Rcp.choose x ns).txt.length - 1) = TL.joinL [44] ns := by
        rw [el, ez, show x.txt ++ 123 :: (TL.joinL [44] ns ++ [125]) = (x.txt ++ [123]) ++ (TL.joinL [44] ns ++ [125]) by simp]
        exact sub_mid (by simp) (by omega)
      rw [if_pos lst]
      unfold pChoose
      rw [hlb, if_pos (by omega), s1, spl_names hg.2, show (Rcp.choose x ns).txt.take (x.txt.length + 1 - 1) = x.txt by rw [ez, Nat.add_sub_cancel, List.take_left' rfl], parse_txt n x hg.1 hd1]
      show (if _ then _ else _) = _
      rw [if_pos ⟨hg.2.2.1, List.all_eq_true.mpr fun s hs => nmOk_iff.mpr (hg.2.2.2 s hs)⟩]
theorem pl_mem (ws : List (List Nat)) : ∀ (l : List Nat) (a lv : Nat) (acc : List Nat) (p : Nat), p ∈ plGo ws l a lv acc → p ∈ acc ∨ (a ≤ p ∧ (l.drop (p - a)).take 3 ∈ ws)
  | [], _, _, _, _, h => .inl h
  | c :: r, a, lv, acc, p, h => by
    have h' : p ∈ (match lvS lv c with | none => [] | some l => plGo ws r (a + 1) l (if l = 0 ∧ (c :: r).take 3 ∈ ws then acc ++ [a] else acc)) := h
    cases e : lvS lv c with
    | none => rw [e] at h'; cases h'
    | some l =>
      rw [e] at h'
      rcases pl_mem ws r (a + 1) l _ p h' with h1 | ⟨h1, h2⟩
      · by_cases c1 : l = 0 ∧ (c :: r).take 3 ∈ ws
        · rw [if_pos c1] at h1
          rcases List.mem_append.mp h1 with h3 | h3
          · exact .inl h3
          · rw [List.mem_singleton.mp h3]
            refine .inr ⟨Nat.le_refl _, ?_⟩
            rw [Nat.sub_self, List.drop_zero]
            exact c1.2
        · rw [if_neg c1] at h1
          exact .inl h1
      · refine .inr ⟨by omega, ?_⟩
        rw [show p - a = (p - (a + 1)) + 1 by omega, List.drop_succ_cons]
        exact h2
theorem bracket_split {z : List Nat} {o c : Nat} (h2 : 2 < z.length) (ho : z.head? = some o) (hc : z.getLast? = some c) : z = o :: (sub z 1 (z.length - 1) ++ [c]) := by
  cases z with
  | nil => cases ho
  | cons x l =>
    have hxo : x = o := Option.some.inj ho
    subst hxo
    have hl : l ≠ [] := fun e => by rw [e] at h2; simp at h2
    have e1 : l = l.dropLast ++ [l.getLast hl] := (List.dropLast_concat_getLast hl).symm
    have e2 : l.getLast hl = c := by
      rw [List.getLast?_cons] at hc
      have := Option.some.inj hc
      rw [List.getLast?_eq_getLast hl] at this
      exact this
    have e3 : sub (x :: l) 1 ((x :: l).length - 1) = l.dropLast := by
      unfold sub
      rw [List.drop_succ_cons, List.drop_zero, List.dropLast_eq_take]
      congr 1
    rw [e3, ← e2]
    congr 1
theorem sub_pre {o c a : Nat} {M : List Nat} (h : a ≤ M.length) : sub (o :: (M ++ [c])) 1 (a + 1) = M.take a := by
  unfold sub
  rw [List.drop_succ_cons, List.drop_zero, Nat.add_sub_cancel, List.take_append_of_le_length h]
theorem sub_in {o c a b : Nat} {M : List Nat} (h1 : a ≤ b) (h : b ≤ M.length) : sub (o :: (M ++ [c])) (a + 1) (b + 1) = (M.drop a).take (b - a) := by
  unfold sub
  rw [List.drop_succ_cons, List.drop_append_of_le_length (by omega), List.take_append_of_le_length (by rw [List.length_drop]; omega), show b + 1 - (a + 1) = b - a by omega]
theorem sub_post {o c b : Nat} {M : List Nat} (h : b ≤ M.length) : sub (o :: (M ++ [c])) (b + 1) (M.length + 1) = M.drop b := by
  rw [sub_in h (Nat.le_refl _), List.take_of_length_le (by rw [List.length_drop]; exact Nat.le_refl _)]
theorem parse_rev : ∀ (n : Nat) (z : List Nat) (r : Rcp), pParse n z = some r → z = r.txt ∧ r.Good ∧ r.dep ≤ n
  | 0, _, _, h => by cases h
  | n + 1, z, r, h => by
    have h' : (if z = [] then none else if z.getLast? = some 125 then pChoose (pParse n) z else if 2 < z.length ∧ ((z.head? = some 40 ∧ z.getLast? = some 41) ∨ (z.head? = some 91 ∧ z.getLast? = some 93)) then pParted (pParse n) z else pLeaf z) = some r := h
    by_cases c0 : z = []
    · rw [if_pos c0] at h'; cases h'
    rw [if_neg c0] at h'
    by_cases c1 : z.getLast? = some 125
    · rw [if_pos c1] at h'
      unfold pChoose at h'
      by_cases c2 : 1 < lastB 123 z
      · rw [if_pos c2] at h'
        cases e : pParse n (z.take (lastB 123 z - 1)) with
        | none => rw [e] at h'; cases h'
        | some x =>
          rw [e] at h'
          obtain ⟨i1, i2, i3⟩ := parse_rev n _ _ e
          have h3 : (if (TL.spl [44] 0 [] (sub z (lastB 123 z) (z.length - 1))).length ≤ 9 ∧ (TL.spl [44] 0 [] (sub z (lastB 123 z) (z.length - 1))).all nmOk = true then some (Rcp.choose x (TL.spl [44] 0 [] (sub z (lastB 123 z) (z.length - 1)))) else none) = some r := h'
          by_cases c3 : (TL.spl [44] 0 [] (sub z (lastB 123 z) (z.length - 1))).length ≤ 9 ∧ (TL.spl [44] 0 [] (sub z (lastB 123 z) (z.length - 1))).all nmOk = true
          · rw [if_pos c3] at h3
            cases h3
            obtain ⟨j1, j2⟩ := lastB_split (c := 123) (z := z) (by omega)
            have hlt : lastB 123 z < z.length := by
              rcases Nat.lt_or_ge (lastB 123 z) z.length with h | h
              · exact h
              · rw [List.drop_eq_nil_of_le h] at j1
                rw [j1] at c1
                simp at c1
            have hd : z.drop (lastB 123 z) = sub z (lastB 123 z) (z.length - 1) ++ [125] := by
              have hne : z.drop (lastB 123 z) ≠ [] := fun e => by
                have := congrArg List.length e
                rw [List.length_drop] at this
                simp at this
                omega
              have e1 := (List.dropLast_concat_getLast hne).symm
              have e2 : (z.drop (lastB 123 z)).getLast hne = 125 := by
                have e3 : z.getLast? = (z.drop (lastB 123 z)).getLast? := by
                  conv => lhs; rw [j1]
                  rw [List.getLast?_append, List.getLast?_cons]
                  rw [List.getLast?_eq_getLast hne]
                  rfl
                rw [c1, List.getLast?_eq_getLast hne] at e3
                exact (Option.some.inj e3).symm
              rw [e1, e2]
              congr 1
              unfold sub
              rw [List.dropLast_eq_take, List.length_drop]
              congr 1
              omega
            have hj := join_spl (sub z (lastB 123 z) (z.length - 1)) []
            rw [List.nil_append] at hj
            refine ⟨?_, ⟨i2, ?_, c3.1, fun s hs => nmOk_iff.mp (List.all_eq_true.mp c3.2 s hs)⟩, Nat.succ_le_succ i3⟩
            · show z = x.txt ++ (123 :: (TL.joinL [44] (TL.spl [44] 0 [] (sub z (lastB 123 z) (z.length - 1))) ++ [125]))
              rw [hj, ← i1, ← hd]
              exact j1
            · cases e5 : TL.spl [44] 0 [] (sub z (lastB 123 z) (z.length - 1)) with
              | nil => exact absurd e5 (spl_some _ _)
              | cons a b => exact Nat.succ_le_succ (Nat.zero_le _)
          · rw [if_neg c3] at h3; cases h3
      · rw [if_neg c2] at h'; cases h'
    rw [if_neg c1] at h'
    by_cases c2 : 2 < z.length ∧ ((z.head? = some 40 ∧ z.getLast? = some 41) ∨ (z.head? = some 91 ∧ z.getLast? = some 93))
    · rw [if_pos c2] at h'
      unfold pParted at h'
      obtain ⟨M, hM⟩ : ∃ M, M = sub z 1 (z.length - 1) := ⟨_, rfl⟩
      -- a window of three
      have win : ∀ {ws : List (List Nat)} {a : Nat}, Wsk ws → a ∈ plGo ws M 0 0 [] → ∃ c, (M.drop a).take 3 = [32, c, 32] ∧ [32, c, 32] ∈ ws ∧ a + 3 ≤ M.length ∧ M = M.take a ++ ([32, c, 32] ++ M.drop (a + 3)) := fun {ws a} hw ha => by
        rcases pl_mem ws M 0 0 [] a ha with h | ⟨_, h⟩
        · cases h
        · rw [Nat.sub_zero] at h
          obtain ⟨c, e, _⟩ := hw _ h
          have hl := congrArg List.length e
          rw [List.length_take, List.length_drop] at hl
          have hl' : min 3 (M.length - a) = 3 := hl
          refine ⟨c, e, by rw [← e]; exact h, by omega, ?_⟩
          rw [← e, ← List.drop_drop, List.take_append_drop, List.take_append_drop]
      rcases c2.2 with ⟨k1, k2⟩ | ⟨k1, k2⟩
      · rw [if_neg (fun z' => by rw [k2] at z'; exact absurd (Option.some.inj z') (by decide)), ← hM] at h'
        have hz := bracket_split c2.1 k1 k2
        rw [← hM] at hz
        cases ep : plGo wsT M 0 0 [] with
        | nil => rw [ep] at h'; cases h'
        | cons a l =>
          cases l with
          | cons b l => rw [ep] at h'; cases h'
          | nil =>
            rw [ep] at h'
            obtain ⟨c, w1, w2, w3, w4⟩ := win wskT (a := a) (by rw [ep]; exact List.mem_cons_self ..)
            have h3 : (match pParse n (sub z 1 (a + 1)), pParse n (sub z (a + 4) (z.length - 1)), twoWord (sub z (a + 1) (a + 4)) with | some x, some y, some k => some (Rcp.two k x y) | _, _, _ => none) = some r := h'
            have hzl : z.length = M.length + 2 := (congrArg List.length hz).trans (by simp)
            have s1 : sub z 1 (a + 1) = M.take a := by rw [hz]; exact sub_pre (by omega)
            have s2 : sub z (a + 4) (z.length - 1) = M.drop (a + 3) := by rw [hzl, hz]; exact sub_post w3
            have s3 : sub z (a + 1) (a + 4) = [32, c, 32] := by rw [← w1, hz]; exact (sub_in (by omega) w3).trans (by rw [show a + 3 - a = 3 by omega])
            rw [s1, s2, s3] at h3
            cases e1 : pParse n (M.take a) with
            | none => rw [e1] at h3; cases h3
            | some x =>
              cases e2 : pParse n (M.drop (a + 3)) with
              | none => rw [e1, e2] at h3; cases h3
              | some y =>
                cases e3 : twoWord [32, c, 32] with
                | none => rw [e1, e2, e3] at h3; cases h3
                | some k =>
                  rw [e1, e2, e3] at h3
                  cases h3
                  obtain ⟨i1, i2, i3⟩ := parse_rev n _ _ e1
                  obtain ⟨j1, j2, j3⟩ := parse_rev n _ _ e2
                  refine ⟨?_, ⟨i2, j2⟩, by show max x.dep y.dep + 1 ≤ n + 1; omega⟩
                  show z = 40 :: (x.txt ++ (32 :: k.sign :: 32 :: (y.txt ++ [41])))
                  rw [hz, w4, two_sign e3, i1, j1]
                  simp
      · rw [if_pos k2, ← hM] at h'
        have hz := bracket_split c2.1 k1 k2
        rw [← hM] at hz
        have hzl : z.length = M.length + 2 := (congrArg List.length hz).trans (by simp)
        cases ep : plGo wsP M 0 0 [] with
        | nil => rw [ep] at h'; cases h'
        | cons a l =>
          cases l with
          | nil => rw [ep] at h'; cases h'
          | cons b l =>
            cases l with
            | cons d l => rw [ep] at h'; cases h'
            | nil =>
              rw [ep] at h'
              obtain ⟨c, w1, w2, w3, w4⟩ := win wskP (a := a) (by rw [ep]; exact List.mem_cons_self ..)
              obtain ⟨d, v1, v2, v3, v4⟩ := win wskP (a := b) (by rw [ep]; exact List.mem_cons_of_mem _ (List.mem_cons_self ..))
              have h3 : (match pParse n (sub z 1 (a + 1)), pParse n (sub z (a + 4) (b + 1)), pParse n (sub z (b + 4) (z.length - 1)) with | some x, some y, some w => if z[a + 2]? = some 63 ∧ z[b + 2]? = some 58 then some (Rcp.pick x y w) else none | _, _, _ => none) = some r := h'
              cases e1 : pParse n (sub z 1 (a + 1)) with
              | none => rw [e1] at h3; cases h3
              | some x =>
                cases e2 : pParse n (sub z (a + 4) (b + 1)) with
                | none => rw [e1, e2] at h3; cases h3
                | some y =>
                  cases e3 : pParse n (sub z (b + 4) (z.length - 1)) with
                  | none => rw [e1, e2, e3] at h3; cases h3
                  | some w =>
                    rw [e1, e2, e3] at h3
                    have h4 : (if z[a + 2]? = some 63 ∧ z[b + 2]? = some 58 then some (Rcp.pick x y w) else none) = some r := h3
                    by_cases c4 : z[a + 2]? = some 63 ∧ z[b + 2]? = some 58
                    · rw [if_pos c4] at h4
                      cases h4
                      obtain ⟨i1, i2, i3⟩ := parse_rev n _ _ e1
                      obtain ⟨j1, j2, j3⟩ := parse_rev n _ _ e2
                      obtain ⟨l1, l2, l3⟩ := parse_rev n _ _ e3
                      have hab : a + 3 ≤ b := by
                        rcases Nat.lt_or_ge b (a + 3) with h | h
                        · exfalso
                          refine txt_ne j2 ?_
                          rw [← j1]
                          unfold sub
                          rw [show b + 1 - (a + 4) = 0 by omega, List.take_zero]
                        · exact h
                      have s1 : sub z 1 (a + 1) = M.take a := by rw [hz]; exact sub_pre (by omega)
                      have s3 : sub z (b + 4) (z.length - 1) = M.drop (b + 3) := by rw [hzl, hz]; exact sub_post v3
                      have s2 : sub z (a + 4) (b + 1) = (M.drop (a + 3)).take (b - (a + 3)) := by rw [hz]; exact sub_in hab (by omega)
                      have g1 : c = 63 := by
                        have e := c4.1
                        rw [hz, w4, show 91 :: ((M.take a ++ ([32, c, 32] ++ M.drop (a + 3))) ++ [93]) = ([91] ++ (M.take a ++ [32])) ++ (c :: ([32] ++ (M.drop (a + 3) ++ [93]))) by simp, at_mid (by simp <;> omega)] at e
                        exact Option.some.inj e
                      have g2 : d = 58 := by
                        have e := c4.2
                        rw [hz, v4, show 91 :: ((M.take b ++ ([32, d, 32] ++ M.drop (b + 3))) ++ [93]) = ([91] ++ (M.take b ++ [32])) ++ (d :: ([32] ++ (M.drop (b + 3) ++ [93]))) by simp, at_mid (by simp <;> omega)] at e
                        exact Option.some.inj e
                      have hsp : M = M.take a ++ ([32, 63, 32] ++ ((M.drop (a + 3)).take (b - (a + 3)) ++ ([32, 58, 32] ++ M.drop (b + 3)))) := by
                        have e5 : M.drop (a + 3) = (M.drop (a + 3)).take (b - (a + 3)) ++ M.drop b := by
                          conv => lhs; rw [← List.take_append_drop (b - (a + 3)) (M.drop (a + 3))]
                          rw [List.drop_drop, show a + 3 + (b - (a + 3)) = b by omega]
                        have e6 : M.drop b = [32, 58, 32] ++ M.drop (b + 3) := by
                          rw [← g2, ← v1, ← List.drop_drop, List.take_append_drop]
                        rw [← e6, ← e5, ← g1]
                        exact w4
                      refine ⟨?_, ⟨i2, j2, l2⟩, by show max x.dep (max y.dep w.dep) + 1 ≤ n + 1; omega⟩
                      show z = 91 :: (x.txt ++ (32 :: 63 :: 32 :: (y.txt ++ (32 :: 58 :: 32 :: (w.txt ++ [93])))))
                      rw [← i1, ← j1, ← l1, s1, s2, s3]
                      conv => lhs; rw [hz, hsp]
                      simp
                    · rw [if_neg c4] at h4; cases h4
    · rw [if_neg c2] at h'
      obtain ⟨h1, h2, h3⟩ := leaf_rev h'
      exact ⟨h1, h2, by omega⟩
def pDue (z : List Nat) : Option Rcp := match pParse 8 z with
  | none => none
  | some r => if r.th.isRcp = true then some r else none
theorem due_is (z : List Nat) : pDue z = rRead (.str z) := by
  unfold pDue
  cases e : pParse 8 z with
  | none =>
    cases e2 : rRead (.str z) with
    | none => rfl
    | some r =>
      obtain ⟨h1, h2, h3⟩ := rRead_rev e2
      have hd : r.dep ≤ 8 := (rcp_is h2 h3).1
      rw [h1, parse_txt 8 r h2 hd] at e
      cases e
  | some r =>
    obtain ⟨h1, h2, h3⟩ := parse_rev 8 z r e
    show (if r.th.isRcp = true then some r else none) = _
    by_cases c : r.th.isRcp = true
    · rw [if_pos c, h1]
      have : r.siz ≤ 100 := by
        unfold Th.isRcp at c
        rw [Bool.and_eq_true, decide_eq_true_eq, (Rcp.okay 8 h2 h3).2] at c
        exact c.2
      exact (rRead_txt h2 h3 this).symm
    · rw [if_neg c]
      cases e2 : rRead (.str z) with
      | none => rfl
      | some r2 =>
        obtain ⟨k1, k2, k3⟩ := rRead_rev e2
        have hd : r2.dep ≤ 8 := (rcp_is k2 k3).1
        have e4 := parse_txt 8 r2 k2 hd
        rw [← k1, e] at e4
        rw [Option.some.inj e4] at c
        exact absurd k3 c
/-! ### pieces of a text; the law's places -/
theorem hu65 {k : Nat} {A : Around} (r : Room k A) : A.units + 65 < cLine := by have := r.un; omega
theorem cutS_sub (z : List Nat) (a b : Nat) : cutS (SX.S z) (some (a : Int)) (some (b : Int)) = SX.S (sub z a b) := by
  show SX.S ((z.drop (HT.sIx (SX.S z).length 0 (some (a : Int)))).take (HT.sIx (SX.S z).length (SX.S z).length (some (b : Int)) - HT.sIx (SX.S z).length 0 (some (a : Int)))) = SX.S (sub z a b)
  rw [HT.sIx_nat, HT.sIx_nat, SX.S_len]
  unfold sub
  congr 1
  by_cases ha : a ≤ z.length
  · rw [Nat.min_eq_left ha]
    by_cases hb : b ≤ z.length
    · rw [Nat.min_eq_left hb]
    · rw [Nat.min_eq_right (by omega), List.take_of_length_le (by rw [List.length_drop]; omega), List.take_of_length_le (by rw [List.length_drop]; omega)]
  · rw [show min a z.length = z.length by omega, List.drop_eq_nil_of_le (Nat.le_refl _), List.drop_eq_nil_of_le (show z.length ≤ a by omega), List.take_nil, List.take_nil]
theorem cutS_neg (z : List Nat) (a : Nat) (h : 1 ≤ z.length) : cutS (SX.S z) (some (a : Int)) (some (-1)) = SX.S (sub z a (z.length - 1)) := by
  have e : HT.sIx (SX.S z).length (SX.S z).length (some (-1)) = z.length - 1 := by
    rw [SX.S_len]
    show (if (-1 : Int) < 0 then ((-1 : Int) + ((z.length : Nat) : Int)).toNat else min (-1 : Int).toNat z.length) = _
    rw [if_pos (by decide)]
    omega
  have e2 := cutS_sub z a (z.length - 1)
  show SX.S ((z.drop (HT.sIx (SX.S z).length 0 (some (a : Int)))).take (HT.sIx (SX.S z).length (SX.S z).length (some (-1)) - HT.sIx (SX.S z).length 0 (some (a : Int)))) = SX.S (sub z a (z.length - 1))
  rw [e, ← e2]
  show _ = SX.S ((z.drop (HT.sIx (SX.S z).length 0 (some (a : Int)))).take (HT.sIx (SX.S z).length (SX.S z).length (some ((z.length - 1 : Nat) : Int)) - HT.sIx (SX.S z).length 0 (some (a : Int))))
  rw [HT.sIx_nat (SX.S z).length (SX.S z).length, SX.S_len, Nat.min_eq_left (by omega)]
theorem cutS_from (z : List Nat) (a : Nat) : cutS (SX.S z) (some (a : Int)) none = SX.S (z.drop a) := by
  show SX.S ((z.drop (HT.sIx (SX.S z).length 0 (some (a : Int)))).take (HT.sIx (SX.S z).length (SX.S z).length none - HT.sIx (SX.S z).length 0 (some (a : Int)))) = _
  rw [HT.sIx_nat, HT.sIx_none, SX.S_len]
  congr 1
  by_cases ha : a ≤ z.length
  · rw [Nat.min_eq_left ha, List.take_of_length_le (by rw [List.length_drop]; exact Nat.le_refl _)]
  · rw [Nat.min_eq_right (by omega), List.drop_eq_nil_of_le (Nat.le_refl _), List.drop_eq_nil_of_le (by omega), List.take_nil]
theorem cutS_to8 (z : List Nat) (k : Nat) : cutS (SX.S z) none (some (k : Int)) = SX.S (z.take k) := by
  have := cutS_sub z 0 k
  show SX.S ((z.drop (HT.sIx (SX.S z).length 0 none)).take (HT.sIx (SX.S z).length (SX.S z).length (some (k : Int)) - HT.sIx (SX.S z).length 0 none)) = _
  rw [HT.sIx_nat, HT.sIx_none, SX.S_len, Nat.sub_zero, List.drop_zero]
  congr 1
  by_cases c : k ≤ z.length
  · rw [Nat.min_eq_left c]
  · rw [Nat.min_eq_right (by omega), List.take_of_length_le (Nat.le_refl _), List.take_of_length_le (by omega)]
theorem atS {z : List Nat} {i c : Nat} (h : z[i]? = some c) : atI (SX.S z).cps.toList ((i : Nat) : Int) = some c := by
  refine atI_nat ?_
  show z.toArray.toList[i]? = _
  rw [List.toList_toArray]
  exact h
theorem atS_last {z : List Nat} {c : Nat} (h : z.getLast? = some c) : atI (SX.S z).cps.toList (-1) = some c := by
  show atI z.toArray.toList (-1) = _
  rw [List.toList_toArray]
  have hne : z ≠ [] := fun e => by rw [e] at h; cases h
  rw [List.getLast?_eq_getLast hne] at h
  have e := (List.dropLast_concat_getLast hne).symm
  rw [Option.some.inj h] at e
  rw [e]
  exact atI_last _ _
theorem tame_sub {z : List Nat} (h : tameS z = true) (a b : Nat) : tameS (sub z a b) = true := tame_cut h a (b - a)
theorem tame_sl {z : List Nat} (h : tameS z = true) : (SX.S z).length ≤ sizeLine := by rw [SX.S_len]; exact le_line (by have := tame_len h; omega)
theorem inV_txs (w : List Nat) : ∀ ws : List (List Nat), inV (.str (SX.S w)) (txs ws) = decide (w ∈ ws)
  | [] => rfl
  | v :: ws => by
    have ih := inV_txs w ws
    show ((SX.S v == SX.S w) || inV (.str (SX.S w)) (txs ws)) = _
    rw [ih, SX.S_beq]
    by_cases c : v = w
    · rw [c, beq_self_eq_true, Bool.true_or]
      exact (decide_eq_true (List.mem_cons_self ..)).symm
    · rw [beq_eq_false_iff_ne.mpr c, Bool.false_or]
      refine decide_eq_decide.mpr ⟨fun h => List.mem_cons_of_mem _ h, fun h => ?_⟩
      rcases List.mem_cons.mp h with h | h
      · exact absurd h.symm c
      · exact h
theorem flat_txs : ∀ ws : List (List Nat), (txs ws).all flatV = true
  | [] => rfl
  | _ :: ws => flat_txs ws
theorem in_opn (c : Nat) : decide (c ∈ ("([{" : Str).cps.toList) = opn c := by
  rw [show ("([{" : Str).cps.toList = [40, 91, 123] by decide +kernel]
  unfold opn
  rw [← Bool.decide_or, ← Bool.decide_or]
  exact decide_eq_decide.mpr (by simp)
theorem in_cls (c : Nat) : decide (c ∈ (")]}" : Str).cps.toList) = cls c := by
  rw [show (")]}" : Str).cps.toList = [41, 93, 125] by decide +kernel]
  unfold cls
  rw [← Bool.decide_or, ← Bool.decide_or]
  exact decide_eq_decide.mpr (by simp)
def natsV (l : List Nat) : List V := l.map fun n : Nat => V.int (n : Int)
def spPlaces : Sp := fun vs H Q _ => ∃ (z : List Nat) (W : Addr) (ws : List (List Nat)), vs = [.str (SX.S z), .ref W] ∧ tameS z = true ∧ H W = some (.lst (txs ws)) ∧
  ∀ (H' : Hp) (L : Addr), Same H H' → H' L = some (.lst (natsV (plGo ws z 0 0 []))) → (plGo ws z 0 0 []).length ≤ 1000000 → Q (.ref L) H'
theorem pl_step {ws : List (List Nat)} {z : List Nat} {i c lv : Nat} {acc : List Nat} (h : z[i]? = some c) : plGo ws (z.drop i) i lv acc = match lvS lv c with
    | none => []
    | some l => plGo ws (z.drop (i + 1)) (i + 1) l (if l = 0 ∧ (z.drop i).take 3 ∈ ws then acc ++ [i] else acc) := by
  obtain ⟨hi, hc⟩ := List.getElem?_eq_some_iff.mp h
  have e : z.drop i = c :: z.drop (i + 1) := by rw [List.drop_eq_getElem_cons hi, hc]
  rw [e]
  rfl
section
variable {P : Program} {w : World} {K : PySem.W.Frag} {mg : Str → Option Value} {base : Heap}
abbrev s__law_places : Stmt := topS 44
abbrev N__law_places : List Str := ["text", "words", "level", "found", "at"]
theorem sc__law_places : FnScope N__law_places ["text", "words"] (defScope s__law_places) := ⟨rfl, rfl, rfl, by decide +kernel, rfl, by decide +kernel, by decide +kernel⟩

theorem ok__law_places (T : Txt K mg) (D : IsDef K mg "_law_places" s__law_places ["text", "words"]) : Cal P w K mg base CX0 1 "_law_places" ["text", "words"] spPlaces := by
  refine D.cal sc__law_places (fun vs H Q E h => ?_) (fun f cdv A outer s H vs Q E hr h => ?_)
  · obtain ⟨z, W, ws, rfl, _⟩ := h
    rfl
  obtain ⟨z, W, ws, rfl, ht, hW, q⟩ := h
  have hz := tame_sl ht
  have hzn := tame_len ht
  refine ⟨_, (pss_cons (ps_set (i := 2) sc__law_places.nd rfl (Or.inl rfl) pe_int)
      (pss_cons (ps_set (i := 3) sc__law_places.nd rfl (Or.inl rfl) (pe_lst pa_nil))
      (pss_cons (ps_for PassesOwn.never rfl (pi_range1 rfl T.b_range (pa_cons (pe_callB call_len_str (by rfl) T.b_len PySem.boot_len (pa_cons (pv 0) pa_nil)) pa_nil)) (pg_name (i := 4) sc__law_places.nd rfl (Or.inl rfl))
        (pss_cons (ps_if (pt_cmpR op_in_sign (pe_ix (r := rIxS) ix_str (pv 0) (pv 4) (fun _ _ => rfl)) pe_str rfl)
        (pss_one (ps_set (i := 2) sc__law_places.nd rfl (Or.inl rfl) (pe_op op_add (pv 2) pe_int)))
        pss_nil)
      (pss_cons (ps_if (pt_cmpR op_in_sign (pe_ix (r := rIxS) ix_str (pv 0) (pv 4) (fun _ _ => rfl)) pe_str rfl)
        (pss_one (ps_set (i := 2) sc__law_places.nd rfl (Or.inl rfl) (pe_op op_sub (pv 2) pe_int)))
        pss_nil)
      (pss_cons (ps_if (pt_cmpR op_lt (pv 2) pe_int (nomark _))
        (pss_one (ps_ret (pe_lst pa_nil)))
        pss_nil)
      (pss_one (ps_if (PW.pt (pw_and (pt_cmpR op_eq (pv 2) pe_int (nomark _)) (pw_and1 (pt_cmpR op_in_seq (pe_slice sl_str (pv 0) (po_some (pv 4)) (po_some (pe_op op_add (pv 4) pe_int))) (pv 1) (by with_unfolding_all rfl)))))
        (pss_one (ps_expr (pe_bm PySem.F.plainAttrs_list PySem.F.slot_list_append PySem.F.type_list_append mt_append (pv 3) (pa_cons (pv 4) pa_nil))))
        pss_nil))))))
      (pss_one (ps_ret (pv 3)))))), ?_⟩
  refine ⟨le_line (Nat.le_of_ble_eq_true rfl), fun F nF => ?_⟩
  refine ⟨_, rfl, _, rfl, hz, ?_⟩
  rw [SX.S_len]
  refine ⟨((z.length : Nat) : Int), rfl, by omega, by omega, for_range (lo := 0) (n := ((z.length : Nat) : Int).toNat) (fun i σ H' => ∃ (lv : Nat) (acc : List Nat) (v4 : Option V), σ = [some (.str (SX.S z)), some (.ref W), some (.int (lv : Int)), some (.ref F), v4] ∧ Same H H' ∧ H' F = some (.lst (natsV acc)) ∧ acc.length ≤ i ∧ plGo ws z 0 0 [] = plGo ws (z.drop i) i lv acc) ⟨0, [], none, rfl, same_new nF _, upd_same, Nat.le_refl _, by rw [List.drop_zero]⟩ ?_ ?_⟩
  · rintro i σ H1 hi ⟨lv, acc, v4, rfl, hs1, hF1, hal, hpl⟩
    have hi' : i < z.length := by omega
    have hc : z[i]? = some z[i] := List.getElem?_eq_getElem hi'
    obtain ⟨c, hcc⟩ : ∃ c, c = z[i] := ⟨_, rfl⟩
    rw [← hcc] at hc
    rw [pl_step hc] at hpl
    have hat : atI (SX.S z).cps.toList (0 + (i : Int)) = some c := by
      rw [Int.zero_add]
      refine atI_nat ?_
      show z.toArray.toList[i]? = _
      rw [List.toList_toArray]
      exact hc
    have hwin : cutS (SX.S z) (some (0 + (i : Int))) (some (0 + (i : Int) + 3)) = SX.S ((z.drop i).take 3) := by
      rw [Int.zero_add]
      exact cutS_add z i 3
    have hW1 := hs1 _ _ hW
    -- behind the brackets: the level is l
    have test : ∀ (l : Nat), plGo ws z 0 0 [] = plGo ws (z.drop (i + 1)) (i + 1) l (if l = 0 ∧ (z.drop i).take 3 ∈ ws then acc ++ [i] else acc) → True := fun _ _ => trivial
    cases ho : opn c with
    | true =>
      have hcl : cls c = false := by
        unfold opn at ho
        unfold cls
        simp only [Bool.or_eq_true, decide_eq_true_eq] at ho
        rcases ho with h | h | h <;> rw [h] <;> rfl
      have e : lvS lv c = some (lv + 1) := by unfold lvS; rw [if_pos ho]
      rw [e] at hpl
      refine ⟨_, rfl, _, rfl, SX.S z, _, c, rfl, rfl, hz, hat, c, _, rfl, rfl, _, rfl, ?_⟩
      rw [in_opn, ho]
      refine iteT ⟨_, rfl, _, _, rfl, rfl, ?_⟩
      refine ⟨_, rfl, _, rfl, SX.S z, _, c, rfl, rfl, hz, hat, c, _, rfl, rfl, _, rfl, ?_⟩
      rw [in_cls, hcl]
      refine iteF ⟨_, rfl, _, _, rfl, rfl, _, rfl, iteN (by omega) ?_⟩
      refine ⟨_, rfl, rfl, _, rfl, iteN (fun z => by have := V.int.inj z; omega) ?_⟩
      refine ⟨lv + 1, acc, _, rfl, hs1, hF1, by omega, ?_⟩
      have hpl' : plGo ws z 0 0 [] = plGo ws (z.drop (i + 1)) (i + 1) (lv + 1) (if lv + 1 = 0 ∧ (z.drop i).take 3 ∈ ws then acc ++ [i] else acc) := hpl
      rw [if_neg (fun z => by have := z.1; omega)] at hpl'
      exact hpl'
    | false =>
      refine ⟨_, rfl, _, rfl, SX.S z, _, c, rfl, rfl, hz, hat, c, _, rfl, rfl, _, rfl, ?_⟩
      rw [in_opn, ho]
      refine iteF ⟨_, rfl, _, rfl, SX.S z, _, c, rfl, rfl, hz, hat, c, _, rfl, rfl, _, rfl, ?_⟩
      rw [in_cls]
      have window : ∀ l : Nat, plGo ws z 0 0 [] = plGo ws (z.drop (i + 1)) (i + 1) l (if l = 0 ∧ (z.drop i).take 3 ∈ ws then acc ++ [i] else acc) →
          (¬ l = 0 → plGo ws z 0 0 [] = plGo ws (z.drop (i + 1)) (i + 1) l acc) ∧ (l = 0 → (decide ((z.drop i).take 3 ∈ ws) = true → plGo ws z 0 0 [] = plGo ws (z.drop (i + 1)) (i + 1) l (acc ++ [i])) ∧ (decide ((z.drop i).take 3 ∈ ws) = false → plGo ws z 0 0 [] = plGo ws (z.drop (i + 1)) (i + 1) l acc)) := fun l h =>
        ⟨fun n => by rw [if_neg (fun z => n z.1)] at h; exact h, fun n => ⟨fun d => by rw [if_pos ⟨n, of_decide_eq_true d⟩] at h; exact h, fun d => by rw [if_neg (fun z => of_decide_eq_false d z.2)] at h; exact h⟩⟩
      cases hcl : cls c with
      | true =>
        refine iteT ⟨_, rfl, _, _, rfl, rfl, ?_⟩
        by_cases c0 : lv = 0
        · have e : lvS lv c = none := by unfold lvS; rw [ho, if_neg Bool.false_ne_true, if_pos hcl, if_pos c0]
          rw [e] at hpl
          refine ⟨_, rfl, _, _, rfl, rfl, _, rfl, iteY (by omega) ⟨le_line (Nat.le_of_ble_eq_true rfl), fun L nL => ?_⟩⟩
          have hpl' : plGo ws z 0 0 [] = [] := hpl
          exact q _ L (hs1.trans (same_new nL _)) (by rw [hpl']; exact upd_same) (by rw [hpl']; exact Nat.zero_le _)
        · have e : lvS lv c = some (lv - 1) := by unfold lvS; rw [ho, if_neg Bool.false_ne_true, if_pos hcl, if_neg c0]
          rw [e] at hpl
          have wi := window (lv - 1) hpl
          obtain ⟨l, hl, hl2⟩ : ∃ l : Nat, (lv : Int) - 1 = (l : Int) ∧ lv - 1 = l := ⟨lv - 1, by omega, rfl⟩
          rw [hl2] at wi
          show gName 2 (V.int ((lv : Int) - 1)) _ _ _
          rw [hl]
          refine ⟨_, rfl, _, _, rfl, rfl, _, rfl, iteN (by omega) ?_⟩
          by_cases c1 : l = 0
          · refine ⟨_, rfl, rfl, _, rfl, iteY (by rw [c1]; rfl) ?_⟩
            refine ⟨_, rfl, _, rfl, _, rfl, _, rfl, _, _, rfl, rfl, _, rfl, SX.S z, rfl, hz, _, rfl, W, _, rfl, .inl (SqL.of hW1), rfl, flat_txs ws, _, rfl, ?_⟩
            rw [hwin]
            show if inV (.str (SX.S ((z.drop i).take 3))) (txs ws) = true then _ else _
            rw [inV_txs]
            cases d : decide ((z.drop i).take 3 ∈ ws) with
            | true =>
              refine iteT ⟨_, rfl, .inl ⟨rfl, _, SqL.of hF1⟩, _, rfl, F, _, _, rfl, rfl, hF1, lt_line (by unfold natsV; rw [List.length_map]; omega), ?_⟩
              refine ⟨l, acc ++ [i], _, rfl, same_upd hs1 nF _, ?_, by rw [List.length_append]; exact Nat.succ_le_succ hal, ((wi.2 c1).1 d)⟩
              rw [upd_same]
              unfold natsV
              rw [List.map_append, Int.zero_add]
              rfl
            | false =>
              refine iteF ?_
              exact ⟨l, acc, _, rfl, hs1, hF1, by omega, ((wi.2 c1).2 d)⟩
          · refine ⟨_, rfl, rfl, _, rfl, iteN (fun z => c1 (by have := V.int.inj z; omega)) ?_⟩
            exact ⟨l, acc, _, rfl, hs1, hF1, by omega, wi.1 c1⟩
      | false =>
        have e : lvS lv c = some lv := by unfold lvS; rw [ho, if_neg Bool.false_ne_true, hcl, if_neg Bool.false_ne_true]
        rw [e] at hpl
        have wi := window lv hpl
        obtain ⟨l, hl2⟩ : ∃ l : Nat, lv = l := ⟨lv, rfl⟩
        rw [hl2] at wi ⊢
        refine iteF ⟨_, rfl, _, _, rfl, rfl, _, rfl, iteN (by omega) ?_⟩
        by_cases c1 : l = 0
        · refine ⟨_, rfl, rfl, _, rfl, iteY (by rw [c1]; rfl) ?_⟩
          refine ⟨_, rfl, _, rfl, _, rfl, _, rfl, _, _, rfl, rfl, _, rfl, SX.S z, rfl, hz, _, rfl, W, _, rfl, .inl (SqL.of hW1), rfl, flat_txs ws, _, rfl, ?_⟩
          rw [hwin]
          show if inV (.str (SX.S ((z.drop i).take 3))) (txs ws) = true then _ else _
          rw [inV_txs]
          cases d : decide ((z.drop i).take 3 ∈ ws) with
          | true =>
            refine iteT ⟨_, rfl, .inl ⟨rfl, _, SqL.of hF1⟩, _, rfl, F, _, _, rfl, rfl, hF1, lt_line (by unfold natsV; rw [List.length_map]; omega), ?_⟩
            refine ⟨l, acc ++ [i], _, rfl, same_upd hs1 nF _, ?_, by rw [List.length_append]; exact Nat.succ_le_succ hal, ((wi.2 c1).1 d)⟩
            rw [upd_same]
            unfold natsV
            rw [List.map_append, Int.zero_add]
            rfl
          | false =>
            refine iteF ?_
            exact ⟨l, acc, _, rfl, hs1, hF1, by omega, ((wi.2 c1).2 d)⟩
        · refine ⟨_, rfl, rfl, _, rfl, iteN (fun z => c1 (by have := V.int.inj z; omega)) ?_⟩
          exact ⟨l, acc, _, rfl, hs1, hF1, by omega, wi.1 c1⟩
  · rintro σ H1 ⟨lv, acc, v4, rfl, hs1, hF1, hal, hpl⟩
    rw [show ((z.length : Nat) : Int).toNat = z.length from Int.toNat_natCast _, List.drop_eq_nil_of_le (Nat.le_refl _)] at hpl
    have hpl' : plGo ws z 0 0 [] = acc := hpl
    rw [show ((z.length : Nat) : Int).toNat = z.length from Int.toNat_natCast _] at hal
    exact ⟨_, rfl, q _ F hs1 (by rw [hpl']; exact hF1) (by rw [hpl']; omega)⟩
end
/-! ### a leaf, as the law reads it -/
theorem tw_same {p : Nat → Bool} {l : List Nat} (h : l.all p = true) : l.takeWhile p = l := by
  have e := tw_app p l [] (fun c hc => List.all_eq_true.mp h c hc) (fun c e => by cases e)
  rw [List.append_nil] at e
  exact e
theorem tw_full {p : Nat → Bool} {l : List Nat} (h : (l.takeWhile p).length = l.length) : l.all p = true := by
  have e := take_while p l
  rw [h, List.take_length] at e
  rw [List.all_eq_true]
  intro c hc
  rw [e] at hc
  exact tw_all p _ c hc
theorem sgn_len (z : List Nat) : sgn z + (z.drop (sgn z)).length = z.length := by
  rw [List.length_drop]
  have : sgn z ≤ z.length := by
    unfold sgn
    split
    · rename_i h
      cases z with
      | nil => cases h
      | cons a b => exact Nat.succ_le_succ (Nat.zero_le _)
    · exact Nat.zero_le _
  omega
theorem leaf_no {z : List Nat} (hn : ¬ nmOk z = true) (h : ¬ (1 ≤ (z.drop (sgn z)).length ∧ (z.drop (sgn z)).length ≤ 40 ∧ (z.drop (sgn z)).all isFg = true)) : pLeaf z = none := by
  unfold pLeaf
  rw [if_neg hn]
  cases e : rNum z with
  | none => rfl
  | some p =>
    obtain ⟨r, n⟩ := p
    show (if n = z.length then some r else none) = none
    by_cases c : n = z.length
    · exfalso
      unfold rNum at e
      by_cases c1 : (figs z).length < 1 ∨ 40 < (figs z).length
      · rw [if_pos c1] at e; cases e
      rw [if_neg c1] at e
      by_cases c2 : (figs z).take 1 = [48] ∧ (1 < (figs z).length ∨ 0 < sgn z)
      · rw [if_pos c2] at e; cases e
      rw [if_neg c2] at e
      have hnn : n = sgn z + (figs z).length := by cases e; rfl
      have hs := sgn_len z
      have hfl : ((z.drop (sgn z)).takeWhile isFg).length = (z.drop (sgn z)).length := by
        show (figs z).length = _
        omega
      have hf : (figs z).length = (z.drop (sgn z)).length := hfl
      exact h ⟨by omega, by omega, tw_full hfl⟩
    · rw [if_neg c]
theorem leaf_fig {z : List Nat} (hn : ¬ nmOk z = true) (h1 : 1 ≤ (z.drop (sgn z)).length) (h2 : (z.drop (sgn z)).length ≤ 40) (h3 : (z.drop (sgn z)).all isFg = true) :
    ((z.drop (sgn z)).take 1 = [48] ∧ z ≠ [48] → pLeaf z = none) ∧ (¬ ((z.drop (sgn z)).take 1 = [48] ∧ z ≠ [48]) → pLeaf z = some (.num (if sgn z = 1 then -(digVal (z.drop (sgn z)) : Int) else digVal (z.drop (sgn z))))) := by
  have hf : figs z = z.drop (sgn z) := tw_same h3
  have hs := sgn_len z
  unfold pLeaf
  rw [if_neg hn]
  unfold rNum
  rw [hf, if_neg (by omega)]
  have key : ((z.drop (sgn z)).take 1 = [48] ∧ (1 < (z.drop (sgn z)).length ∨ 0 < sgn z)) ↔ ((z.drop (sgn z)).take 1 = [48] ∧ z ≠ [48]) := by
    refine and_congr_right fun ht => ⟨fun h e => ?_, fun h => ?_⟩
    · rw [e] at h
      exact absurd h (by decide)
    · by_cases c : 0 < sgn z
      · exact .inr c
      · left
        have s0 : sgn z = 0 := by omega
        rw [s0, List.drop_zero] at ht h1 ⊢
        cases z with
        | nil => cases ht
        | cons a l =>
          have ha : a = 48 := List.head_eq_of_cons_eq ht
          cases l with
          | nil => exact absurd (by rw [ha]) h
          | cons b l => exact Nat.succ_le_succ (Nat.succ_le_succ (Nat.zero_le _))
  refine ⟨fun h => ?_, fun h => ?_⟩
  · rw [if_pos (key.mpr h)]
  · rw [if_neg (fun z => h (key.mp z))]
    show (if sgn z + (z.drop (sgn z)).length = z.length then _ else _) = _
    rw [if_pos hs]
theorem leaf_int {z : List Nat} (h1 : 1 ≤ (z.drop (sgn z)).length) (h2 : (z.drop (sgn z)).length ≤ 40) (h3 : (z.drop (sgn z)).all isFg = true) : intText? (SX.S z) = some (if sgn z = 1 then -(digVal (z.drop (sgn z)) : Int) else digVal (z.drop (sgn z))) := by
  have hdig : NumText.AllDigits (z.drop (sgn z)) := fun c' hc' => by
    have y : isFg c' = true := List.all_eq_true.mp h3 c' hc'
    unfold isFg at y
    rw [Bool.and_eq_true, decide_eq_true_eq, decide_eq_true_eq] at y
    exact y
  have hs := sgn_len z
  by_cases h : z.take 1 = [45]
  · have hs1 : sgn z = 1 := by unfold sgn; rw [if_pos h]
    obtain ⟨l', hl'⟩ : ∃ l', z = 45 :: l' := by
      cases z with
      | nil => cases h
      | cons x l' => exact ⟨l', by rw [show x = 45 from List.head_eq_of_cons_eq h]⟩
    rw [hs1] at h1 h2 hdig hs
    have e : z.drop 1 = l' := by rw [hl']; rfl
    rw [hs1, e, if_pos rfl]
    rw [e] at h1 h2 hdig
    rw [hl']
    exact intText_neg (cs := l') rfl hdig (fun z0 => by rw [z0] at h1; exact absurd h1 (by decide)) (by rw [SX.S_len, List.length_cons]; omega)
  · have hs0 : sgn z = 0 := by unfold sgn; rw [if_neg h]
    rw [hs0, List.drop_zero] at h1 h2 hdig
    rw [hs0, List.drop_zero, if_neg (by decide)]
    exact intText_digits (x := SX.S z) hdig (by show z ≠ []; exact fun z0 => by rw [z0] at h1; exact absurd h1 (by decide)) (by rw [SX.S_len]; omega)
theorem no_badF (l : List Nat) : (l.filter fun c => !isFg c).isEmpty = l.all isFg := by
  induction l with
  | nil => rfl
  | cons c l ih =>
    rw [List.all_cons, List.filter_cons, ← ih]
    cases isFg c <;> rfl
def spLeafP : Sp := fun vs H Q _ => ∃ (z : List Nat), vs = [.str (SX.S z)] ∧ tameS z = true ∧ (pLeaf z = none → ∀ H', Same H H' → Q .non H') ∧ ∀ r, pLeaf z = some r → ∀ H' v, Same H H' → Rec H' r v → Q v H'
section
variable {P : Program} {w : World} {K : PySem.W.Frag} {mg : Str → Option Value} {base : Heap}
abbrev s__law_leaf : Stmt := topS 45
abbrev N__law_leaf : List Str := ["text", "figures", "sign"]
theorem sc__law_leaf : FnScope N__law_leaf ["text"] (defScope s__law_leaf) := ⟨rfl, rfl, rfl, by decide +kernel, rfl, by decide +kernel, by decide +kernel⟩

theorem ok__law_leaf8 (T : Txt K mg) (D : IsDef K mg "_law_leaf" s__law_leaf ["text"]) (C__law_is_name : Cal P w K mg base CX0 1 "_law_is_name" ["thing"] spIsName) : Cal P w K mg base CX0 2 "_law_leaf" ["text"] spLeafP := by
  refine D.cal sc__law_leaf (fun vs H Q E h => ?_) (fun f cdv A outer s H vs Q E hr h => ?_)
  · obtain ⟨z, rfl, _⟩ := h
    rfl
  obtain ⟨z, rfl, ht, qn, q⟩ := h
  have hz := tame_sl ht
  have hzn := tame_len ht
  refine ⟨_, (pss_cons (ps_if (pt_val (pe_cal C__law_is_name (hr.mono (by first | decide | omega)) pass0 (pa_cons (pv 0) pa_nil)))
        (pss_one (ps_ret (pe_tup (pa_cons pe_str (pa_cons (pv 0) pa_nil)))))
        pss_nil)
      (pss_cons (ps_set (i := 1) sc__law_leaf.nd rfl (Or.inl rfl) (pe_slice sl_str (pv 0) (po_some (pe_callTy call_int1 (by rfl) T.b_int (by decide +kernel) (pa_cons (pe_cmpR op_eq (pe_slice sl_str (pv 0) po_none (po_some pe_int)) pe_str (nomark _)) pa_nil))) po_none))
      (pss_cons (ps_if (PW.pt (pw_or (pt_not (pt_chain op_le op_le pe_int (pe_callB call_len_str (by rfl) T.b_len PySem.boot_len (pa_cons (pv 1) pa_nil)) pe_int)) (pw_or1 (pt_cmpR (op_neD hr.units) (pe_lc (own := [("sign", 2)]) (g := gName 2)  (by rfl) sc__law_leaf.nd  (pi_str (pv 1)) (blkOk_by (own := [("sign", 2)]) (N := N__law_leaf) (sc := defScope s__law_leaf) (by decide +kernel)) (fun _ _ _ _ _ => (pg_name (i := 2) sc__law_leaf.nd rfl (Or.inl rfl))) (fun _ _ _ _ _ => (pts_one (pt_cmpR op_notIn_sign (pv 2) pe_str rfl))) (fun _ _ _ _ _ => (pv 2))) (pe_lst pa_nil) (nomark _)))))
        (pss_one (ps_ret pe_non))
        pss_nil)
      (pss_cons (ps_if (PW.pt (pw_and (pt_cmpR op_eq (pe_ix (r := rIxS) ix_str (pv 1) pe_int (fun _ _ => rfl)) pe_str (nomark _)) (pw_and1 (pt_cmpR op_ne (pv 0) pe_str (nomark _)))))
        (pss_one (ps_ret pe_non))
        pss_nil)
      (pss_one (ps_ret (pe_tup (pa_cons pe_str (pa_cons (pe_callTy call_int_str (by rfl) T.b_int (by decide +kernel) (pa_cons (pv 0) pa_nil)) pa_nil))))))))), ?_⟩
  refine ⟨_, rfl, .str (SX.S z), .str z, rfl, rfl, ht, fun H1 hs1 => ⟨_, rfl, ?_⟩⟩
  show if nmOk z = true then _ else _
  by_cases hn : nmOk z = true
  · rw [if_pos hn]
    refine ⟨_, rfl, le_line (Nat.le_of_ble_eq_true rfl), fun p np => ?_⟩
    exact q (.read z) (by unfold pLeaf; rw [if_pos hn]) _ _ (hs1.trans (same_new np _)) ⟨p, rfl, upd_same⟩
  rw [if_neg hn]
  have hmin : ("-" : Str) = SX.S [45] := by decide +kernel
  have hk : [V.bl (decide (V.str (cutS (SX.S z) none (some 1)) = V.str "-"))] = [V.bl (decide (z.take 1 = [45]))] := by
    rw [show (some (1 : Int)) = some ((1 : Nat) : Int) from rfl, cutS_to8, hmin]
    congr 2
    exact decide_eq_decide.mpr SS_eq
  have hj : V.int (if decide (z.take 1 = [45]) = true then 1 else 0) = V.int ((sgn z : Nat) : Int) := by
    unfold sgn
    by_cases h : z.take 1 = [45]
    · rw [if_pos h, if_pos (decide_eq_true h)]; rfl
    · rw [if_neg h, if_neg (fun z => h (of_decide_eq_true z))]; rfl
  refine ⟨_, rfl, _, rfl, _, rfl, SX.S z, rfl, hz, rfl, .inr ⟨decide (z.take 1 = [45]), hk, _, hj, SX.S z, rfl, hz, ?_⟩⟩
  show gName 1 (V.str (cutS (SX.S z) (some ((sgn z : Nat) : Int)) none)) _ _ _
  rw [cutS_from]
  have l1 := leaf_no hn
  have l2 := leaf_fig hn
  have l3 := leaf_int (z := z)
  have hdl : (z.drop (sgn z)).length ≤ 1000000 := by rw [List.length_drop]; omega
  have hd128 : ∀ c ∈ z.drop (sgn z), c < 128 := fun c hc => (tameS_is ht).2 c (List.mem_of_mem_drop hc)
  have hzl := sgn_len z
  generalize z.drop (sgn z) = d at l1 l2 l3 hdl hd128 hzl
  have hl : (SX.S d).length ≤ sizeLine := by rw [SX.S_len]; exact le_line (by omega)
  refine ⟨_, rfl, _, rfl, hl, _, _, rfl, rfl, _, rfl, ?_⟩
  rw [SX.S_len]
  have none1 : ¬ (1 ≤ d.length ∧ d.length ≤ 40) → Q .non H1 := fun h => qn (l1 fun z => h ⟨z.1, z.2.1⟩) H1 hs1
  by_cases h1 : (1 : Int) ≤ ((d.length : Nat) : Int)
  · refine iteY h1 ⟨_, _, rfl, rfl, _, rfl, ?_⟩
    by_cases h2 : ((d.length : Nat) : Int) ≤ 40
    · rw [decide_eq_true h2]
      refine iteF ?_
      refine ⟨_, rfl, _, rfl, fun L nL => lcS (z := SX.S d) (fun i H' => Same H1 H' ∧ H' L = some (.lst (txs (ones ((d.take i).filter fun c => !isFg c)))))
        ⟨same_new nL _, upd_same⟩ ?_ ?_⟩
      · rintro i c H2 hc1 ⟨hs, hL⟩
        have hci : d[i]? = some c := by
          have : d.toArray[i]? = some c := hc1
          rwa [List.getElem?_toArray] at this
        have e1 : (d.take (i + 1)) = d.take i ++ [c] := by rw [List.take_add_one, hci]; rfl
        have ein : decide (c ∈ ("0123456789" : Str).cps.toList) = isFg c := by
          rw [figures_is]
          show decide (c ∈ figures.toArray.toList) = isFg c
          rw [List.toList_toArray]
          exact congrFun fg_in c
        refine ⟨rfl, _, rfl, c, _, rfl, rfl, _, rfl, ?_⟩
        rw [ein]
        cases hcc : isFg c with
        | true =>
          refine ⟨hs, ?_⟩
          rw [e1, List.filter_append, List.filter_cons_of_neg (by rw [hcc]; decide), List.filter_nil, List.append_nil]
          exact hL
        | false =>
          refine ⟨_, rfl, _, hL, ?_, same_upd hs nL _, ?_⟩
          · rw [txs_len, ones_len]
            exact lt_line (Nat.lt_of_le_of_lt (List.length_filter_le _ _) (by rw [List.length_take]; omega))
          · rw [upd_same, e1, List.filter_append, List.filter_cons_of_pos (by rw [hcc]; rfl), List.filter_nil]
            unfold ones
            rw [List.map_append, txs_app]
            rfl
      · rintro H2 ⟨hs, hL⟩
        have ez : d.take (SX.S d).cps.size = d := List.take_of_length_le (by show d.length ≤ d.toArray.size; simp)
        rw [ez] at hL
        refine ⟨Nat.zero_le _, fun e ne => ?_⟩
        have Le : L ≠ e := ne_of_none hL ne
        have s1 := signs_shaped (l := d.filter fun c => !isFg c) fun c h => hd128 c (List.mem_filter.mp h).1
        refine ⟨_, _, .lst (SqL.of (by rw [upd_ne Le]; exact hL)) (signs_dp _ _ _), .lst (SqL.of upd_same) .nil, shaped_parts.mpr ⟨s1.1, by rw [s1.2]; decide⟩, rfl, _, rfl, ?_⟩
        rw [signs_eqv, no_badF]
        have se := hs1.trans (hs.trans (same_new ne (.lst [])))
        cases hall : d.all isFg with
        | false => exact iteT (qn (l1 fun z => by rw [hall] at z; exact Bool.noConfusion z.2.2) _ se)
        | true =>
          refine iteF ?_
          have m1 : 1 ≤ d.length := by omega
          have m2 : d.length ≤ 40 := by omega
          obtain ⟨g1, g2⟩ := l2 m1 m2 hall
          have g3 := l3 m1 m2 hall
          obtain ⟨c, t, hct⟩ : ∃ c t, d = c :: t := by
            cases d with
            | nil => exact absurd m1 (by decide)
            | cons c t => exact ⟨c, t, rfl⟩
          have htk : d.take 1 = [c] := by rw [hct]; rfl
          have h0 : ("0" : Str) = SX.S [48] := by decide +kernel
          have hlen : (SX.S z).length ≤ 640 := by
            rw [SX.S_len]
            have : sgn z ≤ 1 := by unfold sgn; split <;> omega
            omega
          refine ⟨_, rfl, SX.S d, 0, c, rfl, rfl, hl, atS (i := 0) (by rw [hct]; rfl), rfl, _, rfl, ?_⟩
          by_cases c3 : c = 48
          · refine iteY (by rw [c3, h0]) ?_
            refine ⟨_, rfl, rfl, _, rfl, ?_⟩
            by_cases c4 : z = [48]
            · refine not_true_eq (decide_eq_true (by rw [c4, h0])) ?_
              refine ⟨_, rfl, SX.S z, _, rfl, g3, hlen, le_line (Nat.le_of_ble_eq_true rfl), fun p np => ?_⟩
              exact q _ (g2 fun y => y.2 c4) _ _ (se.trans (same_new np _)) ⟨p, rfl, upd_same⟩
            · refine not_false_eq (decide_eq_false fun y => c4 (by rw [h0] at y; exact SS_eq.mp y)) ?_
              exact qn (g1 ⟨by rw [htk, c3], c4⟩) _ se
          · refine iteN (fun y => c3 (by rw [h0] at y; exact List.head_eq_of_cons_eq (SS_eq (a := [c]).mp y))) ?_
            refine ⟨_, rfl, SX.S z, _, rfl, g3, hlen, le_line (Nat.le_of_ble_eq_true rfl), fun p np => ?_⟩
            exact q _ (g2 fun y => c3 (by rw [htk] at y; exact List.head_eq_of_cons_eq y.1)) _ _ (se.trans (same_new np _)) ⟨p, rfl, upd_same⟩
    · rw [decide_eq_false h2]
      exact iteT (none1 (by omega))
  · exact iteN h1 ⟨_, rfl, iteT (none1 (by omega))⟩
end
/-! ### the law's parting -/
def wordsK : List (Key × V) := [(Sum.inr ("+" : Str), .str "plus"), (Sum.inr ("-" : Str), .str "minus"), (Sum.inr ("*" : Str), .str "times"), (Sum.inr ("^" : Str), .str "most"), (Sum.inr ("?" : Str), .str "pick"), (Sum.inr (":" : Str), .str "none")]
theorem merge_words : mergeK [] wordsK = wordsK := by
  have h01 : decide ((Sum.inr ("+" : Str) : Key) = (Sum.inr ("-" : Str) : Key)) = false := by decide +kernel
  have h02 : decide ((Sum.inr ("+" : Str) : Key) = (Sum.inr ("*" : Str) : Key)) = false := by decide +kernel
  have h03 : decide ((Sum.inr ("+" : Str) : Key) = (Sum.inr ("^" : Str) : Key)) = false := by decide +kernel
  have h04 : decide ((Sum.inr ("+" : Str) : Key) = (Sum.inr ("?" : Str) : Key)) = false := by decide +kernel
  have h05 : decide ((Sum.inr ("+" : Str) : Key) = (Sum.inr (":" : Str) : Key)) = false := by decide +kernel
  have h12 : decide ((Sum.inr ("-" : Str) : Key) = (Sum.inr ("*" : Str) : Key)) = false := by decide +kernel
  have h13 : decide ((Sum.inr ("-" : Str) : Key) = (Sum.inr ("^" : Str) : Key)) = false := by decide +kernel
  have h14 : decide ((Sum.inr ("-" : Str) : Key) = (Sum.inr ("?" : Str) : Key)) = false := by decide +kernel
  have h15 : decide ((Sum.inr ("-" : Str) : Key) = (Sum.inr (":" : Str) : Key)) = false := by decide +kernel
  have h23 : decide ((Sum.inr ("*" : Str) : Key) = (Sum.inr ("^" : Str) : Key)) = false := by decide +kernel
  have h24 : decide ((Sum.inr ("*" : Str) : Key) = (Sum.inr ("?" : Str) : Key)) = false := by decide +kernel
  have h25 : decide ((Sum.inr ("*" : Str) : Key) = (Sum.inr (":" : Str) : Key)) = false := by decide +kernel
  have h34 : decide ((Sum.inr ("^" : Str) : Key) = (Sum.inr ("?" : Str) : Key)) = false := by decide +kernel
  have h35 : decide ((Sum.inr ("^" : Str) : Key) = (Sum.inr (":" : Str) : Key)) = false := by decide +kernel
  have h45 : decide ((Sum.inr ("?" : Str) : Key) = (Sum.inr (":" : Str) : Key)) = false := by decide +kernel
  simp only [mergeK, wordsK, List.foldl_cons, List.foldl_nil, putK, List.any_nil, List.any_cons, List.nil_append, List.cons_append, h01, h02, h03, h04, h05, h12, h13, h14, h15, h23, h24, h25, h34, h35, h45, Bool.or_false, if_neg Bool.false_ne_true]
theorem words_at {k : Str} {v : V} (h : (Sum.inr k, v) ∈ wordsK) : valV wordsK (Sum.inr k) = some v := by
  have key : ∀ {l : List (Key × V)} {p : Key × V}, (l.map (·.1)).Nodup → p ∈ l → valV l p.1 = some p.2 := by
    intro l
    induction l with
    | nil => intro p _ h; cases h
    | cons a l ih =>
      intro p nd h
      rw [List.map_cons, List.nodup_cons] at nd
      rcases List.mem_cons.mp h with h | h
      · rw [h]; exact valV_pos rfl
      · rw [valV_neg (fun e => nd.1 (by rw [e]; exact List.mem_map.mpr ⟨p, h, rfl⟩))]
        exact ih nd.2 h
  exact key (p := (Sum.inr k, v)) (show (wordsK.map (·.1)).Nodup by
    show ([.inr ("+" : Str), .inr ("-" : Str), .inr ("*" : Str), .inr ("^" : Str), .inr ("?" : Str), .inr (":" : Str)] : List Key).Nodup
    decide +kernel) h
theorem word_43 : valV wordsK (Sum.inr (SX.S [43])) = some (.str "plus") := by
  rw [show SX.S [43] = ("+" : Str) by decide +kernel]
  exact words_at (.head _)
theorem word_45 : valV wordsK (Sum.inr (SX.S [45])) = some (.str "minus") := by
  rw [show SX.S [45] = ("-" : Str) by decide +kernel]
  exact words_at (.tail _ (.head _))
theorem word_42 : valV wordsK (Sum.inr (SX.S [42])) = some (.str "times") := by
  rw [show SX.S [42] = ("*" : Str) by decide +kernel]
  exact words_at (.tail _ (.tail _ (.head _)))
theorem word_94 : valV wordsK (Sum.inr (SX.S [94])) = some (.str "most") := by
  rw [show SX.S [94] = ("^" : Str) by decide +kernel]
  exact words_at (.tail _ (.tail _ (.tail _ (.head _))))
theorem word_63 : valV wordsK (Sum.inr (SX.S [63])) = some (.str "pick") := by
  rw [show SX.S [63] = ("?" : Str) by decide +kernel]
  exact words_at (.tail _ (.tail _ (.tail _ (.tail _ (.head _)))))
theorem word_58 : valV wordsK (Sum.inr (SX.S [58])) = some (.str "none") := by
  rw [show SX.S [58] = (":" : Str) by decide +kernel]
  exact words_at (.tail _ (.tail _ (.tail _ (.tail _ (.tail _ (.head _))))))
theorem word_kd (k : Kd) : valV wordsK (Sum.inr (SX.S [k.sign])) = some (.str k.name) := by
  cases k
  · exact word_43
  · exact word_45
  · exact word_42
  · exact word_94
theorem win_get {M : List Nat} {a c : Nat} (h : (M.drop a).take 3 = [32, c, 32]) : M[a + 1]? = some c ∧ a + 3 ≤ M.length := by
  have hl := congrArg List.length h
  rw [List.length_take, List.length_drop] at hl
  have hl' : min 3 (M.length - a) = 3 := hl
  refine ⟨?_, by omega⟩
  have e := congrArg (fun l : List Nat => l[1]?) h
  have e2 : ((M.drop a).take 3)[1]? = some c := e
  rw [List.getElem?_take_of_lt (by decide), List.getElem?_drop] at e2
  exact e2
theorem at_in {z M : List Nat} {o x a c : Nat} (hz : z = o :: (M ++ [x])) (h : M[a + 1]? = some c) : z[a + 2]? = some c := by
  rw [hz, List.getElem?_cons_succ, List.getElem?_append_left (List.getElem?_eq_some_iff.mp h).1]
  exact h
def TellP (Q : VK) (H : Hp) (o : Option Rcp) : Prop := (o = none → ∀ H', Same H H' → Q .non H') ∧ ∀ r, o = some r → ∀ H' v, Same H H' → Rec H' r v → Q v H'
def OptRec (H : Hp) (o : Option Rcp) (v : V) : Prop := (o = none ∧ v = .non) ∨ ∃ r, o = some r ∧ Rec H r v
theorem OptRec.same {H H' : Hp} {o : Option Rcp} {v : V} (h : OptRec H o v) (s : Same H H') : OptRec H' o v := by
  rcases h with h | ⟨r, h1, h2⟩
  · exact .inl h
  · exact .inr ⟨r, h1, h2.same s⟩
theorem OptRec.keep {H H' : Hp} {o : Option Rcp} {v : V} (h : OptRec H o v) (s : Keep H H') : OptRec H' o v := by
  rcases h with h | ⟨r, h1, h2⟩
  · exact .inl h
  · exact .inr ⟨r, h1, h2.keep s⟩
def OptRecs (H : Hp) : List (Option Rcp) → List V → Prop
  | [], [] => True
  | o :: os, v :: vs => OptRec H o v ∧ OptRecs H os vs
  | _, _ => False
theorem OptRecs.keep {H H' : Hp} (s : Keep H H') : ∀ {os : List (Option Rcp)} {vs : List V}, OptRecs H os vs → OptRecs H' os vs
  | [], [], _ => trivial
  | _ :: _, _ :: _, h => ⟨h.1.keep s, OptRecs.keep s h.2⟩
  | [], _ :: _, h => h.elim
  | _ :: _, [], h => h.elim
theorem OptRecs.snoc {H : Hp} {o : Option Rcp} {v : V} (h1 : OptRec H o v) : ∀ {os : List (Option Rcp)} {vs : List V}, OptRecs H os vs → OptRecs H (os ++ [o]) (vs ++ [v])
  | [], [], _ => ⟨h1, trivial⟩
  | _ :: _, _ :: _, h => ⟨h.1, OptRecs.snoc h1 h.2⟩
  | [], _ :: _, h => h.elim
  | _ :: _, [], h => h.elim
theorem OptRecs.len {H : Hp} : ∀ {os : List (Option Rcp)} {vs : List V}, OptRecs H os vs → vs.length = os.length
  | [], [], _ => rfl
  | _ :: _, _ :: _, h => congrArg (· + 1) (OptRecs.len h.2)
  | [], _ :: _, h => h.elim
  | _ :: _, [], h => h.elim
def opy : Option Rcp → PyData
  | none => .none
  | some r => r.th.py
theorem OptRecs.dp {K : PySem.W.Frag} {H : Hp} : ∀ {os : List (Option Rcp)} {vs : List V}, OptRecs H os vs → DpAll K H vs (os.map opy)
  | [], [], _ => .nil
  | o :: _, v :: _, h => by
    refine .cons ?_ (OptRecs.dp h.2)
    rcases h.1 with ⟨e1, e2⟩ | ⟨r, e1, e2⟩
    · rw [e1, e2]; exact .non
    · rw [e1]; exact Data.dp r.flat e2.data
  | [], _ :: _, h => h.elim
  | _ :: _, [], h => h.elim
theorem opys_shaped : ∀ {os : List (Option Rcp)}, (∀ r, some r ∈ os → r.Good ∧ r.dep ≤ 8) → PyData.canLayAll0 (os.map opy) = true ∧ PyData.depthAll (os.map opy) ≤ 8
  | [], _ => ⟨rfl, Nat.zero_le _⟩
  | o :: os, h => by
    obtain ⟨h1, h2⟩ := opys_shaped (os := os) fun r hr => h r (List.mem_cons_of_mem _ hr)
    have h3 : (opy o).canLay0 = true ∧ (opy o).depth ≤ 8 := by
      cases o with
      | none => exact ⟨rfl, Nat.zero_le _⟩
      | some r =>
        obtain ⟨g1, g2⟩ := h r (List.mem_cons_self ..)
        have := Rcp.lays g1
        exact ⟨this.1, by show r.th.py.depth ≤ 8; omega⟩
    refine ⟨?_, ?_⟩
    · show ((opy o).canLay0 && PyData.canLayAll0 (os.map opy)) = true
      rw [h1, h3.1]
      rfl
    · show max (opy o).depth (PyData.depthAll (os.map opy)) ≤ 8
      omega
theorem opy_none : ∀ o : Option Rcp, PyData.eqv (opy o) .none = o.isNone
  | none => rfl
  | some (.num _) => rfl
  | some (.read _) => rfl
  | some (.two _ _ _) => rfl
  | some (.pick _ _ _) => rfl
  | some (.choose _ _) => rfl
def segs (z : List Nat) (pl : List Nat) : List (List Nat) := List.zipWith (sub z) (1 :: pl.map (· + 4)) (pl.map (· + 1) ++ [z.length - 1])
def spParse (n : Nat) : Sp := fun vs H Q _ => ∃ (z : List Nat) (d : Nat), vs = [.str (SX.S z), .int (d : Int)] ∧ d + n = 9 ∧ tameS z = true ∧ TellP Q H (pParse n z)
def spParted (n : Nat) : Sp := fun vs H Q _ => ∃ (z : List Nat) (d : Nat), vs = [.str (SX.S z), .int (d : Int)] ∧ d + (n + 1) = 9 ∧ tameS z = true ∧ 2 < z.length ∧ ((z.head? = some 40 ∧ z.getLast? = some 41) ∨ (z.head? = some 91 ∧ z.getLast? = some 93)) ∧ TellP Q H (pParted (pParse n) z)
theorem pTwo_len {p : List Nat → Option Rcp} {z pl : List Nat} (h : pl.length ≠ 1) : pTwo p z pl = none := by
  match pl, h with
  | [], _ => rfl
  | [_], h => exact absurd rfl h
  | _ :: _ :: _, _ => rfl
theorem pPick_len {p : List Nat → Option Rcp} {z pl : List Nat} (h : pl.length ≠ 2) : pPick p z pl = none := by
  match pl, h with
  | [], _ => rfl
  | [_], _ => rfl
  | [_, _], h => exact absurd rfl h
  | _ :: _ :: _ :: _, _ => rfl
theorem natsV_len (l : List Nat) : (natsV l).length = l.length := List.length_map ..
theorem natsV_at {l : List Nat} {i : Nat} {x : V} (h : (natsV l)[i]? = some x) : ∃ b, l[i]? = some b ∧ x = .int (b : Int) := by
  unfold natsV at h
  rw [List.getElem?_map] at h
  cases e : l[i]? with
  | none => rw [e] at h; cases h
  | some b => rw [e] at h; exact ⟨b, rfl, (Option.some.inj h).symm⟩
theorem take_map_snoc {α β : Type} {f : α → β} {l : List α} {i : Nat} {b : α} (h : l[i]? = some b) : (l.take (i + 1)).map f = (l.take i).map f ++ [f b] := by
  rw [List.take_add_one, h, List.map_append]
  rfl
section
variable {P : Program} {w : World} {K : PySem.W.Frag} {mg : Str → Option Value} {base : Heap}
abbrev s__law_parted : Stmt := topS 46
abbrev N__law_parted : List Str := ["text", "depth", "places", "words", "ends", "begins", "parts", "word", "at", "begin", "end"]
theorem sc__law_parted : FnScope N__law_parted ["text", "depth"] (defScope s__law_parted) := ⟨rfl, rfl, rfl, by decide +kernel, rfl, by decide +kernel, by decide +kernel⟩

theorem ok__law_parted {n : Nat} (T : Txt K mg) (D : IsDef K mg "_law_parted" s__law_parted ["text", "depth"]) (C_places : Cal P w K mg base CX0 1 "_law_places" ["text", "words"] spPlaces) (C__law_parse : Cal P w K mg base CX0 (2 * n + 4) "_law_parse" ["text", "depth"] (spParse n)) :
    Cal P w K mg base CX0 (2 * n + 5) "_law_parted" ["text", "depth"] (spParted n) := by
  have C__law_places := C_places.mono (show 1 ≤ 2 * n + 4 by omega)
  refine D.cal sc__law_parted (fun vs H Q E h => ?_) (fun f cdv A outer s H vs Q E hr h => ?_)
  · obtain ⟨z, d, rfl, _⟩ := h
    rfl
  obtain ⟨z, d, rfl, hdn, ht, hz2, hhd, qn, q⟩ := h
  have hz := tame_sl ht
  have hzn := tame_len ht
  have hu : (cxOf CX0 P w K mg base N__law_parted "_law_parted" (defScope s__law_parted) f cdv A outer s H E).nox.A.units + 1 < cLine := Nat.lt_of_le_of_lt (Nat.add_le_add_left (by decide : 1 ≤ 64) _) hr.units
  refine ⟨_, (pss_cons (ps_set (i := 2) sc__law_parted.nd rfl (Or.inl rfl) (pe_cal C__law_places (hr.mono (by first | decide | omega)) pass0 (pa_cons (pe_slice sl_str (pv 0) (po_some pe_int) (po_some (pe_un un_neg pe_int))) (pa_cons (pe_lst (pa_cons pe_str (pa_cons pe_str (pa_cons pe_str (pa_cons pe_str pa_nil))))) pa_nil))))
      (pss_cons (ps_if (pt_cmpR op_eq (pe_ix (r := rIxS) ix_str (pv 0) (pe_un un_neg pe_int) (fun _ _ => rfl)) pe_str (nomark _))
        (pss_one (ps_set (i := 2) sc__law_parted.nd rfl (Or.inl rfl) (pe_cal C__law_places (hr.mono (by first | decide | omega)) pass0 (pa_cons (pe_slice sl_str (pv 0) (po_some pe_int) (po_some (pe_un un_neg pe_int))) (pa_cons (pe_lst (pa_cons pe_str (pa_cons pe_str pa_nil))) pa_nil)))))
        pss_nil)
      (pss_cons (ps_set (i := 3) sc__law_parted.nd rfl (Or.inl rfl) (pe_disp (pps_cons pe_str pe_str (pps_cons pe_str pe_str (pps_cons pe_str pe_str (pps_cons pe_str pe_str (pps_cons pe_str pe_str (pps_cons pe_str pe_str pps_nil)))))) (by rfl) (by rfl) (fun z => by cases z) (by decide)))
      (pss_cons (ps_if (pt_cmpR op_ne (pe_callB call_len_seq (by rfl) T.b_len PySem.boot_len (pa_cons (pv 2) pa_nil)) (pe_ix (r := rIxL K) ix_list (pe_lst (pa_cons pe_int (pa_cons pe_int pa_nil))) (pe_callTy call_int1 (by rfl) T.b_int (by decide +kernel) (pa_cons (pe_cmpR op_eq (pe_ix (r := rIxS) ix_str (pv 0) (pe_un un_neg pe_int) (fun _ _ => rfl)) pe_str (nomark _)) pa_nil)) (fun _ _ => rfl)) (nomark _))
        (pss_one (ps_ret pe_non))
        pss_nil)
      (pss_cons (ps_set (i := 4) sc__law_parted.nd rfl (Or.inl rfl) (pe_op op_cat (pe_lc (own := [("at", 8)]) (g := gName 8)  (by rfl) sc__law_parted.nd  (pi_list (pv 2)) (blkOk_by (own := [("at", 8)]) (N := N__law_parted) (sc := defScope s__law_parted) (by decide +kernel)) (fun _ _ _ _ _ => (pg_name (i := 8) sc__law_parted.nd rfl (Or.inl rfl))) (fun _ _ _ _ _ => pts_nil) (fun _ _ _ _ _ => (pe_op op_add (pv 8) pe_int))) (pe_lst (pa_cons (pe_op op_sub (pe_callB call_len_str (by rfl) T.b_len PySem.boot_len (pa_cons (pv 0) pa_nil)) pe_int) pa_nil))))
      (pss_cons (ps_set (i := 5) sc__law_parted.nd rfl (Or.inl rfl) (pe_op op_cat (pe_lst (pa_cons pe_int pa_nil)) (pe_lc (own := [("at", 8)]) (g := gName 8)  (by rfl) sc__law_parted.nd  (pi_list (pv 2)) (blkOk_by (own := [("at", 8)]) (N := N__law_parted) (sc := defScope s__law_parted) (by decide +kernel)) (fun _ _ _ _ _ => (pg_name (i := 8) sc__law_parted.nd rfl (Or.inl rfl))) (fun _ _ _ _ _ => pts_nil) (fun _ _ _ _ _ => (pe_op op_add (pv 8) pe_int)))))
      (pss_cons (ps_setLc (i := 6) (own := [("begin", 9), ("end", 10)]) (g := gTup K 2 (gCons (gName 9) (gCons (gName 10) gNil)))  (by rfl) sc__law_parted.nd rfl rfl (sw_true rfl rfl rfl (by decide +kernel)) (pi_zip (by rfl) T.b_zip (pa_cons (pv 5) (pa_cons (pv 4) pa_nil))) (blkOk_by (own := [("begin", 9), ("end", 10)]) (N := N__law_parted) (sc := defScope s__law_parted) (by decide +kernel)) (fun _ _ _ _ _ => (pg_tup rfl (pgs_cons (pg_name (i := 9) sc__law_parted.nd rfl (Or.inl rfl)) (pgs_cons (pg_name (i := 10) sc__law_parted.nd rfl (Or.inl rfl)) pgs_nil)))) (fun _ _ _ _ _ => pts_nil) (fun _ _ _ _ _ => (pe_cal C__law_parse (hr.mono (by first | decide | omega)) pass0 (pa_cons (pe_slice sl_str (pv 0) (po_some (pv 9)) (po_some (pv 10))) (pa_cons (pe_op op_add (pv 1) pe_int) pa_nil)))))
      (pss_cons (ps_set (i := 7) sc__law_parted.nd rfl (Or.inl rfl) (pe_dget hu (pv 3) (pe_ix (r := rIxS) ix_str (pv 0) (pe_op op_add (pe_ix (r := rIxL K) ix_list (pv 2) pe_int (fun _ _ => rfl)) pe_int) (fun _ _ => rfl)) (fun _ _ => rfl)))
      (pss_cons (ps_if (PW.pt (pw_or (pt_cmpR (op_inD (hu65 hr)) pe_non (pv 6) (by with_unfolding_all rfl)) (pw_or (pt_cmpR op_eq (pv 7) pe_str (nomark _)) (pw_or1 (PW.pt (pw_and (pt_cmpR op_eq (pe_callB call_len_seq (by rfl) T.b_len PySem.boot_len (pa_cons (pv 6) pa_nil)) pe_int (nomark _)) (pw_and1 (pt_cmpR op_ne (pe_ix (r := rIxS) ix_str (pv 0) (pe_op op_add (pe_ix (r := rIxL K) ix_list (pv 2) pe_int (fun _ _ => rfl)) pe_int) (fun _ _ => rfl)) pe_str (nomark _)))))))))
        (pss_one (ps_ret pe_non))
        pss_nil)
      (pss_one (ps_ret (pe_op op_catT (pe_tup (pa_cons (pv 7) pa_nil)) (pe_callTy call_tuple_of (by rfl) T.b_tuple (by decide +kernel) (pa_cons (pv 6) pa_nil)))))))))))))), ?_⟩
  obtain ⟨M, hM⟩ : ∃ M, M = sub z 1 (z.length - 1) := ⟨_, rfl⟩
  have hcM : cutS (SX.S z) (some 1) (some (-1)) = SX.S M := by rw [hM]; exact cutS_neg z 1 (by omega)
  have htM : tameS M = true := by rw [hM]; exact tame_sub ht _ _
  have hbr : ("]" : Str) = SX.S [93] := by decide +kernel
  have hwT : ([.str " + ", .str " - ", .str " * ", .str " ^ "] : List V) = txs wsT := by
    rw [show (" + " : Str) = SX.S [32, 43, 32] by decide +kernel, show (" - " : Str) = SX.S [32, 45, 32] by decide +kernel, show (" * " : Str) = SX.S [32, 42, 32] by decide +kernel, show (" ^ " : Str) = SX.S [32, 94, 32] by decide +kernel]
    rfl
  have hwP : ([.str " ? ", .str " : "] : List V) = txs wsP := by
    rw [show (" ? " : Str) = SX.S [32, 63, 32] by decide +kernel, show (" : " : Str) = SX.S [32, 58, 32] by decide +kernel]
    rfl
  refine ⟨_, rfl, _, rfl, _, rfl, _, rfl, SX.S z, rfl, hz, le_line (Nat.le_of_ble_eq_true rfl), fun W nW => ?_⟩
  have sW := same_new nW (.lst [.str " + ", .str " - ", .str " * ", .str " ^ "])
  refine ⟨M, W, wsT, congrArg (fun x => [V.str x, V.ref W]) hcM, htM, by rw [upd_same, hwT], fun H1 L hs1 hL hlen => ?_⟩
  have sA := sW.trans hs1
  rcases hhd with ⟨k1, k2⟩ | ⟨k1, k2⟩
  · refine ⟨_, rfl, _, rfl, SX.S z, _, 41, rfl, rfl, hz, atS_last k2, rfl, _, rfl, iteN (fun e => by rw [hbr] at e; exact absurd (List.head_eq_of_cons_eq (SS_eq (a := [41]).mp e)) (by decide)) ?_⟩
    have hpl0 : pParted (pParse n) z = pTwo (pParse n) z (plGo wsT M 0 0 []) := by
      unfold pParted
      rw [if_neg (fun e => by rw [k2] at e; exact absurd (Option.some.inj e) (by decide)), hM]
    rw [hpl0] at qn q
    have hmem := fun p => pl_mem wsT M 0 0 [] p
    generalize plGo wsT M 0 0 [] = pl at hL hlen qn q hmem
    have hk : V.int (if decide (V.str ⟨#[41]⟩ = V.str "]") = true then 1 else 0) = V.int ((1 : Int) - 1) := by
      rw [hbr]
      first
        | rw [if_neg (fun e => absurd (List.head_eq_of_cons_eq (SS_eq (a := [41]).mp (of_decide_eq_true e))) (by decide))]; rfl
        | rw [if_pos (decide_eq_true (SS_eq (a := [41]).mpr rfl))]; rfl
    refine fun Dd nD => ⟨upd_same, wordsK, rfl, by decide, ?_⟩
    rw [merge_words, upd_upd]
    have sD := same_new nD (.dK wordsK)
    obtain ⟨H2, hH2⟩ : ∃ H2, H2 = upd H1 Dd (.dK wordsK) := ⟨_, rfl⟩
    have hD2 : H2 Dd = some (.dK wordsK) := by rw [hH2]; exact upd_same
    rw [← hH2] at sD ⊢
    have hL2 := sD _ _ hL
    refine ⟨_, rfl, L, _, rfl, .inl (SqL.of hL2), le_line (Nat.le_of_ble_eq_true rfl), fun l nl => ?_⟩
    have sl := same_new nl (.lst [.int 1, .int 2])
    refine ⟨_, rfl, _, rfl, SX.S z, _, 41, rfl, rfl, hz, atS_last k2, rfl, .inr ⟨_, rfl, l, _, _, .int 1, rfl, hk, SqL.of upd_same, rfl, rfl, _, rfl, ?_⟩⟩
    rw [natsV_len]
    by_cases hcnt : pl.length = 1
    rotate_left
    · refine not_false_eq (decide_eq_false fun e => hcnt (by have := V.int.inj e; omega)) ?_
      exact qn (pTwo_len hcnt) _ (sA.trans (sD.trans sl))
    refine not_true_eq (decide_eq_true (by rw [hcnt]; rfl)) ?_
    have hL3 := sl _ _ hL2
    refine ⟨_, rfl, L, rfl, ⟨_, SqL.of hL3⟩, fun M1 nM1 => lc_list (K := K) (xs := natsV pl) (fun i G => Same (upd H2 l (.lst [.int 1, .int 2])) G ∧ G M1 = some (.lst (natsV ((pl.take i).map (· + 1))))) ⟨same_new nM1 _, upd_same⟩ (fun i G _ h => SqL.of (h.1 _ _ hL3)) (fun i x G hx h => ?_) (fun G h => ?_)⟩
    · obtain ⟨b, hb, rfl⟩ := natsV_at hx
      have hbl := (List.getElem?_eq_some_iff.mp hb).1
      refine ⟨rfl, _, rfl, _, _, rfl, rfl, _, h.2, lt_line (by rw [natsV_len, List.length_map, List.length_take]; omega), same_upd h.1 nM1 _, ?_⟩
      rw [upd_same, take_map_snoc hb]
      unfold natsV
      rw [List.map_append]
      rfl
    obtain ⟨h1, h2⟩ := h
    have hLG := h1 _ _ hL3
    rw [natsV_len, List.take_of_length_le (Nat.le_refl _)] at h2
    refine ⟨_, rfl, _, rfl, hz, _, _, rfl, rfl, le_line (Nat.le_of_ble_eq_true rfl), fun l2 nl2 => ?_⟩
    have hz1 : (((SX.S z).length : Nat) : Int) - 1 = ((z.length - 1 : Nat) : Int) := by rw [SX.S_len]; omega
    have sl2 := same_new nl2 (.lst [.int ((((SX.S z).length : Nat) : Int) - 1)])
    refine ⟨M1, l2, _, _, rfl, rfl, sl2 _ _ h2, upd_same, le_line (by rw [natsV_len, List.length_map]; show pl.length + 1 ≤ _; omega), fun E1 nE1 => ?_⟩
    obtain ⟨es, hes⟩ : ∃ es, es = pl.map (· + 1) ++ [z.length - 1] := ⟨_, rfl⟩
    have ees : natsV (pl.map (· + 1)) ++ [V.int ((((SX.S z).length : Nat) : Int) - 1)] = natsV es := by
      rw [hz1, hes]
      unfold natsV
      rw [List.map_append]
      rfl
    rw [ees]
    have sE1 := same_new nE1 (.lst (natsV es))
    obtain ⟨H3, hH3⟩ : ∃ H3, H3 = upd (upd G l2 (.lst [.int ((((SX.S z).length : Nat) : Int) - 1)])) E1 (.lst (natsV es)) := ⟨_, rfl⟩
    have hE3 : H3 E1 = some (.lst (natsV es)) := by rw [hH3]; exact upd_same
    have s3 : Same G H3 := by rw [hH3]; exact sl2.trans sE1
    rw [← hH3]
    have hL4 := s3 _ _ hLG
    -- begins
    refine ⟨le_line (Nat.le_of_ble_eq_true rfl), fun l3 nl3 => ?_⟩
    have sl3 := same_new nl3 (.lst [.int 1])
    have hL5 := sl3 _ _ hL4
    refine ⟨_, rfl, L, rfl, ⟨_, SqL.of hL5⟩, fun M2 nM2 => lc_list (K := K) (xs := natsV pl) (fun i G => Same (upd H3 l3 (.lst [.int 1])) G ∧ G M2 = some (.lst (natsV ((pl.take i).map (· + 4))))) ⟨same_new nM2 _, upd_same⟩ (fun i G _ h => SqL.of (h.1 _ _ hL5)) (fun i x G hx h => ?_) (fun G2 h => ?_)⟩
    · obtain ⟨b, hb, rfl⟩ := natsV_at hx
      have hbl := (List.getElem?_eq_some_iff.mp hb).1
      refine ⟨rfl, _, rfl, _, _, rfl, rfl, _, h.2, lt_line (by rw [natsV_len, List.length_map, List.length_take]; omega), same_upd h.1 nM2 _, ?_⟩
      rw [upd_same, take_map_snoc hb]
      unfold natsV
      rw [List.map_append]
      rfl
    obtain ⟨g1, g2⟩ := h
    rw [natsV_len, List.take_of_length_le (Nat.le_refl _)] at g2
    refine ⟨l3, M2, _, _, rfl, rfl, g1 _ _ upd_same, g2, le_line (by rw [natsV_len, List.length_map]; show 1 + pl.length ≤ _; omega), fun B1 nB1 => ?_⟩
    obtain ⟨bs, hbs⟩ : ∃ bs, bs = 1 :: pl.map (· + 4) := ⟨_, rfl⟩
    have ebs : [V.int 1] ++ natsV (pl.map (· + 4)) = natsV bs := by rw [hbs]; rfl
    rw [ebs]
    have sB1 := same_new nB1 (.lst (natsV bs))
    obtain ⟨H4, hH4⟩ : ∃ H4, H4 = upd G2 B1 (.lst (natsV bs)) := ⟨_, rfl⟩
    have hB4 : H4 B1 = some (.lst (natsV bs)) := by rw [hH4]; exact upd_same
    have s34 : Same H3 H4 := by rw [hH4]; exact sl3.trans (g1.trans sB1)
    rw [← hH4]
    have hE4 := s34 _ _ hE3
    have sH4 : Same H H4 := sA.trans (sD.trans (sl.trans (h1.trans (s3.trans s34))))
    have hbl : bs.length = pl.length + 1 := by rw [hbs]; simp
    have hel : es.length = pl.length + 1 := by rw [hes]; simp
    have hsg : segs z pl = List.zipWith (sub z) bs es := by rw [hbs, hes]; rfl
    -- parts
    refine ⟨_, rfl, _, rfl, B1, E1, natsV bs, natsV es, rfl, SqL.of hB4, SqL.of hE4, fun M3 nM3 => lc_it (walk_zip (n := pl.length + 1) (by rw [natsV_len, natsV_len, hbl, hel]; omega)) (fun i G => ∃ vs, Same H4 G ∧ G M3 = some (.lst vs) ∧ OptRecs G (((segs z pl).take i).map (pParse n)) vs ∧ vs.length = i) ⟨[], same_new nM3 _, upd_same, trivial, rfl⟩ (fun i G _ ⟨_, s, _⟩ => ⟨SqL.of (s _ _ hB4), SqL.of (s _ _ hE4)⟩) (fun i x G G' hi ⟨vs, hsG, hM3, hO, hvl⟩ hY => ?_) (fun G ⟨vs, hsG, hM3, hO, hvl⟩ => ?_)⟩
    · obtain ⟨T0, x0, y0, rfl, nT0, rfl, hx, hy⟩ := hY
      obtain ⟨b, hb, rfl⟩ := natsV_at hx
      obtain ⟨e, he, rfl⟩ := natsV_at hy
      have sT := same_new nT0 (.tup [.int (b : Int), .int (e : Int)])
      have hseg : (segs z pl)[i]? = some (sub z b e) := by
        rw [hsg, List.getElem?_zipWith, hb, he]
        try rfl
      refine ⟨T0, _, rfl, SqT.of upd_same, rfl, _, _, rfl, _, _, rfl, rfl, rfl, _, rfl, _, rfl, _, rfl, _, rfl, _, rfl, SX.S z, rfl, hz, _, rfl, _, _, rfl, rfl, sub z b e, d + 1, ?_, by omega, tame_sub ht b e, ?_⟩
      · rw [cutS_sub]
        rfl
      have nM4 : H4 M3 = none := nM3
      have fin : ∀ (v : V) (G3 : Hp), Same (upd G T0 (.tup [.int (b : Int), .int (e : Int)])) G3 → OptRec G3 (pParse n (sub z b e)) v → ∃ acc, G3 M3 = some (.lst acc) ∧ acc.length < sizeLine ∧ ∃ vs, Same H4 (upd G3 M3 (.lst (acc ++ [v]))) ∧ (upd G3 M3 (.lst (acc ++ [v]))) M3 = some (.lst vs) ∧ OptRecs (upd G3 M3 (.lst (acc ++ [v]))) (((segs z pl).take (i + 1)).map (pParse n)) vs ∧ vs.length = i + 1 := fun v G3 sG hv => by
        have hM4 := sG _ _ (sT _ _ hM3)
        refine ⟨vs, hM4, lt_line (by omega), vs ++ [v], same_upd (hsG.trans (sT.trans sG)) nM4 _, upd_same, ?_, by rw [List.length_append, hvl]; rfl⟩
        rw [take_map_snoc hseg]
        exact (OptRecs.snoc hv (hO.keep (same_keep (sT.trans sG)))).keep (keep_lst hM4)
      exact ⟨fun e1 G3 s => fin .non G3 s (.inl ⟨e1, rfl⟩), fun r e1 G3 v s hr => fin v G3 s (.inr ⟨r, e1, hr⟩)⟩
    rw [List.take_of_length_le (by rw [hsg, List.length_zipWith, hbl, hel]; omega)] at hO
    have sG : Same H G := sH4.trans hsG
    have hLg := hsG _ _ (s34 _ _ (s3 _ _ hLG))
    have hDg := hsG _ _ (s34 _ _ (s3 _ _ (h1 _ _ (sl _ _ hD2))))
    obtain ⟨a, rfl⟩ : ∃ a, pl = [a] := by
      match pl, hcnt with
      | [a], _ => exact ⟨a, rfl⟩
    have hzz := bracket_split hz2 k1 k2
    rw [← hM] at hzz
    obtain ⟨k, hwin⟩ : ∃ k : Kd, (M.drop a).take 3 = [32, k.sign, 32] := by
      rcases hmem a (List.mem_cons_self ..) with h | ⟨_, h⟩
      · cases h
      · rw [Nat.sub_zero] at h
        simp only [wsT, List.mem_cons, List.not_mem_nil, or_false] at h
        rcases h with h | h | h | h
        · exact ⟨.plus, h⟩
        · exact ⟨.minus, h⟩
        · exact ⟨.times, h⟩
        · exact ⟨.most, h⟩
    obtain ⟨hw1, hw2⟩ := win_get hwin
    have hzc := at_in hzz hw1
    have htw : twoWord (sub z (a + 1) (a + 4)) = some k := by
      rw [hzz, show sub (40 :: (M ++ [41])) (a + 1) (a + 4) = (M.drop a).take (a + 3 - a) from sub_in (by omega) hw2, show a + 3 - a = 3 by omega, hwin]
      exact sign_word k
    have dg : DGet G Dd (.str (SX.S [k.sign])) (some (.str k.name)) := word_kd k ▸ DGet.k (k := Sum.inr (SX.S [k.sign])) hDg
    refine ⟨_, rfl, _, rfl, _, rfl, L, _, _, .int (a : Int), rfl, rfl, SqL.of hLg, rfl, _, _, rfl, rfl, SX.S z, _, k.sign, rfl, rfl, hz, atS (i := a + 2) hzc, Dd, _, rfl, dg, ?_⟩
    have hO2 : OptRecs G [pParse n (sub z 1 (a + 1)), pParse n (sub z (a + 4) (z.length - 1))] vs := hO
    obtain ⟨o1, ho1⟩ : ∃ o, o = pParse n (sub z 1 (a + 1)) := ⟨_, rfl⟩
    obtain ⟨o2, ho2⟩ : ∃ o, o = pParse n (sub z (a + 4) (z.length - 1)) := ⟨_, rfl⟩
    rw [← ho1, ← ho2] at hO2
    have hsh : SeqAt.shaped (.list ([o1, o2].map opy)) = true := by
      obtain ⟨c1, c2⟩ := opys_shaped (os := [o1, o2]) fun r hr => by
        have key : ∀ {u : List Nat}, some r = pParse n u → r.Good ∧ r.dep ≤ 8 := fun {u} e => by
          obtain ⟨_, g, dd⟩ := parse_rev n u r e.symm
          exact ⟨g, by omega⟩
        rcases List.mem_cons.mp hr with h | h
        · exact key (h.trans ho1)
        · exact key ((List.mem_singleton.mp h).trans ho2)
      exact shaped_parts.mpr ⟨c1, by omega⟩
    refine ⟨_, rfl, .none, _, .non, .lst (SqL.of hM3) hO2.dp, rfl, hsh, _, rfl, ?_⟩
    have hany : (([o1, o2].map opy).any fun z => PyData.eqv z .none) = (o1.isNone || (o2.isNone || false)) := by
      show (PyData.eqv (opy o1) .none || (PyData.eqv (opy o2) .none || false)) = _
      rw [opy_none, opy_none]
    rw [hany]
    cases o1 with
    | none => exact iteT (qn (by show (match pParse n (sub z 1 (a + 1)), pParse n (sub z (a + 4) (z.length - 1)), twoWord (sub z (a + 1) (a + 4)) with | some x, some y, some k => some (Rcp.two k x y) | _, _, _ => none) = none; rw [← ho1]) _ sG)
    | some r1 =>
      cases o2 with
      | none => exact iteT (qn (by show (match pParse n (sub z 1 (a + 1)), pParse n (sub z (a + 4) (z.length - 1)), twoWord (sub z (a + 1) (a + 4)) with | some x, some y, some k => some (Rcp.two k x y) | _, _, _ => none) = none; rw [← ho1, ← ho2]) _ sG)
      | some r2 =>
        refine iteF ⟨_, rfl, rfl, _, rfl, iteN (fun e => by cases k <;> exact absurd (V.str.inj e) (by decide +kernel)) ?_⟩
        obtain ⟨x1, x2, rfl⟩ : ∃ x1 x2, vs = [x1, x2] := by
          have hl := hO2.len
          match vs, hl with
          | [x1, x2], _ => exact ⟨x1, x2, rfl⟩
        obtain ⟨p1, p2, _⟩ := hO2
        have hr1 : Rec G r1 x1 := by
          rcases p1 with ⟨e, _⟩ | ⟨r, e, hr⟩
          · cases e
          · cases e; exact hr
        have hr2 : Rec G r2 x2 := by
          rcases p2 with ⟨e, _⟩ | ⟨r, e, hr⟩
          · cases e
          · cases e; exact hr
        refine ⟨_, rfl, M3, _, rfl, .inl (SqL.of hM3), rfl, _, rfl, iteN (fun e => absurd (show (2 : Int) = 3 from V.int.inj e) (by decide)) ?_⟩
        refine ⟨_, rfl, le_line (Nat.le_of_ble_eq_true rfl), fun t1 nt1 => ?_⟩
        have st1 := same_new nt1 (.tup [.str k.name])
        refine ⟨_, rfl, M3, _, rfl, .inl ⟨SqL.of (st1 _ _ hM3), fun t2 nt2 => ?_⟩⟩
        have st2 := same_new nt2 (.tup [x1, x2])
        refine ⟨t1, t2, _, _, rfl, rfl, SqT.of (st2 _ _ upd_same), SqT.of upd_same, (fun e => nomatch e), le_line (Nat.le_of_ble_eq_true rfl), (fun e => nomatch e), fun _ p np => ?_⟩
        have s12 := st1.trans (st2.trans (same_new np (.tup ([.str k.name] ++ [x1, x2]))))
        exact q (.two k r1 r2) (pTwo_some ho1.symm ho2.symm htw) _ _ (sG.trans s12) ⟨p, x1, x2, rfl, upd_same, hr1.same s12, hr2.same s12⟩
  · refine ⟨_, rfl, _, rfl, SX.S z, _, 93, rfl, rfl, hz, atS_last k2, rfl, _, rfl, iteY (SS_eq (a := [93]).mpr rfl |>.trans (by rw [hbr])) ?_⟩
    refine ⟨_, rfl, _, rfl, _, rfl, _, rfl, SX.S z, rfl, hz, le_line (Nat.le_of_ble_eq_true rfl), fun W2 nW2 => ?_⟩
    have sW2 := same_new nW2 (.lst [.str " ? ", .str " : "])
    refine ⟨M, W2, wsP, congrArg (fun x => [V.str x, V.ref W2]) hcM, htM, by rw [upd_same, hwP], fun H3a L3a hs3a hL3a hlen3a => ?_⟩
    have sA := sA.trans (sW2.trans hs3a)
    have hpl0 : pParted (pParse n) z = pPick (pParse n) z (plGo wsP M 0 0 []) := by
      unfold pParted
      rw [if_pos k2, hM]
    rw [hpl0] at qn q
    have hmem := fun p => pl_mem wsP M 0 0 [] p
    generalize plGo wsP M 0 0 [] = pl at hL3a hlen3a qn q hmem
    have hk : V.int (if decide (V.str ⟨#[93]⟩ = V.str "]") = true then 1 else 0) = V.int ((2 : Int) - 1) := by
      rw [hbr]
      first
        | rw [if_neg (fun e => absurd (List.head_eq_of_cons_eq (SS_eq (a := [93]).mp (of_decide_eq_true e))) (by decide))]; rfl
        | rw [if_pos (decide_eq_true (SS_eq (a := [93]).mpr rfl))]; rfl
    refine fun Dd nD => ⟨upd_same, wordsK, rfl, by decide, ?_⟩
    rw [merge_words, upd_upd]
    have sD := same_new nD (.dK wordsK)
    obtain ⟨H2, hH2⟩ : ∃ H2, H2 = upd H3a Dd (.dK wordsK) := ⟨_, rfl⟩
    have hD2 : H2 Dd = some (.dK wordsK) := by rw [hH2]; exact upd_same
    rw [← hH2] at sD ⊢
    have hL2 := sD _ _ hL3a
    refine ⟨_, rfl, L3a, _, rfl, .inl (SqL.of hL2), le_line (Nat.le_of_ble_eq_true rfl), fun l nl => ?_⟩
    have sl := same_new nl (.lst [.int 1, .int 2])
    refine ⟨_, rfl, _, rfl, SX.S z, _, 93, rfl, rfl, hz, atS_last k2, rfl, .inr ⟨_, rfl, l, _, _, .int 2, rfl, hk, SqL.of upd_same, rfl, rfl, _, rfl, ?_⟩⟩
    rw [natsV_len]
    by_cases hcnt : pl.length = 2
    rotate_left
    · refine not_false_eq (decide_eq_false fun e => hcnt (by have := V.int.inj e; omega)) ?_
      exact qn (pPick_len hcnt) _ (sA.trans (sD.trans sl))
    refine not_true_eq (decide_eq_true (by rw [hcnt]; rfl)) ?_
    have hL3 := sl _ _ hL2
    refine ⟨_, rfl, L3a, rfl, ⟨_, SqL.of hL3⟩, fun M1 nM1 => lc_list (K := K) (xs := natsV pl) (fun i G => Same (upd H2 l (.lst [.int 1, .int 2])) G ∧ G M1 = some (.lst (natsV ((pl.take i).map (· + 1))))) ⟨same_new nM1 _, upd_same⟩ (fun i G _ h => SqL.of (h.1 _ _ hL3)) (fun i x G hx h => ?_) (fun G h => ?_)⟩
    · obtain ⟨b, hb, rfl⟩ := natsV_at hx
      have hbl := (List.getElem?_eq_some_iff.mp hb).1
      refine ⟨rfl, _, rfl, _, _, rfl, rfl, _, h.2, lt_line (by rw [natsV_len, List.length_map, List.length_take]; omega), same_upd h.1 nM1 _, ?_⟩
      rw [upd_same, take_map_snoc hb]
      unfold natsV
      rw [List.map_append]
      rfl
    obtain ⟨h1, h2⟩ := h
    have hLG := h1 _ _ hL3
    rw [natsV_len, List.take_of_length_le (Nat.le_refl _)] at h2
    refine ⟨_, rfl, _, rfl, hz, _, _, rfl, rfl, le_line (Nat.le_of_ble_eq_true rfl), fun l2 nl2 => ?_⟩
    have hz1 : (((SX.S z).length : Nat) : Int) - 1 = ((z.length - 1 : Nat) : Int) := by rw [SX.S_len]; omega
    have sl2 := same_new nl2 (.lst [.int ((((SX.S z).length : Nat) : Int) - 1)])
    refine ⟨M1, l2, _, _, rfl, rfl, sl2 _ _ h2, upd_same, le_line (by rw [natsV_len, List.length_map]; show pl.length + 1 ≤ _; omega), fun E1 nE1 => ?_⟩
    obtain ⟨es, hes⟩ : ∃ es, es = pl.map (· + 1) ++ [z.length - 1] := ⟨_, rfl⟩
    have ees : natsV (pl.map (· + 1)) ++ [V.int ((((SX.S z).length : Nat) : Int) - 1)] = natsV es := by
      rw [hz1, hes]
      unfold natsV
      rw [List.map_append]
      rfl
    rw [ees]
    have sE1 := same_new nE1 (.lst (natsV es))
    obtain ⟨H3, hH3⟩ : ∃ H3, H3 = upd (upd G l2 (.lst [.int ((((SX.S z).length : Nat) : Int) - 1)])) E1 (.lst (natsV es)) := ⟨_, rfl⟩
    have hE3 : H3 E1 = some (.lst (natsV es)) := by rw [hH3]; exact upd_same
    have s3 : Same G H3 := by rw [hH3]; exact sl2.trans sE1
    rw [← hH3]
    have hL4 := s3 _ _ hLG
    -- begins
    refine ⟨le_line (Nat.le_of_ble_eq_true rfl), fun l3 nl3 => ?_⟩
    have sl3 := same_new nl3 (.lst [.int 1])
    have hL5 := sl3 _ _ hL4
    refine ⟨_, rfl, L3a, rfl, ⟨_, SqL.of hL5⟩, fun M2 nM2 => lc_list (K := K) (xs := natsV pl) (fun i G => Same (upd H3 l3 (.lst [.int 1])) G ∧ G M2 = some (.lst (natsV ((pl.take i).map (· + 4))))) ⟨same_new nM2 _, upd_same⟩ (fun i G _ h => SqL.of (h.1 _ _ hL5)) (fun i x G hx h => ?_) (fun G2 h => ?_)⟩
    · obtain ⟨b, hb, rfl⟩ := natsV_at hx
      have hbl := (List.getElem?_eq_some_iff.mp hb).1
      refine ⟨rfl, _, rfl, _, _, rfl, rfl, _, h.2, lt_line (by rw [natsV_len, List.length_map, List.length_take]; omega), same_upd h.1 nM2 _, ?_⟩
      rw [upd_same, take_map_snoc hb]
      unfold natsV
      rw [List.map_append]
      rfl
    obtain ⟨g1, g2⟩ := h
    rw [natsV_len, List.take_of_length_le (Nat.le_refl _)] at g2
    refine ⟨l3, M2, _, _, rfl, rfl, g1 _ _ upd_same, g2, le_line (by rw [natsV_len, List.length_map]; show 1 + pl.length ≤ _; omega), fun B1 nB1 => ?_⟩
    obtain ⟨bs, hbs⟩ : ∃ bs, bs = 1 :: pl.map (· + 4) := ⟨_, rfl⟩
    have ebs : [V.int 1] ++ natsV (pl.map (· + 4)) = natsV bs := by rw [hbs]; rfl
    rw [ebs]
    have sB1 := same_new nB1 (.lst (natsV bs))
    obtain ⟨H4, hH4⟩ : ∃ H4, H4 = upd G2 B1 (.lst (natsV bs)) := ⟨_, rfl⟩
    have hB4 : H4 B1 = some (.lst (natsV bs)) := by rw [hH4]; exact upd_same
    have s34 : Same H3 H4 := by rw [hH4]; exact sl3.trans (g1.trans sB1)
    rw [← hH4]
    have hE4 := s34 _ _ hE3
    have sH4 : Same H H4 := sA.trans (sD.trans (sl.trans (h1.trans (s3.trans s34))))
    have hbl : bs.length = pl.length + 1 := by rw [hbs]; simp
    have hel : es.length = pl.length + 1 := by rw [hes]; simp
    have hsg : segs z pl = List.zipWith (sub z) bs es := by rw [hbs, hes]; rfl
    -- parts
    refine ⟨_, rfl, _, rfl, B1, E1, natsV bs, natsV es, rfl, SqL.of hB4, SqL.of hE4, fun M3 nM3 => lc_it (walk_zip (n := pl.length + 1) (by rw [natsV_len, natsV_len, hbl, hel]; omega)) (fun i G => ∃ vs, Same H4 G ∧ G M3 = some (.lst vs) ∧ OptRecs G (((segs z pl).take i).map (pParse n)) vs ∧ vs.length = i) ⟨[], same_new nM3 _, upd_same, trivial, rfl⟩ (fun i G _ ⟨_, s, _⟩ => ⟨SqL.of (s _ _ hB4), SqL.of (s _ _ hE4)⟩) (fun i x G G' hi ⟨vs, hsG, hM3, hO, hvl⟩ hY => ?_) (fun G ⟨vs, hsG, hM3, hO, hvl⟩ => ?_)⟩
    · obtain ⟨T0, x0, y0, rfl, nT0, rfl, hx, hy⟩ := hY
      obtain ⟨b, hb, rfl⟩ := natsV_at hx
      obtain ⟨e, he, rfl⟩ := natsV_at hy
      have sT := same_new nT0 (.tup [.int (b : Int), .int (e : Int)])
      have hseg : (segs z pl)[i]? = some (sub z b e) := by
        rw [hsg, List.getElem?_zipWith, hb, he]
        try rfl
      refine ⟨T0, _, rfl, SqT.of upd_same, rfl, _, _, rfl, _, _, rfl, rfl, rfl, _, rfl, _, rfl, _, rfl, _, rfl, _, rfl, SX.S z, rfl, hz, _, rfl, _, _, rfl, rfl, sub z b e, d + 1, ?_, by omega, tame_sub ht b e, ?_⟩
      · rw [cutS_sub]
        rfl
      have nM4 : H4 M3 = none := nM3
      have fin : ∀ (v : V) (G3 : Hp), Same (upd G T0 (.tup [.int (b : Int), .int (e : Int)])) G3 → OptRec G3 (pParse n (sub z b e)) v → ∃ acc, G3 M3 = some (.lst acc) ∧ acc.length < sizeLine ∧ ∃ vs, Same H4 (upd G3 M3 (.lst (acc ++ [v]))) ∧ (upd G3 M3 (.lst (acc ++ [v]))) M3 = some (.lst vs) ∧ OptRecs (upd G3 M3 (.lst (acc ++ [v]))) (((segs z pl).take (i + 1)).map (pParse n)) vs ∧ vs.length = i + 1 := fun v G3 sG hv => by
        have hM4 := sG _ _ (sT _ _ hM3)
        refine ⟨vs, hM4, lt_line (by omega), vs ++ [v], same_upd (hsG.trans (sT.trans sG)) nM4 _, upd_same, ?_, by rw [List.length_append, hvl]; rfl⟩
        rw [take_map_snoc hseg]
        exact (OptRecs.snoc hv (hO.keep (same_keep (sT.trans sG)))).keep (keep_lst hM4)
      exact ⟨fun e1 G3 s => fin .non G3 s (.inl ⟨e1, rfl⟩), fun r e1 G3 v s hr => fin v G3 s (.inr ⟨r, e1, hr⟩)⟩
    rw [List.take_of_length_le (by rw [hsg, List.length_zipWith, hbl, hel]; omega)] at hO
    have sG : Same H G := sH4.trans hsG
    have hLg := hsG _ _ (s34 _ _ (s3 _ _ hLG))
    have hDg := hsG _ _ (s34 _ _ (s3 _ _ (h1 _ _ (sl _ _ hD2))))
    obtain ⟨a, b, rfl⟩ : ∃ a b, pl = [a, b] := by
      match pl, hcnt with
      | [a, b], _ => exact ⟨a, b, rfl⟩
    have hzz := bracket_split hz2 k1 k2
    rw [← hM] at hzz
    have wins : ∀ p ∈ [a, b], ∃ c, (c = 63 ∨ c = 58) ∧ (M.drop p).take 3 = [32, c, 32] := fun p hp => by
      rcases hmem p hp with h | ⟨_, h⟩
      · cases h
      · rw [Nat.sub_zero] at h
        simp only [wsP, List.mem_cons, List.not_mem_nil, or_false] at h
        rcases h with h | h
        · exact ⟨63, .inl rfl, h⟩
        · exact ⟨58, .inr rfl, h⟩
    obtain ⟨c, hcc, hwin⟩ := wins a (List.mem_cons_self ..)
    obtain ⟨c2, hcc2, hwin2⟩ := wins b (List.mem_cons_of_mem _ (List.mem_cons_self ..))
    obtain ⟨hw1, hw2⟩ := win_get hwin
    have hzc := at_in hzz hw1
    have hzc2 := at_in hzz (win_get hwin2).1
    obtain ⟨wd, hwd, hwdv⟩ : ∃ wd : Str, valV wordsK (Sum.inr (SX.S [c])) = some (.str wd) ∧ ((c = 63 ∧ wd = "pick") ∨ (c = 58 ∧ wd = "none")) := by
      rcases hcc with rfl | rfl
      · exact ⟨_, word_63, .inl ⟨rfl, rfl⟩⟩
      · exact ⟨_, word_58, .inr ⟨rfl, rfl⟩⟩
    have dg : DGet G Dd (.str (SX.S [c])) (some (.str wd)) := hwd ▸ DGet.k (k := Sum.inr (SX.S [c])) hDg
    refine ⟨_, rfl, _, rfl, _, rfl, L3a, _, _, .int (a : Int), rfl, rfl, SqL.of hLg, rfl, _, _, rfl, rfl, SX.S z, _, c, rfl, rfl, hz, atS (i := a + 2) hzc, Dd, _, rfl, dg, ?_⟩
    have hO2 : OptRecs G [pParse n (sub z 1 (a + 1)), pParse n (sub z (a + 4) (b + 1)), pParse n (sub z (b + 4) (z.length - 1))] vs := hO
    have pno : ∀ {R : Option Rcp}, R = pPick (pParse n) z [a, b] → R = (match pParse n (sub z 1 (a + 1)), pParse n (sub z (a + 4) (b + 1)), pParse n (sub z (b + 4) (z.length - 1)) with | some x, some y, some w => if z[a + 2]? = some 63 ∧ z[b + 2]? = some 58 then some (Rcp.pick x y w) else none | _, _, _ => none) := fun h => h
    obtain ⟨o1, ho1⟩ : ∃ o, o = pParse n (sub z 1 (a + 1)) := ⟨_, rfl⟩
    obtain ⟨o2, ho2⟩ : ∃ o, o = pParse n (sub z (a + 4) (b + 1)) := ⟨_, rfl⟩
    obtain ⟨o3, ho3⟩ : ∃ o, o = pParse n (sub z (b + 4) (z.length - 1)) := ⟨_, rfl⟩
    rw [← ho1, ← ho2, ← ho3] at hO2 pno
    have hsh : SeqAt.shaped (.list ([o1, o2, o3].map opy)) = true := by
      obtain ⟨c1, c2⟩ := opys_shaped (os := [o1, o2, o3]) fun r hr => by
        have key : ∀ {u : List Nat}, some r = pParse n u → r.Good ∧ r.dep ≤ 8 := fun {u} e => by
          obtain ⟨_, g, dd⟩ := parse_rev n u r e.symm
          exact ⟨g, by omega⟩
        rcases List.mem_cons.mp hr with h | h
        · exact key (h.trans ho1)
        · rcases List.mem_cons.mp h with h | h
          · exact key (h.trans ho2)
          · exact key ((List.mem_singleton.mp h).trans ho3)
      exact shaped_parts.mpr ⟨c1, by omega⟩
    refine ⟨_, rfl, .none, _, .non, .lst (SqL.of hM3) hO2.dp, rfl, hsh, _, rfl, ?_⟩
    have hany : (([o1, o2, o3].map opy).any fun z => PyData.eqv z .none) = (o1.isNone || (o2.isNone || (o3.isNone || false))) := by
      show (PyData.eqv (opy o1) .none || (PyData.eqv (opy o2) .none || (PyData.eqv (opy o3) .none || false))) = _
      rw [opy_none, opy_none, opy_none]
    rw [hany]
    cases o1 with
    | none => exact iteT (qn ((pno rfl).trans rfl) _ sG)
    | some r1 =>
      cases o2 with
      | none => exact iteT (qn ((pno rfl).trans rfl) _ sG)
      | some r2 =>
        cases o3 with
        | none => exact iteT (qn ((pno rfl).trans rfl) _ sG)
        | some r3 =>
          have pno' : pPick (pParse n) z [a, b] = if z[a + 2]? = some 63 ∧ z[b + 2]? = some 58 then some (Rcp.pick r1 r2 r3) else none := pno rfl
          rw [pno'] at qn q
          refine iteF ⟨_, rfl, rfl, _, rfl, ?_⟩
          rcases hwdv with ⟨rfl, rfl⟩ | ⟨rfl, rfl⟩
          rotate_left
          · refine iteY rfl ?_
            exact qn (if_neg fun e => by rw [hzc] at e; exact absurd (Option.some.inj e.1) (by decide)) _ sG
          refine iteN (fun e => absurd (V.str.inj e) (by decide +kernel)) ?_
          obtain ⟨x1, x2, x3, rfl⟩ : ∃ x1 x2 x3, vs = [x1, x2, x3] := by
            have hl := hO2.len
            match vs, hl with
            | [x1, x2, x3], _ => exact ⟨x1, x2, x3, rfl⟩
          obtain ⟨p1, p2, p3, _⟩ := hO2
          have some1 : ∀ {r : Rcp} {x : V}, OptRec G (some r) x → Rec G r x := fun h => by
            rcases h with ⟨e, _⟩ | ⟨r, e, hr⟩
            · cases e
            · cases e; exact hr
          have hcol : (":" : Str) = SX.S [58] := by decide +kernel
          refine ⟨_, rfl, M3, _, rfl, .inl (SqL.of hM3), rfl, _, rfl, iteY rfl ?_⟩
          refine ⟨_, rfl, _, rfl, L3a, _, _, .int (b : Int), rfl, rfl, SqL.of hLg, rfl, _, _, rfl, rfl, SX.S z, _, c2, rfl, rfl, hz, atS (i := b + 2) hzc2, rfl, _, rfl, ?_⟩
          rcases hcc2 with rfl | rfl
          · refine not_false_eq (decide_eq_false fun e => by rw [hcol] at e; exact absurd (List.head_eq_of_cons_eq (SS_eq (a := [63]).mp e)) (by decide)) ?_
            exact qn (if_neg fun e => by rw [hzc2] at e; exact absurd (Option.some.inj e.2) (by decide)) _ sG
          refine not_true_eq (decide_eq_true (by rw [hcol])) ?_
          refine ⟨_, rfl, le_line (Nat.le_of_ble_eq_true rfl), fun t1 nt1 => ?_⟩
          have st1 := same_new nt1 (.tup [.str "pick"])
          refine ⟨_, rfl, M3, _, rfl, .inl ⟨SqL.of (st1 _ _ hM3), fun t2 nt2 => ?_⟩⟩
          have st2 := same_new nt2 (.tup [x1, x2, x3])
          refine ⟨t1, t2, _, _, rfl, rfl, SqT.of (st2 _ _ upd_same), SqT.of upd_same, (fun e => nomatch e), le_line (Nat.le_of_ble_eq_true rfl), (fun e => nomatch e), fun _ p np => ?_⟩
          have s12 := st1.trans (st2.trans (same_new np (.tup ([.str "pick"] ++ [x1, x2, x3]))))
          exact q (.pick r1 r2 r3) (if_pos ⟨hzc, hzc2⟩) _ _ (sG.trans s12) ⟨p, x1, x2, x3, rfl, upd_same, (some1 p1).same s12, (some1 p2).same s12, (some1 p3).same s12⟩
end
/-! ### the law's parser -/
theorem lastB_after {c : Nat} {z : List Nat} : ∀ x ∈ z.drop (lastB c z), x ≠ c := fun x hx => by
  have e := List.takeWhile_append_dropWhile (p := fun x => !decide (x = c)) (l := z.reverse)
  have e2 : z = (z.reverse.dropWhile fun x => !decide (x = c)).reverse ++ (z.reverse.takeWhile fun x => !decide (x = c)).reverse := by
    rw [← List.reverse_append, e, List.reverse_reverse]
  have e3 : z.drop (lastB c z) = (z.reverse.takeWhile fun x => !decide (x = c)).reverse := by
    conv => lhs; arg 2; rw [e2]
    unfold lastB
    rw [List.drop_left' (by rw [List.length_reverse])]
  rw [e3, List.mem_reverse] at hx
  have := tw_all (fun x => !decide (x = c)) _ x hx
  exact fun h => by rw [decide_eq_true h] at this; cases this
theorem at_one {z : List Nat} {c i : Nat} : StrLaws.At (SX.S z) (SX.S [c]) (SX.S z).length i ↔ z[i]? = some c := by
  unfold StrLaws.At
  rw [StrLaws.subAt_eq, SX.S_len, SX.S_len]
  show (i + 1 ≤ z.length ∧ ((z.toArray.toList.drop i).take 1 == [c]) = true) ↔ _
  rw [List.toList_toArray, beq_iff_eq]
  constructor
  · rintro ⟨h1, h2⟩
    rw [List.drop_eq_getElem_cons (by omega)] at h2
    rw [List.getElem?_eq_getElem (by omega)]
    exact congrArg some (List.head_eq_of_cons_eq h2)
  · intro h
    obtain ⟨h1, h2⟩ := List.getElem?_eq_some_iff.mp h
    refine ⟨h1, ?_⟩
    rw [List.drop_eq_getElem_cons h1, h2]
    rfl
theorem rfind_is (z : List Nat) : Txt.rfind (SX.S z) (SX.S [123]) = ((lastB 123 z : Nat) : Int) - 1 := by
  have haft : ∀ {k : Nat}, lastB 123 z ≤ k → z[k]? = some 123 → False := fun {k} hk h => by
    have : z.drop (lastB 123 z) = z.drop (lastB 123 z) := rfl
    have h2 : (z.drop (lastB 123 z))[k - lastB 123 z]? = some 123 := by
      rw [List.getElem?_drop, show lastB 123 z + (k - lastB 123 z) = k by omega]
      exact h
    exact lastB_after _ (List.mem_of_getElem? h2) rfl
  have hat : 0 < lastB 123 z → z[lastB 123 z - 1]? = some 123 := fun h => by
    obtain ⟨j1, j2⟩ := lastB_split h
    generalize lastB 123 z = L at j1 j2 h ⊢
    have e := at_mid (p := z.take (L - 1)) (q := z.drop L) (c := 123) (i := L - 1) (by rw [List.length_take]; omega)
    rw [← j1] at e
    exact e
  rcases rfind_whole (SX.S z) (SX.S [123]) with ⟨h1, h2⟩ | ⟨i, h1, h2, h3⟩
  · rw [h1]
    rcases Nat.eq_zero_or_pos (lastB 123 z) with h | h
    · rw [h]; rfl
    · exact absurd (at_one.mpr (hat h)) (h2 _)
  · rw [h1]
    have hi := at_one.mp h2
    rcases Nat.eq_zero_or_pos (lastB 123 z) with h | h
    · exact (haft (by omega) hi).elim
    · have h4 : i < lastB 123 z := by
        rcases Nat.lt_or_ge i (lastB 123 z) with g | g
        · exact g
        · exact (haft g hi).elim
      have h5 : ¬ i < lastB 123 z - 1 := fun g => h3 _ g (at_one.mpr (hat h))
      omega
def strsPy (l : List (List Nat)) : List PyData := l.map fun s => PyData.str (SX.S s)
theorem strs_dp (K : PySem.W.Frag) (H : Hp) : ∀ l : List (List Nat), DpAll K H (txs l) (strsPy l)
  | [] => .nil
  | _ :: l => .cons (.str _) (strs_dp K H l)
theorem strs_shaped : ∀ {l : List (List Nat)}, (∀ s ∈ l, ∀ c ∈ s, c < 128) → PyData.canLayAll0 (strsPy l) = true ∧ PyData.depthAll (strsPy l) = 0
  | [], _ => ⟨rfl, rfl⟩
  | s :: l, h => by
    obtain ⟨h1, h2⟩ := strs_shaped fun t ht => h t (List.mem_cons_of_mem _ ht)
    refine ⟨?_, ?_⟩
    · show ((PyData.str (SX.S s)).canLay0 && PyData.canLayAll0 (strsPy l)) = true
      rw [h1, str_lay (h s (List.mem_cons_self ..))]
      rfl
    · show max 0 (PyData.depthAll (strsPy l)) = 0
      rw [h2]
      rfl
theorem strs_eqv (l : List (List Nat)) : PyData.eqv (.list (strsPy l)) (.list []) = l.isEmpty := by cases l <;> rfl
theorem no_badS (l : List (List Nat)) : (l.filter fun s => !nmOk s).isEmpty = l.all nmOk := by
  induction l with
  | nil => rfl
  | cons c l ih =>
    rw [List.all_cons, List.filter_cons, ← ih]
    cases nmOk c <;> rfl
theorem spl_in : ∀ (z acc : List Nat) (k : Nat), ∀ s ∈ TL.spl [44] k acc z, ∀ c ∈ s, c ∈ acc ∨ c ∈ z
  | [], acc, k, s, hs, c, hc => by
    rw [TL.spl_nil] at hs
    rw [List.mem_singleton.mp hs] at hc
    exact .inl hc
  | x :: z, acc, 0, s, hs, c, hc => by
    by_cases hpre : TL.pre [44] (x :: z) = true
    · rw [TL.spl_hit hpre] at hs
      rcases List.mem_cons.mp hs with h | h
      · rw [h] at hc; exact .inl hc
      · rcases spl_in z [] _ s h c hc with h | h
        · cases h
        · exact .inr (List.mem_cons_of_mem _ h)
    · rw [TL.spl_miss (Bool.eq_false_iff.mpr hpre)] at hs
      rcases spl_in z _ _ s hs c hc with h | h
      · rcases List.mem_append.mp h with h | h
        · exact .inl h
        · rw [List.mem_singleton.mp h]; exact .inr (List.mem_cons_self ..)
      · exact .inr (List.mem_cons_of_mem _ h)
  | x :: z, acc, k + 1, s, hs, c, hc => by
    rcases spl_in z acc k s hs c hc with h | h
    · exact .inl h
    · exact .inr (List.mem_cons_of_mem _ h)
theorem rec_nonP {H : Hp} : ∀ {r : Rcp} {v : V}, Rec H r v → ¬ v = .non
  | .num _, _, ⟨_, e, _⟩ => fun h => by rw [h] at e; cases e
  | .read _, _, ⟨_, e, _⟩ => fun h => by rw [h] at e; cases e
  | .two _ _ _, _, ⟨_, _, _, e, _⟩ => fun h => by rw [h] at e; cases e
  | .pick _ _ _, _, ⟨_, _, _, _, e, _⟩ => fun h => by rw [h] at e; cases e
  | .choose _ _, _, ⟨_, _, _, e, _⟩ => fun h => by rw [h] at e; cases e
theorem spl_each : ∀ (z acc : List Nat) (k : Nat), ∀ s ∈ TL.spl [44] k acc z, s.length ≤ acc.length + z.length
  | [], acc, k, s, hs => by
    rw [TL.spl_nil] at hs
    rw [List.mem_singleton.mp hs]
    exact Nat.le_add_right _ _
  | x :: z, acc, 0, s, hs => by
    by_cases hpre : TL.pre [44] (x :: z) = true
    · rw [TL.spl_hit hpre] at hs
      rcases List.mem_cons.mp hs with h | h
      · rw [h]; exact Nat.le_add_right _ _
      · have := spl_each z [] _ s h
        simp at this ⊢
        omega
    · rw [TL.spl_miss (Bool.eq_false_iff.mpr hpre)] at hs
      have := spl_each z _ _ s hs
      simp at this ⊢
      omega
  | x :: z, acc, k + 1, s, hs => by
    have := spl_each z acc k s hs
    simp at this ⊢
    omega
section
variable {P : Program} {w : World} {K : PySem.W.Frag} {mg : Str → Option Value} {base : Heap}
abbrev s__law_parse : Stmt := topS 47
abbrev N__law_parse : List Str := ["text", "depth", "at", "names", "one", "name"]
theorem sc__law_parse : FnScope N__law_parse ["text", "depth"] (defScope s__law_parse) := ⟨rfl, rfl, rfl, by decide +kernel, rfl, by decide +kernel, by decide +kernel⟩

theorem ok__law_parse0 (T : Txt K mg) (D : IsDef K mg "_law_parse" s__law_parse ["text", "depth"]) (D2 : IsDef K mg "_law_parted" s__law_parted ["text", "depth"]) (C_name : Cal P w K mg base CX0 1 "_law_is_name" ["thing"] spIsName) (C_leaf : Cal P w K mg base CX0 2 "_law_leaf" ["text"] spLeafP) :
    Cal P w K mg base CX0 (2 * 0 + 4) "_law_parse" ["text", "depth"] (spParse 0) := by
  have C__law_is_name := C_name.mono (show 1 ≤ 3 by omega)
  have C__law_leaf := C_leaf.mono (show 2 ≤ 3 by omega)
  have C__law_parse : Cal P w K mg base CX0 3 "_law_parse" ["text", "depth"] (fun _ _ _ _ => False) := cal_none D fun _ _ _ _ h => h
  have C__law_parted : Cal P w K mg base CX0 3 "_law_parted" ["text", "depth"] (fun _ _ _ _ => False) := cal_none D2 fun _ _ _ _ h => h
  refine D.cal sc__law_parse (fun vs H Q E h => ?_) (fun f cdv A outer s H vs Q E hr h => ?_)
  · obtain ⟨z, d, rfl, _⟩ := h
    rfl
  obtain ⟨z, d, rfl, hdn, ht, qn, q⟩ := h
  refine ⟨_, (pss_cons (ps_if (PW.pt (pw_or (pt_cmpR op_eq (pv 0) pe_str (nomark _)) (pw_or1 (pt_cmpR op_gt (pv 1) pe_int (nomark _)))))
        (pss_one (ps_ret pe_non))
        pss_nil)
      (pss_cons (ps_if (pt_cmpR op_eq (pe_ix (r := rIxS) ix_str (pv 0) (pe_un un_neg pe_int) (fun _ _ => rfl)) pe_str (nomark _))
        (pss_cons (ps_set (i := 2) sc__law_parse.nd rfl (Or.inl rfl) (pe_m1 PySem.F.slot_str_rfind PySem.F.type_str_rfind mt_rfind (pv 0) pe_str))
      (pss_cons (ps_set (i := 3) sc__law_parse.nd rfl (Or.inl rfl) (pe_callTy call_tuple_of (by rfl) T.b_tuple (by decide +kernel) (pa_cons (pe_split (pe_slice sl_str (pv 0) (po_some (pe_op op_add (pv 2) pe_int)) (po_some (pe_un un_neg pe_int))) pe_str) pa_nil)))
      (pss_cons (ps_set (i := 4) sc__law_parse.nd rfl (Or.inl rfl) pe_non)
      (pss_cons (ps_if (pt_cmpR op_gt (pv 2) pe_int (nomark _))
        (pss_one (ps_set (i := 4) sc__law_parse.nd rfl (Or.inl rfl) (pe_cal C__law_parse (hr.mono (by first | decide | omega)) pass0 (pa_cons (pe_slice sl_str (pv 0) po_none (po_some (pv 2))) (pa_cons (pe_op op_add (pv 1) pe_int) pa_nil)))))
        pss_nil)
      (pss_cons (ps_if (PW.pt (pw_or (pt_cmpR op_isN (pv 4) pe_non (nomark _)) (pw_or (pt_cmpR op_gt (pe_callB call_len_seq (by rfl) T.b_len PySem.boot_len (pa_cons (pv 3) pa_nil)) pe_int (nomark _)) (pw_or1 (pt_cmpR (op_neD hr.units) (pe_lc (own := [("name", 5)]) (g := gName 5)  (by rfl) sc__law_parse.nd  (pi_tup (pv 3)) (blkOk_by (own := [("name", 5)]) (N := N__law_parse) (sc := defScope s__law_parse) (by decide +kernel)) (fun _ _ _ _ _ => (pg_name (i := 5) sc__law_parse.nd rfl (Or.inl rfl))) (fun _ _ _ _ _ => (pts_one (pt_not (pt_val (pe_cal C__law_is_name (hr.mono (by first | decide | omega)) pass0 (pa_cons (pv 5) pa_nil)))))) (fun _ _ _ _ _ => (pv 5))) (pe_lst pa_nil) (nomark _))))))
        (pss_one (ps_ret pe_non))
        pss_nil)
      (pss_one (ps_ret (pe_tup (pa_cons pe_str (pa_cons (pv 4) (pa_cons (pv 3) pa_nil)))))))))))
        pss_nil)
      (pss_cons (ps_if (PW.pt (pw_and (pt_cmpR op_gt (pe_callB call_len_str (by rfl) T.b_len PySem.boot_len (pa_cons (pv 0) pa_nil)) pe_int (nomark _)) (pw_and1 (pt_cmpR op_in_seq (pe_op op_add_str (pe_ix (r := rIxS) ix_str (pv 0) pe_int (fun _ _ => rfl)) (pe_ix (r := rIxS) ix_str (pv 0) (pe_un un_neg pe_int) (fun _ _ => rfl))) (pe_lst (pa_cons pe_str (pa_cons pe_str pa_nil))) (by with_unfolding_all rfl)))))
        (pss_one (ps_ret (pe_cal C__law_parted (hr.mono (by first | decide | omega)) pass0 (pa_cons (pv 0) (pa_cons (pv 1) pa_nil)))))
        pss_nil)
      (pss_one (ps_ret (pe_cal C__law_leaf (hr.mono (by first | decide | omega)) pass0 (pa_cons (pv 0) pa_nil))))))), ?_⟩
  refine ⟨_, rfl, rfl, _, rfl, ?_⟩
  refine ite2 (fun _ => qn rfl H (Same.refl H)) (fun _ => ?_)
  refine ⟨_, rfl, _, _, rfl, rfl, _, rfl, iteY (by omega) ?_⟩
  exact qn rfl H (Same.refl H)
theorem ok__law_parse {n : Nat} (T : Txt K mg) (D : IsDef K mg "_law_parse" s__law_parse ["text", "depth"]) (C_name : Cal P w K mg base CX0 1 "_law_is_name" ["thing"] spIsName) (C_leaf : Cal P w K mg base CX0 2 "_law_leaf" ["text"] spLeafP)
    (C_parse : Cal P w K mg base CX0 (2 * n + 4) "_law_parse" ["text", "depth"] (spParse n)) (C__law_parted : Cal P w K mg base CX0 (2 * n + 5) "_law_parted" ["text", "depth"] (spParted n)) : Cal P w K mg base CX0 (2 * (n + 1) + 4) "_law_parse" ["text", "depth"] (spParse (n + 1)) := by
  have C__law_is_name := C_name.mono (show 1 ≤ 2 * n + 5 by omega)
  have C__law_leaf := C_leaf.mono (show 2 ≤ 2 * n + 5 by omega)
  have C__law_parse := C_parse.mono (show 2 * n + 4 ≤ 2 * n + 5 by omega)
  refine D.cal sc__law_parse (fun vs H Q E h => ?_) (fun f cdv A outer s H vs Q E hr h => ?_)
  · obtain ⟨z, d, rfl, _⟩ := h
    rfl
  obtain ⟨z, d, rfl, hdn, ht, qn, q⟩ := h
  have hz := tame_sl ht
  have hzn := tame_len ht
  refine ⟨_, (pss_cons (ps_if (PW.pt (pw_or (pt_cmpR op_eq (pv 0) pe_str (nomark _)) (pw_or1 (pt_cmpR op_gt (pv 1) pe_int (nomark _)))))
        (pss_one (ps_ret pe_non))
        pss_nil)
      (pss_cons (ps_if (pt_cmpR op_eq (pe_ix (r := rIxS) ix_str (pv 0) (pe_un un_neg pe_int) (fun _ _ => rfl)) pe_str (nomark _))
        (pss_cons (ps_set (i := 2) sc__law_parse.nd rfl (Or.inl rfl) (pe_m1 PySem.F.slot_str_rfind PySem.F.type_str_rfind mt_rfind (pv 0) pe_str))
      (pss_cons (ps_set (i := 3) sc__law_parse.nd rfl (Or.inl rfl) (pe_callTy call_tuple_of (by rfl) T.b_tuple (by decide +kernel) (pa_cons (pe_split (pe_slice sl_str (pv 0) (po_some (pe_op op_add (pv 2) pe_int)) (po_some (pe_un un_neg pe_int))) pe_str) pa_nil)))
      (pss_cons (ps_set (i := 4) sc__law_parse.nd rfl (Or.inl rfl) pe_non)
      (pss_cons (ps_if (pt_cmpR op_gt (pv 2) pe_int (nomark _))
        (pss_one (ps_set (i := 4) sc__law_parse.nd rfl (Or.inl rfl) (pe_cal C__law_parse (hr.mono (by first | decide | omega)) pass0 (pa_cons (pe_slice sl_str (pv 0) po_none (po_some (pv 2))) (pa_cons (pe_op op_add (pv 1) pe_int) pa_nil)))))
        pss_nil)
      (pss_cons (ps_if (PW.pt (pw_or (pt_cmpR op_isN (pv 4) pe_non (nomark _)) (pw_or (pt_cmpR op_gt (pe_callB call_len_seq (by rfl) T.b_len PySem.boot_len (pa_cons (pv 3) pa_nil)) pe_int (nomark _)) (pw_or1 (pt_cmpR (op_neD hr.units) (pe_lc (own := [("name", 5)]) (g := gName 5)  (by rfl) sc__law_parse.nd  (pi_tup (pv 3)) (blkOk_by (own := [("name", 5)]) (N := N__law_parse) (sc := defScope s__law_parse) (by decide +kernel)) (fun _ _ _ _ _ => (pg_name (i := 5) sc__law_parse.nd rfl (Or.inl rfl))) (fun _ _ _ _ _ => (pts_one (pt_not (pt_val (pe_cal C__law_is_name (hr.mono (by first | decide | omega)) pass0 (pa_cons (pv 5) pa_nil)))))) (fun _ _ _ _ _ => (pv 5))) (pe_lst pa_nil) (nomark _))))))
        (pss_one (ps_ret pe_non))
        pss_nil)
      (pss_one (ps_ret (pe_tup (pa_cons pe_str (pa_cons (pv 4) (pa_cons (pv 3) pa_nil)))))))))))
        pss_nil)
      (pss_cons (ps_if (PW.pt (pw_and (pt_cmpR op_gt (pe_callB call_len_str (by rfl) T.b_len PySem.boot_len (pa_cons (pv 0) pa_nil)) pe_int (nomark _)) (pw_and1 (pt_cmpR op_in_seq (pe_op op_add_str (pe_ix (r := rIxS) ix_str (pv 0) pe_int (fun _ _ => rfl)) (pe_ix (r := rIxS) ix_str (pv 0) (pe_un un_neg pe_int) (fun _ _ => rfl))) (pe_lst (pa_cons pe_str (pa_cons pe_str pa_nil))) (by with_unfolding_all rfl)))))
        (pss_one (ps_ret (pe_cal C__law_parted (hr.mono (by first | decide | omega)) pass0 (pa_cons (pv 0) (pa_cons (pv 1) pa_nil)))))
        pss_nil)
      (pss_one (ps_ret (pe_cal C__law_leaf (hr.mono (by first | decide | omega)) pass0 (pa_cons (pv 0) pa_nil))))))), ?_⟩
  have hem : ("" : Str) = SX.S [] := by decide +kernel
  have hcb : ("}" : Str) = SX.S [125] := by decide +kernel
  have hob : ("{" : Str) = SX.S [123] := by decide +kernel
  have hdef : pParse (n + 1) z = if z = [] then none else if z.getLast? = some 125 then pChoose (pParse n) z else if 2 < z.length ∧ ((z.head? = some 40 ∧ z.getLast? = some 41) ∨ (z.head? = some 91 ∧ z.getLast? = some 93)) then pParted (pParse n) z else pLeaf z := rfl
  rw [hdef] at qn q
  by_cases c0 : z = []
  · rw [if_pos c0] at qn
    refine ⟨_, rfl, rfl, _, rfl, iteY (by rw [c0, hem]) ?_⟩
    exact qn rfl H (Same.refl H)
  rw [if_neg c0] at qn q
  refine ⟨_, rfl, rfl, _, rfl, iteN (fun e => c0 (by rw [hem] at e; exact SS_eq.mp e)) ?_⟩
  refine ⟨_, rfl, _, _, rfl, rfl, _, rfl, iteN (by omega) ?_⟩
  obtain ⟨x, hx⟩ : ∃ x, z.getLast? = some x := ⟨z.getLast c0, List.getLast?_eq_getLast c0⟩
  obtain ⟨o, t, hot⟩ : ∃ o t, z = o :: t := by
    cases z with
    | nil => exact absurd rfl c0
    | cons o t => exact ⟨o, t, rfl⟩
  have hhead : z.head? = some o := by rw [hot]; rfl
  have hat0 : z[0]? = some o := by rw [hot]; rfl
  refine ⟨_, rfl, _, rfl, SX.S z, _, x, rfl, rfl, hz, atS_last hx, rfl, _, rfl, ?_⟩
  by_cases c1 : x = 125
  · rw [if_pos (by rw [hx, c1])] at qn q
    refine iteY (by rw [hcb, c1]) ?_
    refine ⟨_, rfl, ⟨_, rfl⟩, _, _, rfl, rfl, ?_⟩
    rw [hob, rfind_is]
    obtain ⟨L, hL⟩ : ∃ L, L = lastB 123 z := ⟨_, rfl⟩
    unfold pChoose at qn q
    rw [← hL] at qn q ⊢
    obtain ⟨nm, hnm⟩ : ∃ nm, nm = sub z L (z.length - 1) := ⟨_, rfl⟩
    rw [← hnm] at qn q
    have hcut : cutS (SX.S z) (some ((L : Int) - 1 + 1)) (some (-1)) = SX.S nm := by
      rw [show ((L : Int) - 1 + 1) = (L : Int) by omega, hnm]
      exact cutS_neg z L (by rw [hot]; exact Nat.succ_le_succ (Nat.zero_le _))
    have htn : tameS nm = true := by rw [hnm]; exact tame_sub ht _ _
    have hnl := tame_len htn
    refine ⟨_, rfl, _, rfl, _, _, rfl, rfl, _, rfl, _, rfl, _, rfl, SX.S z, rfl, hz, ⟨_, rfl⟩, _, _, congrArg V.str hcut, rfl, by decide +kernel, (by rw [SX.S_len]; exact le_line (by omega)), fun p5 n5 => ?_⟩
    rw [split_is]
    obtain ⟨ns, hns⟩ : ∃ ns, ns = TL.spl [44] 0 [] nm := ⟨_, rfl⟩
    rw [← hns] at qn q
    have hnsl : ns.length ≤ 1000001 := by
      have := spl_len nm [] 0
      rw [← hns] at this
      omega
    have hns128 : ∀ s ∈ ns, ∀ c ∈ s, c < 128 := fun s hs c hc => by
      rw [hns] at hs
      rcases spl_in nm [] 0 s hs c hc with h | h
      · cases h
      · exact (tameS_is htn).2 c h
    have hnst : ∀ s ∈ ns, tameS s = true := fun s hs => by
      have h1 := spl_each nm [] 0 s (by rw [← hns]; exact hs)
      unfold tameS
      rw [Bool.and_eq_true, List.all_eq_true]
      refine ⟨decide_eq_true (by simp at h1; omega), fun c hc => decide_eq_true (hns128 s hs c hc)⟩
    rw [show (TL.spl [44] 0 [] nm).map SX.S = ns.map SX.S by rw [hns]]
    refine ⟨p5, _, rfl, .inl ⟨SqL.of upd_same, fun p6 n6 => ?_⟩⟩
    have s6 := (same_new n5 (.lst ((ns.map SX.S).map V.str))).trans (same_new n6 (.tup ((ns.map SX.S).map V.str)))
    have hp6 : upd (upd H p5 (.lst ((ns.map SX.S).map V.str))) p6 (.tup ((ns.map SX.S).map V.str)) p6 = some (.tup (txs ns)) := upd_same
    generalize upd (upd H p5 (.lst ((ns.map SX.S).map V.str))) p6 (.tup ((ns.map SX.S).map V.str)) = H6 at s6 hp6 ⊢
    refine ⟨_, rfl, _, _, rfl, rfl, _, rfl, ?_⟩
    by_cases c2 : 1 < L
    · rw [if_pos c2] at qn q
      refine iteY (by omega) ?_
      refine ⟨_, rfl, _, rfl, _, rfl, SX.S z, rfl, hz, _, rfl, _, _, rfl, rfl, z.take (L - 1), d + 1, ?_, by omega, ?_, ?_⟩
      · rw [show ((L : Int) - 1) = ((L - 1 : Nat) : Int) by omega, cutS_to8]
        rfl
      · have := tame_cut ht 0 (L - 1)
        rw [List.drop_zero] at this
        exact this
      refine ⟨fun e H7 s7 => ?_, fun r e H7 v s7 hr7 => ?_⟩
      · rw [e] at qn
        refine ⟨_, rfl, rfl, _, rfl, iteY rfl ?_⟩
        exact qn rfl _ (s6.trans s7)
      · rw [e] at qn q
        have hp7 := s7 _ _ hp6
        refine ⟨_, rfl, rfl, _, rfl, iteN (rec_nonP hr7) ?_⟩
        have qn' : ¬ (ns.length ≤ 9 ∧ ns.all nmOk = true) → ∀ H', Same H H' → Q .non H' := fun h => qn (if_neg h)
        have q' : (ns.length ≤ 9 ∧ ns.all nmOk = true) → ∀ H' v, Same H H' → Rec H' (.choose r ns) v → Q v H' := fun h => q _ (if_pos h)
        refine ⟨_, rfl, p6, _, rfl, .inr (SqT.of hp7), _, _, rfl, rfl, _, rfl, ?_⟩
        rw [txs_len]
        by_cases c3 : ns.length ≤ 9
        · refine iteN (by omega) ?_
          refine ⟨_, rfl, p6, rfl, ⟨_, SqT.of hp7⟩, fun Lf nLf => lc_tup (K := K) (a := p6) (xs := txs ns) (fun i G => Same H7 G ∧ G Lf = some (.lst (txs ((ns.take i).filter fun s => !nmOk s)))) ⟨same_new nLf _, upd_same⟩ (fun i G _ h => SqT.of (h.1 _ _ hp7)) (fun i x G hx h => ?_) (fun G h => ?_)⟩
          · have hi : i < ns.length := by
              have := (List.getElem?_eq_some_iff.mp hx).1
              rw [txs_len] at this
              exact this
            have hni : ns[i]? = some ns[i] := List.getElem?_eq_getElem hi
            obtain ⟨w, hw⟩ : ∃ w, w = ns[i] := ⟨_, rfl⟩
            rw [← hw] at hni
            have hx' : x = .str (SX.S w) := by
              have e1 : (txs ns)[i]? = some (.str (SX.S w)) := by unfold txs; rw [List.getElem?_map, List.getElem?_map, hni]; rfl
              exact Option.some.inj (hx.symm.trans e1)
            subst hx'
            refine ⟨rfl, _, rfl, .str (SX.S w), .str w, rfl, rfl, hnst w (List.mem_of_getElem? hni), fun G2 sG2 => ⟨_, rfl, ?_⟩⟩
            have e1 : ns.take (i + 1) = ns.take i ++ [w] := by rw [List.take_add_one, hni]; rfl
            show if (!nmOk w) = true then _ else _
            cases hok : nmOk w with
            | true =>
              refine ⟨h.1.trans sG2, ?_⟩
              rw [e1, List.filter_append, List.filter_cons_of_neg (by rw [hok]; decide), List.filter_nil, List.append_nil]
              exact sG2 _ _ h.2
            | false =>
              refine ⟨_, rfl, _, sG2 _ _ h.2, lt_line (by rw [txs_len]; exact Nat.lt_of_le_of_lt (List.length_filter_le _ _) (by rw [List.length_take]; omega)), same_upd (h.1.trans sG2) nLf _, ?_⟩
              rw [upd_same, e1, List.filter_append, List.filter_cons_of_pos (by rw [hok]; rfl), List.filter_nil, txs_app]
              rfl
          · obtain ⟨g1, g2⟩ := h
            rw [txs_len, List.take_of_length_le (Nat.le_refl _)] at g2
            refine ⟨Nat.zero_le _, fun e9 ne9 => ?_⟩
            have Le : Lf ≠ e9 := ne_of_none g2 ne9
            have s1 := strs_shaped (l := ns.filter fun s => !nmOk s) fun s hs => hns128 s (List.mem_filter.mp hs).1
            refine ⟨_, _, .lst (SqL.of (by rw [upd_ne Le]; exact g2)) (strs_dp _ _ _), .lst (SqL.of upd_same) .nil, shaped_parts.mpr ⟨s1.1, by rw [s1.2]; decide⟩, rfl, _, rfl, ?_⟩
            rw [strs_eqv, no_badS]
            have sE := s6.trans (s7.trans (g1.trans (same_new ne9 (.lst []))))
            cases hall : ns.all nmOk with
            | false => exact iteT (qn' (fun h => by rw [hall] at h; exact Bool.noConfusion h.2) _ sE)
            | true =>
              refine iteF ?_
              refine ⟨_, rfl, _, rfl, le_line (Nat.le_of_ble_eq_true rfl), fun p np => ?_⟩
              have sp := same_new np (.tup [.str "choose", v, .ref p6])
              exact q' ⟨c3, hall⟩ _ _ (sE.trans sp) ⟨p, v, p6, rfl, upd_same, hr7.same ((g1.trans (same_new ne9 (.lst []))).trans sp), sp _ _ (same_new ne9 _ _ _ (g1 _ _ hp7))⟩
        · refine iteY (by omega) ?_
          exact qn' (fun h => c3 h.1) _ (s6.trans s7)
    · rw [if_neg c2] at qn q
      refine iteN (by omega) ?_
      refine ⟨_, rfl, rfl, _, rfl, iteY rfl ?_⟩
      exact qn rfl _ s6
  · rw [if_neg (by rw [hx]; exact fun e => c1 (Option.some.inj e))] at qn q
    refine iteN (fun e => c1 (by rw [hcb] at e; exact List.head_eq_of_cons_eq (SS_eq (a := [x]).mp e))) ?_
    have hxx : ∀ y, z.getLast? = some y ↔ x = y := fun y => by rw [hx]; exact ⟨Option.some.inj, fun e => by rw [e]⟩
    have hoo : ∀ y, z.head? = some y ↔ o = y := fun y => by rw [hhead]; exact ⟨Option.some.inj, fun e => by rw [e]⟩
    have hC : ((z.head? = some 40 ∧ z.getLast? = some 41) ∨ (z.head? = some 91 ∧ z.getLast? = some 93)) ↔ ((o = 40 ∧ x = 41) ∨ (o = 91 ∧ x = 93)) := by
      rw [hxx, hxx, hoo, hoo]
    have leaf : ¬ (2 < z.length ∧ ((z.head? = some 40 ∧ z.getLast? = some 41) ∨ (z.head? = some 91 ∧ z.getLast? = some 93))) → ∀ H', Same H H' → (pLeaf z = none → ∀ H'', Same H' H'' → Q .non H'') ∧ ∀ r, pLeaf z = some r → ∀ H'' v, Same H' H'' → Rec H'' r v → Q v H'' := fun h H' s => by
      rw [if_neg h] at qn q
      exact ⟨fun e H'' s' => qn e H'' (s.trans s'), fun r e H'' v s' hr => q r e H'' v (s.trans s') hr⟩
    refine ⟨_, rfl, _, rfl, hz, _, _, rfl, rfl, _, rfl, ?_⟩
    rw [SX.S_len]
    by_cases c2 : 2 < z.length
    · refine iteY (by omega) ?_
      refine ⟨_, rfl, SX.S z, _, o, rfl, rfl, hz, atS (i := 0) hat0, _, rfl, _, rfl, SX.S z, _, x, rfl, rfl, hz, atS_last hx, _, _, rfl, rfl, le_line (Nat.le_of_ble_eq_true rfl), le_line (Nat.le_of_ble_eq_true rfl), fun l nl => ?_⟩
      have sl := same_new nl (.lst [.str "()", .str "[]"])
      have h2 : ([.str "()", .str "[]"] : List V) = txs [[40, 41], [91, 93]] := by
        rw [show ("()" : Str) = SX.S [40, 41] by decide +kernel, show ("[]" : Str) = SX.S [91, 93] by decide +kernel]
        rfl
      refine ⟨l, _, rfl, .inl (SqL.of upd_same), rfl, rfl, _, rfl, ?_⟩
      rw [h2]
      show if inV (.str (SX.S [o, x])) (txs [[40, 41], [91, 93]]) = true then _ else _
      rw [inV_txs]
      by_cases c3 : (o = 40 ∧ x = 41) ∨ (o = 91 ∧ x = 93)
      · rw [if_pos ⟨c2, hC.mpr c3⟩] at qn q
        refine iteY (by rcases c3 with ⟨rfl, rfl⟩ | ⟨rfl, rfl⟩ <;> decide) ?_
        refine ⟨_, rfl, _, rfl, z, d, rfl, by omega, ht, c2, ?_, fun e H' s' => qn e H' (sl.trans s'), fun r e H' v s' hr => q r e H' v (sl.trans s') hr⟩
        exact hC.mpr c3
      · refine iteN (fun e => c3 (by
          simp only [List.mem_cons, List.not_mem_nil, or_false] at e
          rcases e with e | e
          · injection e with e1 e2
            injection e2 with e2 _
            exact .inl ⟨e1, e2⟩
          · injection e with e1 e2
            injection e2 with e2 _
            exact .inr ⟨e1, e2⟩)) ?_
        exact ⟨_, rfl, z, rfl, ht, leaf (fun h => c3 (hC.mp h.2)) _ sl⟩
    · refine iteN (by omega) ?_
      exact ⟨_, rfl, z, rfl, ht, leaf (fun h => c2 h.1) _ (Same.refl H)⟩
theorem all__law_parse (T : Txt K mg) (D : IsDef K mg "_law_parse" s__law_parse ["text", "depth"]) (D2 : IsDef K mg "_law_parted" s__law_parted ["text", "depth"]) (C_name : Cal P w K mg base CX0 1 "_law_is_name" ["thing"] spIsName) (C_leaf : Cal P w K mg base CX0 2 "_law_leaf" ["text"] spLeafP)
    (C_places : Cal P w K mg base CX0 1 "_law_places" ["text", "words"] spPlaces) : ∀ n, Cal P w K mg base CX0 (2 * n + 4) "_law_parse" ["text", "depth"] (spParse n)
  | 0 => ok__law_parse0 T D D2 C_name C_leaf
  | n + 1 => ok__law_parse T D C_name C_leaf (all__law_parse T D D2 C_name C_leaf C_places n) (ok__law_parted T D2 C_places (all__law_parse T D D2 C_name C_leaf C_places n))
end
end Mad
/-! ### s[::-1] of a text -/
namespace L2
open PySem PySem.Spec PyProof.Rows
def revIx (n : Nat) : List Nat := Builtin.Str.strSliceIndices none none (-1) n
def revT (z : Str) : Str := ⟨((revIx z.length).filterMap (z.cps[·]?)).toArray⟩
def tRevS (te : TE) : TE := fun σ H Q => te σ H fun x H1 => ∃ z : Str, x = .str z ∧ (revT z).length ≤ sizeLine ∧ Q (.str (revT z)) H1
section
variable {X : Cx}
theorem pe_revS {e : Expr} {te : TE} {k : Nat} {p1 p2 p3 pos : Pos} (he : PE X e te) : PE X (.Subscript e (.Slice none none (some (.UnaryOp .USub (.Constant (.int 1) k p1) p2)) p3) pos) (tRevS te) := by
  refine ⟨fun pins s σ H Q I h => ?_⟩
  refine Subscript_ (thn (he.run pins s σ H _ I h) fun v s1 ⟨x, H1, I1, r1, q1⟩ => ?_)
  obtain ⟨z, ex, hz, q⟩ := q1
  subst ex
  obtain ⟨t, rfl⟩ := id r1
  have hst : PO X (some (.UnaryOp .USub (.Constant (.int 1) k p1) p2)) (tPart (tUn (rU fun i => .int (-i)) (tC (.int 1)))) := po_some (pe_un un_neg pe_int)
  refine wpAny_Slice (thn (po_none.run pins s1 σ H1 (fun o H2 => o = none ∧ H2 = H1) I1 ⟨rfl, rfl⟩) fun vl s2 ⟨l, H2, I2, pl, el, e2⟩ => ?_)
  subst el e2
  refine thn (po_none.run pins s2 σ H2 (fun o H3 => o = none ∧ H3 = H2) I2 ⟨rfl, rfl⟩) fun vu s3 ⟨u, H3, I3, pu, eu, e3⟩ => ?_
  subst eu e3
  refine thn (hst.run pins s3 σ H3 (fun o H4 => o = some (-1) ∧ H4 = H3) I3 ⟨1, rfl, -1, rfl, rfl, rfl⟩) fun vs s4 ⟨o, H4, I4, ps, eo, e4⟩ => ?_
  subst eo e4
  have I5 : Inv X pins σ H4 { s4 with heap := s4.heap.push { cls := .type "slice", data := .fields #[vl, vu, vs] } } := I4.kept (t' := s4.toks) fun b ob q => Heap.get?_push_of_some _ q
  show wpAny (model X.prog X.w) X.A (subscriptTail e (.Slice none none (some (.UnaryOp .USub (.Constant (.int 1) k p1) p2)) p3) (.str z t) (.ref s4.heap.objs.size)) (EP X pins σ Q) X.xe { s4 with heap := s4.heap.push { cls := .type "slice", data := .fields #[vl, vu, vs] } }
  refine tail_any (ops := [.str z t, .ref s4.heap.objs.size]) (typeIs_str _ _ _) (PySem.F.slot_str_getitem.lookup) ?_ (by with_unfolding_all rfl)
  obtain ⟨l, rfl, hl⟩ := IsPart.raw pl
  obtain ⟨u, rfl, hu⟩ := IsPart.raw pu
  obtain ⟨st, rfl, hstp⟩ := IsPart.raw ps
  refine wpAny_getItem_str_slice (l := l) (u := u) (st := st) ⟨_, Heap.get?_push_size _ rfl, rfl, rfl⟩ (by rw [hstp]; rfl) ?_
  unfold sliceMade slicePicked
  rw [hl, hu, hstp]
  exact ⟨hz, .str _, H4, I5.tok _, ⟨_, rfl⟩, q⟩
end
end L2
namespace Mad
open PySem PySem.Spec PyProof.Rows L2
theorem rev_small (l : List Nat) (h : l.length ≤ 2) : ∃ l', revT (SX.S l) = SX.S l' ∧ l'.length ≤ 2 ∧ ∀ c ∈ l', c ∈ l := by
  match l, h with
  | [], _ => exact ⟨[], (by
      unfold revT
      rw [SX.S_len, show revIx ([] : List Nat).length = [] by decide +kernel]
      rfl), Nat.zero_le _, fun _ h => (by cases h)⟩
  | [a], _ => exact ⟨[a], (by
      unfold revT
      rw [SX.S_len, show revIx [a].length = [0] from (show revIx 1 = [0] by decide +kernel)]
      rfl), Nat.le_succ _, fun _ h => h⟩
  | [a, b], _ => exact ⟨[b, a], (by
      unfold revT
      rw [SX.S_len, show revIx [a, b].length = [1, 0] from (show revIx 2 = [1, 0] by decide +kernel)]
      rfl), Nat.le_refl _, fun c h => by simp at h ⊢; omega⟩
/-! ### a text times a number of two or more -/
def rRepS : R2 := fun x y H Q => ∃ (z : List Nat) (k : Nat), x = .str (SX.S z) ∧ y = .int (k : Int) ∧ 2 ≤ k ∧ k ≤ 1000 ∧ 1 ≤ z.length ∧ z.length ≤ 1000 ∧ Q (.str (SX.S (List.replicate k z).flatten)) H
theorem rep_flat (z : List Nat) : ∀ (k : Nat) (acc : Array Nat), (List.replicate k z.toArray).foldl (· ++ ·) acc = (acc.toList ++ (List.replicate k z).flatten).toArray
  | 0, acc => by simp
  | k + 1, acc => by
    rw [List.replicate_succ, List.foldl_cons, rep_flat z k, List.replicate_succ, List.flatten_cons]
    simp
section
variable {X : Cx}
theorem op_repS : OpR X (binaryOp .Mult) rRepS := by
  intro pins s σ H x y v u Q I rx ry h
  obtain ⟨z, k, rfl, rfl, h2, hk, h1, hz, q⟩ := h
  obtain ⟨t, rfl⟩ := rx
  obtain ⟨t', rfl⟩ := ry
  have hlen := SX.S_len z
  have hn1 : ¬ ((k : Nat) : Int) < 1 := by omega
  have hn2 : (((k : Nat) : Int) == 1 || (SX.S z).length == 0) = false := by
    rw [hlen, Bool.or_eq_false_iff]
    exact ⟨beq_eq_false_iff_ne.mpr (by omega), beq_eq_false_iff_ne.mpr (by omega)⟩
  have hmul : z.length * k ≤ 1000 * 1000 := Nat.mul_le_mul hz hk
  have hsz : 1000 * 1000 ≤ sizeLine := le_line (Nat.le_of_ble_eq_true rfl)
  refine PySem.P.mul_str ?_ (fun _ _ => ?_) (fun _ _ => ?_) ?_
  · rw [decide_eq_false (by omega), decide_eq_false (by omega)]
    rfl
  · rw [hlen]
    have : (1000 : Int) ≤ (2 ^ 63 - 1) / (k : Int) := (Int.le_ediv_iff_mul_le (by omega)).mpr (by omega)
    omega
  · rw [hlen]
    refine decide_eq_false ?_
    show ¬ _
    rw [Int.toNat_natCast]
    omega
  · rw [if_neg hn1, hn2, if_neg Bool.false_ne_true]
    rw [Int.toNat_natCast, show (SX.S z).cps = z.toArray from rfl, rep_flat]
    refine ⟨?_, ⟨.str _, H, I.tok _, ⟨_, rfl⟩, q⟩⟩
    have e : (List.replicate k z).flatten.length ≤ sizeLine := by
      rw [List.length_flatten, List.map_replicate, List.sum_replicate_nat, Nat.mul_comm]
      omega
    have e2 : (SX.S (List.replicate k z).flatten).length ≤ sizeLine := by rw [SX.S_len]; exact e
    exact e2
end
/-- what the module's error classes say -/
structure Errs (K : PySem.W.Frag) (mg : Str → Option Value) (C CM c1 c2 c3 c4 c5 c6 : Addr) : Prop where
  gM : mg "MadeError" = some (.ref CM)
  gT : mg "NoText" = some (.ref C)
  g1 : mg "NoDeed" = some (.ref c1)
  g2 : mg "NoName" = some (.ref c2)
  g3 : mg "NoRead" = some (.ref c3)
  g4 : mg "NoRecord" = some (.ref c4)
  g5 : mg "NoRow" = some (.ref c5)
  g6 : mg "Ring" = some (.ref c6)
  bV : mg "ValueError" = none
  exm : PySem.W.exmOne K (.ref C) (.ref CM) = some true
  exc : ExcC K C
  isT : PySem.W.kitOne K (.ref C) (.ref C) = some true
  isV : PySem.W.kitOne K (.ref C) (.type "ValueError") = some true
  isN : PySem.W.kitAny K (.ref C) [.ref c1, .ref c2, .ref c3, .ref c4, .ref c5, .ref c6] = some false
def spLRead : Sp := fun vs H Q _ => ∃ (v : V) (t : Th), vs = [v] ∧ Data H t v ∧ t.tame = true ∧ rRead t = none ∧ ∀ H', Same H H' → Q (.int 0) H'
section
variable {P : Program} {w : World} {K : PySem.W.Frag} {mg : Str → Option Value} {base : Heap}
abbrev s__law_read : Stmt := topS 49
abbrev N__law_read : List Str := ["text", "caught", "found", "e"]
theorem sc__law_read : FnScope N__law_read ["text"] (defScope s__law_read) := ⟨rfl, rfl, rfl, by decide +kernel, rfl, by decide +kernel, by decide +kernel⟩

theorem ok__law_read {C CM c1 c2 c3 c4 c5 c6 : Addr} (T : Txt K mg) (R : Errs K mg C CM c1 c2 c3 c4 c5 c6) (D : IsDef K mg "_law_read" s__law_read ["text"]) (C_read_recipe : Cal P w K mg base (L2.CX P w) 20 "read_recipe" ["text"] (spRead C)) :
    Cal P w K mg base CX0 21 "_law_read" ["text"] spLRead := by
  refine D.cal sc__law_read (fun vs H Q E h => ?_) (fun f cdv A outer s H vs Q E hr h => ?_)
  · obtain ⟨v, t, rfl, _⟩ := h
    rfl
  obtain ⟨v, t, rfl, hv, ht, hn, q⟩ := h
  have GMadeError := R.gM
  have GNoText := R.gT
  have GNoDeed := R.g1
  have GNoName := R.g2
  have GNoRead := R.g3
  have GNoRecord := R.g4
  have GNoRow := R.g5
  have GRing := R.g6
  refine ⟨_, (pss_cons (ps_set (i := 1) sc__law_read.nd rfl (Or.inl rfl) pe_non)
      (pss_cons (ps_set (i := 2) sc__law_read.nd rfl (Or.inl rfl) pe_non)
      (pss_cons (ps_try_keep (i := 3) rfl rfl sc__law_read.nd rfl rfl ⟨rfl, by decide, .inl GMadeError⟩ takes0 (fun W pn xe tk _ => (pss_one (ps_set (i := 2) sc__law_read.nd rfl (Or.inl rfl) (pe_calS C_read_recipe (hr.mono (by first | decide | omega)) (fun σ => passAt tk σ) (pa_cons (pv 0) pa_nil)))))
        (fun a cls d pn => (pss_one (ps_set (i := 1) sc__law_read.nd rfl (Or.inl rfl) (pv 3)))))
      (pss_cons (ps_if (pt_cmpR op_isN (pv 1) pe_non (nomark _))
        (pss_one (ps_ret (pv 2)))
        pss_nil)
      (pss_cons (ps_if (PW.pt (pw_and (pt_val (pe_callB call_isX (by rfl) T.b_isinstance (by decide +kernel) (pa_cons (pv 1) (pa_cons (pe_glob (v := .ref _) rfl GNoText rfl) pa_nil)))) (pw_and1 (pt_val (pe_callB call_isX (by rfl) T.b_isinstance (by decide +kernel) (pa_cons (pv 1) (pa_cons (pe_bltn (v := .ty "ValueError") (by rfl) T.b_ValueError (by decide +kernel) rfl) pa_nil)))))))
        (pss_one (ps_ret (pe_callTy call_int1 (by rfl) T.b_int (by decide +kernel) (pa_cons (pe_callB call_isXT (by rfl) T.b_isinstance (by decide +kernel) (pa_cons (pv 1) (pa_cons (pe_tup (pa_cons (pe_glob (v := .ref _) rfl GNoDeed rfl) (pa_cons (pe_glob (v := .ref _) rfl GNoName rfl) (pa_cons (pe_glob (v := .ref _) rfl GNoRead rfl) (pa_cons (pe_glob (v := .ref _) rfl GNoRecord rfl) (pa_cons (pe_glob (v := .ref _) rfl GNoRow rfl) (pa_cons (pe_glob (v := .ref _) rfl GRing rfl) pa_nil))))))) pa_nil))) pa_nil))))
        pss_nil)
      (pss_one (ps_ret pe_int))))))), ?_⟩
  refine ⟨_, rfl, v, t, rfl, hv, ht, fun _ H1 hs1 => ?_, fun r e => by rw [hn] at e; cases e⟩
  refine ⟨true, R.exm, fun _ a na => ?_, fun z => nomatch z⟩
  refine ⟨_, rfl, ?_⟩
  refine ⟨_, rfl, rfl, _, rfl, iteN (fun z => nomatch z) ?_⟩
  refine ⟨_, rfl, a, C, _, _, true, rfl, upd_same, R.exc, .own C, R.isT, _, rfl, iteT ?_⟩
  refine ⟨_, rfl, a, C, _, _, true, rfl, upd_same, R.exc, .ty _, R.isV, _, rfl, iteT ?_⟩
  refine ⟨_, rfl, le_line (Nat.le_of_ble_eq_true rfl), fun tp ntp => ?_⟩
  have hat : a ≠ tp := ne_of_none upd_same ntp
  refine ⟨a, C, tp, _, _, false, rfl, upd_same, .cons (.own c1) (.cons (.own c2) (.cons (.own c3) (.cons (.own c4) (.cons (.own c5) (.cons (.own c6) .nil))))), by rw [upd_ne hat]; exact upd_same, R.exc, R.isN, .inr ⟨false, rfl, ?_⟩⟩
  exact q _ (hs1.trans ((same_new na _).trans (same_new ntp _)))
end
/-! ### what is due; what is read; a text changed -/
def spDue : Sp := fun vs H Q _ => ∃ (z : List Nat), vs = [.str (SX.S z)] ∧ tameS z = true ∧ (rRead (.str z) = none → ∀ H', Same H H' → Q .non H') ∧ ∀ r, rRead (.str z) = some r → r.Good → ∀ H' v, Same H H' → Rec H' r v → Q v H'
def spReadF : Sp := fun vs H Q _ => ∃ (z : List Nat), vs = [.str (SX.S z)] ∧ tameS z = true ∧ (rRead (.str z) = none → ∀ H', Same H H' → Q (.int 0) H') ∧ ∀ r, rRead (.str z) = some r → r.Good → ∀ H' v, Same H H' → Rec H' r v → Q v H'
def spChanged : Sp := fun vs H Q _ => ∃ (B : Hp) (d : Addr) (z : List Nat), vs = [.str (SX.S z), .ref d] ∧ DeckAt B H d ∧ z.length ≤ 100000 ∧ (∀ c ∈ z, c < 128) ∧ ∀ (B' H' : Hp) (z' : List Nat), Same B B' → DeckAt B' H' d → tameS z' = true → Q (.str (SX.S z')) H'
def signsL : List Nat := [32, 40, 41, 91, 93, 123, 125, 63, 58, 44, 43, 45, 42, 94, 48, 97, 57, 122, 9, 10, 65, 95, 47, 46, 59, 126]
theorem signs_isL : (" ()[]{}?:,+-*^0a9z\t\nA_/.;~" : Str) = SX.S signsL := by decide +kernel
section
variable {P : Program} {w : World} {K : PySem.W.Frag} {mg : Str → Option Value} {base : Heap}
abbrev s__law_due : Stmt := topS 48
abbrev N__law_due : List Str := ["text", "found"]
theorem sc__law_due : FnScope N__law_due ["text"] (defScope s__law_due) := ⟨rfl, rfl, rfl, by decide +kernel, rfl, by decide +kernel, by decide +kernel⟩

theorem ok__law_due (T : Txt K mg) (D : IsDef K mg "_law_due" s__law_due ["text"]) (C__law_parse : Cal P w K mg base CX0 20 "_law_parse" ["text", "depth"] (spParse 8)) (C_is : Cal P w K mg base CX0 12 "_law_is" ["thing"] spIsRecipe) : Cal P w K mg base CX0 21 "_law_due" ["text"] spDue := by
  have C__law_is := C_is.mono (show 12 ≤ 20 by omega)
  refine D.cal sc__law_due (fun vs H Q E h => ?_) (fun f cdv A outer s H vs Q E hr h => ?_)
  · obtain ⟨z, rfl, _⟩ := h
    rfl
  obtain ⟨z, rfl, ht, qn, q⟩ := h
  rw [← due_is] at qn
  have q' : ∀ r, pDue z = some r → r.Good → ∀ H' v, Same H H' → Rec H' r v → Q v H' := fun r e => q r (by rw [← due_is]; exact e)
  refine ⟨_, (pss_cons (ps_set (i := 1) sc__law_due.nd rfl (Or.inl rfl) (pe_cal C__law_parse (hr.mono (by first | decide | omega)) pass0 (pa_cons (pv 0) (pa_cons pe_int pa_nil))))
      (pss_cons (ps_if (PW.pt (pw_or (pt_cmpR op_isN (pv 1) pe_non (nomark _)) (pw_or1 (pt_not (pt_val (pe_cal C__law_is (hr.mono (by first | decide | omega)) pass0 (pa_cons (pv 1) pa_nil)))))))
        (pss_one (ps_ret pe_non))
        pss_nil)
      (pss_one (ps_ret (pv 1))))), ?_⟩
  refine ⟨_, rfl, z, 1, rfl, rfl, ht, fun e H1 hs1 => ?_, fun r e H1 v hs1 hR => ?_⟩
  · refine ⟨_, rfl, rfl, _, rfl, iteY rfl ?_⟩
    exact qn (by unfold pDue; rw [e]) _ hs1
  · obtain ⟨_, hG, hd⟩ := parse_rev 8 z r e
    refine ⟨_, rfl, rfl, _, rfl, iteN (rec_nonP hR) ?_⟩
    refine ⟨_, rfl, v, r.th, rfl, hR.data, Rcp.tame hG, fun H2 hs2 => ⟨_, rfl, ?_⟩⟩
    have hdue : pDue z = if r.th.isRcp = true then some r else none := by unfold pDue; rw [e]
    cases hc : r.th.isRcp with
    | true => exact not_true_eq rfl ⟨_, rfl, q' r (by rw [hdue, if_pos hc]) hG _ _ (hs1.trans hs2) (hR.same hs2)⟩
    | false => exact not_false_eq rfl (qn (by rw [hdue, if_neg (by rw [hc]; exact Bool.false_ne_true)]) _ (hs1.trans hs2))
theorem ok__law_readF {C CM c1 c2 c3 c4 c5 c6 : Addr} (T : Txt K mg) (R : Errs K mg C CM c1 c2 c3 c4 c5 c6) (D : IsDef K mg "_law_read" s__law_read ["text"]) (C_read_recipe : Cal P w K mg base (L2.CX P w) 20 "read_recipe" ["text"] (spRead C)) :
    Cal P w K mg base CX0 21 "_law_read" ["text"] spReadF := by
  refine D.cal sc__law_read (fun vs H Q E h => ?_) (fun f cdv A outer s H vs Q E hr h => ?_)
  · obtain ⟨z, rfl, _⟩ := h
    rfl
  obtain ⟨z, rfl, ht, qn, q⟩ := h
  have GMadeError := R.gM
  have GNoText := R.gT
  have GNoDeed := R.g1
  have GNoName := R.g2
  have GNoRead := R.g3
  have GNoRecord := R.g4
  have GNoRow := R.g5
  have GRing := R.g6
  refine ⟨_, (pss_cons (ps_set (i := 1) sc__law_read.nd rfl (Or.inl rfl) pe_non)
      (pss_cons (ps_set (i := 2) sc__law_read.nd rfl (Or.inl rfl) pe_non)
      (pss_cons (ps_try_keep (i := 3) rfl rfl sc__law_read.nd rfl rfl ⟨rfl, by decide, .inl GMadeError⟩ takes0 (fun W pn xe tk _ => (pss_one (ps_set (i := 2) sc__law_read.nd rfl (Or.inl rfl) (pe_calS C_read_recipe (hr.mono (by first | decide | omega)) (fun σ => passAt tk σ) (pa_cons (pv 0) pa_nil)))))
        (fun a cls d pn => (pss_one (ps_set (i := 1) sc__law_read.nd rfl (Or.inl rfl) (pv 3)))))
      (pss_cons (ps_if (pt_cmpR op_isN (pv 1) pe_non (nomark _))
        (pss_one (ps_ret (pv 2)))
        pss_nil)
      (pss_cons (ps_if (PW.pt (pw_and (pt_val (pe_callB call_isX (by rfl) T.b_isinstance (by decide +kernel) (pa_cons (pv 1) (pa_cons (pe_glob (v := .ref _) rfl GNoText rfl) pa_nil)))) (pw_and1 (pt_val (pe_callB call_isX (by rfl) T.b_isinstance (by decide +kernel) (pa_cons (pv 1) (pa_cons (pe_bltn (v := .ty "ValueError") (by rfl) T.b_ValueError (by decide +kernel) rfl) pa_nil)))))))
        (pss_one (ps_ret (pe_callTy call_int1 (by rfl) T.b_int (by decide +kernel) (pa_cons (pe_callB call_isXT (by rfl) T.b_isinstance (by decide +kernel) (pa_cons (pv 1) (pa_cons (pe_tup (pa_cons (pe_glob (v := .ref _) rfl GNoDeed rfl) (pa_cons (pe_glob (v := .ref _) rfl GNoName rfl) (pa_cons (pe_glob (v := .ref _) rfl GNoRead rfl) (pa_cons (pe_glob (v := .ref _) rfl GNoRecord rfl) (pa_cons (pe_glob (v := .ref _) rfl GNoRow rfl) (pa_cons (pe_glob (v := .ref _) rfl GRing rfl) pa_nil))))))) pa_nil))) pa_nil))))
        pss_nil)
      (pss_one (ps_ret pe_int))))))), ?_⟩
  refine ⟨_, rfl, .str (SX.S z), .str z, rfl, rfl, ht, fun hn H1 hs1 => ?_, fun r e hG H1 v hs1 hR => ?_⟩
  · refine ⟨true, R.exm, fun _ a na => ?_, fun z => nomatch z⟩
    refine ⟨_, rfl, ?_⟩
    refine ⟨_, rfl, rfl, _, rfl, iteN (fun z => nomatch z) ?_⟩
    refine ⟨_, rfl, a, C, _, _, true, rfl, upd_same, R.exc, .own C, R.isT, _, rfl, iteT ?_⟩
    refine ⟨_, rfl, a, C, _, _, true, rfl, upd_same, R.exc, .ty _, R.isV, _, rfl, iteT ?_⟩
    refine ⟨_, rfl, le_line (Nat.le_of_ble_eq_true rfl), fun tp ntp => ?_⟩
    have hat : a ≠ tp := ne_of_none upd_same ntp
    refine ⟨a, C, tp, _, _, false, rfl, upd_same, .cons (.own c1) (.cons (.own c2) (.cons (.own c3) (.cons (.own c4) (.cons (.own c5) (.cons (.own c6) .nil))))), by rw [upd_ne hat]; exact upd_same, R.exc, R.isN, .inr ⟨false, rfl, ?_⟩⟩
    exact qn hn _ (hs1.trans ((same_new na _).trans (same_new ntp _)))
  · refine ⟨_, rfl, rfl, _, rfl, iteY rfl ?_⟩
    exact ⟨_, rfl, q r e hG _ v hs1 hR⟩
abbrev s__law_changed : Stmt := topS 50
abbrev N__law_changed : List Str := ["text", "deck", "signs", "at", "sign", "way", "two", "number"]
theorem sc__law_changed : FnScope N__law_changed ["text", "deck"] (defScope s__law_changed) := ⟨rfl, rfl, rfl, by decide +kernel, rfl, by decide +kernel, by decide +kernel⟩

theorem ok__law_changed (T : Txt K mg) (D : IsDef K mg "_law_changed" s__law_changed ["text", "deck"]) (C__law_draw : Cal P w K mg base CX0 1 "_law_draw" ["deck", "many"] spDraw) : Cal P w K mg base CX0 2 "_law_changed" ["text", "deck"] spChanged := by
  refine D.cal sc__law_changed (fun vs H Q E h => ?_) (fun f cdv A outer s H vs Q E hr h => ?_)
  · obtain ⟨B, d, z, rfl, _⟩ := h
    rfl
  obtain ⟨B, d, z, rfl, hD, hzl, hz128, q⟩ := h
  have hz : (SX.S z).length ≤ sizeLine := by rw [SX.S_len]; exact le_line (by omega)
  have small : ∀ {x : Int}, -1000 ≤ x → x ≤ 1000000 → x.natAbs < 2 ^ 200 := fun {x} h0 h1 => by
    have h2 : (2 : Nat) ^ 20 ≤ 2 ^ 200 := Nat.pow_le_pow_right (by decide) (by decide)
    exact Nat.lt_of_lt_of_le (show x.natAbs < 2 ^ 20 by omega) h2
  refine ⟨_, (pss_cons (ps_set (i := 2) sc__law_changed.nd rfl (Or.inl rfl) pe_str)
      (pss_cons (ps_set (i := 3) sc__law_changed.nd rfl (Or.inl rfl) (pe_cal C__law_draw (hr.mono (by first | decide | omega)) pass0 (pa_cons (pv 1) (pa_cons (pe_op op_add (pe_callB call_len_str (by rfl) T.b_len PySem.boot_len (pa_cons (pv 0) pa_nil)) pe_int) pa_nil))))
      (pss_cons (ps_set (i := 4) sc__law_changed.nd rfl (Or.inl rfl) (pe_ix (r := rIxS) ix_str (pv 2) (pe_cal C__law_draw (hr.mono (by first | decide | omega)) pass0 (pa_cons (pv 1) (pa_cons (pe_callB call_len_str (by rfl) T.b_len PySem.boot_len (pa_cons (pv 2) pa_nil)) pa_nil))) (fun _ _ => rfl)))
      (pss_cons (ps_set (i := 5) sc__law_changed.nd rfl (Or.inl rfl) (pe_cal C__law_draw (hr.mono (by first | decide | omega)) pass0 (pa_cons (pv 1) (pa_cons pe_int pa_nil))))
      (pss_cons (ps_if (pt_cmpR op_eq (pv 5) pe_int (nomark _))
        (pss_one (ps_ret (pe_op op_add_str (pe_slice sl_str (pv 0) po_none (po_some (pv 3))) (pe_slice sl_str (pv 0) (po_some (pe_op op_add (pv 3) pe_int)) po_none))))
        pss_nil)
      (pss_cons (ps_if (pt_cmpR op_eq (pv 5) pe_int (nomark _))
        (pss_one (ps_ret (pe_op op_add_str (pe_op op_add_str (pe_slice sl_str (pv 0) po_none (po_some (pv 3))) (pv 4)) (pe_slice sl_str (pv 0) (po_some (pv 3)) po_none))))
        pss_nil)
      (pss_cons (ps_if (pt_cmpR op_eq (pv 5) pe_int (nomark _))
        (pss_one (ps_ret (pe_op op_add_str (pe_op op_add_str (pe_slice sl_str (pv 0) po_none (po_some (pv 3))) (pv 4)) (pe_slice sl_str (pv 0) (po_some (pe_op op_add (pv 3) pe_int)) po_none))))
        pss_nil)
      (pss_cons (ps_if (pt_cmpR op_eq (pv 5) pe_int (nomark _))
        (pss_one (ps_ret (pe_op op_add_str (pe_op op_add_str (pe_slice sl_str (pv 0) po_none (po_some (pv 3))) (pe_slice sl_str (pv 0) (po_some (pv 3)) (po_some (pe_op op_add (pv 3) pe_int)))) (pe_slice sl_str (pv 0) (po_some (pv 3)) po_none))))
        pss_nil)
      (pss_cons (ps_if (pt_cmpR op_eq (pv 5) pe_int (nomark _))
        (pss_cons (ps_set (i := 6) sc__law_changed.nd rfl (Or.inl rfl) (pe_slice sl_str (pv 0) (po_some (pv 3)) (po_some (pe_op op_add (pv 3) pe_int))))
      (pss_one (ps_ret (pe_op op_add_str (pe_op op_add_str (pe_slice sl_str (pv 0) po_none (po_some (pv 3))) (pe_revS (pv 6))) (pe_slice sl_str (pv 0) (po_some (pe_op op_add (pv 3) pe_int)) po_none)))))
        pss_nil)
      (pss_cons (ps_if (pt_cmpR op_eq (pv 5) pe_int (nomark _))
        (pss_one (ps_ret (pe_slice sl_str (pv 0) (po_some (pv 3)) (po_some (pe_op op_add (pe_op op_add (pv 3) pe_int) (pe_cal C__law_draw (hr.mono (by first | decide | omega)) pass0 (pa_cons (pv 1) (pa_cons (pe_op op_add (pe_callB call_len_str (by rfl) T.b_len PySem.boot_len (pa_cons (pv 0) pa_nil)) pe_int) pa_nil))))))))
        pss_nil)
      (pss_cons (ps_if (pt_cmpR op_eq (pv 5) pe_int (nomark _))
        (pss_cons (ps_set (i := 7) sc__law_changed.nd rfl (Or.inl rfl) (pe_ix (r := rIxL K) ix_list (pe_lst (pa_cons pe_str (pa_cons pe_str (pa_cons pe_str (pa_cons pe_str (pa_cons pe_str (pa_cons (pe_op op_repS pe_str pe_int) (pa_cons (pe_op op_repS pe_str pe_int) (pa_cons (pe_op op_add_str pe_str (pe_op op_repS pe_str pe_int)) (pa_cons pe_str (pa_cons pe_str pa_nil))))))))))) (pe_cal C__law_draw (hr.mono (by first | decide | omega)) pass0 (pa_cons (pv 1) (pa_cons pe_int pa_nil))) (fun _ _ => rfl)))
      (pss_one (ps_ret (pe_op op_add_str (pe_op op_add_str (pe_slice sl_str (pv 0) po_none (po_some (pv 3))) (pv 7)) (pe_slice sl_str (pv 0) (po_some (pe_op op_add (pv 3) (pe_cal C__law_draw (hr.mono (by first | decide | omega)) pass0 (pa_cons (pv 1) (pa_cons pe_int pa_nil))))) po_none)))))
        pss_nil)
      (pss_one (ps_ret (pe_op op_add_str (pe_op op_add_str (pv 0) (pe_ix (r := rIxL K) ix_list (pe_lst (pa_cons pe_str (pa_cons pe_str (pa_cons pe_str pa_nil)))) (pe_cal C__law_draw (hr.mono (by first | decide | omega)) pass0 (pa_cons (pv 1) (pa_cons pe_int pa_nil))) (fun _ _ => rfl))) (pe_slice sl_str (pv 0) po_none (po_some (pv 3))))))))))))))))), ?_⟩
  refine ⟨_, rfl, _, rfl, _, rfl, hz, _, _, rfl, rfl, B, d, _, rfl, hD, ?_, ?_, fun H1 a hD1 a0 a1 => ?_⟩
  · show (0 : Int) < (((SX.S z).length : Nat) : Int) + 1
    omega
  · refine small ?_ ?_
    · show -1000 ≤ (((SX.S z).length : Nat) : Int) + 1
      omega
    · show (((SX.S z).length : Nat) : Int) + 1 ≤ 1000000
      rw [SX.S_len]
      omega
  rw [SX.S_len] at a1
  obtain ⟨an, rfl⟩ : ∃ an : Nat, a = (an : Int) := ⟨a.toNat, by omega⟩
  have hsl : (" ()[]{}?:,+-*^0a9z\t\nA_/.;~" : Str).length = 26 := by rw [signs_isL, SX.S_len]; rfl
  refine ⟨_, rfl, _, rfl, _, rfl, _, rfl, (by rw [hsl]; exact le_line (by decide)), B, d, _, rfl, hD1, ?_, ?_, fun H2 b hD2 b0 b1 => ?_⟩
  · rw [hsl]; decide
  · rw [hsl]; exact small (by decide) (by decide)
  rw [hsl] at b1
  obtain ⟨sg, hsg, hsg128⟩ : ∃ sg, atI (" ()[]{}?:,+-*^0a9z\t\nA_/.;~" : Str).cps.toList b = some sg ∧ sg < 128 := by
    obtain ⟨bn, rfl⟩ : ∃ bn : Nat, b = (bn : Int) := ⟨b.toNat, by omega⟩
    have hb : bn < signsL.length := by show bn < 26; omega
    refine ⟨signsL[bn], ?_, (show ∀ c ∈ signsL, c < 128 by decide) _ (List.getElem_mem hb)⟩
    rw [signs_isL]
    exact atS (List.getElem?_eq_getElem hb)
  refine ⟨_, b, sg, rfl, rfl, (by rw [hsl]; exact le_line (by decide)), hsg, ?_⟩
  refine ⟨_, rfl, B, d, 8, rfl, hD2, by decide, by decide, fun H3 way hD3 w0 w1 => ?_⟩
  have fin : ∀ {B' H' : Hp} (l : List Nat), Same B B' → DeckAt B' H' d → l.length ≤ 900000 → (∀ c ∈ l, c < 128) → Q (.str (SX.S l)) H' := fun l s hD hl h => q _ _ l s hD (by
    unfold tameS
    rw [Bool.and_eq_true, List.all_eq_true]
    exact ⟨decide_eq_true (by omega), fun c hc => decide_eq_true (h c hc)⟩)
  have e1 : cutS (SX.S z) none (some (an : Int)) = SX.S (z.take an) := cutS_to8 z an
  have e2 : cutS (SX.S z) (some (an : Int)) none = SX.S (z.drop an) := cutS_from z an
  have e3 : ∀ k : Nat, cutS (SX.S z) (some ((an : Int) + (k : Int))) none = SX.S (z.drop (an + k)) := fun k => cutS_from z (an + k)
  have e4 : ∀ k : Nat, cutS (SX.S z) (some (an : Int)) (some ((an : Int) + (k : Int))) = SX.S ((z.drop an).take k) := fun k => cutS_add z an k
  have m1 : ∀ {k : Nat}, ∀ c ∈ z.take k, c < 128 := fun c hc => hz128 c (List.mem_of_mem_take hc)
  have m2 : ∀ {k : Nat}, ∀ c ∈ z.drop k, c < 128 := fun c hc => hz128 c (List.mem_of_mem_drop hc)
  have l1 : ∀ {k : Nat}, (z.take k).length ≤ z.length := fun {k} => by rw [List.length_take]; omega
  have l2 : ∀ {k : Nat}, (z.drop k).length ≤ z.length := fun {k} => by rw [List.length_drop]; omega
  have cat : ∀ {a b : List Nat}, (∀ c ∈ a, c < 128) → (∀ c ∈ b, c < 128) → ∀ c ∈ a ++ b, c < 128 := fun h k c hc => (List.mem_append.mp hc).elim (h c) (k c)
  have big : ∀ {a b : List Nat}, a.length + b.length ≤ 900000 → (SX.S a).length + (SX.S b).length ≤ sizeLine := fun {a b} h => by rw [SX.S_len, SX.S_len]; exact le_line (by omega)
  refine ⟨_, rfl, rfl, _, rfl, ite2 (fun _ => ?_) (fun _ => ?_)⟩
  · refine ⟨_, rfl, _, rfl, _, rfl, SX.S z, rfl, hz, _, rfl, _, rfl, _, _, rfl, rfl, _, rfl, SX.S z, rfl, hz, _, _, congrArg V.str e1, congrArg V.str (e3 1), big (by have := l1 (k := an); have := l2 (k := an + 1); omega), ?_⟩
    rw [SX.S_cat]
    exact fin _ (Same.refl B) hD3 (by have := l1 (k := an); have := l2 (k := an + 1); rw [List.length_append]; omega) (cat m1 m2)
  have le1 : (z.take an).length ≤ 100000 := Nat.le_trans l1 hzl
  have le2 : ∀ {k : Nat}, (z.drop k).length ≤ 100000 := fun {k} => Nat.le_trans l2 hzl
  have sg1 : ∀ c ∈ [sg], c < 128 := fun c hc => by rw [List.mem_singleton.mp hc]; exact hsg128
  refine ⟨_, rfl, rfl, _, rfl, ite2 (fun _ => ?_) (fun _ => ?_)⟩
  · refine ⟨_, rfl, _, rfl, _, rfl, SX.S z, rfl, hz, _, rfl, _, _, congrArg V.str e1, (show V.str ⟨#[sg]⟩ = V.str (SX.S [sg]) from rfl), big (by show _ + 1 ≤ _; omega), ?_⟩
    rw [SX.S_cat]
    refine ⟨_, rfl, _, rfl, _, rfl, SX.S z, rfl, hz, _, _, rfl, congrArg V.str e2, big (by have := le2 (k := an); rw [List.length_append]; show _ + 1 + _ ≤ _; omega), ?_⟩
    rw [SX.S_cat]
    exact fin _ (Same.refl B) hD3 (by have := le2 (k := an); rw [List.length_append, List.length_append]; show _ + 1 + _ ≤ _; omega) (cat (cat m1 sg1) m2)
  refine ⟨_, rfl, rfl, _, rfl, ite2 (fun _ => ?_) (fun _ => ?_)⟩
  · refine ⟨_, rfl, _, rfl, _, rfl, SX.S z, rfl, hz, _, rfl, _, _, congrArg V.str e1, (show V.str ⟨#[sg]⟩ = V.str (SX.S [sg]) from rfl), big (by show _ + 1 ≤ _; omega), ?_⟩
    rw [SX.S_cat]
    refine ⟨_, rfl, _, rfl, _, _, rfl, rfl, _, rfl, SX.S z, rfl, hz, _, _, rfl, congrArg V.str (e3 1), big (by have := le2 (k := an + 1); rw [List.length_append]; show _ + 1 + _ ≤ _; omega), ?_⟩
    rw [SX.S_cat]
    exact fin _ (Same.refl B) hD3 (by have := le2 (k := an + 1); rw [List.length_append, List.length_append]; show _ + 1 + _ ≤ _; omega) (cat (cat m1 sg1) m2)
  refine ⟨_, rfl, rfl, _, rfl, ite2 (fun _ => ?_) (fun _ => ?_)⟩
  · have le3 : ((z.drop an).take 1).length ≤ 100000 := by have := le2 (k := an); rw [List.length_take]; omega
    have m3 : ∀ c ∈ (z.drop an).take 1, c < 128 := fun c hc => m2 c (List.mem_of_mem_take hc)
    refine ⟨_, rfl, _, rfl, _, rfl, SX.S z, rfl, hz, _, rfl, _, rfl, _, rfl, _, rfl, _, _, rfl, rfl, _, rfl, SX.S z, rfl, hz, _, _, congrArg V.str e1, congrArg V.str (e4 1), big (by omega), ?_⟩
    rw [SX.S_cat]
    refine ⟨_, rfl, _, rfl, _, rfl, SX.S z, rfl, hz, _, _, rfl, congrArg V.str e2, big (by have := le2 (k := an); rw [List.length_append]; omega), ?_⟩
    rw [SX.S_cat]
    exact fin _ (Same.refl B) hD3 (by have := le2 (k := an); rw [List.length_append, List.length_append]; omega) (cat (cat m1 m3) m2)
  refine ⟨_, rfl, rfl, _, rfl, ite2 (fun _ => ?_) (fun _ => ?_)⟩
  · refine ⟨_, rfl, _, rfl, _, rfl, _, rfl, _, _, rfl, rfl, _, rfl, SX.S z, rfl, hz, ?_⟩
    show gName 6 (V.str (cutS (SX.S z) (some (an : Int)) (some ((an : Int) + 2)))) _ _ _
    rw [show cutS (SX.S z) (some (an : Int)) (some ((an : Int) + 2)) = SX.S ((z.drop an).take 2) from e4 2]
    obtain ⟨l', r1, r2, r3⟩ := rev_small ((z.drop an).take 2) (by rw [List.length_take]; omega)
    have m3 : ∀ c ∈ l', c < 128 := fun c hc => m2 c (List.mem_of_mem_take (r3 c hc))
    refine ⟨_, rfl, _, rfl, _, rfl, SX.S z, rfl, hz, _, rfl, _, rfl, by rw [r1, SX.S_len]; exact le_line (by omega), _, _, congrArg V.str e1, congrArg V.str r1, big (by omega), ?_⟩
    rw [SX.S_cat]
    refine ⟨_, rfl, _, rfl, _, _, rfl, rfl, _, rfl, SX.S z, rfl, hz, _, _, rfl, congrArg V.str (e3 2), big (by have := le2 (k := an + 2); rw [List.length_append]; omega), ?_⟩
    rw [SX.S_cat]
    exact fin _ (Same.refl B) hD3 (by have := le2 (k := an + 2); rw [List.length_append, List.length_append]; omega) (cat (cat m1 m3) m2)
  refine ⟨_, rfl, rfl, _, rfl, ite2 (fun _ => ?_) (fun _ => ?_)⟩
  · refine ⟨_, rfl, _, rfl, _, rfl, _, rfl, _, _, rfl, rfl, _, rfl, _, rfl, _, rfl, hz, _, _, rfl, rfl, B, d, _, rfl, hD3, ?_, ?_, fun H4 k hD4 k0 k1 => ?_⟩
    · show (0 : Int) < (((SX.S z).length : Nat) : Int) + 1
      omega
    · refine small ?_ ?_
      · show -1000 ≤ (((SX.S z).length : Nat) : Int) + 1
        omega
      · show (((SX.S z).length : Nat) : Int) + 1 ≤ 1000000
        rw [SX.S_len]
        omega
    obtain ⟨kn, rfl⟩ : ∃ kn : Nat, k = (kn : Int) := ⟨k.toNat, by omega⟩
    refine ⟨_, _, rfl, rfl, _, rfl, SX.S z, rfl, hz, ?_⟩
    show Q (V.str (cutS (SX.S z) (some (an : Int)) (some ((an : Int) + 1 + (kn : Int))))) H4
    rw [show cutS (SX.S z) (some (an : Int)) (some ((an : Int) + 1 + (kn : Int))) = SX.S ((z.drop an).take (1 + kn)) by rw [Int.add_assoc]; exact e4 (1 + kn)]
    exact fin _ (Same.refl B) hD4 (by have := le2 (k := an); rw [List.length_take]; omega) (fun c hc => m2 c (List.mem_of_mem_take hc))
  refine ⟨_, rfl, rfl, _, rfl, ite2 (fun _ => ?_) (fun _ => ?_)⟩
  · have s9 : ("9" : Str) = SX.S [57] := by decide +kernel
    have s8 : ("8" : Str) = SX.S [56] := by decide +kernel
    have sm : ("-" : Str) = SX.S [45] := by decide +kernel
    have r8 : (List.replicate 40 [56]).flatten.length = 40 := by decide
    refine ⟨[57], 40, congrArg V.str s9, rfl, by decide, by decide, by decide, by decide, [57], 41, congrArg V.str s9, rfl, by decide, by decide, by decide, by decide, [56], 40, congrArg V.str s8, rfl, by decide, by decide, by decide, by decide, _, _, congrArg V.str sm, rfl, big (by rw [r8]; decide), le_line (Nat.le_of_ble_eq_true rfl), fun l nl => ?_⟩
    rw [SX.S_cat]
    obtain ⟨xs, hxs⟩ : ∃ xs : List V, xs = [.str "00", .str "-0", .str "0", .str "-7", .str "+1", .str (SX.S (List.replicate 40 [57]).flatten), .str (SX.S (List.replicate 41 [57]).flatten), .str (SX.S ([45] ++ (List.replicate 40 [56]).flatten)), .str "1_0", .str "--1"] := ⟨_, rfl⟩
    rw [← hxs]
    have hall : ∀ x ∈ xs, ∃ u : List Nat, x = .str (SX.S u) ∧ u.length ≤ 41 ∧ ∀ c ∈ u, c < 128 := fun x hx => by
      rw [hxs] at hx
      simp only [List.mem_cons, List.not_mem_nil, or_false] at hx
      rcases hx with h | h | h | h | h | h | h | h | h | h
      · exact ⟨[48, 48], h.trans (congrArg V.str (show ("00" : Str) = SX.S [48, 48] by decide +kernel)), by decide, by decide⟩
      · exact ⟨[45, 48], h.trans (congrArg V.str (show ("-0" : Str) = SX.S [45, 48] by decide +kernel)), by decide, by decide⟩
      · exact ⟨[48], h.trans (congrArg V.str (show ("0" : Str) = SX.S [48] by decide +kernel)), by decide, by decide⟩
      · exact ⟨[45, 55], h.trans (congrArg V.str (show ("-7" : Str) = SX.S [45, 55] by decide +kernel)), by decide, by decide⟩
      · exact ⟨[43, 49], h.trans (congrArg V.str (show ("+1" : Str) = SX.S [43, 49] by decide +kernel)), by decide, by decide⟩
      · exact ⟨_, h, by decide, by decide⟩
      · exact ⟨_, h, by decide, by decide⟩
      · exact ⟨_, h, by decide, by decide⟩
      · exact ⟨[49, 95, 48], h.trans (congrArg V.str (show ("1_0" : Str) = SX.S [49, 95, 48] by decide +kernel)), by decide, by decide⟩
      · exact ⟨[45, 45, 49], h.trans (congrArg V.str (show ("--1" : Str) = SX.S [45, 45, 49] by decide +kernel)), by decide, by decide⟩
    have hD4 := hD3.new nl (.lst xs)
    have sB := same_new (hD3.1.free nl) (.lst xs)
    refine ⟨_, rfl, _, d, 10, rfl, hD4, by decide, by decide, fun H5 k hD5 k0 k1 => ?_⟩
    have hl5 := hD5.1 l _ upd_same
    obtain ⟨x, hx, hat⟩ := one_of (xs := xs) k0 (by rw [hxs]; exact k1)
    obtain ⟨u, rfl, hu1, hu2⟩ := hall x hx
    refine ⟨l, _, k, _, rfl, rfl, SqL.of hl5, hat, ?_⟩
    refine ⟨_, rfl, _, rfl, _, rfl, SX.S z, rfl, hz, _, rfl, _, _, congrArg V.str e1, rfl, big (by omega), ?_⟩
    rw [SX.S_cat]
    refine ⟨_, rfl, _, rfl, _, rfl, _, d, 4, rfl, hD5, by decide, by decide, fun H6 k2 hD6 k20 k21 => ?_⟩
    obtain ⟨kn, rfl⟩ : ∃ kn : Nat, k2 = (kn : Int) := ⟨k2.toNat, by omega⟩
    refine ⟨_, _, rfl, rfl, _, rfl, SX.S z, rfl, hz, _, _, rfl, congrArg V.str (e3 kn), big (by have := le2 (k := an + kn); rw [List.length_append]; omega), ?_⟩
    rw [SX.S_cat]
    exact fin _ sB hD6 (by have := le2 (k := an + kn); rw [List.length_append, List.length_append]; omega) (cat (cat m1 hu2) m2)
  · refine ⟨_, rfl, le_line (Nat.le_of_ble_eq_true rfl), fun l nl => ?_⟩
    have hD4 := hD3.new nl (.lst [.str " ", .str "", .str " + "])
    have sB := same_new (hD3.1.free nl) (.lst [.str " ", .str "", .str " + "])
    refine ⟨_, rfl, _, d, 3, rfl, hD4, by decide, by decide, fun H5 k hD5 k0 k1 => ?_⟩
    have hl5 := hD5.1 l _ upd_same
    obtain ⟨x, hx, hat⟩ := one_of (xs := ([.str " ", .str "", .str " + "] : List V)) k0 k1
    obtain ⟨u, rfl, hu1, hu2⟩ : ∃ u : List Nat, x = .str (SX.S u) ∧ u.length ≤ 41 ∧ ∀ c ∈ u, c < 128 := by
      simp only [List.mem_cons, List.not_mem_nil, or_false] at hx
      rcases hx with h | h | h
      · exact ⟨[32], h.trans (congrArg V.str (show (" " : Str) = SX.S [32] by decide +kernel)), by decide, by decide⟩
      · exact ⟨[], h.trans (congrArg V.str (show ("" : Str) = SX.S [] by decide +kernel)), by decide, fun c hc => by cases hc⟩
      · exact ⟨[32, 43, 32], h.trans (congrArg V.str (show (" + " : Str) = SX.S [32, 43, 32] by decide +kernel)), by decide, by decide⟩
    refine ⟨l, _, k, _, rfl, rfl, SqL.of hl5, hat, _, _, rfl, rfl, big (by omega), ?_⟩
    rw [SX.S_cat]
    refine ⟨_, rfl, _, rfl, _, rfl, SX.S z, rfl, hz, _, _, rfl, congrArg V.str e1, big (by rw [List.length_append]; omega), ?_⟩
    rw [SX.S_cat]
    exact fin _ sB hD5 (by rw [List.length_append, List.length_append]; omega) (cat (cat hz128 hu2) m1)
end
/-! ### the law -/
def spLaw (K : PySem.W.Frag) : Sp := fun vs H Q _ => ∃ (a : Addr) (ns : List Int), vs = [.ref a] ∧ SqL K H a (ns.map V.int) ∧ ns.length ≤ 63 ∧ ∀ H', Q (.bl true) H'
section
variable {P : Program} {w : World} {K : PySem.W.Frag} {mg : Str → Option Value} {base : Heap}
abbrev s_law : Stmt := topS 51
abbrev N_law : List Str := ["script", "deck", "k", "text", "turn", "other", "due", "found"]
theorem sc_law : FnScope N_law ["script"] (defScope s_law) := ⟨rfl, rfl, rfl, by decide +kernel, rfl, by decide +kernel, by decide +kernel⟩

theorem ok_law {fl : Addr} {fd : FuncData} (F : Fun K "law" "law" s_law fl fd) (T : Txt K mg) (C_draw : Cal P w K mg base CX0 1 "_law_draw" ["deck", "many"] spDraw) (C_deck : Cal P w K mg base CX0 1 "_law_deck" ["script"] (spDeck K))
    (C_recipe : Cal P w K mg base CX0 11 "_law_recipe" ["deck", "deep", "left"] (spRecipe 8)) (C_text : Cal P w K mg base CX0 8 "_law_text" ["r"] (spText 8)) (C_changed : Cal P w K mg base CX0 2 "_law_changed" ["text", "deck"] spChanged)
    (C__law_due : Cal P w K mg base CX0 21 "_law_due" ["text"] spDue) (C__law_read : Cal P w K mg base CX0 21 "_law_read" ["text"] spReadF) : FnOk P w K mg base CX0 22 fl fd ["script"] (spLaw K) := by
  have C__law_draw := C_draw.mono (show 1 ≤ 21 by omega)
  have C__law_deck := C_deck.mono (show 1 ≤ 21 by omega)
  have C__law_recipe := C_recipe.mono (show 11 ≤ 21 by omega)
  have C__law_text := C_text.mono (show 8 ≤ 21 by omega)
  have C__law_changed := C_changed.mono (show 2 ≤ 21 by omega)
  refine F.ok sc_law (fun vs H Q E h => ?_) (fun cdv A outer s H vs Q E hr h => ?_)
  · obtain ⟨a, ns, rfl, _⟩ := h
    rfl
  obtain ⟨a, ns, rfl, hS, h63, q⟩ := h
  refine ⟨_, (pss_cons (ps_set (i := 1) sc_law.nd rfl (Or.inl rfl) (pe_cal C__law_deck (hr.mono (by first | decide | omega)) pass0 (pa_cons (pv 0) pa_nil)))
      (pss_cons (ps_for PassesOwn.never rfl (pi_range1 rfl T.b_range (pa_cons pe_int pa_nil)) (pg_name (i := 2) sc_law.nd rfl (Or.inl rfl))
        (pss_cons (ps_set (i := 3) sc_law.nd rfl (Or.inl rfl) (pe_cal C__law_text (hr.mono (by first | decide | omega)) pass0 (pa_cons (pe_cal C__law_recipe (hr.mono (by first | decide | omega)) pass0 (pa_cons (pv 1) (pa_cons (pe_op op_add pe_int (pe_cal C__law_draw (hr.mono (by first | decide | omega)) pass0 (pa_cons (pv 1) (pa_cons pe_int pa_nil)))) (pa_cons (pe_lst (pa_cons pe_int pa_nil)) pa_nil)))) pa_nil)))
      (pss_one (ps_for PassesOwn.never rfl (pi_range1 rfl T.b_range (pa_cons pe_int pa_nil)) (pg_name (i := 4) sc_law.nd rfl (Or.inl rfl))
        (pss_cons (ps_set (i := 5) sc_law.nd rfl (Or.inl rfl) (pe_cal C__law_changed (hr.mono (by first | decide | omega)) pass0 (pa_cons (pv 3) (pa_cons (pv 1) pa_nil))))
      (pss_cons (ps_set (i := 6) sc_law.nd rfl (Or.inl rfl) (pe_cal C__law_due (hr.mono (by first | decide | omega)) pass0 (pa_cons (pv 5) pa_nil)))
      (pss_cons (ps_if (pt_cmpR op_isN (pv 6) pe_non (nomark _))
        (pss_one (ps_set (i := 6) sc_law.nd rfl (Or.inl rfl) pe_int))
        pss_nil)
      (pss_cons (ps_set (i := 7) sc_law.nd rfl (Or.inl rfl) (pe_cal C__law_read (hr.mono (by first | decide | omega)) pass0 (pa_cons (pv 5) pa_nil)))
      (pss_one (ps_if (PW.pt (pw_or (pt_val (pe_callB call_isi (by rfl) T.b_isinstance (by decide +kernel) (pa_cons (pv 7) (pa_cons (pe_bltn (v := .ty "bool") (by rfl) T.b_bool (by decide +kernel) rfl) pa_nil)))) (pw_or1 (pt_cmpR (op_neD hr.units) (pv 7) (pv 6) (nomark _)))))
        (pss_one (ps_ret pe_bl))
        pss_nil))))))))))
      (pss_one (ps_ret pe_bl)))), ?_⟩
  refine ⟨_, rfl, a, ns, rfl, hS, h63, fun B H2 d hB hD => ?_⟩
  refine ⟨4, rfl, by decide, by decide, for_range (n := 4) (fun i σ H' => ∃ (v2 v3 v4 v5 v6 v7 : Option V) (B' : Hp), σ = [some (.ref a), some (.ref d), v2, v3, v4, v5, v6, v7] ∧ DeckAt B' H' d) ⟨none, none, none, none, none, none, B, rfl, hD⟩ ?_ ?_⟩
  · rintro i σ H3 hi ⟨v2, v3, v4, v5, v6, v7, B3, rfl, hD3⟩
    refine ⟨_, rfl, _, rfl, B3, d, 6, rfl, hD3, by decide, by decide, fun H4 n hD4 n0 n8 => ⟨_, _, rfl, rfl, le_line (Nat.le_of_ble_eq_true rfl), fun l nl => ?_⟩⟩
    have hD5 := hD4.new nl (.lst [.int 12])
    refine ⟨_, d, l, 1 + n, 12, rfl, hD5, upd_same, by omega, by omega, fun B6 H6 n' v r hb hl hD6 hR hG hd hz hn => ?_⟩
    have hz9 : r.siz ≤ 1000 := by omega
    refine ⟨v, r, rfl, hR.same hD6.1, hG, by omega, hz9, fun H7 hs7 => ?_⟩
    have hD7 := hD6.same hs7
    have htl := txt_len hG
    refine ⟨5, rfl, by decide, by decide, for_range (n := 5) (fun j σ H' => ∃ (u4 u5 u6 u7 : Option V) (B' : Hp), σ = [some (.ref a), some (.ref d), some (.int (0 + (i : Int))), some (.str (SX.S r.txt)), u4, u5, u6, u7] ∧ DeckAt B' H' d) ⟨v4, v5, v6, v7, B6, rfl, hD7⟩ ?_ ?_⟩
    · rintro j σ H8 hj ⟨u4, u5, u6, u7, B8, rfl, hD8⟩
      refine ⟨_, rfl, _, rfl, B8, d, r.txt, rfl, hD8, by omega, txt_low hG, fun B9 H9 z sB hD9 ht => ?_⟩
      refine ⟨_, rfl, z, rfl, ht, fun e H10 s10 => ?_, fun rr e hG' H10 x s10 hR' => ?_⟩
      · refine ⟨_, rfl, rfl, _, rfl, iteY rfl ?_⟩
        refine ⟨_, rfl, z, rfl, ht, fun _ H11 s11 => ?_, fun r' e' => by rw [e] at e'; cases e'⟩
        refine ⟨_, rfl, _, _, .type "int", _, false, rfl, .ty _, .base (.int _), kit_bl (.int 0), _, rfl, iteF ?_⟩
        refine ⟨_, rfl, _, rfl, .int 0, .int 0, .int _, .int _, rfl, rfl, _, rfl, ?_⟩
        rw [show PyData.eqv (.int 0) (.int 0) = true from rfl]
        exact iteF ⟨_, _, _, _, B9, rfl, (hD9.same s10).same s11⟩
      · refine ⟨_, rfl, rfl, _, rfl, iteN (rec_nonP hR') ?_⟩
        refine ⟨_, rfl, z, rfl, ht, fun e' => (by rw [e] at e'; cases e'), fun r' e' _ H11 y s11 hR2 => ?_⟩
        rw [e] at e'
        cases e'
        have hbl : rr.th.isBl = false := by cases rr <;> rfl
        refine ⟨_, rfl, _, _, _, _, _, rfl, .ty _, hR2.data.ty, kit_bl rr.th, _, rfl, ?_⟩
        rw [hbl]
        refine iteF ?_
        have hsh : SeqAt.shaped rr.th.py = true := Rcp.shaped hG' (by have := (rcp_is hG' (rRead_rev e).2.2).1; omega)
        refine ⟨_, rfl, _, rfl, _, _, Data.dp (Rcp.flat rr) hR2.data, Data.dp (Rcp.flat rr) (hR'.same s11).data, hsh, hsh, _, rfl, ?_⟩
        rw [Rcp.eqv hG']
        exact iteF ⟨_, _, _, _, B9, rfl, (hD9.same s10).same s11⟩
    · rintro σ H8 ⟨u4, u5, u6, u7, B8, rfl, hD8⟩
      exact ⟨_, _, _, _, _, _, B8, rfl, hD8⟩
  · rintro σ H3 ⟨v2, v3, v4, v5, v6, v7, B3, rfl, hD3⟩
    exact q H3
end
theorem all_mk {l : PySem.W.OpenLaw} {w : World} {K : PySem.W.Frag} {h : Heap} {mg : Str → Option Value} {fa f_is_whole f_is_name f_are_names f_within f_is_recipe f_behind_signs f_expected f_read_name f_read_number f_read_two f_read_pick f_read_part f_read_recipe f__law_deck f__law_draw f__law_name f__law_number f__law_recipe f__law_text f__law_is_name f__law_spots f__law_size f__law_is f__law_places f__law_leaf f__law_parted f__law_parse f__law_due f__law_read f__law_changed f_law : Addr} (X : K.In h) (G : h.Ns mainGlobals mg) (hfa : mg "law" = some (.ref fa))
    {od_is_whole an_is_whole od_is_name an_is_name od_are_names an_are_names od_within an_within od_is_recipe an_is_recipe od_behind_signs an_behind_signs od_expected an_expected od_read_name an_read_name od_read_number an_read_number od_read_two an_read_two od_read_pick an_read_pick od_read_part an_read_part od_read_recipe an_read_recipe od__law_deck an__law_deck od__law_draw an__law_draw od__law_name an__law_name od__law_number an__law_number od__law_recipe an__law_recipe od__law_text an__law_text od__law_is_name an__law_is_name od__law_spots an__law_spots od__law_size an__law_size od__law_is an__law_is od__law_places an__law_places od__law_leaf an__law_leaf od__law_parted an__law_parted od__law_parse an__law_parse od__law_due an__law_due od__law_read an__law_read od__law_changed an__law_changed od_law an_law : Option Addr} {sl_is_whole sl_is_name sl_are_names sl_within sl_is_recipe sl_behind_signs sl_expected sl_read_name sl_read_number sl_read_two sl_read_pick sl_read_part sl_read_recipe sl__law_deck sl__law_draw sl__law_name sl__law_number sl__law_recipe sl__law_text sl__law_is_name sl__law_spots sl__law_size sl__law_is sl__law_places sl__law_leaf sl__law_parted sl__law_parse sl__law_due sl__law_read sl__law_changed sl_law : Array (Option Value)} {oc_is_whole kV_is_whole dc_is_whole pm_is_whole cd_is_whole ct_is_whole oc_is_name kV_is_name dc_is_name pm_is_name cd_is_name ct_is_name oc_are_names kV_are_names dc_are_names pm_are_names cd_are_names ct_are_names oc_within kV_within dc_within pm_within cd_within ct_within oc_is_recipe kV_is_recipe dc_is_recipe pm_is_recipe cd_is_recipe ct_is_recipe oc_behind_signs kV_behind_signs dc_behind_signs pm_behind_signs cd_behind_signs ct_behind_signs oc_expected kV_expected dc_expected pm_expected cd_expected ct_expected oc_read_name kV_read_name dc_read_name pm_read_name cd_read_name ct_read_name oc_read_number kV_read_number dc_read_number pm_read_number cd_read_number ct_read_number oc_read_two kV_read_two dc_read_two pm_read_two cd_read_two ct_read_two oc_read_pick kV_read_pick dc_read_pick pm_read_pick cd_read_pick ct_read_pick oc_read_part kV_read_part dc_read_part pm_read_part cd_read_part ct_read_part oc_read_recipe kV_read_recipe dc_read_recipe pm_read_recipe cd_read_recipe ct_read_recipe oc__law_deck kV__law_deck dc__law_deck pm__law_deck cd__law_deck ct__law_deck oc__law_draw kV__law_draw dc__law_draw pm__law_draw cd__law_draw ct__law_draw oc__law_name kV__law_name dc__law_name pm__law_name cd__law_name ct__law_name oc__law_number kV__law_number dc__law_number pm__law_number cd__law_number ct__law_number oc__law_recipe kV__law_recipe dc__law_recipe pm__law_recipe cd__law_recipe ct__law_recipe oc__law_text kV__law_text dc__law_text pm__law_text cd__law_text ct__law_text oc__law_is_name kV__law_is_name dc__law_is_name pm__law_is_name cd__law_is_name ct__law_is_name oc__law_spots kV__law_spots dc__law_spots pm__law_spots cd__law_spots ct__law_spots oc__law_size kV__law_size dc__law_size pm__law_size cd__law_size ct__law_size oc__law_is kV__law_is dc__law_is pm__law_is cd__law_is ct__law_is oc__law_places kV__law_places dc__law_places pm__law_places cd__law_places ct__law_places oc__law_leaf kV__law_leaf dc__law_leaf pm__law_leaf cd__law_leaf ct__law_leaf oc__law_parted kV__law_parted dc__law_parted pm__law_parted cd__law_parted ct__law_parted oc__law_parse kV__law_parse dc__law_parse pm__law_parse cd__law_parse ct__law_parse oc__law_due kV__law_due dc__law_due pm__law_due cd__law_due ct__law_due oc__law_read kV__law_read dc__law_read pm__law_read cd__law_read ct__law_read oc__law_changed kV__law_changed dc__law_changed pm__law_changed cd__law_changed ct__law_changed oc_law kV_law dc_law pm_law cd_law ct_law : Value}
    (a_is_whole : PySem.W.nsIn K mainGlobals "is_whole" = some (some (.ref f_is_whole))) (l_is_whole : K.lookup f_is_whole = some ⟨oc_is_whole, od_is_whole, .func (PySem.W.fnOf "is_whole" "is_whole" (defArgs s_is_whole) (defBody s_is_whole) (defScope s_is_whole) .none kV_is_whole dc_is_whole pm_is_whole an_is_whole cd_is_whole ct_is_whole), sl_is_whole⟩) (c_is_whole : PySem.W.codeIn K cd_is_whole "is_whole" = true) (k_is_whole : PySem.W.keepIn K (.ref f_is_whole) = true)
    (a_is_name : PySem.W.nsIn K mainGlobals "is_name" = some (some (.ref f_is_name))) (l_is_name : K.lookup f_is_name = some ⟨oc_is_name, od_is_name, .func (PySem.W.fnOf "is_name" "is_name" (defArgs s_is_name) (defBody s_is_name) (defScope s_is_name) .none kV_is_name dc_is_name pm_is_name an_is_name cd_is_name ct_is_name), sl_is_name⟩) (c_is_name : PySem.W.codeIn K cd_is_name "is_name" = true) (k_is_name : PySem.W.keepIn K (.ref f_is_name) = true)
    (a_are_names : PySem.W.nsIn K mainGlobals "are_names" = some (some (.ref f_are_names))) (l_are_names : K.lookup f_are_names = some ⟨oc_are_names, od_are_names, .func (PySem.W.fnOf "are_names" "are_names" (defArgs s_are_names) (defBody s_are_names) (defScope s_are_names) .none kV_are_names dc_are_names pm_are_names an_are_names cd_are_names ct_are_names), sl_are_names⟩) (c_are_names : PySem.W.codeIn K cd_are_names "are_names" = true) (k_are_names : PySem.W.keepIn K (.ref f_are_names) = true)
    (a_within : PySem.W.nsIn K mainGlobals "within" = some (some (.ref f_within))) (l_within : K.lookup f_within = some ⟨oc_within, od_within, .func (PySem.W.fnOf "within" "within" (defArgs s_within) (defBody s_within) (defScope s_within) .none kV_within dc_within pm_within an_within cd_within ct_within), sl_within⟩) (c_within : PySem.W.codeIn K cd_within "within" = true) (k_within : PySem.W.keepIn K (.ref f_within) = true)
    (a_is_recipe : PySem.W.nsIn K mainGlobals "is_recipe" = some (some (.ref f_is_recipe))) (l_is_recipe : K.lookup f_is_recipe = some ⟨oc_is_recipe, od_is_recipe, .func (PySem.W.fnOf "is_recipe" "is_recipe" (defArgs s_is_recipe) (defBody s_is_recipe) (defScope s_is_recipe) .none kV_is_recipe dc_is_recipe pm_is_recipe an_is_recipe cd_is_recipe ct_is_recipe), sl_is_recipe⟩) (c_is_recipe : PySem.W.codeIn K cd_is_recipe "is_recipe" = true) (k_is_recipe : PySem.W.keepIn K (.ref f_is_recipe) = true)
    (a_behind_signs : PySem.W.nsIn K mainGlobals "behind_signs" = some (some (.ref f_behind_signs))) (l_behind_signs : K.lookup f_behind_signs = some ⟨oc_behind_signs, od_behind_signs, .func (PySem.W.fnOf "behind_signs" "behind_signs" (defArgs s_behind_signs) (defBody s_behind_signs) (defScope s_behind_signs) .none kV_behind_signs dc_behind_signs pm_behind_signs an_behind_signs cd_behind_signs ct_behind_signs), sl_behind_signs⟩) (c_behind_signs : PySem.W.codeIn K cd_behind_signs "behind_signs" = true) (k_behind_signs : PySem.W.keepIn K (.ref f_behind_signs) = true)
    (a_expected : PySem.W.nsIn K mainGlobals "expected" = some (some (.ref f_expected))) (l_expected : K.lookup f_expected = some ⟨oc_expected, od_expected, .func (PySem.W.fnOf "expected" "expected" (defArgs s_expected) (defBody s_expected) (defScope s_expected) .none kV_expected dc_expected pm_expected an_expected cd_expected ct_expected), sl_expected⟩) (c_expected : PySem.W.codeIn K cd_expected "expected" = true) (k_expected : PySem.W.keepIn K (.ref f_expected) = true)
    (a_read_name : PySem.W.nsIn K mainGlobals "read_name" = some (some (.ref f_read_name))) (l_read_name : K.lookup f_read_name = some ⟨oc_read_name, od_read_name, .func (PySem.W.fnOf "read_name" "read_name" (defArgs s_read_name) (defBody s_read_name) (defScope s_read_name) .none kV_read_name dc_read_name pm_read_name an_read_name cd_read_name ct_read_name), sl_read_name⟩) (c_read_name : PySem.W.codeIn K cd_read_name "read_name" = true) (k_read_name : PySem.W.keepIn K (.ref f_read_name) = true)
    (a_read_number : PySem.W.nsIn K mainGlobals "read_number" = some (some (.ref f_read_number))) (l_read_number : K.lookup f_read_number = some ⟨oc_read_number, od_read_number, .func (PySem.W.fnOf "read_number" "read_number" (defArgs s_read_number) (defBody s_read_number) (defScope s_read_number) .none kV_read_number dc_read_number pm_read_number an_read_number cd_read_number ct_read_number), sl_read_number⟩) (c_read_number : PySem.W.codeIn K cd_read_number "read_number" = true) (k_read_number : PySem.W.keepIn K (.ref f_read_number) = true)
    (a_read_two : PySem.W.nsIn K mainGlobals "read_two" = some (some (.ref f_read_two))) (l_read_two : K.lookup f_read_two = some ⟨oc_read_two, od_read_two, .func (PySem.W.fnOf "read_two" "read_two" (defArgs s_read_two) (defBody s_read_two) (defScope s_read_two) .none kV_read_two dc_read_two pm_read_two an_read_two cd_read_two ct_read_two), sl_read_two⟩) (c_read_two : PySem.W.codeIn K cd_read_two "read_two" = true) (k_read_two : PySem.W.keepIn K (.ref f_read_two) = true)
    (a_read_pick : PySem.W.nsIn K mainGlobals "read_pick" = some (some (.ref f_read_pick))) (l_read_pick : K.lookup f_read_pick = some ⟨oc_read_pick, od_read_pick, .func (PySem.W.fnOf "read_pick" "read_pick" (defArgs s_read_pick) (defBody s_read_pick) (defScope s_read_pick) .none kV_read_pick dc_read_pick pm_read_pick an_read_pick cd_read_pick ct_read_pick), sl_read_pick⟩) (c_read_pick : PySem.W.codeIn K cd_read_pick "read_pick" = true) (k_read_pick : PySem.W.keepIn K (.ref f_read_pick) = true)
    (a_read_part : PySem.W.nsIn K mainGlobals "read_part" = some (some (.ref f_read_part))) (l_read_part : K.lookup f_read_part = some ⟨oc_read_part, od_read_part, .func (PySem.W.fnOf "read_part" "read_part" (defArgs s_read_part) (defBody s_read_part) (defScope s_read_part) .none kV_read_part dc_read_part pm_read_part an_read_part cd_read_part ct_read_part), sl_read_part⟩) (c_read_part : PySem.W.codeIn K cd_read_part "read_part" = true) (k_read_part : PySem.W.keepIn K (.ref f_read_part) = true)
    (a_read_recipe : PySem.W.nsIn K mainGlobals "read_recipe" = some (some (.ref f_read_recipe))) (l_read_recipe : K.lookup f_read_recipe = some ⟨oc_read_recipe, od_read_recipe, .func (PySem.W.fnOf "read_recipe" "read_recipe" (defArgs s_read_recipe) (defBody s_read_recipe) (defScope s_read_recipe) .none kV_read_recipe dc_read_recipe pm_read_recipe an_read_recipe cd_read_recipe ct_read_recipe), sl_read_recipe⟩) (c_read_recipe : PySem.W.codeIn K cd_read_recipe "read_recipe" = true) (k_read_recipe : PySem.W.keepIn K (.ref f_read_recipe) = true)
    (a__law_deck : PySem.W.nsIn K mainGlobals "_law_deck" = some (some (.ref f__law_deck))) (l__law_deck : K.lookup f__law_deck = some ⟨oc__law_deck, od__law_deck, .func (PySem.W.fnOf "_law_deck" "_law_deck" (defArgs s__law_deck) (defBody s__law_deck) (defScope s__law_deck) .none kV__law_deck dc__law_deck pm__law_deck an__law_deck cd__law_deck ct__law_deck), sl__law_deck⟩) (c__law_deck : PySem.W.codeIn K cd__law_deck "_law_deck" = true) (k__law_deck : PySem.W.keepIn K (.ref f__law_deck) = true)
    (a__law_draw : PySem.W.nsIn K mainGlobals "_law_draw" = some (some (.ref f__law_draw))) (l__law_draw : K.lookup f__law_draw = some ⟨oc__law_draw, od__law_draw, .func (PySem.W.fnOf "_law_draw" "_law_draw" (defArgs s__law_draw) (defBody s__law_draw) (defScope s__law_draw) .none kV__law_draw dc__law_draw pm__law_draw an__law_draw cd__law_draw ct__law_draw), sl__law_draw⟩) (c__law_draw : PySem.W.codeIn K cd__law_draw "_law_draw" = true) (k__law_draw : PySem.W.keepIn K (.ref f__law_draw) = true)
    (a__law_name : PySem.W.nsIn K mainGlobals "_law_name" = some (some (.ref f__law_name))) (l__law_name : K.lookup f__law_name = some ⟨oc__law_name, od__law_name, .func (PySem.W.fnOf "_law_name" "_law_name" (defArgs s__law_name) (defBody s__law_name) (defScope s__law_name) .none kV__law_name dc__law_name pm__law_name an__law_name cd__law_name ct__law_name), sl__law_name⟩) (c__law_name : PySem.W.codeIn K cd__law_name "_law_name" = true) (k__law_name : PySem.W.keepIn K (.ref f__law_name) = true)
    (a__law_number : PySem.W.nsIn K mainGlobals "_law_number" = some (some (.ref f__law_number))) (l__law_number : K.lookup f__law_number = some ⟨oc__law_number, od__law_number, .func (PySem.W.fnOf "_law_number" "_law_number" (defArgs s__law_number) (defBody s__law_number) (defScope s__law_number) .none kV__law_number dc__law_number pm__law_number an__law_number cd__law_number ct__law_number), sl__law_number⟩) (c__law_number : PySem.W.codeIn K cd__law_number "_law_number" = true) (k__law_number : PySem.W.keepIn K (.ref f__law_number) = true)
    (a__law_recipe : PySem.W.nsIn K mainGlobals "_law_recipe" = some (some (.ref f__law_recipe))) (l__law_recipe : K.lookup f__law_recipe = some ⟨oc__law_recipe, od__law_recipe, .func (PySem.W.fnOf "_law_recipe" "_law_recipe" (defArgs s__law_recipe) (defBody s__law_recipe) (defScope s__law_recipe) .none kV__law_recipe dc__law_recipe pm__law_recipe an__law_recipe cd__law_recipe ct__law_recipe), sl__law_recipe⟩) (c__law_recipe : PySem.W.codeIn K cd__law_recipe "_law_recipe" = true) (k__law_recipe : PySem.W.keepIn K (.ref f__law_recipe) = true)
    (a__law_text : PySem.W.nsIn K mainGlobals "_law_text" = some (some (.ref f__law_text))) (l__law_text : K.lookup f__law_text = some ⟨oc__law_text, od__law_text, .func (PySem.W.fnOf "_law_text" "_law_text" (defArgs s__law_text) (defBody s__law_text) (defScope s__law_text) .none kV__law_text dc__law_text pm__law_text an__law_text cd__law_text ct__law_text), sl__law_text⟩) (c__law_text : PySem.W.codeIn K cd__law_text "_law_text" = true) (k__law_text : PySem.W.keepIn K (.ref f__law_text) = true)
    (a__law_is_name : PySem.W.nsIn K mainGlobals "_law_is_name" = some (some (.ref f__law_is_name))) (l__law_is_name : K.lookup f__law_is_name = some ⟨oc__law_is_name, od__law_is_name, .func (PySem.W.fnOf "_law_is_name" "_law_is_name" (defArgs s__law_is_name) (defBody s__law_is_name) (defScope s__law_is_name) .none kV__law_is_name dc__law_is_name pm__law_is_name an__law_is_name cd__law_is_name ct__law_is_name), sl__law_is_name⟩) (c__law_is_name : PySem.W.codeIn K cd__law_is_name "_law_is_name" = true) (k__law_is_name : PySem.W.keepIn K (.ref f__law_is_name) = true)
    (a__law_spots : PySem.W.nsIn K mainGlobals "_law_spots" = some (some (.ref f__law_spots))) (l__law_spots : K.lookup f__law_spots = some ⟨oc__law_spots, od__law_spots, .func (PySem.W.fnOf "_law_spots" "_law_spots" (defArgs s__law_spots) (defBody s__law_spots) (defScope s__law_spots) .none kV__law_spots dc__law_spots pm__law_spots an__law_spots cd__law_spots ct__law_spots), sl__law_spots⟩) (c__law_spots : PySem.W.codeIn K cd__law_spots "_law_spots" = true) (k__law_spots : PySem.W.keepIn K (.ref f__law_spots) = true)
    (a__law_size : PySem.W.nsIn K mainGlobals "_law_size" = some (some (.ref f__law_size))) (l__law_size : K.lookup f__law_size = some ⟨oc__law_size, od__law_size, .func (PySem.W.fnOf "_law_size" "_law_size" (defArgs s__law_size) (defBody s__law_size) (defScope s__law_size) .none kV__law_size dc__law_size pm__law_size an__law_size cd__law_size ct__law_size), sl__law_size⟩) (c__law_size : PySem.W.codeIn K cd__law_size "_law_size" = true) (k__law_size : PySem.W.keepIn K (.ref f__law_size) = true)
    (a__law_is : PySem.W.nsIn K mainGlobals "_law_is" = some (some (.ref f__law_is))) (l__law_is : K.lookup f__law_is = some ⟨oc__law_is, od__law_is, .func (PySem.W.fnOf "_law_is" "_law_is" (defArgs s__law_is) (defBody s__law_is) (defScope s__law_is) .none kV__law_is dc__law_is pm__law_is an__law_is cd__law_is ct__law_is), sl__law_is⟩) (c__law_is : PySem.W.codeIn K cd__law_is "_law_is" = true) (k__law_is : PySem.W.keepIn K (.ref f__law_is) = true)
    (a__law_places : PySem.W.nsIn K mainGlobals "_law_places" = some (some (.ref f__law_places))) (l__law_places : K.lookup f__law_places = some ⟨oc__law_places, od__law_places, .func (PySem.W.fnOf "_law_places" "_law_places" (defArgs s__law_places) (defBody s__law_places) (defScope s__law_places) .none kV__law_places dc__law_places pm__law_places an__law_places cd__law_places ct__law_places), sl__law_places⟩) (c__law_places : PySem.W.codeIn K cd__law_places "_law_places" = true) (k__law_places : PySem.W.keepIn K (.ref f__law_places) = true)
    (a__law_leaf : PySem.W.nsIn K mainGlobals "_law_leaf" = some (some (.ref f__law_leaf))) (l__law_leaf : K.lookup f__law_leaf = some ⟨oc__law_leaf, od__law_leaf, .func (PySem.W.fnOf "_law_leaf" "_law_leaf" (defArgs s__law_leaf) (defBody s__law_leaf) (defScope s__law_leaf) .none kV__law_leaf dc__law_leaf pm__law_leaf an__law_leaf cd__law_leaf ct__law_leaf), sl__law_leaf⟩) (c__law_leaf : PySem.W.codeIn K cd__law_leaf "_law_leaf" = true) (k__law_leaf : PySem.W.keepIn K (.ref f__law_leaf) = true)
    (a__law_parted : PySem.W.nsIn K mainGlobals "_law_parted" = some (some (.ref f__law_parted))) (l__law_parted : K.lookup f__law_parted = some ⟨oc__law_parted, od__law_parted, .func (PySem.W.fnOf "_law_parted" "_law_parted" (defArgs s__law_parted) (defBody s__law_parted) (defScope s__law_parted) .none kV__law_parted dc__law_parted pm__law_parted an__law_parted cd__law_parted ct__law_parted), sl__law_parted⟩) (c__law_parted : PySem.W.codeIn K cd__law_parted "_law_parted" = true) (k__law_parted : PySem.W.keepIn K (.ref f__law_parted) = true)
    (a__law_parse : PySem.W.nsIn K mainGlobals "_law_parse" = some (some (.ref f__law_parse))) (l__law_parse : K.lookup f__law_parse = some ⟨oc__law_parse, od__law_parse, .func (PySem.W.fnOf "_law_parse" "_law_parse" (defArgs s__law_parse) (defBody s__law_parse) (defScope s__law_parse) .none kV__law_parse dc__law_parse pm__law_parse an__law_parse cd__law_parse ct__law_parse), sl__law_parse⟩) (c__law_parse : PySem.W.codeIn K cd__law_parse "_law_parse" = true) (k__law_parse : PySem.W.keepIn K (.ref f__law_parse) = true)
    (a__law_due : PySem.W.nsIn K mainGlobals "_law_due" = some (some (.ref f__law_due))) (l__law_due : K.lookup f__law_due = some ⟨oc__law_due, od__law_due, .func (PySem.W.fnOf "_law_due" "_law_due" (defArgs s__law_due) (defBody s__law_due) (defScope s__law_due) .none kV__law_due dc__law_due pm__law_due an__law_due cd__law_due ct__law_due), sl__law_due⟩) (c__law_due : PySem.W.codeIn K cd__law_due "_law_due" = true) (k__law_due : PySem.W.keepIn K (.ref f__law_due) = true)
    (a__law_read : PySem.W.nsIn K mainGlobals "_law_read" = some (some (.ref f__law_read))) (l__law_read : K.lookup f__law_read = some ⟨oc__law_read, od__law_read, .func (PySem.W.fnOf "_law_read" "_law_read" (defArgs s__law_read) (defBody s__law_read) (defScope s__law_read) .none kV__law_read dc__law_read pm__law_read an__law_read cd__law_read ct__law_read), sl__law_read⟩) (c__law_read : PySem.W.codeIn K cd__law_read "_law_read" = true) (k__law_read : PySem.W.keepIn K (.ref f__law_read) = true)
    (a__law_changed : PySem.W.nsIn K mainGlobals "_law_changed" = some (some (.ref f__law_changed))) (l__law_changed : K.lookup f__law_changed = some ⟨oc__law_changed, od__law_changed, .func (PySem.W.fnOf "_law_changed" "_law_changed" (defArgs s__law_changed) (defBody s__law_changed) (defScope s__law_changed) .none kV__law_changed dc__law_changed pm__law_changed an__law_changed cd__law_changed ct__law_changed), sl__law_changed⟩) (c__law_changed : PySem.W.codeIn K cd__law_changed "_law_changed" = true) (k__law_changed : PySem.W.keepIn K (.ref f__law_changed) = true)
    (a_law : PySem.W.nsIn K mainGlobals "law" = some (some (.ref f_law))) (l_law : K.lookup f_law = some ⟨oc_law, od_law, .func (PySem.W.fnOf "law" "law" (defArgs s_law) (defBody s_law) (defScope s_law) .none kV_law dc_law pm_law an_law cd_law ct_law), sl_law⟩) (c_law : PySem.W.codeIn K cd_law "law" = true) (k_law : PySem.W.keepIn K (.ref f_law) = true)
    (z_len : PySem.W.nsIn K mainGlobals "len" = some none)
    (z_list : PySem.W.nsIn K mainGlobals "list" = some none)
    (z_range : PySem.W.nsIn K mainGlobals "range" = some none)
    (z_tuple : PySem.W.nsIn K mainGlobals "tuple" = some none)
    (z_str : PySem.W.nsIn K mainGlobals "str" = some none)
    (z_int : PySem.W.nsIn K mainGlobals "int" = some none)
    (z_isinstance : PySem.W.nsIn K mainGlobals "isinstance" = some none)
    (z_bool : PySem.W.nsIn K mainGlobals "bool" = some none)
    (z_sum : PySem.W.nsIn K mainGlobals "sum" = some none)
    (z_zip : PySem.W.nsIn K mainGlobals "zip" = some none)
    (z_ValueError : PySem.W.nsIn K mainGlobals "ValueError" = some none)
    {f_TWOS : Addr} {d_TWOS : Option Addr} {it_TWOS : Array Value} {n_TWOS : Nat} {sl_TWOS : Array (Option Value)} {tk1 tk2 tk3 tk4 tk5 : Tok}
    (r_LETTERS : PySem.W.nsIn K mainGlobals "LETTERS" = some (some (.str "abcdefghijklmnopqrstuvwxyz" tk1)))
    (r_LONGEST : PySem.W.nsIn K mainGlobals "LONGEST" = some (some (.int 8 tk2)))
    (r_DEEPEST : PySem.W.nsIn K mainGlobals "DEEPEST" = some (some (.int 8 tk3)))
    (r_MOST : PySem.W.nsIn K mainGlobals "MOST" = some (some (.int 100 tk4)))
    (r_MOST_NAMES : PySem.W.nsIn K mainGlobals "MOST_NAMES" = some (some (.int 9 tk5)))
    (r_TWOS : PySem.W.nsIn K mainGlobals "TWOS" = some (some (.ref f_TWOS)))
    (l_TWOS : K.lookup f_TWOS = some ⟨.type "tuple", d_TWOS, .seq it_TWOS n_TWOS, sl_TWOS⟩)
    (v_TWOS : ∃ t1 t2 t3 t4 : Tok, it_TWOS = #[.str "plus" t1, .str "minus" t2, .str "times" t3, .str "most" t4])
    {f_WORDS : Addr} {es_WORDS : Array DictEntry} {n_WORDS : Nat} {tk6 tk7 t1 t2 t3 t4 : Tok} {C_NoText : Addr}
    (r_FIGURES : PySem.W.nsIn K mainGlobals "FIGURES" = some (some (.str "0123456789" tk6)))
    (r_MOST_FIGURES : PySem.W.nsIn K mainGlobals "MOST_FIGURES" = some (some (.int 40 tk7)))
    (a_WORDS : PySem.W.nsIn K mainGlobals "WORDS" = some (some (.ref f_WORDS)))
    (l_WORDS : K.lookup f_WORDS = some ⟨.type "dict", none, .dict es_WORDS n_WORDS, #[]⟩)
    (y_WORDS : PySem.W.KeysLit w.params es_WORDS.toList)
    (b_WORDS : (f_WORDS == sysModules) = false)
    (v_WORDS : ∃ (h1 h2 h3 h4 : Int) (t1 t2 t3 t4 : Tok) (v1 v2 v3 v4 : Value), es_WORDS = #[⟨h1, .str " + " t1, v1⟩, ⟨h2, .str " - " t2, v2⟩, ⟨h3, .str " * " t3, v3⟩, ⟨h4, .str " ^ " t4, v4⟩])
    (e1 : PySem.W.nsIn K f_WORDS " + " = some (some (.str "plus" t1)))
    (e2 : PySem.W.nsIn K f_WORDS " - " = some (some (.str "minus" t2)))
    (e3 : PySem.W.nsIn K f_WORDS " * " = some (some (.str "times" t3)))
    (e4 : PySem.W.nsIn K f_WORDS " ^ " = some (some (.str "most" t4)))
    (a_NoText : PySem.W.nsIn K mainGlobals "NoText" = some (some (.ref C_NoText)))
    (x_NoText : PySem.W.excIn K C_NoText [.type "ValueError", .type "Exception", .type "BaseException", .type "object"] "ValueError.__new__" = true)
    (k_NoText : PySem.W.keepIn K (.ref C_NoText) = true)
    (b_NoText : PySem.W.subIn K (.ref C_NoText) (.type "BaseException") = some true)
    (t_NoText : PySem.W.typeIn K (.ref C_NoText) = some (.type "type"))
    {C_MadeError C_NoDeed C_NoName C_NoRead C_NoRecord C_NoRow C_Ring : Addr}
    (a_MadeError : PySem.W.nsIn K mainGlobals "MadeError" = some (some (.ref C_MadeError)))
    (a_NoDeed : PySem.W.nsIn K mainGlobals "NoDeed" = some (some (.ref C_NoDeed)))
    (a_NoName : PySem.W.nsIn K mainGlobals "NoName" = some (some (.ref C_NoName)))
    (a_NoRead : PySem.W.nsIn K mainGlobals "NoRead" = some (some (.ref C_NoRead)))
    (a_NoRecord : PySem.W.nsIn K mainGlobals "NoRecord" = some (some (.ref C_NoRecord)))
    (a_NoRow : PySem.W.nsIn K mainGlobals "NoRow" = some (some (.ref C_NoRow)))
    (a_Ring : PySem.W.nsIn K mainGlobals "Ring" = some (some (.ref C_Ring)))
    (d_MadeError : PySem.W.hasDictIn K C_MadeError = true)
    (d_NoDeed : PySem.W.hasDictIn K C_NoDeed = true)
    (d_NoName : PySem.W.hasDictIn K C_NoName = true)
    (d_NoRead : PySem.W.hasDictIn K C_NoRead = true)
    (d_NoRecord : PySem.W.hasDictIn K C_NoRecord = true)
    (d_NoRow : PySem.W.hasDictIn K C_NoRow = true)
    (d_Ring : PySem.W.hasDictIn K C_Ring = true)
    (y_MadeError : PySem.W.typeIn K (.ref C_MadeError) = some (.type "type"))
    (y_NoDeed : PySem.W.typeIn K (.ref C_NoDeed) = some (.type "type"))
    (y_NoName : PySem.W.typeIn K (.ref C_NoName) = some (.type "type"))
    (y_NoRead : PySem.W.typeIn K (.ref C_NoRead) = some (.type "type"))
    (y_NoRecord : PySem.W.typeIn K (.ref C_NoRecord) = some (.type "type"))
    (y_NoRow : PySem.W.typeIn K (.ref C_NoRow) = some (.type "type"))
    (y_Ring : PySem.W.typeIn K (.ref C_Ring) = some (.type "type"))
    (u_MadeError : PySem.W.subIn K (.ref C_NoText) (.ref C_MadeError) = some true)
    (u_NoDeed : PySem.W.subIn K (.ref C_NoText) (.ref C_NoDeed) = some false)
    (u_NoName : PySem.W.subIn K (.ref C_NoText) (.ref C_NoName) = some false)
    (u_NoRead : PySem.W.subIn K (.ref C_NoText) (.ref C_NoRead) = some false)
    (u_NoRecord : PySem.W.subIn K (.ref C_NoText) (.ref C_NoRecord) = some false)
    (u_NoRow : PySem.W.subIn K (.ref C_NoText) (.ref C_NoRow) = some false)
    (u_Ring : PySem.W.subIn K (.ref C_NoText) (.ref C_Ring) = some false)
    (w_NoDeed : (C_NoText == C_NoDeed) = false)
    (w_NoName : (C_NoText == C_NoName) = false)
    (w_NoRead : (C_NoText == C_NoRead) = false)
    (w_NoRecord : (C_NoText == C_NoRecord) = false)
    (w_NoRow : (C_NoText == C_NoRow) = false)
    (w_Ring : (C_NoText == C_Ring) = false)
    (b_MadeError : PySem.W.subIn K (.ref C_MadeError) (.type "BaseException") = some true)
    (u_ValueError : PySem.W.subIn K (.ref C_NoText) (.type "ValueError") = some true)
    (q_hg : PySem.W.findIn K (.ref C_NoText) "__getattribute__" = some (some (.builtin "BaseException.__getattribute__")))
    (q_hk : PySem.W.findIn K (.ref C_NoText) "__getattr__" = some none)
    (q_hd : PySem.W.hasDictIn K C_NoText = true)
    (q_ha : PySem.W.findIn K (.ref C_NoText) "__class__" = some (some (.builtin "object.__class__")))
    (q_hn : PySem.W.specialIn K (.builtin "object.__class__") "__get__" = some (some (.builtin "getset_descriptor.__get__")))
    (q_ht : PySem.W.takesIn K (.builtin "object.__class__") = some true)
    (q_hm : PySem.W.mroIn K C_NoText (.type "object") = some true)
    : ∃ fd : FuncData, (∀ (s : Shared) (v : Value), BindsTo s fd ⟨[v], []⟩ [("script", v)]) ∧ ∀ base : Heap, K.In base → base.Ns mainGlobals mg → FnOk l.prog w K mg base CX0 22 fa fd ["script"] (spLaw K) := by
  have e := hfa.symm.trans (PySem.W.mg_of X G a_law)
  cases e
  have F_is_whole := fun_mk (st := s_is_whole) l_is_whole c_is_whole k_is_whole
  have D_is_whole : IsDef K mg "is_whole" s_is_whole ["thing"] := ⟨f_is_whole, _, F_is_whole, PySem.W.mg_of X G a_is_whole, F_is_whole.binds (ps := ["thing"]) fun _ _ _ _ _ _ us hl => match us, hl with | [_], _ => rfl⟩
  have F_is_name := fun_mk (st := s_is_name) l_is_name c_is_name k_is_name
  have D_is_name : IsDef K mg "is_name" s_is_name ["thing"] := ⟨f_is_name, _, F_is_name, PySem.W.mg_of X G a_is_name, F_is_name.binds (ps := ["thing"]) fun _ _ _ _ _ _ us hl => match us, hl with | [_], _ => rfl⟩
  have F_are_names := fun_mk (st := s_are_names) l_are_names c_are_names k_are_names
  have D_are_names : IsDef K mg "are_names" s_are_names ["thing"] := ⟨f_are_names, _, F_are_names, PySem.W.mg_of X G a_are_names, F_are_names.binds (ps := ["thing"]) fun _ _ _ _ _ _ us hl => match us, hl with | [_], _ => rfl⟩
  have F_within := fun_mk (st := s_within) l_within c_within k_within
  have D_within : IsDef K mg "within" s_within ["thing"] := ⟨f_within, _, F_within, PySem.W.mg_of X G a_within, F_within.binds (ps := ["thing"]) fun _ _ _ _ _ _ us hl => match us, hl with | [_], _ => rfl⟩
  have F_is_recipe := fun_mk (st := s_is_recipe) l_is_recipe c_is_recipe k_is_recipe
  have D_is_recipe : IsDef K mg "is_recipe" s_is_recipe ["thing"] := ⟨f_is_recipe, _, F_is_recipe, PySem.W.mg_of X G a_is_recipe, F_is_recipe.binds (ps := ["thing"]) fun _ _ _ _ _ _ us hl => match us, hl with | [_], _ => rfl⟩
  have F_behind_signs := fun_mk (st := s_behind_signs) l_behind_signs c_behind_signs k_behind_signs
  have D_behind_signs : IsDef K mg "behind_signs" s_behind_signs ["text", "at", "signs"] := ⟨f_behind_signs, _, F_behind_signs, PySem.W.mg_of X G a_behind_signs, F_behind_signs.binds (ps := ["text", "at", "signs"]) fun _ _ _ _ _ _ us hl => match us, hl with | [_, _, _], _ => rfl⟩
  have F_expected := fun_mk (st := s_expected) l_expected c_expected k_expected
  have D_expected : IsDef K mg "expected" s_expected ["text", "at", "word"] := ⟨f_expected, _, F_expected, PySem.W.mg_of X G a_expected, F_expected.binds (ps := ["text", "at", "word"]) fun _ _ _ _ _ _ us hl => match us, hl with | [_, _, _], _ => rfl⟩
  have F_read_name := fun_mk (st := s_read_name) l_read_name c_read_name k_read_name
  have D_read_name : IsDef K mg "read_name" s_read_name ["text", "at"] := ⟨f_read_name, _, F_read_name, PySem.W.mg_of X G a_read_name, F_read_name.binds (ps := ["text", "at"]) fun _ _ _ _ _ _ us hl => match us, hl with | [_, _], _ => rfl⟩
  have F_read_number := fun_mk (st := s_read_number) l_read_number c_read_number k_read_number
  have D_read_number : IsDef K mg "read_number" s_read_number ["text", "at"] := ⟨f_read_number, _, F_read_number, PySem.W.mg_of X G a_read_number, F_read_number.binds (ps := ["text", "at"]) fun _ _ _ _ _ _ us hl => match us, hl with | [_, _], _ => rfl⟩
  have F_read_two := fun_mk (st := s_read_two) l_read_two c_read_two k_read_two
  have D_read_two : IsDef K mg "read_two" s_read_two ["text", "at", "depth"] := ⟨f_read_two, _, F_read_two, PySem.W.mg_of X G a_read_two, F_read_two.binds (ps := ["text", "at", "depth"]) fun _ _ _ _ _ _ us hl => match us, hl with | [_, _, _], _ => rfl⟩
  have F_read_pick := fun_mk (st := s_read_pick) l_read_pick c_read_pick k_read_pick
  have D_read_pick : IsDef K mg "read_pick" s_read_pick ["text", "at", "depth"] := ⟨f_read_pick, _, F_read_pick, PySem.W.mg_of X G a_read_pick, F_read_pick.binds (ps := ["text", "at", "depth"]) fun _ _ _ _ _ _ us hl => match us, hl with | [_, _, _], _ => rfl⟩
  have F_read_part := fun_mk (st := s_read_part) l_read_part c_read_part k_read_part
  have D_read_part : IsDef K mg "read_part" s_read_part ["text", "at", "depth"] := ⟨f_read_part, _, F_read_part, PySem.W.mg_of X G a_read_part, F_read_part.binds (ps := ["text", "at", "depth"]) fun _ _ _ _ _ _ us hl => match us, hl with | [_, _, _], _ => rfl⟩
  have F_read_recipe := fun_mk (st := s_read_recipe) l_read_recipe c_read_recipe k_read_recipe
  have D_read_recipe : IsDef K mg "read_recipe" s_read_recipe ["text"] := ⟨f_read_recipe, _, F_read_recipe, PySem.W.mg_of X G a_read_recipe, F_read_recipe.binds (ps := ["text"]) fun _ _ _ _ _ _ us hl => match us, hl with | [_], _ => rfl⟩
  have F__law_deck := fun_mk (st := s__law_deck) l__law_deck c__law_deck k__law_deck
  have D__law_deck : IsDef K mg "_law_deck" s__law_deck ["script"] := ⟨f__law_deck, _, F__law_deck, PySem.W.mg_of X G a__law_deck, F__law_deck.binds (ps := ["script"]) fun _ _ _ _ _ _ us hl => match us, hl with | [_], _ => rfl⟩
  have F__law_draw := fun_mk (st := s__law_draw) l__law_draw c__law_draw k__law_draw
  have D__law_draw : IsDef K mg "_law_draw" s__law_draw ["deck", "many"] := ⟨f__law_draw, _, F__law_draw, PySem.W.mg_of X G a__law_draw, F__law_draw.binds (ps := ["deck", "many"]) fun _ _ _ _ _ _ us hl => match us, hl with | [_, _], _ => rfl⟩
  have F__law_name := fun_mk (st := s__law_name) l__law_name c__law_name k__law_name
  have D__law_name : IsDef K mg "_law_name" s__law_name ["deck"] := ⟨f__law_name, _, F__law_name, PySem.W.mg_of X G a__law_name, F__law_name.binds (ps := ["deck"]) fun _ _ _ _ _ _ us hl => match us, hl with | [_], _ => rfl⟩
  have F__law_number := fun_mk (st := s__law_number) l__law_number c__law_number k__law_number
  have D__law_number : IsDef K mg "_law_number" s__law_number ["deck"] := ⟨f__law_number, _, F__law_number, PySem.W.mg_of X G a__law_number, F__law_number.binds (ps := ["deck"]) fun _ _ _ _ _ _ us hl => match us, hl with | [_], _ => rfl⟩
  have F__law_recipe := fun_mk (st := s__law_recipe) l__law_recipe c__law_recipe k__law_recipe
  have D__law_recipe : IsDef K mg "_law_recipe" s__law_recipe ["deck", "deep", "left"] := ⟨f__law_recipe, _, F__law_recipe, PySem.W.mg_of X G a__law_recipe, F__law_recipe.binds (ps := ["deck", "deep", "left"]) fun _ _ _ _ _ _ us hl => match us, hl with | [_, _, _], _ => rfl⟩
  have F__law_text := fun_mk (st := s__law_text) l__law_text c__law_text k__law_text
  have D__law_text : IsDef K mg "_law_text" s__law_text ["r"] := ⟨f__law_text, _, F__law_text, PySem.W.mg_of X G a__law_text, F__law_text.binds (ps := ["r"]) fun _ _ _ _ _ _ us hl => match us, hl with | [_], _ => rfl⟩
  have F__law_is_name := fun_mk (st := s__law_is_name) l__law_is_name c__law_is_name k__law_is_name
  have D__law_is_name : IsDef K mg "_law_is_name" s__law_is_name ["thing"] := ⟨f__law_is_name, _, F__law_is_name, PySem.W.mg_of X G a__law_is_name, F__law_is_name.binds (ps := ["thing"]) fun _ _ _ _ _ _ us hl => match us, hl with | [_], _ => rfl⟩
  have F__law_spots := fun_mk (st := s__law_spots) l__law_spots c__law_spots k__law_spots
  have D__law_spots : IsDef K mg "_law_spots" s__law_spots ["thing"] := ⟨f__law_spots, _, F__law_spots, PySem.W.mg_of X G a__law_spots, F__law_spots.binds (ps := ["thing"]) fun _ _ _ _ _ _ us hl => match us, hl with | [_], _ => rfl⟩
  have F__law_size := fun_mk (st := s__law_size) l__law_size c__law_size k__law_size
  have D__law_size : IsDef K mg "_law_size" s__law_size ["thing", "depth"] := ⟨f__law_size, _, F__law_size, PySem.W.mg_of X G a__law_size, F__law_size.binds (ps := ["thing", "depth"]) fun _ _ _ _ _ _ us hl => match us, hl with | [_, _], _ => rfl⟩
  have F__law_is := fun_mk (st := s__law_is) l__law_is c__law_is k__law_is
  have D__law_is : IsDef K mg "_law_is" s__law_is ["thing"] := ⟨f__law_is, _, F__law_is, PySem.W.mg_of X G a__law_is, F__law_is.binds (ps := ["thing"]) fun _ _ _ _ _ _ us hl => match us, hl with | [_], _ => rfl⟩
  have F__law_places := fun_mk (st := s__law_places) l__law_places c__law_places k__law_places
  have D__law_places : IsDef K mg "_law_places" s__law_places ["text", "words"] := ⟨f__law_places, _, F__law_places, PySem.W.mg_of X G a__law_places, F__law_places.binds (ps := ["text", "words"]) fun _ _ _ _ _ _ us hl => match us, hl with | [_, _], _ => rfl⟩
  have F__law_leaf := fun_mk (st := s__law_leaf) l__law_leaf c__law_leaf k__law_leaf
  have D__law_leaf : IsDef K mg "_law_leaf" s__law_leaf ["text"] := ⟨f__law_leaf, _, F__law_leaf, PySem.W.mg_of X G a__law_leaf, F__law_leaf.binds (ps := ["text"]) fun _ _ _ _ _ _ us hl => match us, hl with | [_], _ => rfl⟩
  have F__law_parted := fun_mk (st := s__law_parted) l__law_parted c__law_parted k__law_parted
  have D__law_parted : IsDef K mg "_law_parted" s__law_parted ["text", "depth"] := ⟨f__law_parted, _, F__law_parted, PySem.W.mg_of X G a__law_parted, F__law_parted.binds (ps := ["text", "depth"]) fun _ _ _ _ _ _ us hl => match us, hl with | [_, _], _ => rfl⟩
  have F__law_parse := fun_mk (st := s__law_parse) l__law_parse c__law_parse k__law_parse
  have D__law_parse : IsDef K mg "_law_parse" s__law_parse ["text", "depth"] := ⟨f__law_parse, _, F__law_parse, PySem.W.mg_of X G a__law_parse, F__law_parse.binds (ps := ["text", "depth"]) fun _ _ _ _ _ _ us hl => match us, hl with | [_, _], _ => rfl⟩
  have F__law_due := fun_mk (st := s__law_due) l__law_due c__law_due k__law_due
  have D__law_due : IsDef K mg "_law_due" s__law_due ["text"] := ⟨f__law_due, _, F__law_due, PySem.W.mg_of X G a__law_due, F__law_due.binds (ps := ["text"]) fun _ _ _ _ _ _ us hl => match us, hl with | [_], _ => rfl⟩
  have F__law_read := fun_mk (st := s__law_read) l__law_read c__law_read k__law_read
  have D__law_read : IsDef K mg "_law_read" s__law_read ["text"] := ⟨f__law_read, _, F__law_read, PySem.W.mg_of X G a__law_read, F__law_read.binds (ps := ["text"]) fun _ _ _ _ _ _ us hl => match us, hl with | [_], _ => rfl⟩
  have F__law_changed := fun_mk (st := s__law_changed) l__law_changed c__law_changed k__law_changed
  have D__law_changed : IsDef K mg "_law_changed" s__law_changed ["text", "deck"] := ⟨f__law_changed, _, F__law_changed, PySem.W.mg_of X G a__law_changed, F__law_changed.binds (ps := ["text", "deck"]) fun _ _ _ _ _ _ us hl => match us, hl with | [_, _], _ => rfl⟩
  have F_law := fun_mk (st := s_law) l_law c_law k_law
  have m_len := PySem.W.mg_none_of X G z_len
  have m_list := PySem.W.mg_none_of X G z_list
  have m_range := PySem.W.mg_none_of X G z_range
  have m_tuple := PySem.W.mg_none_of X G z_tuple
  have m_str := PySem.W.mg_none_of X G z_str
  have m_int := PySem.W.mg_none_of X G z_int
  have m_isinstance := PySem.W.mg_none_of X G z_isinstance
  have m_bool := PySem.W.mg_none_of X G z_bool
  have m_sum := PySem.W.mg_none_of X G z_sum
  have m_zip := PySem.W.mg_none_of X G z_zip
  have m_ValueError := PySem.W.mg_none_of X G z_ValueError
  have T : Txt K mg := ⟨m_len, m_list, m_range, m_tuple, m_str, m_int, m_isinstance, m_bool, m_sum, m_zip, m_ValueError⟩
  have R : RTxt K mg f_TWOS := ⟨⟨_, PySem.W.mg_of X G r_LETTERS⟩, ⟨_, PySem.W.mg_of X G r_LONGEST⟩, ⟨_, PySem.W.mg_of X G r_DEEPEST⟩, ⟨_, PySem.W.mg_of X G r_MOST⟩, ⟨_, PySem.W.mg_of X G r_MOST_NAMES⟩, PySem.W.mg_of X G r_TWOS, fun H => by
      obtain ⟨t1, t2, t3, t4, e⟩ := v_TWOS
      subst e
      exact .inr ⟨_, _, _, l_TWOS, rfl, rfl, le_line (Nat.le_of_ble_eq_true rfl), .cons ⟨_, rfl⟩ (.cons ⟨_, rfl⟩ (.cons ⟨_, rfl⟩ (.cons ⟨_, rfl⟩ .nil)))⟩⟩
  have F0 : FTxt K mg := ⟨⟨_, PySem.W.mg_of X G r_FIGURES⟩, ⟨_, PySem.W.mg_of X G r_MOST_FIGURES⟩⟩
  have XN : NoT K mg C_NoText := ⟨x_NoText, PySem.W.mg_of X G a_NoText, k_NoText, b_NoText, t_NoText⟩
  have XW : WordsT K w mg f_WORDS es_WORDS n_WORDS := ⟨PySem.W.mg_of X G a_WORDS, ⟨l_WORDS, y_WORDS, b_WORDS⟩, fun z hz => by
      obtain ⟨h1, h2, h3, h4, u1, u2, u3, u4, v1, v2, v3, v4, e⟩ := v_WORDS
      subst e
      exact words_no l_WORDS z hz, fun z k hz => by
      rw [two_yes hz]
      cases k
      · exact ⟨_, _, _, l_WORDS, y_WORDS, (show (" + " : Str) = SX.S [32, 43, 32] by decide +kernel) ▸ e1, ⟨_, rfl⟩⟩
      · exact ⟨_, _, _, l_WORDS, y_WORDS, (show (" - " : Str) = SX.S [32, 45, 32] by decide +kernel) ▸ e2, ⟨_, rfl⟩⟩
      · exact ⟨_, _, _, l_WORDS, y_WORDS, (show (" * " : Str) = SX.S [32, 42, 32] by decide +kernel) ▸ e3, ⟨_, rfl⟩⟩
      · exact ⟨_, _, _, l_WORDS, y_WORDS, (show (" ^ " : Str) = SX.S [32, 94, 32] by decide +kernel) ▸ e4, ⟨_, rfl⟩⟩⟩
  have RE : Errs K mg C_NoText C_MadeError C_NoDeed C_NoName C_NoRead C_NoRecord C_NoRow C_Ring := ⟨PySem.W.mg_of X G a_MadeError, PySem.W.mg_of X G a_NoText, PySem.W.mg_of X G a_NoDeed, PySem.W.mg_of X G a_NoName, PySem.W.mg_of X G a_NoRead, PySem.W.mg_of X G a_NoRecord, PySem.W.mg_of X G a_NoRow, PySem.W.mg_of X G a_Ring, m_ValueError, PySem.W.exm_ref b_MadeError d_MadeError y_MadeError u_MadeError, ⟨q_hg, q_hk, b_NoText, q_hd, q_ha, q_hn, q_ht, q_hm⟩, kit_self, kit_built (by decide +kernel) u_ValueError, kit_cons (kit_own w_NoDeed d_NoDeed y_NoDeed u_NoDeed) (kit_cons (kit_own w_NoName d_NoName y_NoName u_NoName) (kit_cons (kit_own w_NoRead d_NoRead y_NoRead u_NoRead) (kit_cons (kit_own w_NoRecord d_NoRecord y_NoRecord u_NoRecord) (kit_cons (kit_own w_NoRow d_NoRow y_NoRow u_NoRow) (kit_cons (kit_own w_Ring d_Ring y_Ring u_Ring) (rfl))))))⟩
  refine ⟨PySem.W.fnOf "law" "law" (defArgs s_law) (defBody s_law) (defScope s_law) .none kV_law dc_law pm_law an_law cd_law ct_law, fun s v => .of_eq rfl, fun base _ _ => ?_⟩
  have C1 := ok__law_draw (P := l.prog) (w := w) (base := base) T D__law_draw
  have C2 := ok__law_name T D__law_name C1
  have C3 := ok__law_number T D__law_number C1
  have W1 := ok_is_whole (P := l.prog) (w := w) (base := base) T D_is_whole
  have W2 := ok_is_name (P := l.prog) (w := w) (base := base) T R D_is_name
  have W3 := ok_are_names T R D_are_names W2
  have W4 := ok_within T R D_within W1 W2 W3
  have W5 := ok_is_recipe T R D_is_recipe W4
  have Y1 := ok_behind_signs (P := l.prog) (w := w) (base := base) T D_behind_signs
  have Y2 := ok_expected (P := l.prog) (w := w) (base := base) T XN D_expected
  have Y3 := ok_read_name T R XN D_read_name Y1 W2
  have Y4 := ok_read_number T F0 XN D_read_number Y1
  have Y5 := all_read_part T R XW XN D_read_part D_read_two D_read_pick Y1 W3 Y2 Y3 Y4 8
  have Y6 := ok_read_recipe T XN D_read_recipe W5 Y5
  have N1 := ok__law_is_name (P := l.prog) (w := w) (base := base) T D__law_is_name
  have N2 := ok__law_is T D__law_is (all__law_size T D__law_size (ok__law_spots T D__law_spots N1) 8)
  have N3 := all__law_parse T D__law_parse D__law_parted N1 (ok__law_leaf8 T D__law_leaf N1) (ok__law_places T D__law_places) 8
  exact ok_law F_law T C1 (ok__law_deck T D__law_deck) (all__law_recipe T D__law_recipe C1 C3 C2 8) (all__law_text T D__law_text 8) (ok__law_changed T D__law_changed C1) (ok__law_due T D__law_due N3 N2) (ok__law_readF T RE D__law_read Y6)
theorem walk {l : PySem.W.OpenLaw} {q : Program} {loose : List Str} {XP : (Str → Option Value) → Heap → Prop} {YP : World → Heap → Prop} {d : DefRec} {K : Params → PySem.W.Frag} (hn : l.most = some 63) (hdf : d.params.defaults = [])
    (hY : ∀ (w : World) (h : Heap), YP w h → (K w.params).In h)
    (F : ∀ (w : World) (mg : Str → Option Value) (fa : Addr) (h : Heap), (K w.params).In h → h.Ns mainGlobals mg → mg d.name = some (.ref fa) →
      ∃ fd : FuncData, (∀ (s : Shared) (u : Value), BindsTo s fd ⟨[u], []⟩ [("script", u)]) ∧ ∀ base : Heap, (K w.params).In base → base.Ns mainGlobals mg → FnOk l.prog w (K w.params) mg base CX0 22 fa fd ["script"] (spLaw (K w.params))) :
    PySem.W.WalkO q loose XP YP l.row.toRowW d [] (fun f vs => PySem.call f vs) :=
  L2.walk_of (n := 63) (k := 22) (x := "script") (CX := fun _ => CX0) (sp := fun w => spLaw (K w.params)) hn (by decide) hdf ⟨rfl, by decide, by decide⟩ hY F (fun _ _ a ns hl _ hS => ⟨a, ns, rfl, hS, hl, fun _ => rfl⟩) fun _ _ _ _ _ z => z
end Mad
open PySem PySem.W PyProof.Rows
set_option maxRecDepth 100000 in
set_option maxHeartbeats 0 in
theorem PySem.Challenge.cw_madeagain_k08_texts_changed_holds : PySem.Challenge.rw_madeagain_k08_texts_changed.Holds := by
  w_on; o_law; k_head; (case hw => w_witness2)
  k_fill
  refine Mad.walk (l := PySem.Challenge.rw_madeagain_k08_texts_changed) rfl rfl (fun w h Y => PySem.W.kIn_of Y) ?F
  case F =>
    intro w mg fa h KX G hmg
    refine' Mad.all_mk KX G hmg ?a_is_whole ?l_is_whole ?c_is_whole ?k_is_whole ?a_is_name ?l_is_name ?c_is_name ?k_is_name ?a_are_names ?l_are_names ?c_are_names ?k_are_names ?a_within ?l_within ?c_within ?k_within ?a_is_recipe ?l_is_recipe ?c_is_recipe ?k_is_recipe ?a_behind_signs ?l_behind_signs ?c_behind_signs ?k_behind_signs ?a_expected ?l_expected ?c_expected ?k_expected ?a_read_name ?l_read_name ?c_read_name ?k_read_name ?a_read_number ?l_read_number ?c_read_number ?k_read_number ?a_read_two ?l_read_two ?c_read_two ?k_read_two ?a_read_pick ?l_read_pick ?c_read_pick ?k_read_pick ?a_read_part ?l_read_part ?c_read_part ?k_read_part ?a_read_recipe ?l_read_recipe ?c_read_recipe ?k_read_recipe ?a__law_deck ?l__law_deck ?c__law_deck ?k__law_deck ?a__law_draw ?l__law_draw ?c__law_draw ?k__law_draw ?a__law_name ?l__law_name ?c__law_name ?k__law_name ?a__law_number ?l__law_number ?c__law_number ?k__law_number ?a__law_recipe ?l__law_recipe ?c__law_recipe ?k__law_recipe ?a__law_text ?l__law_text ?c__law_text ?k__law_text ?a__law_is_name ?l__law_is_name ?c__law_is_name ?k__law_is_name ?a__law_spots ?l__law_spots ?c__law_spots ?k__law_spots ?a__law_size ?l__law_size ?c__law_size ?k__law_size ?a__law_is ?l__law_is ?c__law_is ?k__law_is ?a__law_places ?l__law_places ?c__law_places ?k__law_places ?a__law_leaf ?l__law_leaf ?c__law_leaf ?k__law_leaf ?a__law_parted ?l__law_parted ?c__law_parted ?k__law_parted ?a__law_parse ?l__law_parse ?c__law_parse ?k__law_parse ?a__law_due ?l__law_due ?c__law_due ?k__law_due ?a__law_read ?l__law_read ?c__law_read ?k__law_read ?a__law_changed ?l__law_changed ?c__law_changed ?k__law_changed ?a_law ?l_law ?c_law ?k_law ?z_len ?z_list ?z_range ?z_tuple ?z_str ?z_int ?z_isinstance ?z_bool ?z_sum ?z_zip ?z_ValueError ?r_LETTERS ?r_LONGEST ?r_DEEPEST ?r_MOST ?r_MOST_NAMES ?r_TWOS ?l_TWOS ?v_TWOS ?r_FIGURES ?r_MOST_FIGURES ?a_WORDS ?l_WORDS ?y_WORDS ?b_WORDS ?v_WORDS ?e1 ?e2 ?e3 ?e4 ?a_NoText ?x_NoText ?k_NoText ?b_NoText ?t_NoText ?a_MadeError ?a_NoDeed ?a_NoName ?a_NoRead ?a_NoRecord ?a_NoRow ?a_Ring ?d_MadeError ?d_NoDeed ?d_NoName ?d_NoRead ?d_NoRecord ?d_NoRow ?d_Ring ?y_MadeError ?y_NoDeed ?y_NoName ?y_NoRead ?y_NoRecord ?y_NoRow ?y_Ring ?u_MadeError ?u_NoDeed ?u_NoName ?u_NoRead ?u_NoRecord ?u_NoRow ?u_Ring ?w_NoDeed ?w_NoName ?w_NoRead ?w_NoRecord ?w_NoRow ?w_Ring ?b_MadeError ?u_ValueError ?q_hg ?q_hk ?q_hd ?q_ha ?q_hn ?q_ht ?q_hm
    (case a_is_whole => k_is)
    (case l_is_whole => k_is)
    (case c_is_whole => k_is)
    (case k_is_whole => k_is)
    (case a_is_name => k_is)
    (case l_is_name => k_is)
    (case c_is_name => k_is)
    (case k_is_name => k_is)
    (case a_are_names => k_is)
    (case l_are_names => k_is)
    (case c_are_names => k_is)
    (case k_are_names => k_is)
    (case a_within => k_is)
    (case l_within => k_is)
    (case c_within => k_is)
    (case k_within => k_is)
    (case a_is_recipe => k_is)
    (case l_is_recipe => k_is)
    (case c_is_recipe => k_is)
    (case k_is_recipe => k_is)
    (case a_behind_signs => k_is)
    (case l_behind_signs => k_is)
    (case c_behind_signs => k_is)
    (case k_behind_signs => k_is)
    (case a_expected => k_is)
    (case l_expected => k_is)
    (case c_expected => k_is)
    (case k_expected => k_is)
    (case a_read_name => k_is)
    (case l_read_name => k_is)
    (case c_read_name => k_is)
    (case k_read_name => k_is)
    (case a_read_number => k_is)
    (case l_read_number => k_is)
    (case c_read_number => k_is)
    (case k_read_number => k_is)
    (case a_read_two => k_is)
    (case l_read_two => k_is)
    (case c_read_two => k_is)
    (case k_read_two => k_is)
    (case a_read_pick => k_is)
    (case l_read_pick => k_is)
    (case c_read_pick => k_is)
    (case k_read_pick => k_is)
    (case a_read_part => k_is)
    (case l_read_part => k_is)
    (case c_read_part => k_is)
    (case k_read_part => k_is)
    (case a_read_recipe => k_is)
    (case l_read_recipe => k_is)
    (case c_read_recipe => k_is)
    (case k_read_recipe => k_is)
    (case a__law_deck => k_is)
    (case l__law_deck => k_is)
    (case c__law_deck => k_is)
    (case k__law_deck => k_is)
    (case a__law_draw => k_is)
    (case l__law_draw => k_is)
    (case c__law_draw => k_is)
    (case k__law_draw => k_is)
    (case a__law_name => k_is)
    (case l__law_name => k_is)
    (case c__law_name => k_is)
    (case k__law_name => k_is)
    (case a__law_number => k_is)
    (case l__law_number => k_is)
    (case c__law_number => k_is)
    (case k__law_number => k_is)
    (case a__law_recipe => k_is)
    (case l__law_recipe => k_is)
    (case c__law_recipe => k_is)
    (case k__law_recipe => k_is)
    (case a__law_text => k_is)
    (case l__law_text => k_is)
    (case c__law_text => k_is)
    (case k__law_text => k_is)
    (case a__law_is_name => k_is)
    (case l__law_is_name => k_is)
    (case c__law_is_name => k_is)
    (case k__law_is_name => k_is)
    (case a__law_spots => k_is)
    (case l__law_spots => k_is)
    (case c__law_spots => k_is)
    (case k__law_spots => k_is)
    (case a__law_size => k_is)
    (case l__law_size => k_is)
    (case c__law_size => k_is)
    (case k__law_size => k_is)
    (case a__law_is => k_is)
    (case l__law_is => k_is)
    (case c__law_is => k_is)
    (case k__law_is => k_is)
    (case a__law_places => k_is)
    (case l__law_places => k_is)
    (case c__law_places => k_is)
    (case k__law_places => k_is)
    (case a__law_leaf => k_is)
    (case l__law_leaf => k_is)
    (case c__law_leaf => k_is)
    (case k__law_leaf => k_is)
    (case a__law_parted => k_is)
    (case l__law_parted => k_is)
    (case c__law_parted => k_is)
    (case k__law_parted => k_is)
    (case a__law_parse => k_is)
    (case l__law_parse => k_is)
    (case c__law_parse => k_is)
    (case k__law_parse => k_is)
    (case a__law_due => k_is)
    (case l__law_due => k_is)
    (case c__law_due => k_is)
    (case k__law_due => k_is)
    (case a__law_read => k_is)
    (case l__law_read => k_is)
    (case c__law_read => k_is)
    (case k__law_read => k_is)
    (case a__law_changed => k_is)
    (case l__law_changed => k_is)
    (case c__law_changed => k_is)
    (case k__law_changed => k_is)
    (case a_law => k_is)
    (case l_law => k_is)
    (case c_law => k_is)
    (case k_law => k_is)
    (case z_len => k_is)
    (case z_list => k_is)
    (case z_range => k_is)
    (case z_tuple => k_is)
    (case z_str => k_is)
    (case z_int => k_is)
    (case z_isinstance => k_is)
    (case z_bool => k_is)
    (case z_sum => k_is)
    (case z_zip => k_is)
    (case z_ValueError => k_is)
    (case r_LETTERS => k_is)
    (case r_LONGEST => k_is)
    (case r_DEEPEST => k_is)
    (case r_MOST => k_is)
    (case r_MOST_NAMES => k_is)
    (case r_TWOS => k_is)
    (case l_TWOS => k_is)
    (case v_TWOS => exact ⟨_, _, _, _, rfl⟩)
    (case r_FIGURES => k_is)
    (case r_MOST_FIGURES => k_is)
    (case a_WORDS => k_is)
    (case l_WORDS => k_is)
    (case y_WORDS => k_keys)
    (case b_WORDS => first | rfl | decide)
    (case v_WORDS => exact ⟨_, _, _, _, _, _, _, _, _, _, _, _, rfl⟩)
    (case e1 => k_is)
    (case e2 => k_is)
    (case e3 => k_is)
    (case e4 => k_is)
    (case a_NoText => k_is)
    (case x_NoText => k_exc)
    (case k_NoText => k_is)
    (case b_NoText => k_is)
    (case t_NoText => k_is)
    (case a_MadeError => k_is)
    (case a_NoDeed => k_is)
    (case a_NoName => k_is)
    (case a_NoRead => k_is)
    (case a_NoRecord => k_is)
    (case a_NoRow => k_is)
    (case a_Ring => k_is)
    (case d_MadeError => k_is)
    (case d_NoDeed => k_is)
    (case d_NoName => k_is)
    (case d_NoRead => k_is)
    (case d_NoRecord => k_is)
    (case d_NoRow => k_is)
    (case d_Ring => k_is)
    (case y_MadeError => k_is)
    (case y_NoDeed => k_is)
    (case y_NoName => k_is)
    (case y_NoRead => k_is)
    (case y_NoRecord => k_is)
    (case y_NoRow => k_is)
    (case y_Ring => k_is)
    (case u_MadeError => k_is)
    (case u_NoDeed => k_is)
    (case u_NoName => k_is)
    (case u_NoRead => k_is)
    (case u_NoRecord => k_is)
    (case u_NoRow => k_is)
    (case u_Ring => k_is)
    (case w_NoDeed => first | rfl | decide)
    (case w_NoName => first | rfl | decide)
    (case w_NoRead => first | rfl | decide)
    (case w_NoRecord => first | rfl | decide)
    (case w_NoRow => first | rfl | decide)
    (case w_Ring => first | rfl | decide)
    (case b_MadeError => k_is)
    (case u_ValueError => k_is)
    (case q_hg => k_is)
    (case q_hk => k_is)
    (case q_hd => k_is)
    (case q_ha => k_is)
    (case q_hn => k_is)
    (case q_ht => k_is)
    (case q_hm => k_is)
#print axioms PySem.Challenge.cw_madeagain_k08_texts_changed_holds
