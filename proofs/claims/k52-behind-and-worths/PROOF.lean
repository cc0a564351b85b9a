import PyProof.Rows.All
import Wide.All
import OpenK.AllK
import Wide.FinOn
import HandS.ForMost
import HandS.Wide
import HandS.IsInst
import HandS.Codes
import HandS.More
import HandS.Style
import HandS.TupMul
import HandS.TupAny
import HandS.Dict
import HandS.Iter
import HandS.SortInts
import HandS.SortOrd
import KE.KEqSeq
import HandS.Exc
import HandS.ExcOwn
import HandS.WordsExc
import KE.IntTextLaws
import KE.IntTextText
import HandS.ExcValue
import HandS.TryOnly
import HandS.ExcIs
import PyProof.StrOps2
import HandS.Strs
import HandS.NoneIn
import HandS.ReplaceLit
import HandS.ReplaceList
import HandS.Zip
import HandS.Deep
import HandS.StrMore
import HandS.Walk
import HandS.RaiseMore
import HandS.Lambda
import HandS.Nested
import HandS.EndTab
import HandS.ExcInit
import HandS.ExcField
import HandS.SetKeys
import KE.KExcIs
import KE.KEqNest
import HandS.Sort
import PySem.Challenge.RW_madeagain_k52_whole_behind_and_worths
set_option Elab.async false
set_option linter.all false
set_option maxRecDepth 100000
set_option maxHeartbeats 4000000
set_option pp.maxSteps 300
namespace Mad
open PySem PySem.Spec PyProof.Rows L2
def topS (i : Nat) : Stmt := PySem.Challenge.pw_madeagain_k52_whole_behind_and_worths.main.body.getD i (.Pass ⟨0, 0, 0, 0⟩)
/-! ### short words over the layer -/
/-- the def x of the text stands in the module as st says -/
def IsDef (K : PySem.W.Frag) (mg : Str → Option Value) (x : Str) (st : Stmt) (ps : List Str) : Prop := ∃ (f : Addr) (fd : FuncData), Fun K x x st f fd ∧ mg x = some (.ref f) ∧ Binds K fd ps []
/-- the def x keeps the promise sp by at most k calls in one another -/
def Cal (P : Program) (w : World) (K : PySem.W.Frag) (mg : Str → Option Value) (base : Heap) (CX : CXT) (k : Nat) (x : Str) (ps : List Str) (sp : Sp) : Prop :=
  ∃ (f : Addr) (fd : FuncData), FnOk P w K mg base CX k f fd ps sp ∧ mg x = some (.ref f) ∧ PySem.W.keepIn K (.ref f) = true ∧ Binds K fd ps []
section
variable {P : Program} {w : World} {K : PySem.W.Frag} {mg : Str → Option Value} {base : Heap}
theorem Cal.mono {CX : CXT} {j k : Nat} {x : Str} {ps : List Str} {sp : Sp} (c : Cal P w K mg base CX j x ps sp) (h : j ≤ k) : Cal P w K mg base CX k x ps sp := by
  obtain ⟨f, fd, F, r⟩ := c
  exact ⟨f, fd, F.mono h, r⟩
theorem Cal.imp {CX : CXT} {k : Nat} {x : Str} {ps : List Str} {sp sp' : Sp} (c : Cal P w K mg base CX k x ps sp) (h : ∀ vs H Q E, sp' vs H Q E → sp vs H Q E) : Cal P w K mg base CX k x ps sp' := by
  obtain ⟨f, fd, F, r⟩ := c
  exact ⟨f, fd, F.imp h, r⟩
/-- of no depth none is asked -/
theorem cal_none {x : Str} {st : Stmt} {ps : List Str} {sp : Sp} {CX : CXT} {k : Nat} (D : IsDef K mg x st ps) (no : ∀ vs H Q E, ¬ sp vs H Q E) : Cal P w K mg base CX k x ps sp := by
  obtain ⟨f, fd, F, m, b⟩ := D
  exact ⟨f, fd, ⟨fun vs H Q E h => absurd h (no vs H Q E), fun A outer s H args us vs Q E _ _ _ _ h => absurd h (no vs H Q E)⟩, m, F.kp, b⟩
theorem IsDef.cal {x : Str} {st : Stmt} {N ps : List Str} {k : Nat} {sp : Sp} (D : IsDef K mg x st ps) (S : FnScope N ps (defScope st)) (len : ∀ vs H Q E, sp vs H Q E → vs.length = ps.length)
    (hbody : ∀ (f : Addr) (cdv : Value) (A : Around) (outer : List Env) (s : Shared) (H : Hp) (vs : List V) (Q : VK) (E : XK), Room k (A.deeper (envOfC x (defScope st) s.heap.objs.size f cdv)) → sp vs H Q E →
      ∃ t, PSs (cxOf CX0 P w K mg base N x (defScope st) f cdv A outer s H E).nox (defBody st) t ∧ t { nx := fun _ H' => Q .non H', rt := Q } (start N vs) H) : Cal P w K mg base CX0 (k + 1) x ps sp := by
  obtain ⟨f, fd, F, m, b⟩ := D
  exact ⟨f, fd, F.ok S len fun cdv A outer s H vs Q E => hbody f cdv A outer s H vs Q E, m, F.kp, b⟩
end
section
variable {X : Cx} {CX : CXT} {k : Nat} {ps : List Str} {sp : Sp} {E : XK} {x : Str} {p pos : Pos}
theorem pe_cal {e : Expr} {es : List Expr} {t : TA} (c : Cal X.prog X.w X.K X.mg X.base CX k x ps sp) (hr : Room k X.A) (hx : Passes CX X E) (ha : PA X (e :: es) t) (hg : Gl X x := by rfl)
    (hdb : (x == ("__debug__" : Str)) = false := by decide) (he : starEach (e :: es) X.env = (false, eval e X.env) :: starEach es X.env := by rfl) (hpl : (backTo pos (starEach es X.env)).any (·.1) = false := by rfl) :
    PE X (.Call (.Name x p) (e :: es) [] pos) (tCall sp [] E t) := by
  obtain ⟨f, fd, F, m, kp, b⟩ := c
  exact pe_call F hr hg m kp b .nil hx ha hdb he hpl
theorem pe_cal0 (c : Cal X.prog X.w X.K X.mg X.base CX k x ps sp) (hr : Room k X.A) (hx : Passes CX X E) (hg : Gl X x := by rfl) (hdb : (x == ("__debug__" : Str)) = false := by decide) :
    PE X (.Call (.Name x p) [] [] pos) (tCall sp [] E tNil) := by
  obtain ⟨f, fd, F, m, kp, b⟩ := c
  exact pe_call0 F hr hg m kp b .nil hx hdb
end
theorem le_line {n : Nat} (h : n ≤ 16777216) : n ≤ sizeLine := by rw [sizeLine_eq]; exact h
theorem lt_line {n : Nat} (h : n < 16777216) : n < sizeLine := by rw [sizeLine_eq]; exact h
theorem same_new {H : Hp} {p : Addr} (h : H p = none) (o : HO) : Same H (upd H p o) := fun b u q => by rw [upd_ne (ne_of_none q h)]; exact q
theorem same_upd {B H : Hp} {p : Addr} (s : Same B H) (h : B p = none) (o : HO) : Same B (upd H p o) := fun b u q => by
  have z : b ≠ p := fun e => by rw [e, h] at q; cases q
  rw [upd_ne z]; exact s _ _ q
theorem atI_at {α : Type} {xs : List α} {i : Int} {v : α} (h0 : 0 ≤ i) (h : xs[i.toNat]? = some v) : atI xs i = some v := by
  have e : i = ((i.toNat : Nat) : Int) := by omega
  rw [e]; exact atI_nat h
theorem ixN_at {n : Nat} {i : Int} (h0 : 0 ≤ i) (h : i < n) : ixN n i = some i.toNat := by
  unfold ixN
  rw [if_pos h0, if_pos h]
theorem int_at {ns : List Int} {i : Int} (h0 : 0 ≤ i) (h : i < ns.length) : ∃ v : Int, atI (ns.map V.int) i = some (.int v) := by
  have hk : i.toNat < ns.length := by omega
  exact ⟨ns[i.toNat], atI_at h0 (by rw [List.getElem?_map, List.getElem?_eq_getElem hk] <;> rfl)⟩
theorem if_true_eq {c : Bool} {A B : Prop} (h : c = true) (a : A) : if c = true then A else B := by rw [if_pos h]; exact a
theorem if_false_eq {c : Bool} {A B : Prop} (h : c = false) (b : B) : if c = true then A else B := by rw [h]; exact b
theorem not_true_eq {c : Bool} {A B : Prop} (h : c = true) (b : B) : if (!c) = true then A else B := by rw [h]; exact b
theorem not_false_eq {c : Bool} {A B : Prop} (h : c = false) (a : A) : if (!c) = true then A else B := by rw [h]; exact a
structure Txt (K : PySem.W.Frag) (mg : Str → Option Value) : Prop where
  b_len : mg "len" = none
  b_list : mg "list" = none
  b_range : mg "range" = none
  b_tuple : mg "tuple" = none
  b_str : mg "str" = none
  b_int : mg "int" = none
  b_isinstance : mg "isinstance" = none
  b_bool : mg "bool" = none
  b_sum : mg "sum" = none
  b_dict : mg "dict" = none
  b_sorted : mg "sorted" = none
  b_zip : mg "zip" = none
  b_enumerate : mg "enumerate" = none
  b_min : mg "min" = none
  b_max : mg "max" = none
  b_set : mg "set" = none
  b_ValueError : mg "ValueError" = none
/-! ### recipes as data -/
inductive Kd where
  | plus | minus | times | most
  deriving DecidableEq
def Kd.name : Kd → Str
  | .plus => "plus" | .minus => "minus" | .times => "times" | .most => "most"
inductive Rcp where
  | num (n : Int)
  | read (s : List Nat)
  | two (k : Kd) (a b : Rcp)
  | pick (a b c : Rcp)
  | choose (a : Rcp) (ns : List (List Nat))
def Rcp.dep : Rcp → Nat
  | .num _ => 1
  | .read _ => 1
  | .two _ a b => max a.dep b.dep + 1
  | .pick a b c => max a.dep (max b.dep c.dep) + 1
  | .choose a _ => a.dep + 1
def Rcp.siz : Rcp → Nat
  | .num _ => 1
  | .read _ => 1
  | .two _ a b => a.siz + b.siz + 1
  | .pick a b c => a.siz + b.siz + c.siz + 1
  | .choose a _ => a.siz + 1
/-- a name's signs -/
def Nm (s : List Nat) : Prop := 1 ≤ s.length ∧ s.length ≤ 8 ∧ ∀ c ∈ s, 97 ≤ c ∧ c ≤ 122
def Nms (ns : List (List Nat)) : Prop := 1 ≤ ns.length ∧ ns.length ≤ 9 ∧ ∀ s ∈ ns, Nm s
def Rcp.Good : Rcp → Prop
  | .num n => n.natAbs < 10 ^ 40
  | .read s => Nm s
  | .two _ a b => a.Good ∧ b.Good
  | .pick a b c => a.Good ∧ b.Good ∧ c.Good
  | .choose a ns => a.Good ∧ Nms ns
def txs (ns : List (List Nat)) : List V := (ns.map SX.S).map V.str
/-- the value v is the recipe r in H -/
def Rec (H : Hp) : Rcp → V → Prop
  | .num n, v => ∃ p, v = .ref p ∧ H p = some (.tup [.str "number", .int n])
  | .read s, v => ∃ p, v = .ref p ∧ H p = some (.tup [.str "read", .str (SX.S s)])
  | .two k a b, v => ∃ p x y, v = .ref p ∧ H p = some (.tup [.str k.name, x, y]) ∧ Rec H a x ∧ Rec H b y
  | .pick a b c, v => ∃ p x y z, v = .ref p ∧ H p = some (.tup [.str "pick", x, y, z]) ∧ Rec H a x ∧ Rec H b y ∧ Rec H c z
  | .choose a ns, v => ∃ p x q, v = .ref p ∧ H p = some (.tup [.str "choose", x, .ref q]) ∧ Rec H a x ∧ H q = some (.tup (txs ns))
/-- tuples stay -/
def Keep (H H' : Hp) : Prop := ∀ b xs, H b = some (.tup xs) → H' b = some (.tup xs)
theorem Keep.refl (H : Hp) : Keep H H := fun _ _ h => h
theorem Keep.trans {A B C : Hp} (h : Keep A B) (k : Keep B C) : Keep A C := fun b xs q => k b xs (h b xs q)
theorem same_keep {H H' : Hp} (s : Same H H') : Keep H H' := fun b xs q => s b _ q
theorem keep_lst {H : Hp} {l : Addr} {xs ys : List V} (h : H l = some (.lst xs)) : Keep H (upd H l (.lst ys)) := fun b zs q => by
  have z : b ≠ l := fun e => by rw [e, h] at q; cases q
  rw [upd_ne z]; exact q
theorem Rec.keep {H H' : Hp} (k : Keep H H') : ∀ {r : Rcp} {v : V}, Rec H r v → Rec H' r v
  | .num n, v, ⟨p, e, h⟩ => ⟨p, e, k _ _ h⟩
  | .read s, v, ⟨p, e, h⟩ => ⟨p, e, k _ _ h⟩
  | .two _ a b, v, ⟨p, x, y, e, h, ra, rb⟩ => ⟨p, x, y, e, k _ _ h, Rec.keep k ra, Rec.keep k rb⟩
  | .pick a b c, v, ⟨p, x, y, z, e, h, ra, rb, rc⟩ => ⟨p, x, y, z, e, k _ _ h, Rec.keep k ra, Rec.keep k rb, Rec.keep k rc⟩
  | .choose a ns, v, ⟨p, x, q, e, h, ra, hq⟩ => ⟨p, x, q, e, k _ _ h, Rec.keep k ra, k _ _ hq⟩
theorem Rec.same {H H' : Hp} (s : Same H H') {r : Rcp} {v : V} (h : Rec H r v) : Rec H' r v := h.keep (same_keep s)
theorem dep_pos : ∀ r : Rcp, 1 ≤ r.dep
  | .num _ => Nat.le_refl _
  | .read _ => Nat.le_refl _
  | .two _ _ _ => Nat.le_add_left _ _
  | .pick _ _ _ => Nat.le_add_left _ _
  | .choose _ _ => Nat.le_add_left _ _
theorem siz_pos : ∀ r : Rcp, 1 ≤ r.siz
  | .num _ => Nat.le_refl _
  | .read _ => Nat.le_refl _
  | .two _ _ _ => Nat.le_add_left _ _
  | .pick _ _ _ => Nat.le_add_left _ _
  | .choose _ _ => Nat.le_add_left _ _
theorem iteY {p A B : Prop} [Decidable p] (h : p) (a : A) : if decide p = true then A else B := by
  rw [if_pos (decide_eq_true h)]; exact a
theorem iteN {p A B : Prop} [Decidable p] (h : ¬p) (b : B) : if decide p = true then A else B := by
  rw [if_neg (fun z => h (of_decide_eq_true z))]; exact b
theorem txs_get {ns : List (List Nat)} {i : Nat} (h : i < ns.length) : (txs ns)[i]? = some (.str (SX.S ns[i])) := by
  unfold txs
  rw [List.getElem?_map, List.getElem?_map, List.getElem?_eq_getElem h]
  all_goals rfl
theorem txs_mem {ns : List (List Nat)} {x : V} (h : x ∈ txs ns) : ∃ s, s ∈ ns ∧ x = .str (SX.S s) := by
  obtain ⟨y, hy, rfl⟩ := List.mem_map.mp h
  obtain ⟨s, hs, rfl⟩ := List.mem_map.mp hy
  exact ⟨s, hs, rfl⟩
theorem txs_len (ns : List (List Nat)) : (txs ns).length = ns.length := by unfold txs; rw [List.length_map, List.length_map]
theorem txs_app (a b : List (List Nat)) : txs (a ++ b) = txs a ++ txs b := by unfold txs; rw [List.map_append, List.map_append]
/-- the signs, one by one -/
def ones (ss : List Nat) : List (List Nat) := ss.map fun c => [c]
theorem ones_flat (ss : List Nat) : (ones ss).flatten = ss := by
  induction ss with
  | nil => rfl
  | cons a r ih => show [a] ++ (ones r).flatten = _; rw [ih]; rfl
theorem ones_sum (ss : List Nat) : (((ones ss).map SX.S).map (·.length)).sum = ss.length := by
  induction ss with
  | nil => rfl
  | cons a r ih => show 1 + (((ones r).map SX.S).map (·.length)).sum = r.length + 1; rw [ih, Nat.add_comm]
theorem ones_len (ss : List Nat) : (ones ss).length = ss.length := List.length_map _
/-- the pick out of some things by a drawn number -/
theorem one_of {α : Type} {xs : List α} {v : Int} (h0 : 0 ≤ v) (h : v < xs.length) : ∃ x, x ∈ xs ∧ atI xs v = some x := by
  have hk : v.toNat < xs.length := by omega
  exact ⟨xs[v.toNat], List.getElem_mem hk, atI_at h0 (List.getElem?_eq_getElem hk)⟩
def letters : List Nat := [97, 98, 99, 100, 101, 102, 103, 104, 105, 106, 107, 108, 109, 110, 111, 112, 113, 114, 115, 116, 117, 118, 119, 120, 121, 122]
theorem letters_is : ("abcdefghijklmnopqrstuvwxyz" : Str) = SX.S letters := by decide +kernel
theorem letters_ok : ∀ c ∈ letters, 97 ≤ c ∧ c ≤ 122 := by decide
/-! ### rows of recipes -/
def Recs (H : Hp) : List Rcp → List V → Prop
  | [], [] => True
  | r :: rs, v :: vs => Rec H r v ∧ Recs H rs vs
  | _, _ => False
theorem Recs.keep {H H' : Hp} (k : Keep H H') : ∀ {rs : List Rcp} {vs : List V}, Recs H rs vs → Recs H' rs vs
  | [], [], _ => trivial
  | _ :: _, _ :: _, h => ⟨h.1.keep k, Recs.keep k h.2⟩
  | [], _ :: _, h => h.elim
  | _ :: _, [], h => h.elim
theorem Recs.len {H : Hp} : ∀ {rs : List Rcp} {vs : List V}, Recs H rs vs → vs.length = rs.length
  | [], [], _ => rfl
  | _ :: _, _ :: _, h => congrArg (· + 1) (Recs.len h.2)
  | [], _ :: _, h => h.elim
  | _ :: _, [], h => h.elim
theorem Recs.snoc {H : Hp} {r : Rcp} {v : V} (hr : Rec H r v) : ∀ {rs : List Rcp} {vs : List V}, Recs H rs vs → Recs H (rs ++ [r]) (vs ++ [v])
  | [], [], _ => ⟨hr, trivial⟩
  | _ :: _, _ :: _, h => ⟨h.1, Recs.snoc hr h.2⟩
  | [], _ :: _, h => h.elim
  | _ :: _, [], h => h.elim
theorem Recs.at {H : Hp} : ∀ {rs : List Rcp} {vs : List V} {i : Nat} {v : V}, Recs H rs vs → vs[i]? = some v → ∃ r, rs[i]? = some r ∧ Rec H r v
  | [], [], i, v, _, e => by simp at e
  | r :: _, _ :: _, 0, v, h, e => ⟨r, rfl, by cases e; exact h.1⟩
  | _ :: _, _ :: _, i + 1, v, h, e => Recs.at (i := i) h.2 (by simpa using e)
  | [], _ :: _, _, _, h, _ => h.elim
  | _ :: _, [], _, _, h, _ => h.elim
theorem Recs.get {H : Hp} {rs : List Rcp} {vs : List V} {i : Nat} (h : Recs H rs vs) (hi : i < rs.length) : ∃ v r, vs[i]? = some v ∧ rs[i]? = some r ∧ Rec H r v := by
  have hv : i < vs.length := by rw [h.len]; exact hi
  obtain ⟨r, e, hr⟩ := h.at (List.getElem?_eq_getElem hv)
  exact ⟨_, r, List.getElem?_eq_getElem hv, e, hr⟩
/-- a comprehension over a range with a step -/
theorem lcC {lo c : Int} {n : Nat} {g : TG} {tt : TT} {te : TE} {vs : List Nat} {σ : L2.St} {H1 : Hp} {D : Addr} {Qd : Hp → Prop} (Pv : Nat → Hp → Prop)
    (h0 : Pv 0 (upd H1 D (.lst [])))
    (hs : ∀ i H, i < n → Pv i H → g (.int (lo + (i : Nat) * c)) (wipe σ vs) H
      fun σ2 H2 => wipe σ2 vs = wipe σ vs ∧ tt σ2 H2
        fun b H3 => if b = true then te σ2 H3
          fun y H4 => ∃ acc, H4 D = some (.lst acc) ∧ acc.length < sizeLine ∧ Pv (i + 1) (upd H4 D (.lst (acc ++ [y])))
        else Pv (i + 1) H3)
    (hd : ∀ H, Pv n H → Qd H) :
    ∃ W : Nat → Nat → Hp → Prop, (∃ m, W 0 m (upd H1 D (.lst []))) ∧
      ∀ i m H, W i m H → ((Itc lo c n).stop i H ∧ Qd H) ∨ ((Itc lo c n).go i H ∧
        ∃ Nx : Hp → Prop, (∀ H', Nx H' → ∃ m', m' < m ∧ W (i + 1) m' H') ∧
          ∀ x H', (Itc lo c n).yld i H x H' → g x (wipe σ vs) H'
            fun σ2 H2 => wipe σ2 vs = wipe σ vs ∧ tt σ2 H2
              fun b H3 => if b = true then te σ2 H3
                fun y H4 => ∃ acc, H4 D = some (.lst acc) ∧ acc.length < sizeLine ∧ Nx (upd H4 D (.lst (acc ++ [y])))
              else Nx H3) := by
  refine ⟨fun i m H => m = n - i ∧ i ≤ n ∧ Pv i H, ⟨n, rfl, Nat.zero_le _, h0⟩, fun i m H w => ?_⟩
  obtain ⟨em, hi, p⟩ := w
  by_cases hlt : i < n
  · refine Or.inr ⟨hlt, Pv (i + 1), fun H' p' => ⟨n - (i + 1), by omega, rfl, hlt, p'⟩, fun x H' y => ?_⟩
    obtain ⟨e1, e2⟩ := y
    rw [e1, e2]
    exact hs i H hlt p
  · have e : i = n := by omega
    rw [e] at p
    exact Or.inl ⟨by show n ≤ i; omega, hd H p⟩
theorem cut_nat (xs : List V) {a b : Nat} (h : a ≤ b) : cutV xs (some (a : Int)) (some (b : Int)) = (xs.drop a).take (b - a) := by
  show (xs.drop (HT.sIx xs.length 0 (some (a : Int)))).take (HT.sIx xs.length xs.length (some (b : Int)) - HT.sIx xs.length 0 (some (a : Int))) = _
  rw [HT.sIx_nat, HT.sIx_nat]
  by_cases ha : a ≤ xs.length
  · rw [Nat.min_eq_left ha]
    by_cases hb : b ≤ xs.length
    · rw [Nat.min_eq_left hb]
    · rw [Nat.min_eq_right (by omega), List.take_of_length_le (by rw [List.length_drop]; omega), List.take_of_length_le (by rw [List.length_drop]; omega)]
  · have e1 : min a xs.length = xs.length := by omega
    rw [e1, List.drop_eq_nil_of_le (Nat.le_refl _), List.drop_eq_nil_of_le (by omega), List.take_nil, List.take_nil]
theorem cut_to (xs : List V) (b : Nat) : cutV xs none (some (b : Int)) = xs.take b := by
  show (xs.drop (HT.sIx xs.length 0 none)).take (HT.sIx xs.length xs.length (some (b : Int)) - HT.sIx xs.length 0 none) = _
  rw [HT.sIx_none, HT.sIx_nat, List.drop_zero, Nat.sub_zero]
  by_cases hb : b ≤ xs.length
  · rw [Nat.min_eq_left hb]
  · rw [Nat.min_eq_right (by omega), List.take_of_length_le (Nat.le_refl _), List.take_of_length_le (by omega)]
/-! ### any things as data -/
inductive Th where
  | non
  | bl (b : Bool)
  | int (i : Int)
  | str (s : List Nat)
  | tup (l : List Th)
  | lst (l : List Th)
  | dct
mutual
/-- the value stands for the thing in H -/
def Data (H : Hp) : Th → V → Prop
  | .non, v => v = .non
  | .bl b, v => v = .bl b
  | .int i, v => v = .int i
  | .str s, v => v = .str (SX.S s)
  | .tup l, v => ∃ p xs, v = .ref p ∧ H p = some (.tup xs) ∧ DataL H l xs
  | .lst l, v => ∃ p xs, v = .ref p ∧ H p = some (.lst xs) ∧ DataL H l xs
  | .dct, v => ∃ p kvs, v = .ref p ∧ H p = some (.dK kvs)
def DataL (H : Hp) : List Th → List V → Prop
  | [], xs => xs = []
  | t :: l, xs => ∃ x r, xs = x :: r ∧ Data H t x ∧ DataL H l r
end
mutual
theorem Data.same {H H' : Hp} (s : Same H H') : ∀ {t : Th} {v : V}, Data H t v → Data H' t v
  | .non, _, h => h
  | .bl _, _, h => h
  | .int _, _, h => h
  | .str _, _, h => h
  | .tup _, _, ⟨p, xs, e, hp, hl⟩ => ⟨p, xs, e, s _ _ hp, DataL.same s hl⟩
  | .lst _, _, ⟨p, xs, e, hp, hl⟩ => ⟨p, xs, e, s _ _ hp, DataL.same s hl⟩
  | .dct, _, ⟨p, kvs, e, hp⟩ => ⟨p, kvs, e, s _ _ hp⟩
theorem DataL.same {H H' : Hp} (s : Same H H') : ∀ {l : List Th} {xs : List V}, DataL H l xs → DataL H' l xs
  | [], _, h => h
  | _ :: _, _, ⟨x, r, e, h1, h2⟩ => ⟨x, r, e, Data.same s h1, DataL.same s h2⟩
end
theorem DataL.len {H : Hp} : ∀ {l : List Th} {xs : List V}, DataL H l xs → xs.length = l.length
  | [], _, h => by rw [show _ = [] from h]; rfl
  | _ :: _, _, ⟨x, r, e, _, h2⟩ => by rw [e, List.length_cons, DataL.len h2]; rfl
theorem DataL.at {H : Hp} : ∀ {l : List Th} {xs : List V} {i : Nat} {v : V}, DataL H l xs → xs[i]? = some v → ∃ t, l[i]? = some t ∧ Data H t v
  | [], _, i, v, h, e => by rw [show _ = [] from h] at e; simp at e
  | t :: _, _, 0, v, ⟨x, r, e1, h1, _⟩, e => by subst e1; cases e; exact ⟨t, rfl, h1⟩
  | _ :: _, _, i + 1, v, ⟨x, r, e1, _, h2⟩, e => by subst e1; exact DataL.at (i := i) h2 (by simpa using e)
theorem DataL.get {H : Hp} {l : List Th} {xs : List V} {i : Nat} {t : Th} (h : DataL H l xs) (e : l[i]? = some t) : ∃ v, xs[i]? = some v ∧ Data H t v := by
  have hi : i < xs.length := by
    rw [h.len]
    exact (List.getElem?_eq_some_iff.mp e).1
  obtain ⟨t', e', hd⟩ := h.at (List.getElem?_eq_getElem hi)
  rw [e] at e'
  cases e'
  exact ⟨_, List.getElem?_eq_getElem hi, hd⟩
theorem DataL.drop {H : Hp} : ∀ {l : List Th} {xs : List V} (n : Nat), DataL H l xs → DataL H (l.drop n) (xs.drop n)
  | _, _, 0, h => h
  | [], _, n + 1, h => by rw [show _ = [] from h]; exact rfl
  | _ :: _, _, n + 1, ⟨x, r, e, _, h2⟩ => by subst e; exact DataL.drop n h2
theorem DataL.take {H : Hp} : ∀ {l : List Th} {xs : List V} (n : Nat), DataL H l xs → DataL H (l.take n) (xs.take n)
  | _, _, 0, _ => rfl
  | [], _, n + 1, h => by rw [show _ = [] from h]; exact rfl
  | _ :: _, _, n + 1, ⟨x, r, e, h1, h2⟩ => by subst e; exact ⟨x, _, rfl, h1, DataL.take n h2⟩
theorem DataL.snoc {H : Hp} {t : Th} {v : V} (h : Data H t v) : ∀ {l : List Th} {xs : List V}, DataL H l xs → DataL H (l ++ [t]) (xs ++ [v])
  | [], _, e => by rw [show _ = [] from e]; exact ⟨v, [], rfl, h, rfl⟩
  | _ :: _, _, ⟨x, r, e, h1, h2⟩ => by subst e; exact ⟨x, _, rfl, h1, DataL.snoc h h2⟩
mutual
/-- without dicts -/
def Th.flat : Th → Bool
  | .dct => false
  | .tup l => Th.flatL l
  | .lst l => Th.flatL l
  | _ => true
def Th.flatL : List Th → Bool
  | [] => true
  | t :: l => t.flat && Th.flatL l
end
mutual
def Th.py : Th → PyData
  | .non => .none
  | .bl b => .bool b
  | .int i => .int i
  | .str s => .str (SX.S s)
  | .tup l => .tuple (Th.pyL l)
  | .lst l => .list (Th.pyL l)
  | .dct => .none
def Th.pyL : List Th → List PyData
  | [] => []
  | t :: l => t.py :: Th.pyL l
end
mutual
theorem Data.dp {K : PySem.W.Frag} {H : Hp} : ∀ {t : Th} {v : V}, t.flat = true → Data H t v → Dp K H v t.py
  | .non, _, _, h => by rw [show _ = V.non from h]; exact .non
  | .bl _, _, _, h => by rw [show _ = V.bl _ from h]; exact .bl _
  | .int _, _, _, h => by rw [show _ = V.int _ from h]; exact .int _
  | .str _, _, _, h => by rw [show _ = V.str _ from h]; exact .str _
  | .tup l, _, f, ⟨p, xs, e, hp, hl⟩ => by rw [e]; exact .tup (SqT.of hp) (DataL.dp f hl)
  | .lst l, _, f, ⟨p, xs, e, hp, hl⟩ => by rw [e]; exact .lst (SqL.of hp) (DataL.dp f hl)
theorem DataL.dp {K : PySem.W.Frag} {H : Hp} : ∀ {l : List Th} {xs : List V}, Th.flatL l = true → DataL H l xs → DpAll K H xs (Th.pyL l)
  | [], _, _, h => by rw [show _ = [] from h]; exact .nil
  | t :: l, _, f, ⟨x, r, e, h1, h2⟩ => by
    have f' : t.flat = true ∧ Th.flatL l = true := by
      have : (t.flat && Th.flatL l) = true := f
      exact Bool.and_eq_true_iff.mp this
    rw [e]
    exact .cons (Data.dp f'.1 h1) (DataL.dp f'.2 h2)
end
/-! ### what is a name, a recipe -/
def nmOk (s : List Nat) : Bool := decide (1 ≤ s.length) && decide (s.length ≤ 8) && s.all fun c => decide (97 ≤ c) && decide (c ≤ 122)
theorem nmOk_iff {s : List Nat} : nmOk s = true ↔ Nm s := by
  unfold nmOk Nm
  simp only [Bool.and_eq_true, decide_eq_true_eq, List.all_eq_true]
  exact ⟨fun ⟨⟨a, b⟩, c⟩ => ⟨a, b, c⟩, fun ⟨a, b, c⟩ => ⟨⟨a, b⟩, c⟩⟩
def Th.isNm : Th → Bool
  | .str s => nmOk s
  | _ => false
def Th.areNms : Th → Bool
  | .tup l => decide (1 ≤ l.length) && decide (l.length ≤ 9) && l.all Th.isNm
  | _ => false
def Th.isInt : Th → Bool
  | .int _ => true
  | _ => false
def w_number : List Nat := [110, 117, 109, 98, 101, 114]
def w_read : List Nat := [114, 101, 97, 100]
def w_pick : List Nat := [112, 105, 99, 107]
def w_choose : List Nat := [99, 104, 111, 111, 115, 101]
def w_plus : List Nat := [112, 108, 117, 115]
def w_minus : List Nat := [109, 105, 110, 117, 115]
def w_times : List Nat := [116, 105, 109, 101, 115]
def w_most : List Nat := [109, 111, 115, 116]
def twos : List (List Nat) := [w_plus, w_minus, w_times, w_most]
/-- the parts of a thing that has a recipe's form -/
def formParts (k : List Nat) (l : List Th) : Option (List Th) :=
  if k = w_number then (if l.length = 1 ∧ (l.headD .non).isInt = true then some [] else none)
  else if k = w_read then (if l.length = 1 ∧ (l.headD .non).isNm = true then some [] else none)
  else if k ∈ twos then (if l.length = 2 then some l else none)
  else if k = w_pick then (if l.length = 3 then some l else none)
  else if k = w_choose then (if l.length = 2 ∧ (l.getD 1 .non).areNms = true then some (l.take 1) else none)
  else none
def Th.parts : Th → Option (List Th)
  | .tup (.str k :: l) => formParts k l
  | _ => none
/-- all well formed, n deep at most -/
def Th.okay : Nat → Th → Bool
  | 0, _ => false
  | n + 1, t => match t.parts with
    | none => false
    | some ps => ps.all (Th.okay n)
def Th.count : Nat → Th → Nat
  | 0, _ => 1
  | n + 1, t => match t.parts with
    | none => 1
    | some ps => 1 + (ps.map (Th.count n)).sum
def Th.isRcp (t : Th) : Bool := t.okay 8 && decide (t.count 8 ≤ 100)
theorem count_pos : ∀ (n : Nat) (t : Th), 1 ≤ t.count n
  | 0, _ => Nat.le_refl _
  | n + 1, t => by
    unfold Th.count
    cases t.parts with
    | none => exact Nat.le_refl _
    | some ps => exact Nat.le_add_right _ _
theorem parts_tup {t : Th} {ps : List Th} (h : t.parts = some ps) : ∃ k l, t = .tup (.str k :: l) := by
  unfold Th.parts at h
  split at h
  · exact ⟨_, _, rfl⟩
  · cases h
/-- what the walk may meet: texts of ASCII signs, not too long; names without dicts -/
def tameS (s : List Nat) : Bool := decide (s.length ≤ 1000000) && s.all fun c => decide (c < 128)
def namesTame : List Th → Bool
  | [.str k, _, .tup m] => !decide (k = w_choose) || (Th.flatL m && SeqAt.shaped (.list (Th.pyL m)))
  | _ => true
mutual
def Th.tame : Th → Bool
  | .str s => tameS s
  | .tup l => Th.tameL l && decide (l.length ≤ 1000000) && namesTame l
  | _ => true
def Th.tameL : List Th → Bool
  | [] => true
  | t :: l => t.tame && Th.tameL l
end
theorem tameL_mem : ∀ {l : List Th}, Th.tameL l = true → ∀ t ∈ l, t.tame = true
  | [], _, t, h => by cases h
  | a :: l, f, t, h => by
    have f' : (a.tame && Th.tameL l) = true := f
    rw [Bool.and_eq_true] at f'
    rcases List.mem_cons.mp h with h | h
    · rw [h]; exact f'.1
    · exact tameL_mem f'.2 t h
theorem flatL_mem : ∀ {l : List Th}, Th.flatL l = true → ∀ t ∈ l, t.flat = true
  | [], _, t, h => by cases h
  | a :: l, f, t, h => by
    have f' : (a.flat && Th.flatL l) = true := f
    rw [Bool.and_eq_true] at f'
    rcases List.mem_cons.mp h with h | h
    · rw [h]; exact f'.1
    · exact flatL_mem f'.2 t h
theorem flatL_filter (p : Th → Bool) : ∀ {l : List Th}, Th.flatL l = true → Th.flatL (l.filter p) = true
  | [], _ => rfl
  | a :: l, f => by
    have f' : (a.flat && Th.flatL l) = true := f
    rw [Bool.and_eq_true] at f'
    rw [List.filter_cons]
    split
    · show (a.flat && Th.flatL (l.filter p)) = true
      rw [f'.1, flatL_filter p f'.2]; rfl
    · exact flatL_filter p f'.2
theorem shaped_parts {ds : List PyData} : SeqAt.shaped (.list ds) = true ↔ PyData.canLayAll0 ds = true ∧ PyData.depthAll ds + 1 ≤ 64 := by
  show (PyData.canLayAll0 ds && decide (PyData.depthAll ds + 1 ≤ 64)) = true ↔ _
  rw [Bool.and_eq_true, decide_eq_true_eq]
theorem py_filter (p : Th → Bool) : ∀ (l : List Th), PyData.canLayAll0 (Th.pyL l) = true → PyData.canLayAll0 (Th.pyL (l.filter p)) = true ∧ PyData.depthAll (Th.pyL (l.filter p)) ≤ PyData.depthAll (Th.pyL l)
  | [], _ => ⟨rfl, Nat.le_refl _⟩
  | a :: l, f => by
    have f' : (a.py.canLay0 && PyData.canLayAll0 (Th.pyL l)) = true := f
    rw [Bool.and_eq_true] at f'
    have ih := py_filter p l f'.2
    rw [List.filter_cons]
    split
    · refine ⟨?_, ?_⟩
      · show (a.py.canLay0 && PyData.canLayAll0 (Th.pyL (l.filter p))) = true
        rw [f'.1, ih.1]; rfl
      · show max a.py.depth (PyData.depthAll (Th.pyL (l.filter p))) ≤ max a.py.depth (PyData.depthAll (Th.pyL l))
        omega
    · refine ⟨ih.1, ?_⟩
      show _ ≤ max a.py.depth (PyData.depthAll (Th.pyL l))
      omega
theorem shaped_filter (p : Th → Bool) {l : List Th} (h : SeqAt.shaped (.list (Th.pyL l)) = true) : SeqAt.shaped (.list (Th.pyL (l.filter p))) = true := by
  rw [shaped_parts] at h ⊢
  have := py_filter p l h.1
  exact ⟨this.1, by omega⟩
def Th.tyName : Th → String
  | .non => "NoneType" | .bl _ => "bool" | .int _ => "int" | .str _ => "str" | .tup _ => "tuple" | .lst _ => "list" | .dct => "dict"
theorem Data.ty {K : PySem.W.Frag} {H : Hp} : ∀ {t : Th} {v : V}, Data H t v → TyX K H v (.type t.tyName)
  | .non, _, h => by rw [show _ = V.non from h]; exact .base .non
  | .bl _, _, h => by rw [show _ = V.bl _ from h]; exact .base (.bl _)
  | .int _, _, h => by rw [show _ = V.int _ from h]; exact .base (.int _)
  | .str _, _, h => by rw [show _ = V.str _ from h]; exact .base (.str _)
  | .tup l, _, ⟨p, xs, e, hp, hl⟩ => by rw [e]; exact .base (.tup hp)
  | .lst l, _, ⟨p, xs, e, hp, hl⟩ => by rw [e]; exact .base (.lst hp)
  | .dct, _, ⟨p, kvs, e, hp⟩ => by rw [e]; exact .base (.dK hp)
def Th.isTup : Th → Bool
  | .tup _ => true
  | _ => false
def Th.isStr : Th → Bool
  | .str _ => true
  | _ => false
def Th.isBl : Th → Bool
  | .bl _ => true
  | _ => false
def Th.isIntB : Th → Bool
  | .bl _ => true
  | .int _ => true
  | _ => false
theorem kit_tup {K : PySem.W.Frag} : ∀ t : Th, PySem.W.kitOne K (.type t.tyName) (.type "tuple") = some t.isTup
  | .non => kit_ty (show kitB "NoneType" "tuple" = some false by decide +kernel)
  | .bl _ => kit_ty (show kitB "bool" "tuple" = some false by decide +kernel)
  | .int _ => kit_ty (show kitB "int" "tuple" = some false by decide +kernel)
  | .str _ => kit_ty (show kitB "str" "tuple" = some false by decide +kernel)
  | .tup _ => kit_ty (show kitB "tuple" "tuple" = some true by decide +kernel)
  | .lst _ => kit_ty (show kitB "list" "tuple" = some false by decide +kernel)
  | .dct => kit_ty (show kitB "dict" "tuple" = some false by decide +kernel)
theorem kit_str {K : PySem.W.Frag} : ∀ t : Th, PySem.W.kitOne K (.type t.tyName) (.type "str") = some t.isStr
  | .non => kit_ty (show kitB "NoneType" "str" = some false by decide +kernel)
  | .bl _ => kit_ty (show kitB "bool" "str" = some false by decide +kernel)
  | .int _ => kit_ty (show kitB "int" "str" = some false by decide +kernel)
  | .str _ => kit_ty (show kitB "str" "str" = some true by decide +kernel)
  | .tup _ => kit_ty (show kitB "tuple" "str" = some false by decide +kernel)
  | .lst _ => kit_ty (show kitB "list" "str" = some false by decide +kernel)
  | .dct => kit_ty (show kitB "dict" "str" = some false by decide +kernel)
theorem kit_int {K : PySem.W.Frag} : ∀ t : Th, PySem.W.kitOne K (.type t.tyName) (.type "int") = some t.isIntB
  | .non => kit_ty (show kitB "NoneType" "int" = some false by decide +kernel)
  | .bl _ => kit_ty (show kitB "bool" "int" = some true by decide +kernel)
  | .int _ => kit_ty (show kitB "int" "int" = some true by decide +kernel)
  | .str _ => kit_ty (show kitB "str" "int" = some false by decide +kernel)
  | .tup _ => kit_ty (show kitB "tuple" "int" = some false by decide +kernel)
  | .lst _ => kit_ty (show kitB "list" "int" = some false by decide +kernel)
  | .dct => kit_ty (show kitB "dict" "int" = some false by decide +kernel)
theorem kit_bl {K : PySem.W.Frag} : ∀ t : Th, PySem.W.kitOne K (.type t.tyName) (.type "bool") = some t.isBl
  | .non => kit_ty (show kitB "NoneType" "bool" = some false by decide +kernel)
  | .bl _ => kit_ty (show kitB "bool" "bool" = some true by decide +kernel)
  | .int _ => kit_ty (show kitB "int" "bool" = some false by decide +kernel)
  | .str _ => kit_ty (show kitB "str" "bool" = some false by decide +kernel)
  | .tup _ => kit_ty (show kitB "tuple" "bool" = some false by decide +kernel)
  | .lst _ => kit_ty (show kitB "list" "bool" = some false by decide +kernel)
  | .dct => kit_ty (show kitB "dict" "bool" = some false by decide +kernel)
theorem isInt_is (t : Th) : (t.isIntB && !t.isBl) = t.isInt := by cases t <;> rfl
/-- a comprehension over a text -/
theorem lcS {z : Str} {g : TG} {tt : TT} {te : TE} {vs : List Nat} {σ : L2.St} {H1 : Hp} {D : Addr} {Qd : Hp → Prop} (Pv : Nat → Hp → Prop)
    (h0 : Pv 0 (upd H1 D (.lst [])))
    (hs : ∀ i c H, z.cps[i]? = some c → Pv i H → g (.str ⟨#[c]⟩) (wipe σ vs) H
      fun σ2 H2 => wipe σ2 vs = wipe σ vs ∧ tt σ2 H2
        fun b H3 => if b = true then te σ2 H3
          fun y H4 => ∃ acc, H4 D = some (.lst acc) ∧ acc.length < sizeLine ∧ Pv (i + 1) (upd H4 D (.lst (acc ++ [y])))
        else Pv (i + 1) H3)
    (hd : ∀ H, Pv z.cps.size H → Qd H) :
    ∃ W : Nat → Nat → Hp → Prop, (∃ m, W 0 m (upd H1 D (.lst []))) ∧
      ∀ i m H, W i m H → ((Its z).stop i H ∧ Qd H) ∨ ((Its z).go i H ∧
        ∃ Nx : Hp → Prop, (∀ H', Nx H' → ∃ m', m' < m ∧ W (i + 1) m' H') ∧
          ∀ x H', (Its z).yld i H x H' → g x (wipe σ vs) H'
            fun σ2 H2 => wipe σ2 vs = wipe σ vs ∧ tt σ2 H2
              fun b H3 => if b = true then te σ2 H3
                fun y H4 => ∃ acc, H4 D = some (.lst acc) ∧ acc.length < sizeLine ∧ Nx (upd H4 D (.lst (acc ++ [y])))
              else Nx H3) := by
  refine ⟨fun i m H => m = z.cps.size - i ∧ i ≤ z.cps.size ∧ Pv i H, ⟨z.cps.size, rfl, Nat.zero_le _, h0⟩, fun i m H w => ?_⟩
  obtain ⟨em, hi, p⟩ := w
  by_cases hlt : i < z.cps.size
  · refine Or.inr ⟨hlt, Pv (i + 1), fun H' p' => ⟨z.cps.size - (i + 1), by omega, rfl, hlt, p'⟩, fun x H' y => ?_⟩
    obtain ⟨e1, c, e2, e3⟩ := y
    rw [e1, e3]
    exact hs i c H e2 p
  · have e : i = z.cps.size := by omega
    rw [e] at p
    exact Or.inl ⟨by show z.cps.size ≤ i; omega, hd H p⟩
/-- a list of data against a new empty one -/
theorem eqv_nil (l : List Th) : PyData.eqv (.list (Th.pyL l)) (.list []) = l.isEmpty := by cases l <;> rfl
theorem kw {k : List Nat} {w : List Nat} {lit : Str} (h : lit = SX.S w) : V.str (SX.S k) = V.str lit ↔ k = w := by
  rw [h]
  exact ⟨fun e => SX.S_inj (by cases e; rfl), fun e => by rw [e]⟩
theorem q_number : ("number" : Str) = SX.S w_number := by decide +kernel
theorem q_read : ("read" : Str) = SX.S w_read := by decide +kernel
theorem q_pick : ("pick" : Str) = SX.S w_pick := by decide +kernel
theorem q_choose : ("choose" : Str) = SX.S w_choose := by decide +kernel
theorem q_plus : ("plus" : Str) = SX.S w_plus := by decide +kernel
theorem q_minus : ("minus" : Str) = SX.S w_minus := by decide +kernel
theorem q_times : ("times" : Str) = SX.S w_times := by decide +kernel
theorem q_most : ("most" : Str) = SX.S w_most := by decide +kernel
theorem in_twos (k : List Nat) : inV (.str (SX.S k)) [.str "plus", .str "minus", .str "times", .str "most"] = decide (k ∈ twos) := by
  rw [q_plus, q_minus, q_times, q_most]
  have e : ∀ w : List Nat, (SX.S w == SX.S k) = decide (k = w) := fun w => by
    rw [SX.S_beq_eq]
    exact decide_eq_decide.mpr ⟨Eq.symm, Eq.symm⟩
  show ((SX.S w_plus == SX.S k) || ((SX.S w_minus == SX.S k) || ((SX.S w_times == SX.S k) || ((SX.S w_most == SX.S k) || false)))) = _
  rw [e, e, e, e]
  unfold twos
  simp only [List.mem_cons, List.not_mem_nil, or_false]
  simp [Bool.decide_or]
theorem num_parts (k : List Nat) (h : k = w_number) (t1 : Th) : (t1.isInt = true → formParts k [t1] = some []) ∧ (t1.isInt = false → formParts k [t1] = none) := by
  unfold formParts
  rw [if_pos h]
  exact ⟨fun z => if_pos ⟨rfl, z⟩, fun z => if_neg fun y => by rw [show ([t1] : List Th).headD .non = t1 from rfl, z] at y; cases y.2⟩
theorem read_parts (k : List Nat) (h1 : k ≠ w_number) (h : k = w_read) (t1 : Th) : (t1.isNm = true → formParts k [t1] = some []) ∧ (t1.isNm = false → formParts k [t1] = none) := by
  unfold formParts
  rw [if_neg h1, if_pos h]
  exact ⟨fun z => if_pos ⟨rfl, z⟩, fun z => if_neg fun y => by rw [show ([t1] : List Th).headD .non = t1 from rfl, z] at y; cases y.2⟩
theorem one_none (k : List Nat) (h1 : k ≠ w_number) (h2 : k ≠ w_read) (t1 : Th) : formParts k [t1] = none := by
  unfold formParts
  rw [if_neg h1, if_neg h2]
  simp
theorem twos_parts (k : List Nat) (h : k ∈ twos) (t1 t2 : Th) : formParts k [t1, t2] = some [t1, t2] := by
  have n1 : k ≠ w_number := fun z => by rw [z] at h; revert h; decide
  have n2 : k ≠ w_read := fun z => by rw [z] at h; revert h; decide
  unfold formParts
  rw [if_neg n1, if_neg n2, if_pos h]
  rfl
theorem choose_parts (k : List Nat) (h : k = w_choose) (t1 t2 : Th) : (t2.areNms = true → formParts k [t1, t2] = some [t1]) ∧ (t2.areNms = false → formParts k [t1, t2] = none) := by
  have n1 : k ≠ w_number := by rw [h]; decide
  have n2 : k ≠ w_read := by rw [h]; decide
  have n3 : ¬ k ∈ twos := by rw [h]; decide
  have n4 : k ≠ w_pick := by rw [h]; decide
  unfold formParts
  rw [if_neg n1, if_neg n2, if_neg n3, if_neg n4, if_pos h]
  exact ⟨fun z => if_pos ⟨rfl, z⟩, fun z => if_neg fun y => by rw [show ([t1, t2] : List Th).getD 1 .non = t2 from rfl, z] at y; cases y.2⟩
theorem two_none (k : List Nat) (h1 : ¬ k ∈ twos) (h2 : k ≠ w_choose) (t1 t2 : Th) : formParts k [t1, t2] = none := by
  unfold formParts
  rw [if_neg h1, if_neg h2]
  simp
theorem pick_parts (k : List Nat) (h : k = w_pick) (t1 t2 t3 : Th) : formParts k [t1, t2, t3] = some [t1, t2, t3] := by
  have n1 : k ≠ w_number := by rw [h]; decide
  have n2 : k ≠ w_read := by rw [h]; decide
  have n3 : ¬ k ∈ twos := by rw [h]; decide
  unfold formParts
  rw [if_neg n1, if_neg n2, if_neg n3, if_pos h]
  rfl
theorem three_none (k : List Nat) (h1 : k ≠ w_pick) (t1 t2 t3 : Th) : formParts k [t1, t2, t3] = none := by
  unfold formParts
  rw [if_neg h1]
  simp
/-! ### recipes as things -/
def Kd.word : Kd → List Nat
  | .plus => w_plus | .minus => w_minus | .times => w_times | .most => w_most
theorem kd_word (k : Kd) : k.name = SX.S k.word := by cases k <;> decide +kernel
theorem kd_twos (k : Kd) : k.word ∈ twos := by cases k <;> decide
def nmsTh (ns : List (List Nat)) : List Th := ns.map Th.str
def Rcp.tail : Rcp → List Th × List Nat
  | .num n => ([.int n], w_number)
  | .read s => ([.str s], w_read)
  | _ => ([], [])
def Rcp.th : Rcp → Th
  | .num n => .tup [.str w_number, .int n]
  | .read s => .tup [.str w_read, .str s]
  | .two k a b => .tup [.str k.word, a.th, b.th]
  | .pick a b c => .tup [.str w_pick, a.th, b.th, c.th]
  | .choose a ns => .tup [.str w_choose, a.th, .tup (nmsTh ns)]
theorem nms_data (H : Hp) : ∀ ns : List (List Nat), DataL H (nmsTh ns) (txs ns)
  | [] => rfl
  | s :: ns => ⟨_, _, rfl, rfl, nms_data H ns⟩
theorem Rec.data {H : Hp} : ∀ {r : Rcp} {v : V}, Rec H r v → Data H r.th v
  | .num n, v, ⟨p, e, h⟩ => ⟨p, _, e, h, _, _, rfl, congrArg V.str q_number, _, _, rfl, rfl, rfl⟩
  | .read s, v, ⟨p, e, h⟩ => ⟨p, _, e, h, _, _, rfl, congrArg V.str q_read, _, _, rfl, rfl, rfl⟩
  | .two k a b, v, ⟨p, x, y, e, h, ra, rb⟩ => ⟨p, _, e, h, _, _, rfl, congrArg V.str (kd_word k), _, _, rfl, ra.data, _, _, rfl, rb.data, rfl⟩
  | .pick a b c, v, ⟨p, x, y, z, e, h, ra, rb, rc⟩ => ⟨p, _, e, h, _, _, rfl, congrArg V.str q_pick, _, _, rfl, ra.data, _, _, rfl, rb.data, _, _, rfl, rc.data, rfl⟩
  | .choose a ns, v, ⟨p, x, q, e, h, ra, hq⟩ => ⟨p, _, e, h, _, _, rfl, congrArg V.str q_choose, _, _, rfl, ra.data, _, _, rfl, ⟨q, _, rfl, hq, nms_data H ns⟩, rfl⟩
theorem Nm.tame {s : List Nat} (h : Nm s) : tameS s = true := by
  unfold tameS
  rw [Bool.and_eq_true, decide_eq_true_eq, List.all_eq_true]
  refine ⟨by have := h.2.1; omega, fun c hc => decide_eq_true ?_⟩
  have := h.2.2 c hc
  omega
theorem Nms.flat : ∀ {ns : List (List Nat)}, Th.flatL (nmsTh ns) = true
  | [] => rfl
  | s :: ns => by show (true && Th.flatL (nmsTh ns)) = true; rw [Nms.flat]; rfl
theorem nms_py : ∀ {ns : List (List Nat)}, (∀ s ∈ ns, Nm s) → PyData.canLayAll0 (Th.pyL (nmsTh ns)) = true ∧ PyData.depthAll (Th.pyL (nmsTh ns)) = 0
  | [], _ => ⟨rfl, rfl⟩
  | s :: ns, h => by
    have ih := nms_py (ns := ns) fun x hx => h x (List.mem_cons_of_mem _ hx)
    refine ⟨?_, ?_⟩
    · show ((SX.S s).cps.all (· < 0x110000) && PyData.canLayAll0 (Th.pyL (nmsTh ns))) = true
      rw [ih.1, Bool.and_true]
      have hs := (h s (List.mem_cons_self ..)).2.2
      rw [← Array.all_toList, List.all_eq_true]
      intro c hc
      have := hs c hc
      exact decide_eq_true (by omega)
    · show max 0 (PyData.depthAll (Th.pyL (nmsTh ns))) = 0
      rw [ih.2]
      rfl
theorem Nms.shaped {ns : List (List Nat)} (h : ∀ s ∈ ns, Nm s) : SeqAt.shaped (.list (Th.pyL (nmsTh ns))) = true := by
  rw [shaped_parts, (nms_py h).1, (nms_py h).2]
  exact ⟨rfl, by decide⟩
theorem nms_tame : ∀ {ns : List (List Nat)}, (∀ s ∈ ns, Nm s) → Th.tameL (nmsTh ns) = true
  | [], _ => rfl
  | s :: ns, h => by
    show (tameS s && Th.tameL (nmsTh ns)) = true
    rw [(h s (List.mem_cons_self ..)).tame, nms_tame fun x hx => h x (List.mem_cons_of_mem _ hx)]
    rfl
theorem tame_tup {l : List Th} (h : Th.tameL l = true) (hl : l.length ≤ 1000000) (hn : namesTame l = true) : (Th.tup l).tame = true := by
  show (Th.tameL l && decide (l.length ≤ 1000000) && namesTame l) = true
  rw [h, hn, decide_eq_true hl]
  rfl
theorem namesTame3 {k : List Nat} (hk : k ≠ w_choose) (a b : Th) : namesTame [.str k, a, b] = true := by
  cases b with
  | tup m => show (!decide (k = w_choose) || _) = true; rw [decide_eq_false hk]; rfl
  | _ => rfl
theorem namesTame4 (a b c d : Th) (r : List Th) : namesTame (a :: b :: c :: d :: r) = true := by cases a <;> cases c <;> rfl
theorem namesTame2 (a b : Th) : namesTame [a, b] = true := by cases a <;> rfl
theorem namesTameC {k : List Nat} {m : List Th} (a : Th) (h1 : Th.flatL m = true) (h2 : SeqAt.shaped (.list (Th.pyL m)) = true) : namesTame [.str k, a, .tup m] = true := by
  show (!decide (k = w_choose) || (Th.flatL m && SeqAt.shaped (.list (Th.pyL m)))) = true
  rw [h1, h2]; simp
theorem kd_nochoose (k : Kd) : k.word ≠ w_choose := by cases k <;> decide
theorem nms_names_tame {ns : List (List Nat)} (h : Nms ns) : (Th.tup (nmsTh ns)).tame = true := by
  refine tame_tup (nms_tame h.2.2) ?_ ?_
  · unfold nmsTh; rw [List.length_map]; have := h.2.1; omega
  · match ns with
    | [] => rfl
    | [a] => rfl
    | [a, b] => rfl
    | [a, b, c] => rfl
    | a :: b :: c :: d :: r => rfl
theorem Rcp.tame : ∀ {r : Rcp}, r.Good → r.th.tame = true
  | .num n, _ => tame_tup (by show (tameS w_number && (true && true)) = true; decide) (Nat.le_of_ble_eq_true rfl) rfl
  | .read s, h => tame_tup (by show (tameS w_read && (tameS s && true)) = true; rw [Nm.tame h]; decide) (Nat.le_of_ble_eq_true rfl) rfl
  | .two k a b, h => by
    refine tame_tup ?_ (Nat.le_of_ble_eq_true rfl) (namesTame3 (kd_nochoose k) _ _)
    show (tameS k.word && (a.th.tame && (b.th.tame && true))) = true
    rw [Rcp.tame h.1, Rcp.tame h.2]
    cases k <;> decide
  | .pick a b c, h => by
    refine tame_tup ?_ (Nat.le_of_ble_eq_true rfl) (namesTame4 _ _ _ _ _)
    show (tameS w_pick && (a.th.tame && (b.th.tame && (c.th.tame && true)))) = true
    rw [Rcp.tame h.1, Rcp.tame h.2.1, Rcp.tame h.2.2]
    decide
  | .choose a ns, h => by
    refine tame_tup ?_ (Nat.le_of_ble_eq_true rfl) (namesTameC _ Nms.flat (Nms.shaped h.2.2.2))
    show (tameS w_choose && (a.th.tame && ((Th.tup (nmsTh ns)).tame && true))) = true
    rw [Rcp.tame h.1, nms_names_tame h.2]
    decide
theorem nms_are {ns : List (List Nat)} (h : Nms ns) : (Th.tup (nmsTh ns)).areNms = true := by
  show (decide (1 ≤ (nmsTh ns).length) && decide ((nmsTh ns).length ≤ 9) && (nmsTh ns).all Th.isNm) = true
  have hl : (nmsTh ns).length = ns.length := List.length_map _
  rw [hl, decide_eq_true h.1, decide_eq_true h.2.1]
  show (nmsTh ns).all Th.isNm = true
  rw [List.all_eq_true]
  intro t ht
  obtain ⟨s, hs, rfl⟩ := List.mem_map.mp ht
  exact nmOk_iff.mpr (h.2.2 s hs)
def Rcp.subs : Rcp → List Rcp
  | .num _ => []
  | .read _ => []
  | .two _ a b => [a, b]
  | .pick a b c => [a, b, c]
  | .choose a _ => [a]
theorem Rcp.parts_th : ∀ {r : Rcp}, r.Good → r.th.parts = some (r.subs.map Rcp.th)
  | .num n, _ => (num_parts _ rfl _).1 rfl
  | .read s, h => (read_parts _ (by decide) rfl _).1 (nmOk_iff.mpr h)
  | .two k a b, _ => twos_parts _ (kd_twos k) _ _
  | .pick a b c, _ => pick_parts _ rfl _ _ _
  | .choose a ns, h => (choose_parts _ rfl _ _).1 (nms_are h.2)
theorem Rcp.subs_good : ∀ {r : Rcp}, r.Good → ∀ x ∈ r.subs, x.Good ∧ x.dep + 1 ≤ r.dep
  | .num n, _, x, hx => by cases hx
  | .read s, h, x, hx => by cases hx
  | .two k a b, h, x, hx => by
    have e : (Rcp.two k a b).dep = max a.dep b.dep + 1 := rfl
    simp only [Rcp.subs, List.mem_cons, List.not_mem_nil, or_false] at hx
    rcases hx with rfl | rfl
    · exact ⟨h.1, by omega⟩
    · exact ⟨h.2, by omega⟩
  | .pick a b c, h, x, hx => by
    have e : (Rcp.pick a b c).dep = max a.dep (max b.dep c.dep) + 1 := rfl
    simp only [Rcp.subs, List.mem_cons, List.not_mem_nil, or_false] at hx
    rcases hx with rfl | rfl | rfl
    · exact ⟨h.1, by omega⟩
    · exact ⟨h.2.1, by omega⟩
    · exact ⟨h.2.2, by omega⟩
  | .choose a ns, h, x, hx => by
    have e : (Rcp.choose a ns).dep = a.dep + 1 := rfl
    rw [List.mem_singleton.mp hx]
    exact ⟨h.1, by omega⟩
theorem Rcp.siz_subs : ∀ r : Rcp, r.siz = 1 + (r.subs.map Rcp.siz).sum
  | .num _ => rfl
  | .read _ => rfl
  | .two _ a b => by show a.siz + b.siz + 1 = 1 + (a.siz + (b.siz + 0)); omega
  | .pick a b c => by show a.siz + b.siz + c.siz + 1 = 1 + (a.siz + (b.siz + (c.siz + 0))); omega
  | .choose a _ => by show a.siz + 1 = 1 + (a.siz + 0); omega
theorem Rcp.okay : ∀ (n : Nat) {r : Rcp}, r.Good → r.dep ≤ n → r.th.okay n = true ∧ r.th.count n = r.siz
  | 0, r, _, h => by have := dep_pos r; omega
  | n + 1, r, hg, h => by
    have hp := r.parts_th hg
    have hs := r.subs_good hg
    refine ⟨?_, ?_⟩
    · show (match r.th.parts with | none => false | some ps => ps.all (Th.okay n)) = true
      rw [hp]
      show (r.subs.map Rcp.th).all (Th.okay n) = true
      rw [List.all_map, List.all_eq_true]
      intro x hx
      exact (Rcp.okay n (hs x hx).1 (by have := (hs x hx).2; omega)).1
    · show (match r.th.parts with | none => 1 | some ps => 1 + (ps.map (Th.count n)).sum) = r.siz
      rw [hp, Rcp.siz_subs r]
      show 1 + ((r.subs.map Rcp.th).map (Th.count n)).sum = _
      rw [List.map_map]
      congr 2
      exact List.map_congr_left fun x hx => (Rcp.okay n (hs x hx).1 (by have := (hs x hx).2; omega)).2
theorem Rcp.isRcp {r : Rcp} (hg : r.Good) (hd : r.dep ≤ 8) (hs : r.siz ≤ 100) : r.th.isRcp = true := by
  unfold Th.isRcp
  rw [(Rcp.okay 8 hg hd).1, (Rcp.okay 8 hg hd).2, decide_eq_true hs]
  rfl
theorem Rcp.flat : ∀ r : Rcp, r.th.flat = true
  | .num _ => rfl
  | .read _ => rfl
  | .two _ a b => by
    show (true && (a.th.flat && (b.th.flat && true))) = true
    rw [Rcp.flat a, Rcp.flat b]; rfl
  | .pick a b c => by
    show (true && (a.th.flat && (b.th.flat && (c.th.flat && true)))) = true
    rw [Rcp.flat a, Rcp.flat b, Rcp.flat c]; rfl
  | .choose a ns => by
    show (true && (a.th.flat && (Th.flatL (nmsTh ns) && true))) = true
    rw [Rcp.flat a, Nms.flat]; rfl
theorem nm_lay {s : List Nat} (h : Nm s) : (PyData.str (SX.S s)).canLay0 = true := by
  have := (nms_py (ns := [s]) fun x hx => by rw [List.mem_singleton.mp hx]; exact h).1
  have z : ((PyData.str (SX.S s)).canLay0 && true) = true := this
  rw [Bool.and_true] at z
  exact z
theorem str_lay {s : List Nat} (h : ∀ c ∈ s, c < 128) : (PyData.str (SX.S s)).canLay0 = true := by
  show (SX.S s).cps.all (· < 0x110000) = true
  rw [← Array.all_toList, List.all_eq_true]
  intro c hc
  have := h c hc
  exact decide_eq_true (by omega)
theorem Rcp.lays : ∀ {r : Rcp}, r.Good → r.th.py.canLay0 = true ∧ r.th.py.depth ≤ r.dep
  | .num n, _ => ⟨by show ((PyData.str (SX.S w_number)).canLay0 && ((PyData.int n).canLay0 && true)) = true; rw [str_lay (by decide)]; rfl, by show max 0 (max 0 0) + 1 ≤ 1; decide⟩
  | .read s, h => ⟨by show ((PyData.str (SX.S w_read)).canLay0 && ((PyData.str (SX.S s)).canLay0 && true)) = true; rw [nm_lay h, str_lay (s := w_read) (by decide)]; rfl, by show max 0 (max 0 0) + 1 ≤ 1; decide⟩
  | .two k a b, h => by
    have h1 := Rcp.lays h.1
    have h2 := Rcp.lays h.2
    refine ⟨?_, ?_⟩
    · show ((PyData.str (SX.S k.word)).canLay0 && (a.th.py.canLay0 && (b.th.py.canLay0 && true))) = true
      rw [h1.1, h2.1, str_lay (s := k.word) (by cases k <;> decide)]
      rfl
    · show max 0 (max a.th.py.depth (max b.th.py.depth 0)) + 1 ≤ max a.dep b.dep + 1
      omega
  | .pick a b c, h => by
    have h1 := Rcp.lays h.1
    have h2 := Rcp.lays h.2.1
    have h3 := Rcp.lays h.2.2
    refine ⟨?_, ?_⟩
    · show ((PyData.str (SX.S w_pick)).canLay0 && (a.th.py.canLay0 && (b.th.py.canLay0 && (c.th.py.canLay0 && true)))) = true
      rw [h1.1, h2.1, h3.1, str_lay (s := w_pick) (by decide)]
      rfl
    · show max 0 (max a.th.py.depth (max b.th.py.depth (max c.th.py.depth 0))) + 1 ≤ max a.dep (max b.dep c.dep) + 1
      omega
  | .choose a ns, h => by
    have h1 := Rcp.lays h.1
    have h2 := nms_py h.2.2.2
    have h3 := dep_pos a
    refine ⟨?_, ?_⟩
    · show ((PyData.str (SX.S w_choose)).canLay0 && (a.th.py.canLay0 && (PyData.canLayAll0 (Th.pyL (nmsTh ns)) && true))) = true
      rw [h1.1, h2.1, str_lay (s := w_choose) (by decide)]
      rfl
    · show max 0 (max a.th.py.depth (max (PyData.depthAll (Th.pyL (nmsTh ns)) + 1) 0)) + 1 ≤ a.dep + 1
      rw [h2.2]
      omega
theorem Rcp.shaped {r : Rcp} (hg : r.Good) (hd : r.dep ≤ 60) : SeqAt.shaped r.th.py = true := by
  have h := Rcp.lays hg
  show (r.th.py.canLay0 && decide (r.th.py.depth ≤ 64)) = true
  rw [h.1, decide_eq_true (by omega)]
  rfl
theorem Rcp.eqv {r : Rcp} (hg : r.Good) : PyData.eqv r.th.py r.th.py = true := SeqAt.eqv_refl _ (Rcp.lays hg).1
/-! ### rows of pairs -/
/-- rows of a name and a number each -/
def Prs (H : Hp) : List (List Nat × Int) → List V → Prop
  | [], [] => True
  | p :: ps, v :: vs => (∃ t, v = .ref t ∧ H t = some (.tup [.str (SX.S p.1), .int p.2])) ∧ Prs H ps vs
  | _, _ => False
theorem Prs.same {H H' : Hp} (k : Same H H') : ∀ {ps : List (List Nat × Int)} {vs : List V}, Prs H ps vs → Prs H' ps vs
  | [], [], _ => trivial
  | _ :: _, _ :: _, ⟨⟨t, e, ht⟩, h⟩ => ⟨⟨t, e, k _ _ ht⟩, Prs.same k h⟩
  | [], _ :: _, h => h.elim
  | _ :: _, [], h => h.elim
theorem Prs.keep {H H' : Hp} (k : Keep H H') : ∀ {ps : List (List Nat × Int)} {vs : List V}, Prs H ps vs → Prs H' ps vs
  | [], [], _ => trivial
  | _ :: _, _ :: _, ⟨⟨t, e, ht⟩, h⟩ => ⟨⟨t, e, k _ _ ht⟩, Prs.keep k h⟩
  | [], _ :: _, h => h.elim
  | _ :: _, [], h => h.elim
theorem Prs.len {H : Hp} : ∀ {ps : List (List Nat × Int)} {vs : List V}, Prs H ps vs → vs.length = ps.length
  | [], [], _ => rfl
  | _ :: _, _ :: _, h => congrArg (· + 1) (Prs.len h.2)
  | [], _ :: _, h => h.elim
  | _ :: _, [], h => h.elim
theorem Prs.at {H : Hp} : ∀ {ps : List (List Nat × Int)} {vs : List V} {i : Nat} {v : V}, Prs H ps vs → vs[i]? = some v → ∃ p t, ps[i]? = some p ∧ v = .ref t ∧ H t = some (.tup [.str (SX.S p.1), .int p.2])
  | [], [], i, v, _, e => by simp at e
  | p :: _, _ :: _, 0, v, h, e => by
    obtain ⟨⟨t, e1, ht⟩, _⟩ := h
    exact ⟨p, t, rfl, (Option.some.inj e).symm.trans e1, ht⟩
  | _ :: _, _ :: _, i + 1, v, h, e => Prs.at (i := i) h.2 (by simpa using e)
  | [], _ :: _, _, _, h, _ => h.elim
  | _ :: _, [], _, _, h, _ => h.elim
theorem Prs.snoc {H : Hp} {p : List Nat × Int} {t : Addr} (ht : H t = some (.tup [.str (SX.S p.1), .int p.2])) : ∀ {ps : List (List Nat × Int)} {vs : List V}, Prs H ps vs → Prs H (ps ++ [p]) (vs ++ [.ref t])
  | [], [], _ => ⟨⟨t, rfl, ht⟩, trivial⟩
  | _ :: _, _ :: _, h => ⟨h.1, Prs.snoc ht h.2⟩
  | [], _ :: _, h => h.elim
  | _ :: _, [], h => h.elim
theorem Prs.drop {H : Hp} : ∀ (n : Nat) {ps : List (List Nat × Int)} {vs : List V}, Prs H ps vs → Prs H (ps.drop n) (vs.drop n)
  | 0, _, _, h => h
  | _ + 1, [], [], h => h
  | n + 1, _ :: _, _ :: _, h => Prs.drop n h.2
  | _ + 1, [], _ :: _, h => h.elim
  | _ + 1, _ :: _, [], h => h.elim
theorem Prs.take {H : Hp} : ∀ (n : Nat) {ps : List (List Nat × Int)} {vs : List V}, Prs H ps vs → Prs H (ps.take n) (vs.take n)
  | 0, _, _, _ => trivial
  | _ + 1, [], [], h => h
  | n + 1, _ :: _, _ :: _, h => ⟨h.1, Prs.take n h.2⟩
  | _ + 1, [], _ :: _, h => h.elim
  | _ + 1, _ :: _, [], h => h.elim
/-! ### a recipe gone through with the numbers read: plain facts -/
abbrev Pr := List Nat × Int
inductive Res where
  | ok (v : Int) (n : Nat)
  | lack (s : List Nat)
  | bad
inductive Out where
  | read (s : List Nat)
  | worth (v : Int)
  | none
def Kd.ap : Kd → Int → Int → Int
  | .plus, a, b => a + b
  | .minus, a, b => a - b
  | .times, a, b => a * b
  | .most, a, b => if b > a then b else a
def seen (l : List Pr) (s : List Nat) : Option Int := (l.find? fun p => decide (p.1 = s)).map (·.2)
def lookG (rd : List Pr) (n : Nat) (s : List Nat) : Res :=
  match seen (rd.take n) s with
  | some v => .ok v n
  | none => match rd[n]? with
    | none => .lack s
    | some p => if p.1 = s then .ok p.2 (n + 1) else .bad
def Res.bind (r : Res) (f : Int → Nat → Res) : Res := match r with
  | .ok v n => f v n
  | .lack s => .lack s
  | .bad => .bad
def nthN (ns : List (List Nat)) (x : Int) : List Nat := ns.getD (x % (ns.length : Int)).toNat []
def go (rd : List Pr) : Rcp → Nat → Res
  | .num v, n => .ok v n
  | .read s, n => lookG rd n s
  | .two k a b, n => (go rd a n).bind fun x m => (go rd b m).bind fun y l => .ok (k.ap x y) l
  | .pick a b c, n => (go rd a n).bind fun x m => if x > 0 then go rd b m else go rd c m
  | .choose a ns, n => (go rd a n).bind fun x m => lookG rd m (nthN ns x)
def outOf (rd : List Pr) (r : Rcp) : Out := match go rd r 0 with
  | .ok v n => if n < rd.length then .none else .worth v
  | .lack s => .read s
  | .bad => .none
/-- names fine, numbers below 2 ^ 400 -/
def Rcp.Nb : Rcp → Prop
  | .num v => v.natAbs < 2 ^ 400
  | .read s => Nm s
  | .two _ a b => a.Nb ∧ b.Nb
  | .pick a b c => a.Nb ∧ b.Nb ∧ c.Nb
  | .choose a ns => a.Nb ∧ Nms ns
theorem nth_mem {ns : List (List Nat)} (h : 1 ≤ ns.length) (x : Int) : ∃ i : Nat, x % (ns.length : Int) = (i : Int) ∧ ns[i]? = some (nthN ns x) := by
  have h0 : 0 ≤ x % (ns.length : Int) := Int.emod_nonneg _ (by omega)
  have h1 : x % (ns.length : Int) < ns.length := Int.emod_lt_of_pos _ (by omega)
  refine ⟨(x % (ns.length : Int)).toNat, by omega, ?_⟩
  have hi : (x % (ns.length : Int)).toNat < ns.length := by omega
  unfold nthN
  rw [List.getD_eq_getElem?_getD, List.getElem?_eq_getElem hi]
  rfl
theorem seen_mem {l : List Pr} {s : List Nat} {v : Int} (h : seen l s = some v) : (s, v) ∈ l := by
  unfold seen at h
  cases e : l.find? fun p => decide (p.1 = s) with
  | none => rw [e] at h; cases h
  | some p =>
    rw [e] at h
    have h1 := List.mem_of_find?_eq_some e
    have h2 : p.1 = s := by
      have := List.find?_some e
      exact of_decide_eq_true this
    have h3 : p.2 = v := Option.some.inj h
    rw [← h2, ← h3]
    exact h1
theorem seen_none {l : List Pr} {s : List Nat} (h : seen l s = none) : ¬ s ∈ l.map (·.1) := fun z => by
  obtain ⟨p, hp, e⟩ := List.mem_map.mp z
  unfold seen at h
  rw [Option.map_eq_none_iff, List.find?_eq_none] at h
  exact h p hp (decide_eq_true e)
theorem seen_not {l : List Pr} {s : List Nat} (h : ¬ s ∈ l.map (·.1)) : seen l s = none := by
  unfold seen
  rw [Option.map_eq_none_iff, List.find?_eq_none]
  exact fun p hp e => h (List.mem_map.mpr ⟨p, hp, of_decide_eq_true e⟩)
theorem seen_cons (p : Pr) (l : List Pr) (s : List Nat) : seen (p :: l) s = if p.1 = s then some p.2 else seen l s := by
  unfold seen
  rw [List.find?_cons]
  by_cases c : p.1 = s
  · rw [if_pos c, decide_eq_true c]
    rfl
  · rw [if_neg c, decide_eq_false c]
theorem lookG_seen {rd : List Pr} {n : Nat} {s : List Nat} {v : Int} (e : seen (rd.take n) s = some v) : lookG rd n s = .ok v n := by unfold lookG; rw [e]
theorem lookG_last {rd : List Pr} {n : Nat} {s : List Nat} (e : seen (rd.take n) s = none) (e2 : rd[n]? = none) : lookG rd n s = .lack s := by unfold lookG; rw [e, e2]
theorem lookG_right {rd : List Pr} {n : Nat} {s : List Nat} {p : Pr} (e : seen (rd.take n) s = none) (e2 : rd[n]? = some p) (c : p.1 = s) : lookG rd n s = .ok p.2 (n + 1) := by unfold lookG; rw [e, e2]; exact if_pos c
theorem lookG_bad {rd : List Pr} {n : Nat} {s : List Nat} {p : Pr} (e : seen (rd.take n) s = none) (e2 : rd[n]? = some p) (c : ¬ p.1 = s) : lookG rd n s = .bad := by unfold lookG; rw [e, e2]; exact if_neg c
/-! #### the walk goes ahead, and no number grows too great -/
theorem lookG_ok {rd : List Pr} {n m : Nat} {s : List Nat} {v : Int} (hn : n ≤ rd.length) (h : lookG rd n s = .ok v m) : n ≤ m ∧ m ≤ rd.length ∧ (s, v) ∈ rd := by
  unfold lookG at h
  cases e : seen (rd.take n) s with
  | some w =>
    rw [e] at h
    cases h
    exact ⟨Nat.le_refl _, hn, List.mem_of_mem_take (seen_mem e)⟩
  | none =>
    rw [e] at h
    cases e2 : rd[n]? with
    | none => rw [e2] at h; cases h
    | some p =>
      rw [e2] at h
      by_cases c : p.1 = s
      · have h' : Res.ok p.2 (n + 1) = .ok v m := by have := h; simp only [if_pos c] at this; exact this
        cases h'
        have := (List.getElem?_eq_some_iff.mp e2).1
        exact ⟨Nat.le_succ _, this, by rw [← c]; exact List.mem_of_getElem? e2⟩
      · simp only [if_neg c] at h
        cases h
theorem bind_ok {r : Res} {f : Int → Nat → Res} {v : Int} {m : Nat} (h : r.bind f = .ok v m) : ∃ x l, r = .ok x l ∧ f x l = .ok v m := by
  cases r with
  | ok x l => exact ⟨x, l, rfl, h⟩
  | lack s => cases h
  | bad => cases h
theorem ap_small {k : Kd} {x y : Int} {e : Nat} (h1 : 1 ≤ e) (hx : x.natAbs < 2 ^ e) (hy : y.natAbs < 2 ^ e) : (k.ap x y).natAbs < 2 ^ (e + e) := by
  have hs : 2 ^ e + 2 ^ e ≤ 2 ^ (e + e) := by
    have h2 : 2 ^ e * 2 ≤ 2 ^ e * 2 ^ e := Nat.mul_le_mul_left _ (by
      have := Nat.pow_le_pow_right (show 0 < 2 by decide) h1
      simpa using this)
    rw [Nat.pow_add]
    omega
  cases k with
  | plus => show (x + y).natAbs < _; omega
  | minus => show (x - y).natAbs < _; omega
  | times =>
    show (x * y).natAbs < _
    rw [Int.natAbs_mul, Nat.pow_add]
    exact Nat.mul_lt_mul'' hx hy
  | most =>
    show (if y > x then y else x).natAbs < _
    split <;> omega
theorem go_ok {rd : List Pr} (hrd : ∀ p ∈ rd, p.2.natAbs < 2 ^ 400) : ∀ {r : Rcp} {n m : Nat} {v : Int}, r.Nb → n ≤ rd.length → go rd r n = .ok v m → n ≤ m ∧ m ≤ rd.length ∧ v.natAbs < 2 ^ (400 * 2 ^ r.dep)
  | .num w, n, m, v, hb, hn, h => by
    cases h
    exact ⟨Nat.le_refl _, hn, Nat.lt_of_lt_of_le hb (Nat.pow_le_pow_right (by decide) (by show 400 ≤ 400 * 2 ^ 1; decide))⟩
  | .read s, n, m, v, hb, hn, h => by
    obtain ⟨h1, h2, h3⟩ := lookG_ok hn h
    exact ⟨h1, h2, Nat.lt_of_lt_of_le (hrd _ h3) (Nat.pow_le_pow_right (by decide) (by show 400 ≤ 400 * 2 ^ 1; decide))⟩
  | .two k a b, n, m, v, hb, hn, h => by
    obtain ⟨x, l, ha, h2⟩ := bind_ok h
    obtain ⟨y, l2, hbb, h3⟩ := bind_ok h2
    cases h3
    obtain ⟨a1, a2, a3⟩ := go_ok hrd hb.1 hn ha
    obtain ⟨b1, b2, b3⟩ := go_ok hrd hb.2 a2 hbb
    have hx : x.natAbs < 2 ^ (400 * 2 ^ max a.dep b.dep) := Nat.lt_of_lt_of_le a3 (Nat.pow_le_pow_right (by decide) (Nat.mul_le_mul_left _ (Nat.pow_le_pow_right (by decide) (Nat.le_max_left ..))))
    have hy : y.natAbs < 2 ^ (400 * 2 ^ max a.dep b.dep) := Nat.lt_of_lt_of_le b3 (Nat.pow_le_pow_right (by decide) (Nat.mul_le_mul_left _ (Nat.pow_le_pow_right (by decide) (Nat.le_max_right ..))))
    have hp : 1 ≤ 2 ^ max a.dep b.dep := Nat.one_le_two_pow
    have := ap_small (k := k) (by omega) hx hy
    refine ⟨Nat.le_trans a1 b1, b2, ?_⟩
    show _ < 2 ^ (400 * 2 ^ (max a.dep b.dep + 1))
    rw [show 400 * 2 ^ (max a.dep b.dep + 1) = 400 * 2 ^ max a.dep b.dep + 400 * 2 ^ max a.dep b.dep by rw [Nat.pow_succ]; omega]
    exact this
  | .pick a b c, n, m, v, hb, hn, h => by
    obtain ⟨x, l, ha, h2⟩ := bind_ok h
    obtain ⟨a1, a2, a3⟩ := go_ok hrd hb.1 hn ha
    have mono : ∀ d, d ≤ (Rcp.pick a b c).dep → ∀ z : Int, z.natAbs < 2 ^ (400 * 2 ^ d) → z.natAbs < 2 ^ (400 * 2 ^ (Rcp.pick a b c).dep) := fun d hd z hz => Nat.lt_of_lt_of_le hz (Nat.pow_le_pow_right (by decide) (Nat.mul_le_mul_left _ (Nat.pow_le_pow_right (by decide) hd)))
    have e : (Rcp.pick a b c).dep = max a.dep (max b.dep c.dep) + 1 := rfl
    by_cases hx : x > 0
    · simp only [if_pos hx] at h2
      obtain ⟨b1, b2, b3⟩ := go_ok hrd hb.2.1 a2 h2
      exact ⟨Nat.le_trans a1 b1, b2, mono b.dep (by omega) _ b3⟩
    · simp only [if_neg hx] at h2
      obtain ⟨b1, b2, b3⟩ := go_ok hrd hb.2.2 a2 h2
      exact ⟨Nat.le_trans a1 b1, b2, mono c.dep (by omega) _ b3⟩
  | .choose a ns, n, m, v, hb, hn, h => by
    obtain ⟨x, l, ha, h2⟩ := bind_ok h
    obtain ⟨a1, a2, a3⟩ := go_ok hrd hb.1 hn ha
    obtain ⟨h4, h5, h6⟩ := lookG_ok a2 h2
    have hp : 1 ≤ 2 ^ (Rcp.choose a ns).dep := Nat.one_le_two_pow
    exact ⟨Nat.le_trans a1 h4, h5, Nat.lt_of_lt_of_le (hrd _ h6) (Nat.pow_le_pow_right (by decide) (by omega))⟩
/-! #### one more read behind the reads that were all looked for -/
theorem lookG_lack {rd : List Pr} {n : Nat} {s t : List Nat} (hn : n ≤ rd.length) (h : lookG rd n s = .lack t) : n = rd.length ∧ s = t ∧ seen rd s = none := by
  unfold lookG at h
  cases e : seen (rd.take n) s with
  | some w => rw [e] at h; cases h
  | none =>
    rw [e] at h
    cases e2 : rd[n]? with
    | none =>
      rw [e2] at h
      cases h
      have hl := List.getElem?_eq_none_iff.mp e2
      have : n = rd.length := by omega
      rw [this, List.take_length] at e
      exact ⟨this, rfl, e⟩
    | some p =>
      rw [e2] at h
      by_cases c : p.1 = s
      · simp only [if_pos c] at h; cases h
      · simp only [if_neg c] at h; cases h
theorem lookG_more {rd : List Pr} {n m : Nat} {s : List Nat} {v : Int} (q : Pr) (hn : n ≤ rd.length) (h : lookG rd n s = .ok v m) : lookG (rd ++ [q]) n s = .ok v m := by
  unfold lookG at h ⊢
  rw [List.take_append_of_le_length hn]
  cases e : seen (rd.take n) s with
  | some w => rw [e] at h; exact h
  | none =>
    rw [e] at h
    cases e2 : rd[n]? with
    | none => rw [e2] at h; cases h
    | some p =>
      rw [e2] at h
      have hl := (List.getElem?_eq_some_iff.mp e2).1
      rw [List.getElem?_append_left hl, e2]
      exact h
/-- with all reads gone, nothing is bad -/
theorem lookG_end {rd : List Pr} {s : List Nat} : (∃ v, lookG rd rd.length s = .ok v rd.length) ∨ lookG rd rd.length s = .lack s := by
  unfold lookG
  rw [List.take_length]
  cases e : seen rd s with
  | some w => exact .inl ⟨w, rfl⟩
  | none =>
    rw [List.getElem?_eq_none (Nat.le_refl _)]
    exact .inr rfl
theorem go_end {rd : List Pr} : ∀ {r : Rcp}, (∃ v, go rd r rd.length = .ok v rd.length) ∨ ∃ s, go rd r rd.length = .lack s
  | .num v => .inl ⟨v, rfl⟩
  | .read s => lookG_end.elim .inl fun h => .inr ⟨s, h⟩
  | .two k a b => by
    rcases go_end (rd := rd) (r := a) with ⟨x, hx⟩ | ⟨s, hs⟩
    · rcases go_end (rd := rd) (r := b) with ⟨y, hy⟩ | ⟨s, hs⟩
      · exact .inl ⟨k.ap x y, by unfold go; rw [hx]; show (go rd b rd.length).bind _ = _; rw [hy]; rfl⟩
      · exact .inr ⟨s, by unfold go; rw [hx]; show (go rd b rd.length).bind _ = _; rw [hs]; rfl⟩
    · exact .inr ⟨s, by unfold go; rw [hs]; rfl⟩
  | .pick a b c => by
    rcases go_end (rd := rd) (r := a) with ⟨x, hx⟩ | ⟨s, hs⟩
    · by_cases c0 : x > 0
      · rcases go_end (rd := rd) (r := b) with ⟨y, hy⟩ | ⟨s, hs⟩
        · exact .inl ⟨y, by unfold go; rw [hx]; show (if x > 0 then _ else _) = _; rw [if_pos c0, hy]⟩
        · exact .inr ⟨s, by unfold go; rw [hx]; show (if x > 0 then _ else _) = _; rw [if_pos c0, hs]⟩
      · rcases go_end (rd := rd) (r := c) with ⟨y, hy⟩ | ⟨s, hs⟩
        · exact .inl ⟨y, by unfold go; rw [hx]; show (if x > 0 then _ else _) = _; rw [if_neg c0, hy]⟩
        · exact .inr ⟨s, by unfold go; rw [hx]; show (if x > 0 then _ else _) = _; rw [if_neg c0, hs]⟩
    · exact .inr ⟨s, by unfold go; rw [hs]; rfl⟩
  | .choose a ns => by
    rcases go_end (rd := rd) (r := a) with ⟨x, hx⟩ | ⟨s, hs⟩
    · rcases lookG_end (rd := rd) (s := nthN ns x) with ⟨v, hv⟩ | hl
      · exact .inl ⟨v, by unfold go; rw [hx]; exact hv⟩
      · exact .inr ⟨_, by unfold go; rw [hx]; exact hl⟩
    · exact .inr ⟨s, by unfold go; rw [hs]; rfl⟩
theorem go_more {rd : List Pr} (q : Pr) : ∀ {r : Rcp} {n m : Nat} {v : Int}, n ≤ rd.length → go rd r n = .ok v m → go (rd ++ [q]) r n = .ok v m ∧ m ≤ rd.length
  | .num w, n, m, v, hn, h => by cases h; exact ⟨rfl, hn⟩
  | .read s, n, m, v, hn, h => ⟨lookG_more q hn h, (lookG_ok hn h).2.1⟩
  | .two k a b, n, m, v, hn, h => by
    obtain ⟨x, l, ha, h2⟩ := bind_ok h
    obtain ⟨y, l2, hb, h3⟩ := bind_ok h2
    cases h3
    obtain ⟨a1, a2⟩ := go_more q hn ha
    obtain ⟨b1, b2⟩ := go_more q a2 hb
    refine ⟨?_, b2⟩
    unfold go
    rw [a1]
    show (go (rd ++ [q]) b l).bind _ = _
    rw [b1]
    rfl
  | .pick a b c, n, m, v, hn, h => by
    obtain ⟨x, l, ha, h2⟩ := bind_ok h
    obtain ⟨a1, a2⟩ := go_more q hn ha
    unfold go
    rw [a1]
    show (if x > 0 then _ else _) = _ ∧ _
    by_cases c0 : x > 0
    · simp only [if_pos c0] at h2
      rw [if_pos c0]
      exact go_more q a2 h2
    · simp only [if_neg c0] at h2
      rw [if_neg c0]
      exact go_more q a2 h2
  | .choose a ns, n, m, v, hn, h => by
    obtain ⟨x, l, ha, h2⟩ := bind_ok h
    obtain ⟨a1, a2⟩ := go_more q hn ha
    unfold go
    rw [a1]
    exact ⟨lookG_more q a2 h2, (lookG_ok a2 h2).2.1⟩
theorem bind_lack {r : Res} {f : Int → Nat → Res} {s : List Nat} (h : r.bind f = .lack s) : r = .lack s ∨ ∃ x l, r = .ok x l ∧ f x l = .lack s := by
  cases r with
  | ok x l => exact .inr ⟨x, l, rfl, h⟩
  | lack s' => exact .inl h
  | bad => cases h
/-- where s lacked: with s read it comes to the end of the reads, or lacks another one -/
def Fine (rd : List Pr) (r : Res) : Prop := (∃ v, r = .ok v rd.length) ∨ ∃ s, r = .lack s
theorem look_next {rd : List Pr} {n : Nat} {s t : List Nat} (w : Int) (hn : n ≤ rd.length) (h : lookG rd n t = .lack s) : lookG (rd ++ [(s, w)]) n t = .ok w (rd ++ [(s, w)]).length := by
  obtain ⟨rfl, rfl, e⟩ := lookG_lack hn h
  unfold lookG
  rw [List.take_append_of_le_length (Nat.le_refl _), List.take_length, e, List.getElem?_append_right (Nat.le_refl _), Nat.sub_self]
  show (if t = t then Res.ok w (rd.length + 1) else .bad) = _
  rw [if_pos rfl, List.length_append]
  rfl
theorem go_next {rd : List Pr} {s : List Nat} (w : Int) : ∀ {r : Rcp} {n : Nat}, n ≤ rd.length → go rd r n = .lack s → Fine (rd ++ [(s, w)]) (go (rd ++ [(s, w)]) r n)
  | .num v, n, hn, h => by cases h
  | .read t, n, hn, h => .inl ⟨w, look_next w hn h⟩
  | .two k a b, n, hn, h => by
    rcases bind_lack h with ha | ⟨x, l, ha, h2⟩
    · rcases go_next w hn ha with ⟨v, hv⟩ | ⟨t, ht⟩
      · unfold go
        rw [hv]
        show Fine _ ((go (rd ++ [(s, w)]) b (rd ++ [(s, w)]).length).bind _)
        rcases go_end (rd := rd ++ [(s, w)]) (r := b) with ⟨y, hy⟩ | ⟨t, ht⟩
        · rw [hy]; exact .inl ⟨_, rfl⟩
        · rw [ht]; exact .inr ⟨_, rfl⟩
      · unfold go
        rw [ht]
        exact .inr ⟨_, rfl⟩
    · obtain ⟨a1, a2⟩ := go_more (s, w) hn ha
      unfold go
      rw [a1]
      show Fine _ ((go (rd ++ [(s, w)]) b l).bind _)
      rcases bind_lack h2 with hb | ⟨y, l2, hb, h3⟩
      · rcases go_next w a2 hb with ⟨v, hv⟩ | ⟨t, ht⟩
        · rw [hv]; exact .inl ⟨_, rfl⟩
        · rw [ht]; exact .inr ⟨_, rfl⟩
      · cases h3
  | .pick a b c, n, hn, h => by
    rcases bind_lack h with ha | ⟨x, l, ha, h2⟩
    · rcases go_next w hn ha with ⟨v, hv⟩ | ⟨t, ht⟩
      · unfold go
        rw [hv]
        show Fine _ (if v > 0 then go _ b _ else go _ c _)
        split
        · exact go_end
        · exact go_end
      · unfold go
        rw [ht]
        exact .inr ⟨_, rfl⟩
    · obtain ⟨a1, a2⟩ := go_more (s, w) hn ha
      unfold go
      rw [a1]
      show Fine _ (if x > 0 then go _ b _ else go _ c _)
      by_cases c0 : x > 0
      · simp only [if_pos c0] at h2
        rw [if_pos c0]
        exact go_next w a2 h2
      · simp only [if_neg c0] at h2
        rw [if_neg c0]
        exact go_next w a2 h2
  | .choose a ns, n, hn, h => by
    rcases bind_lack h with ha | ⟨x, l, ha, h2⟩
    · rcases go_next w hn ha with ⟨v, hv⟩ | ⟨t, ht⟩
      · unfold go
        rw [hv]
        exact lookG_end.elim .inl fun h => .inr ⟨_, h⟩
      · unfold go
        rw [ht]
        exact .inr ⟨_, rfl⟩
    · obtain ⟨a1, a2⟩ := go_more (s, w) hn ha
      unfold go
      rw [a1]
      exact .inl ⟨w, look_next w a2 h2⟩
/-- the names that a recipe may look for -/
def Rcp.nms : Rcp → List (List Nat)
  | .num _ => []
  | .read s => [s]
  | .two _ a b => a.nms ++ b.nms
  | .pick a b c => a.nms ++ (b.nms ++ c.nms)
  | .choose a ns => a.nms ++ ns
theorem go_name {rd : List Pr} {s : List Nat} : ∀ {r : Rcp} {n : Nat}, r.Nb → n ≤ rd.length → go rd r n = .lack s → s ∈ r.nms ∧ seen rd s = none
  | .num v, n, hb, hn, h => by cases h
  | .read t, n, hb, hn, h => by
    obtain ⟨_, e, e2⟩ := lookG_lack hn h
    exact ⟨by rw [← e]; exact List.mem_singleton.mpr rfl, by rw [← e]; exact e2⟩
  | .two k a b, n, hb, hn, h => by
    rcases bind_lack h with ha | ⟨x, l, ha, h2⟩
    · obtain ⟨h1, h2⟩ := go_name hb.1 hn ha
      exact ⟨List.mem_append_left _ h1, h2⟩
    · rcases bind_lack h2 with hbb | ⟨y, l2, hbb, h3⟩
      · obtain ⟨h1, h2⟩ := go_name hb.2 (go_more (s, 0) hn ha).2 hbb
        exact ⟨List.mem_append_right _ h1, h2⟩
      · cases h3
  | .pick a b c, n, hb, hn, h => by
    rcases bind_lack h with ha | ⟨x, l, ha, h2⟩
    · obtain ⟨h1, h2⟩ := go_name hb.1 hn ha
      exact ⟨List.mem_append_left _ h1, h2⟩
    · have hl := (go_more (s, 0) hn ha).2
      by_cases c0 : x > 0
      · simp only [if_pos c0] at h2
        obtain ⟨h1, h2⟩ := go_name hb.2.1 hl h2
        exact ⟨List.mem_append_right _ (List.mem_append_left _ h1), h2⟩
      · simp only [if_neg c0] at h2
        obtain ⟨h1, h2⟩ := go_name hb.2.2 hl h2
        exact ⟨List.mem_append_right _ (List.mem_append_right _ h1), h2⟩
  | .choose a ns, n, hb, hn, h => by
    rcases bind_lack h with ha | ⟨x, l, ha, h2⟩
    · obtain ⟨h1, h2⟩ := go_name hb.1 hn ha
      exact ⟨List.mem_append_left _ h1, h2⟩
    · obtain ⟨_, e, e2⟩ := lookG_lack (go_more (s, 0) hn ha).2 h2
      obtain ⟨i, _, hi⟩ := nth_mem hb.2.1 x
      exact ⟨List.mem_append_right _ (by rw [← e]; exact List.mem_of_getElem? hi), by rw [← e]; exact e2⟩
theorem nms_ok : ∀ {r : Rcp}, r.Nb → ∀ s ∈ r.nms, Nm s
  | .num _, _, s, h => nomatch h
  | .read t, hb, s, h => by rw [List.mem_singleton.mp h]; exact hb
  | .two _ a b, hb, s, h => (List.mem_append.mp h).elim (nms_ok hb.1 s) (nms_ok hb.2 s)
  | .pick a b c, hb, s, h => (List.mem_append.mp h).elim (nms_ok hb.1 s) fun h => (List.mem_append.mp h).elim (nms_ok hb.2.1 s) (nms_ok hb.2.2 s)
  | .choose a ns, hb, s, h => (List.mem_append.mp h).elim (nms_ok hb.1 s) (hb.2.2.2 s)
/-! ### rows of pairs as data -/
def pairTh (p : List Nat × Int) : Th := .tup [.str p.1, .int p.2]
theorem Prs.data {H : Hp} : ∀ {ps : List (List Nat × Int)} {vs : List V}, Prs H ps vs → DataL H (ps.map pairTh) vs
  | [], [], _ => rfl
  | _ :: _, _ :: _, ⟨⟨t, e, ht⟩, h⟩ => ⟨_, _, rfl, ⟨t, _, e, ht, _, _, rfl, rfl, _, _, rfl, rfl, rfl⟩, Prs.data h⟩
  | [], _ :: _, h => h.elim
  | _ :: _, [], h => h.elim
theorem prs_flat : ∀ ps : List (List Nat × Int), Th.flatL (ps.map pairTh) = true
  | [] => rfl
  | p :: ps => by
    show ((pairTh p).flat && Th.flatL (ps.map pairTh)) = true
    rw [prs_flat ps]
    rfl
theorem prs_lay : ∀ {ps : List (List Nat × Int)}, (∀ p ∈ ps, Nm p.1) → PyData.canLayAll0 (Th.pyL (ps.map pairTh)) = true ∧ PyData.depthAll (Th.pyL (ps.map pairTh)) ≤ 1
  | [], _ => ⟨rfl, Nat.zero_le _⟩
  | p :: ps, h => by
    obtain ⟨h1, h2⟩ := prs_lay fun q hq => h q (List.mem_cons_of_mem _ hq)
    have h3 := nm_lay (h p (List.mem_cons_self ..))
    refine ⟨?_, ?_⟩
    · show (((PyData.str (SX.S p.1)).canLay0 && ((PyData.int p.2).canLay0 && true)) && PyData.canLayAll0 (Th.pyL (ps.map pairTh))) = true
      rw [h1, h3]
      rfl
    · show max (max 0 (max 0 0) + 1) (PyData.depthAll (Th.pyL (ps.map pairTh))) ≤ 1
      omega
theorem prs_shaped {ps : List (List Nat × Int)} (h : ∀ p ∈ ps, Nm p.1) : SeqAt.shaped (.list (Th.pyL (ps.map pairTh))) = true := by
  obtain ⟨h1, h2⟩ := prs_lay h
  show (PyData.canLayAll0 (Th.pyL (ps.map pairTh)) && decide (PyData.depthAll (Th.pyL (ps.map pairTh)) + 1 ≤ 64)) = true
  rw [h1, decide_eq_true (by omega)]
  rfl
/-- names and numbers as a dict holds them -/
def kT (s : Str) : Key := Sum.inr s
def numsK (ps : List (List Nat × Int)) : List (Key × V) := ps.map fun p => (kT (SX.S p.1), .int p.2)
theorem kS_inj {a b : List Nat} (h : kT (SX.S a) = kT (SX.S b)) : a = b := by
  have e2 : SX.S a = SX.S b := Sum.inr.inj h
  exact beq_iff_eq.mp (by rw [← SX.S_beq]; exact beq_iff_eq.mpr e2)
theorem sne {a b : Str} (h : decide (a = b) = false) : ¬ V.str a = V.str b := fun z => (of_decide_eq_false h) (V.str.inj z)
theorem strS_inj {a b : List Nat} (h : V.str (SX.S a) = V.str (SX.S b)) : a = b := beq_iff_eq.mp (by rw [← SX.S_beq]; exact beq_iff_eq.mpr (V.str.inj h))
end Mad
/-! ### try .. except X as n, where the caught error is tracked behind the suite -/
namespace L2
open PySem PySem.Spec PyProof.Rows
def EzO (cls : Value) (d : Option Addr) (a : Addr) : HO := .ext fun h =>
  ∃ (oe : Obj) (vs : Array Value), h.get? a = some oe ∧ Zc cls d oe ∧
    oe.data = .fields vs
theorem ezO_ok {P : Program} {w : World} {H : Hp} {h : Heap} {a : Addr} {cls : Value} {d : Option Addr} {oe : Obj} {vs : Array Value}
    (e : h.get? a = some oe) (z : Zc cls d oe) (k : oe.data = .fields vs) : ObjOk P w H h a (EzO cls d a) :=
  ⟨⟨oe, vs, e, z, k⟩, ⟨oe, e⟩, fun _ _ y r => by
    obtain ⟨o, v, q, t⟩ := y
    exact ⟨o, v, r o q, t⟩⟩
section
variable {X : Cx} {pins : List (Addr × Obj)} {σ : St} {H : Hp} {B : Heap} {sI s' : Shared}
theorem Inv.landedT {a : Addr} {o : HO} (I : Inv X pins σ H sI) (nb : ∀ b u, sI.heap.get? b = some u → b ∉ frs X.stack → B.get? b = some u)
    (st : B.StaysIn s'.heap) (up : sI.heap.UpToSlots s'.heap) (os : s'.os = sI.os) (ag : AllBare s'.gens)
    (n0 : sI.heap.get? a = none) (na : H a = none) (new : ObjOk X.prog X.w (upd H a o) s'.heap a o) : Inv X pins σ (upd H a o) s' := by
  have nf : ∀ b ∈ frs X.stack, ∀ u, sI.heap.get? b = some u → ∃ sl, s'.heap.get? b = some { u with slots := sl } := by
    intro b hb u e
    obtain ⟨_, u', e', hd⟩ := I.stack.mem hb
    rw [e] at e'
    cases e'
    exact up b u e hd
  have U : Un (frs X.stack) [] H (upd H a o) sI.heap s'.heap := by
    refine ⟨fun b u e _ hb _ => st b u (nb b u e hb), fun b u e _ hb _ => nf b hb u e, fun b u e n _ => ?_, fun b u e _ => ?_, fun b xs q => ?_, fun b u xs q => ?_, fun b ps q => ?_⟩
    · have z : b ≠ a := fun z => by rw [z, n0] at e; cases e
      rw [upd_ne z]
      exact n
    · by_cases hb : b ∈ frs X.stack
      · obtain ⟨sl, q⟩ := nf b hb u e
        exact ⟨_, q⟩
      · exact ⟨u, st b u (nb b u e hb)⟩
    · rw [upd_ne (ne_of_none q na)]
      exact q
    · rw [upd_ne (ne_of_none q na)]
      exact q
    · exact ⟨#[], by rw [upd_ne (ne_of_none q na), q]; simp⟩
  have J := I.call (ch := []) (h' := s'.heap) (g' := s'.gens) (t' := s'.toks) (d' := s'.drawn) U
    (HOk.laidN ((I.inGround nb).kept st) (fun _ _ h => h) na new) ag (fun _ z => nomatch z)
  obtain ⟨a1, a2, a3, a4, a5⟩ := s'
  have e5 : a5 = sI.os := os
  subst e5
  exact J
theorem Inv.suiteN {s : Shared} (I : Inv X pins σ H s) (a : Addr) : Inv (X.suite a (X.pn ++ pins)) [] σ H s :=
  ⟨I.ok.suite _ _, I.os, I.bare, I.base, I.loc,
    I.cell, I.free, I.freeC,
    fun p hp => I.pin p (by rw [List.append_nil] at hp; exact hp), I.hok, I.len⟩
theorem Inv.unsuiteN {s : Shared} {a : Addr} (I : Inv (X.suite a (X.pn ++ pins)) [] σ H s) (ok : X.Ok) : Inv X pins σ H s :=
  ⟨ok, I.os, I.bare, I.base, I.loc,
    I.cell, I.free, I.freeC,
    fun p hp => I.pin p (List.mem_append_left _ hp), I.hok, I.len⟩
end
/-- what the clause wishes of an error of the body: slot i is n's; the error is tracked from here on -/
def wKeep (K : PySem.W.Frag) (c : Value) (i : Nat) (ts : Addr → Value → Option Addr → TS) (Wout : WX) (D : Ends) : WX := fun cls d σ H =>
  ∃ b, PySem.W.exmOne K cls c = some b ∧
    (b = true → ∀ a, H a = none → ts a cls d
      { nx := fun σ2 H2 => D.nx (σ2.set i none) H2, rt := D.rt, bk := fun σ2 H2 => D.bk (σ2.set i none) H2, ct := fun σ2 H2 => D.ct (σ2.set i none) H2 }
      (σ.set i (some (.ref a))) (upd H a (EzO cls d a))) ∧
    (b = false → Wout cls d σ H)
section
variable {X : Cx} {x n : Str} {c : Value} {i : Nat} {body suite : List Stmt} {b₀ : Stmt} {np pos pos' : Pos} {tb : WX → TS} {ts : Addr → Value → Option Addr → TS} {Wout : WX}
theorem ps_try_keep (hs : X.stack = X.env :: X.outer) (hf : X.env.frame = some X.env.locals) (hN : X.N.Nodup)
    (hi : X.N[i]? = some n) (hln : X.env.kindOf n = some .local) (hc : Names X x c) (tk : Takes X Wout)
    (hb : ∀ (W : WX) (pn : List (Addr × Obj)) (xe : Value → Shared → Prop), Takes (X.tr pn xe) W →
      PassesOwn (model X.prog X.w) X.A X.env xe → PSs (X.tr pn xe) body (tb W))
    (hsu : ∀ (a : Addr) (cls : Value) (d : Option Addr) (pn : List (Addr × Obj)),
      PSs (X.suite a pn) (b₀ :: suite) (ts a cls d)) :
    PS X (.Try body [.ExceptHandler (some (.Name x np)) (some n) (b₀ :: suite) pos'] [] [] pos)
      (fun D σ H => tb (wKeep X.K c i ts Wout D) D σ H) := by
  refine ⟨fun pins s σ H D I h => ?_⟩
  have okX := I.ok
  have hfr : X.A.frames = some (X.env :: X.outer) := by
    rw [okX.frames, hs]
  have hlc : Loc X.env.scope n := .inl hln
  refine wpAny_Try_except ?_
  refine wpAny_mono
    ((hb (wKeep X.K c i ts Wout D) (X.pn ++ pins)
      (fun e t1 => wpAny (model X.prog X.w) X.A (noteFrame e X.env)
        (fun _ t2 => wpAny (model X.prog X.w) X.A (setFlight e none)
          (fun _ t3 => wpAny (model X.prog X.w) X.A (handleBy e X.env [.ExceptHandler (some (.Name x np)) (some n) (b₀ :: suite) pos']) (SP X pins D) X.xe t3)
          X.xe t2)
        X.xe t1)
      (fun u t xx => ?_) PassesOwn.looking).run [] s σ H D (I.toTry _) h)
    (fun f s1 hsp => ?_) (fun e s1 he => he)
  · obtain ⟨a, B, sI, pn2, σ2, H2, cls, d, rfl, J0, nb, up, sky, na, os, ag, b, hb1, hyes, hno⟩ := xx
    have J : Inv X pins σ2 H2 sI := J0.ofTry okX
    have sky2 : Sky B (X.env :: X.outer) a (Zc cls d) X.env.locals t.heap := by
      rw [← hs]
      exact sky
    show wpAny (model X.prog X.w) X.A (noteFrame (.ref a) X.env) _ _ _
    refine Sky.land Zc.steady hfr hf sky2 fun h3 fl3 up3 => ?_
    have J3 : Inv X pins σ2 H2 { t with heap := h3 } :=
      J.landed nb fl3.1 (up.trans up3) os ag
    obtain ⟨oe3, vs3, he3, hz3, hd3⟩ := fl3.there
    have nfr : a ∉ frs (X.env :: X.outer) := fun hm => by
      obtain ⟨_, o', e', hnf⟩ := fl3.2.2.1.mem hm
      rw [he3] at e'
      cases e'
      exact hnf _ hd3
    have n0 : sI.heap.get? a = none := by
      cases q : sI.heap.get? a with
      | none => rfl
      | some u =>
        have z := nb a u q (by rw [hs]; exact nfr)
        rw [fl3.2.1] at z
        cases z
    have S3 := J3.suiteN a
    refine wpAny_handleBy_cons (codeAny_handlers_test ?_) (by intro q; cases q)
    have LT : PySem.W.Looks (model X.prog X.w) h3 (typeOf (.ref a)) cls := fun A Q E s k q =>
      wpAny_typeOf_ref (k _ _ he3) (by rw [hz3.1]; exact q)
    have LM := PySem.W.exm_one (M := model X.prog X.w) (J3.kIn) LT hb1
    have test : ∀ {Q : Value → Shared → Prop} {E : Value → Shared → Prop}, Q c { t with heap := h3 } →
        wpAny (model X.prog X.w) (X.A.mark (some (.ref a))) (eval (.Name x np) X.env) Q E { t with heap := h3 } := by
      intro Q E q
      obtain ⟨hg, hdbg, hm | ⟨hm, hv, hnn⟩⟩ := hc
      · exact ld_glob (X := X.suite a (X.pn ++ pins)) S3 hg hm q hdbg
      · exact ld_blt (X := X.suite a (X.pn ++ pins)) S3 hg hm hv q hnn hdbg
    refine test (LM.here ?_)
    cases b with
    | true =>
      refine codeAny_handlers_suite_as ?_
      refine HandSPX.lands_againZ fl3 fun h4 fl4 up4 => ?_
      obtain ⟨oe4, vs4, he4, hz4, hd4⟩ := fl4.there
      have J4 : Inv X pins σ2 (upd H2 a (EzO cls d a)) { t with heap := h4 } :=
        J.landedT nb fl4.1 ((up.trans up3).trans up4) os ag n0 na (ezO_ok he4 hz4 hd4)
      have S4 := J4.suiteN a
      refine store_ok (X := X.suite a (X.pn ++ pins)) (v := .ref a) S4 hN hi hlc rfl (fun s5 S5 => ?_) (.inr hln)
      refine wpAny_mono ((hsu a cls d (X.pn ++ pins)).run [] s5 _ _ _ S5 (hyes rfl a na)) (fun f s6 hsp => ?_) (fun _ _ z => False.elim z)
      have fin : ∀ {σ6 : St} {H6 : Hp} {Q : Shared → Prop}, Inv (X.suite a (X.pn ++ pins)) [] σ6 H6 s6 →
          (∀ s7, Inv X pins (σ6.set i none) H6 s7 → Q s7) →
          wpAny (model X.prog X.w) X.A (do bindName X.env n .none; unbindBehindTheSuite X.env n pos') (fun _ s7 => Q s7) X.xe s6 := by
        intro σ6 H6 Q S6 hq
        exact gone_ok (S6.unsuiteN okX) hN hi hln hq
      cases f with
      | ret u =>
        obtain ⟨v6, σ6, H6, S6, r6, q6⟩ := hsp
        exact fin S6 fun s7 J7 => ⟨_, _, _, J7, r6, q6⟩
      | next =>
        obtain ⟨σ6, H6, S6, q6⟩ := hsp
        exact fin S6 fun s7 J7 => ⟨_, _, J7, q6⟩
      | brk =>
        obtain ⟨σ6, H6, S6, q6⟩ := hsp
        exact fin S6 fun s7 J7 => ⟨_, _, J7, q6⟩
      | cont =>
        obtain ⟨σ6, H6, S6, q6⟩ := hsp
        exact fin S6 fun s7 J7 => ⟨_, _, J7, q6⟩
    | false =>
      show wpAny _ X.A (handleBy (.ref a) X.env []) _ _ _
      refine wpAny_handleBy_nil ?_
      obtain ⟨k1, k2, k3, oe, vs, T, oT, ts', he, hz, hd, h1, hr⟩ := id fl3
      unfold PySem.passOn
      refine wpAny_bind (wpAny_field he hd h1 ?_)
      rw [if_neg (show ¬ ((Value.ref T == Value.none) = true) from by simp)]
      have fin : wpAny (model X.prog X.w) X.A (setFlight (.ref a) X.env.frame)
          (fun _ t4 => wpAny (model X.prog X.w) X.A (throw (.ref a) : Sem Flow) (SP X pins D) X.xe t4) X.xe { t with heap := h3 } := by
        rw [hf]
        refine HandSPX.setFlight_upZ fl3 fun h4 hh4 up4 => wpAny_throw (tk _ _ ?_)
        exact ⟨a, B, sI, pins, σ2, H2, cls, d, rfl, J, nb,
          (up.trans up3).trans up4, .inr (.inr (by rw [hs]; exact hh4)), na, os, ag, hno rfl⟩
      first
        | exact wpAny_bind (wpAny_pure (wpAny_bind fin))
        | exact wpAny_bind fin
  · cases f with
    | next =>
      obtain ⟨σ2, H2, J2, q⟩ := hsp
      exact wpAny_execs_nil ⟨σ2, H2, J2.ofTry okX, q⟩
    | brk =>
      obtain ⟨σ2, H2, J2, q⟩ := hsp
      exact ⟨σ2, H2, J2.ofTry okX, q⟩
    | cont =>
      obtain ⟨σ2, H2, J2, q⟩ := hsp
      exact ⟨σ2, H2, J2.ofTry okX, q⟩
    | ret u =>
      obtain ⟨v, σ2, H2, J2, r, q⟩ := hsp
      exact ⟨v, σ2, H2, J2.ofTry okX, r, q⟩
end
/-- the object of a tracked error -/
theorem ezO_inst {X : Cx} {pins : List (Addr × Obj)} {σ : St} {H : Hp} {s : Shared} {a D : Addr} (I : Inv X pins σ H s) (h : H a = some (EzO (.ref D) none a)) :
    ∃ oe, PySem.W.InstAt s.heap a oe D none := by
  obtain ⟨⟨oe, vs, he, hz, hd⟩, _⟩ := (show ObjOk X.prog X.w H s.heap a (EzO (.ref D) none a) from I.hok a _ h)
  obtain ⟨oc, od, oda, osl⟩ := oe
  obtain ⟨h1, h2⟩ := hz
  dsimp only at h1 h2 hd
  subst h1 h2 hd
  exact ⟨_, he, rfl, rfl, trivial⟩
/-- isinstance(e, T), e a tracked error -/
def rIsX (K : PySem.W.Frag) : List V → Hp → VK → Prop := fun xs H Q => ∃ (a D : Addr) (c : V) (cv : Value) (b : Bool),
  xs = [.ref a, c] ∧ H a = some (EzO (.ref D) none a) ∧ ExcC K D ∧ ClsV c cv ∧
  PySem.W.kitOne K (.ref D) cv = some b ∧ Q (.bl b) H
/-- isinstance(e, (T1, T2)) -/
def rIsXT (K : PySem.W.Frag) : List V → Hp → VK → Prop := fun xs H Q => ∃ (a D tp : Addr) (cs : List V) (us : List Value) (b : Bool),
  xs = [.ref a, .ref tp] ∧ H tp = some (.tup cs) ∧ Paired ClsV cs us ∧ H a = some (EzO (.ref D) none a) ∧ ExcC K D ∧
  PySem.W.kitAny K (.ref D) us = some b ∧ Q (.bl b) H
section
variable {X : Cx}
theorem call_isX : CallR X (.builtin "isinstance") (rIsX X.K) := by
  intro pins s σ H xs us Q I r h
  obtain ⟨a, D, c, cv, b, rfl, hH, C, k, e, q⟩ := h
  obtain ⟨u1, u2, rfl, r1, r2⟩ := vals2 r
  have e2 := k.eq r2
  subst e2
  cases r1
  obtain ⟨oe, J⟩ := ezO_inst I hH
  exact PySem.W.kia_one (PySem.W.handS_kitx_exc C.hg C.hk C.hs C.hd C.ha C.hn C.ht C.hm) I.kIn J e (fun z => nomatch z)
    fun tk => ⟨.bl b, H, I.tok tk, rfl, q⟩
theorem call_isXT : CallR X (.builtin "isinstance") (rIsXT X.K) := by
  intro pins s σ H xs us Q I r h
  obtain ⟨a, D, tp, cs, ws, b, rfl, hT, k, hH, C, e, q⟩ := h
  obtain ⟨u1, u2, rfl, r1, r2⟩ := vals2 r
  cases r1
  cases (show u2 = Value.ref tp from r2)
  obtain ⟨oe, J⟩ := ezO_inst I hH
  obtain ⟨_, its, rv, o, h1, h2, n, h3⟩ := (show ObjOk X.prog X.w H s.heap tp (.tup cs) from I.hok tp _ hT)
  have e3 := ClsV.all k rv
  subst e3
  obtain ⟨oc, od, dt, sl⟩ := o
  simp only at h2 h3
  subst h2 h3
  exact PySem.W.kia_tup (PySem.W.handS_kitx_exc C.hg C.hk C.hs C.hd C.ha C.hn C.ht C.hm) I.kIn J h1 e (fun z => nomatch z)
    fun tk => ⟨.bl b, H, I.tok tk, rfl, q⟩
end
end L2
namespace Mad
open PySem PySem.Spec PyProof.Rows L2
/-! ### defs that raise, an own error class without a word of its own -/
theorem IsDef.calX2 {P : Program} {w : World} {K : PySem.W.Frag} {mg : Str → Option Value} {base : Heap} {x : Str} {st : Stmt} {N ps : List Str} {k : Nat} {sp : Sp} (D : IsDef K mg x st ps) (S : FnScope N ps (defScope st)) (len : ∀ vs H Q E, sp vs H Q E → vs.length = ps.length)
    (hbody : ∀ (f : Addr) (cdv : Value) (A : Around) (outer : List Env) (s : Shared) (H : Hp) (vs : List V) (Q : VK) (E : XK), Room k (A.deeper (envOfC x (defScope st) s.heap.objs.size f cdv)) → sp vs H Q E →
      ∃ t, PSs (cxOf (L2.CX P w) P w K mg base N x (defScope st) f cdv A outer s H E) (defBody st) t ∧ t { nx := fun _ H' => Q .non H', rt := Q } (start N vs) H) : Cal P w K mg base (L2.CX P w) (k + 1) x ps sp := by
  obtain ⟨f, fd, F, m, b⟩ := D
  exact ⟨f, fd, F.okX S len fun cdv A outer s H vs Q E => hbody f cdv A outer s H vs Q E, m, F.kp, b⟩
structure NoX (K : PySem.W.Frag) (mg : Str → Option Value) (n : Str) (C : Addr) : Prop where
  x : PySem.W.excIn K C [.type "ValueError", .type "Exception", .type "BaseException", .type "object"] "ValueError.__new__" = true
  g : mg n = some (.ref C)
  k : PySem.W.keepIn K (.ref C) = true
  b : PySem.W.subIn K (.ref C) (.type "BaseException") = some true
  t : PySem.W.typeIn K (.ref C) = some (.type "type")
theorem call_isXK {X : Cx} {K : PySem.W.Frag} (h : X.K = K) : CallR X (.builtin "isinstance") (rIsX K) := by
  subst h
  exact call_isX
/-! ### own classes: methods by their promises -/
/-- the method m of the class at C stands in the text as st says -/
def IsMet (K : PySem.W.Frag) (C : Addr) (m nm : Str) (st : Stmt) (ps : List Str) : Prop := ∃ (f : Addr) (fd : FuncData), Fun K m nm st f fd ∧ Meth K C m f ∧ Binds K fd ps []
def Met (P : Program) (w : World) (K : PySem.W.Frag) (mg : Str → Option Value) (base : Heap) (CX : CXT) (k : Nat) (C : Addr) (m : Str) (ps : List Str) (sp : Sp) : Prop := ∃ (f : Addr) (fd : FuncData), FnOk P w K mg base CX k f fd ps sp ∧ Meth K C m f ∧ Binds K fd ps []
section
variable {P : Program} {w : World} {K : PySem.W.Frag} {mg : Str → Option Value} {base : Heap} {C : Addr}
theorem Met.mono {CX : CXT} {j k : Nat} {m : Str} {ps : List Str} {sp : Sp} (c : Met P w K mg base CX j C m ps sp) (h : j ≤ k) : Met P w K mg base CX k C m ps sp := by
  obtain ⟨f, fd, F, r⟩ := c
  exact ⟨f, fd, F.mono h, r⟩
theorem met_none {m nm : Str} {st : Stmt} {ps : List Str} {sp : Sp} {CX : CXT} {k : Nat} (D : IsMet K C m nm st ps) (no : ∀ vs H Q E, ¬ sp vs H Q E) : Met P w K mg base CX k C m ps sp := by
  obtain ⟨f, fd, F, m, b⟩ := D
  exact ⟨f, fd, ⟨fun vs H Q E h => absurd h (no vs H Q E), fun A outer s H args us vs Q E _ _ _ _ h => absurd h (no vs H Q E)⟩, m, b⟩
theorem IsMet.met {m nm : Str} {st : Stmt} {N ps : List Str} {k : Nat} {sp : Sp} (D : IsMet K C m nm st ps) (S : FnScope N ps (defScope st)) (len : ∀ vs H Q E, sp vs H Q E → vs.length = ps.length)
    (hbody : ∀ (f : Addr) (cdv : Value) (A : Around) (outer : List Env) (s : Shared) (H : Hp) (vs : List V) (Q : VK) (E : XK), Room k (A.deeper (envOfC nm (defScope st) s.heap.objs.size f cdv)) → sp vs H Q E →
      ∃ t, PSs (cxOf CX0 P w K mg base N nm (defScope st) f cdv A outer s H E).nox (defBody st) t ∧ t { nx := fun _ H' => Q .non H', rt := Q } (start N vs) H) : Met P w K mg base CX0 (k + 1) C m ps sp := by
  obtain ⟨f, fd, F, m, b⟩ := D
  exact ⟨f, fd, F.ok S len fun cdv A outer s H vs Q E => hbody f cdv A outer s H vs Q E, m, b⟩
theorem IsMet.metX {m nm : Str} {st : Stmt} {N ps : List Str} {k : Nat} {sp : Sp} (D : IsMet K C m nm st ps) (S : FnScope N ps (defScope st)) (len : ∀ vs H Q E, sp vs H Q E → vs.length = ps.length)
    (hbody : ∀ (f : Addr) (cdv : Value) (A : Around) (outer : List Env) (s : Shared) (H : Hp) (vs : List V) (Q : VK) (E : XK), Room k (A.deeper (envOfC nm (defScope st) s.heap.objs.size f cdv)) → sp vs H Q E →
      ∃ t, PSs (cxOf (L2.CX P w) P w K mg base N nm (defScope st) f cdv A outer s H E) (defBody st) t ∧ t { nx := fun _ H' => Q .non H', rt := Q } (start N vs) H) : Met P w K mg base (L2.CX P w) (k + 1) C m ps sp := by
  obtain ⟨f, fd, F, m, b⟩ := D
  exact ⟨f, fd, F.okX S len fun cdv A outer s H vs Q E => hbody f cdv A outer s H vs Q E, m, b⟩
end
/-! ### functions made within a def and handed on: their cells as the callee finds them -/
open LamX NdefX
theorem cellsAt_un {fs : List Addr} {cl : List (Str × Addr)} {fr : List Str} {ws : List (Option V)} {h h' : Heap} {H H' : Hp} (C : CellsAt cl fr ws h H) (U : Un fs [] H H' h h') : CellsAt cl fr ws h' H' := by
  have kp : ∀ y c, cl.lookup y = some c → ∀ v, h.IsCell c v → h'.IsCell c v := fun y c e v ⟨o, ho, hd⟩ => by
    obtain ⟨sl, q⟩ := U.any ho (C.all y c e).1 (by simp)
    exact ⟨_, q, hd⟩
  refine ⟨C.len, fun y c e => ?_, C.inj, fun i y e => ?_⟩
  · obtain ⟨n, v, z⟩ := C.all y c e
    refine ⟨?_, v, kp y c e v z⟩
    obtain ⟨o, ho, _⟩ := z
    exact U.free c o ho n (by simp)
  · obtain ⟨c, hc, hv⟩ := C.has i y e
    refine ⟨c, hc, fun v ev => ?_⟩
    obtain ⟨u, r, z⟩ := hv v ev
    exact ⟨u, r, kp y c hc _ z⟩
/-- the def x, handed a function whose cells are told beside, keeps the promise sp -/
structure CalC (P : Program) (w : World) (K : PySem.W.Frag) (mg : Str → Option Value) (base : Heap) (CX : CXT) (k : Nat) (x : Str) (ps : List Str) (cl : List (Str × Addr)) (fr : List Str) (ws : List (Option V)) (sp : Sp) : Prop where
  ex : ∃ (f : Addr), mg x = some (.ref f) ∧ PySem.W.keepIn K (.ref f) = true
  len : ∀ vs H Q E, sp vs H Q E → vs.length = ps.length
  run : ∀ (f : Addr), mg x = some (.ref f) → ∀ (A : Around) (outer : List Env) (s : Shared) (H : Hp) (us : List Value) (vs : List V) (Q : VK) (E : XK), Room k A → Env0 P w K mg base A outer s H → CellsAt cl fr ws s.heap H → Vals vs us → sp vs H Q E →
    codeAny (model P w) A (.call (.ref f) ⟨us, []⟩) (CR CX outer P w H s Q E) s
section
variable {P : Program} {w : World} {K : PySem.W.Frag} {mg : Str → Option Value} {base : Heap} {cl : List (Str × Addr)} {fr : List Str} {ws : List (Option V)}
theorem CalC.mono {CX : CXT} {j k : Nat} {x : Str} {ps : List Str} {sp : Sp} (c : CalC P w K mg base CX j x ps cl fr ws sp) (h : j ≤ k) : CalC P w K mg base CX k x ps cl fr ws sp :=
  ⟨c.ex, c.len, fun f m A outer s H us vs Q E hr => c.run f m A outer s H us vs Q E (hr.mono h)⟩
theorem calC_none {x : Str} {st : Stmt} {ps : List Str} {sp : Sp} {CX : CXT} {k : Nat} (D : IsDef K mg x st ps) (no : ∀ vs H Q E, ¬ sp vs H Q E) : CalC P w K mg base CX k x ps cl fr ws sp := by
  obtain ⟨f, fd, F, m, b⟩ := D
  exact ⟨⟨f, m, F.kp⟩, fun vs H Q E h => absurd h (no vs H Q E), fun f m A outer s H us vs Q E _ _ _ _ h => absurd h (no vs H Q E)⟩
theorem calC_any {ι : Sort _} {x : Str} {st : Stmt} {ps : List Str} {sp : ι → Sp} {CX : CXT} {k : Nat} (D : IsDef K mg x st ps) (h : ∀ i, CalC P w K mg base CX k x ps cl fr ws (sp i)) : CalC P w K mg base CX k x ps cl fr ws (fun vs H Q E => ∃ i, sp i vs H Q E) := by
  obtain ⟨f, fd, F, m, b⟩ := D
  exact ⟨⟨f, m, F.kp⟩, fun vs H Q E ⟨i, q⟩ => (h i).len vs H Q E q, fun f m A outer s H us vs Q E hr e0 C r ⟨i, q⟩ => (h i).run f m A outer s H us vs Q E hr e0 C r q⟩
theorem IsDef.calC {x : Str} {st : Stmt} {N ps : List Str} {k : Nat} {sp : Sp} (D : IsDef K mg x st ps) (S : FnScope N ps (defScope st)) (len : ∀ vs H Q E, sp vs H Q E → vs.length = ps.length)
    (hbody : ∀ (f : Addr) (cdv : Value) (A : Around) (outer : List Env) (s : Shared) (H : Hp) (vs : List V) (Q : VK) (E : XK), Room k (A.deeper (envOfC x (defScope st) s.heap.objs.size f cdv)) → CellsAt cl fr ws s.heap H → sp vs H Q E →
      ∃ t, PSs (cxOf (L2.CX P w) P w K mg base N x (defScope st) f cdv A outer s H E) (defBody st) t ∧ t { nx := fun _ H' => Q .non H', rt := Q } (start N vs) H) : CalC P w K mg base (L2.CX P w) (k + 1) x ps cl fr ws sp := by
  obtain ⟨f, fd, F, m, b⟩ := D
  refine ⟨⟨f, m, F.kp⟩, len, fun f' m' A outer s H us vs Q E hr e0 C r hsp => ?_⟩
  have ef : f' = f := Value.ref.inj (Option.some.inj (m'.symm.trans m))
  subst ef
  obtain ⟨oc, od, kV, doc, pm, an, cdv, ct, osl, rfl, lk, hcd⟩ := F.ex
  have KX : K.In s.heap := e0.mod.kin.keeps fun b o e => (e0.bs b o e).1
  have hl := len _ _ _ _ hsp
  have hb := b s us KX (by rw [List.append_nil, ← r.length]; exact hl)
  rw [List.append_nil] at hb
  exact run_ofS lk hcd S hr e0 hb r hl fun hr' => hbody f' cdv A outer s H vs Q E hr' C hsp
/-- a method whose code object is known -/
def IsMetC (K : PySem.W.Frag) (C : Addr) (m nm : Str) (st : Stmt) (ps : List Str) (c : Addr) : Prop := ∃ (f : Addr) (fd : FuncData) (oc : Value) (od : Option Addr) (kV doc pm : Value) (an : Option Addr) (ct : Value) (osl : Array (Option Value)),
    fd = PySem.W.fnOf m nm (defArgs st) (defBody st) (defScope st) .none kV doc pm an (.ref c) ct ∧ K.lookup f = some ⟨oc, od, .func fd, osl⟩ ∧ PySem.W.codeIn K (.ref c) nm = true ∧ Meth K C m f ∧ Binds K fd ps []
theorem IsMetC.metX {C c : Addr} {m nm : Str} {st : Stmt} {N ps : List Str} {k : Nat} {sp : Sp} (D : IsMetC K C m nm st ps c) (S : FnScope N ps (defScope st)) (len : ∀ vs H Q E, sp vs H Q E → vs.length = ps.length)
    (hbody : ∀ (f : Addr) (A : Around) (outer : List Env) (s : Shared) (H : Hp) (vs : List V) (Q : VK) (E : XK), Room k (A.deeper (envOfC nm (defScope st) s.heap.objs.size f (.ref c))) → sp vs H Q E →
      ∃ t, PSs (cxOf (L2.CX P w) P w K mg base N nm (defScope st) f (.ref c) A outer s H E) (defBody st) t ∧ t { nx := fun _ H' => Q .non H', rt := Q } (start N vs) H) : Met P w K mg base (L2.CX P w) (k + 1) C m ps sp := by
  obtain ⟨f, fd, oc, od, kV, doc, pm, an, ct, osl, rfl, lk, hcd, M, b⟩ := D
  exact ⟨f, _, fn_of lk hcd S len fun A outer s H vs Q E hr hsp => hbody f A outer s H vs Q E hr hsp, M, b⟩
theorem IsMetC.none {C c : Addr} {m nm : Str} {st : Stmt} {ps : List Str} {k : Nat} {sp : Sp} {CX : CXT} (D : IsMetC K C m nm st ps c) (no : ∀ vs H Q E, ¬ sp vs H Q E) : Met P w K mg base CX k C m ps sp := by
  obtain ⟨f, fd, oc, od, kV, doc, pm, an, ct, osl, rfl, lk, hcd, M, b⟩ := D
  exact ⟨f, _, ⟨fun vs H Q E h => absurd h (no vs H Q E), fun A outer s H args us vs Q E _ _ _ _ h => absurd h (no vs H Q E)⟩, M, b⟩
end
section
variable {X : Cx} {CX : CXT} {k j i : Nat} {ps fr : List Str} {cl : List (Str × Addr)} {ws : List (Option V)} {sp : Sp} {E : XK} {x : Str} {p pos : Pos} {e : Expr} {es : List Expr} {t : TA}
theorem cells_now {pins : List (Addr × Obj)} {σ : L2.St} {H : Hp} {s : Shared} (hex : X.ex = []) (C : CellsAt cl fr ws X.s_0.heap X.H_0) (I : Inv X pins σ H s) : CellsAt cl fr ws s.heap H := by
  have U := I.base
  rw [hex] at U
  exact cellsAt_un C U
theorem run_fnC {pins : List (Addr × Obj)} {σ : L2.St} {H : Hp} {s : Shared} {Q : VK} {f : Addr} {us : List Value} {vs : List V} (F : CalC X.prog X.w X.K X.mg X.base CX k x ps cl fr ws sp) (hm : X.mg x = some (.ref f)) (hr : Room k X.A) (hx : Passes CX X E)
    (I : Inv X pins σ H s) (C : CellsAt cl fr ws s.heap H) (r : Vals vs us) (h : sp vs H Q E) : wpAny (model X.prog X.w) X.A (call (.ref f) us) (EP X pins σ Q) X.xe s := by
  refine wpAny_call (codeAny_mono (F.run f hm X.A X.stack s H us vs Q E hr I.env0 C r h) fun r s' hq => ?_)
  cases r with
  | error e => exact hx pins σ H s e s' I hq
  | ok fl =>
    cases fl with
    | ret u => exact I.after hq
    | next => exact False.elim hq
    | brk => exact False.elim hq
    | cont => exact False.elim hq
/-- f(.., g) within a def that was handed g -/
theorem pe_callC (c : CalC X.prog X.w X.K X.mg X.base CX k x ps cl fr ws sp) (hex : X.ex = []) (C : CellsAt cl fr ws X.s_0.heap X.H_0) (hr : Room k X.A) (hx : Passes CX X E) (ha : PA X (e :: es) t) (hg : Gl X x := by rfl)
    (hdb : (x == ("__debug__" : Str)) = false := by decide) (he : starEach (e :: es) X.env = (false, eval e X.env) :: starEach es X.env := by rfl) (hpl : (backTo pos (starEach es X.env)).any (·.1) = false := by rfl) :
    PE X (.Call (.Name x p) (e :: es) [] pos) (tCall sp [] E t) := by
  obtain ⟨f, hm, hk⟩ := c.ex
  refine ⟨fun pins s σ H Q I h => ?_⟩
  refine wpAny_Call_Name_kw (ld_glob I hg hm ?_ hdb)
  refine PySem.W.callWith_K (h₀ := X.base) I.ok.mod.kin hk (thn (ha.run pos pins s σ H _ I h) fun us s1 ⟨vs, H1, I1, r, q⟩ => ⟨I1.kIn, ?_⟩) he hpl
  have q : sp (vs ++ []) H1 Q E := q
  rw [List.append_nil] at q
  exact run_fnC c hm hr hx I1 (cells_now hex C I1) r q
/-- the same within the def that makes g: its cells are this frame's -/
def tCallM (js : List Nat) (sp : List (Option V) → Sp) (E : XK) (t : TA) : TE := fun σ H Q => t σ H fun vs H1 => sp (js.map (slotAt σ)) vs H1 Q E
theorem pe_callM {js : List Nat} {sp : List (Option V) → Sp} (c : ∀ ws, CalC X.prog X.w X.K X.mg X.base CX k x ps cl fr ws (sp ws)) (cp : X.Ok → Caps X cl fr js) (hr : Room k X.A) (hx : Passes CX X E) (ha : PA X (e :: es) t) (hg : Gl X x := by rfl)
    (hdb : (x == ("__debug__" : Str)) = false := by decide) (he : starEach (e :: es) X.env = (false, eval e X.env) :: starEach es X.env := by rfl) (hpl : (backTo pos (starEach es X.env)).any (·.1) = false := by rfl) :
    PE X (.Call (.Name x p) (e :: es) [] pos) (tCallM js sp E t) := by
  refine ⟨fun pins s σ H Q I h => ?_⟩
  obtain ⟨f, hm, hk⟩ := (c (js.map (slotAt σ))).ex
  refine wpAny_Call_Name_kw (ld_glob I hg hm ?_ hdb)
  refine PySem.W.callWith_K (h₀ := X.base) I.ok.mod.kin hk (thn (ha.run pos pins s σ H _ I h) fun us s1 ⟨vs, H1, I1, r, q⟩ => ⟨I1.kIn, ?_⟩) he hpl
  exact run_fnC (c _) hm hr hx I1 (cells_of I1 (cp I1.ok)) r q
/-- g(..), g handed in -/
def tCallV (i : Nat) (f : Addr) (F : NF) (ws : List (Option V)) (sp : List (Option V) → Sp) (E : XK) (t : TA) : TE := fun σ H Q => σ[i]? = some (some (.ref f)) ∧ H f = some (FnO f F) ∧
  t σ H fun vs H1 => H1 f = some (FnO f F) ∧ H1 F.c = some (CodeO F.c F.qual) ∧ sp ws vs H1 Q E
theorem pe_callV {f : Addr} {F : NF} {sp : List (Option V) → Sp} (Fn : NOk X.prog X.w X.K X.mg X.base CX k f F ps fr sp) (hex : X.ex = []) (C : CellsAt F.cl fr ws X.s_0.heap X.H_0) (hr : Room j X.A) (hk : k ≤ j) (hx : Passes CX X E) (ha : PA X (e :: es) t)
    (hN : X.N[i]? = some x := by rfl) (hv : Vis X.env.scope x := by first | exact Or.inl rfl | exact Or.inr (Or.inl rfl) | exact Or.inr (Or.inr rfl))
    (hd : (x == ("__debug__" : Str)) = false := by decide) (hcd : (x == ("__classdict__" : Str)) = false := by decide)
    (he : starEach (e :: es) X.env = (false, eval e X.env) :: starEach es X.env := by rfl) (hpl : (backTo pos (starEach es X.env)).any (·.1) = false := by rfl) :
    PE X (.Call (.Name x p) (e :: es) [] pos) (tCallV i f F ws sp E t) := by
  refine ⟨fun pins s σ H Q I h => ?_⟩
  obtain ⟨hs, hf, ht⟩ := h
  refine wpAny_Call_Name_kw (thn ((pe_var (pos := p) hN hv hd hcd).run pins s σ H (fun v H1 => v = .ref f ∧ H1 = H) I ⟨.ref f, hs, rfl, rfl⟩) fun u s1 ⟨v, H1, I1, r1, q1⟩ => ?_)
  obtain ⟨ev, eH⟩ := q1
  subst ev
  rw [eH] at I1
  obtain rfl : u = Value.ref f := r1
  refine PySem.W.callWith_F (first := []) (fnAt_of I1 hf) (thn (ha.run pos pins s1 σ H _ I1 ht) fun us s2 ⟨vs, H2, I2, r, h1, h2, q⟩ => ⟨fnAt_of I2 h1, ?_⟩) he hpl
  show wpAny _ _ (call (.ref f) us) _ _ _
  refine wpAny_call (codeAny_mono (Fn.run X.A X.stack s2 H2 us vs _ Q E (hr.mono hk) I2.env0 h1 h2 (cells_now hex C I2) r q) fun r s' hq => ?_)
  cases r with
  | error e => exact hx pins σ H2 s2 e s' I2 hq
  | ok fl =>
    cases fl with
    | ret u => exact I2.after hq
    | next => exact False.elim hq
    | brk => exact False.elim hq
    | cont => exact False.elim hq
/-- o.f, .. = e -/
def gFld (K : PySem.W.Frag) (f : Str) (ta : TE) : TG := fun y σ H Q => ta σ H fun x H1 => ∃ a C dx fs, x = .ref a ∧ H1 a = some (.ins C dx fs) ∧ Cls K C ∧ NoAttr K C f ∧ fs.length < 1000 ∧ Q σ (upd H1 a (.ins C dx (putF f y fs)))
theorem pg_fld {o : Expr} {ta : TE} {f : Str} (ho : PE X o ta) (ha : ∀ v, assign (.Attribute o f pos) X.env v = (do
      let ov ← holding [v] (eval o X.env)
      standAt pos.atName
      holding [v, ov] (setAttr ov f v)
      release [v, ov] []) := by intro _; rfl) : PG X (.Attribute o f pos) (gFld X.K f ta) := by
  refine ⟨fun pins s σ H v u Q I r h => ?_⟩
  rw [ha]
  refine wpAny_bind (wpAny_holding (thn (ho.run pins s σ H _ I h) fun ov s1 ⟨x, H1, I1, r1, a, C, dx, fs, ex, ea, c, n, l, q⟩ => ?_))
  subst ex
  obtain rfl : ov = Value.ref a := r1
  refine wpAny_bind (wpAny_standAt (wpAny_bind (wpAny_holding (setattr_ok I1 ea c n l r fun s2 I2 => ?_))))
  exact wpAny_release ⟨σ, _, I2, q⟩
/-- the field n of a tracked error -/
def tXk (K : PySem.W.Frag) (n : Str) (te : TE) : TE := fun σ H Q => te σ H fun x H1 => ∃ (a C dd : Addr) (fs : List (Str × V)) (v : V), x = .ref a ∧ H1 a = some (EzO (.ref C) (some dd) a) ∧ XfC K C ∧ PySem.W.findIn K (.ref C) n = some none ∧ H1 dd = some (.xd fs) ∧ fs.lookup n = some v ∧ Q v H1
theorem pe_xk {n : Str} {te : TE} (he : PE X e te) (hb : attributeBase e n X.env (eval e X.env) = eval e X.env := by rfl) : PE X (.Attribute e n pos) (tXk X.K n te) := by
  refine ⟨fun pins s σ H Q I h => ?_⟩
  refine attr_of hb (thn (he.run pins s σ H _ I h) fun u s1 hh => ?_)
  obtain ⟨x, H1, I1, rx, a, C, dd, fs, v, ex, ha, T, hno, ea, l, q⟩ := hh
  subst ex
  obtain rfl : u = Value.ref a := rx
  obtain ⟨⟨oe, vs, hoe, hz, hd⟩, _⟩ := (show ObjOk X.prog X.w H1 s1.heap a (EzO (.ref C) (some dd) a) from I1.hok a _ ha)
  have hx : ObjOk X.prog X.w H1 s1.heap dd (.xd fs) := I1.hok dd _ ea
  obtain ⟨mA, hns, hr⟩ := hx
  obtain ⟨od, ho, hl⟩ := lookIn_ns hns
  obtain ⟨u, hu, ru⟩ := RelO.some_of (v := v) (o := mA n) (by rw [← l]; exact hr n)
  have J : PySem.W.InstAt s1.heap a oe C (some od) := ⟨hoe, hz.1, by unfold PySem.W.notCls; rw [hd] <;> rfl, by rw [hz.2]; exact ho⟩
  exact HandSPX.exc_get I1.kIn J T.ga T.gg T.exC (PySem.W.findObj_own T.hdC hno rfl (by rw [hl, hu])) (handed_of ru) ⟨v, H1, I1.tok _, ru, q⟩
/-- isinstance(e, T), e a tracked error with or without a dict of its own -/
def XdAt (H : Hp) (d : Option Addr) : Prop := match d with
  | none => True
  | some dd => ∃ fs, H dd = some (.xd fs)
def rIsXd (K : PySem.W.Frag) : List V → Hp → VK → Prop := fun xs H Q => ∃ (a D : Addr) (d : Option Addr) (c : V) (cv : Value) (b : Bool),
  xs = [.ref a, c] ∧ H a = some (EzO (.ref D) d a) ∧ XdAt H d ∧ ExcC K D ∧ ClsV c cv ∧ PySem.W.kitOne K (.ref D) cv = some b ∧ Q (.bl b) H
theorem ezO_instd {pins : List (Addr × Obj)} {σ : L2.St} {H : Hp} {s : Shared} {a D : Addr} {d : Option Addr} (I : Inv X pins σ H s) (h : H a = some (EzO (.ref D) d a)) (hd : XdAt H d) : ∃ oe od, PySem.W.InstAt s.heap a oe D od := by
  cases d with
  | none =>
    obtain ⟨oe, J⟩ := ezO_inst I h
    exact ⟨oe, none, J⟩
  | some dd =>
    obtain ⟨fs, ea⟩ := hd
    obtain ⟨⟨oe, vs, hoe, hz, hd⟩, _⟩ := (show ObjOk X.prog X.w H s.heap a (EzO (.ref D) (some dd) a) from I.hok a _ h)
    have hx : ObjOk X.prog X.w H s.heap dd (.xd fs) := I.hok dd _ ea
    obtain ⟨mA, hns, hr⟩ := hx
    obtain ⟨od, ho, hl⟩ := lookIn_ns hns
    exact ⟨oe, some od, hoe, hz.1, by unfold PySem.W.notCls; rw [hd] <;> rfl, by rw [hz.2]; exact ho⟩
theorem call_isXd : CallR X (.builtin "isinstance") (rIsXd X.K) := by
  intro pins s σ H xs us Q I r h
  obtain ⟨a, D, d, c, cv, b, rfl, hH, hd, C, k, e, q⟩ := h
  obtain ⟨u1, u2, rfl, r1, r2⟩ := vals2 r
  have e2 := k.eq r2
  subst e2
  cases r1
  obtain ⟨oe, od, J⟩ := ezO_instd I hH hd
  have hcl : (PySem.W.clsIn X.K D).isSome = true := by obtain ⟨cd, hc, _⟩ := PySem.W.any_some C.hd; rw [hc]; rfl
  exact PySem.W.kia_one (PySem.W.kitx_exc hcl C.hg C.hk C.hs C.ha C.hn C.ht C.hm) I.kIn J e (fun z => nomatch z)
    fun tk => ⟨.bl b, H, I.tok tk, rfl, q⟩
theorem call_isXdK {K : PySem.W.Frag} (h : X.K = K) : CallR X (.builtin "isinstance") (rIsXd K) := by
  subst h
  exact call_isXd
end
/-! ### dicts of names and numbers -/
theorem val_seen (s : List Nat) : ∀ l : List Pr, valV (numsK l) (kT (SX.S s)) = (seen l s).map V.int
  | [] => rfl
  | p :: l => by
    rw [seen_cons]
    by_cases c : p.1 = s
    · rw [show numsK (p :: l) = (kT (SX.S p.1), V.int p.2) :: numsK l from rfl, valV_pos (by rw [c]), if_pos c]
      rfl
    · rw [show numsK (p :: l) = (kT (SX.S p.1), V.int p.2) :: numsK l from rfl, valV_neg (fun z => c (kS_inj z)), val_seen s l, if_neg c]
theorem nums_put {l : List Pr} {s : List Nat} {v : Int} (h : seen l s = none) : putK (numsK l) (kT (SX.S s)) (.int v) = numsK (l ++ [(s, v)]) := by
  rw [putK_new _ (by rw [val_seen, h]; rfl)]
  unfold numsK
  rw [List.map_append]
  rfl
theorem numsK_len (l : List Pr) : (numsK l).length = l.length := by unfold numsK; rw [List.length_map]
/-! ### worth_by: a recipe's worth by what a handed function tells of names -/
open LamX NdefX
inductive XErr where
  | noName (s : List Nat)
  | ring (l : List (List Nat))
inductive OutR (S : Type) where
  | ok (v : Int) (s : S)
  | err (e : XErr)
def OutR.bind {S : Type} (r : OutR S) (f : Int → S → OutR S) : OutR S := match r with
  | .ok v s => f v s
  | .err e => .err e
theorem OutR.bind_ok {S : Type} {r : OutR S} {f : Int → S → OutR S} {v : Int} {s : S} (h : r.bind f = .ok v s) : ∃ x t, r = .ok x t ∧ f x t = .ok v s := by
  cases r with
  | ok x t => exact ⟨x, t, rfl, h⟩
  | err e => cases h
/-- a recipe gone through, each name's worth by lk -/
def wk {S : Type} (lk : S → List Nat → OutR S) : Rcp → S → OutR S
  | .num v, s => .ok v s
  | .read t, s => lk s t
  | .two k a b, s => (wk lk a s).bind fun x s1 => (wk lk b s1).bind fun y s2 => .ok (k.ap x y) s2
  | .pick a b c, s => (wk lk a s).bind fun x s1 => if x > 0 then wk lk b s1 else wk lk c s1
  | .choose a ns, s => (wk lk a s).bind fun x s1 => lk s1 (nthN ns x)
/-- names fine -/
def Rcp.Wn : Rcp → Prop
  | .num _ => True
  | .read s => Nm s
  | .two _ a b => a.Wn ∧ b.Wn
  | .pick a b c => a.Wn ∧ b.Wn ∧ c.Wn
  | .choose a ns => a.Wn ∧ Nms ns
theorem good_wn : ∀ {r : Rcp}, r.Good → r.Wn
  | .num _, _ => trivial
  | .read _, h => h
  | .two _ _ _, h => ⟨good_wn h.1, good_wn h.2⟩
  | .pick _ _ _, h => ⟨good_wn h.1, good_wn h.2.1, good_wn h.2.2⟩
  | .choose _ _, h => ⟨good_wn h.1, h.2⟩
/-- a bound of the bits of what a recipe comes to, the reads below 2 ^ b -/
def Rcp.bits (b : Nat) : Rcp → Nat
  | .num n => n.natAbs.log2 + 1
  | .read _ => b
  | .two .times x y => x.bits b + y.bits b
  | .two .most x y => max (x.bits b) (y.bits b)
  | .two _ x y => max (x.bits b) (y.bits b) + 1
  | .pick x y z => max (x.bits b) (max (y.bits b) (z.bits b))
  | .choose x _ => max (x.bits b) b
theorem bits_pos {b : Nat} (hb : 0 < b) : ∀ r : Rcp, 0 < r.bits b
  | .num _ => Nat.succ_pos _
  | .read _ => hb
  | .two k x y => by
    have hx := bits_pos hb x
    have hy := bits_pos hb y
    cases k <;> simp only [Rcp.bits] <;> omega
  | .pick x y z => by
    have hx := bits_pos hb x
    simp only [Rcp.bits]; omega
  | .choose x _ => by simp only [Rcp.bits]; omega
theorem bits_sub {b : Nat} {k : Kd} {x y : Rcp} : x.bits b ≤ (Rcp.two k x y).bits b ∧ y.bits b ≤ (Rcp.two k x y).bits b := by
  cases k <;> simp only [Rcp.bits] <;> omega
theorem pow_mono {a b n : Nat} (h : n < 2 ^ a) (le : a ≤ b) : n < 2 ^ b := Nat.lt_of_lt_of_le h (Nat.pow_le_pow_right (by decide) le)
theorem max_small {x y : Int} {b : Nat} (hx : x.natAbs < 2 ^ b) (hy : y.natAbs < 2 ^ b) : (if y > x then y else x).natAbs < 2 ^ b := by split <;> assumption
theorem ap_bits {b : Nat} {k : Kd} {x y : Rcp} {v w : Int} (hx : v.natAbs < 2 ^ x.bits b) (hy : w.natAbs < 2 ^ y.bits b) : (k.ap v w).natAbs < 2 ^ (Rcp.two k x y).bits b := by
  have hx' := pow_mono hx (Nat.le_max_left _ (y.bits b))
  have hy' := pow_mono hy (Nat.le_max_right (x.bits b) _)
  cases k with
  | plus =>
    show (v + w).natAbs < 2 ^ (max (x.bits b) (y.bits b) + 1)
    rw [Nat.pow_succ]
    omega
  | minus =>
    show (v - w).natAbs < 2 ^ (max (x.bits b) (y.bits b) + 1)
    rw [Nat.pow_succ]
    omega
  | times =>
    show (v * w).natAbs < 2 ^ (x.bits b + y.bits b)
    rw [Int.natAbs_mul, Nat.pow_add]
    exact Nat.mul_lt_mul'' hx hy
  | most => exact max_small hx' hy'
/-- what a recipe comes to, the worths of names by f: no memory -/
def Rcp.Ev (f : List Nat → Int → Prop) : Rcp → Int → Prop
  | .num n, v => v = n
  | .read t, v => f t v
  | .two k x y, v => ∃ a c, x.Ev f a ∧ y.Ev f c ∧ v = k.ap a c
  | .pick x y z, v => ∃ a, x.Ev f a ∧ ((a > 0 → y.Ev f v) ∧ (¬ a > 0 → z.Ev f v))
  | .choose x ns, v => ∃ a, x.Ev f a ∧ f (nthN ns a) v
/-- no product on the way is too great for the machine -/
def Rcp.Fit (f : List Nat → Int → Prop) : Rcp → Prop
  | .num _ => True
  | .read _ => True
  | .two k x y => x.Fit f ∧ ∀ a, x.Ev f a → y.Fit f ∧ ∀ c, y.Ev f c → k = .times → CMulW a c
  | .pick x y z => x.Fit f ∧ ∀ a, x.Ev f a → ((a > 0 → y.Fit f) ∧ (¬ a > 0 → z.Fit f))
  | .choose x _ => x.Fit f
theorem Rcp.Ev.mono {f g : List Nat → Int → Prop} (hg : ∀ t x, f t x → g t x) : ∀ {r : Rcp} {v : Int}, r.Ev f v → r.Ev g v
  | .num _, v, h => h
  | .read t, v, h => hg t v h
  | .two _ _ _, v, ⟨a, c, h1, h2, e⟩ => ⟨a, c, h1.mono hg, h2.mono hg, e⟩
  | .pick _ _ _, v, ⟨a, h1, h2, h3⟩ => ⟨a, h1.mono hg, fun c => (h2 c).mono hg, fun c => (h3 c).mono hg⟩
  | .choose _ _, v, ⟨a, h1, h2⟩ => ⟨a, h1.mono hg, hg _ _ h2⟩
theorem Rcp.Fit.mono {f g : List Nat → Int → Prop} (hg : ∀ t x, f t x → g t x) : ∀ {r : Rcp}, r.Fit g → r.Fit f
  | .num _, _ => trivial
  | .read _, _ => trivial
  | .two _ _ _, ⟨h1, h2⟩ => ⟨h1.mono hg, fun a ha => ⟨(h2 a (ha.mono hg)).1.mono hg, fun c hc => (h2 a (ha.mono hg)).2 c (hc.mono hg)⟩⟩
  | .pick _ _ _, ⟨h1, h2⟩ => ⟨h1.mono hg, fun a ha => ⟨fun c => ((h2 a (ha.mono hg)).1 c).mono hg, fun c => ((h2 a (ha.mono hg)).2 c).mono hg⟩⟩
  | .choose x _, h => Fit.mono (r := x) hg h
theorem Rcp.Ev.small {f : List Nat → Int → Prop} {b : Nat} (hf : ∀ t v, f t v → v.natAbs < 2 ^ b) : ∀ {r : Rcp} {v : Int}, r.Ev f v → v.natAbs < 2 ^ r.bits b
  | .num n, v, h => by
    rw [show v = n from h]
    exact Nat.lt_log2_self
  | .read t, v, h => hf t v h
  | .two k x y, v, h => by
    obtain ⟨a, c, h1, h2, rfl⟩ := h
    exact ap_bits (h1.small hf) (h2.small hf)
  | .pick x y z, v, h => by
    obtain ⟨a, h1, h2, h3⟩ := h
    by_cases c : a > 0
    · exact pow_mono ((h2 c).small hf) (by simp only [Rcp.bits]; omega)
    · exact pow_mono ((h3 c).small hf) (by simp only [Rcp.bits]; omega)
  | .choose x ns, v, h => by
    obtain ⟨a, h1, h2⟩ := h
    exact pow_mono (hf _ _ h2) (by simp only [Rcp.bits]; omega)
theorem Rcp.Fit.of_bits {f : List Nat → Int → Prop} {b : Nat} (hb : 0 < b) (hf : ∀ t v, f t v → v.natAbs < 2 ^ b) : ∀ {r : Rcp}, r.bits b ≤ 1000000 → r.Fit f
  | .num _, _ => trivial
  | .read _, _ => trivial
  | .two k x y, h => by
    have hs := bits_sub (b := b) (k := k) (x := x) (y := y)
    refine ⟨Fit.of_bits hb hf (by omega), fun a ha => ⟨Fit.of_bits hb hf (by omega), fun c hc e => ?_⟩⟩
    subst e
    exact wide_mul (ha.small hf) (hc.small hf) (bits_pos hb x) (bits_pos hb y) h
  | .pick x y z, h => by
    have e : (Rcp.pick x y z).bits b = max (x.bits b) (max (y.bits b) (z.bits b)) := rfl
    exact ⟨Fit.of_bits hb hf (by omega), fun a _ => ⟨fun _ => Fit.of_bits hb hf (by omega), fun _ => Fit.of_bits hb hf (by omega)⟩⟩
  | .choose x ns, h => by
    have e : (Rcp.choose x ns).bits b = max (x.bits b) b := rfl
    exact Fit.of_bits (r := x) hb hf (by omega)
section
variable {S : Type} {lk : S → List Nat → OutR S} {J : S → Prop} {f : List Nat → Int → Prop}
/-- what a look keeps -/
def LkOk (lk : S → List Nat → OutR S) (J : S → Prop) (f : List Nat → Int → Prop) : Prop := ∀ s t v s', J s → Nm t → lk s t = .ok v s' → J s' ∧ f t v
theorem wk_ok (hlk : LkOk lk J f) : ∀ {r : Rcp} {s s' : S} {v : Int}, r.Wn → J s → wk lk r s = .ok v s' → J s' ∧ r.Ev f v
  | .num n, s, s', v, _, hj, h => by
    cases h
    exact ⟨hj, rfl⟩
  | .read t, s, s', v, hw, hj, h => hlk s t v s' hj hw h
  | .two k x y, s, s', v, hw, hj, h => by
    obtain ⟨a, s1, h1, h2⟩ := OutR.bind_ok h
    obtain ⟨c, s2, h3, h4⟩ := OutR.bind_ok h2
    cases h4
    obtain ⟨j1, b1⟩ := wk_ok hlk hw.1 hj h1
    obtain ⟨j2, b2⟩ := wk_ok hlk hw.2 j1 h3
    exact ⟨j2, a, c, b1, b2, rfl⟩
  | .pick x y z, s, s', v, hw, hj, h => by
    obtain ⟨a, s1, h1, h2⟩ := OutR.bind_ok h
    obtain ⟨j1, b1⟩ := wk_ok hlk hw.1 hj h1
    by_cases c : a > 0
    · simp only [if_pos c] at h2
      obtain ⟨j2, b2⟩ := wk_ok hlk hw.2.1 j1 h2
      exact ⟨j2, a, b1, fun _ => b2, fun n => absurd c n⟩
    · simp only [if_neg c] at h2
      obtain ⟨j2, b2⟩ := wk_ok hlk hw.2.2 j1 h2
      exact ⟨j2, a, b1, fun n => absurd n c, fun _ => b2⟩
  | .choose x ns, s, s', v, hw, hj, h => by
    obtain ⟨a, s1, h1, h2⟩ := OutR.bind_ok h
    obtain ⟨j1, b1⟩ := wk_ok hlk hw.1 hj h1
    obtain ⟨i, _, hi⟩ := nth_mem hw.2.1 a
    obtain ⟨j2, b2⟩ := hlk s1 _ v s' j1 (hw.2.2.2 _ (List.mem_of_getElem? hi)) h2
    exact ⟨j2, a, b1, b2⟩
end
/-- how the memory changes while names are looked for: what is not the reckoner's stays -/
structure FrOk {S : Type} (At : S → Hp → Prop) (Fr : Hp → Hp → Prop) : Prop where
  refl : ∀ H, Fr H H
  trans : ∀ {A B C}, Fr A B → Fr B C → Fr A C
  keep : ∀ {s H H'}, At s H → Fr H H' → Keep H H'
  ext : ∀ {s H H' b phi}, At s H → Fr H H' → H b = some (.ext phi) → H' b = some (.ext phi)
def TellW {S : Type} (At : S → Hp → Prop) (Fr : Hp → Hp → Prop) (Er : XErr → XK → Hp → Prop) (Q : VK) (E : XK) (H : Hp) : OutR S → Prop
  | .ok v s => ∀ H', Fr H H' → At s H' → Q (.int v) H'
  | .err x => ∀ H', Fr H H' → Er x E H'
theorem TellW.from {S : Type} {At : S → Hp → Prop} {Fr : Hp → Hp → Prop} {Er : XErr → XK → Hp → Prop} {Q : VK} {E : XK} {H H1 : Hp} {o : OutR S} (F : FrOk At Fr) (h : TellW At Fr Er Q E H o) (f : Fr H H1) : TellW At Fr Er Q E H1 o := by
  cases o with
  | ok v s => exact fun H' g a => h H' (F.trans f g) a
  | err x => exact fun H' g => h H' (F.trans f g)
/-- the promise of the handed function -/
def spLk {S : Type} (At : S → Hp → Prop) (Fr : Hp → Hp → Prop) (Er : XErr → XK → Hp → Prop) (J : S → Prop) (lk : S → List Nat → OutR S) (WS : List (Option V)) : List (Option V) → Sp := fun ws vs H Q E => ws = WS ∧ ∃ (t : List Nat) (s : S), vs = [.str (SX.S t)] ∧ At s H ∧ J s ∧ Nm t ∧ TellW At Fr Er Q E H (lk s t)
def spWB {S : Type} (At : S → Hp → Prop) (Fr : Hp → Hp → Prop) (Er : XErr → XK → Hp → Prop) (J : S → Prop) (lk : S → List Nat → OutR S) (f : Addr) (F : NF) (g : List Nat → Int → Prop) (j : Nat) : Sp := fun vs H Q E => ∃ (v : V) (r : Rcp) (s : S), vs = [v, .ref f] ∧ Rec H r v ∧ r.Wn ∧ r.dep ≤ j ∧ r.Fit g ∧ At s H ∧ J s ∧
  H f = some (FnO f F) ∧ H F.c = some (CodeO F.c F.qual) ∧ TellW At Fr Er Q E H (wk lk r s)
def spPut : Sp := fun vs H Q _ => ∃ (k : Kd) (x y : Int), vs = [.str k.name, .int x, .int y] ∧ (k = .times → CMulW x y) ∧ Q (.int (k.ap x y)) H
theorem dep1 {k : Kd} {a b : Rcp} {j : Nat} (h : (Rcp.two k a b).dep ≤ j + 1) : a.dep ≤ j ∧ b.dep ≤ j := by
  have e : (Rcp.two k a b).dep = max a.dep b.dep + 1 := rfl
  omega
section
variable {P : Program} {w : World} {K : PySem.W.Frag} {mg : Str → Option Value} {base : Heap}
abbrev s_put_together : Stmt := topS 26
abbrev N_put_together : List Str := ["kind", "one", "other"]
theorem sc_put_together : FnScope N_put_together ["kind", "one", "other"] (defScope s_put_together) := ⟨rfl, rfl, rfl, by decide +kernel, rfl, by decide +kernel, by decide +kernel⟩

theorem ok_put_together (T : Txt K mg) (D : IsDef K mg "put_together" s_put_together ["kind", "one", "other"]) : Cal P w K mg base CX0 1 "put_together" ["kind", "one", "other"] spPut := by
  refine D.cal sc_put_together (fun vs H Q E h => ?_) (fun f cdv A outer s H vs Q E hr h => ?_)
  · obtain ⟨k, x, y, rfl, _⟩ := h
    rfl
  obtain ⟨k, x, y, rfl, hw, q⟩ := h
  refine ⟨_, (pss_cons (ps_if (pt_cmpR op_eq (pv 0) pe_str (nomark _))
        (pss_one (ps_ret (pe_op op_add (pv 1) (pv 2))))
        pss_nil)
      (pss_cons (ps_if (pt_cmpR op_eq (pv 0) pe_str (nomark _))
        (pss_one (ps_ret (pe_op op_sub (pv 1) (pv 2))))
        pss_nil)
      (pss_cons (ps_if (pt_cmpR op_eq (pv 0) pe_str (nomark _))
        (pss_one (ps_ret (pe_op op_mulW (pv 1) (pv 2))))
        pss_nil)
      (pss_one (ps_ret (pe_callB (call_max2 rfl) (by rfl) T.b_max (by decide +kernel) (pa_cons (pv 1) (pa_cons (pv 2) pa_nil)))))))), ?_⟩
  cases k with
  | plus => exact ⟨_, rfl, rfl, _, rfl, iteY rfl ⟨_, rfl, _, rfl, _, _, rfl, rfl, q⟩⟩
  | minus => exact ⟨_, rfl, rfl, _, rfl, iteN (sne (by decide +kernel)) ⟨_, rfl, rfl, _, rfl, iteY rfl ⟨_, rfl, _, rfl, _, _, rfl, rfl, q⟩⟩⟩
  | times => exact ⟨_, rfl, rfl, _, rfl, iteN (sne (by decide +kernel)) ⟨_, rfl, rfl, _, rfl, iteN (sne (by decide +kernel)) ⟨_, rfl, rfl, _, rfl, iteY rfl ⟨_, rfl, _, rfl, _, _, rfl, rfl, hw rfl, q⟩⟩⟩⟩
  | most => exact ⟨_, rfl, rfl, _, rfl, iteN (sne (by decide +kernel)) ⟨_, rfl, rfl, _, rfl, iteN (sne (by decide +kernel)) ⟨_, rfl, rfl, _, rfl, iteN (sne (by decide +kernel)) ⟨_, rfl, _, rfl, _, _, rfl, q⟩⟩⟩⟩
abbrev s_worth_by : Stmt := topS 27
abbrev N_worth_by : List Str := ["recipe", "look", "kind", "one"]
theorem sc_worth_by : FnScope N_worth_by ["recipe", "look"] (defScope s_worth_by) := ⟨rfl, rfl, rfl, by decide +kernel, rfl, by decide +kernel, by decide +kernel⟩

theorem ok_worth_by {S : Type} {At : S → Hp → Prop} {Fr : Hp → Hp → Prop} {Er : XErr → XK → Hp → Prop} {J : S → Prop} {lk : S → List Nat → OutR S} {fr : List Str} {ws : List (Option V)} {fl : Addr} {Fl : NF} {g : List Nat → Int → Prop} {L : Nat}
    (T : Txt K mg) (D : IsDef K mg "worth_by" s_worth_by ["recipe", "look"]) (C_put : Cal P w K mg base CX0 1 "put_together" ["kind", "one", "other"] spPut) (F : FrOk At Fr) (hlk : LkOk lk J g) (hL : 1 ≤ L)
    (Vlook : NOk P w K mg base (L2.CX P w) L fl Fl ["other"] fr (spLk At Fr Er J lk ws)) : ∀ j, CalC P w K mg base (L2.CX P w) (L + j) "worth_by" ["recipe", "look"] Fl.cl fr ws (spWB At Fr Er J lk fl Fl g j)
  | 0 => calC_none D fun vs H Q E h => by
    obtain ⟨_, r, _, _, _, _, hd, _⟩ := h
    have := dep_pos r
    omega
  | j + 1 => by
    have C_worth_by := ok_worth_by T D C_put F hlk hL Vlook j
    have C_put_together := C_put.mono (show 1 ≤ L + j by omega)
    have hLlook : L ≤ L + j := Nat.le_add_right _ _
    refine D.calC (k := L + j) sc_worth_by (fun vs H Q E h => ?_) (fun f cdv A outer s H vs Q E hr CA h => ?_)
    · obtain ⟨v, r, s, rfl, _⟩ := h
      rfl
    obtain ⟨v, r, st, rfl, hRc, hw, hd, hbt, hA, hJ, hf, hc, q⟩ := h
    refine ⟨_, (pss_cons (ps_set (i := 2) sc_worth_by.nd rfl (Or.inl rfl) (pe_ix (r := rIxT K) ix_tup (pv 0) pe_int (fun _ _ => rfl)))
      (pss_cons (ps_if (pt_cmpR op_eq (pv 2) pe_str (nomark _))
        (pss_one (ps_ret (pe_ix (r := rIxT K) ix_tup (pv 0) pe_int (fun _ _ => rfl))))
        pss_nil)
      (pss_cons (ps_if (pt_cmpR op_eq (pv 2) pe_str (nomark _))
        (pss_one (ps_ret (pe_callV (i := 1) Vlook rfl CA hr hLlook (passes_call (takes_of rfl rfl rfl rfl) (fun _ _ _ _ h => h)) (pa_cons (pe_ix (r := rIxT K) ix_tup (pv 0) pe_int (fun _ _ => rfl)) pa_nil))))
        pss_nil)
      (pss_cons (ps_set (i := 3) sc_worth_by.nd rfl (Or.inl rfl) (pe_callC C_worth_by rfl CA (hr.mono (by first | decide | omega)) (passes_call (takes_of rfl rfl rfl rfl) (fun _ _ _ _ h => h)) (pa_cons (pe_ix (r := rIxT K) ix_tup (pv 0) pe_int (fun _ _ => rfl)) (pa_cons (pv 1) pa_nil))))
      (pss_cons (ps_if (pt_cmpR op_eq (pv 2) pe_str (nomark _))
        (pss_one (ps_ret (pe_callV (i := 1) Vlook rfl CA hr hLlook (passes_call (takes_of rfl rfl rfl rfl) (fun _ _ _ _ h => h)) (pa_cons (pe_ix (r := rIxT K) ix_tup (pe_ix (r := rIxT K) ix_tup (pv 0) pe_int (fun _ _ => rfl)) (pe_op op_mod (pv 3) (pe_callB call_len_seq (by rfl) T.b_len PySem.boot_len (pa_cons (pe_ix (r := rIxT K) ix_tup (pv 0) pe_int (fun _ _ => rfl)) pa_nil))) (fun _ _ => rfl)) pa_nil))))
        pss_nil)
      (pss_cons (ps_if (PW.pt (pw_and (pt_cmpR op_eq (pv 2) pe_str (nomark _)) (pw_and1 (pt_cmpR op_gt (pv 3) pe_int (nomark _)))))
        (pss_one (ps_ret (pe_callC C_worth_by rfl CA (hr.mono (by first | decide | omega)) (passes_call (takes_of rfl rfl rfl rfl) (fun _ _ _ _ h => h)) (pa_cons (pe_ix (r := rIxT K) ix_tup (pv 0) pe_int (fun _ _ => rfl)) (pa_cons (pv 1) pa_nil)))))
        pss_nil)
      (pss_cons (ps_if (pt_cmpR op_eq (pv 2) pe_str (nomark _))
        (pss_one (ps_ret (pe_callC C_worth_by rfl CA (hr.mono (by first | decide | omega)) (passes_call (takes_of rfl rfl rfl rfl) (fun _ _ _ _ h => h)) (pa_cons (pe_ix (r := rIxT K) ix_tup (pv 0) pe_int (fun _ _ => rfl)) (pa_cons (pv 1) pa_nil)))))
        pss_nil)
      (pss_one (ps_ret (pe_cal C_put_together (hr.mono (by first | decide | omega)) pass0 (pa_cons (pv 2) (pa_cons (pv 3) (pa_cons (pe_callC C_worth_by rfl CA (hr.mono (by first | decide | omega)) (passes_call (takes_of rfl rfl rfl rfl) (fun _ _ _ _ h => h)) (pa_cons (pe_ix (r := rIxT K) ix_tup (pv 0) pe_int (fun _ _ => rfl)) (pa_cons (pv 1) pa_nil))) pa_nil))))))))))))), ?_⟩
    have sub : ∀ {x : Rcp} {xv : V} {Q' : VK}, x.Wn → x.dep ≤ j → x.Fit g → Rec H x xv → (∀ y s1 H1, wk lk x st = .ok y s1 → Fr H H1 → At s1 H1 → Q' (.int y) H1) → (∀ e, wk lk x st = .err e → ∀ H', Fr H H' → Er e E H') → spWB At Fr Er J lk fl Fl g j [xv, .ref fl] H Q' E := fun {x xv Q'} hw hd hb hR h1 h2 => by
      refine ⟨xv, x, st, rfl, hR, hw, hd, hb, hA, hJ, hf, hc, ?_⟩
      cases e : wk lk x st with
      | ok y s1 => exact fun H1 g a => h1 y s1 H1 e g a
      | err e' => exact fun H1 g => h2 e' e H1 g
    cases r with
    | num x =>
      obtain ⟨p, rfl, hp⟩ := hRc
      refine ⟨_, rfl, p, _, _, _, rfl, rfl, SqT.of hp, rfl, ⟨_, rfl, rfl, _, rfl, iteY rfl ?_⟩⟩
      exact ⟨_, rfl, p, _, _, _, rfl, rfl, SqT.of hp, rfl, q H (F.refl H) hA⟩
    | read s0 =>
      obtain ⟨p, rfl, hp⟩ := hRc
      refine ⟨_, rfl, p, _, _, _, rfl, rfl, SqT.of hp, rfl, ⟨_, rfl, rfl, _, rfl, iteN (sne (by decide +kernel)) ?_⟩⟩
      refine ⟨_, rfl, rfl, _, rfl, iteY rfl ?_⟩
      exact ⟨rfl, hf, _, rfl, p, _, _, _, rfl, rfl, SqT.of hp, rfl, hf, hc, rfl, s0, st, rfl, hA, hJ, hw, q⟩
    | two k x y =>
      obtain ⟨p, vx, vy, rfl, hp, hx, hy⟩ := hRc
      obtain ⟨hdx, hdy⟩ := dep1 hd
      refine ⟨_, rfl, p, _, _, _, rfl, rfl, SqT.of hp, rfl, ⟨_, rfl, rfl, _, rfl, iteN (sne (by cases k <;> decide +kernel)) ?_⟩⟩
      refine ⟨_, rfl, rfl, _, rfl, iteN (sne (by cases k <;> decide +kernel)) ?_⟩
      refine ⟨_, rfl, p, _, _, _, rfl, rfl, SqT.of hp, rfl, _, rfl, sub hw.1 hdx hbt.1 hx (fun a s1 H1 e1 f1 A1 => ?_) (fun e e1 => by rw [show wk lk (.two k x y) st = .err e by show OutR.bind _ _ = _; rw [e1]; rfl] at q; exact q)⟩
      obtain ⟨J1, n1⟩ := wk_ok hlk hw.1 hJ e1
      have k1 := F.keep hA f1
      have hp1 := k1 _ _ hp
      have q' : TellW At Fr Er Q E H ((wk lk y s1).bind fun c s2 => .ok (k.ap a c) s2) := by
        rw [show wk lk (.two k x y) st = (wk lk y s1).bind fun c s2 => .ok (k.ap a c) s2 by show OutR.bind _ _ = _; rw [e1]; rfl] at q
        exact q
      refine ⟨_, rfl, rfl, _, rfl, iteN (sne (by cases k <;> decide +kernel)) ?_⟩
      refine ⟨_, rfl, rfl, _, rfl, iteN (sne (by cases k <;> decide +kernel)) ?_⟩
      refine ⟨_, rfl, rfl, _, rfl, iteN (sne (by cases k <;> decide +kernel)) ?_⟩
      refine ⟨_, rfl, _, rfl, _, rfl, p, _, _, _, rfl, rfl, SqT.of hp1, rfl, _, rfl, vy, y, s1, rfl, hy.keep k1, hw.2, hdy, (hbt.2 a n1).1, A1, J1, F.ext hA f1 hf, F.ext hA f1 hc, ?_⟩
      cases e2 : wk lk y s1 with
      | ok c s2 =>
        intro H2 f2 A2
        obtain ⟨J2, n2⟩ := wk_ok hlk hw.2 J1 e2
        refine ⟨k, a, c, rfl, (hbt.2 a n1).2 c n2, ?_⟩
        rw [e2] at q'
        exact q' H2 (F.trans f1 f2) A2
      | err e =>
        intro H2 f2
        rw [e2] at q'
        exact q' H2 (F.trans f1 f2)
    | pick x y z =>
      obtain ⟨p, vx, vy, vz, rfl, hp, hx, hy, hz⟩ := hRc
      have hd1 : x.dep ≤ j ∧ y.dep ≤ j ∧ z.dep ≤ j := by
        have e : (Rcp.pick x y z).dep = max x.dep (max y.dep z.dep) + 1 := rfl
        omega
      refine ⟨_, rfl, p, _, _, _, rfl, rfl, SqT.of hp, rfl, ⟨_, rfl, rfl, _, rfl, iteN (sne (by decide +kernel)) ?_⟩⟩
      refine ⟨_, rfl, rfl, _, rfl, iteN (sne (by decide +kernel)) ?_⟩
      refine ⟨_, rfl, p, _, _, _, rfl, rfl, SqT.of hp, rfl, _, rfl, sub hw.1 hd1.1 hbt.1 hx (fun a s1 H1 e1 f1 A1 => ?_) (fun e e1 => by rw [show wk lk (.pick x y z) st = .err e by show OutR.bind _ _ = _; rw [e1]; rfl] at q; exact q)⟩
      obtain ⟨J1, n1⟩ := wk_ok hlk hw.1 hJ e1
      have k1 := F.keep hA f1
      have hp1 := k1 _ _ hp
      have q' : TellW At Fr Er Q E H (if a > 0 then wk lk y s1 else wk lk z s1) := by
        rw [show wk lk (.pick x y z) st = if a > 0 then wk lk y s1 else wk lk z s1 by show OutR.bind _ _ = _; rw [e1]; rfl] at q
        exact q
      refine ⟨_, rfl, rfl, _, rfl, iteN (sne (by decide +kernel)) ?_⟩
      refine ⟨_, rfl, rfl, _, rfl, iteY rfl ?_⟩
      refine ⟨_, rfl, _, _, rfl, rfl, _, rfl, ?_⟩
      by_cases c0 : a > 0
      · rw [if_pos c0] at q'
        refine iteY c0 ?_
        exact ⟨_, rfl, p, _, _, _, rfl, rfl, SqT.of hp1, rfl, _, rfl, vy, y, s1, rfl, hy.keep k1, hw.2.1, hd1.2.1, (hbt.2 a n1).1 c0, A1, J1, F.ext hA f1 hf, F.ext hA f1 hc, TellW.from F q' f1⟩
      · rw [if_neg c0] at q'
        refine iteN c0 ?_
        refine ⟨_, rfl, rfl, _, rfl, iteY rfl ?_⟩
        exact ⟨_, rfl, p, _, _, _, rfl, rfl, SqT.of hp1, rfl, _, rfl, vz, z, s1, rfl, hz.keep k1, hw.2.2, hd1.2.2, (hbt.2 a n1).2 c0, A1, J1, F.ext hA f1 hf, F.ext hA f1 hc, TellW.from F q' f1⟩
    | choose x ns =>
      obtain ⟨p, vx, t2, rfl, hp, hx, ht2⟩ := hRc
      have hd1 : x.dep ≤ j := by
        have e : (Rcp.choose x ns).dep = x.dep + 1 := rfl
        omega
      refine ⟨_, rfl, p, _, _, _, rfl, rfl, SqT.of hp, rfl, ⟨_, rfl, rfl, _, rfl, iteN (sne (by decide +kernel)) ?_⟩⟩
      refine ⟨_, rfl, rfl, _, rfl, iteN (sne (by decide +kernel)) ?_⟩
      refine ⟨_, rfl, p, _, _, _, rfl, rfl, SqT.of hp, rfl, _, rfl, sub hw.1 hd1 hbt hx (fun a s1 H1 e1 f1 A1 => ?_) (fun e e1 => by rw [show wk lk (.choose x ns) st = .err e by show OutR.bind _ _ = _; rw [e1]; rfl] at q; exact q)⟩
      obtain ⟨J1, n1⟩ := wk_ok hlk hw.1 hJ e1
      have k1 := F.keep hA f1
      have hp1 := k1 _ _ hp
      have ht21 := k1 _ _ ht2
      have q' : TellW At Fr Er Q E H (lk s1 (nthN ns a)) := by
        rw [show wk lk (.choose x ns) st = lk s1 (nthN ns a) by show OutR.bind _ _ = _; rw [e1]; rfl] at q
        exact q
      obtain ⟨i, hi, hi2⟩ := nth_mem hw.2.1 a
      have hi3 := (List.getElem?_eq_some_iff.mp hi2).1
      refine ⟨_, rfl, rfl, _, rfl, iteY rfl ?_⟩
      refine ⟨rfl, F.ext hA f1 hf, _, rfl, p, _, _, _, rfl, rfl, SqT.of hp1, rfl, _, rfl, _, rfl, p, _, _, _, rfl, rfl, SqT.of hp1, rfl, t2, _, rfl, .inr (SqT.of ht21), _, _, rfl, rfl, ?_, t2, _, _, .str (SX.S (nthN ns a)), rfl, rfl, SqT.of ht21, ?_, F.ext hA f1 hf, F.ext hA f1 hc, rfl, nthN ns a, s1, rfl, A1, J1, hw.2.2.2 _ (List.mem_of_getElem? hi2), TellW.from F q' f1⟩
      · show (0 : Int) < ((txs ns).length : Nat)
        rw [txs_len]
        have := hw.2.1
        omega
      · show atI (txs ns) (a % (((txs ns).length : Nat) : Int)) = _
        rw [txs_len, hi]
        refine atI_nat ?_
        rw [txs_get hi3, Option.some.inj ((List.getElem?_eq_getElem hi3).symm.trans hi2)]
end
/-! ### the reckoner: plain facts -/
theorem sub_lenR {α : Type} [DecidableEq α] : ∀ {l m : List α}, l.Nodup → (∀ x ∈ l, x ∈ m) → l.length ≤ m.length
  | [], _, _, _ => Nat.zero_le _
  | a :: l, m, nd, h => by
    obtain ⟨h1, h2⟩ := List.nodup_cons.mp nd
    have ha := h a (List.mem_cons_self ..)
    have := sub_lenR (m := m.erase a) h2 fun x hx => (List.mem_erase_of_ne (fun e => h1 (by rw [← e]; exact hx))).mpr (h x (List.mem_cons_of_mem _ hx))
    rw [List.length_erase_of_mem ha] at this
    have : 0 < m.length := List.length_pos_of_mem ha
    show l.length + 1 ≤ m.length
    omega
abbrev RcpNm := List Nat × Rcp
structure House where
  given : List Pr
  recs : List RcpNm
def rcpOf (l : List RcpNm) (s : List Nat) : Option Rcp := (l.find? fun p => decide (p.1 = s)).map (·.2)
/-- worths known, what was read for them, what is being looked for -/
structure RkS where
  known : List Pr
  read : List (List Nat × List Pr)
  asked : List (List Nat)
/-- a key's worth put down, where it stood or behind -/
def putA {α : Type} (l : List (List Nat × α)) (s : List Nat) (v : α) : List (List Nat × α) := if (l.any fun p => decide (p.1 = s)) = true then l.map (fun p => if p.1 = s then (p.1, v) else p) else l ++ [(s, v)]
def setd (own : List Pr) (t : List Nat) (v : Int) : List Pr := match seen own t with
  | some _ => own
  | none => putA own t v
def lkOwn (lk : RkS → List Nat → OutR RkS) (p : RkS × List Pr) (t : List Nat) : OutR (RkS × List Pr) := match lk p.1 t with
  | .ok v s => .ok v (s, setd p.2 t v)
  | .err e => .err e
def lkR (h : House) : Nat → RkS → List Nat → OutR RkS
  | 0, _, _ => .err (.ring [])
  | n + 1, s, t => match seen s.known t with
    | some v => .ok v s
    | none => match seen h.given t with
      | some v => .ok v { s with known := putA s.known t v }
      | none => match rcpOf h.recs t with
        | none => .err (.noName t)
        | some r => if t ∈ s.asked then .err (.ring (s.asked.drop (s.asked.idxOf t) ++ [t])) else
          match wk (lkOwn (lkR h n)) r ({ s with asked := s.asked ++ [t] }, []) with
          | .ok v p => .ok v { known := putA p.1.known t v, read := putA p.1.read t p.2, asked := p.1.asked.dropLast }
          | .err e => .err e
theorem putA_new {α : Type} {l : List (List Nat × α)} {s : List Nat} (v : α) (h : ¬ s ∈ l.map (·.1)) : putA l s v = l ++ [(s, v)] := by
  unfold putA
  rw [if_neg]
  intro z
  obtain ⟨p, hp, e⟩ := List.any_eq_true.mp z
  exact h (List.mem_map.mpr ⟨p, hp, of_decide_eq_true e⟩)
theorem putA_keys {α : Type} (l : List (List Nat × α)) (s : List Nat) (v : α) : (putA l s v).map (·.1) = if s ∈ l.map (·.1) then l.map (·.1) else l.map (·.1) ++ [s] := by
  unfold putA
  by_cases h : s ∈ l.map (·.1)
  · rw [if_pos h, if_pos]
    · rw [List.map_map]
      refine List.map_congr_left fun p _ => ?_
      show (if p.1 = s then (p.1, v) else p).1 = p.1
      split <;> rfl
    · obtain ⟨p, hp, e⟩ := List.mem_map.mp h
      exact List.any_eq_true.mpr ⟨p, hp, decide_eq_true e⟩
  · rw [if_neg h, if_neg, List.map_append]
    · rfl
    · intro z
      obtain ⟨p, hp, e⟩ := List.any_eq_true.mp z
      exact h (List.mem_map.mpr ⟨p, hp, of_decide_eq_true e⟩)
theorem putA_len {α : Type} (l : List (List Nat × α)) (s : List Nat) (v : α) : (putA l s v).length = if s ∈ l.map (·.1) then l.length else l.length + 1 := by
  have := congrArg List.length (putA_keys l s v)
  rw [List.length_map] at this
  rw [this]
  split
  · rw [List.length_map]
  · rw [List.length_append, List.length_map]; rfl
theorem mem_putA {α : Type} {l : List (List Nat × α)} {s : List Nat} {v : α} {p : List Nat × α} (h : p ∈ putA l s v) : p = (s, v) ∨ p ∈ l := by
  unfold putA at h
  split at h
  · obtain ⟨q, hq, e⟩ := List.mem_map.mp h
    by_cases c : q.1 = s
    · rw [if_pos c] at e
      exact .inl (by rw [← e, c])
    · rw [if_neg c] at e
      exact .inr (e ▸ hq)
  · exact (List.mem_append.mp h).elim .inr fun h => .inl (List.mem_singleton.mp h)
theorem rcpOf_mem {l : List RcpNm} {s : List Nat} {r : Rcp} (h : rcpOf l s = some r) : (s, r) ∈ l := by
  unfold rcpOf at h
  cases e : l.find? fun p => decide (p.1 = s) with
  | none => rw [e] at h; cases h
  | some p =>
    rw [e] at h
    have h1 := List.mem_of_find?_eq_some e
    have h2 : p.1 = s := by
      have := List.find?_some e
      exact of_decide_eq_true this
    have h3 : p.2 = r := Option.some.inj h
    rw [← h2, ← h3]
    exact h1
/-! #### growth: how great the worths become -/
theorem bits_mono {a b : Nat} (h : a ≤ b) : ∀ r : Rcp, r.bits a ≤ r.bits b
  | .num _ => Nat.le_refl _
  | .read _ => h
  | .two k x y => by
    have hx := bits_mono h x
    have hy := bits_mono h y
    cases k <;> simp only [Rcp.bits] <;> omega
  | .pick x y z => by
    have hx := bits_mono h x
    have hy := bits_mono h y
    have hz := bits_mono h z
    simp only [Rcp.bits]; omega
  | .choose x _ => by
    have hx := bits_mono h x
    simp only [Rcp.bits]; omega
theorem putA_nd {α : Type} {l : List (List Nat × α)} {s : List Nat} {v : α} (h : (l.map (·.1)).Nodup) : ((putA l s v).map (·.1)).Nodup := by
  rw [putA_keys]
  split
  · exact h
  · rename_i c
    exact List.nodup_append.mpr ⟨h, List.nodup_cons.mpr ⟨(fun z => nomatch z), List.nodup_nil⟩, fun a ha b hb e => c (by rw [List.mem_singleton.mp hb] at e; rw [← e]; exact ha)⟩
theorem putA_mem {α : Type} {l : List (List Nat × α)} {s u : List Nat} {v : α} : u ∈ (putA l s v).map (·.1) ↔ u ∈ l.map (·.1) ∨ u = s := by
  rw [putA_keys]
  split
  · rename_i c
    exact ⟨.inl, fun h => h.elim id fun e => by rw [e]; exact c⟩
  · rw [List.mem_append, List.mem_singleton]
theorem mem_setd {own : List Pr} {t : List Nat} {v : Int} {q : Pr} (h : q ∈ setd own t v) : q = (t, v) ∨ q ∈ own := by
  unfold setd at h
  split at h
  · exact .inr h
  · exact mem_putA h
/-! ### worths by themselves: no memory of what was asked -/
theorem bind_okI {S : Type} {r : OutR S} {f : Int → S → OutR S} {x : Int} {s : S} (h : r = .ok x s) : r.bind f = f x s := by rw [h]; rfl
def dnL (f : List Nat → Option Int) (o : List Pr) (t : List Nat) : OutR (List Pr) := match f t with
  | some v => .ok v (setd o t v)
  | none => .err (.noName t)
def val (h : House) : Nat → List Nat → Option Int
  | 0, _ => none
  | n + 1, t => match seen h.given t with
    | some v => some v
    | none => match rcpOf h.recs t with
      | none => none
      | some r => match wk (dnL (val h n)) r [] with
        | .ok v _ => some v
        | .err _ => none
theorem dnL_ok {f : List Nat → Option Int} {o o' : List Pr} {t : List Nat} {v : Int} (h : dnL f o t = .ok v o') : f t = some v ∧ o' = setd o t v := by
  unfold dnL at h
  cases e : f t with
  | none => rw [e] at h; cases h
  | some x => rw [e] at h; cases h; exact ⟨rfl, rfl⟩
theorem dnL_some {f : List Nat → Option Int} {t : List Nat} {v : Int} (h : f t = some v) (o : List Pr) : dnL f o t = .ok v (setd o t v) := by unfold dnL; rw [h]
theorem seen_key {l : List Pr} {t : List Nat} {v : Int} (h : seen l t = some v) : t ∈ l.map (·.1) := List.mem_map.mpr ⟨_, seen_mem h, rfl⟩
theorem setd_keys {o : List Pr} {t u : List Nat} {v : Int} : u ∈ (setd o t v).map (·.1) ↔ u ∈ o.map (·.1) ∨ u = t := by
  unfold setd
  cases e : seen o t with
  | some x => exact ⟨.inl, fun h => h.elim id fun e2 => by rw [e2]; exact seen_key e⟩
  | none => exact putA_mem
/-- what is read grows; only what is read matters -/
theorem wk_agree {f : List Nat → Option Int} : ∀ {r : Rcp} {o o' : List Pr} {v : Int}, wk (dnL f) r o = .ok v o' → (∀ u ∈ o.map (·.1), u ∈ o'.map (·.1)) ∧ ∀ g : List Nat → Option Int, (∀ t x, f t = some x → t ∈ o'.map (·.1) → g t = some x) → wk (dnL g) r o = .ok v o' := by
  have look : ∀ {t : List Nat} {o o' : List Pr} {v : Int}, dnL f o t = .ok v o' → (∀ u ∈ o.map (·.1), u ∈ o'.map (·.1)) ∧ ∀ g : List Nat → Option Int, (∀ t x, f t = some x → t ∈ o'.map (·.1) → g t = some x) → dnL g o t = .ok v o' := by
    intro t o o' v h
    obtain ⟨e, rfl⟩ := dnL_ok h
    exact ⟨fun u hu => setd_keys.mpr (.inl hu), fun g hg => dnL_some (hg t v e (setd_keys.mpr (.inr rfl))) o⟩
  intro r
  induction r with
  | num n => intro o o' v h; cases h; exact ⟨fun _ h => h, fun g _ => rfl⟩
  | read t => exact fun h => look h
  | two k a b ia ib =>
    intro o o' v h
    obtain ⟨x, o1, h1, h2⟩ := OutR.bind_ok h
    obtain ⟨y, o2, h3, h4⟩ := OutR.bind_ok h2
    cases h4
    obtain ⟨k1, g1⟩ := ia h1
    obtain ⟨k2, g2⟩ := ib h3
    exact ⟨fun u hu => k2 u (k1 u hu), fun g hg => by
      show (wk (dnL g) a o).bind _ = _
      rw [bind_okI (g1 g fun t x e ht => hg t x e (k2 t ht)), bind_okI (g2 g hg)]⟩
  | pick a b c ia ib ic =>
    intro o o' v h
    obtain ⟨x, o1, h1, h2⟩ := OutR.bind_ok h
    obtain ⟨k1, g1⟩ := ia h1
    by_cases z : x > 0
    · simp only [if_pos z] at h2
      obtain ⟨k2, g2⟩ := ib h2
      exact ⟨fun u hu => k2 u (k1 u hu), fun g hg => by
        show (wk (dnL g) a o).bind _ = _
        rw [bind_okI (g1 g fun t x e ht => hg t x e (k2 t ht)), if_pos z, g2 g hg]⟩
    · simp only [if_neg z] at h2
      obtain ⟨k2, g2⟩ := ic h2
      exact ⟨fun u hu => k2 u (k1 u hu), fun g hg => by
        show (wk (dnL g) a o).bind _ = _
        rw [bind_okI (g1 g fun t x e ht => hg t x e (k2 t ht)), if_neg z, g2 g hg]⟩
  | choose a ns ia =>
    intro o o' v h
    obtain ⟨x, o1, h1, h2⟩ := OutR.bind_ok h
    obtain ⟨k1, g1⟩ := ia h1
    obtain ⟨k2, g2⟩ := look h2
    exact ⟨fun u hu => k2 u (k1 u hu), fun g hg => by
      show (wk (dnL g) a o).bind _ = _
      rw [bind_okI (g1 g fun t x e ht => hg t x e (k2 t ht)), g2 g hg]⟩
theorem wk_mono {f g : List Nat → Option Int} (hg : ∀ t x, f t = some x → g t = some x) {r : Rcp} {o o' : List Pr} {v : Int} (h : wk (dnL f) r o = .ok v o') : wk (dnL g) r o = .ok v o' := (wk_agree h).2 g fun t x e _ => hg t x e
/-- what is read was told by f -/
theorem wk_told {f : List Nat → Option Int} : ∀ {r : Rcp} {o o' : List Pr} {v : Int}, (∀ p ∈ o, f p.1 = some p.2) → wk (dnL f) r o = .ok v o' → ∀ p ∈ o', f p.1 = some p.2 := by
  have look : ∀ {t : List Nat} {o o' : List Pr} {v : Int}, (∀ p ∈ o, f p.1 = some p.2) → dnL f o t = .ok v o' → ∀ p ∈ o', f p.1 = some p.2 := by
    intro t o o' v ho h p hp
    obtain ⟨e, rfl⟩ := dnL_ok h
    rcases mem_setd hp with rfl | hp
    · exact e
    · exact ho p hp
  intro r
  induction r with
  | num n => intro o o' v ho h; cases h; exact ho
  | read t => exact fun ho h => look ho h
  | two k a b ia ib =>
    intro o o' v ho h
    obtain ⟨x, o1, h1, h2⟩ := OutR.bind_ok h
    obtain ⟨y, o2, h3, h4⟩ := OutR.bind_ok h2
    cases h4
    exact ib (ia ho h1) h3
  | pick a b c ia ib ic =>
    intro o o' v ho h
    obtain ⟨x, o1, h1, h2⟩ := OutR.bind_ok h
    by_cases z : x > 0
    · simp only [if_pos z] at h2
      exact ib (ia ho h1) h2
    · simp only [if_neg z] at h2
      exact ic (ia ho h1) h2
  | choose a ns ia =>
    intro o o' v ho h
    obtain ⟨x, o1, h1, h2⟩ := OutR.bind_ok h
    exact look (ia ho h1) h2
theorem setd_nd {o : List Pr} {t : List Nat} {v : Int} (h : (o.map (·.1)).Nodup) : ((setd o t v).map (·.1)).Nodup := by
  unfold setd
  cases e : seen o t with
  | some x => exact h
  | none => exact putA_nd h
theorem wk_nd {f : List Nat → Option Int} : ∀ {r : Rcp} {o o' : List Pr} {v : Int}, (o.map (·.1)).Nodup → wk (dnL f) r o = .ok v o' → (o'.map (·.1)).Nodup := by
  have look : ∀ {t : List Nat} {o o' : List Pr} {v : Int}, (o.map (·.1)).Nodup → dnL f o t = .ok v o' → (o'.map (·.1)).Nodup := by
    intro t o o' v ho h
    obtain ⟨e, rfl⟩ := dnL_ok h
    exact setd_nd ho
  intro r
  induction r with
  | num n => intro o o' v ho h; cases h; exact ho
  | read t => exact fun ho h => look ho h
  | two k a b ia ib =>
    intro o o' v ho h
    obtain ⟨x, o1, h1, h2⟩ := OutR.bind_ok h
    obtain ⟨y, o2, h3, h4⟩ := OutR.bind_ok h2
    cases h4
    exact ib (ia ho h1) h3
  | pick a b c ia ib ic =>
    intro o o' v ho h
    obtain ⟨x, o1, h1, h2⟩ := OutR.bind_ok h
    by_cases z : x > 0
    · simp only [if_pos z] at h2
      exact ib (ia ho h1) h2
    · simp only [if_neg z] at h2
      exact ic (ia ho h1) h2
  | choose a ns ia =>
    intro o o' v ho h
    obtain ⟨x, o1, h1, h2⟩ := OutR.bind_ok h
    exact look (ia ho h1) h2
theorem val_succ {h : House} {n : Nat} {t : List Nat} : val h (n + 1) t = match seen h.given t with
    | some v => some v
    | none => match rcpOf h.recs t with
      | none => none
      | some r => match wk (dnL (val h n)) r [] with
        | .ok v _ => some v
        | .err _ => none := rfl
theorem val_mono {h : House} : ∀ {n : Nat} {t : List Nat} {v : Int}, val h n t = some v → val h (n + 1) t = some v
  | 0, t, v, e => by cases e
  | n + 1, t, v, e => by
    rw [val_succ] at e ⊢
    cases e1 : seen h.given t with
    | some x => rw [e1] at e; exact e
    | none =>
      rw [e1] at e
      cases e2 : rcpOf h.recs t with
      | none => rw [e2] at e; cases e
      | some r =>
        rw [e2] at e
        cases e3 : wk (dnL (val h n)) r [] with
        | err x => simp only [e3] at e; cases e
        | ok w o =>
          simp only [e3] at e
          simp only [wk_mono (fun t x e => val_mono e) e3]
          exact e
theorem val_le {h : House} {t : List Nat} {v : Int} {n m : Nat} (le : n ≤ m) (e : val h n t = some v) : val h m t = some v := by
  induction le with
  | refl => exact e
  | step _ ih => exact val_mono ih
def Val (h : House) (t : List Nat) (v : Int) : Prop := ∃ n, val h n t = some v
theorem Val.det {h : House} {t : List Nat} {v w : Int} (a : Val h t v) (b : Val h t w) : v = w := by
  obtain ⟨n, a⟩ := a
  obtain ⟨m, b⟩ := b
  have := (val_le (Nat.le_max_left n m) a).symm.trans (val_le (Nat.le_max_right n m) b)
  exact Option.some.inj this
def Rds (h : House) (t : List Nat) (own : List Pr) : Prop := seen h.given t = none ∧ ∃ r n v, rcpOf h.recs t = some r ∧ wk (dnL (val h n)) r [] = .ok v own
theorem Rds.det {h : House} {t : List Nat} {v w : List Pr} (a : Rds h t v) (b : Rds h t w) : v = w := by
  obtain ⟨_, r, n, x, e1, a⟩ := a
  obtain ⟨_, r2, m, y, e2, b⟩ := b
  obtain rfl : r = r2 := Option.some.inj (e1.symm.trans e2)
  have := (wk_mono (fun _ _ e => val_le (Nat.le_max_left n m) e) a).symm.trans (wk_mono (fun _ _ e => val_le (Nat.le_max_right n m) e) b)
  cases this
  rfl
theorem Rds.val {h : House} {t : List Nat} {own : List Pr} (a : Rds h t own) : ∀ p ∈ own, Val h p.1 p.2 := by
  obtain ⟨_, r, n, x, e1, a⟩ := a
  exact fun p hp => ⟨n, wk_told (fun p (h : p ∈ ([] : List Pr)) => nomatch h) a p hp⟩
theorem Rds.nd {h : House} {t : List Nat} {own : List Pr} (a : Rds h t own) : (own.map (·.1)).Nodup := by
  obtain ⟨_, r, n, x, e1, a⟩ := a
  exact wk_nd (o := []) List.nodup_nil a
theorem Val.given {h : House} {t : List Nat} {v : Int} (e : seen h.given t = some v) : Val h t v := ⟨1, by rw [val_succ, e]⟩
theorem Val.work {h : House} {t : List Nat} {v : Int} {r : Rcp} {n : Nat} {own : List Pr} (e : seen h.given t = none) (e2 : rcpOf h.recs t = some r) (e3 : wk (dnL (val h n)) r [] = .ok v own) : Val h t v := ⟨n + 1, by rw [val_succ, e, e2]; simp only [e3]⟩
/-- a name with a worth is given, or worked with what it reads -/
theorem Val.rds {h : House} {t : List Nat} {v : Int} (a : Val h t v) (e : seen h.given t = none) : ∃ own, Rds h t own ∧ ∃ r n, rcpOf h.recs t = some r ∧ wk (dnL (val h n)) r [] = .ok v own := by
  obtain ⟨n, a⟩ := a
  cases n with
  | zero => cases a
  | succ n =>
    rw [val_succ, e] at a
    cases e2 : rcpOf h.recs t with
    | none => rw [e2] at a; cases a
    | some r =>
      rw [e2] at a
      cases e3 : wk (dnL (val h n)) r [] with
      | err x => simp only [e3] at a; cases a
      | ok w o =>
        simp only [e3] at a
        cases a
        exact ⟨o, ⟨e, r, n, v, e2, e3⟩, r, n, rfl, e3⟩
theorem Ev_wk {h : House} : ∀ {r : Rcp} {v : Int}, r.Ev (Val h) v → ∀ o, ∃ n o', wk (dnL (val h n)) r o = .ok v o'
  | .num n, v, e, o => ⟨0, o, by rw [show v = n from e]; rfl⟩
  | .read t, v, ⟨n, e⟩, o => ⟨n, _, dnL_some e o⟩
  | .two k x y, v, ⟨a, c, h1, h2, e⟩, o => by
    obtain ⟨n1, o1, g1⟩ := Ev_wk h1 o
    obtain ⟨n2, o2, g2⟩ := Ev_wk h2 o1
    refine ⟨max n1 n2, o2, ?_⟩
    show (wk (dnL _) x o).bind _ = _
    rw [bind_okI (wk_mono (fun _ _ e => val_le (Nat.le_max_left _ _) e) g1), bind_okI (wk_mono (fun _ _ e => val_le (Nat.le_max_right _ _) e) g2), e]
  | .pick x y z, v, ⟨a, h1, h2, h3⟩, o => by
    obtain ⟨n1, o1, g1⟩ := Ev_wk h1 o
    by_cases c : a > 0
    · obtain ⟨n2, o2, g2⟩ := Ev_wk (h2 c) o1
      refine ⟨max n1 n2, o2, ?_⟩
      show (wk (dnL _) x o).bind _ = _
      rw [bind_okI (wk_mono (fun _ _ e => val_le (Nat.le_max_left _ _) e) g1), if_pos c, wk_mono (fun _ _ e => val_le (Nat.le_max_right _ _) e) g2]
    · obtain ⟨n2, o2, g2⟩ := Ev_wk (h3 c) o1
      refine ⟨max n1 n2, o2, ?_⟩
      show (wk (dnL _) x o).bind _ = _
      rw [bind_okI (wk_mono (fun _ _ e => val_le (Nat.le_max_left _ _) e) g1), if_neg c, wk_mono (fun _ _ e => val_le (Nat.le_max_right _ _) e) g2]
  | .choose x ns, v, ⟨a, h1, n2, e⟩, o => by
    obtain ⟨n1, o1, g1⟩ := Ev_wk h1 o
    refine ⟨max n1 n2, setd o1 (nthN ns a) v, ?_⟩
    show (wk (dnL _) x o).bind _ = _
    rw [bind_okI (wk_mono (fun _ _ e => val_le (Nat.le_max_left _ _) e) g1), dnL_some (val_le (Nat.le_max_right _ _) e) o1]
theorem wk_ev {f : List Nat → Option Int} : ∀ {r : Rcp} {o o' : List Pr} {v : Int}, wk (dnL f) r o = .ok v o' → r.Ev (fun t x => f t = some x ∧ t ∈ o'.map (·.1)) v := by
  have look : ∀ {t : List Nat} {o o' : List Pr} {v : Int}, dnL f o t = .ok v o' → f t = some v ∧ t ∈ o'.map (·.1) := by
    intro t o o' v h
    obtain ⟨e, rfl⟩ := dnL_ok h
    exact ⟨e, setd_keys.mpr (.inr rfl)⟩
  intro r
  induction r with
  | num n => intro o o' v h; cases h; rfl
  | read t => exact fun h => look h
  | two k a b ia ib =>
    intro o o' v h
    obtain ⟨x, o1, h1, h2⟩ := OutR.bind_ok h
    obtain ⟨y, o2, h3, h4⟩ := OutR.bind_ok h2
    cases h4
    have k2 := (wk_agree h3).1
    exact ⟨x, y, (ia h1).mono fun t x e => ⟨e.1, k2 t e.2⟩, ib h3, rfl⟩
  | pick a b c ia ib ic =>
    intro o o' v h
    obtain ⟨x, o1, h1, h2⟩ := OutR.bind_ok h
    by_cases z : x > 0
    · simp only [if_pos z] at h2
      have k2 := (wk_agree h2).1
      exact ⟨x, (ia h1).mono fun t x e => ⟨e.1, k2 t e.2⟩, fun _ => ib h2, fun n => absurd z n⟩
    · simp only [if_neg z] at h2
      have k2 := (wk_agree h2).1
      exact ⟨x, (ia h1).mono fun t x e => ⟨e.1, k2 t e.2⟩, fun n => absurd n z, fun _ => ic h2⟩
  | choose a ns ia =>
    intro o o' v h
    obtain ⟨x, o1, h1, h2⟩ := OutR.bind_ok h
    obtain ⟨e, rfl⟩ := dnL_ok h2
    exact ⟨x, (ia h1).mono fun t x e => ⟨e.1, setd_keys.mpr (.inl e.2)⟩, e, setd_keys.mpr (.inr rfl)⟩
theorem Val.work_ev {h : House} {t : List Nat} {v : Int} {r : Rcp} (e : seen h.given t = none) (e2 : rcpOf h.recs t = some r) (e3 : r.Ev (Val h) v) : Val h t v := by
  obtain ⟨n, o, g⟩ := Ev_wk e3 []
  exact .work e e2 g
/-- a house of good names and recipes -/
structure HouseN (dm : Nat) (h : House) (beta : Nat → Nat) : Prop where
  rcp : ∀ p ∈ h.recs, Nm p.1 ∧ p.2.Wn ∧ p.2.dep ≤ dm
  gvn : ∀ p ∈ h.given, Nm p.1
/-- no product on the way is too great for the machine -/
structure HouseOk (dm : Nat) (h : House) (beta : Nat → Nat) : Prop where
  n : HouseN dm h beta
  fit : ∀ p ∈ h.recs, seen h.given p.1 = none → p.2.Fit (Val h)
theorem HouseOk.rcp {dm : Nat} {h : House} {beta : Nat → Nat} (H : HouseOk dm h beta) : ∀ p ∈ h.recs, Nm p.1 ∧ p.2.Wn ∧ p.2.dep ≤ dm := H.n.rcp
def emptyS : RkS := ⟨[], [], []⟩
structure RkOk (h : House) (beta : Nat → Nat) (s : RkS) : Prop where
  nd : (s.asked ++ s.read.map (·.1)).Nodup
  sub : ∀ t ∈ s.asked ++ s.read.map (·.1), t ∈ h.recs.map (·.1)
  val : ∀ p ∈ s.known, Nm p.1 ∧ Val h p.1 p.2
  rds : ∀ p ∈ s.read, ∀ q ∈ p.2, Nm q.1
  kn : ∀ t ∈ s.read.map (·.1), t ∈ s.known.map (·.1)
  kd : (s.known.map (·.1)).Nodup
  ks : ∀ t ∈ s.known.map (·.1), t ∈ h.given.map (·.1) ++ h.recs.map (·.1)
theorem RkOk.len {h : House} {beta : Nat → Nat} {s : RkS} (o : RkOk h beta s) : s.asked.length + s.read.length ≤ h.recs.length := by
  have := sub_lenR o.nd o.sub
  rw [List.length_append, List.length_map, List.length_map] at this
  exact this
theorem RkOk.klen {h : House} {beta : Nat → Nat} {s : RkS} (o : RkOk h beta s) : s.known.length ≤ h.given.length + h.recs.length := by
  have := sub_lenR o.kd o.ks
  rw [List.length_append, List.length_map, List.length_map, List.length_map] at this
  exact this
/-- what one look for t does to a state -/
structure Step (h : House) (beta : Nat → Nat) (s : RkS) (t : List Nat) (v : Int) (s' : RkS) : Prop where
  ok : RkOk h beta s'
  mono : ∀ u ∈ s.known.map (·.1), u ∈ s'.known.map (·.1)
  got : t ∈ s'.known.map (·.1)
  asked : s'.asked = s.asked
  le : s.read.length ≤ s'.read.length
  worth : Val h t v
/-- what a recipe has read so far -/
structure OwnOk (beta : Nat → Nat) (s : RkS) (own : List Pr) : Prop where
  nd : (own.map (·.1)).Nodup
  kn : ∀ u ∈ own.map (·.1), u ∈ s.known.map (·.1)
  sm : ∀ q ∈ own, Nm q.1
theorem OwnOk.nil (beta : Nat → Nat) (s : RkS) : OwnOk beta s [] := ⟨List.nodup_nil, (fun _ h => nomatch h), fun _ h => nomatch h⟩
theorem OwnOk.len {h : House} {beta : Nat → Nat} {s : RkS} {own : List Pr} (o : OwnOk beta s own) (k : RkOk h beta s) : own.length ≤ h.given.length + h.recs.length := by
  have := sub_lenR o.nd o.kn
  rw [List.length_map, List.length_map] at this
  exact Nat.le_trans this k.klen
theorem seen_at {l : List Pr} (nd : (l.map (·.1)).Nodup) {i : Nat} {p : Pr} (h : l[i]? = some p) : seen l p.1 = some p.2 := by
  induction l generalizing i with
  | nil => simp at h
  | cons a l ih =>
    obtain ⟨n1, n2⟩ := List.nodup_cons.mp nd
    rw [seen_cons]
    cases i with
    | zero =>
      have : a = p := by simpa using h
      rw [if_pos (by rw [this]), this]
    | succ i =>
      have h' : l[i]? = some p := by simpa using h
      rw [if_neg (fun e => n1 (by show a.1 ∈ _; rw [e]; exact List.mem_map.mpr ⟨p, List.mem_of_getElem? h', rfl⟩)), ih n2 h']
theorem OwnOk.seen_at {beta : Nat → Nat} {s : RkS} {own : List Pr} (o : OwnOk beta s own) {i : Nat} {p : Pr} (h : own[i]? = some p) : seen own p.1 = some p.2 := Mad.seen_at o.nd h
theorem OwnOk.look {h : House} {beta : Nat → Nat} {s s' : RkS} {own : List Pr} {t : List Nat} {v : Int} (o : OwnOk beta s own) (ht : Nm t) (st : Step h beta s t v s') : OwnOk beta s' (setd own t v) := by
  have old : OwnOk beta s' own := ⟨o.nd, fun u hu => st.mono u (o.kn u hu), o.sm⟩
  unfold setd
  split
  · exact old
  · refine ⟨putA_nd old.nd, fun u hu => ?_, fun q hq => ?_⟩
    · rcases putA_mem.mp hu with hu | rfl
      · exact old.kn u hu
      · exact st.got
    · rcases mem_putA hq with rfl | hq
      · exact ht
      · exact old.sm q hq
theorem wk_step {h : House} {beta : Nat → Nat} {lk : RkS → List Nat → OutR RkS} {A : List (List Nat)} (hlk : ∀ s t v s', RkOk h beta s → s.asked = A → Nm t → lk s t = .ok v s' → Step h beta s t v s') :
    ∀ {r : Rcp} {p p' : RkS × List Pr} {v : Int}, r.Wn → RkOk h beta p.1 → p.1.asked = A → OwnOk beta p.1 p.2 → wk (lkOwn lk) r p = .ok v p' →
      RkOk h beta p'.1 ∧ p'.1.asked = A ∧ (p.1.read.length ≤ p'.1.read.length ∧ ∀ u ∈ p.1.known.map (·.1), u ∈ p'.1.known.map (·.1)) ∧ OwnOk beta p'.1 p'.2 ∧ r.Ev (Val h) v := by
  have look : ∀ {t : List Nat} {p p' : RkS × List Pr} {v : Int}, Nm t → RkOk h beta p.1 → p.1.asked = A → OwnOk beta p.1 p.2 → lkOwn lk p t = .ok v p' →
      RkOk h beta p'.1 ∧ p'.1.asked = A ∧ (p.1.read.length ≤ p'.1.read.length ∧ ∀ u ∈ p.1.known.map (·.1), u ∈ p'.1.known.map (·.1)) ∧ OwnOk beta p'.1 p'.2 ∧ Val h t v := by
    intro t p p' v ht ho ha hq e
    unfold lkOwn at e
    cases e1 : lk p.1 t with
    | err x => rw [e1] at e; cases e
    | ok w s =>
      rw [e1] at e
      cases e
      have st := hlk p.1 t v s ho ha ht e1
      exact ⟨st.ok, st.asked.trans ha, ⟨st.le, st.mono⟩, hq.look ht st, st.worth⟩
  intro r
  induction r with
  | num n =>
    intro p p' v _ ho ha hq e
    cases e
    exact ⟨ho, ha, ⟨Nat.le_refl _, fun _ h => h⟩, hq, rfl⟩
  | read t => exact fun hw ho ha hq e => look hw ho ha hq e
  | two k x y ix iy =>
    intro p p' v hw ho ha hq e
    obtain ⟨a, p1, h1, h2⟩ := OutR.bind_ok e
    obtain ⟨c, p2, h3, h4⟩ := OutR.bind_ok h2
    cases h4
    obtain ⟨o1, a1, l1, q1, b1⟩ := ix hw.1 ho ha hq h1
    obtain ⟨o2, a2, l2, q2, b2⟩ := iy hw.2 o1 a1 q1 h3
    exact ⟨o2, a2, ⟨Nat.le_trans l1.1 l2.1, fun u hu => l2.2 u (l1.2 u hu)⟩, q2, a, c, b1, b2, rfl⟩
  | pick x y z ix iy iz =>
    intro p p' v hw ho ha hq e
    obtain ⟨a, p1, h1, h2⟩ := OutR.bind_ok e
    obtain ⟨o1, a1, l1, q1, b1⟩ := ix hw.1 ho ha hq h1
    by_cases c : a > 0
    · simp only [if_pos c] at h2
      obtain ⟨o2, a2, l2, q2, b2⟩ := iy hw.2.1 o1 a1 q1 h2
      exact ⟨o2, a2, ⟨Nat.le_trans l1.1 l2.1, fun u hu => l2.2 u (l1.2 u hu)⟩, q2, a, b1, fun _ => b2, fun n => absurd c n⟩
    · simp only [if_neg c] at h2
      obtain ⟨o2, a2, l2, q2, b2⟩ := iz hw.2.2 o1 a1 q1 h2
      exact ⟨o2, a2, ⟨Nat.le_trans l1.1 l2.1, fun u hu => l2.2 u (l1.2 u hu)⟩, q2, a, b1, fun n => absurd n c, fun _ => b2⟩
  | choose x ns ix =>
    intro p p' v hw ho ha hq e
    obtain ⟨a, p1, h1, h2⟩ := OutR.bind_ok e
    obtain ⟨o1, a1, l1, q1, b1⟩ := ix hw.1 ho ha hq h1
    obtain ⟨i, _, hi⟩ := nth_mem hw.2.1 a
    obtain ⟨o2, a2, l2, q2, b2⟩ := look (hw.2.2.2 _ (List.mem_of_getElem? hi)) o1 a1 q1 h2
    exact ⟨o2, a2, ⟨Nat.le_trans l1.1 l2.1, fun u hu => l2.2 u (l1.2 u hu)⟩, q2, a, b1, b2⟩
theorem RkOk.ask {h : House} {beta : Nat → Nat} {s : RkS} (ho : RkOk h beta s) {t : List Nat} {r : Rcp} (e3 : rcpOf h.recs t = some r) (e1 : seen s.known t = none) (c : ¬ t ∈ s.asked) : RkOk h beta { s with asked := s.asked ++ [t] } ∧ ¬ t ∈ s.read.map (·.1) := by
  have ct : ¬ t ∈ s.read.map (·.1) := fun z => seen_none e1 (ho.kn t z)
  refine ⟨⟨?_, fun u hu => ?_, ho.val, ho.rds, ho.kn, ho.kd, ho.ks⟩, ct⟩
  · show ((s.asked ++ [t]) ++ s.read.map (·.1)).Nodup
    have : ((s.asked ++ [t]) ++ s.read.map (·.1)).Perm (t :: (s.asked ++ s.read.map (·.1))) := by
      rw [List.append_assoc]
      exact List.perm_middle
    exact this.nodup_iff.mpr (List.nodup_cons.mpr ⟨fun z => (List.mem_append.mp z).elim c ct, ho.nd⟩)
  · have hu : u ∈ (s.asked ++ [t]) ++ s.read.map (·.1) := hu
    rcases List.mem_append.mp hu with hu | hu
    · rcases List.mem_append.mp hu with hu | hu
      · exact ho.sub u (List.mem_append_left _ hu)
      · rw [List.mem_singleton.mp hu]
        exact List.mem_map.mpr ⟨_, rcpOf_mem e3, rfl⟩
    · exact ho.sub u (List.mem_append_right _ hu)
/-- behind the work of t: it is settled -/
theorem RkOk.done {dm : Nat} {h : House} {beta : Nat → Nat} (H : HouseN dm h beta) {A : List (List Nat)} {s : RkS} (ho : RkOk h beta s) {t : List Nat} {r : Rcp} {own : List Pr} {v : Int} (e3 : rcpOf h.recs t = some r) (ha : s.asked = A ++ [t]) (hq : OwnOk beta s own) (e2 : seen h.given t = none) (hv : r.Ev (Val h) v) :
    (putA s.read t own).length = s.read.length + 1 ∧ RkOk h beta ⟨putA s.known t v, putA s.read t own, s.asked.dropLast⟩ ∧ Val h t v := by
  have hmem := rcpOf_mem e3
  have nd := ho.nd
  rw [ha] at nd
  have ct : ¬ t ∈ s.read.map (·.1) := fun z => (List.nodup_append.mp nd).2.2 t (List.mem_append_right _ (List.mem_singleton.mpr rfl)) t z rfl
  have hl : (putA s.read t own).length = s.read.length + 1 := by rw [putA_len, if_neg ct]
  have hv2 : Val h t v := .work_ev e2 e3 hv
  refine ⟨hl, ⟨?_, fun u hu => ?_, fun p hp => ?_, fun p hp q hq' => ?_, fun u hu => ?_, putA_nd ho.kd, fun u hu => ?_⟩, hv2⟩
  · show (s.asked.dropLast ++ (putA s.read t own).map (·.1)).Nodup
    rw [ha, List.dropLast_concat, putA_keys, if_neg ct, ← List.append_assoc]
    have : ((A ++ s.read.map (·.1)) ++ [t]).Perm ((A ++ [t]) ++ s.read.map (·.1)) := by
      rw [List.append_assoc, List.append_assoc]
      exact List.Perm.append_left _ List.perm_append_comm
    exact this.nodup_iff.mpr nd
  · have hu : u ∈ s.asked.dropLast ++ (putA s.read t own).map (·.1) := hu
    rw [ha, List.dropLast_concat, putA_keys, if_neg ct] at hu
    have sub := ho.sub
    rw [ha] at sub
    rcases List.mem_append.mp hu with hu | hu
    · exact sub u (List.mem_append_left _ (List.mem_append_left _ hu))
    · rcases List.mem_append.mp hu with hu | hu
      · exact sub u (List.mem_append_right _ hu)
      · exact sub u (List.mem_append_left _ (List.mem_append_right _ hu))
  · rcases mem_putA hp with rfl | hp
    · exact ⟨(H.rcp _ hmem).1, hv2⟩
    · exact ho.val p hp
  · rcases mem_putA hp with rfl | hp
    · exact hq.sm q hq'
    · exact ho.rds p hp q hq'
  · have hu : u ∈ (putA s.read t own).map (·.1) := hu
    show u ∈ (putA s.known t v).map (·.1)
    rcases putA_mem.mp hu with hu | hu
    · exact putA_mem.mpr (.inl (ho.kn u hu))
    · exact putA_mem.mpr (.inr hu)
  · rcases putA_mem.mp hu with hu | rfl
    · exact ho.ks u hu
    · exact List.mem_append_right _ (List.mem_map.mpr ⟨_, hmem, rfl⟩)
theorem lkR_step {dm : Nat} {h : House} {beta : Nat → Nat} (H : HouseN dm h beta) : ∀ (n : Nat) (s : RkS) (t : List Nat) (v : Int) (s' : RkS), RkOk h beta s → Nm t → lkR h n s t = .ok v s' → Step h beta s t v s'
  | 0, s, t, v, s', _, _, e => by cases e
  | n + 1, s, t, v, s', ho, ht, e => by
    unfold lkR at e
    cases e1 : seen s.known t with
    | some x =>
      rw [e1] at e
      cases e
      exact ⟨ho, fun _ h => h, List.mem_map.mpr ⟨_, seen_mem e1, rfl⟩, rfl, Nat.le_refl _, (ho.val _ (seen_mem e1)).2⟩
    | none =>
      rw [e1] at e
      cases e2 : seen h.given t with
      | some x =>
        rw [e2] at e
        cases e
        have hx : Val h t v := .given e2
        refine ⟨⟨ho.nd, ho.sub, fun p hp => ?_, ho.rds, fun u hu => putA_mem.mpr (.inl (ho.kn u hu)), putA_nd ho.kd, fun u hu => ?_⟩, fun u hu => putA_mem.mpr (.inl hu), putA_mem.mpr (.inr rfl), rfl, Nat.le_refl _, hx⟩
        · rcases mem_putA hp with rfl | hp
          · exact ⟨ht, hx⟩
          · exact ho.val p hp
        · rcases putA_mem.mp hu with hu | rfl
          · exact ho.ks u hu
          · exact List.mem_append_left _ (List.mem_map.mpr ⟨_, seen_mem e2, rfl⟩)
      | none =>
        rw [e2] at e
        cases e3 : rcpOf h.recs t with
        | none => rw [e3] at e; cases e
        | some r =>
          rw [e3] at e
          by_cases c : t ∈ s.asked
          · simp only [if_pos c] at e
            cases e
          · simp only [if_neg c] at e
            cases e4 : wk (lkOwn (lkR h n)) r ({ s with asked := s.asked ++ [t] }, []) with
            | err x => rw [e4] at e; cases e
            | ok w p =>
              rw [e4] at e
              cases e
              obtain ⟨ho1, ct⟩ := ho.ask e3 e1 c
              obtain ⟨o2, a2, l2, q2, b2⟩ := wk_step (A := s.asked ++ [t]) (fun s t v s' o _ ht e => lkR_step H n s t v s' o ht e) (H.rcp _ (rcpOf_mem e3)).2.1 (p := ({ s with asked := s.asked ++ [t] }, [])) ho1 rfl (OwnOk.nil _ _) e4
              obtain ⟨d1, d2, d3⟩ := o2.done H e3 a2 q2 e2 b2
              refine ⟨d2, fun u hu => putA_mem.mpr (.inl (l2.2 u hu)), putA_mem.mpr (.inr rfl), ?_, ?_, d3⟩
              · show p.1.asked.dropLast = s.asked
                rw [a2, List.dropLast_concat]
              · show s.read.length ≤ (putA p.1.read t p.2).length
                rw [d1]
                exact Nat.le_succ_of_le l2.1
theorem emptyOk (h : House) (beta : Nat → Nat) : RkOk h beta emptyS := ⟨List.nodup_nil, (fun _ h => nomatch h), (fun _ h => nomatch h), (fun _ h => nomatch h), (fun _ h => nomatch h), List.nodup_nil, fun _ h => nomatch h⟩
/-! ### what the reckoner knows is so; houses whose worths are not too great -/
/-! #### what the reckoner knows is so -/
structure Coh (h : House) (s : RkS) : Prop where
  kn : ∀ p ∈ s.known, Val h p.1 p.2
  rd : ∀ p ∈ s.read, Rds h p.1 p.2
  kr : ∀ u ∈ s.known.map (·.1), u ∈ h.given.map (·.1) ∨ u ∈ s.read.map (·.1)
theorem Coh.empty (h : House) : Coh h emptyS := ⟨(fun _ h => nomatch h), (fun _ h => nomatch h), fun _ h => nomatch h⟩
theorem lkOwn_ok {lk : RkS → List Nat → OutR RkS} {p p' : RkS × List Pr} {t : List Nat} {v : Int} (e : lkOwn lk p t = .ok v p') : lk p.1 t = .ok v p'.1 ∧ p'.2 = setd p.2 t v := by
  unfold lkOwn at e
  cases e1 : lk p.1 t with
  | err x => rw [e1] at e; cases e
  | ok w s => rw [e1] at e; cases e; exact ⟨rfl, rfl⟩
theorem wk_sound {h : House} {lk : RkS → List Nat → OutR RkS} (hlk : ∀ s t v s', Coh h s → lk s t = .ok v s' → Val h t v ∧ Coh h s') :
    ∀ {r : Rcp} {p p' : RkS × List Pr} {v : Int}, Coh h p.1 → wk (lkOwn lk) r p = .ok v p' → Coh h p'.1 ∧ ∃ m, wk (dnL (val h m)) r p.2 = .ok v p'.2 := by
  have look : ∀ {t : List Nat} {p p' : RkS × List Pr} {v : Int}, Coh h p.1 → lkOwn lk p t = .ok v p' → Coh h p'.1 ∧ ∃ m, dnL (val h m) p.2 t = .ok v p'.2 := by
    intro t p p' v c e
    obtain ⟨e1, e2⟩ := lkOwn_ok e
    obtain ⟨⟨m, hm⟩, c'⟩ := hlk _ _ _ _ c e1
    exact ⟨c', m, by rw [e2]; exact dnL_some hm _⟩
  have two : ∀ {r1 : Rcp} {o o1 : List Pr} {x : Int} {m k : Nat}, wk (dnL (val h m)) r1 o = .ok x o1 → m ≤ k → wk (dnL (val h k)) r1 o = .ok x o1 := fun e le => wk_mono (fun _ _ e => val_le le e) e
  intro r
  induction r with
  | num n => intro p p' v c e; cases e; exact ⟨c, 0, rfl⟩
  | read t => exact fun c e => look c e
  | two k a b ia ib =>
    intro p p' v c e
    obtain ⟨x, o1, h1, h2⟩ := OutR.bind_ok e
    obtain ⟨y, o2, h3, h4⟩ := OutR.bind_ok h2
    cases h4
    obtain ⟨c1, m1, g1⟩ := ia c h1
    obtain ⟨c2, m2, g2⟩ := ib c1 h3
    refine ⟨c2, max m1 m2, ?_⟩
    show (wk (dnL _) a p.2).bind _ = _
    rw [bind_okI (two g1 (Nat.le_max_left _ _)), bind_okI (two g2 (Nat.le_max_right _ _))]
  | pick a b d ia ib id =>
    intro p p' v c e
    obtain ⟨x, o1, h1, h2⟩ := OutR.bind_ok e
    obtain ⟨c1, m1, g1⟩ := ia c h1
    by_cases z : x > 0
    · simp only [if_pos z] at h2
      obtain ⟨c2, m2, g2⟩ := ib c1 h2
      refine ⟨c2, max m1 m2, ?_⟩
      show (wk (dnL _) a p.2).bind _ = _
      rw [bind_okI (two g1 (Nat.le_max_left _ _)), if_pos z, two g2 (Nat.le_max_right _ _)]
    · simp only [if_neg z] at h2
      obtain ⟨c2, m2, g2⟩ := id c1 h2
      refine ⟨c2, max m1 m2, ?_⟩
      show (wk (dnL _) a p.2).bind _ = _
      rw [bind_okI (two g1 (Nat.le_max_left _ _)), if_neg z, two g2 (Nat.le_max_right _ _)]
  | choose a ns ia =>
    intro p p' v c e
    obtain ⟨x, o1, h1, h2⟩ := OutR.bind_ok e
    obtain ⟨c1, m1, g1⟩ := ia c h1
    obtain ⟨c2, m2, g2⟩ := look c1 h2
    obtain ⟨g3, g4⟩ := dnL_ok g2
    refine ⟨c2, max m1 m2, ?_⟩
    show (wk (dnL _) a p.2).bind _ = _
    rw [bind_okI (two g1 (Nat.le_max_left _ _)), g4]
    exact dnL_some (val_le (Nat.le_max_right _ _) g3) _
theorem lkR_sound {h : House} : ∀ (n : Nat) (s : RkS) (t : List Nat) (v : Int) (s' : RkS), Coh h s → lkR h n s t = .ok v s' → Val h t v ∧ Coh h s'
  | 0, s, t, v, s', _, e => by cases e
  | n + 1, s, t, v, s', c, e => by
    unfold lkR at e
    cases e1 : seen s.known t with
    | some x =>
      rw [e1] at e
      cases e
      exact ⟨c.kn _ (seen_mem e1), c⟩
    | none =>
      rw [e1] at e
      cases e2 : seen h.given t with
      | some x =>
        rw [e2] at e
        cases e
        refine ⟨.given e2, ⟨fun p hp => ?_, c.rd, fun u hu => ?_⟩⟩
        · rcases mem_putA hp with rfl | hp
          · exact .given e2
          · exact c.kn p hp
        · rcases putA_mem.mp hu with hu | rfl
          · exact c.kr u hu
          · exact .inl (seen_key e2)
      | none =>
        rw [e2] at e
        cases e3 : rcpOf h.recs t with
        | none => rw [e3] at e; cases e
        | some r =>
          rw [e3] at e
          by_cases z : t ∈ s.asked
          · simp only [if_pos z] at e
            cases e
          · simp only [if_neg z] at e
            cases e4 : wk (lkOwn (lkR h n)) r ({ s with asked := s.asked ++ [t] }, []) with
            | err x => rw [e4] at e; cases e
            | ok w p =>
              rw [e4] at e
              cases e
              have c0 : Coh h { s with asked := s.asked ++ [t] } := ⟨c.kn, c.rd, c.kr⟩
              obtain ⟨c1, m, g⟩ := wk_sound (fun s t v s' => lkR_sound n s t v s') (p := ({ s with asked := s.asked ++ [t] }, [])) c0 e4
              have vt : Val h t v := .work e2 e3 g
              refine ⟨vt, ⟨fun q hq => ?_, fun q hq => ?_, fun u hu => ?_⟩⟩
              · rcases mem_putA hq with rfl | hq
                · exact vt
                · exact c1.kn q hq
              · rcases mem_putA hq with rfl | hq
                · exact ⟨e2, r, m, v, e3, g⟩
                · exact c1.rd q hq
              · rcases putA_mem.mp hu with hu | rfl
                · exact (c1.kr u hu).imp id fun h => putA_mem.mpr (.inl h)
                · exact .inr (putA_mem.mpr (.inr rfl))
/-! #### what has a worth is told -/
theorem wk_total {h : House} {beta : Nat → Nat} {lk : RkS → List Nat → OutR RkS} {k : Nat} {A : List (List Nat)} (hlk : ∀ s t v, RkOk h beta s → Coh h s → s.asked = A → Nm t → val h k t = some v → ∃ s', lk s t = .ok v s' ∧ RkOk h beta s' ∧ Coh h s' ∧ s'.asked = A) :
    ∀ {r : Rcp} {p : RkS × List Pr} {v : Int} {o' : List Pr}, r.Wn → RkOk h beta p.1 → Coh h p.1 → p.1.asked = A → wk (dnL (val h k)) r p.2 = .ok v o' → ∃ s', wk (lkOwn lk) r p = .ok v (s', o') ∧ RkOk h beta s' ∧ Coh h s' ∧ s'.asked = A := by
  have look : ∀ {t : List Nat} {p : RkS × List Pr} {v : Int} {o' : List Pr}, Nm t → RkOk h beta p.1 → Coh h p.1 → p.1.asked = A → dnL (val h k) p.2 t = .ok v o' → ∃ s', lkOwn lk p t = .ok v (s', o') ∧ RkOk h beta s' ∧ Coh h s' ∧ s'.asked = A := by
    intro t p v o' ht o c a e
    obtain ⟨e1, rfl⟩ := dnL_ok e
    obtain ⟨s', g, r1⟩ := hlk _ t v o c a ht e1
    exact ⟨s', by unfold lkOwn; rw [g], r1⟩
  intro r
  induction r with
  | num n => intro p v o' _ o c a e; cases e; exact ⟨p.1, rfl, o, c, a⟩
  | read t => exact fun w o c a e => look w o c a e
  | two kd a b ia ib =>
    intro p v o' w o c ha e
    obtain ⟨x, o1, h1, h2⟩ := OutR.bind_ok e
    obtain ⟨y, o2, h3, h4⟩ := OutR.bind_ok h2
    cases h4
    obtain ⟨s1, g1, q1, c1, a1⟩ := ia w.1 o c ha h1
    obtain ⟨s2, g2, q2, c2, a2⟩ := ib (p := (s1, o1)) w.2 q1 c1 a1 h3
    refine ⟨s2, ?_, q2, c2, a2⟩
    show (wk (lkOwn lk) a p).bind _ = _
    rw [bind_okI g1, bind_okI g2]
  | pick a b d ia ib id =>
    intro p v o' w o c ha e
    obtain ⟨x, o1, h1, h2⟩ := OutR.bind_ok e
    obtain ⟨s1, g1, q1, c1, a1⟩ := ia w.1 o c ha h1
    by_cases z : x > 0
    · simp only [if_pos z] at h2
      obtain ⟨s2, g2, q2, c2, a2⟩ := ib (p := (s1, o1)) w.2.1 q1 c1 a1 h2
      refine ⟨s2, ?_, q2, c2, a2⟩
      show (wk (lkOwn lk) a p).bind _ = _
      rw [bind_okI g1, if_pos z, g2]
    · simp only [if_neg z] at h2
      obtain ⟨s2, g2, q2, c2, a2⟩ := id (p := (s1, o1)) w.2.2 q1 c1 a1 h2
      refine ⟨s2, ?_, q2, c2, a2⟩
      show (wk (lkOwn lk) a p).bind _ = _
      rw [bind_okI g1, if_neg z, g2]
  | choose a ns ia =>
    intro p v o' w o c ha e
    obtain ⟨x, o1, h1, h2⟩ := OutR.bind_ok e
    obtain ⟨s1, g1, q1, c1, a1⟩ := ia w.1 o c ha h1
    obtain ⟨i, _, hi⟩ := nth_mem w.2.1 x
    obtain ⟨s2, g2, q2, c2, a2⟩ := look (p := (s1, o1)) (w.2.2.2 _ (List.mem_of_getElem? hi)) q1 c1 a1 h2
    refine ⟨s2, ?_, q2, c2, a2⟩
    show (wk (lkOwn lk) a p).bind _ = _
    rw [bind_okI g1, g2]
/-- the least depth at which a worth is found -/
theorem val_least {h : House} {t : List Nat} {v : Int} : ∀ {m : Nat}, val h m t = some v → ∃ k, k + 1 ≤ m ∧ val h (k + 1) t = some v ∧ val h k t = none
  | 0, e => by cases e
  | m + 1, e => by
    cases e1 : val h m t with
    | none => exact ⟨m, Nat.le_refl _, e, e1⟩
    | some w =>
      obtain rfl : w = v := Option.some.inj ((val_mono e1).symm.trans e)
      obtain ⟨k, h1, h2⟩ := val_least e1
      exact ⟨k, by omega, h2⟩
theorem val_none_le {h : House} {t : List Nat} {k m : Nat} (le : k ≤ m) (e : val h m t = none) : val h k t = none := by
  cases e1 : val h k t with
  | none => rfl
  | some v => rw [val_le le e1] at e; cases e
theorem lkR_total {dm : Nat} {h : House} {beta : Nat → Nat} (HH : HouseN dm h beta) : ∀ (n : Nat) (s : RkS) (t : List Nat) (m : Nat) (v : Int), RkOk h beta s → Coh h s → Nm t → val h m t = some v → (∀ a ∈ s.asked, val h m a = none) → h.recs.length + 1 ≤ s.asked.length + n → ∃ s', lkR h n s t = .ok v s'
  | 0, s, t, m, v, o, c, ht, e, ha, hn => by
    have := o.len
    omega
  | n + 1, s, t, m, v, o, c, ht, e, ha, hn => by
    obtain ⟨k, hk, ek, nk⟩ := val_least e
    unfold lkR
    cases e1 : seen s.known t with
    | some x =>
      obtain rfl : x = v := (c.kn _ (seen_mem e1)).det ⟨m, e⟩
      exact ⟨s, rfl⟩
    | none =>
      have ek' := ek
      rw [val_succ] at ek'
      cases e2 : seen h.given t with
      | some x =>
        rw [e2] at ek'
        cases ek'
        exact ⟨_, rfl⟩
      | none =>
        rw [e2] at ek'
        cases e3 : rcpOf h.recs t with
        | none => rw [e3] at ek'; cases ek'
        | some r =>
          rw [e3] at ek'
          have z : ¬ t ∈ s.asked := fun z => by rw [ha t z] at e; cases e
          simp only [if_neg z]
          cases e4 : wk (dnL (val h k)) r [] with
          | err x => simp only [e4] at ek'; cases ek'
          | ok w own =>
            simp only [e4] at ek'
            cases ek'
            obtain ⟨o1, ct⟩ := o.ask e3 e1 z
            have c0 : Coh h { s with asked := s.asked ++ [t] } := ⟨c.kn, c.rd, c.kr⟩
            have wn := (HH.rcp _ (rcpOf_mem e3)).2.1
            obtain ⟨s2, g2, _⟩ := wk_total (lk := lkR h n) (k := k) (A := s.asked ++ [t]) (beta := beta) (fun s1 u x q1 d1 a1 hu eu => by
              obtain ⟨s', g⟩ := lkR_total HH n s1 u k x q1 d1 hu eu (fun a hm => by
                rw [a1] at hm
                rcases List.mem_append.mp hm with hm | hm
                · exact val_none_le (by omega) (ha a hm)
                · rw [List.mem_singleton.mp hm]; exact nk) (by rw [a1, List.length_append]; simp only [List.length_cons, List.length_nil]; omega)
              have st := lkR_step HH n s1 u x s' q1 hu g
              exact ⟨s', g, st.ok, (lkR_sound n s1 u x s' d1 g).2, st.asked.trans a1⟩) (p := ({ s with asked := s.asked ++ [t] }, [])) wn o1 c0 rfl e4
            rw [g2]
            exact ⟨_, rfl⟩
/-! #### houses whose worths grow by how many are worked -/
structure HouseB (dm : Nat) (h : House) (beta : Nat → Nat) : Prop where
  rcp : ∀ p ∈ h.recs, Nm p.1 ∧ p.2.Wn ∧ p.2.dep ≤ dm ∧ ∀ c, c + 1 ≤ h.recs.length → p.2.bits (beta c) ≤ beta (c + 1)
  gvn : ∀ p ∈ h.given, Nm p.1 ∧ p.2.natAbs < 2 ^ beta 0
  mono : ∀ c d, c ≤ d → beta c ≤ beta d
  pos : 0 < beta 0
  top : ∀ p ∈ h.recs, p.2.bits (beta h.recs.length) ≤ 1000000
structure RkB (beta : Nat → Nat) (s : RkS) : Prop where
  val : ∀ p ∈ s.known, p.2.natAbs < 2 ^ beta s.read.length
theorem HouseB.n {dm : Nat} {h : House} {beta : Nat → Nat} (H : HouseB dm h beta) : HouseN dm h beta := ⟨fun p hp => ⟨(H.rcp p hp).1, (H.rcp p hp).2.1, (H.rcp p hp).2.2.1⟩, fun p hp => (H.gvn p hp).1⟩
theorem wk_stepB {dm : Nat} {h : House} {beta : Nat → Nat} (H : HouseB dm h beta) {lk : RkS → List Nat → OutR RkS} {A : List (List Nat)} (hlk : ∀ s t v s', RkOk h beta s → RkB beta s → s.asked = A → Nm t → lk s t = .ok v s' → Step h beta s t v s' ∧ RkB beta s' ∧ v.natAbs < 2 ^ beta s'.read.length) :
    ∀ {r : Rcp} {p p' : RkS × List Pr} {v : Int}, r.Wn → RkOk h beta p.1 → RkB beta p.1 → p.1.asked = A → wk (lkOwn lk) r p = .ok v p' →
      RkOk h beta p'.1 ∧ RkB beta p'.1 ∧ p'.1.asked = A ∧ p.1.read.length ≤ p'.1.read.length ∧ v.natAbs < 2 ^ r.bits (beta p'.1.read.length) := by
  have look : ∀ {t : List Nat} {p p' : RkS × List Pr} {v : Int}, Nm t → RkOk h beta p.1 → RkB beta p.1 → p.1.asked = A → lkOwn lk p t = .ok v p' →
      RkOk h beta p'.1 ∧ RkB beta p'.1 ∧ p'.1.asked = A ∧ p.1.read.length ≤ p'.1.read.length ∧ v.natAbs < 2 ^ beta p'.1.read.length := by
    intro t p p' v ht ho hb ha e
    obtain ⟨e1, _⟩ := lkOwn_ok e
    obtain ⟨st, b, sm⟩ := hlk _ _ _ _ ho hb ha ht e1
    exact ⟨st.ok, b, st.asked.trans ha, st.le, sm⟩
  intro r
  induction r with
  | num n =>
    intro p p' v _ ho hb ha e
    cases e
    exact ⟨ho, hb, ha, Nat.le_refl _, Nat.lt_log2_self⟩
  | read t => exact fun hw ho hb ha e => look hw ho hb ha e
  | two k x y ix iy =>
    intro p p' v hw ho hb ha e
    obtain ⟨a, p1, h1, h2⟩ := OutR.bind_ok e
    obtain ⟨c, p2, h3, h4⟩ := OutR.bind_ok h2
    cases h4
    obtain ⟨o1, q1, a1, l1, b1⟩ := ix hw.1 ho hb ha h1
    obtain ⟨o2, q2, a2, l2, b2⟩ := iy hw.2 o1 q1 a1 h3
    exact ⟨o2, q2, a2, Nat.le_trans l1 l2, ap_bits (pow_mono b1 (bits_mono (H.mono _ _ l2) x)) b2⟩
  | pick x y z ix iy iz =>
    intro p p' v hw ho hb ha e
    obtain ⟨a, p1, h1, h2⟩ := OutR.bind_ok e
    obtain ⟨o1, q1, a1, l1, b1⟩ := ix hw.1 ho hb ha h1
    by_cases c : a > 0
    · simp only [if_pos c] at h2
      obtain ⟨o2, q2, a2, l2, b2⟩ := iy hw.2.1 o1 q1 a1 h2
      exact ⟨o2, q2, a2, Nat.le_trans l1 l2, pow_mono b2 (by simp only [Rcp.bits]; omega)⟩
    · simp only [if_neg c] at h2
      obtain ⟨o2, q2, a2, l2, b2⟩ := iz hw.2.2 o1 q1 a1 h2
      exact ⟨o2, q2, a2, Nat.le_trans l1 l2, pow_mono b2 (by simp only [Rcp.bits]; omega)⟩
  | choose x ns ix =>
    intro p p' v hw ho hb ha e
    obtain ⟨a, p1, h1, h2⟩ := OutR.bind_ok e
    obtain ⟨o1, q1, a1, l1, b1⟩ := ix hw.1 ho hb ha h1
    obtain ⟨i, _, hi⟩ := nth_mem hw.2.1 a
    obtain ⟨o2, q2, a2, l2, b2⟩ := look (p := p1) (hw.2.2.2 _ (List.mem_of_getElem? hi)) o1 q1 a1 h2
    exact ⟨o2, q2, a2, Nat.le_trans l1 l2, pow_mono b2 (by simp only [Rcp.bits]; omega)⟩
theorem lkR_stepB {dm : Nat} {h : House} {beta : Nat → Nat} (H : HouseB dm h beta) : ∀ (n : Nat) (s : RkS) (t : List Nat) (v : Int) (s' : RkS), RkOk h beta s → RkB beta s → Nm t → lkR h n s t = .ok v s' → RkB beta s' ∧ v.natAbs < 2 ^ beta s'.read.length
  | 0, s, t, v, s', _, _, _, e => by cases e
  | n + 1, s, t, v, s', ho, hb, ht, e => by
    unfold lkR at e
    cases e1 : seen s.known t with
    | some x =>
      rw [e1] at e
      cases e
      exact ⟨hb, hb.val _ (seen_mem e1)⟩
    | none =>
      rw [e1] at e
      cases e2 : seen h.given t with
      | some x =>
        rw [e2] at e
        cases e
        have hx := pow_mono (H.gvn _ (seen_mem e2)).2 (H.mono _ _ (Nat.zero_le s.read.length))
        refine ⟨⟨fun p hp => ?_⟩, hx⟩
        rcases mem_putA hp with rfl | hp
        · exact hx
        · exact hb.val p hp
      | none =>
        rw [e2] at e
        cases e3 : rcpOf h.recs t with
        | none => rw [e3] at e; cases e
        | some r =>
          rw [e3] at e
          by_cases c : t ∈ s.asked
          · simp only [if_pos c] at e
            cases e
          · simp only [if_neg c] at e
            cases e4 : wk (lkOwn (lkR h n)) r ({ s with asked := s.asked ++ [t] }, []) with
            | err x => rw [e4] at e; cases e
            | ok w p =>
              rw [e4] at e
              cases e
              have hmem := rcpOf_mem e3
              obtain ⟨ho1, _⟩ := ho.ask e3 e1 c
              obtain ⟨o2, q2, a2, l2, b2⟩ := wk_stepB H (A := s.asked ++ [t]) (fun s t v s' o b _ ht e => ⟨lkR_step H.n n s t v s' o ht e, lkR_stepB H n s t v s' o b ht e⟩) (H.rcp _ hmem).2.1 (p := ({ s with asked := s.asked ++ [t] }, [])) ho1 ⟨hb.val⟩ rfl e4
              have nd := o2.nd
              rw [a2] at nd
              have ct : ¬ t ∈ p.1.read.map (·.1) := fun z => (List.nodup_append.mp nd).2.2 t (List.mem_append_right _ (List.mem_singleton.mpr rfl)) t z rfl
              have hl : (putA p.1.read t p.2).length = p.1.read.length + 1 := by rw [putA_len, if_neg ct]
              have hc : p.1.read.length + 1 ≤ h.recs.length := by
                have := o2.len
                rw [a2, List.length_append] at this
                simp only [List.length_cons, List.length_nil] at this
                omega
              have hv2 : v.natAbs < 2 ^ beta (p.1.read.length + 1) := pow_mono b2 ((H.rcp _ hmem).2.2.2 _ hc)
              refine ⟨⟨fun q hq => ?_⟩, by show v.natAbs < 2 ^ beta (putA p.1.read t p.2).length; rw [hl]; exact hv2⟩
              show q.2.natAbs < 2 ^ beta (putA p.1.read t p.2).length
              rw [hl]
              rcases mem_putA hq with rfl | hq
              · exact hv2
              · exact pow_mono (q2.val q hq) (H.mono _ _ (Nat.le_succ _))
theorem HouseB.small {dm : Nat} {h : House} {beta : Nat → Nat} (H : HouseB dm h beta) {t : List Nat} {v : Int} (ht : Nm t) (hv : Val h t v) : v.natAbs < 2 ^ beta h.recs.length := by
  obtain ⟨m, hm⟩ := hv
  obtain ⟨s, e⟩ := lkR_total H.n (h.recs.length + 1) emptyS t m v (emptyOk h beta) (Coh.empty h) ht hm (fun a ha => nomatch ha) (by show _ ≤ 0 + _; omega)
  have st := lkR_step H.n _ _ _ _ _ (emptyOk h beta) ht e
  have := st.ok.len
  exact pow_mono (lkR_stepB H _ _ _ _ _ (emptyOk h beta) ⟨fun _ h => nomatch h⟩ ht e).2 (H.mono _ _ (by omega))
theorem Rcp.Ev.nm {f : List Nat → Int → Prop} : ∀ {r : Rcp} {v : Int}, r.Wn → r.Ev f v → r.Ev (fun t x => Nm t ∧ f t x) v
  | .num _, v, _, h => h
  | .read _, v, w, h => ⟨w, h⟩
  | .two _ _ _, v, w, ⟨a, c, h1, h2, e⟩ => ⟨a, c, h1.nm w.1, h2.nm w.2, e⟩
  | .pick _ _ _, v, w, ⟨a, h1, h2, h3⟩ => ⟨a, h1.nm w.1, fun c => (h2 c).nm w.2.1, fun c => (h3 c).nm w.2.2⟩
  | .choose _ _, v, w, ⟨a, h1, h2⟩ => ⟨a, h1.nm w.1, by obtain ⟨i, _, hi⟩ := nth_mem w.2.1 a; exact w.2.2.2 _ (List.mem_of_getElem? hi), h2⟩
theorem Rcp.Fit.nm {f : List Nat → Int → Prop} : ∀ {r : Rcp}, r.Wn → r.Fit (fun t x => Nm t ∧ f t x) → r.Fit f
  | .num _, _, _ => trivial
  | .read _, _, _ => trivial
  | .two _ _ _, w, ⟨h1, h2⟩ => ⟨h1.nm w.1, fun a ha => ⟨(h2 a (ha.nm w.1)).1.nm w.2, fun c hc => (h2 a (ha.nm w.1)).2 c (hc.nm w.2)⟩⟩
  | .pick _ _ _, w, ⟨h1, h2⟩ => ⟨h1.nm w.1, fun a ha => ⟨fun c => ((h2 a (ha.nm w.1)).1 c).nm w.2.1, fun c => ((h2 a (ha.nm w.1)).2 c).nm w.2.2⟩⟩
  | .choose x _, w, h => Fit.nm (r := x) w.1 h
theorem HouseB.ok {dm : Nat} {h : House} {beta : Nat → Nat} (H : HouseB dm h beta) : HouseOk dm h beta := ⟨H.n, fun p hp _ => Rcp.Fit.nm (H.rcp p hp).2.1 (Rcp.Fit.of_bits (Nat.lt_of_lt_of_le H.pos (H.mono _ _ (Nat.zero_le _))) (fun t v ⟨ht, hv⟩ => H.small ht hv) (H.top p hp))⟩
/-! ### own errors with a field -/
theorem hu65 {k : Nat} {A : Around} (r : Room k A) : A.units + 65 < cLine := by have := r.un; omega
structure OwnX (K : PySem.W.Frag) (mg : Str → Option Value) (n f : Str) (C fI : Addr) : Prop where
  oex : OexC K C
  iC : PySem.W.findIn K (.ref C) "__init__" = some (some (.ref fI))
  tI : PySem.W.typeIn K (.ref fI) = some (.type "function")
  g : mg n = some (.ref C)
  no : PySem.W.findIn K (.ref C) f = some none
  xf : XfC K C
def spNNI (C : Addr) : Sp := fun vs H Q _ => ∃ (a : Addr) (v : V), vs = [.ref a, v] ∧ H a = some (exo a C none) ∧ ∀ dx, H dx = none → dx ≠ a → Q .non (upd (upd H dx (exd dx [(("name" : Str), v)])) a (exo a C (some dx)))
def spRgI (C : Addr) : Sp := fun vs H Q _ => ∃ (a L : Addr) (xs : List V), vs = [.ref a, .ref L] ∧ H a = some (exo a C none) ∧ H L = some (.lst xs) ∧ ∀ M dx, H M = none → M ≠ a → dx ≠ M → H dx = none → dx ≠ a →
  Q .non (upd (upd (upd H M (.lst xs)) dx (exd dx [(("ring" : Str), .ref M)])) a (exo a C (some dx)))
/-- what is due where an error of the reckoning flies -/
def ErK (CN CR : Addr) (x : XErr) (E : XK) (H : Hp) : Prop := match x with
  | .noName s => ∀ d G, Same H G → H d = none → G d = some (.xd [(("name" : Str), .str (SX.S s))]) → E (.ref CN) (some d) G
  | .ring l => ∀ d L G, Same H G → H d = none → H L = none → G d = some (.xd [(("ring" : Str), .ref L)]) → G L = some (.lst (txs l)) → E (.ref CR) (some d) G
theorem flown {H : Hp} {a dx : Addr} {u v w : HO} (h1 : H a = none) (h2 : H dx = none) : Same H (upd (del (upd (upd H dx u) a v) a) dx w) := fun b o e => by
  rw [upd_ne (ne_of_none e h2), del_ne (ne_of_none e h1), upd_ne (ne_of_none e h1), upd_ne (ne_of_none e h2)]
  exact e
section
variable {P : Program} {w : World} {K : PySem.W.Frag} {mg : Str → Option Value} {base : Heap} {C fI : Addr}
abbrev s_NoName___init__ : Stmt := inClass (topS 2) 0
abbrev N_NoName___init__ : List Str := ["self", "name"]
theorem sc_NoName___init__ : FnScope N_NoName___init__ ["self", "name"] (defScope s_NoName___init__) := ⟨rfl, rfl, rfl, by decide +kernel, rfl, by decide +kernel, by decide +kernel⟩

theorem ok_NoName_init (T : Txt K mg) (Z : OwnX K mg "NoName" "name" C fI) {fd : FuncData} (F : Fun K "__init__" "NoName.__init__" s_NoName___init__ fI fd) : FnOk P w K mg base CX0 1 fI fd ["self", "name"] (spNNI C) := by
  refine F.ok sc_NoName___init__ (fun vs H Q E h => ?_) (fun cdv A outer s H vs Q E hr h => ?_)
  · obtain ⟨a, v, rfl, _⟩ := h
    rfl
  obtain ⟨a, v, rfl, ha, q⟩ := h
  refine ⟨_, (pss_one (ps_ost (pv 0) (pv 1))), ?_⟩
  exact ⟨_, rfl, _, rfl, a, C, rfl, Z.oex, Z.no, .inl ⟨ha, fun dx n ne => q dx n ne⟩⟩
abbrev s_Ring___init__ : Stmt := inClass (topS 3) 0
abbrev N_Ring___init__ : List Str := ["self", "ring"]
theorem sc_Ring___init__ : FnScope N_Ring___init__ ["self", "ring"] (defScope s_Ring___init__) := ⟨rfl, rfl, rfl, by decide +kernel, rfl, by decide +kernel, by decide +kernel⟩

theorem ok_Ring_init (T : Txt K mg) (Z : OwnX K mg "Ring" "ring" C fI) {fd : FuncData} (F : Fun K "__init__" "Ring.__init__" s_Ring___init__ fI fd) : FnOk P w K mg base CX0 1 fI fd ["self", "ring"] (spRgI C) := by
  refine F.ok sc_Ring___init__ (fun vs H Q E h => ?_) (fun cdv A outer s H vs Q E hr h => ?_)
  · obtain ⟨a, L, xs, rfl, _⟩ := h
    rfl
  obtain ⟨a, L, xs, rfl, ha, hL, q⟩ := h
  refine ⟨_, (pss_one (ps_ost (pv 0) (pe_callTy call_list_of (by rfl) T.b_list (by decide +kernel) (pa_cons (pv 1) pa_nil)))), ?_⟩
  refine ⟨_, rfl, L, _, rfl, .inl (SqL.of hL), fun M nM => ?_⟩
  have naM : a ≠ M := ne_of_none ha nM
  refine ⟨_, rfl, a, C, rfl, Z.oex, Z.no, .inl ⟨by rw [upd_ne naM]; exact ha, fun dx n ne => ?_⟩⟩
  have ndM : dx ≠ M := fun e => by rw [e, upd_same] at n; cases n
  rw [upd_ne ndM] at n
  exact q M dx nM naM.symm ndM n ne
end
/-! ### names in lists; dicts by names -/
theorem strV_eq (a b : List Nat) : eqV (.str (SX.S a)) (.str (SX.S b)) = decide (a = b) := by
  show (SX.S a == SX.S b) = _
  rw [SX.S_beq]
  by_cases c : a = b
  · rw [c, beq_self_eq_true, decide_eq_true rfl]
  · rw [beq_eq_false_iff_ne.mpr c, decide_eq_false c]
theorem in_txs (t : List Nat) (ns : List (List Nat)) : inV (.str (SX.S t)) (txs ns) = decide (t ∈ ns) := by
  induction ns with
  | nil => rfl
  | cons a r ih =>
    show (eqV (.str (SX.S a)) (.str (SX.S t)) || inV (.str (SX.S t)) (txs r)) = _
    rw [ih, strV_eq]
    by_cases c : a = t
    · rw [decide_eq_true c, Bool.true_or, decide_eq_true (by rw [c]; exact List.mem_cons_self ..)]
    · rw [decide_eq_false c, Bool.false_or]
      by_cases d : t ∈ r
      · rw [decide_eq_true d, decide_eq_true (List.mem_cons_of_mem _ d)]
      · rw [decide_eq_false d, decide_eq_false (fun z => (List.mem_cons.mp z).elim (fun e => c e.symm) d)]
theorem txs_flat (ns : List (List Nat)) : (txs ns).all flatV = true := List.all_eq_true.mpr fun x hx => by
  obtain ⟨s, _, rfl⟩ := txs_mem hx
  rfl
theorem txs_drop (ns : List (List Nat)) (k : Nat) : (txs ns).drop k = txs (ns.drop k) := by unfold txs; rw [List.map_drop, List.map_drop]
theorem cutV_from (xs : List V) (a : Nat) : cutV xs (some (a : Int)) none = xs.drop a := by
  show (xs.drop (HT.sIx xs.length 0 (some (a : Int)))).take (HT.sIx xs.length xs.length none - HT.sIx xs.length 0 (some (a : Int))) = _
  rw [HT.sIx_none, HT.sIx_nat]
  by_cases ha : a ≤ xs.length
  · rw [Nat.min_eq_left ha, List.take_of_length_le (by rw [List.length_drop]; omega)]
  · rw [Nat.min_eq_right (by omega), List.drop_eq_nil_of_le (Nat.le_refl _), List.drop_eq_nil_of_le (by omega), List.take_nil]
/-- the first place of a name -/
theorem first_at {t : List Nat} : ∀ {ns : List (List Nat)}, t ∈ ns → ns[ns.idxOf t]? = some t ∧ ∀ m s, m < ns.idxOf t → ns[m]? = some s → ¬ s = t
  | [], h => nomatch h
  | a :: r, h => by
    rw [List.idxOf_cons]
    by_cases c : a = t
    · rw [c, beq_self_eq_true, cond_true]
      exact ⟨rfl, fun m s hm => absurd hm (Nat.not_lt_zero _)⟩
    · rw [beq_eq_false_iff_ne.mpr c, cond_false]
      have hr : t ∈ r := (List.mem_cons.mp h).elim (fun e => absurd e.symm c) id
      obtain ⟨h1, h2⟩ := first_at hr
      refine ⟨by simpa using h1, fun m s hm e => ?_⟩
      cases m with
      | zero =>
        have : a = s := by simpa using e
        rw [← this]
        exact c
      | succ m => exact h2 m s (by omega) (by simpa using e)
/-- a dict's pairs stand for pairs of a name and a thing -/
def KvR {α : Type} (R : α → V → Prop) : List (List Nat × α) → List (Key × V) → Prop
  | [], [] => True
  | p :: l, q :: m => q.1 = kT (SX.S p.1) ∧ R p.2 q.2 ∧ KvR R l m
  | _, _ => False
section
variable {α : Type} {R R' : α → V → Prop}
theorem KvR.imp (h : ∀ a v, R a v → R' a v) : ∀ {l : List (List Nat × α)} {m : List (Key × V)}, KvR R l m → KvR R' l m
  | [], [], _ => trivial
  | _ :: _, _ :: _, ⟨a, b, c⟩ => ⟨a, h _ _ b, KvR.imp h c⟩
  | [], _ :: _, h => h.elim
  | _ :: _, [], h => h.elim
theorem KvR.len : ∀ {l : List (List Nat × α)} {m : List (Key × V)}, KvR R l m → m.length = l.length
  | [], [], _ => rfl
  | _ :: _, _ :: _, ⟨_, _, c⟩ => congrArg (· + 1) (KvR.len c)
  | [], _ :: _, h => h.elim
  | _ :: _, [], h => h.elim
theorem KvR.snoc {t : List Nat} {a : α} {v : V} (r : R a v) : ∀ {l : List (List Nat × α)} {m : List (Key × V)}, KvR R l m → KvR R (l ++ [(t, a)]) (m ++ [(kT (SX.S t), v)])
  | [], [], _ => ⟨rfl, r, trivial⟩
  | _ :: _, _ :: _, ⟨x, y, z⟩ => ⟨x, y, KvR.snoc r z⟩
  | [], _ :: _, h => h.elim
  | _ :: _, [], h => h.elim
theorem KvR.any {t : List Nat} : ∀ {l : List (List Nat × α)} {m : List (Key × V)}, KvR R l m → (m.any fun kv => decide (kv.1 = kT (SX.S t))) = (l.any fun p => decide (p.1 = t))
  | [], [], _ => rfl
  | p :: l, q :: m, ⟨x, _, z⟩ => by
    show (decide (q.1 = kT (SX.S t)) || m.any _) = (decide (p.1 = t) || l.any _)
    rw [KvR.any z, x]
    by_cases c : p.1 = t
    · rw [c, decide_eq_true rfl, decide_eq_true rfl]
    · rw [decide_eq_false c, decide_eq_false fun e => c (kS_inj e)]
  | [], _ :: _, h => h.elim
  | _ :: _, [], h => h.elim
theorem KvR.put {t : List Nat} {a : α} {v : V} (r : R a v) {l : List (List Nat × α)} {m : List (Key × V)} (h : KvR R l m) : KvR R (putA l t a) (putK m (kT (SX.S t)) v) := by
  unfold putA putK
  rw [h.any]
  split
  · have key : ∀ {l : List (List Nat × α)} {m : List (Key × V)}, KvR R l m → KvR R (l.map fun p => if p.1 = t then (p.1, a) else p) (m.map fun kv => if kv.1 = kT (SX.S t) then (kv.1, v) else kv) := by
      intro l
      induction l with
      | nil =>
        intro m h
        cases m with
        | nil => trivial
        | cons _ _ => exact h.elim
      | cons p l ih =>
        intro m h
        cases m with
        | nil => exact h.elim
        | cons q m =>
          obtain ⟨x, y, z⟩ := h
          rw [List.map_cons, List.map_cons]
          by_cases c : p.1 = t
          · rw [if_pos c, if_pos (by rw [x, c])]
            exact ⟨x, r, ih z⟩
          · rw [if_neg c, if_neg (by rw [x]; exact fun e => c (kS_inj e))]
            exact ⟨x, y, ih z⟩
    exact key h
  · exact h.snoc r
def getA (l : List (List Nat × α)) (t : List Nat) : Option α := (l.find? fun p => decide (p.1 = t)).map (·.2)
theorem getA_cons (p : List Nat × α) (l : List (List Nat × α)) (t : List Nat) : getA (p :: l) t = if p.1 = t then some p.2 else getA l t := by
  unfold getA
  rw [List.find?_cons]
  by_cases c : p.1 = t
  · rw [if_pos c, decide_eq_true c]
    rfl
  · rw [if_neg c, decide_eq_false c]
theorem KvR.get {t : List Nat} : ∀ {l : List (List Nat × α)} {m : List (Key × V)}, KvR R l m → (getA l t = none ∧ valV m (kT (SX.S t)) = none) ∨ ∃ a v, getA l t = some a ∧ valV m (kT (SX.S t)) = some v ∧ R a v
  | [], [], _ => .inl ⟨rfl, rfl⟩
  | p :: l, q :: m, ⟨x, y, z⟩ => by
    rw [getA_cons]
    by_cases c : p.1 = t
    · rw [if_pos c, valV_pos (by rw [x, c])]
      exact .inr ⟨_, _, rfl, rfl, y⟩
    · rw [if_neg c, valV_neg (by rw [x]; exact fun e => c (kS_inj e))]
      exact KvR.get z
  | [], _ :: _, h => h.elim
  | _ :: _, [], h => h.elim
theorem KvR.at {l : List (List Nat × α)} {m : List (Key × V)} {i : Nat} {k : Key} {v : V} (h : KvR R l m) (e : m[i]? = some (k, v)) : ∃ p, l[i]? = some p ∧ k = kT (SX.S p.1) ∧ R p.2 v := by
  induction l generalizing m i with
  | nil =>
    cases m with
    | nil => simp at e
    | cons _ _ => exact h.elim
  | cons p l ih =>
    cases m with
    | nil => exact h.elim
    | cons q m =>
      obtain ⟨x, y, z⟩ := h
      cases i with
      | zero =>
        have e' : q = (k, v) := by simpa using e
        rw [e'] at x y
        exact ⟨p, rfl, x, y⟩
      | succ i => exact ih z (by simpa using e)
end
theorem kvR_keys {α : Type} {R : α → V → Prop} : ∀ {l : List (List Nat × α)} {m : List (Key × V)}, KvR R l m → m.map (fun kv => kV kv.1) = txs (l.map (·.1))
  | [], [], _ => rfl
  | p :: l, q :: m, ⟨x, _, z⟩ => by
    show kV q.1 :: m.map _ = .str (SX.S p.1) :: txs (l.map (·.1))
    rw [kvR_keys z, x]
    rfl
  | [], _ :: _, h => h.elim
  | _ :: _, [], h => h.elim
theorem numsR (l : List Pr) : KvR (fun (x : Int) v => v = .int x) l (numsK l) := by
  induction l with
  | nil => trivial
  | cons p l ih => exact ⟨rfl, rfl, ih⟩
theorem numsR_eq : ∀ {l : List Pr} {m : List (Key × V)}, KvR (fun (x : Int) v => v = .int x) l m → m = numsK l
  | [], [], _ => rfl
  | p :: l, q :: m, ⟨x, y, z⟩ => by
    rw [numsR_eq z]
    show q :: numsK l = (kT (SX.S p.1), V.int p.2) :: numsK l
    rw [← x, ← y]
  | [], _ :: _, h => h.elim
  | _ :: _, [], h => h.elim
theorem nums_putA (l : List Pr) (t : List Nat) (v : Int) : putK (numsK l) (kT (SX.S t)) (.int v) = numsK (putA l t v) := numsR_eq (KvR.put (R := fun (x : Int) v => v = .int x) (a := v) rfl (numsR l))
theorem seen_put {l : List Pr} {t u : List Nat} {v : Int} : seen (putA l t v) u = if t = u then some v else seen l u := by
  have none_of : ∀ {l : List Pr}, ¬ (l.any fun p => decide (p.1 = t)) = true → seen l t = none := fun {l} h => by
    unfold seen
    rw [List.find?_eq_none.mpr fun p hp c => h (List.any_eq_true.mpr ⟨p, hp, c⟩)]
    rfl
  unfold putA
  by_cases c : (l.any fun p => decide (p.1 = t)) = true
  · rw [if_pos c]
    induction l with
    | nil => simp at c
    | cons p l ih =>
      rw [List.map_cons, seen_cons, seen_cons]
      by_cases h1 : p.1 = t
      · rw [if_pos h1]
        by_cases h2 : t = u
        · rw [if_pos (by rw [h1, h2]), if_pos h2]
        · rw [if_neg (by rw [h1]; exact h2), if_neg h2, if_neg (by rw [h1]; exact h2)]
          by_cases c2 : (l.any fun p => decide (p.1 = t)) = true
          · rw [ih c2, if_neg h2]
          · have e : l.map (fun p => if p.1 = t then (p.1, v) else p) = l := by
              have key : ∀ p ∈ l, (if p.1 = t then (p.1, v) else p) = p := fun p hp => if_neg fun z => c2 (List.any_eq_true.mpr ⟨p, hp, decide_eq_true z⟩)
              exact (List.map_congr_left key).trans (List.map_id' l)
            rw [e]
      · rw [if_neg h1]
        have c2 : (l.any fun p => decide (p.1 = t)) = true := by
          rw [List.any_cons, decide_eq_false h1, Bool.false_or] at c
          exact c
        by_cases h2 : p.1 = u
        · rw [if_pos h2, if_pos h2, if_neg (fun z => h1 (by rw [h2, z]))]
        · rw [if_neg h2, if_neg h2, ih c2]
  · rw [if_neg c]
    have app : ∀ {l : List Pr} {q : Pr}, seen (l ++ [q]) u = match seen l u with | some x => some x | none => if q.1 = u then some q.2 else none := by
      intro l q
      induction l with
      | nil =>
        rw [List.nil_append, seen_cons]
        rfl
      | cons p l ih =>
        rw [List.cons_append, seen_cons, seen_cons, ih]
        by_cases h : p.1 = u
        · rw [if_pos h, if_pos h]
        · rw [if_neg h, if_neg h]
    rw [app]
    by_cases h2 : t = u
    · subst h2
      rw [none_of c, if_pos rfl]
    · simp only [if_neg h2]
      cases seen l u <;> rfl
/-- looks for one name after another -/
def lkAll (h : House) (n : Nat) : RkS → List (List Nat) → OutR RkS
  | s, [] => .ok 0 s
  | s, t :: ts => match lkR h n s t with
    | .ok _ s' => lkAll h n s' ts
    | .err e => .err e
theorem lkAll_snoc {h : House} {n : Nat} {t : List Nat} : ∀ {ts : List (List Nat)} {s s' : RkS} {v : Int}, lkAll h n s ts = .ok v s' → lkAll h n s (ts ++ [t]) = match lkR h n s' t with
    | .ok _ s2 => .ok 0 s2
    | .err e => .err e
  | [], s, s', v, e => by
    cases e
    rfl
  | u :: ts, s, s', v, e => by
    unfold lkAll at e
    show (match lkR h n s u with | .ok _ s' => lkAll h n s' (ts ++ [t]) | .err e => .err e) = _
    cases e1 : lkR h n s u with
    | err x => rw [e1] at e; cases e
    | ok w s1 =>
      rw [e1] at e
      exact lkAll_snoc e
theorem lkAll_err {h : House} {n : Nat} {x : XErr} {us : List (List Nat)} : ∀ {ts : List (List Nat)} {s : RkS}, lkAll h n s ts = .err x → lkAll h n s (ts ++ us) = .err x
  | [], s, e => by cases e
  | u :: ts, s, e => by
    unfold lkAll at e
    show (match lkR h n s u with | .ok _ s' => lkAll h n s' (ts ++ us) | .err e => .err e) = _
    cases e1 : lkR h n s u with
    | err y => rw [e1] at e; exact e
    | ok w s1 =>
      rw [e1] at e
      exact lkAll_err e
theorem KvR.mem {α : Type} {R : α → V → Prop} : ∀ {l : List (List Nat × α)} {m : List (Key × V)}, KvR R l m → ∀ q ∈ m, ∃ a, R a q.2
  | [], [], _, _, h => nomatch h
  | p :: l, q :: m, ⟨_, y, z⟩, r, hr => by
    rcases List.mem_cons.mp hr with rfl | hr
    · exact ⟨_, y⟩
    · exact KvR.mem z r hr
  | [], _ :: _, h, _, _ => h.elim
  | _ :: _, [], h, _, _ => h.elim
/-! ### the class Reckoner walked -/
open LamX NdefX
structure RkT (K : PySem.W.Frag) (mg : Str → Option Value) (C fI : Addr) : Prop where
  cl : Cls K C
  nG : NoAttr K C "given"
  nR : NoAttr K C "recipes"
  nK : NoAttr K C "known"
  nF : NoAttr K C "read_for"
  nA : NoAttr K C "asked"
  g : mg "Reckoner" = some (.ref C)
  mkI : Mk K C fI
/-- all but the tables and the things of S stay; the tables of Tb are tables still -/
def FrS (Tb : List NTab) (S : List Addr) (H H' : Hp) : Prop := (∀ x u, x ∉ S → (∀ ps, u ≠ .tbl ps) → H x = some u → H' x = some u) ∧ (∀ b, H' b = none → H b = none) ∧ (TabsN Tb H → TabsN Tb H')
section
variable {Tb : List NTab}
theorem FrS.refl (S : List Addr) (H : Hp) : FrS Tb S H H := ⟨fun _ _ _ _ h => h, fun _ h => h, fun h => h⟩
theorem FrS.trans {S : List Addr} {A B C : Hp} (f : FrS Tb S A B) (g : FrS Tb S B C) : FrS Tb S A C := ⟨fun x u n t h => g.1 x u n t (f.1 x u n t h), fun b h => f.2.1 b (g.2.1 b h), fun h => g.2.2 (f.2.2 h)⟩
theorem FrS.of {S : List Addr} {A B : Hp} (s : Same A B) : FrS Tb S A B := ⟨fun x u _ _ h => s x u h, fun b h => s.free h, fun t => t.ext s⟩
theorem FrS.mono {S S' : List Addr} {A B : Hp} (f : FrS Tb S A B) (h : ∀ x ∈ S, x ∈ S') : FrS Tb S' A B := ⟨fun x u n t e => f.1 x u (fun m => n (h x m)) t e, f.2⟩
/-- a dict or a list -/
def DL (H : Hp) (a : Addr) : Prop := (∃ kvs, H a = some (.dK kvs)) ∨ ∃ xs, H a = some (.lst xs)
theorem DL.tab {H : Hp} {a : Addr} {o : HO} (d : DL H a) (t : TabsN Tb H) : TabsN Tb (upd H a o) := fun p hp => by
  obtain ⟨ps, t1, t2, t3⟩ := t p hp
  refine ⟨ps, ?_, t2, fun pos cv hc => ?_⟩
  · rw [upd_ne (fun z => by rcases d with ⟨_, d⟩ | ⟨_, d⟩ <;> rw [z, d] at t1 <;> cases t1)]
    exact t1
  · obtain ⟨c, e1, e2⟩ := t3 pos cv hc
    refine ⟨c, e1, ?_⟩
    rw [upd_ne (fun z => by rcases d with ⟨_, d⟩ | ⟨_, d⟩ <;> rw [z, d] at e2 <;> cases e2)]
    exact e2
theorem FrS.upd {S : List Addr} {H : Hp} {a : Addr} {o : HO} (h : a ∈ S) (d : DL H a) : FrS Tb S H (upd H a o) := ⟨fun x u n _ e => by rw [upd_ne (fun z => n (by rw [z]; exact h))]; exact e, fun b h' => by
  unfold L2.upd at h'
  split at h'
  · cases h'
  · exact h', d.tab⟩
theorem FrS.ext {S : List Addr} {H H' : Hp} (e : ExtN H H') (n : ∀ b, H' b = none → H b = none) (t : TabsN Tb H') : FrS Tb S H H' := ⟨fun x u _ t h => e x u h t, n, fun _ => t⟩
end
theorem Rd.mp {H H' : Hp} {a : Addr} {k : List (Key × V)} (h : ∀ o, H a = some o → (∀ ps, o ≠ .tbl ps) → H' a = some o) (r : Rd H a (.dK k)) : Rd H' a (.dK k) := r.imp (fun e => h _ e (fun _ z => by cases z)) fun ⟨o, e⟩ => ⟨o, h _ e (fun _ z => by cases z)⟩
theorem DGet.rd {H : Hp} {a : Addr} {k : Key} {kvs : List (Key × V)} (r : Rd H a (.dK kvs)) : DGet H a (kV k) (valV kvs k) := .inl ⟨_, k, r, rfl, rfl⟩
/-- where a reckoner stands -/
structure RkA where
  R : Addr
  gD : Addr
  rD : Addr
  kD : Addr
  fD : Addr
  aL : Addr
  B : Hp
def RkA.own (A : RkA) : List Addr := [A.kD, A.fD, A.aL]
def RdsV (H : Hp) (aL : Addr) (B : Hp) (rd : List Pr) (v : V) : Prop := ∃ L xs, v = .ref L ∧ L ≠ aL ∧ B L = none ∧ H L = some (.lst xs) ∧ Prs H rd xs
structure RkAt (C : Addr) (Tb : List NTab) (A : RkA) (h : House) (s : RkS) (H : Hp) : Prop where
  ins : ∃ dx fs, H A.R = some (.ins C dx fs) ∧ fs.lookup ("given" : Str) = some (.ref A.gD) ∧ fs.lookup ("recipes" : Str) = some (.ref A.rD) ∧ fs.lookup ("known" : Str) = some (.ref A.kD) ∧ fs.lookup ("read_for" : Str) = some (.ref A.fD) ∧ fs.lookup ("asked" : Str) = some (.ref A.aL) ∧ fs.lookup ("look_for" : Str) = none
  gv : H A.gD = some (.dK (numsK h.given))
  rc : ∃ kvs, Rd H A.rD (.dK kvs) ∧ KvR (Rec H) h.recs kvs
  kn : H A.kD = some (.dK (numsK s.known))
  rd : ∃ kvs, H A.fD = some (.dK kvs) ∧ KvR (RdsV H A.aL A.B) s.read kvs
  ask : H A.aL = some (.lst (txs s.asked))
  tab : TabsN Tb H
  bas : ∀ b, H b = none → A.B b = none
  ne : A.kD ≠ A.fD ∧ A.gD ≠ A.kD ∧ A.gD ≠ A.fD ∧ A.rD ≠ A.kD ∧ A.rD ≠ A.fD
  rn : ∀ kvs, H A.fD = some (.dK kvs) → (kvs.map (·.2)).Nodup
theorem FrS.keep {Tb : List NTab} {S : List Addr} {H H' : Hp} (f : FrS Tb S H H') (hS : ∀ x ∈ S, ∀ xs, H x ≠ some (.tup xs)) : Keep H H' := fun b ys e => f.1 b _ (fun m => hS b m ys e) (fun ps z => by cases z) e
theorem RdsV.fr {Tb : List NTab} {S : List Addr} {H H' : Hp} {aL : Addr} {B : Hp} {rd : List Pr} {v : V} (f : FrS Tb S H H') (k : Keep H H') (hl : ∀ L xs, H L = some (.lst xs) → L ≠ aL → L ∉ S) (h : RdsV H aL B rd v) : RdsV H' aL B rd v := by
  obtain ⟨L, xs, e, n, nb, hL, hP⟩ := h
  exact ⟨L, xs, e, n, nb, f.1 L _ (hl L xs hL n) (fun ps z => by cases z) hL, hP.keep k⟩
theorem RkAt.fr {C : Addr} {Tb : List NTab} {A : RkA} {h : House} {s : RkS} {S : List Addr} {H H' : Hp} (a : RkAt C Tb A h s H) (f : FrS Tb S H H') (hS : ∀ x ∈ S, (∀ xs, H x ≠ some (.tup xs)) ∧ x ≠ A.R ∧ x ≠ A.gD ∧ x ≠ A.rD ∧ x ≠ A.kD ∧ x ≠ A.fD ∧ x ≠ A.aL ∧ ∀ xs, H x ≠ some (.lst xs)) : RkAt C Tb A h s H' := by
  have st : ∀ {x : Addr} {u : HO}, x ∉ S → (∀ ps, u ≠ .tbl ps) → H x = some u → H' x = some u := fun n t e => f.1 _ _ n t e
  have k := f.keep fun x hx => (hS x hx).1
  obtain ⟨dx, fs, h1, h2⟩ := a.ins
  obtain ⟨kvs, h3, h4⟩ := a.rc
  obtain ⟨kvs2, h5, h6⟩ := a.rd
  refine ⟨⟨dx, fs, st (fun m => (hS _ m).2.1 rfl) (fun _ z => by cases z) h1, h2⟩, st (fun m => (hS _ m).2.2.1 rfl) (fun _ z => by cases z) a.gv, ⟨kvs, Rd.mp (fun o e t => st (fun m => (hS _ m).2.2.2.1 rfl) t e) h3, h4.imp fun r v q => q.keep k⟩, st (fun m => (hS _ m).2.2.2.2.1 rfl) (fun _ z => by cases z) a.kn,
    ⟨kvs2, st (fun m => (hS _ m).2.2.2.2.2.1 rfl) (fun _ z => by cases z) h5, h6.imp fun r v q => q.fr f k fun L xs e _ m => (hS _ m).2.2.2.2.2.2.2 xs e⟩, st (fun m => (hS _ m).2.2.2.2.2.2.1 rfl) (fun _ z => by cases z) a.ask, f.2.2 a.tab, (fun b e => a.bas b (f.2.1 b e)), a.ne, fun kvs e => by
      rw [st (fun m => (hS _ m).2.2.2.2.2.1 rfl) (fun _ z => by cases z) h5] at e
      cases e
      exact a.rn _ h5⟩
theorem RkAt.same {C : Addr} {Tb : List NTab} {A : RkA} {h : House} {s : RkS} {H H' : Hp} (a : RkAt C Tb A h s H) (sm : Same H H') : RkAt C Tb A h s H' := a.fr (S := []) (FrS.of sm) (fun _ h => nomatch h)
/-- a dict of its own is no part of it -/
theorem RkAt.ownD {C : Addr} {Tb : List NTab} {A : RkA} {h : House} {s : RkS} {H H' : Hp} {D : Addr} {kvs : List (Key × V)} (a : RkAt C Tb A h s H) (f : FrS Tb [D] H H') (hD : H D = some (.dK kvs)) (n1 : D ≠ A.gD) (n2 : D ≠ A.rD) (n3 : D ≠ A.kD) (n4 : D ≠ A.fD) : RkAt C Tb A h s H'   := a.fr f fun x hx => by
  rw [List.mem_singleton.mp hx]
  obtain ⟨dx, fs, h1, _⟩ := a.ins
  refine ⟨fun xs e => (by rw [hD] at e; cases e), fun z => (by rw [z, h1] at hD; cases hD), n1, n2, n3, n4, fun z => (by rw [z, a.ask] at hD; cases hD), fun xs e => (by rw [hD] at e; cases e)⟩
theorem RkAt.keepOwn {C : Addr} {Tb : List NTab} {A : RkA} {h : House} {s : RkS} {H H' : Hp} (a : RkAt C Tb A h s H) (f : FrS Tb A.own H H') : Keep H H' := f.keep fun x hx xs e => by
  obtain ⟨kvs, h5, _⟩ := a.rd
  rcases List.mem_cons.mp hx with rfl | hx
  · rw [a.kn] at e; cases e
  rcases List.mem_cons.mp hx with rfl | hx
  · rw [h5] at e; cases e
  rw [List.mem_singleton.mp hx, a.ask] at e
  cases e
theorem RkAt.extOwn {C : Addr} {Tb : List NTab} {A : RkA} {h : House} {s : RkS} {H H' : Hp} {b : Addr} {phi : Heap → Prop} (a : RkAt C Tb A h s H) (f : FrS Tb A.own H H') (e : H b = some (.ext phi)) : H' b = some (.ext phi) := f.1 b _ (fun hx => by
  obtain ⟨kvs, h5, _⟩ := a.rd
  rcases List.mem_cons.mp hx with rfl | hx
  · rw [a.kn] at e; cases e
  rcases List.mem_cons.mp hx with rfl | hx
  · rw [h5] at e; cases e
  rw [List.mem_singleton.mp hx, a.ask] at e
  cases e) (fun ps z => by cases z) e
/-- a worth known more -/
theorem RkAt.known {C : Addr} {Tb : List NTab} {A : RkA} {h : House} {s : RkS} {H : Hp} (a : RkAt C Tb A h s H) (t : List Nat) (v : Int) : RkAt C Tb A h { s with known := putA s.known t v } (upd H A.kD (.dK (numsK (putA s.known t v)))) := by
  obtain ⟨n1, n2, n3, n4, n5⟩ := a.ne
  obtain ⟨dx, fs, h1, h2⟩ := a.ins
  obtain ⟨kvs, h3, h4⟩ := a.rc
  obtain ⟨kvs2, h5, h6⟩ := a.rd
  have f : FrS Tb [A.kD] H (upd H A.kD (.dK (numsK (putA s.known t v)))) := FrS.upd (List.mem_singleton.mpr rfl) (.inl ⟨_, a.kn⟩)
  have k : Keep H (upd H A.kD (.dK (numsK (putA s.known t v)))) := f.keep fun x hx xs e => by rw [List.mem_singleton.mp hx, a.kn] at e; cases e
  refine ⟨⟨dx, fs, ?_, h2⟩, ?_, ⟨kvs, ?_, h4.imp fun r v q => q.keep k⟩, upd_same, ⟨kvs2, ?_, h6.imp fun r v q => q.fr f k fun L xs e _ m => by rw [List.mem_singleton.mp m, a.kn] at e; cases e⟩, ?_, f.2.2 a.tab, (fun b e => a.bas b (f.2.1 b e)), a.ne, fun kvs e => a.rn kvs (by rw [upd_ne n1.symm] at e; exact e)⟩
  · rw [upd_ne (fun z => by rw [z, a.kn] at h1; cases h1)]; exact h1
  · rw [upd_ne n2]; exact a.gv
  · exact Rd.mp (fun o e _ => by rw [upd_ne n4]; exact e) h3
  · rw [upd_ne n1.symm]; exact h5
  · rw [upd_ne (fun z => by have := a.ask; rw [z, a.kn] at this; cases this)]; exact a.ask
/-- other names asked -/
theorem RkAt.asking {C : Addr} {Tb : List NTab} {A : RkA} {h : House} {s : RkS} {H : Hp} (a : RkAt C Tb A h s H) (ns : List (List Nat)) : RkAt C Tb A h { s with asked := ns } (upd H A.aL (.lst (txs ns))) := by
  obtain ⟨dx, fs, h1, h2⟩ := a.ins
  obtain ⟨kvs, h3, h4⟩ := a.rc
  obtain ⟨kvs2, h5, h6⟩ := a.rd
  have f : FrS Tb [A.aL] H (upd H A.aL (.lst (txs ns))) := FrS.upd (List.mem_singleton.mpr rfl) (.inr ⟨_, a.ask⟩)
  have k : Keep H (upd H A.aL (.lst (txs ns))) := keep_lst a.ask
  refine ⟨⟨dx, fs, ?_, h2⟩, ?_, ⟨kvs, ?_, h4.imp fun r v q => q.keep k⟩, ?_, ⟨kvs2, ?_, h6.imp fun r v q => q.fr f k fun L xs e n m => n (List.mem_singleton.mp m)⟩, upd_same, f.2.2 a.tab, (fun b e => a.bas b (f.2.1 b e)), a.ne, fun kvs e => a.rn kvs (by rw [upd_ne (fun z => by rw [z, a.ask] at h5; cases h5)] at e; exact e)⟩
  · rw [upd_ne (fun z => by rw [z, a.ask] at h1; cases h1)]; exact h1
  · rw [upd_ne (fun z => by have := a.gv; rw [z, a.ask] at this; cases this)]; exact a.gv
  · exact Rd.mp (fun o e _ => by rw [upd_ne (fun z => by rcases h3 with h3 | ⟨_, h3⟩ <;> (rw [z, a.ask] at h3; cases h3))]; exact e) h3
  · rw [upd_ne (fun z => by have := a.kn; rw [z, a.ask] at this; cases this)]; exact a.kn
  · rw [upd_ne (fun z => by rw [z, a.ask] at h5; cases h5)]; exact h5
/-- reads put down -/
theorem RkAt.reads {C : Addr} {Tb : List NTab} {A : RkA} {h : House} {s : RkS} {H : Hp} (a : RkAt C Tb A h s H) {kvs2 : List (Key × V)} (h5 : H A.fD = some (.dK kvs2)) (h6 : KvR (RdsV H A.aL A.B) s.read kvs2) (t : List Nat) {own : List Pr} {v : V} (hv : RdsV H A.aL A.B own v) (hnew : ∀ q ∈ kvs2, q.2 ≠ v) (hnt : ¬ t ∈ s.read.map (·.1)) : RkAt C Tb A h { s with read := putA s.read t own } (upd H A.fD (.dK (putK kvs2 (kT (SX.S t)) v))) := by
  obtain ⟨n1, n2, n3, n4, n5⟩ := a.ne
  obtain ⟨dx, fs, h1, h2⟩ := a.ins
  obtain ⟨kvs, h3, h4⟩ := a.rc
  have f : FrS Tb [A.fD] H (upd H A.fD (.dK (putK kvs2 (kT (SX.S t)) v))) := FrS.upd (List.mem_singleton.mpr rfl) (.inl ⟨_, h5⟩)
  have k : Keep H (upd H A.fD (.dK (putK kvs2 (kT (SX.S t)) v))) := f.keep fun x hx xs e => by rw [List.mem_singleton.mp hx, h5] at e; cases e
  have up : ∀ r v, RdsV H A.aL A.B r v → RdsV (upd H A.fD (.dK (putK kvs2 (kT (SX.S t)) v))) A.aL A.B r v := fun r v q => by
    have f : FrS Tb [A.fD] H (upd H A.fD (.dK (putK kvs2 (kT (SX.S t)) v))) := FrS.upd (List.mem_singleton.mpr rfl) (.inl ⟨_, h5⟩)
    exact q.fr f (f.keep fun x hx xs e => by rw [List.mem_singleton.mp hx, h5] at e; cases e) fun L xs e n m => by rw [List.mem_singleton.mp m, h5] at e; cases e
  refine ⟨⟨dx, fs, ?_, h2⟩, ?_, ⟨kvs, ?_, h4.imp fun r v q => q.keep k⟩, ?_, ⟨_, upd_same, (KvR.put hv h6).imp fun r x q => ?_⟩, ?_, f.2.2 a.tab, (fun b e => a.bas b (f.2.1 b e)), a.ne, fun kvs e => ?_⟩
  · rw [upd_ne (fun z => by rw [z, h5] at h1; cases h1)]; exact h1
  · rw [upd_ne n3]; exact a.gv
  · exact Rd.mp (fun o e _ => by rw [upd_ne n5]; exact e) h3
  · rw [upd_ne n1]; exact a.kn
  · exact q.fr f k fun L xs e n m => by rw [List.mem_singleton.mp m, h5] at e; cases e
  · rw [upd_ne (fun z => by have := a.ask; rw [z, h5] at this; cases this)]; exact a.ask
  · rw [upd_same] at e
    cases e
    unfold putK
    rw [if_neg (by
      rw [h6.any]
      intro z
      obtain ⟨p, hp, e2⟩ := List.any_eq_true.mp z
      exact hnt (List.mem_map.mpr ⟨p, hp, of_decide_eq_true e2⟩)), List.map_append]
    refine List.nodup_append.mpr ⟨a.rn _ h5, List.nodup_cons.mpr ⟨(fun z => nomatch z), List.nodup_nil⟩, fun x hx y hy e2 => ?_⟩
    obtain ⟨q2, hq2, rfl⟩ := List.mem_map.mp hx
    rw [List.mem_singleton.mp hy] at e2
    exact hnew q2 hq2 e2
def lvR (dm n : Nat) : Nat := n * (dm + 2) + 1
/-- look_for's promise, by n names in one another -/
def spLF (C CN CR : Addr) (Tb : List NTab) (dm n : Nat) : Sp := fun vs H Q E => ∃ (A : RkA) (h : House) (beta : Nat → Nat) (s : RkS) (t : List Nat), vs = [.ref A.R, .str (SX.S t)] ∧ HouseOk dm h beta ∧ h.given.length + h.recs.length ≤ 100000 ∧ RkAt C Tb A h s H ∧ RkOk h beta s ∧ h.recs.length + 1 ≤ s.asked.length + n ∧ Nm t ∧
  TellW (fun s' H' => RkAt C Tb A h s' H') (FrS Tb A.own) (ErK CN CR) Q E H (lkR h n s t)
/-! ### look_for -/
open LamX NdefX
def At2 (C : Addr) (Tb : List NTab) (A : RkA) (h : House) (D : Addr) : RkS × List Pr → Hp → Prop := fun p H => RkAt C Tb A h p.1 H ∧ H D = some (.dK (numsK p.2)) ∧ D ≠ A.gD ∧ D ≠ A.rD ∧ D ≠ A.kD ∧ D ≠ A.fD
def J2 (h : House) (beta : Nat → Nat) (B : List (List Nat)) : RkS × List Pr → Prop := fun p => RkOk h beta p.1 ∧ p.1.asked = B ∧ OwnOk beta p.1 p.2
theorem At2.not {C : Addr} {Tb : List NTab} {A : RkA} {h : House} {D : Addr} {p : RkS × List Pr} {H : Hp} (a : At2 C Tb A h D p H) {x : Addr} (hx : x ∈ D :: A.own) : (∃ kvs, H x = some (.dK kvs)) ∨ ∃ xs, H x = some (.lst xs) := by
  obtain ⟨kvs, h5, _⟩ := a.1.rd
  rcases List.mem_cons.mp hx with rfl | hx
  · exact .inl ⟨_, a.2.1⟩
  rcases List.mem_cons.mp hx with rfl | hx
  · exact .inl ⟨_, a.1.kn⟩
  rcases List.mem_cons.mp hx with rfl | hx
  · exact .inl ⟨_, h5⟩
  rw [List.mem_singleton.mp hx]
  exact .inr ⟨_, a.1.ask⟩
theorem frOk2 (C : Addr) (Tb : List NTab) (A : RkA) (h : House) (D : Addr) : FrOk (At2 C Tb A h D) (FrS Tb (D :: A.own)) where
  refl := FrS.refl _
  trans := FrS.trans
  keep := fun a f => f.keep fun x hx xs e => by
    rcases a.not hx with ⟨_, z⟩ | ⟨_, z⟩ <;> rw [z] at e <;> cases e
  ext := fun a f e => f.1 _ _ (fun hx => by rcases a.not hx with ⟨_, z⟩ | ⟨_, z⟩ <;> rw [z] at e <;> cases e) (fun ps z => by cases z) e
section
variable {P : Program} {w : World} {K : PySem.W.Frag} {mg : Str → Option Value} {base : Heap} {C fI CN fN CR fR cL PL : Addr} {Tb : List NTab}
abbrev s_Reckoner_look_for : Stmt := inClass (topS 28) 1
abbrev N_Reckoner_look_for : List Str := ["self", "name", "look", "worth", "own", "other"]
theorem sc_Reckoner_look_for : FnScope N_Reckoner_look_for ["self", "name"] (defScope s_Reckoner_look_for) := ⟨rfl, rfl, rfl, by decide +kernel, rfl, by decide +kernel, by decide +kernel⟩

abbrev s_Reckoner_look_for_look : Stmt := (defBody s_Reckoner_look_for).getD 6 (.Pass ⟨0, 0, 0, 0⟩)
abbrev N_Reckoner_look_for_look : List Str := ["other", "own", "self", "number"]
theorem sc_Reckoner_look_for_look : NScope N_Reckoner_look_for_look ["other"] ["own", "self"] (C8.fnScope s_Reckoner_look_for_look) := nscope_by (by decide +kernel)
theorem nd_Reckoner_look_for_look : ndefB (defScope s_Reckoner_look_for) (C8.fnScope s_Reckoner_look_for_look) ["own", "self"] = true := by decide +kernel
abbrev nm_Reckoner_look_for_look : Str := (("Reckoner.look_for" : Str) ++ ".<locals>.") ++ "look"

theorem nok_look {dm n : Nat} {hh : House} {beta : Nat → Nat} {A : RkA} {B : List (List Nat)} {D f c' : Addr} {cl : List (Str × Addr)} (ZReckoner : RkT K mg C fI) (HH : HouseOk dm hh beta) (hsz : hh.given.length + hh.recs.length ≤ 100000) (hB : hh.recs.length + 1 ≤ B.length + n)
    (ML : Met P w K mg base (L2.CX P w) (lvR dm n) C "look_for" ["self", "name"] (spLF C CN CR Tb dm n)) :
    NOk P w K mg base (L2.CX P w) (lvR dm n + 1) f (NF.of s_Reckoner_look_for_look "look" nm_Reckoner_look_for_look cl c') ["other"] ["own", "self"] (spLk (At2 C Tb A hh D) (FrS Tb (D :: A.own)) (ErK CN CR) (J2 hh beta B) (lkOwn (lkR hh n)) [some (.ref D), some (.ref A.R)]) := by
  obtain ⟨f_l, fd_l, F_Reckoner_look_for, M_Reckoner_look_for, B_Reckoner_look_for⟩ := ML
  refine nok_of (N := N_Reckoner_look_for_look) sc_Reckoner_look_for_look (fun _ _ _ us hl => match us, hl with | [_], _ => rfl) (fun ws vs H Q E h => ?_) (fun A' outer s H vs ws Q E hr hf hc hlen h => ?_)
  · obtain ⟨_, t, st, rfl, _⟩ := h
    rfl
  obtain ⟨rfl, t, ⟨st, own⟩, rfl, hA, hJ, ht, q⟩ := h
  obtain ⟨a1, hD, nD⟩ := id hA
  obtain ⟨dx, fs, hR, _, _, _, _, _, lf⟩ := a1.ins
  refine ⟨_, (pss_cons (ps_set (i := 3) sc_Reckoner_look_for_look.nd rfl (Or.inl rfl) (pe_meth (pv 2) ZReckoner.cl M_Reckoner_look_for F_Reckoner_look_for (hr.mono (by first | decide | omega)) B_Reckoner_look_for .nil (passes_call (takes_of rfl rfl rfl rfl) (fun _ _ _ _ h => h)) (pa_cons (pv 0) pa_nil)))
      (pss_cons (ps_expr (pe_dsetd (pv 1) (pv 0) (pv 3) ⟨rfl, rfl, rfl, rfl⟩))
      (pss_one (ps_ret (pv 3))))), ?_⟩
  refine ⟨_, rfl, A.R, dx, fs, rfl, hR, lf, _, rfl, A, hh, beta, st, t, rfl, HH, hsz, a1, hJ.1, by rw [hJ.2.1]; exact hB, ht, ?_⟩
  unfold lkOwn at q
  cases e : lkR hh n st t with
  | err x =>
    rw [show lkR hh n (st, own).1 t = .err x from e] at q
    exact fun H1 f1 => q H1 (f1.mono fun x hx => List.mem_cons_of_mem _ hx)
  | ok v s' =>
    rw [show lkR hh n (st, own).1 t = .ok v s' from e] at q
    intro H1 f1 A1
    have dOwn : D ∉ A.own := fun hx => by
      rcases List.mem_cons.mp hx with z | hx
      · exact nD.2.2.1 z
      rcases List.mem_cons.mp hx with z | hx
      · exact nD.2.2.2 z
      have := a1.ask
      rw [← List.mem_singleton.mp hx, hD] at this
      cases this
    have hD1 : H1 D = some (.dK (numsK own)) := f1.1 D _ dOwn (fun _ z => by cases z) hD
    have hol : own.length ≤ hh.given.length + hh.recs.length := hJ.2.2.len hJ.1
    refine ⟨_, rfl, D, rfl, .inl ⟨_, .inl hD1⟩, _, rfl, _, rfl, numsK own, kT (SX.S t), hD1, rfl, lt_line (by rw [numsK_len]; omega), fun v' hv => ?_, fun hn => ?_⟩
    · rw [val_seen] at hv
      have hs : setd own t v = own := by
        unfold setd
        cases e2 : seen own t with
        | none => rw [e2] at hv; cases hv
        | some _ => rfl
      have q2 : TellW (At2 C Tb A hh D) (FrS Tb (D :: A.own)) (ErK CN CR) Q E H (.ok v (s', own)) := by rw [← hs]; exact q
      exact ⟨_, rfl, q2 H1 (f1.mono fun x hx => List.mem_cons_of_mem _ hx) ⟨A1, hD1, nD⟩⟩
    · rw [val_seen] at hn
      have hs : setd own t v = putA own t v := by
        unfold setd
        cases e2 : seen own t with
        | none => rfl
        | some _ => rw [e2] at hn; cases hn
      have q2 : TellW (At2 C Tb A hh D) (FrS Tb (D :: A.own)) (ErK CN CR) Q E H (.ok v (s', putA own t v)) := by rw [← hs]; exact q
      have f2 : FrS Tb [D] H1 (upd H1 D (.dK (numsK (putA own t v)))) := FrS.upd (List.mem_singleton.mpr rfl) (.inl ⟨_, hD1⟩)
      rw [nums_putA]
      refine ⟨_, rfl, q2 _ ((f1.mono fun x hx => List.mem_cons_of_mem _ hx).trans (f2.mono fun x hx => by rw [List.mem_singleton.mp hx]; exact List.mem_cons_self ..)) ⟨A1.ownD f2 hD1 nD.1 nD.2.1 nD.2.2.1 nD.2.2.2, upd_same, nD⟩⟩
end
/-! ### look_for walked -/
open LamX NdefX
theorem flown2 {H : Hp} {a dx : Addr} {x u v w : HO} (h1 : H a = none) (h2 : H dx = none) : Same H (upd (del (upd (upd (upd H a x) dx u) a v) a) dx w) := fun b o e => by
  rw [upd_ne (ne_of_none e h2), del_ne (ne_of_none e h1), upd_ne (ne_of_none e h1), upd_ne (ne_of_none e h2), upd_ne (ne_of_none e h1)]
  exact e
theorem FrS.drop {Tb : List NTab} {D : Addr} {S : List Addr} {H H' : Hp} (f : FrS Tb (D :: S) H H') (n : H D = none) : FrS Tb S H H' := ⟨fun x u m t e => f.1 x u (fun z => (List.mem_cons.mp z).elim (fun z => by rw [z, n] at e; cases e) m) t e, f.2⟩
theorem txs_snoc (ns : List (List Nat)) (t : List Nat) : txs ns ++ [.str (SX.S t)] = txs (ns ++ [t]) := by rw [txs_app]; rfl
theorem txs_pop (ns : List (List Nat)) (t : List Nat) : (txs (ns ++ [t])).dropLast = txs ns ∧ (txs (ns ++ [t]))[(txs (ns ++ [t])).length - 1]? = some (.str (SX.S t)) := by
  rw [← txs_snoc]
  refine ⟨List.dropLast_concat, ?_⟩
  rw [List.length_append, List.getElem?_append_right (by simp)]
  simp
theorem rcp_seen (l : List RcpNm) (t : List Nat) : getA l t = rcpOf l t := rfl
section
variable {P : Program} {w : World} {K : PySem.W.Frag} {mg : Str → Option Value} {base : Heap} {C fI CN fN CR fR cL PL : Addr} {Tb : List NTab}
theorem ok_look_for {dm : Nat} {fdN fdR : FuncData} (T : Txt K mg) (ZReckoner : RkT K mg C fI) (ZNoName : OwnX K mg "NoName" "name" CN fN) (ZRing : OwnX K mg "Ring" "ring" CR fR)
    (F_NoName___init__ : FnOk P w K mg base CX0 1 fN fdN ["self", "name"] (spNNI CN)) (B_NoName___init__ : Binds K fdN ["self", "name"] []) (F_Ring___init__ : FnOk P w K mg base CX0 1 fR fdR ["self", "ring"] (spRgI CR)) (B_Ring___init__ : Binds K fdR ["self", "ring"] [])
    (TB_Reckoner_look_for_look : TabB base mg cL PL) (HM_Reckoner_look_for_look : (PL, fun _ _ => nm_Reckoner_look_for_look) ∈ Tb) (HU_Reckoner_look_for_look : ∀ p ∈ Tb, p.1 = PL → p.2 = fun _ _ => nm_Reckoner_look_for_look)
    (Dm : IsMetC K C "look_for" "Reckoner.look_for" s_Reckoner_look_for ["self", "name"] cL) (Dw : IsDef K mg "worth_by" s_worth_by ["recipe", "look"]) (C_put : Cal P w K mg base CX0 1 "put_together" ["kind", "one", "other"] spPut) :
    ∀ n, Met P w K mg base (L2.CX P w) (lvR dm n) C "look_for" ["self", "name"] (spLF C CN CR Tb dm n)
  | 0 => Dm.none fun vs H Q E h => by
    obtain ⟨A, hh, beta, s, t, _, HH, _, _, hO, hn, _⟩ := h
    have := hO.len
    omega
  | n + 1 => by
    have ML := ok_look_for (dm := dm) T ZReckoner ZNoName ZRing F_NoName___init__ B_NoName___init__ F_Ring___init__ B_Ring___init__ TB_Reckoner_look_for_look HM_Reckoner_look_for_look HU_Reckoner_look_for_look Dm Dw C_put n
    have elv : lvR dm (n + 1) = (lvR dm n + 1 + dm) + 1 := by unfold lvR; rw [Nat.add_mul]; omega
    rw [elv]
    have hlv : 1 ≤ lvR dm n := Nat.le_add_left _ _
    refine Dm.metX sc_Reckoner_look_for (fun vs H Q E h => ?_) (fun f cA outer s H vs Q E hr h => ?_)
    · obtain ⟨A, hh, beta, s, t, rfl, _⟩ := h
      rfl
    obtain ⟨A, hh, beta, st, t, rfl, HH, hsz, hA, hO, hn, ht, q⟩ := h
    have hu : (cxOf (L2.CX P w) P w K mg base N_Reckoner_look_for "Reckoner.look_for" (defScope s_Reckoner_look_for) f (.ref cL) cA outer s H E).A.units + 1 < cLine := Nat.lt_of_le_of_lt (Nat.add_le_add_left (by decide : 1 ≤ 64) _) hr.units
    have HC_Reckoner_look_for_look : (cxOf (L2.CX P w) P w K mg base N_Reckoner_look_for "Reckoner.look_for" (defScope s_Reckoner_look_for) f (.ref cL) cA outer s H E).env.code = .ref cL := rfl
    have hl1 := hA
    obtain ⟨dx, fs, hR, lG, lR, lK, lF, lA, lL⟩ := hA.ins
    obtain ⟨rkv, hrD, hrR⟩ := hA.rc
    obtain ⟨fkv, hfD, hfR⟩ := hA.rd
    obtain ⟨n1, n2, n3, n4, n5⟩ := hA.ne
    have hkl := hO.klen
    have hal := hO.len
    have hlk : LkOk (lkOwn (lkR hh n)) (J2 hh beta (st.asked ++ [t])) (Val hh) := fun p u v p' hJ hu e => by
      obtain ⟨o1, a1, _, w1, b1⟩ := wk_step (A := st.asked ++ [t]) (fun s t v s' o _ ht e => lkR_step HH.n n s t v s' o ht e) (r := .read u) (p := p) hu hJ.1 hJ.2.1 hJ.2.2 e
      exact ⟨⟨o1, a1, w1⟩, b1⟩
    have C_worth_by : ∀ ws, CalC P w K mg base (L2.CX P w) (lvR dm n + 1 + dm) "worth_by" ["recipe", "look"] (cloFrom (cxOf (L2.CX P w) P w K mg base N_Reckoner_look_for "Reckoner.look_for" (defScope s_Reckoner_look_for) f (.ref cL) cA outer s H E).env.cells (C8.fnScope s_Reckoner_look_for_look).names []) ["own", "self"] ws
        (fun vs H Q E => ∃ i : { i : Addr × Addr × Addr // ws = [some (.ref i.1), some (.ref A.R)] }, spWB (At2 C Tb A hh i.1.1) (FrS Tb (i.1.1 :: A.own)) (ErK CN CR) (J2 hh beta (st.asked ++ [t])) (lkOwn (lkR hh n)) i.1.2.1 (NF.of s_Reckoner_look_for_look "look" nm_Reckoner_look_for_look (cloFrom (cxOf (L2.CX P w) P w K mg base N_Reckoner_look_for "Reckoner.look_for" (defScope s_Reckoner_look_for) f (.ref cL) cA outer s H E).env.cells (C8.fnScope s_Reckoner_look_for_look).names []) i.1.2.2) (Val hh) dm vs H Q E) := fun ws =>
      calC_any Dw fun i => by
        obtain ⟨⟨D, fl, c'⟩, rfl⟩ := i
        by_cases hz : 1 ≤ hh.recs.length
        · exact ok_worth_by T Dw C_put (frOk2 C Tb A hh D) hlk (Nat.le_add_left _ _) (nok_look ZReckoner HH hsz (by rw [List.length_append]; simp only [List.length_cons, List.length_nil]; omega) ML) dm
        · exact ok_worth_by T Dw C_put (frOk2 C Tb A hh D) hlk (Nat.le_add_left _ _) (nok_look ZReckoner HH hsz (by rw [List.length_append]; simp only [List.length_cons, List.length_nil]; omega) ML) dm
    have CAPS : (cxOf (L2.CX P w) P w K mg base N_Reckoner_look_for "Reckoner.look_for" (defScope s_Reckoner_look_for) f (.ref cL) cA outer s H E).Ok → Caps (cxOf (L2.CX P w) P w K mg base N_Reckoner_look_for "Reckoner.look_for" (defScope s_Reckoner_look_for) f (.ref cL) cA outer s H E) (cloFrom (cxOf (L2.CX P w) P w K mg base N_Reckoner_look_for "Reckoner.look_for" (defScope s_Reckoner_look_for) f (.ref cL) cA outer s H E).env.cells (C8.fnScope s_Reckoner_look_for_look).names []) ["own", "self"] [4, 0] :=
      fun ok => Caps.made ok (ndef_free nd_Reckoner_look_for_look) (ndef_fr nd_Reckoner_look_for_look) rfl
    refine ⟨_, (pss_cons (ps_if (pt_cmp (pc_din hu (pv 1) (pe_fld (pv 0) rfl)))
        (pss_one (ps_ret (pe_dget hu (pe_fld (pv 0) rfl) (pv 1) (fun _ _ => rfl))))
        pss_nil)
      (pss_cons (ps_if (pt_cmp (pc_din hu (pv 1) (pe_fld (pv 0) rfl)))
        (pss_cons (ps_dput hu (pe_fld (pv 0) rfl) (pv 1) (pe_dget hu (pe_fld (pv 0) rfl) (pv 1) (fun _ _ => rfl)) rfl)
      (pss_one (ps_ret (pe_dget hu (pe_fld (pv 0) rfl) (pv 1) (fun _ _ => rfl)))))
        pss_nil)
      (pss_cons (ps_if (pt_cmp (pc_dnotin hu (pv 1) (pe_fld (pv 0) rfl)))
        (pss_one (ps_raise rfl (takes_of rfl rfl rfl rfl) (pmk_oex ZNoName.oex ZNoName.iC ZNoName.tI F_NoName___init__ (hr.mono (by first | decide | omega)) B_NoName___init__ .nil pass0 rfl ZNoName.g (pa_cons (pv 1) pa_nil))))
        pss_nil)
      (pss_cons (ps_if (pt_cmpR op_in_seq (pv 1) (pe_fld (pv 0) rfl) (by with_unfolding_all rfl))
        (pss_one (ps_raise rfl (takes_of rfl rfl rfl rfl) (pmk_oex ZRing.oex ZRing.iC ZRing.tI F_Ring___init__ (hr.mono (by first | decide | omega)) B_Ring___init__ .nil pass0 rfl ZRing.g (pa_cons (pe_op op_cat (pe_slice (r := rSlL K) sl_list (pe_fld (pv 0) rfl) (po_some (pe_bm PySem.F.plainAttrs_list PySem.F.slot_list_index PySem.F.type_list_index mt_index (pe_fld (pv 0) rfl) (pa_cons (pv 1) pa_nil))) po_none) (pe_lst (pa_cons (pv 1) pa_nil))) pa_nil))))
        pss_nil)
      (pss_cons (ps_expr (pe_bm PySem.F.plainAttrs_list PySem.F.slot_list_append PySem.F.type_list_append mt_append (pe_fld (pv 0) rfl) (pa_cons (pv 1) pa_nil)))
      (pss_cons (ps_set (i := 4) sc_Reckoner_look_for.nd rfl (Or.inr rfl) pe_dnewK)
      (pss_cons (ps_ndefMS (st := s_Reckoner_look_for_look) (i := 2) (nm := fun _ _ => nm_Reckoner_look_for_look) rfl TB_Reckoner_look_for_look HC_Reckoner_look_for_look HM_Reckoner_look_for_look rfl HU_Reckoner_look_for_look (ndef_free nd_Reckoner_look_for_look) rfl rfl rfl sc_Reckoner_look_for.nd rfl (Or.inl rfl) (Or.inl rfl))
      (pss_cons (ps_set (i := 3) sc_Reckoner_look_for.nd rfl (Or.inl rfl) (pe_callM C_worth_by CAPS (hr.mono (by first | decide | omega)) (passes_call (takes_of rfl rfl rfl rfl) (fun _ _ _ _ h => h)) (pa_cons (pe_dget hu (pe_fld (pv 0) rfl) (pv 1) (fun _ _ => rfl)) (pa_cons (pv 2) pa_nil))))
      (pss_cons (ps_expr (pe_bm0 PySem.F.plainAttrs_list PySem.F.slot_list_pop PySem.F.type_list_pop mt_pop (pe_fld (pv 0) rfl)))
      (pss_cons (ps_dput hu (pe_fld (pv 0) rfl) (pv 1) (pe_lock (pe_lc (own := [("other", 5)]) (g := gName 5)  (by rfl) sc_Reckoner_look_for.nd  (pi_keys (pv 4)) (blkOk_by (own := [("other", 5)]) (N := N_Reckoner_look_for) (sc := defScope s_Reckoner_look_for) (by decide +kernel)) (fun _ _ _ _ _ => (pg_name (i := 5) sc_Reckoner_look_for.nd rfl (Or.inl rfl))) (fun _ _ _ _ _ => pts_nil) (fun _ _ _ _ _ => (pe_tup (pa_cons (pv 5) (pa_cons (pe_dget hu (pv 4) (pv 5) (fun _ _ => rfl)) pa_nil)))))) rfl)
      (pss_cons (ps_dput hu (pe_fld (pv 0) rfl) (pv 1) (pv 3) rfl)
      (pss_one (ps_ret (pv 3)))))))))))))), ?_⟩
    unfold lkR at q
    refine ⟨_, rfl, _, rfl, A.R, C, dx, _, _, rfl, hR, ZReckoner.cl, ZReckoner.nK, lK, A.kD, _, rfl, DGet.k (k := kT (SX.S t)) hA.kn, _, rfl, ?_⟩
    rw [val_seen]
    cases e1 : seen st.known t with
    | some v =>
      rw [e1] at q
      have dV : DGet H A.kD (.str (SX.S t)) (some (.int v)) := (show valV (numsK st.known) (kT (SX.S t)) = some (.int v) by rw [val_seen, e1]; rfl) ▸ DGet.k (k := kT (SX.S t)) hA.kn
      refine iteT ?_
      exact ⟨_, rfl, A.R, C, dx, _, _, rfl, hR, ZReckoner.cl, ZReckoner.nK, lK, _, rfl, A.kD, _, rfl, dV, q H (FrS.refl _ H) hA⟩
    | none =>
      rw [e1] at q
      refine iteF ?_
      refine ⟨_, rfl, _, rfl, A.R, C, dx, _, _, rfl, hR, ZReckoner.cl, ZReckoner.nG, lG, A.gD, _, rfl, DGet.k (k := kT (SX.S t)) hA.gv, _, rfl, ?_⟩
      rw [val_seen]
      cases e2 : seen hh.given t with
      | some v =>
        rw [e2] at q
        have dV : DGet H A.gD (.str (SX.S t)) (some (.int v)) := (show valV (numsK hh.given) (kT (SX.S t)) = some (.int v) by rw [val_seen, e2]; rfl) ▸ DGet.k (k := kT (SX.S t)) hA.gv
        refine iteT ?_
        refine ⟨_, rfl, A.R, C, dx, _, _, rfl, hR, ZReckoner.cl, ZReckoner.nG, lG, _, rfl, A.gD, _, rfl, dV, ?_⟩
        refine ⟨_, rfl, A.R, C, dx, _, _, rfl, hR, ZReckoner.cl, ZReckoner.nK, lK, _, rfl, A.kD, _, rfl, DPut.k (k := kT (SX.S t)) hA.kn (lt_line (by rw [numsK_len]; omega)), ?_⟩
        rw [nums_putA]
        have hA2 := hA.known t v
        obtain ⟨dx2, fs2, hR2, lG2, _, _, _, _, _⟩ := hA2.ins
        have dV2 : DGet (upd H A.kD (.dK (numsK (putA st.known t v)))) A.gD (.str (SX.S t)) (some (.int v)) := (show valV (numsK hh.given) (kT (SX.S t)) = some (.int v) by rw [val_seen, e2]; rfl) ▸ DGet.k (k := kT (SX.S t)) hA2.gv
        exact ⟨_, rfl, A.R, C, dx2, _, _, rfl, hR2, ZReckoner.cl, ZReckoner.nG, lG2, _, rfl, A.gD, _, rfl, dV2, q _ (FrS.upd (List.mem_cons_self ..) (.inl ⟨_, hA.kn⟩)) hA2⟩
      | none =>
        rw [e2] at q
        refine iteF ?_
        refine ⟨_, rfl, _, rfl, A.R, C, dx, _, _, rfl, hR, ZReckoner.cl, ZReckoner.nR, lR, A.rD, _, rfl, DGet.rd (k := kT (SX.S t)) hrD, _, rfl, ?_⟩
        rcases KvR.get (t := t) hrR with ⟨e3, e4⟩ | ⟨r, rv, e3, e4, hrec⟩
        · rw [rcp_seen] at e3
          rw [e3] at q
          rw [e4]
          refine iteT ?_
          refine ⟨_, rfl, (by show 1 ≤ 1000; decide), fun a na => ⟨a, .str (SX.S t), rfl, upd_same, fun d nd nda => ⟨rfl, d, _, upd_same, by rw [upd_ne nda]; exact upd_same, by rw [upd_ne nda] at nd; exact nd, ?_⟩⟩⟩
          rw [upd_ne nda] at nd
          exact q H (FrS.refl _ H) d _ (flown2 na nd) nd upd_same
        · rw [rcp_seen] at e3
          rw [e3] at q
          rw [e4]
          refine iteF ?_
          refine ⟨_, rfl, _, rfl, A.R, C, dx, _, _, rfl, hR, ZReckoner.cl, ZReckoner.nA, lA, A.aL, _, rfl, .inl (SqL.of hA.ask), rfl, txs_flat _, _, rfl, ?_⟩
          rw [if_neg (by decide), in_txs]
          by_cases c : t ∈ st.asked
          · simp only [if_pos c] at q
            refine iteY c ?_
            obtain ⟨hj, hfirst⟩ := first_at c
            have hjl := (List.getElem?_eq_some_iff.mp hj).1
            have hjt : (txs st.asked)[st.asked.idxOf t]? = some (.str (SX.S t)) := by
              rw [txs_get hjl, Option.some.inj ((List.getElem?_eq_getElem hjl).symm.trans hj)]
            refine ⟨_, rfl, A.R, C, dx, _, _, rfl, hR, ZReckoner.cl, ZReckoner.nA, lA, _, rfl, A.R, C, dx, _, _, rfl, hR, ZReckoner.cl, ZReckoner.nA, lA, .inl ⟨rfl, _, .inl (.inl hA.ask)⟩, _, rfl, A.aL, _, _, st.asked.idxOf t, _, rfl, rfl, SqL.of hA.ask, rfl, txs_flat _, hjt, by rw [strV_eq]; exact decide_eq_true rfl, fun m z' hm hz => ?_, ((st.asked.idxOf t : Nat) : Int), rfl, A.aL, _, rfl, SqL.of hA.ask, fun p1 np1 => ?_⟩
            · have hml : m < st.asked.length := by omega
              rw [txs_get hml] at hz
              obtain rfl := Option.some.inj hz
              rw [strV_eq]
              exact decide_eq_false (hfirst m _ hm (List.getElem?_eq_getElem hml))
            rw [cutV_from, txs_drop]
            have s1 := same_new np1 (.lst (txs (st.asked.drop (st.asked.idxOf t))))
            refine ⟨_, rfl, (by show 1 ≤ sizeLine; decide), fun p2 np2 => ?_⟩
            have s2 := s1.trans (same_new np2 (.lst [.str (SX.S t)]))
            have n12 : p1 ≠ p2 := ne_of_none upd_same np2
            refine ⟨p1, p2, _, _, rfl, rfl, by rw [upd_ne n12]; exact upd_same, upd_same, le_line (by rw [txs_len, List.length_drop]; show _ + 1 ≤ _; omega), fun p3 np3 => ?_⟩
            rw [txs_snoc]
            have s3 := s2.trans (same_new np3 (.lst (txs (st.asked.drop (st.asked.idxOf t) ++ [t]))))
            refine ⟨(by show 1 ≤ 1000; decide), fun a na => ⟨a, p3, _, rfl, upd_same, by rw [upd_ne (ne_of_none upd_same na)]; exact upd_same, fun M d nM nMa ndM nd nda => ⟨rfl, d, _, upd_same, by rw [upd_ne nda]; exact upd_same, by rw [upd_ne nda] at nd; exact nd, ?_⟩⟩⟩
            rw [upd_ne nda] at nd
            rw [upd_ne nMa] at nM
            refine q H (FrS.refl _ H) d M _ (fun b o e => ?_) (s3.free nd) (s3.free nM) upd_same ?_
            · have e3 := s3 _ _ e
              rw [upd_ne (ne_of_none e3 nd), del_ne (ne_of_none e3 na), upd_ne (ne_of_none e3 na), upd_ne (ne_of_none e3 nd), upd_ne (ne_of_none e3 nM), upd_ne (ne_of_none e3 na)]
              exact e3
            · rw [upd_ne ndM.symm, del_ne nMa, upd_ne nMa, upd_ne ndM.symm]
              exact upd_same
          · simp only [if_neg c] at q
            refine iteN c ?_
            have hmem := rcpOf_mem e3
            obtain ⟨_, hwn, hdp⟩ := HH.rcp _ hmem
            obtain ⟨ho1, ct⟩ := hO.ask e3 e1 c
            have hl2 := ho1.len
            have hl3 : st.asked.length + 1 + st.read.length ≤ hh.recs.length := by
              have := hl2
              rw [show ({ st with asked := st.asked ++ [t] } : RkS).asked = st.asked ++ [t] from rfl, List.length_append] at this
              exact this
            refine ⟨_, rfl, A.R, C, dx, _, _, rfl, hR, ZReckoner.cl, ZReckoner.nA, lA, .inl ⟨rfl, _, .inl (.inl hA.ask)⟩, _, rfl, A.aL, _, _, rfl, rfl, hA.ask, lt_line (by rw [txs_len]; omega), ?_⟩
            rw [txs_snoc]
            have hA1 := hA.asking (st.asked ++ [t])
            have f1 : FrS Tb A.own H (upd H A.aL (.lst (txs (st.asked ++ [t])))) := FrS.upd (by unfold RkA.own; simp) (.inr ⟨_, hA.ask⟩)
            refine fun D nD => ?_
            have s12 := same_new nD (.dK [])
            have hA2 := hA1.same s12
            refine ⟨hA2.tab, fun fl c' H3 ext3 n3 tab3 nf hf3 hc3 => ?_⟩
            have f3 : FrS Tb [] _ H3 := FrS.ext ext3 n3 tab3
            have hA3 := hA2.fr f3 (fun _ h => nomatch h)
            have hD3 : H3 D = some (.dK (numsK [])) := ext3 D _ upd_same (fun ps z => by cases z)
            obtain ⟨dx3, fs3, hR3, _, lR3, _, _, _, _⟩ := hA3.ins
            obtain ⟨rkv3, hrD3, hrR3⟩ := hA3.rc
            have nDg : ∀ {x u}, upd H A.aL (.lst (txs (st.asked ++ [t]))) x = some u → D ≠ x := fun e => (ne_of_none e nD).symm
            obtain ⟨rkv1, hrD1, _⟩ := hA1.rc
            obtain ⟨fkv1, hfD1, _⟩ := hA1.rd
            have hne : D ≠ A.gD ∧ D ≠ A.rD ∧ D ≠ A.kD ∧ D ≠ A.fD := ⟨nDg hA1.gv, (hrD1.elim (fun e => nDg e) fun ⟨_, e⟩ => nDg e), nDg hA1.kn, nDg hfD1⟩
            rcases KvR.get (t := t) hrR3 with ⟨z, _⟩ | ⟨r', rv3, z, e43, hrec3⟩
            · rw [rcp_seen, e3] at z
              cases z
            obtain rfl : r' = r := by rw [rcp_seen, e3] at z; exact (Option.some.inj z).symm
            have dV3 : DGet H3 A.rD (.str (SX.S t)) (some rv3) := e43 ▸ DGet.rd (k := kT (SX.S t)) hrD3
            have nD0 : H D = none := f1.2.1 D nD
            have f03 : FrS Tb (D :: A.own) H H3 := (f1.mono fun x hx => List.mem_cons_of_mem _ hx).trans ((FrS.of s12).trans (f3.mono fun x hx => nomatch hx))
            refine ⟨_, rfl, A.R, C, dx3, _, _, rfl, hR3, ZReckoner.cl, ZReckoner.nR, lR3, _, rfl, A.rD, _, rfl, dV3, _, rfl, ⟨(D, fl, c'), rfl⟩, rv3, r', ({ st with asked := st.asked ++ [t] }, []), rfl, hrec3, hwn, hdp, HH.fit _ hmem e2, ⟨hA3, hD3, hne⟩, ⟨ho1, rfl, OwnOk.nil _ _⟩, hf3, hc3, ?_⟩
            cases e4 : wk (lkOwn (lkR hh n)) r' ({ st with asked := st.asked ++ [t] }, []) with
            | err x =>
              rw [e4] at q
              exact fun H4 f4 => q H4 ((f03.trans f4).drop nD0)
            | ok v p =>
              rw [e4] at q
              intro H4 f4 A4
              obtain ⟨o4, a4, l4, w4, b4⟩ := wk_step (A := st.asked ++ [t]) (fun s t v s' o _ ht e => lkR_step HH.n n s t v s' o ht e) hwn (p := ({ st with asked := st.asked ++ [t] }, [])) ho1 rfl (OwnOk.nil _ _) e4
              obtain ⟨hA4, hD4, _⟩ := A4
              obtain ⟨dx4, fs4, hR4, _, _, _, _, lA4, _⟩ := hA4.ins
              obtain ⟨hp1, hp2⟩ := txs_pop st.asked t
              rw [← a4] at hp1 hp2
              have hown : p.2.length ≤ hh.given.length + hh.recs.length := w4.len o4
              refine ⟨_, rfl, A.R, C, dx4, _, _, rfl, hR4, ZReckoner.cl, ZReckoner.nA, lA4, .inl ⟨rfl, _, .inl (.inl hA4.ask)⟩, A.aL, _, _, rfl, rfl, hA4.ask, hp2, ?_⟩
              rw [hp1]
              have hA5 := hA4.asking st.asked
              have f45 : FrS Tb A.own H4 (upd H4 A.aL (.lst (txs st.asked))) := FrS.upd (by unfold RkA.own; simp) (.inr ⟨_, hA4.ask⟩)
              have hD5 : upd H4 A.aL (.lst (txs st.asked)) D = some (.dK (numsK p.2)) := by
                rw [upd_ne (fun z => by have := hA4.ask; rw [← z, hD4] at this; cases this)]
                exact hD4
              obtain ⟨H5, e5⟩ : ∃ H5, H5 = upd H4 A.aL (.lst (txs st.asked)) := ⟨_, rfl⟩
              rw [← e5] at hA5 f45 hD5 ⊢
              refine ⟨D, _, hD5, trivial, fun od => ?_⟩
              have sF : ∀ b u, b ≠ D → H5 b = some u → (upd H5 D (.frz od (.dK (numsK p.2)))) b = some u := fun b u n e => by rw [upd_ne n]; exact e
              refine ⟨_, rfl, D, od, rfl, .inl ⟨_, upd_same, fun M nM => ?_⟩⟩
              have nMD : M ≠ D := fun z => by rw [z, upd_same] at nM; cases nM
              have nM5 : H5 M = none := by rw [upd_ne nMD] at nM; exact nM
              refine lc_it walk_keys (fun i G => G D = some (.frz od (.dK (numsK p.2))) ∧ (∀ b u, b ≠ D → H5 b = some u → G b = some u) ∧ ∃ acc, G M = some (.lst acc) ∧ Prs G (p.2.take i) acc) ⟨by rw [upd_ne nMD.symm]; exact upd_same, fun b u n e => by rw [upd_ne (ne_of_none e nM5), upd_ne n]; exact e, [], upd_same, trivial⟩ (fun i G _ h => h.1) (fun i x G G' hi hP hY => ?_) (fun G h => ?_)
              · obtain ⟨rfl, k, kv, hk, rfl⟩ := hY
                obtain ⟨g1, g2, acc, g3, g4⟩ := hP
                obtain ⟨pr, hpr, rfl, rfl⟩ := (numsR p.2).at hk
                have hil : i < p.2.length := (List.getElem?_eq_some_iff.mp hpr).1
                have hs := w4.seen_at hpr
                have dO : DGet G' D (.str (SX.S pr.1)) (some (.int pr.2)) := .inl ⟨_, kT (SX.S pr.1), .inr ⟨od, g1⟩, rfl, by rw [val_seen, hs]; rfl⟩
                refine ⟨rfl, _, rfl, _, rfl, _, rfl, D, _, rfl, dO, le_line (Nat.le_of_ble_eq_true rfl), fun u nu => ?_⟩
                have su := same_new nu (.tup [.str (SX.S pr.1), .int pr.2])
                have nMu : M ≠ u := ne_of_none g3 nu
                refine ⟨acc, by rw [upd_ne nMu]; exact g3, lt_line (by have := g4.len; rw [List.length_take] at this; omega), ?_, fun b v n e => ?_, acc ++ [.ref u], upd_same, ?_⟩
                · rw [upd_ne nMD.symm]; exact su _ _ g1
                · rw [upd_ne (ne_of_none e nM5)]; exact su _ _ (g2 b v n e)
                · rw [List.take_add_one, hpr]
                  refine Prs.snoc ?_ ((g4.same su).keep (keep_lst (by rw [upd_ne nMu]; exact g3)))
                  rw [upd_ne nMu.symm]
                  exact upd_same
              · obtain ⟨g1, g2, acc, g3, g4⟩ := h
                rw [numsK_len, List.take_length] at g4
                refine ⟨g1, ?_⟩
                have s6 : Same H5 (upd G D (.dK (numsK p.2))) := fun b u e => by
                  by_cases n : b = D
                  · rw [n] at e ⊢
                    rw [upd_same, ← e, hD5]
                  · rw [upd_ne n]
                    exact g2 b u n e
                have hA6 := hA5.same s6
                have hM6 : upd G D (.dK (numsK p.2)) M = some (.lst acc) := by rw [upd_ne nMD]; exact g3
                have hP6 : Prs (upd G D (.dK (numsK p.2))) p.2 acc := g4.keep fun b ys e => by rw [upd_ne (fun z => by rw [z, g1] at e; cases e)]; exact e
                obtain ⟨H6, e6⟩ : ∃ H6, H6 = upd G D (.dK (numsK p.2)) := ⟨_, rfl⟩
                rw [← e6] at s6 hA6 hM6 hP6 ⊢
                obtain ⟨dx6, fs6, hR6, _, _, lK6, lF6, _, _⟩ := hA6.ins
                obtain ⟨fkv6, hfD6, hfR6⟩ := hA6.rd
                have hnew6 : ∀ q ∈ fkv6, q.2 ≠ .ref M := fun q hq z => by
                  obtain ⟨fkv5, hfD5, hfR5⟩ := hA5.rd
                  have e56 := s6 _ _ hfD5
                  rw [hfD6] at e56
                  cases e56
                  obtain ⟨_, L, xs, e7, _, _, hL, _⟩ := hfR5.mem q hq
                  rw [e7] at z
                  cases z
                  rw [nM5] at hL
                  cases hL
                have hnt6 : ¬ t ∈ p.1.read.map (·.1) := fun z => by
                  have := o4.nd
                  rw [a4] at this
                  exact (List.nodup_append.mp this).2.2 t (List.mem_append_right _ (List.mem_singleton.mpr rfl)) t z rfl
                have nMa : M ≠ A.aL := fun z => by rw [z, hA5.ask] at nM5; cases nM5
                refine ⟨_, rfl, A.R, C, dx6, _, _, rfl, hR6, ZReckoner.cl, ZReckoner.nF, lF6, _, rfl, A.fD, _, rfl, DPut.k (k := kT (SX.S t)) hfD6 (lt_line (by have := hfR6.len; have := o4.len; have e : ({ p.1 with asked := st.asked } : RkS).read = p.1.read := rfl; rw [e] at *; omega)), ?_⟩
                have hA7 := hA6.reads hfD6 hfR6 t (own := p.2) (v := .ref M) ⟨M, acc, rfl, nMa, hA5.bas M nM5, hM6, hP6⟩ hnew6 hnt6
                have f67 : FrS Tb A.own H6 (upd H6 A.fD (.dK (putK fkv6 (kT (SX.S t)) (.ref M)))) := FrS.upd (by unfold RkA.own; simp) (.inl ⟨_, hfD6⟩)
                obtain ⟨H7, e7⟩ : ∃ H7, H7 = upd H6 A.fD (.dK (putK fkv6 (kT (SX.S t)) (.ref M))) := ⟨_, rfl⟩
                rw [← e7] at hA7 f67 ⊢
                obtain ⟨dx7, fs7, hR7, _, _, lK7, _, _, _⟩ := hA7.ins
                refine ⟨_, rfl, _, rfl, A.R, C, dx7, _, _, rfl, hR7, ZReckoner.cl, ZReckoner.nK, lK7, _, rfl, A.kD, _, rfl, DPut.k (k := kT (SX.S t)) hA7.kn (lt_line (by rw [numsK_len]; have := o4.klen; show p.1.known.length < _; omega)), ?_⟩
                have hA8 := hA7.known t v
                have f78 : FrS Tb A.own H7 (upd H7 A.kD (.dK (numsK (putA p.1.known t v)))) := FrS.upd (by unfold RkA.own; simp) (.inl ⟨_, hA7.kn⟩)
                rw [nums_putA]
                have fin := q _ (((((f03.trans f4).drop nD0).trans f45).trans (FrS.of s6)).trans (f67.trans f78))
                rw [show p.1.asked.dropLast = st.asked by rw [a4, List.dropLast_concat]] at fin
                exact ⟨_, rfl, fin hA8⟩
end
/-! ### a reckoner made; worth_of, reads_of -/
open LamX NdefX
theorem putF_le (f : Str) (v : V) : ∀ fs : List (Str × V), (putF f v fs).length ≤ fs.length + 1
  | [] => Nat.le_refl _
  | (g, y) :: r => by
    unfold putF
    by_cases c : g = f
    · rw [if_pos c]
      exact Nat.le_succ _
    · rw [if_neg c]
      exact Nat.succ_le_succ (putF_le f v r)
/-- what __init__ leaves -/
def spRkI (C : Addr) : Sp := fun vs H Q _ => ∃ (R dx p gD rD : Addr), vs = [.ref R, .ref p] ∧ H R = some (.ins C dx []) ∧ H p = some (.tup [.ref gD, .ref rD]) ∧
  ∀ (kD fD aL : Addr) (H' : Hp), H kD = none → H fD = none → H aL = none → kD ≠ fD → (∃ fs, H' R = some (.ins C dx fs) ∧ fs.lookup ("given" : Str) = some (.ref gD) ∧ fs.lookup ("recipes" : Str) = some (.ref rD) ∧ fs.lookup ("known" : Str) = some (.ref kD) ∧ fs.lookup ("read_for" : Str) = some (.ref fD) ∧ fs.lookup ("asked" : Str) = some (.ref aL) ∧ fs.lookup ("look_for" : Str) = none) →
    H' kD = some (.dK []) → H' fD = some (.dK []) → H' aL = some (.lst []) → (∀ b o, b ≠ R → H b = some o → H' b = some o) → Q .non H'
/-- a house stands at v -/
def HouseAt (H : Hp) (h : House) (v : V) : Prop := ∃ (p gD rD : Addr) (kvs : List (Key × V)), v = .ref p ∧ H p = some (.tup [.ref gD, .ref rD]) ∧ H gD = some (.dK (numsK h.given)) ∧ Rd H rD (.dK kvs) ∧ KvR (Rec H) h.recs kvs
theorem HouseAt.same {H H' : Hp} {h : House} {v : V} (a : HouseAt H h v) (s : Same H H') : HouseAt H' h v := by
  obtain ⟨p, gD, rD, kvs, e, h1, h2, h3, h4⟩ := a
  exact ⟨p, gD, rD, kvs, e, s _ _ h1, s _ _ h2, Rd.mp (fun _ e _ => s _ _ e) h3, h4.imp fun r v q => q.same s⟩
/-- what worth_of tells: the worth, or the error flies -/
def TellO2 (Tb : List NTab) (CN CR : Addr) (Q : VK) (E : XK) (H : Hp) (o : OutR RkS) (R : RkS → Int → V → Hp → Prop) : Prop := match o with
  | .ok v s => ∀ x H', FrS Tb [] H H' → R s v x H' → Q x H'
  | .err e => ∀ H', FrS Tb [] H H' → ErK CN CR e E H'
def spWorthOf (CN CR : Addr) (Tb : List NTab) (dm n : Nat) : Sp := fun vs H Q E => ∃ (v : V) (h : House) (beta : Nat → Nat) (t : List Nat), vs = [v, .str (SX.S t)] ∧ HouseOk dm h beta ∧ h.given.length + h.recs.length ≤ 100000 ∧ h.recs.length + 1 ≤ n ∧ HouseAt H h v ∧ TabsN Tb H ∧ Nm t ∧
  TellO2 Tb CN CR Q E H (lkR h n emptyS t) fun _ v x _ => x = .int v
/-- the reads put down for t, [] of a given one -/
def readsFor (s : RkS) (t : List Nat) : List Pr := (getA s.read t).getD []
def spReadsOf (CN CR : Addr) (Tb : List NTab) (dm n : Nat) : Sp := fun vs H Q E => ∃ (v : V) (h : House) (beta : Nat → Nat) (t : List Nat), vs = [v, .str (SX.S t)] ∧ HouseOk dm h beta ∧ h.given.length + h.recs.length ≤ 100000 ∧ h.recs.length + 1 ≤ n ∧ HouseAt H h v ∧ TabsN Tb H ∧ Nm t ∧
  TellO2 Tb CN CR Q E H (lkR h n emptyS t) fun s _ x H' => ∃ L xs, x = .ref L ∧ H L = none ∧ H' L = some (.lst xs) ∧ Prs H' (readsFor s t) xs
section
variable {P : Program} {w : World} {K : PySem.W.Frag} {mg : Str → Option Value} {base : Heap} {C fI CN CR : Addr} {Tb : List NTab}
abbrev s_Reckoner___init__ : Stmt := inClass (topS 28) 0
abbrev N_Reckoner___init__ : List Str := ["self", "house"]
theorem sc_Reckoner___init__ : FnScope N_Reckoner___init__ ["self", "house"] (defScope s_Reckoner___init__) := ⟨rfl, rfl, rfl, by decide +kernel, rfl, by decide +kernel, by decide +kernel⟩

theorem ok_Reckoner_init (T : Txt K mg) (ZReckoner : RkT K mg C fI) {fd : FuncData} (F : Fun K "__init__" "Reckoner.__init__" s_Reckoner___init__ fI fd) : FnOk P w K mg base CX0 1 fI fd ["self", "house"] (spRkI C) := by
  refine F.ok sc_Reckoner___init__ (fun vs H Q E h => ?_) (fun cdv A outer s H vs Q E hr h => ?_)
  · obtain ⟨R, dx, p, gD, rD, rfl, _⟩ := h
    rfl
  obtain ⟨R, dx, p, gD, rD, rfl, hR, hp, q⟩ := h
  refine ⟨_, (pss_cons (ps_asg (pv 1) (pg_tup rfl (pgs_cons (pg_fld (pv 0)) (pgs_cons (pg_fld (pv 0)) pgs_nil))))
      (pss_cons (ps_fld (pv 0) pe_dnewK rfl)
      (pss_cons (ps_fld (pv 0) pe_dnewK rfl)
      (pss_one (ps_fld (pv 0) (pe_lst pa_nil) rfl))))), ?_⟩
  have l1 := putF_le "given" (.ref gD) []
  have l2 := putF_le "recipes" (.ref rD) (putF "given" (.ref gD) [])
  refine ⟨_, rfl, p, _, rfl, SqT.of hp, rfl, _, _, rfl, _, rfl, R, C, dx, _, rfl, hR, ZReckoner.cl, ZReckoner.nG, (by show 0 < 1000; decide), _, _, rfl, _, rfl, R, C, dx, _, rfl, upd_same, ZReckoner.cl, ZReckoner.nR, (by simp only [List.length_nil] at l1; omega), rfl, ?_⟩
  refine fun kD nk => ?_
  have nRk : R ≠ kD := ne_of_none upd_same nk
  have nk0 : H kD = none := by rw [upd_ne nRk.symm, upd_ne nRk.symm] at nk; exact nk
  have l3 := putF_le "known" (.ref kD) (putF "recipes" (.ref rD) (putF "given" (.ref gD) []))
  refine ⟨_, rfl, R, C, dx, _, rfl, (by rw [upd_ne nRk]; exact upd_same), ZReckoner.cl, ZReckoner.nK, (by simp only [List.length_nil] at l1; omega), ?_⟩
  refine fun fD nf => ?_
  have nRf : R ≠ fD := ne_of_none upd_same nf
  have nkf : kD ≠ fD := ne_of_none (H := upd (upd (upd (upd H R _) R _) kD (.dK [])) R _) (by rw [upd_ne nRk.symm]; exact upd_same) nf
  have nf0 : H fD = none := by rw [upd_ne nRf.symm, upd_ne nkf.symm, upd_ne nRf.symm, upd_ne nRf.symm] at nf; exact nf
  have l4 := putF_le "read_for" (.ref fD) (putF "known" (.ref kD) (putF "recipes" (.ref rD) (putF "given" (.ref gD) [])))
  refine ⟨_, rfl, R, C, dx, _, rfl, (by rw [upd_ne nRf]; exact upd_same), ZReckoner.cl, ZReckoner.nF, (by simp only [List.length_nil] at l1; omega), ?_⟩
  refine ⟨Nat.zero_le _, fun aL na => ?_⟩
  have nRa : R ≠ aL := ne_of_none upd_same na
  have nfa : fD ≠ aL := ne_of_none (H := upd (upd (upd (upd (upd (upd H R _) R _) kD (.dK [])) R _) fD (.dK [])) R _) (by rw [upd_ne nRf.symm]; exact upd_same) na
  have nka : kD ≠ aL := ne_of_none (H := upd (upd (upd (upd (upd (upd H R _) R _) kD (.dK [])) R _) fD (.dK [])) R _) (by rw [upd_ne nRk.symm, upd_ne nkf, upd_ne nRk.symm]; exact upd_same) na
  have na0 : H aL = none := by rw [upd_ne nRa.symm, upd_ne nfa.symm, upd_ne nRa.symm, upd_ne nka.symm, upd_ne nRa.symm, upd_ne nRa.symm] at na; exact na
  refine ⟨_, rfl, R, C, dx, _, rfl, (by rw [upd_ne nRa]; exact upd_same), ZReckoner.cl, ZReckoner.nA, (by simp only [List.length_nil] at l1; omega), ?_⟩
  refine q kD fD aL _ nk0 nf0 na0 nkf ⟨_, upd_same, ?_⟩ ?_ ?_ ?_ (fun b o nb e => ?_)
  · have lk : ∀ f : Str, (putF "asked" (.ref aL) (putF "read_for" (.ref fD) (putF "known" (.ref kD) (putF "recipes" (.ref rD) (putF "given" (.ref gD) []))))).lookup f = if f = "asked" then some (.ref aL) else if f = "read_for" then some (.ref fD) else if f = "known" then some (.ref kD) else if f = "recipes" then some (.ref rD) else if f = "given" then some (.ref gD) else none := fun f => by
      rw [lookup_putF, lookup_putF, lookup_putF, lookup_putF, lookup_putF]
      rfl
    refine ⟨?_, ?_, ?_, ?_, ?_, ?_⟩
    · rw [lk, if_neg (by decide +kernel), if_neg (by decide +kernel), if_neg (by decide +kernel), if_neg (by decide +kernel), if_pos rfl]
    · rw [lk, if_neg (by decide +kernel), if_neg (by decide +kernel), if_neg (by decide +kernel), if_pos rfl]
    · rw [lk, if_neg (by decide +kernel), if_neg (by decide +kernel), if_pos rfl]
    · rw [lk, if_neg (by decide +kernel), if_pos rfl]
    · rw [lk, if_pos rfl]
    · rw [lk, if_neg (by decide +kernel), if_neg (by decide +kernel), if_neg (by decide +kernel), if_neg (by decide +kernel), if_neg (by decide +kernel)]
  · rw [upd_ne nRk.symm, upd_ne nka, upd_ne nRk.symm, upd_ne nkf, upd_ne nRk.symm]
    exact upd_same
  · rw [upd_ne nRf.symm, upd_ne nfa, upd_ne nRf.symm]
    exact upd_same
  · rw [upd_ne nRa.symm]
    exact upd_same
  · rw [upd_ne nb, upd_ne (ne_of_none e na0), upd_ne nb, upd_ne (ne_of_none e nf0), upd_ne nb, upd_ne (ne_of_none e nk0), upd_ne nb, upd_ne nb]
    exact e
theorem rd_ne {H : Hp} {a b : Addr} {u : HO} (r : Rd H a u) (n : H b = none) : a ≠ b := fun z => by rcases r with r | ⟨_, r⟩ <;> (rw [z, n] at r; cases r)
theorem rk_made {C R dx gD rD kD fD aL p : Addr} {Tb : List NTab} {h : House} {H H1 : Hp} {kvs : List (Key × V)} (nR : H R = none) (ndx : H dx = none) (hp : H p = some (.tup [.ref gD, .ref rD])) (hg : H gD = some (.dK (numsK h.given))) (hrd : Rd H rD (.dK kvs)) (hrr : KvR (Rec H) h.recs kvs) (hT : TabsN Tb H)
    (nk : upd (upd H dx (.own R)) R (.ins C dx []) kD = none) (nf : upd (upd H dx (.own R)) R (.ins C dx []) fD = none) (na : upd (upd H dx (.own R)) R (.ins C dx []) aL = none) (nkf : kD ≠ fD)
    (hfs : ∃ fs, H1 R = some (.ins C dx fs) ∧ fs.lookup ("given" : Str) = some (.ref gD) ∧ fs.lookup ("recipes" : Str) = some (.ref rD) ∧ fs.lookup ("known" : Str) = some (.ref kD) ∧ fs.lookup ("read_for" : Str) = some (.ref fD) ∧ fs.lookup ("asked" : Str) = some (.ref aL) ∧ fs.lookup ("look_for" : Str) = none)
    (hk : H1 kD = some (.dK [])) (hf : H1 fD = some (.dK [])) (ha : H1 aL = some (.lst [])) (hs : ∀ b o, b ≠ R → upd (upd H dx (.own R)) R (.ins C dx []) b = some o → H1 b = some o) :
    RkAt C Tb ⟨R, gD, rD, kD, fD, aL, H⟩ h emptyS H1 ∧ Same H H1 ∧ H kD = none ∧ H fD = none ∧ H aL = none := by
  have sm : Same H H1 := fun b o e => hs b o (ne_of_none e nR) (by rw [upd_ne (ne_of_none e nR), upd_ne (ne_of_none e ndx)]; exact e)
  have fr : ∀ {x}, upd (upd H dx (.own R)) R (.ins C dx []) x = none → H x = none := fun {x} e => by
    have n1 : x ≠ R := fun z => by rw [z, upd_same] at e; cases e
    rw [upd_ne n1] at e
    have n2 : x ≠ dx := fun z => by rw [z, upd_same] at e; cases e
    rwa [upd_ne n2] at e
  obtain ⟨fs, h1, h2⟩ := hfs
  refine ⟨⟨⟨dx, fs, h1, h2⟩, sm _ _ hg, ⟨kvs, Rd.mp (fun _ e _ => sm _ _ e) hrd, hrr.imp fun r v q => q.same sm⟩, hk, ⟨[], hf, trivial⟩, ha, hT.ext sm, (fun b e => sm.free e), ⟨nkf, ?_, ?_, ?_, ?_⟩, fun kvs e => by rw [hf] at e; cases e; exact List.nodup_nil⟩, sm, fr nk, fr nf, fr na⟩
  · exact ne_of_none hg (fr nk)
  · exact ne_of_none hg (fr nf)
  · exact rd_ne hrd (fr nk)
  · exact rd_ne hrd (fr nf)
/-- what a new reckoner works changes nothing that stood ahead of it -/
theorem FrS.news {Tb : List NTab} {A : RkA} {H H' : Hp} (f : FrS Tb A.own H H') {B : Hp} (s : Same B H) (n1 : B A.kD = none) (n2 : B A.fD = none) (n3 : B A.aL = none) : FrS Tb [] B H' :=
  ⟨fun x u _ t e => f.1 x u (fun hx => by
    rcases List.mem_cons.mp hx with rfl | hx
    · rw [n1] at e; cases e
    rcases List.mem_cons.mp hx with rfl | hx
    · rw [n2] at e; cases e
    rw [List.mem_singleton.mp hx, n3] at e
    cases e) t (s _ _ e), fun b e => s.free (f.2.1 b e), fun t => f.2.2 (t.ext s)⟩
end
/-! ### frames with tables, further -/
open LamX NdefX
section
variable {Tb : List NTab}
theorem FrS.seq {K : PySem.W.Frag} {S : List Addr} {H H' : Hp} {a : Addr} {xs : List V} (f : FrS Tb S H H') (n : a ∉ S) (h : SqL K H a xs) : SqL K H' a xs := h.imp (fun r => r.imp (fun r => f.1 _ _ n (fun _ z => nomatch z) r) fun ⟨o, r⟩ => ⟨o, f.1 _ _ n (fun _ z => nomatch z) r⟩) id
theorem FrS.dropAll {S : List Addr} {H H' : Hp} (f : FrS Tb S H H') (h : ∀ x ∈ S, H x = none) : FrS Tb [] H H' := ⟨fun x u _ t e => f.1 x u (fun m => by rw [h x m] at e; cases e) t e, f.2⟩
theorem FrS.dict1 {H H' : Hp} {p : Addr} {k : List (Key × V)} (h1 : H p = some (.dK k)) (h2 : ∀ b u, b ≠ p → H b = some u → H' b = some u) (h3 : ∀ b, H' b = none → H b = none) : FrS Tb [p] H H' :=
  ⟨fun x u n _ e => h2 x u (fun z => n (by rw [z]; exact List.mem_singleton.mpr rfl)) e, h3, fun t q hq => by
    obtain ⟨ps, t1, t2, t3⟩ := t q hq
    refine ⟨ps, h2 _ _ (fun z => by rw [z, h1] at t1; cases t1) t1, t2, fun pos cv hc => ?_⟩
    obtain ⟨c, e1, e2⟩ := t3 pos cv hc
    exact ⟨c, e1, h2 _ _ (fun z => by rw [z, h1] at e2; cases e2) e2⟩⟩
end
theorem FrS.trans' {Tb : List NTab} {R p : Addr} {A B C : Hp} {k : List (Key × V)} {o : HO} (f : FrS Tb [] A B) (g : FrS Tb [p] B C) (h : C R = some (.dK k)) : FrS Tb [R, p] A (L2.upd C R o) :=
  (FrS.mono f (fun _ h => nomatch h)).trans ((g.mono fun _ h => List.mem_cons_of_mem _ h).trans (FrS.upd List.mem_cons_self (.inl ⟨_, h⟩)))
/-! ### reckoners at rest -/
/-! #### in which order the records come, and where what is known comes from -/
structure Ord (h : House) (s : RkS) : Prop where
  at_ : ∀ i p, s.read[i]? = some p → ∀ u ∈ p.2.map (·.1), u ∈ h.given.map (·.1) ∨ u ∈ (s.read.take i).map (·.1)
  kno : ∀ p ∈ s.read, ∀ u ∈ p.2.map (·.1), u ∈ s.known.map (·.1)
/-- what one look adds -/
structure Grow (s s' : RkS) (t : List (List Nat)) : Prop where
  pre : ∃ l, s'.read = s.read ++ l
  src : ∀ u ∈ s'.known.map (·.1), u ∈ s.known.map (·.1) ∨ u ∈ t ∨ ∃ p ∈ s'.read, u ∈ p.2.map (·.1)
theorem Grow.refl (s : RkS) (t : List (List Nat)) : Grow s s t := ⟨⟨[], (List.append_nil _).symm⟩, fun _ h => .inl h⟩
theorem Grow.trans {s s1 s2 : RkS} {t t1 t2 : List (List Nat)} (f : Grow s s1 t1) (g : Grow s1 s2 t2) (h1 : ∀ u ∈ t1, u ∈ t) (h2 : ∀ u ∈ t2, u ∈ t) : Grow s s2 t := by
  obtain ⟨l1, e1⟩ := f.pre
  obtain ⟨l2, e2⟩ := g.pre
  refine ⟨⟨l1 ++ l2, by rw [e2, e1, List.append_assoc]⟩, fun u hu => ?_⟩
  rcases g.src u hu with hu | hu | hu
  · rcases f.src u hu with hu | hu | ⟨p, hp, hu⟩
    · exact .inl hu
    · exact .inr (.inl (h1 u hu))
    · exact .inr (.inr ⟨p, by rw [e2]; exact List.mem_append_left _ hp, hu⟩)
  · exact .inr (.inl (h2 u hu))
  · exact .inr (.inr hu)
theorem wk_grow {dm : Nat} {h : House} {beta : Nat → Nat} (HH : HouseN dm h beta) {lk : RkS → List Nat → OutR RkS} {A : List (List Nat)}
    (hlk : ∀ s t v s', RkOk h beta s → Coh h s → Ord h s → s.asked = A → Nm t → lk s t = .ok v s' → Step h beta s t v s' ∧ Coh h s' ∧ Ord h s' ∧ Grow s s' [t]) :
    ∀ {r : Rcp} {p p' : RkS × List Pr} {v : Int}, r.Wn → RkOk h beta p.1 → Coh h p.1 → Ord h p.1 → p.1.asked = A → wk (lkOwn lk) r p = .ok v p' → RkOk h beta p'.1 ∧ Coh h p'.1 ∧ Ord h p'.1 ∧ p'.1.asked = A ∧ Grow p.1 p'.1 (p'.2.map (·.1)) ∧ ∀ u ∈ p.2.map (·.1), u ∈ p'.2.map (·.1) := by
  have look : ∀ {t : List Nat} {p p' : RkS × List Pr} {v : Int}, Nm t → RkOk h beta p.1 → Coh h p.1 → Ord h p.1 → p.1.asked = A → lkOwn lk p t = .ok v p' → RkOk h beta p'.1 ∧ Coh h p'.1 ∧ Ord h p'.1 ∧ p'.1.asked = A ∧ Grow p.1 p'.1 (p'.2.map (·.1)) ∧ ∀ u ∈ p.2.map (·.1), u ∈ p'.2.map (·.1) := by
    intro t p p' v ht o c od a e
    obtain ⟨e1, e2⟩ := lkOwn_ok e
    obtain ⟨st, c1, o1, g1⟩ := hlk _ _ _ _ o c od a ht e1
    rw [e2]
    exact ⟨st.ok, c1, o1, st.asked.trans a, g1.trans (Grow.refl _ _) (fun u hu => by rw [List.mem_singleton.mp hu]; exact setd_keys.mpr (.inr rfl)) (fun _ h => h), fun u hu => setd_keys.mpr (.inl hu)⟩
  intro r
  induction r with
  | num n => intro p p' v _ o c od a e; cases e; exact ⟨o, c, od, a, Grow.refl _ _, fun _ h => h⟩
  | read t => exact fun w o c od a e => look w o c od a e
  | two kd a b ia ib =>
    intro p p' v w o c od ha e
    obtain ⟨x, p1, h1, h2⟩ := OutR.bind_ok e
    obtain ⟨y, p2, h3, h4⟩ := OutR.bind_ok h2
    cases h4
    obtain ⟨o1, c1, d1, a1, g1, k1⟩ := ia w.1 o c od ha h1
    obtain ⟨o2, c2, d2, a2, g2, k2⟩ := ib w.2 o1 c1 d1 a1 h3
    exact ⟨o2, c2, d2, a2, g1.trans g2 k2 (fun _ h => h), fun u hu => k2 u (k1 u hu)⟩
  | pick a b d ia ib id =>
    intro p p' v w o c od ha e
    obtain ⟨x, p1, h1, h2⟩ := OutR.bind_ok e
    obtain ⟨o1, c1, d1, a1, g1, k1⟩ := ia w.1 o c od ha h1
    by_cases z : x > 0
    · simp only [if_pos z] at h2
      obtain ⟨o2, c2, d2, a2, g2, k2⟩ := ib w.2.1 o1 c1 d1 a1 h2
      exact ⟨o2, c2, d2, a2, g1.trans g2 k2 (fun _ h => h), fun u hu => k2 u (k1 u hu)⟩
    · simp only [if_neg z] at h2
      obtain ⟨o2, c2, d2, a2, g2, k2⟩ := id w.2.2 o1 c1 d1 a1 h2
      exact ⟨o2, c2, d2, a2, g1.trans g2 k2 (fun _ h => h), fun u hu => k2 u (k1 u hu)⟩
  | choose a ns ia =>
    intro p p' v w o c od ha e
    obtain ⟨x, p1, h1, h2⟩ := OutR.bind_ok e
    obtain ⟨o1, c1, d1, a1, g1, k1⟩ := ia w.1 o c od ha h1
    obtain ⟨i, _, hi⟩ := nth_mem w.2.1 x
    obtain ⟨o2, c2, d2, a2, g2, k2⟩ := look (w.2.2.2 _ (List.mem_of_getElem? hi)) o1 c1 d1 a1 h2
    exact ⟨o2, c2, d2, a2, g1.trans g2 k2 (fun _ h => h), fun u hu => k2 u (k1 u hu)⟩
theorem lkR_grow {dm : Nat} {h : House} {beta : Nat → Nat} (HH : HouseN dm h beta) : ∀ (n : Nat) (s : RkS) (t : List Nat) (v : Int) (s' : RkS), RkOk h beta s → Coh h s → Ord h s → Nm t → lkR h n s t = .ok v s' → Ord h s' ∧ Grow s s' [t]
  | 0, s, t, v, s', _, _, _, _, e => by cases e
  | n + 1, s, t, v, s', o, c, od, ht, e => by
    have e0 := e
    unfold lkR at e
    cases e1 : seen s.known t with
    | some x =>
      rw [e1] at e
      cases e
      exact ⟨od, Grow.refl _ _⟩
    | none =>
      rw [e1] at e
      cases e2 : seen h.given t with
      | some x =>
        rw [e2] at e
        cases e
        refine ⟨⟨od.at_, fun p hp u hu => putA_mem.mpr (.inl (od.kno p hp u hu))⟩, ⟨[], (List.append_nil _).symm⟩, fun u hu => ?_⟩
        rcases putA_mem.mp hu with hu | rfl
        · exact .inl hu
        · exact .inr (.inl (List.mem_singleton.mpr rfl))
      | none =>
        rw [e2] at e
        cases e3 : rcpOf h.recs t with
        | none => rw [e3] at e; cases e
        | some r =>
          rw [e3] at e
          by_cases z : t ∈ s.asked
          · simp only [if_pos z] at e
            cases e
          · simp only [if_neg z] at e
            cases e4 : wk (lkOwn (lkR h n)) r ({ s with asked := s.asked ++ [t] }, []) with
            | err x => rw [e4] at e; cases e
            | ok w p =>
              rw [e4] at e
              cases e
              obtain ⟨o1, _⟩ := o.ask e3 e1 z
              have c0 : Coh h { s with asked := s.asked ++ [t] } := ⟨c.kn, c.rd, c.kr⟩
              have wn := (HH.rcp _ (rcpOf_mem e3)).2.1
              obtain ⟨o2, c2, d2, a2, g2, _⟩ := wk_grow HH (lk := lkR h n) (A := s.asked ++ [t]) (fun s1 u x s2 q1 b1 d1 a1 hu eu => by
                obtain ⟨x1, x2⟩ := lkR_grow HH n s1 u x s2 q1 b1 d1 hu eu
                exact ⟨lkR_step HH n s1 u x s2 q1 hu eu, (lkR_sound n s1 u x s2 b1 eu).2, x1, x2⟩) (p := ({ s with asked := s.asked ++ [t] }, [])) wn o1 c0 ⟨od.at_, od.kno⟩ rfl e4
              obtain ⟨_, _, _, q2, _⟩ := wk_step (lk := lkR h n) (A := s.asked ++ [t]) (fun s1 u x s2 q1 a1 hu eu => lkR_step HH n s1 u x s2 q1 hu eu) (p := ({ s with asked := s.asked ++ [t] }, [])) wn o1 rfl (OwnOk.nil _ _) e4
              have ct : ¬ t ∈ p.1.read.map (·.1) := fun z2 => (List.nodup_append.mp o2.nd).2.2 t (by rw [a2]; exact List.mem_append_right _ (List.mem_singleton.mpr rfl)) t z2 rfl
              have er : putA p.1.read t p.2 = p.1.read ++ [(t, p.2)] := putA_new _ ct
              obtain ⟨l, el⟩ := g2.pre
              refine ⟨⟨fun i q hq u hu => ?_, fun q hq u hu => ?_⟩, ⟨l ++ [(t, p.2)], ?_⟩, fun u hu => ?_⟩
              · have hq : (putA p.1.read t p.2)[i]? = some q := hq
                show _ ∨ u ∈ ((putA p.1.read t p.2).take i).map (·.1)
                rw [er] at hq ⊢
                by_cases hi : i < p.1.read.length
                · rw [List.getElem?_append_left hi] at hq
                  rw [List.take_append_of_le_length (Nat.le_of_lt hi)]
                  exact d2.at_ i q hq u hu
                · have : i = p.1.read.length := by
                    have := (List.getElem?_eq_some_iff.mp hq).1
                    rw [List.length_append] at this
                    simp only [List.length_cons, List.length_nil] at this
                    omega
                  subst this
                  rw [List.getElem?_append_right (Nat.le_refl _), Nat.sub_self] at hq
                  cases hq
                  rw [List.take_append_of_le_length (Nat.le_refl _), List.take_length]
                  exact c2.kr u (q2.kn u hu)
              · have hq : q ∈ putA p.1.read t p.2 := hq
                refine putA_mem.mpr (.inl ?_)
                rcases mem_putA hq with rfl | hq
                · exact q2.kn u hu
                · exact d2.kno q hq u hu
              · show putA p.1.read t p.2 = _
                rw [er, el, List.append_assoc]
              · show _ ∨ _ ∨ ∃ q ∈ putA p.1.read t p.2, _
                rw [er]
                rcases putA_mem.mp hu with hu | rfl
                · rcases g2.src u hu with hu | hu | ⟨q, hq, hu⟩
                  · exact .inl hu
                  · exact .inr (.inr ⟨(t, p.2), List.mem_append_right _ (List.mem_singleton.mpr rfl), hu⟩)
                  · exact .inr (.inr ⟨q, List.mem_append_left _ hq, hu⟩)
                · exact .inr (.inl (List.mem_singleton.mpr rfl))
/-- a reckoner at rest -/
structure Rest (h : House) (beta : Nat → Nat) (s : RkS) : Prop where
  ok : RkOk h beta s
  coh : Coh h s
  ord : Ord h s
  no : s.asked = []
theorem Rest.empty (h : House) (beta : Nat → Nat) : Rest h beta emptyS := ⟨emptyOk h beta, Coh.empty h, ⟨fun i p e => by simp [emptyS] at e, fun p hp => by simp [emptyS] at hp⟩, rfl⟩
theorem Rest.look {dm : Nat} {h : House} {beta : Nat → Nat} (HH : HouseOk dm h beta) {n : Nat} {s s' : RkS} {t : List Nat} {v : Int} (r : Rest h beta s) (ht : Nm t) (e : lkR h n s t = .ok v s') : Rest h beta s' ∧ Val h t v ∧ Grow s s' [t] ∧ t ∈ s'.known.map (·.1) ∧ ∀ u ∈ s.known.map (·.1), u ∈ s'.known.map (·.1) := by
  have st := lkR_step HH.n n s t v s' r.ok ht e
  obtain ⟨v1, c1⟩ := lkR_sound n s t v s' r.coh e
  obtain ⟨o1, g1⟩ := lkR_grow HH.n n s t v s' r.ok r.coh r.ord ht e
  exact ⟨⟨st.ok, c1, o1, st.asked.trans r.no⟩, v1, g1, st.got, st.mono⟩
theorem Rest.told {dm : Nat} {h : House} {beta : Nat → Nat} (HH : HouseOk dm h beta) {n : Nat} {s : RkS} {t : List Nat} {v : Int} (r : Rest h beta s) (ht : Nm t) (hv : Val h t v) (hn : h.recs.length + 1 ≤ n) : ∃ s', lkR h n s t = .ok v s' := by
  obtain ⟨m, hm⟩ := hv
  exact lkR_total HH.n n s t m v r.ok r.coh ht hm (fun a ha => by rw [r.no] at ha; cases ha) (by rw [r.no]; simpa using hn)
/-- the worth alone is told just where there is one -/
theorem alone_ok {dm : Nat} {h : House} {beta : Nat → Nat} (HH : HouseOk dm h beta) {n : Nat} {t : List Nat} {v : Int} (ht : Nm t) (hn : h.recs.length + 1 ≤ n) : (∃ s, lkR h n emptyS t = .ok v s) ↔ Val h t v :=
  ⟨fun ⟨_, e⟩ => ((Rest.empty h beta).look HH ht e).2.1, fun hv => (Rest.empty h beta).told HH ht hv hn⟩
/-- its reads -/
theorem alone_reads {dm : Nat} {h : House} {beta : Nat → Nat} (HH : HouseOk dm h beta) {n : Nat} {t : List Nat} {v : Int} {s : RkS} (ht : Nm t) (e : lkR h n emptyS t = .ok v s) : (seen h.given t = none ∧ Rds h t (readsFor s t)) ∨ (∃ x, seen h.given t = some x) ∧ readsFor s t = [] := by
  obtain ⟨r, hv, g, got, _⟩ := (Rest.empty h beta).look HH ht e
  have hr : ∀ own, getA s.read t = some own → Rds h t own := fun own e1 => by
    unfold getA at e1
    cases e2 : s.read.find? fun p => decide (p.1 = t) with
    | none => rw [e2] at e1; cases e1
    | some p =>
      rw [e2] at e1
      cases e1
      have := r.coh.rd p (List.mem_of_find?_eq_some e2)
      have h2 : p.1 = t := by
        have := List.find?_some e2
        exact of_decide_eq_true this
      rw [h2] at this
      exact this
  cases e1 : seen h.given t with
  | some x =>
    refine .inr ⟨⟨x, rfl⟩, ?_⟩
    unfold readsFor
    cases e2 : getA s.read t with
    | none => rfl
    | some own => have := (hr own e2).1; rw [e1] at this; cases this
  | none =>
    refine .inl ⟨rfl, ?_⟩
    have : t ∈ s.read.map (·.1) := (r.coh.kr t got).resolve_left fun z => by
      obtain ⟨p, hp, e3⟩ := List.mem_map.mp z
      unfold seen at e1
      rw [Option.map_eq_none_iff, List.find?_eq_none] at e1
      exact e1 p hp (decide_eq_true e3)
    unfold readsFor
    cases e2 : getA s.read t with
    | some own => exact hr own e2
    | none =>
      unfold getA at e2
      rw [Option.map_eq_none_iff, List.find?_eq_none] at e2
      obtain ⟨p, hp, e3⟩ := List.mem_map.mp this
      exact absurd (decide_eq_true e3) (e2 p hp)
end Mad
/-! ### tuples, lists made: what is told is a heap that keeps all -/
namespace L2
open PySem PySem.Spec PyProof.Rows
/-! one step of a walk, with the slots told anew -/
theorem in_name {i : Nat} {v : V} {σ σ' : St} {H : Hp} {Q : St → Hp → Prop} (e : σ.set i (some v) = σ') (h : Q σ' H) : gName i v σ H Q := by
  subst e
  exact h
theorem in_nx {nx bk ct : St → Hp → Prop} {rt : VK} {σ : St} {H : Hp} (h : nx σ H) : Ends.nx (Ends.mk nx rt bk ct) σ H := h
theorem in_seq {t u : TS} {D : Ends} {σ : St} {H : Hp} (h : t { D with nx := u D } σ H) : tSeq t u D σ H := h
theorem in_asg {te : TE} {g : TG} {D : Ends} {σ : St} {H : Hp} (h : te σ H fun x H1 => g x σ H1 D.nx) : tAsg te g D σ H := h
def SameU (A B : Hp) : Prop := ∀ b u, A b = some u → B b = some u
def tTupA (t : TA) : TE := fun σ H Q => t σ H fun xs H1 => xs.length ≤ sizeLine ∧ ∀ p H2, H1 p = none → SameU H1 H2 → H2 p = some (.tup xs) → Q (.ref p) H2
def tLstA (t : TA) : TE := fun σ H Q => t σ H fun xs H1 => xs.length ≤ sizeLine ∧ ∀ p H2, H1 p = none → SameU H1 H2 → H2 p = some (.lst xs) → Q (.ref p) H2
theorem sameU_new {H : Hp} {p : Addr} (h : H p = none) (o : HO) : SameU H (upd H p o) := fun b u q => by rw [upd_ne (ne_of_none q h)]; exact q
section
variable {X : Cx} {es : List Expr} {t : TA} {pos : Pos}
theorem pe_tupA {x1} (h : PA X es t) : PE X (.Tuple es x1 pos) (tTupA t) := by
  refine ⟨fun pins s σ H Q I hq => ?_⟩
  refine wpAny_Tuple_spliced (thn (h.run pos pins s σ H _ I hq) fun us s1 ⟨xs, H1, I1, r, z, q⟩ => ⟨by rw [← r.length]; exact z, ?_⟩)
  have hf : H1 s1.heap.objs.size = none := I1.hok.fresh (Nat.le_refl _)
  refine ⟨.ref s1.heap.objs.size, upd H1 s1.heap.objs.size (.tup xs), I1.laid (t' := s1.toks) (fun b u e => Heap.get?_push_of_some _ e) (Nat.le_refl _) ?_, rfl, q _ _ hf (sameU_new hf _) upd_same⟩
  exact ⟨z, us, r, ⟨_, Heap.get?_push_size _ rfl, rfl, _, rfl⟩⟩
theorem pe_lstA (h : PA X es t) : PE X (.List es pos) (tLstA t) := by
  refine ⟨fun pins s σ H Q I hq => ?_⟩
  refine wpAny_List_spliced (thn (h.run pos pins s σ H _ I hq) fun us s1 ⟨xs, H1, I1, r, z, q⟩ => ⟨by rw [← r.length]; exact z, ?_⟩)
  have hf : H1 s1.heap.objs.size = none := I1.hok.fresh (Nat.le_refl _)
  refine ⟨.ref s1.heap.objs.size, upd H1 s1.heap.objs.size (.lst xs), I1.laid (t' := s1.toks) (fun b u e => Heap.get?_push_of_some _ e) (Nat.le_refl _) ?_, rfl, q _ _ hf (sameU_new hf _) upd_same⟩
  exact ⟨z, us, 0, r, Heap.get?_push_size _ rfl⟩
def rCatU : R2 := fun x y H Q => ∃ l b xs zs, x = .ref l ∧ y = .ref b ∧ H l = some (.lst xs) ∧ H b = some (.lst zs) ∧ xs.length + zs.length ≤ sizeLine ∧ ∀ p H2, H p = none → SameU H H2 → H2 p = some (.lst (xs ++ zs)) → Q (.ref p) H2
theorem op_catU : OpR X (binaryOp .Add) rCatU := by
  intro pins s σ H x y v u Q I rx ry h
  obtain ⟨l, b, xs, zs, e1, e2, h1, h2, h3, q⟩ := h
  exact op_cat pins s σ H x y v u Q I rx ry ⟨l, b, xs, zs, e1, e2, h1, h2, h3, fun p np => q p _ np (sameU_new np _) upd_same⟩
end
end L2
namespace Mad
open PySem PySem.Spec PyProof.Rows L2
end Mad
/-! ### sorted of texts, any number of them: over the library's sort by any order -/
namespace MadSort
open PySem PyProof.Rows Srt SrtO
section
variable {prog : Program} {w : World} {A : Around} {s : Shared}
def tx : Value → List Nat
  | .str x _ => x.cps.toList
  | _ => []
def ltT (v u : Value) : Bool := decide (tx v < tx u)
theorem swoT : Swo ltT := by
  refine ⟨fun x y h => ?_, fun x y z h1 h2 => ?_⟩
  · have a : tx x < tx y := of_decide_eq_true h
    exact decide_eq_false (List.lt_asymm a)
  · have a : ¬ tx y < tx x := of_decide_eq_false h1
    have b : ¬ tx z < tx y := of_decide_eq_false h2
    exact decide_eq_false (List.not_lt.mpr (List.le_trans (List.not_lt.mp a) (List.not_lt.mp b)))
theorem memT : ∀ {vs : List Value} {ss : List Str}, StrsAre vs ss → ∀ v ∈ vs, ∃ x t, v = Value.str x t
  | _, _, .nil, v, h => by cases h
  | _, _, .cons y t r, v, h => by
    rcases List.mem_cons.mp h with e | e
    · exact ⟨y, t, e⟩
    · exact memT r v e
def ofTx (v : Value) : Str := ⟨(tx v).toArray⟩
theorem areT : ∀ {vs : List Value}, (∀ v ∈ vs, ∃ x t, v = Value.str x t) → StrsAre vs (vs.map ofTx)
  | [], _ => .nil
  | v :: vs, h => by
    obtain ⟨x, t, e⟩ := h v (List.mem_cons_self ..)
    subst e
    have ih := areT fun u hu => h u (List.mem_cons_of_mem _ hu)
    have ex : ofTx (Value.str x t) = x := by
      show (⟨x.cps.toList.toArray⟩ : Str) = x
      cases x; simp
    rw [List.map_cons, ex]
    exact .cons x t ih
theorem backT : ∀ {vs : List Value} {ss : List Str}, StrsAre vs ss → vs.map ofTx = ss
  | _, _, .nil => rfl
  | _, _, .cons y t r => by
    have ex : ofTx (Value.str y t) = y := by
      show (⟨y.cps.toList.toArray⟩ : Str) = y
      cases y; simp
    rw [List.map_cons, ex, backT r]
theorem sortableT {a : Addr} {vs : List Value} {ss : List Str} (hS : StrsAre vs ss) (h2 : 2 ≤ vs.length) : SortableO prog w A s a vs ltT := by
  intro h' _
  refine ⟨oneType', fun Q E hq => ?_, fun p q hp hq => ?_⟩
  · cases vs with
    | nil => simp at h2
    | cons v1 r =>
      cases r with
      | nil => simp at h2
      | cons v2 r =>
        rw [keyKind_strs hS]
        exact wpAny_pure hq
  · obtain ⟨x, t, e⟩ := memT hS _ hp
    obtain ⟨y, u, e'⟩ := memT hS _ hq
    show wpAny (model prog w) A (keyLt' oneType' p.1 q.1) (fun r s' => s' = _ ∧ r = ltT p.1 q.1) (fun _ _ => False) _
    rw [e, e', keyLt'_oneType]
    exact oneLt_str ⟨rfl, rfl⟩
theorem outT {vs out : List Value} {ss : List Str} (hS : StrsAre vs ss) (h1 : Srtd ltT out) (h2 : Stb ltT out vs) : StrsAre out (out.map ofTx) ∧ (out.map ofTx).Perm ss ∧ (out.map ofTx).Pairwise (fun x y => ¬ y.cps.toList < x.cps.toList) := by
  refine ⟨areT fun v hv => memT hS v (h2.perm.mem_iff.mp hv), ?_, ?_⟩
  · have z := h2.perm.map ofTx
    rwa [backT hS] at z
  · refine List.pairwise_map.mpr (h1.imp fun {x y} h => ?_)
    have z : ¬ tx y < tx x := of_decide_eq_false h
    show ¬ ((tx y).toArray.toList < (tx x).toArray.toList)
    simpa using z
end
end MadSort
namespace Mad
open PySem PySem.Spec PyProof.Rows L2
/-- texts in order -/
def Rising (ys : List (List Nat)) : Prop := ys.Pairwise fun x y => ¬ y < x
def rSortT (K : PySem.W.Frag) : List V → Hp → VK → Prop := fun vs H Q => ∃ (a : Addr) (ns : List (List Nat)), vs = [V.ref a] ∧ SqL K H a (txs ns) ∧
  ∀ (ys : List (List Nat)) (p : Addr), ys.Perm ns → Rising ys → H p = none → Q (.ref p) (upd H p (.lst (txs ys)))
/-- a dict of names -/
def nmKeys (kvs : List (Key × V)) (ns : List (List Nat)) : Prop := kvs.map (·.1) = ns.map fun s => Sum.inr (SX.S s)
def rSortTD (_ : PySem.W.Frag) : List V → Hp → VK → Prop := fun vs H Q => ∃ (a : Addr) (kvs : List (Key × V)) (ns : List (List Nat)), vs = [V.ref a] ∧ H a = some (.dK kvs) ∧ nmKeys kvs ns ∧
  ∀ (ys : List (List Nat)) (p : Addr), ys.Perm ns → Rising ys → H p = none → Q (.ref p) (upd H p (.lst (txs ys)))
theorem strs_back {ys : List Str} {ns : List (List Nat)} (hp : ys.Perm (ns.map SX.S)) (hs : ys.Pairwise fun x y => ¬ y.cps.toList < x.cps.toList) : ∃ zs : List (List Nat), ys = zs.map SX.S ∧ zs.Perm ns ∧ Rising zs := by
  refine ⟨ys.map (fun y => y.cps.toList), ?_, ?_, ?_⟩
  · rw [List.map_map]
    have : (SX.S ∘ fun y : Str => y.cps.toList) = id := by funext y; exact SX.S_tl y
    rw [this, List.map_id]
  · have z := hp.map (fun y : Str => y.cps.toList)
    rw [List.map_map] at z
    have : ((fun y : Str => y.cps.toList) ∘ SX.S) = id := by funext s; rfl
    rwa [this, List.map_id] at z
  · exact List.pairwise_map.mpr hs
section
variable {X : Cx}
theorem cr_sortT : CallR X (.builtin "sorted") (rSortT X.K) := by
  intro pins s σ H vs us Q I r h
  obtain ⟨a, ns, rfl, hs, q⟩ := h
  obtain ⟨its, rv, hl, hz⟩ := I.list hs
  rw [Vals.ref1 r]
  have hi := Vals.strs (xs := ns.map SX.S) rv
  have hlen0 := rv.length
  refine SrtO.sorted_ord MadSort.swoT hl.isList (by rw [← rv.length]; exact hz) (fun h2 h₁ a' _ _ => MadSort.sortableT hi h2) fun out h1 h2 => ?_
  obtain ⟨k1, k2, k3⟩ := MadSort.outT hi h1 h2
  obtain ⟨ep, he'⟩ := PyProof.Rows.sortedAll_at s.heap its out.toArray
  obtain ⟨zs, ez, zp, zr⟩ := strs_back k2 k3
  rw [ez] at k1
  have hlen : (txs zs).length ≤ sizeLine := by
    rw [txs_len, zp.length_eq]
    rw [txs_len] at hz
    exact hz
  exact ⟨.ref _, upd H (s.heap.objs.size + 1) (.lst (txs zs)), I.laid (t' := s.toks) (fun _ _ => PyProof.Rows.sortedAll_old) (Nat.le_succ _) ⟨hlen, out, ep, vals_of_strs k1, he'⟩, rfl, q zs _ zp zr (I.hok.fresh (Nat.le_succ _))⟩
theorem cr_sortTD (hcalm : X.calm = true) : CallR X (.builtin "sorted") (rSortTD X.K) := by
  intro pins s σ H xs us Q I r h
  obtain ⟨a, kvs, ns, ex, hd0, hk0, q⟩ := h
  subst ex
  obtain ⟨u, eu, rx⟩ := vals1 r
  subst eu
  cases rx
  have hd : Rd H a (.dK kvs) := .inl hd0
  obtain ⟨z, lo, vs, rel, dd⟩ := dk_rd I.hok hd
  obtain ⟨ep, hat⟩ := dd.dictAt
  have hkeys : vs.map (·.1) = (ns.map SX.S).map Sum.inr := by
    rw [rel.keys.symm, hk0, List.map_map]
    rfl
  have hl : vs.length = ns.length := by
    have e := congrArg List.length hkeys
    simpa using e
  have hkl : kvs.length = ns.length := by
    have e := congrArg List.length hk0
    simpa using e
  have h16 : vs.length ≤ sizeLine := by rw [hl, ← hkl]; exact z
  refine Calls.call_function_entry PyProof.Rows.kind_sorted PyProof.Rows.plain_sorted PyProof.Rows.entry_sorted (PyProof.Rows.args_sorted1 _) ?_
  unfold Builtin.«sorted»
  refine wpAny_bind (m := checkCount "sorted" 1 1 _) (wpAny_pure ?_)
  refine wpAny_bind ?_
  refine PySem.W.kdu_collect (A := X.A.in1) (PySem.W.kdl_dict (knd := mixKind X.prog X.w) (kvs := vs) (ep := ep) lo) (I.ok.hd hcalm) hat h16 fun h' tk acc hk hacc => ?_
  have hal : acc.toList.length = (ns.map SX.S).length := by
    rw [Array.length_toList, hacc.1, hl, List.length_map]
  have hS : StrsAre acc.toList (ns.map SX.S) := by
    refine strs_at hal fun j v e => ?_
    obtain ⟨k, x, e1, e2⟩ := hacc.2 j v (by rw [← Array.getElem?_toList]; exact e)
    have e3 : (vs.map (·.1))[j]? = some k := by
      rw [List.getElem?_map, e1]
      rfl
    rw [hkeys, List.getElem?_map] at e3
    cases e4 : (ns.map SX.S)[j]? with
    | none => rw [e4] at e3; cases e3
    | some y =>
      rw [e4] at e3
      have e5 : Sum.inr y = k := Option.some.inj e3
      subst e5
      obtain ⟨t, ev⟩ := Value.isStrOf_shape (x := y) (v := v) e2
      exact ⟨y, t, rfl, ev⟩
  have I1 : Inv X pins σ H { s with heap := h', toks := tk } := I.kept hk
  have hz2 : acc.toList.length ≤ sizeLine := by rw [hal, List.length_map, ← hkl]; exact z
  refine wpAny_bind (wpAny_newList ?_ hz2)
  have hoL : (h'.push (seqObj "list" acc.toList.toArray 0)).get? h'.objs.size = some (seqObj "list" acc.toList.toArray 0) := Heap.get?_push_size _ rfl
  show wpAny _ _ _ _ _ { s with heap := h'.push (seqObj "list" acc.toList.toArray 0), toks := tk }
  refine wpAny_bind (wpAny_holding (wpAny_call_entry PyProof.Rows.slot_list_sort ⟨_, hoL, rfl⟩ PyProof.Rows.entry_list_sort ?_ (PyProof.Rows.args_list_sort _)))
  refine SrtO.list_sort_ord MadSort.swoT hoL hz2 (fun h2 => MadSort.sortableT hS h2) fun out h1 h2 => ⟨_, rfl, ?_⟩
  obtain ⟨k1, k2, k3⟩ := MadSort.outT hS h1 h2
  obtain ⟨zs, ez, zp, zr⟩ := strs_back k2 k3
  rw [ez] at k1
  obtain ⟨e', he'⟩ := PyProof.Rows.sortedHeap_at (vs := acc.toList) (out := out.toArray) hoL
  have hlen : (txs zs).length ≤ sizeLine := by
    rw [txs_len, zp.length_eq, ← hkl]
    exact z
  refine wpAny_pure ⟨_, rfl, .ref h'.objs.size, upd H h'.objs.size (.lst (txs zs)), I1.laid (t' := tk) (fun b u e => ?_) (Nat.le_refl _) ?_, rfl, q zs _ zp zr (I1.hok.fresh (Nat.le_refl _))⟩
  · have hb : b < h'.objs.size := Heap.lt_size e
    rw [PyProof.Rows.sortedHeap_old (Nat.ne_of_lt hb) (by rw [size_push']; exact Nat.lt_succ_of_lt hb)]
    exact Heap.get?_push_of_some _ e
  · exact ⟨hlen, out, e', vals_of_strs k1, he'⟩
end
/-- xs.extend(t), t a tuple -/
def rExtendT : V → List V → Hp → VK → Prop := fun x vs H Q => ∃ l b xs zs, x = .ref l ∧ vs = [.ref b] ∧ H l = some (.lst xs) ∧ H b = some (.tup zs) ∧ xs.length + zs.length ≤ sizeLine ∧ Q .non (upd H l (.lst (xs ++ zs)))
theorem list_extend_by_tuple (l : Addr) (items : Array Value) (n : Nat) (b : Addr) (items2 : Array Value) (n2 : Nat) (dd : Option Addr) (sl : Array (Option Value))
    (hs0 : ¬(!items.isEmpty && Builtin.List.listTooLong (items.size + items2.size)) = true)
    (hs1 : items.size ≤ sizeLine)
    (hs2 : items.size + items2.size ≤ sizeLine + 1) :
    Meets (Builtin.«list.extend» ⟨[.ref l, .ref b], []⟩) (fun _ R s =>
      s.heap.get? l = some { cls := .type "list", dict := none, data := .seq items n, slots := #[] } ∧
      s.heap.get? b = some { cls := .type "tuple", dict := dd, data := .seq items2 n2, slots := sl } ∧
      R (.ok (.ret Value.none)) { s with heap := s.heap.update l (Obj.mapSeq fun x => x ++ items2), toks := s.toks }) :=
  .of_wp fun prog w A R s h => by
    obtain ⟨hp, g, d, tk, os⟩ := s
    obtain ⟨hl, hb, h⟩ := h
    have f1 := AutoSeq1.idx_int
    have f2 := AutoSeq1.sub_tuple_tuple
    have f3 := AutoSeq1.sub_list_list
    have f4 := AutoSeq1.sub_tuple_list
    have f5 := AutoSeq1.sub_list_tuple
    have hz' : (items ++ items2).size ≤ sizeLine + 1 := by rw [Array.size_append]; exact hs2
    wp_walk using (wpAny_updateSeq hl rfl (hz := hs1) (_hz' := hz')), wpAny_loadPart' hl, wpAny_loadPart' hb
    exact ⟨_, rfl, h⟩
section
variable {X : Cx}
theorem mt_extendT : MtM X "list.extend" rExtendT := by
  intro pins s σ H x vs v us Q I rx rv h
  obtain ⟨l, b, xs, zs, rfl, rfl, hH, hB, hz, q⟩ := h
  cases rx
  obtain ⟨u, rfl, ru⟩ := rv.one
  cases ru
  obtain ⟨z, its, n, r, hl, e⟩ := I.lstM hH
  obtain ⟨its2, r2, ⟨⟨cls, dd, data, sl⟩, ho, hc, n2, hd⟩, hs2⟩ := I.tuple (SqT.of (K := X.K) hB)
  simp only at hc hd
  subst hc hd
  have hl2 : its2.length = zs.length := r2.length.symm
  have hsz : its.toArray.size + its2.toArray.size ≤ sizeLine := by rw [List.size_toArray, List.size_toArray]; omega
  have hlong : ¬ (!its.toArray.isEmpty && Builtin.List.listTooLong (its.toArray.size + its2.toArray.size)) = true := by
    rw [notLongL hsz, Bool.and_false]; exact Bool.false_ne_true
  refine call_meets F.slot_list_extend ⟨_, e, rfl⟩ F.entry_list_extend (F.args_list_extend_2 _ _)
    (list_extend_by_tuple l its.toArray n b its2.toArray n2 dd sl hlong (by rw [List.size_toArray]; omega) (by omega)) ⟨e, ho, ?_⟩
  refine ⟨.non, _, I.lset (its' := its ++ its2) hH e (by simp) (r.append r2) ?_, rfl, q⟩
  rw [List.length_append]; omega
end
/-! ### the names of a recipe -/
def Rcp.all : Rcp → List (List Nat)
  | .num _ => []
  | .read s => [s]
  | .two _ a b => a.all ++ b.all
  | .pick a b c => a.all ++ (b.all ++ c.all)
  | .choose a ns => a.all ++ ns
/-- those of its own -/
def Rcp.own : Rcp → List (List Nat)
  | .read s => [s]
  | .choose _ ns => ns
  | _ => []
theorem all_good : ∀ {r : Rcp}, r.Good → ∀ s ∈ r.all, Nm s
  | .num _, _, s, h => by cases h
  | .read _, hg, s, h => by rw [List.mem_singleton.mp h]; exact hg
  | .two _ a b, hg, s, h => by
    rcases List.mem_append.mp h with h | h
    · exact all_good hg.1 s h
    · exact all_good hg.2 s h
  | .pick a b c, hg, s, h => by
    rcases List.mem_append.mp h with h | h
    · exact all_good hg.1 s h
    rcases List.mem_append.mp h with h | h
    · exact all_good hg.2.1 s h
    · exact all_good hg.2.2 s h
  | .choose a ns, hg, s, h => by
    rcases List.mem_append.mp h with h | h
    · exact all_good hg.1 s h
    · exact hg.2.2.2 s h
theorem all_len : ∀ {r : Rcp}, r.Good → r.all.length ≤ 9 * r.siz
  | .num _, _ => Nat.zero_le _
  | .read _, _ => (by decide : 1 ≤ 9 * 1)
  | .two _ a b, hg => by
    have h1 := all_len hg.1
    have h2 := all_len hg.2
    show (a.all ++ b.all).length ≤ 9 * (a.siz + b.siz + 1)
    rw [List.length_append]; omega
  | .pick a b c, hg => by
    have h1 := all_len hg.1
    have h2 := all_len hg.2.1
    have h3 := all_len hg.2.2
    show (a.all ++ (b.all ++ c.all)).length ≤ 9 * (a.siz + b.siz + c.siz + 1)
    rw [List.length_append, List.length_append]; omega
  | .choose a ns, hg => by
    have h1 := all_len hg.1
    have h2 := hg.2.2.1
    show (a.all ++ ns).length ≤ 9 * (a.siz + 1)
    rw [List.length_append]; omega
theorem own_len {r : Rcp} (hg : r.Good) : r.own.length ≤ 9 := by
  cases r with
  | choose a ns => exact hg.2.2.1
  | read s => exact (by decide : 1 ≤ 9)
  | _ => exact Nat.zero_le _
theorem own_good {r : Rcp} (hg : r.Good) : ∀ s ∈ r.own, Nm s := by
  cases r with
  | choose a ns => exact hg.2.2.2
  | read s => intro z hz; rw [List.mem_singleton.mp hz]; exact hg
  | _ => intro z hz; cases hz
theorem mem_all (r : Rcp) (s : List Nat) : s ∈ r.all ↔ s ∈ r.own ∨ ∃ x ∈ r.subs, s ∈ x.all := by
  cases r with
  | num n => simp [Rcp.all, Rcp.own, Rcp.subs]
  | read z => simp [Rcp.all, Rcp.own, Rcp.subs]
  | two k a b => simp [Rcp.all, Rcp.own, Rcp.subs]
  | pick a b c => simp [Rcp.all, Rcp.own, Rcp.subs]
  | choose a ns => simp [Rcp.all, Rcp.own, Rcp.subs]; exact Or.comm
/-- texts, each behind the one before -/
def SI (ys : List (List Nat)) : Prop := ys.Pairwise fun x y => x < y
theorem lt_tri {x y : List Nat} (h1 : ¬ x < y) (h2 : ¬ y < x) : x = y := List.le_antisymm (List.not_lt.mp h2) (List.not_lt.mp h1)
theorem si_of : ∀ {ys : List (List Nat)}, Rising ys → ys.Nodup → SI ys
  | [], _, _ => List.Pairwise.nil
  | y :: ys, h, n => by
    obtain ⟨h1, h2⟩ := List.pairwise_cons.mp h
    obtain ⟨n1, n2⟩ := List.nodup_cons.mp n
    refine List.pairwise_cons.mpr ⟨fun z hz => Decidable.byContradiction fun q => ?_, si_of h2 n2⟩
    have := lt_tri q (h1 z hz)
    rw [this] at n1
    exact n1 hz
theorem si_ext : ∀ {xs ys : List (List Nat)}, SI xs → SI ys → (∀ s, s ∈ xs ↔ s ∈ ys) → xs = ys
  | [], [], _, _, _ => rfl
  | [], y :: ys, _, _, h => by have := (h y).mpr (List.mem_cons_self ..); cases this
  | x :: xs, [], _, _, h => by have := (h x).mp (List.mem_cons_self ..); cases this
  | x :: xs, y :: ys, hx, hy, h => by
    obtain ⟨x1, x2⟩ := List.pairwise_cons.mp hx
    obtain ⟨y1, y2⟩ := List.pairwise_cons.mp hy
    have e : x = y := by
      rcases List.mem_cons.mp ((h x).mp (List.mem_cons_self ..)) with e | m
      · exact e
      rcases List.mem_cons.mp ((h y).mpr (List.mem_cons_self ..)) with e | m'
      · exact e.symm
      exact absurd (x1 y m') (List.lt_asymm (y1 x m))
    subst e
    have t : xs = ys := si_ext x2 y2 fun s => by
      constructor
      · intro m
        rcases List.mem_cons.mp ((h s).mp (List.mem_cons_of_mem _ m)) with e | m'
        · rw [e] at m
          exact absurd (x1 x m) (List.lt_irrefl x)
        · exact m'
      · intro m
        rcases List.mem_cons.mp ((h s).mpr (List.mem_cons_of_mem _ m)) with e | m'
        · rw [e] at m
          exact absurd (y1 x m) (List.lt_irrefl x)
        · exact m'
    rw [t]
theorem si_snoc {d0 : List (List Nat)} {s z : List Nat} (h : SI (d0 ++ [s])) (h2 : s < z) : SI (d0 ++ [s] ++ [z]) := by
  refine List.pairwise_append.mpr ⟨h, List.pairwise_singleton _ _, fun a ha b hb => ?_⟩
  rw [List.mem_singleton.mp hb]
  rcases List.mem_append.mp ha with m | m
  · exact List.lt_trans ((List.pairwise_append.mp h).2.2 a m s (List.mem_singleton.mpr rfl)) h2
  · rw [List.mem_singleton.mp m]; exact h2
/-- the keys of a dict of names -/
def keyN (s : List Nat) : Key := Sum.inr (SX.S s)
theorem keyN_inj {a b : List Nat} (h : keyN a = keyN b) : a = b := by
  have e : SX.S a = SX.S b := Sum.inr.inj h
  have := congrArg (fun y : Str => y.cps.toList) e
  exact this
theorem keyN_ne {a b : List Nat} (h : a ≠ b) : ¬ keyN a = keyN b := fun e => h (keyN_inj e)
/-- the dict of the names ns, each once -/
def NDict (kvs : List (Key × V)) (ns : List (List Nat)) : Prop := nmKeys kvs ns ∧ ns.Nodup
theorem nd_any {kvs : List (Key × V)} {ns : List (List Nat)} (h : nmKeys kvs ns) (s : List Nat) : (kvs.any fun kv => decide (kv.1 = keyN s)) = decide (s ∈ ns) := by
  have e : (kvs.any fun kv => decide (kv.1 = keyN s)) = (kvs.map (·.1)).any fun k => decide (k = keyN s) := by rw [List.any_map]; rfl
  rw [e, h, List.any_map]
  clear e h
  induction ns with
  | nil => rfl
  | cons a r ih =>
    rw [List.any_cons, ih]
    by_cases z : a = s
    · subst z
      simp
      exact .inl rfl
    · have : decide (s ∈ a :: r) = decide (s ∈ r) := by
        simp only [List.mem_cons]
        congr 1
        exact propext ⟨fun q => q.resolve_left fun w => z w.symm, .inr⟩
      rw [this]
      have : ((fun k => decide (k = keyN s)) ∘ fun s => Sum.inr (SX.S s)) a = false := decide_eq_false (keyN_ne z)
      rw [this, Bool.false_or]
theorem NDict.put {kvs : List (Key × V)} {ns : List (List Nat)} (h : NDict kvs ns) (s : List Nat) (v : V) : ∃ ns', NDict (putK kvs (keyN s) v) ns' ∧ (∀ x, x ∈ ns' ↔ x ∈ ns ∨ x = s) ∧ ns'.length ≤ ns.length + 1 := by
  obtain ⟨hk, hn⟩ := h
  by_cases m : s ∈ ns
  · refine ⟨ns, ⟨?_, hn⟩, fun x => ⟨.inl, fun q => q.elim id fun e => e ▸ m⟩, Nat.le_succ _⟩
    unfold putK nmKeys
    rw [if_pos (by rw [nd_any hk]; exact decide_eq_true m), List.map_map, ← hk]
    refine List.map_congr_left fun p _ => ?_
    show (if p.1 = keyN s then (p.1, v) else p).1 = p.1
    by_cases e : p.1 = keyN s
    · rw [if_pos e]
    · rw [if_neg e]
  · refine ⟨ns ++ [s], ⟨?_, ?_⟩, fun x => by rw [List.mem_append, List.mem_singleton], by rw [List.length_append]; exact Nat.le_refl _⟩
    · unfold putK nmKeys
      rw [if_neg (by rw [nd_any hk, decide_eq_false m]; exact Bool.false_ne_true), List.map_append, hk, List.map_append]
      rfl
    · exact nd_snoc hn m
theorem SI.nodup {ys : List (List Nat)} (h : SI ys) : ys.Nodup := List.Pairwise.imp (fun {a b} q (e : a = b) => by rw [e] at q; exact List.lt_irrefl b q) h
/-! ### new dicts of names over frames; looks, one after another -/
open LamX NdefX
theorem FrS.put0 {Tb : List NTab} {B X : Hp} {a : Addr} {o : HO} (f : FrS Tb [] B X) (n : B a = none) (d : DL X a) : FrS Tb [] B (L2.upd X a o) :=
  ((FrS.mono f fun _ h => nomatch h).trans (FrS.upd (S := [a]) (List.mem_singleton.mpr rfl) d)).dropAll fun x hx => by rw [List.mem_singleton.mp hx]; exact n
theorem FrS.at {Tb : List NTab} {B X : Hp} (f : FrS Tb [] B X) {x : Addr} {o : HO} (h : B x = some o) (t : ∀ ps, o ≠ .tbl ps) : X x = some o := f.1 x o (fun z => nomatch z) t h
theorem FrS.lst {Tb : List NTab} {B X : Hp} (f : FrS Tb [] B X) {x : Addr} {l : List V} (h : B x = some (.lst l)) : X x = some (.lst l) := f.at h fun _ z => nomatch z
theorem FrS.tup {Tb : List NTab} {B X : Hp} (f : FrS Tb [] B X) {x : Addr} {l : List V} (h : B x = some (.tup l)) : X x = some (.tup l) := f.at h fun _ z => nomatch z
theorem FrS.dk {Tb : List NTab} {B X : Hp} (f : FrS Tb [] B X) {x : Addr} {l : List (Key × V)} (h : B x = some (.dK l)) : X x = some (.dK l) := f.at h fun _ z => nomatch z
theorem FrS.kp {Tb : List NTab} {B X : Hp} (f : FrS Tb [] B X) : Keep B X := fun _ _ e => f.tup e
theorem FrS.house {Tb : List NTab} {B X : Hp} (f : FrS Tb [] B X) {h : House} {v : V} (a : HouseAt B h v) : HouseAt X h v := by
  obtain ⟨p, gD, rD, kvs, e, h1, h2, h3, h4⟩ := a
  exact ⟨p, gD, rD, kvs, e, f.tup h1, f.dk h2, Rd.mp (fun _ e t => f.at e t) h3, h4.imp fun r v q => q.keep f.kp⟩
theorem upd_self {H : Hp} {a : Addr} {o : HO} (h : H a = some o) : L2.upd H a o = H := by
  funext b
  by_cases c : b = a
  · rw [c, upd_same, h]
  · rw [upd_ne c]
theorem rise_ext : ∀ {xs ys : List (List Nat)}, Rising xs → Rising ys → xs.Nodup → ys.Nodup → (∀ s, s ∈ xs ↔ s ∈ ys) → xs = ys := by
  have anti : ∀ {x y : List Nat}, ¬ x < y → ¬ y < x → x = y := fun h1 h2 => List.le_antisymm (List.not_lt.mp h2) (List.not_lt.mp h1)
  intro xs
  induction xs with
  | nil =>
    intro ys _ _ _ _ h
    cases ys with
    | nil => rfl
    | cons y ys => exact absurd ((h y).mpr List.mem_cons_self) (fun z => nomatch z)
  | cons x xs ih =>
    intro ys hx hy nx ny h
    cases ys with
    | nil => exact absurd ((h x).mp List.mem_cons_self) (fun z => nomatch z)
    | cons y ys =>
      obtain ⟨x1, x2⟩ := List.pairwise_cons.mp hx
      obtain ⟨y1, y2⟩ := List.pairwise_cons.mp hy
      obtain ⟨n1, n2⟩ := List.nodup_cons.mp nx
      obtain ⟨m1, m2⟩ := List.nodup_cons.mp ny
      have e : x = y := by
        rcases List.mem_cons.mp ((h x).mp List.mem_cons_self) with e | m
        · exact e
        rcases List.mem_cons.mp ((h y).mpr List.mem_cons_self) with e | m'
        · exact e.symm
        exact anti (y1 x m) (x1 y m')
      subst e
      rw [ih x2 y2 n2 m2 fun s => ⟨fun hs => ((List.mem_cons.mp ((h s).mp (List.mem_cons_of_mem _ hs))).resolve_left fun e => n1 (e ▸ hs)), fun hs => ((List.mem_cons.mp ((h s).mpr (List.mem_cons_of_mem _ hs))).resolve_left fun e => m1 (e ▸ hs))⟩]
theorem nd_val {kvs : List (Key × V)} {ns : List (List Nat)} (h : nmKeys kvs ns) (s : List Nat) : (valV kvs (kT (SX.S s))).isSome = decide (s ∈ ns) := by
  rw [← nd_any h]
  clear h
  induction kvs with
  | nil => rfl
  | cons p r ih =>
    rw [List.any_cons]
    by_cases c : p.1 = kT (SX.S s)
    · rw [valV_pos c, decide_eq_true (show p.1 = keyN s from c)]
      rfl
    · rw [valV_neg c, decide_eq_false (show ¬ p.1 = keyN s from c), ih]
      rfl
theorem nd_len {kvs : List (Key × V)} {ns : List (List Nat)} (h : nmKeys kvs ns) : kvs.length = ns.length := by
  have := congrArg List.length h
  rwa [List.length_map, List.length_map] at this
theorem kvR_nm {α : Type} {R : α → V → Prop} : ∀ {l : List (List Nat × α)} {m : List (Key × V)}, KvR R l m → nmKeys m (l.map (·.1))
  | [], [], _ => rfl
  | p :: l, q :: m, ⟨x, _, z⟩ => by
    show q.1 :: m.map _ = Sum.inr (SX.S p.1) :: _
    rw [x, kvR_nm z]
    rfl
  | [], _ :: _, h => h.elim
  | _ :: _, [], h => h.elim
theorem lkAll_rest {dm : Nat} {h : House} {beta : Nat → Nat} (HH : HouseOk dm h beta) {n : Nat} : ∀ {ts : List (List Nat)} {s s' : RkS} {v : Int}, Rest h beta s → (∀ t ∈ ts, Nm t) → lkAll h n s ts = .ok v s' → Rest h beta s' ∧ Grow s s' ts ∧ (∀ t ∈ ts, t ∈ s'.known.map (·.1)) ∧ ∀ u ∈ s.known.map (·.1), u ∈ s'.known.map (·.1)
  | [], s, s', v, r, _, e => by
    cases e
    exact ⟨r, Grow.refl _ _, (fun _ h => nomatch h), fun _ h => h⟩
  | t :: ts, s, s', v, r, hn, e => by
    unfold lkAll at e
    cases e1 : lkR h n s t with
    | err x => rw [e1] at e; cases e
    | ok w s1 =>
      rw [e1] at e
      obtain ⟨r1, _, g1, k1, m1⟩ := r.look HH (hn t List.mem_cons_self) e1
      obtain ⟨r2, g2, k2, m2⟩ := lkAll_rest HH r1 (fun u hu => hn u (List.mem_cons_of_mem _ hu)) e
      exact ⟨r2, g1.trans g2 (fun u hu => by rw [List.mem_singleton.mp hu]; exact List.mem_cons_self) (fun u hu => List.mem_cons_of_mem _ hu), fun u hu => (List.mem_cons.mp hu).elim (fun z => by rw [z]; exact m2 _ k1) (k2 u), fun u hu => m2 u (m1 u hu)⟩
theorem lkAll_total {dm : Nat} {h : House} {beta : Nat → Nat} (HH : HouseOk dm h beta) {n : Nat} (hn : h.recs.length + 1 ≤ n) : ∀ {ts : List (List Nat)} {s : RkS}, Rest h beta s → (∀ t ∈ ts, Nm t ∧ ∃ v, Val h t v) → ∃ s', lkAll h n s ts = .ok 0 s'
  | [], s, _, _ => ⟨s, rfl⟩
  | t :: ts, s, r, ht => by
    obtain ⟨hm, v, hv⟩ := ht t List.mem_cons_self
    obtain ⟨s1, e1⟩ := r.told HH hm hv hn
    obtain ⟨s2, e2⟩ := lkAll_total HH hn (r.look HH hm e1).1 fun u hu => ht u (List.mem_cons_of_mem _ hu)
    refine ⟨s2, ?_⟩
    show (match lkR h n s t with | .ok _ s' => lkAll h n s' ts | .err e => .err e) = _
    rw [e1]
    exact e2
theorem known_val {h : House} {beta : Nat → Nat} {s : RkS} (r : Rest h beta s) {u : List Nat} (hu : u ∈ s.known.map (·.1)) : ∃ x, seen s.known u = some x ∧ Val h u x := by
  cases e : seen s.known u with
  | none => exact absurd hu (seen_none e)
  | some x => exact ⟨x, rfl, r.coh.kn _ (seen_mem e)⟩
/-! ### data and errors over frames with tables -/
open LamX NdefX
theorem KvR.self {α : Type} {R : α → V → Prop} : ∀ {l : List (List Nat × α)} {m : List (Key × V)}, KvR R l m → (l.map (·.1)).Nodup → ∀ q ∈ m, ∃ a : α, valV m q.1 = some q.2 ∧ R a q.2
  | [], [], _, _, _, hq => nomatch hq
  | p :: l, q :: m, ⟨x, y, z⟩, nd, r, hr => by
    obtain ⟨n1, n2⟩ := List.nodup_cons.mp nd
    rcases List.mem_cons.mp hr with rfl | hr
    · exact ⟨_, valV_pos rfl, y⟩
    · obtain ⟨a, h1, h2⟩ := KvR.self z n2 r hr
      refine ⟨a, ?_, h2⟩
      obtain ⟨i, hi, e⟩ := List.mem_iff_getElem.mp hr
      obtain ⟨p2, e1, e2, _⟩ := KvR.at (i := i) (k := r.1) (v := r.2) z (by rw [List.getElem?_eq_getElem hi, e])
      rw [valV_neg (by
        rw [x, e2]
        exact fun e => n1 (by show p.1 ∈ _; rw [kS_inj e]; exact List.mem_map.mpr ⟨p2, List.mem_of_getElem? e1, rfl⟩))]
      exact h1
  | [], _ :: _, h, _, _, _ => h.elim
  | _ :: _, [], h, _, _, _ => h.elim
theorem Rec.ref {H : Hp} : ∀ {r : Rcp} {v : V}, Rec H r v → ∃ a, v = .ref a
  | .num _, _, ⟨p, e, _⟩ => ⟨p, e⟩
  | .read _, _, ⟨p, e, _⟩ => ⟨p, e⟩
  | .two _ _ _, _, ⟨p, _, _, e, _⟩ => ⟨p, e⟩
  | .pick _ _ _, _, ⟨p, _, _, _, e, _⟩ => ⟨p, e⟩
  | .choose _ _, _, ⟨p, _, _, e, _⟩ => ⟨p, e⟩
mutual
theorem Data.fr {H H' : Hp} (s : ∀ x u, (∀ ps, u ≠ .tbl ps) → H x = some u → H' x = some u) : ∀ {t : Th} {v : V}, Data H t v → Data H' t v
  | .non, _, h => h
  | .bl _, _, h => h
  | .int _, _, h => h
  | .str _, _, h => h
  | .tup _, _, ⟨p, xs, e, hp, hl⟩ => ⟨p, xs, e, s _ _ (fun _ z => by cases z) hp, DataL.fr s hl⟩
  | .lst _, _, ⟨p, xs, e, hp, hl⟩ => ⟨p, xs, e, s _ _ (fun _ z => by cases z) hp, DataL.fr s hl⟩
  | .dct, _, ⟨p, kvs, e, hp⟩ => ⟨p, kvs, e, s _ _ (fun _ z => by cases z) hp⟩
theorem DataL.fr {H H' : Hp} (s : ∀ x u, (∀ ps, u ≠ .tbl ps) → H x = some u → H' x = some u) : ∀ {l : List Th} {xs : List V}, DataL H l xs → DataL H' l xs
  | [], _, h => h
  | _ :: _, _, ⟨x, r, e, h1, h2⟩ => ⟨x, r, e, Data.fr s h1, DataL.fr s h2⟩
end
def spLawT (K : PySem.W.Frag) (Tb : List NTab) : Sp := fun vs H Q _ => ∃ (a : Addr) (ns : List Int), vs = [.ref a] ∧ SqL K H a (ns.map V.int) ∧ ns.length ≤ 63 ∧ TabsN Tb H ∧ ∀ H', Q (.bl true) H'
theorem txs_take (ns : List (List Nat)) (k : Nat) : (txs ns).take k = txs (ns.take k) := by unfold txs; rw [List.map_take, List.map_take]
end Mad
/-! ### deep equality of lists, tuples and dicts, where it holds -/
namespace L2
open PySem PySem.Spec PyProof.Rows PySem.SeqAt
open PySem.AutoSeq1 (wpAny_loadPart')
section
variable {prog : Program} {w : World}
/-- two tuples alike item by item are not unlike -/
theorem tup_alikeN (l b : Addr) (u v : Array Value) (n n2 : Nat) (d1 d2 : Option Addr) (sl sl2 : Array (Option Value)) :
    MeetsIn prog w (Builtin.«tuple.__ne__» ⟨[.ref l, .ref b], []⟩) (fun A R s => s.heap.get? l = some ⟨.type "tuple", d1, .seq u n, sl⟩ ∧ s.heap.get? b = some ⟨.type "tuple", d2, .seq v n2, sl2⟩ ∧
      (∀ p ∈ u.toList.zip v.toList, PySem.SeqAt.EqIn prog w A.in1 s p.1 p.2 true) ∧ u.size = v.size ∧ R (.ok (.ret (.bool false))) s) :=
  .of_wp fun A R s h => by
    obtain ⟨hp, g, dr, tk, os⟩ := s
    obtain ⟨e1, e2, he, hz, hR⟩ := h
    have isT := PySem.AutoSeq1.sub_tuple_tuple
    wp_walk using wpAny_loadPart' e1, wpAny_loadPart' e2, wpAny_forIn_list _ (fun todo st s' => st.1 = none ∧ s' = ⟨hp, g, dr, tk, os⟩ ∧ ∀ p ∈ todo, PySem.SeqAt.EqIn prog w A.in1 ⟨hp, g, dr, tk, os⟩ p.1 p.2 true) _
    case turn =>
      rintro ⟨y, x⟩ todo st s' ⟨h0, rfl, hr⟩
      refine wpAny_bind (hr (y, x) List.mem_cons_self _ _ ?_)
      wp_walk
      exact ⟨rfl, rfl, fun p hm => hr p (List.mem_cons_of_mem _ hm)⟩
    case fin =>
      rintro ⟨b1, b2⟩ s' ⟨h0, rfl, _⟩
      simp only at h0
      subst h0
      wp_walk
      exact ⟨_, rfl, by simpa [Builtin.Tuple.tupleCompareSizes, hz] using hR⟩
    case h => exact ⟨rfl, rfl, he⟩
/-- the turns of two lists alike from i on -/
theorem lst_turnsN (l b : Addr) (u v : Array Value) (n n2 : Nat) (d1 d2 : Option Addr) (sl sl2 : Array (Option Value)) (k : Nat) : ∀ i : Nat, u.size - i = k →
    MeetsIn prog w (Builtin.«list.__eq__.loop» ⟨[.ref l, .ref b, rawInt i, rawInt 3], []⟩) (fun A R s => s.heap.get? l = some ⟨.type "list", d1, .seq u n, sl⟩ ∧ s.heap.get? b = some ⟨.type "list", d2, .seq v n2, sl2⟩ ∧
      (∀ j (h1 : j < u.size) (h2 : j < v.size), PySem.SeqAt.EqIn prog w A.in1 s u[j] v[j] true) ∧ u.size = v.size ∧ R (.ok (.ret (.bool false))) s) := by
  induction k with
  | zero =>
    intro i hk A R s h
    obtain ⟨hp, g, dr, tk, os⟩ := s
    obtain ⟨e1, e2, he, hz, hR⟩ := h
    wp_walk using wpAny_loadPart' e1, wpAny_loadPart' e2
    have a1 : u[((i : Nat) : Int).toNat]? = none := by simp; omega
    have a2 : v[((i : Nat) : Int).toNat]? = none := by simp; omega
    rw [a1, a2]
    wp_walk using wpAny_loadPart' e1, wpAny_loadPart' e2
    show R (.ok (.ret (.bool (u.size != v.size)))) _
    simpa [hz] using hR
  | succ k ih =>
    intro i hk A R s h
    obtain ⟨hp, g, dr, tk, os⟩ := s
    obtain ⟨e1, e2, he, hz, hR⟩ := h
    wp_walk using wpAny_loadPart' e1, wpAny_loadPart' e2
    have l1 : i < u.size := by omega
    have l2 : i < v.size := by omega
    have a1 : u[((i : Nat) : Int).toNat]? = some u[i] := by simp [l1]
    have a2 : v[((i : Nat) : Int).toNat]? = some v[i] := by simp [l2]
    have nx : ((i : Int) + 1) = ((i + 1 : Nat) : Int) := by push_cast; rfl
    rw [a1, a2]
    refine wpAny_bind (he i l1 l2 _ _ ?_)
    wp_walk
    rw [nx]
    refine ⟨PySem.plainId_quiet PySem.MeetsSeq3.plain_eq_loop _, codeAny_builtin PySem.MeetsSeq3.entry_eq_loop ?_⟩
    rw [Around.under_plainId PySem.MeetsSeq3.plain_eq_loop _]
    exact ih (i + 1) (by omega) A R _ ⟨e1, e2, he, hz, hR⟩
theorem lst_alikeN (l b : Addr) (u v : Array Value) (n n2 : Nat) (d1 d2 : Option Addr) (sl sl2 : Array (Option Value)) :
    MeetsIn prog w (Builtin.«list.__ne__» ⟨[.ref l, .ref b], []⟩) (fun A R s => s.heap.get? l = some ⟨.type "list", d1, .seq u n, sl⟩ ∧ s.heap.get? b = some ⟨.type "list", d2, .seq v n2, sl2⟩ ∧
      (∀ j (h1 : j < u.size) (h2 : j < v.size), PySem.SeqAt.EqIn prog w A.in1 s u[j] v[j] true) ∧ u.size = v.size ∧ R (.ok (.ret (.bool false))) s) := by
  intro A R s h
  obtain ⟨hp, g, dr, tk, os⟩ := s
  obtain ⟨e1, e2, he, hz, hR⟩ := h
  have isL := PySem.AutoSeq1.sub_list_list
  have same : ¬ (u.size != v.size) = true := by simp [hz]
  wp_walk using wpAny_loadPart' e1, wpAny_loadPart' e2
  refine ⟨PySem.plainId_quiet PySem.MeetsSeq3.plain_eq_loop _, codeAny_builtin PySem.MeetsSeq3.entry_eq_loop ?_⟩
  rw [Around.under_plainId PySem.MeetsSeq3.plain_eq_loop _]
  exact lst_turnsN l b u v n n2 d1 d2 sl sl2 _ 0 rfl A R _ ⟨e1, e2, he, hz, hR⟩
theorem ne_lsts {A : Around} {E Q : Value → Shared → Prop} {s : Shared} {l b : Addr} {u v : Array Value} (hl : s.heap.IsList l u) (hb : s.heap.IsList b v) (hz : u.size = v.size) (hu : A.units < cLine)
    (he : ∀ j (h1 : j < u.size) (h2 : j < v.size), PySem.SeqAt.EqIn prog w A.in1 s u[j] v[j] true) (h : Q (.bool false) s) : wpAny (model prog w) A (richCompare .NotEq (.ref l) (.ref b)) Q E s := by
  obtain ⟨⟨c1, d1, a1, sl1⟩, o1, k1, n1, t1⟩ := id hl
  obtain ⟨⟨c2, d2, a2, sl2⟩, o2, k2, n2, t2⟩ := id hb
  simp only at k1 t1 k2 t2
  subst k1 t1 k2 t2
  refine wpAny_richCompare_same_room (T := "list") (op := .NotEq) ⟨_, o1, rfl⟩ ⟨_, o2, rfl⟩ PySem.F.slot_list_ne ?_ hu
  exact call_meetsIn PySem.F.slot_list_ne ⟨_, o1, rfl⟩ PySem.F.entry_list_ne (PySem.F.args_list_ne_2 _ _) (lst_alikeN l b u v n1 n2 d1 d2 sl1 sl2) ⟨o1, o2, he, hz, (fun z => nomatch z), h⟩
theorem ne_tups {A : Around} {E Q : Value → Shared → Prop} {s : Shared} {l b : Addr} {u v : Array Value} (hl : s.heap.IsTuple l u) (hb : s.heap.IsTuple b v) (hz : u.size = v.size) (hu : A.units < cLine)
    (he : ∀ p ∈ u.toList.zip v.toList, PySem.SeqAt.EqIn prog w A.in1 s p.1 p.2 true) (h : Q (.bool false) s) : wpAny (model prog w) A (richCompare .NotEq (.ref l) (.ref b)) Q E s := by
  obtain ⟨⟨c1, d1, a1, sl1⟩, o1, k1, n1, t1⟩ := id hl
  obtain ⟨⟨c2, d2, a2, sl2⟩, o2, k2, n2, t2⟩ := id hb
  simp only at k1 t1 k2 t2
  subst k1 t1 k2 t2
  refine wpAny_richCompare_same_room (T := "tuple") (op := .NotEq) ⟨_, o1, rfl⟩ ⟨_, o2, rfl⟩ PySem.F.slot_tuple_ne ?_ hu
  exact call_meetsIn PySem.F.slot_tuple_ne ⟨_, o1, rfl⟩ PySem.F.entry_tuple_ne (PySem.F.args_tuple_ne_2 _ _) (tup_alikeN l b u v n1 n2 d1 d2 sl1 sl2) ⟨o1, o2, he, hz, (fun z => nomatch z), h⟩
end
/-- alike: lists, tuples, dicts of things that are F -/
def EqRG (K : PySem.W.Frag) (H : Hp) (F : V → V → Prop) (x y : V) : Prop :=
  (∃ a b xs ys, x = .ref a ∧ y = .ref b ∧ SqL K H a xs ∧ SqL K H b ys ∧ Paired F xs ys) ∨ (∃ a b xs ys, x = .ref a ∧ y = .ref b ∧ SqT K H a xs ∧ SqT K H b ys ∧ Paired F xs ys) ∨
    ∃ a b ks ls, x = .ref a ∧ y = .ref b ∧ H a = some (.dK ks) ∧ H b = some (.dK ls) ∧ ks.length = ls.length ∧ ∀ p ∈ ks, ∃ u, valV ls p.1 = some u ∧ F p.2 u
/-- alike, n levels deep -/
def EqG (K : PySem.W.Frag) (H : Hp) : Nat → V → V → Prop
  | 0 => fun _ _ => False
  | n + 1 => fun x y => (x = y ∧ flatB x = true) ∨ (∃ a, x = .ref a ∧ y = .ref a) ∨ (64 ≤ n ∧ ∃ d e, Dp K H x d ∧ Dp K H y e ∧ SeqAt.shaped d = true ∧ SeqAt.shaped e = true ∧ PyData.eqv d e = true) ∨ EqRG K H (EqG K H n) x y
theorem EqG.refl_ref {K : PySem.W.Frag} {H : Hp} {n : Nat} (a : Addr) : EqG K H (n + 1) (.ref a) (.ref a) := .inr (.inl ⟨a, rfl, rfl⟩)
theorem EqG.flat {K : PySem.W.Frag} {H : Hp} {n : Nat} {x : V} (f : flatB x = true) : EqG K H (n + 1) x x := .inl ⟨rfl, f⟩
theorem EqG.any {K : PySem.W.Frag} {H : Hp} {n : Nat} {x : V} (h : flatB x = true ∨ ∃ a, x = .ref a) : EqG K H (n + 1) x x := h.elim EqG.flat fun ⟨a, e⟩ => by rw [e]; exact EqG.refl_ref a
section
variable {X : Cx} {pins : List (Addr × Obj)} {σ : L2.St} {H : Hp} {s : Shared}
theorem items_in {F : V → V → Prop} {P : Program} {w : World} {A : Around} (ih : ∀ x y v u, F x y → RelV x v → RelV y u → PySem.SeqAt.EqIn P w A s v u true) : ∀ {xs ys : List V} {us ws : List Value}, Paired F xs ys → Vals xs us → Vals ys ws → us.length = ws.length ∧ ∀ p ∈ us.zip ws, PySem.SeqAt.EqIn P w A s p.1 p.2 true
  | _, _, _, _, .nil, .nil, .nil => ⟨rfl, fun _ h => nomatch h⟩
  | _, _, _, _, .cons a b, .cons r1 q1, .cons r2 q2 => by
    obtain ⟨l, k⟩ := items_in ih b q1 q2
    refine ⟨congrArg (· + 1) l, fun p hp => ?_⟩
    rcases List.mem_cons.mp hp with rfl | hp
    · exact ih _ _ _ _ a r1 r2
    · exact k p hp
theorem zip_at {P : Value → Value → Prop} {us ws : List Value} (h : ∀ p ∈ us.zip ws, P p.1 p.2) (j : Nat) (h1 : j < us.length) (h2 : j < ws.length) : P us[j] ws[j] := by
  have hz : j < (us.zip ws).length := by rw [List.length_zip]; omega
  have := h _ (List.getElem_mem hz)
  rw [List.getElem_zip] at this
  exact this
theorem hits_in {F : V → V → Prop} {P : Program} {w : World} {A : Around} (ih : ∀ x y v u, F x y → RelV x v → RelV y u → PySem.SeqAt.EqIn P w A s v u true) {ls : List (Key × V)} {vb : List (Key × Value)} (rb : KV ls vb) {ks : List (Key × V)}
    {va : List (Key × Value)} (ra : KV ks va) : (∀ p ∈ ks, ∃ u, valV ls p.1 = some u ∧ F p.2 u) → PySem.W.KeqHitsIn P w A s vb va true := by
  unfold KV at ra
  induction ra with
  | nil => exact fun _ => .nil
  | @cons p q ps qs h t k =>
    intro hp
    obtain ⟨h1, h2⟩ := h
    obtain ⟨u, e, f⟩ := hp p List.mem_cons_self
    obtain ⟨y, hy, ry⟩ := (show RelO (some u) (valueAt vb p.1) by rw [← e]; exact rb.val p.1).some_of
    obtain ⟨key, v⟩ := q
    cases (show p.1 = key from h1)
    exact .hit (e := true) (b := true) (r := qs) hy (ih _ _ _ _ f h2 ry) (k fun p' hm => hp p' (List.mem_cons_of_mem _ hm))
/-- the comparison itself, both ways -/
theorem eqRG_run (I : Inv X pins σ H s) {A : Around} {F : V → V → Prop} (hu : A.units < cLine) (ih : ∀ x y v u, F x y → RelV x v → RelV y u → PySem.SeqAt.EqIn X.prog X.w A.in1 s v u true) {x y : V} {v u : Value} (h : EqRG X.K H F x y) (rx : RelV x v) (ry : RelV y u)
    (E Q : Value → Shared → Prop) (q : Q (.bool true) s) : wpAny (model X.prog X.w) A (richCompare .Eq v u) Q E s := by
  rcases h with ⟨a, b, xs, ys, rfl, rfl, ha, hb, hp⟩ | ⟨a, b, xs, ys, rfl, rfl, ha, hb, hp⟩ | ⟨a, b, ks, ls, rfl, rfl, ha, hb, hl, hp⟩
  · cases rx
    cases ry
    obtain ⟨us, r1, p1, _⟩ := I.list ha
    obtain ⟨ws, r2, p2, _⟩ := I.list hb
    obtain ⟨hz, k⟩ := items_in ih hp r1 r2
    refine PySem.SeqAt.rcIn_lists (e := fun _ => true) p1.isList p2.isList (by simpa using hz) hu (fun j h1 h2 => ?_) ?_
    · simpa using zip_at (P := fun p q => PySem.SeqAt.EqIn X.prog X.w A.in1 s p q true) k j (by simpa using h1) (by simpa using h2)
    · rw [List.all_eq_true.mpr fun _ _ => rfl]
      exact q
  · cases rx
    cases ry
    obtain ⟨us, r1, p1⟩ := I.tuple ha
    obtain ⟨ws, r2, p2⟩ := I.tuple hb
    obtain ⟨hz, k⟩ := items_in ih hp r1 r2
    refine PySem.SeqAt.rcIn_tuples (e := fun _ => true) p1.1 p2.1 hu (fun j h1 h2 => ?_) ?_
    · simpa using zip_at (P := fun p q => PySem.SeqAt.EqIn X.prog X.w A.in1 s p q true) k j (by simpa using h1) (by simpa using h2)
    · rw [List.all_eq_true.mpr fun _ _ => rfl, show us.toArray.size = ws.toArray.size by simpa using hz]
      simpa using q
  · cases rx
    cases ry
    obtain ⟨_, ya, va, ra, da⟩ := (show ObjOk X.prog X.w H s.heap a (.dK ks) from I.hok a _ ha)
    obtain ⟨_, yb, vb, rb, db⟩ := (show ObjOk X.prog X.w H s.heap b (.dK ls) from I.hok b _ hb)
    refine PySem.W.keq_eqIn (knd := mixKind X.prog X.w) (r := true) ya yb da db hu (fun _ => hits_in ih rb ra hp) ?_
    rw [show va.length = vb.length by rw [← ra.length, ← rb.length]; exact hl]
    simpa using q
theorem eqG_run (I : Inv X pins σ H s) : ∀ (n : Nat) (A : Around), A.units + n + 64 < cLine → ∀ (x y : V) (v u : Value), EqG X.K H n x y → RelV x v → RelV y u → PySem.SeqAt.EqIn X.prog X.w A s v u true
  | 0, _, _, _, _, _, _, h, _, _ => (show False from h).elim
  | n + 1, A, hu, x, y, v, u, h, rx, ry => by
    rcases h with ⟨rfl, f⟩ | ⟨a, rfl, rfl⟩ | ⟨hn, d, e, hd, he, sd, se, eq⟩ | h
    · exact (PySem.SeqAt.EqAt.inModel (eqAt_same rx ry f) _ _)
    · cases rx
      cases ry
      exact PySem.SeqAt.EqAt.inModel (SeqAt.EqAt.same _) _ _
    · obtain ⟨as, r1⟩ := Dp.reads I d x v hd rx
      obtain ⟨bs, r2⟩ := Dp.reads I e y u he ry
      have := PySem.SeqAt.eqAt_reads d e A s v u as bs r1 r2 (SeqAt.canLay_of_shaped sd) (SeqAt.canLay_of_shaped se) (SeqAt.room_of_shaped sd (by omega))
      rw [eq] at this
      exact PySem.SeqAt.EqAt.inModel this _ _
    · have step := eqRG_run I (A := A) (by omega) (eqG_run I n A.in1 (by show A.units + 1 + n + 64 < cLine; omega)) h rx ry
      obtain ⟨a, b, rfl, rfl⟩ : ∃ a b, x = .ref a ∧ y = .ref b := by
        rcases h with ⟨a, b, _, _, e1, e2, _⟩ | ⟨a, b, _, _, e1, e2, _⟩ | ⟨a, b, _, _, e1, e2, _⟩ <;> exact ⟨a, b, e1, e2⟩
      cases rx
      cases ry
      by_cases e : a = b
      · subst e
        exact PySem.SeqAt.EqAt.inModel (SeqAt.EqAt.same _) _ _
      · exact PySem.SeqAt.EqIn.of_refs e step
end
/-- a == b, a != b of lists, tuples, dicts that are alike -/
def rEqG (K : PySem.W.Frag) : R2 := fun x y H Q => EqRG K H (EqG K H 80) x y ∧ Q (.bl true) H
def rNeG (K : PySem.W.Frag) : R2 := fun x y H Q => ((∃ a b xs ys, x = .ref a ∧ y = .ref b ∧ SqL K H a xs ∧ SqL K H b ys ∧ Paired (EqG K H 80) xs ys) ∨ (∃ a b xs ys, x = .ref a ∧ y = .ref b ∧ SqT K H a xs ∧ SqT K H b ys ∧ Paired (EqG K H 80) xs ys)) ∧ Q (.bl false) H
section
variable {X : Cx}
theorem op_eqG (hu : X.A.units + 199 < cLine) : OpR X (compareOp .Eq) (rEqG X.K) := by
  intro pins s σ H x y v u Q I rx ry h
  obtain ⟨h, q⟩ := h
  exact eqRG_run I (A := X.A) (by omega) (eqG_run I 80 X.A.in1 (by show X.A.units + 1 + 80 + 64 < cLine; omega)) h rx ry _ _ ⟨.bl true, H, I, rfl, q⟩
theorem op_neG (hu : X.A.units + 199 < cLine) : OpR X (compareOp .NotEq) (rNeG X.K) := by
  intro pins s σ H x y v u Q I rx ry h
  obtain ⟨h, q⟩ := h
  have ih := eqG_run I 80 X.A.in1 (by show X.A.units + 1 + 80 + 64 < cLine; omega)
  rcases h with ⟨a, b, xs, ys, rfl, rfl, ha, hb, hp⟩ | ⟨a, b, xs, ys, rfl, rfl, ha, hb, hp⟩
  · cases rx
    cases ry
    obtain ⟨us, r1, p1, _⟩ := I.list ha
    obtain ⟨ws, r2, p2, _⟩ := I.list hb
    obtain ⟨hz, k⟩ := items_in ih hp r1 r2
    refine ne_lsts p1.isList p2.isList (by simpa using hz) (by omega) (fun j h1 h2 => ?_) ⟨.bl false, H, I, rfl, q⟩
    simpa using zip_at (P := fun p q => PySem.SeqAt.EqIn X.prog X.w X.A.in1 s p q true) k j (by simpa using h1) (by simpa using h2)
  · cases rx
    cases ry
    obtain ⟨us, r1, p1⟩ := I.tuple ha
    obtain ⟨ws, r2, p2⟩ := I.tuple hb
    obtain ⟨hz, k⟩ := items_in ih hp r1 r2
    exact ne_tups p1.1 p2.1 (by simpa using hz) (by omega) (fun p hm => k p (by simpa using hm)) ⟨.bl false, H, I, rfl, q⟩
theorem hu199 {k : Nat} {A : Around} (r : Room k A) : A.units + 199 < cLine := by have := r.un; omega
end
end L2
namespace Mad
open PySem PySem.Spec PyProof.Rows L2
end Mad
/-! ### more of what is made: told by a heap that keeps all -/
namespace L2
open PySem PySem.Spec PyProof.Rows
def tDNewA : TE := fun _ H Q => ∀ p H2, H p = none → SameU H H2 → H2 p = some (.dK []) → Q (.ref p) H2
def rSlLA (K : PySem.W.Frag) : V → Option Int → Option Int → Hp → VK → Prop := fun x lo hi H Q => ∃ a xs, x = .ref a ∧ SqL K H a xs ∧ ∀ p H2, H p = none → SameU H H2 → H2 p = some (.lst (cutV xs lo hi)) → Q (.ref p) H2
def rListA (K : PySem.W.Frag) : List V → Hp → VK → Prop := fun xs H Q => ∃ p ys, xs = [.ref p] ∧ (SqL K H p ys ∨ SqT K H p ys) ∧ ∀ l H2, H l = none → SameU H H2 → H2 l = some (.lst ys) → Q (.ref l) H2
def rListDA : List V → Hp → VK → Prop := fun xs H Q => ∃ (a : Addr) (kvs : List (Key × V)), xs = [.ref a] ∧ Rd H a (.dK kvs) ∧ ∀ p H2, H p = none → SameU H H2 → H2 p = some (.lst (kvs.map fun kv => kV kv.1)) → Q (.ref p) H2
def rSortedPA (K : PySem.W.Frag) : List V → Hp → VK → Prop := fun vs H Q => ∃ a xs, vs = [V.ref a] ∧ SqL K H a xs ∧ (∀ x ∈ xs, ∃ t i j, x = V.ref t ∧ H t = some (.tup [.int i, .int j])) ∧
  ∀ ys p H2, ys.Perm xs → H p = none → SameU H H2 → H2 p = some (.lst ys) → Q (.ref p) H2
def rDictDA : List V → Hp → VK → Prop := fun xs H Q => ∃ (a : Addr) (kvs : List (Key × V)), xs = [.ref a] ∧ Rd H a (.dK kvs) ∧ ∀ p H2, H p = none → SameU H H2 → H2 p = some (.dK kvs) → Q (.ref p) H2
def rDictPA (K : PySem.W.Frag) : List V → Hp → VK → Prop := fun xs H Q => ∃ (a : Addr) (ps : List Addr) (kvs : List (Key × V)), xs = [.ref a] ∧ SqL K H a (ps.map V.ref) ∧ Paired (fun p kv => SqT K H p [kV kv.1, kv.2]) ps kvs ∧ ∀ p H2, H p = none → SameU H H2 → H2 p = some (.dK (mergeK [] kvs)) → Q (.ref p) H2
section
variable {X : Cx} {pos : Pos}
theorem call_dictPA {K : PySem.W.Frag} (h : X.K = K) (hcalm : X.calm = true) : CallR X (.type "dict") (rDictPA K) := by
  subst h
  intro pins s σ H xs us Q I r h
  obtain ⟨a, ps, kvs, e, hq, hp, q⟩ := h
  exact call_dictP hcalm pins s σ H xs us Q I r ⟨a, ps, kvs, e, hq, hp, fun p np => q p _ np (sameU_new np _) upd_same⟩
theorem call_dictDA : CallR X (.type "dict") rDictDA := by
  intro pins s σ H xs us Q I r h
  obtain ⟨a, kvs, e, hd, q⟩ := h
  exact call_dictD pins s σ H xs us Q I r ⟨a, kvs, e, hd, fun p np => q p _ np (sameU_new np _) upd_same⟩
theorem op_neDK {K : PySem.W.Frag} (h : X.K = K) (hu : X.A.units + 64 < cLine) : OpR X (compareOp .NotEq) (rNeD K) := by
  subst h
  exact op_neD hu
theorem op_eqDK {K : PySem.W.Frag} (h : X.K = K) (hu : X.A.units + 64 < cLine) : OpR X (compareOp .Eq) (rEqD K) := by
  subst h
  exact op_eqD hu
theorem pe_dnewA : PE X (.Dict [] [] pos) tDNewA := ⟨fun pins s σ H Q I h => pe_dnewK.run pins s σ H Q I fun p np => h p _ np (sameU_new np _) upd_same⟩
theorem sl_listA : SlR X (rSlLA X.K) := by
  intro pins s σ H x v vl vu lo hi sl Q I rx hs pl pu h
  obtain ⟨a, xs, e, hx, q⟩ := h
  exact sl_list pins s σ H x v vl vu lo hi sl Q I rx hs pl pu ⟨a, xs, e, hx, fun p np => q p _ np (sameU_new np _) upd_same⟩
theorem call_listA : CallR X (.type "list") (rListA X.K) := by
  intro pins s σ H xs us Q I r h
  obtain ⟨p, ys, e, hq, q⟩ := h
  exact call_list_of pins s σ H xs us Q I r ⟨p, ys, e, hq, fun l nl => q l _ nl (sameU_new nl _) upd_same⟩
theorem call_listDA (hcalm : X.calm = true) : CallR X (.type "list") rListDA := by
  intro pins s σ H xs us Q I r h
  obtain ⟨p, ys, e, hq, q⟩ := h
  exact call_listD hcalm pins s σ H xs us Q I r ⟨p, ys, e, hq, fun l nl => q l _ nl (sameU_new nl _) upd_same⟩
theorem cr_sortedPA : CallR X (.builtin "sorted") (rSortedPA X.K) := by
  intro pins s σ H vs us Q I r h
  obtain ⟨a, xs, e, hs, hx, q⟩ := h
  exact cr_sortedP pins s σ H vs us Q I r ⟨a, xs, e, hs, hx, fun ys p pm np => q ys p _ pm np (sameU_new np _) upd_same⟩
end
end L2
namespace Mad
open PySem PySem.Spec PyProof.Rows L2
/-! ### sorted of texts, told by a heap that keeps all -/
def rSortTA (K : PySem.W.Frag) : List V → Hp → VK → Prop := fun vs H Q => ∃ (a : Addr) (ns : List (List Nat)), vs = [V.ref a] ∧ SqL K H a (txs ns) ∧
  ∀ (ys : List (List Nat)) (p : Addr) (H2 : Hp), ys.Perm ns → Rising ys → H p = none → SameU H H2 → H2 p = some (.lst (txs ys)) → Q (.ref p) H2
def rSortTDA : List V → Hp → VK → Prop := fun vs H Q => ∃ (a : Addr) (kvs : List (Key × V)) (ns : List (List Nat)), vs = [V.ref a] ∧ H a = some (.dK kvs) ∧ nmKeys kvs ns ∧
  ∀ (ys : List (List Nat)) (p : Addr) (H2 : Hp), ys.Perm ns → Rising ys → H p = none → SameU H H2 → H2 p = some (.lst (txs ys)) → Q (.ref p) H2
theorem cr_sortTA {X : Cx} : CallR X (.builtin "sorted") (rSortTA X.K) := by
  intro pins s σ H vs us Q I r h
  obtain ⟨a, ns, e, hs, q⟩ := h
  exact cr_sortT pins s σ H vs us Q I r ⟨a, ns, e, hs, fun ys p pm ri np => q ys p _ pm ri np (sameU_new np _) upd_same⟩
theorem cr_sortTDA {X : Cx} (hcalm : X.calm = true) : CallR X (.builtin "sorted") rSortTDA := by
  intro pins s σ H vs us Q I r h
  obtain ⟨a, kvs, ns, e, hd, hk, q⟩ := h
  exact cr_sortTD hcalm pins s σ H vs us Q I r ⟨a, kvs, ns, e, hd, hk, fun ys p pm ri np => q ys p _ pm ri np (sameU_new np _) upd_same⟩
end Mad
/-! ### d.update(e) of two dicts; d != e of dicts that are alike -/
namespace PySem.W
open PySem PySem.Spec PyProof.Rows PySem.SeqAt
theorem keq_neIn {K : Type} [DecidableEq K] {prog : Program} {w : World} {knd : KeyKind prog w K} {s : Shared} {A : Around} {E : Value → Shared → Prop} {a b : Addr} {ka kb : List (K × Value)} {r : Bool} {Q : Value → Shared → Prop} (ha : (a == sysModules) = false) (hb : (b == sysModules) = false)
    (da : s.heap.DictOf knd a ka) (db : s.heap.DictOf knd b kb) (hu : A.units < cLine) (hits : ka.length = kb.length → KeqHitsIn prog w A.in1 s kb ka r) (h : Q (.bool (!(ka.length == kb.length && r))) s) :
    wpAny (model prog w) A (compareOp .NotEq (.ref a) (.ref b)) Q E s := by
  refine wpAny_richCompare_same_room (op := .NotEq) da.typeIs db.typeIs PySem.F.slot_dict_ne (wpAny_call_entry PySem.F.slot_dict_ne da.typeIs PySem.F.entry_dict_ne ?_ (PySem.F.args_dict_ne_2 _ _)) hu
  show wpAny _ _ (Builtin.Dict.dictSlotArgs "__ne__" ⟨[.ref a, .ref b], []⟩ >>= _) _ _ s
  refine wpAny_bind ?_
  unfold Builtin.Dict.dictSlotArgs
  refine wpAny_bind (wpAny_notOrdered_dict da.typeIs ?_)
  show wpAny _ _ (pure (Value.ref a, Value.ref b)) _ _ s
  refine wpAny_pure ?_
  refine wpAny_bind (wpAny_isInstance (T := "dict") db.typeIs PySem.F.sub_dict_dict ?_)
  simp only [Bool.not_true, Bool.false_eq_true, if_false]
  refine wpAny_bind (wpAny_pure (wpAny_bind (wpAny_pure ?_)))
  refine wpAny_bind (keq_samePairsIn ha hb da db hits ?_)
  refine wpAny_pure ⟨_, rfl, ?_, ?_⟩
  · exact fun x => nomatch x
  · simpa using h
end PySem.W
namespace L2
open PySem PySem.Spec PyProof.Rows
section
variable {X : Cx}
/-- a != b of dicts that are alike -/
def rNeGD (K : PySem.W.Frag) : R2 := fun x y H Q => (∃ a b ks ls, x = .ref a ∧ y = .ref b ∧ H a = some (.dK ks) ∧ H b = some (.dK ls) ∧ ks.length = ls.length ∧ ∀ p ∈ ks, ∃ u, valV ls p.1 = some u ∧ EqG K H 80 p.2 u) ∧ Q (.bl false) H
theorem op_neGD (hu : X.A.units + 199 < cLine) : OpR X (compareOp .NotEq) (rNeGD X.K) := by
  intro pins s σ H x y v u Q I rx ry h
  obtain ⟨⟨a, b, ks, ls, rfl, rfl, ha, hb, hl, hp⟩, q⟩ := h
  cases rx
  cases ry
  obtain ⟨_, ya, va, ra, da⟩ := (show ObjOk X.prog X.w H s.heap a (.dK ks) from I.hok a _ ha)
  obtain ⟨_, yb, vb, rb, db⟩ := (show ObjOk X.prog X.w H s.heap b (.dK ls) from I.hok b _ hb)
  have ih := eqG_run I 80 X.A.in1 (by show X.A.units + 1 + 80 + 64 < cLine; omega)
  refine PySem.W.keq_neIn (knd := mixKind X.prog X.w) (r := true) ya yb da db (by omega) (fun _ => hits_in ih rb ra hp) ?_
  have : (!(va.length == vb.length && true)) = false := by rw [show va.length = vb.length by rw [← ra.length, ← rb.length]; exact hl]; simp
  rw [this]
  exact ⟨.bl false, H, I, rfl, q⟩
end
section
variable {X : Cx} {pins : List (Addr × Obj)} {σ : St} {H : Hp} {s : Shared} {a b : Addr} {kvs ls : List (Key × V)} {A : Around} {E : Value → Shared → Prop}
theorem d_upd {Q : Value → Shared → Prop} (I : Inv X pins σ H s) (e : H a = some (.dK kvs)) (e2 : Rd H b (.dK ls)) (hne : a ≠ b) (hl : kvs.length + ls.length ≤ sizeLine)
    (h : ∀ s', Inv X pins σ (upd H a (.dK (mergeK kvs ls))) s' → Q .none s') : wpAny (model X.prog X.w) A (call (.builtin "dict.update") [.ref a, .ref b]) Q E s := by
  obtain ⟨z, hd, vs, rel, dd⟩ := dk_of I.hok e
  obtain ⟨z2, hd2, vs2, rel2, dd2⟩ := dk_rd I.hok e2
  refine call_meetsIn PySem.F.slot_dict_update dd.typeIs PySem.F.entry_dict_update (PySem.F.args_dict_update_2 _ _) (meets_dict_update (mixKind X.prog X.w) a b hne hd2) ⟨vs, vs2, dd, dd2, by rw [← rel.length, ← rel2.length]; exact hl, fun h' dd' _ hs => h _ ?_⟩
  have he : ∃ q, h'.get? a = some q := let ⟨q, _, _, hq, _⟩ := dd'; ⟨q, hq⟩
  exact d_write (t' := s.toks) I (by rw [e]; exact True.intro) hs he (dk_new (Nat.le_trans (length_mergeK _ _) hl) hd (rel2.merge rel) dd')
end
def tDUpd (td ty : TE) : TE := fun σ H Q => td σ H fun x H1 => ∃ a, x = .ref a ∧ IsD H1 a ∧ ty σ H1 fun y H2 => ∃ b kvs ls, y = .ref b ∧ H2 a = some (.dK kvs) ∧ Rd H2 b (.dK ls) ∧ a ≠ b ∧ kvs.length + ls.length ≤ sizeLine ∧ Q .non (upd H2 a (.dK (mergeK kvs ls)))
section
variable {X : Cx} {o e : Expr} {apos cpos : Pos} {td ty : TE}
theorem pe_dupd (ho : PE X o td) (he : PE X e ty) (m : M1 X o "update" apos e cpos) : PE X (.Call (.Attribute o "update" apos) [e] [] cpos) (tDUpd td ty) := by
  refine ⟨fun pins s σ H Q I h => ?_⟩
  refine wpAny_Call_method m.base m.few m.line PySem.F.plainAttrs_dict PySem.F.slot_dict_update PySem.F.type_dict_update (thn (ho.run pins s σ H _ I h) fun u s1 ⟨x, H1, I1, rx, a, ex, d, q1⟩ => ?_)
  subst ex
  obtain rfl : u = Value.ref a := rx
  obtain ⟨t1, t2, _⟩ := isD_at I1 d
  refine ⟨t1, t2, ?_⟩
  rw [m.trees]
  refine Calls.callWith_builtin rfl (Calls.evalArgs_plain (Calls.spliced_cons (thn (he.run pins s1 σ H1 _ I1 q1) fun iv s2 ⟨y, H2, I2, ry, b, kvs, ls, ey, ea, eb, ne, l, q2⟩ => Calls.spliced_nil ?_)))
  subst ey
  obtain rfl : iv = Value.ref b := ry
  exact d_upd I2 ea eb ne l fun s3 I3 => ⟨.non, _, I3, rfl, q2⟩
end
end L2
namespace Mad
open PySem PySem.Spec PyProof.Rows L2
/-! ### dicts put together -/
def merA {α : Type} (l m : List (List Nat × α)) : List (List Nat × α) := m.foldl (fun a p => putA a p.1 p.2) l
theorem merA_keys {α : Type} {u : List Nat} : ∀ {m l : List (List Nat × α)}, u ∈ (merA l m).map (·.1) ↔ u ∈ l.map (·.1) ∨ u ∈ m.map (·.1)
  | [], l => ⟨.inl, fun h => h.elim id fun h => nomatch h⟩
  | p :: m, l => by
    show u ∈ (merA (putA l p.1 p.2) m).map (·.1) ↔ _
    rw [merA_keys, putA_mem, List.map_cons, List.mem_cons, or_assoc]
theorem merA_nd {α : Type} : ∀ {m l : List (List Nat × α)}, (l.map (·.1)).Nodup → ((merA l m).map (·.1)).Nodup
  | [], l, h => h
  | p :: m, l, h => merA_nd (m := m) (putA_nd h)
theorem mem_merA {α : Type} {q : List Nat × α} : ∀ {m l : List (List Nat × α)}, q ∈ merA l m → q ∈ l ∨ q ∈ m
  | [], l, h => .inl h
  | p :: m, l, h => by
    rcases mem_merA (m := m) h with h | h
    · rcases mem_putA h with rfl | h
      · exact .inr List.mem_cons_self
      · exact .inl h
    · exact .inr (List.mem_cons_of_mem _ h)
theorem KvR.merge {α : Type} {R : α → V → Prop} : ∀ {m : List (List Nat × α)} {k : List (Key × V)} {l : List (List Nat × α)} {j : List (Key × V)}, KvR R m k → KvR R l j → KvR R (merA l m) (mergeK j k)
  | [], [], l, j, _, h => h
  | p :: m, q :: k, l, j, ⟨x, y, z⟩, h => by
    show KvR R (merA (putA l p.1 p.2) m) (mergeK (putK j q.1 q.2) k)
    rw [x]
    exact KvR.merge z (h.put y)
  | [], _ :: _, _, _, h, _ => h.elim
  | _ :: _, [], _, _, h, _ => h.elim
theorem nums_merge (l m : List Pr) : mergeK (numsK l) (numsK m) = numsK (merA l m) := numsR_eq (KvR.merge (numsR m) (numsR l))
/-! ### recipes alike as data are the same; texts tell recipes apart -/
theorem eqv_head {k k' : List Nat} {l l' : List PyData} (h : PyData.eqv (.tuple (.str (SX.S k) :: l)) (.tuple (.str (SX.S k') :: l')) = true) : k = k' ∧ PyData.eqvAll l l' = true := by
  have e : ((SX.S k == SX.S k') && PyData.eqvAll l l') = true := h
  rw [Bool.and_eq_true, SX.S_beq] at e
  exact ⟨beq_iff_eq.mp e.1, e.2⟩
theorem eqv_cons {x y : PyData} {l l' : List PyData} (h : PyData.eqvAll (x :: l) (y :: l') = true) : PyData.eqv x y = true ∧ PyData.eqvAll l l' = true := by
  have e : (PyData.eqv x y && PyData.eqvAll l l') = true := h
  rw [Bool.and_eq_true] at e
  exact e
theorem eqv_str {a b : List Nat} (h : PyData.eqv (.str (SX.S a)) (.str (SX.S b)) = true) : a = b := by
  have e : (SX.S a == SX.S b) = true := h
  rw [SX.S_beq] at e
  exact beq_iff_eq.mp e
theorem eqv_nms : ∀ {ns ms : List (List Nat)}, PyData.eqvAll (Th.pyL (nmsTh ns)) (Th.pyL (nmsTh ms)) = true → ns = ms
  | [], [], _ => rfl
  | [], _ :: _, h => by cases h
  | _ :: _, [], h => by cases h
  | a :: ns, b :: ms, h => by
    obtain ⟨h1, h2⟩ := eqv_cons h
    rw [eqv_str h1, eqv_nms h2]
theorem kd_inj {k k' : Kd} (h : k.word = k'.word) : k = k' := by cases k <;> cases k' <;> first | rfl | (exact absurd h (by decide))
theorem eqv_rcp : ∀ {r s : Rcp}, PyData.eqv r.th.py s.th.py = true → r = s
  | .num n, .num m, h => by
    have e : (n == m) = true := (eqv_cons (eqv_head h).2).1
    rw [beq_iff_eq.mp e]
  | .read a, .read b, h => by rw [eqv_str (eqv_cons (eqv_head h).2).1]
  | .two k a b, .two k' a' b', h => by
    obtain ⟨h1, h2⟩ := eqv_head h
    obtain ⟨h3, h4⟩ := eqv_cons h2
    rw [kd_inj h1, eqv_rcp h3, eqv_rcp (eqv_cons h4).1]
  | .pick a b c, .pick a' b' c', h => by
    obtain ⟨h3, h4⟩ := eqv_cons (eqv_head h).2
    obtain ⟨h5, h6⟩ := eqv_cons h4
    rw [eqv_rcp h3, eqv_rcp h5, eqv_rcp (eqv_cons h6).1]
  | .choose a ns, .choose a' ms, h => by
    obtain ⟨h3, h4⟩ := eqv_cons (eqv_head h).2
    have h5 : PyData.eqvAll (Th.pyL (nmsTh ns)) (Th.pyL (nmsTh ms)) = true := (eqv_cons h4).1
    rw [eqv_rcp h3, eqv_nms h5]
  | .num _, .read _, h => absurd (eqv_head h).1 (by decide)
  | .num _, .two k _ _, h => absurd (eqv_head h).1 (by cases k <;> decide)
  | .num _, .pick _ _ _, h => absurd (eqv_head h).1 (by decide)
  | .num _, .choose _ _, h => absurd (eqv_head h).1 (by decide)
  | .read _, .num _, h => absurd (eqv_head h).1 (by decide)
  | .read _, .two k _ _, h => absurd (eqv_head h).1 (by cases k <;> decide)
  | .read _, .pick _ _ _, h => absurd (eqv_head h).1 (by decide)
  | .read _, .choose _ _, h => absurd (eqv_head h).1 (by decide)
  | .two k _ _, .num _, h => absurd (eqv_head h).1 (by cases k <;> decide)
  | .two k _ _, .read _, h => absurd (eqv_head h).1 (by cases k <;> decide)
  | .two k _ _, .pick _ _ _, h => absurd (eqv_head h).1 (by cases k <;> decide)
  | .two k _ _, .choose _ _, h => absurd (eqv_head h).1 (by cases k <;> decide)
  | .pick _ _ _, .num _, h => absurd (eqv_head h).1 (by decide)
  | .pick _ _ _, .read _, h => absurd (eqv_head h).1 (by decide)
  | .pick _ _ _, .two k _ _, h => absurd (eqv_head h).1 (by cases k <;> decide)
  | .pick _ _ _, .choose _ _, h => absurd (eqv_head h).1 (by decide)
  | .choose _ _, .num _, h => absurd (eqv_head h).1 (by decide)
  | .choose _ _, .read _, h => absurd (eqv_head h).1 (by decide)
  | .choose _ _, .two k _ _, h => absurd (eqv_head h).1 (by cases k <;> decide)
  | .choose _ _, .pick _ _ _, h => absurd (eqv_head h).1 (by decide)
/-! ### working name by name: what is looked for behind what was read -/
theorem OutR.bind_err {S : Type} {r : OutR S} {f : Int → S → OutR S} {e : XErr} (h : r.bind f = .err e) : r = .err e ∨ ∃ x s, r = .ok x s ∧ f x s = .err e := by
  cases r with
  | ok x s => exact .inr ⟨x, s, rfl, h⟩
  | err y => exact .inl h
theorem bind_errI {S : Type} {r : OutR S} {f : Int → S → OutR S} {e : XErr} (h : r = .err e) : r.bind f = .err e := by rw [h]; rfl
/-- a look that puts down what it tells -/
def lkO {S : Type} (lk : S → List Nat → OutR S) (p : S × List Pr) (t : List Nat) : OutR (S × List Pr) := match lk p.1 t with
  | .ok v s => .ok v (s, setd p.2 t v)
  | .err e => .err e
theorem lkO_ok {S : Type} {lk : S → List Nat → OutR S} {s s' : S} {own : List Pr} {t : List Nat} {v : Int} (e : lk s t = .ok v s') : lkO lk (s, own) t = .ok v (s', setd own t v) := by
  unfold lkO
  rw [show lk (s, own).1 t = _ from e]
theorem lkO_err {S : Type} {lk : S → List Nat → OutR S} {s : S} {own : List Pr} {t : List Nat} {x : XErr} (e : lk s t = .err x) : lkO lk (s, own) t = .err x := by
  unfold lkO
  rw [show lk (s, own).1 t = _ from e]
theorem setd_seen {own : List Pr} {t : List Nat} {v x : Int} (e : seen own t = some x) : setd own t v = own := by unfold setd; rw [e]
theorem setd_new {own : List Pr} {t : List Nat} {v : Int} (e : seen own t = none) : setd own t v = own ++ [(t, v)] := by
  unfold setd
  rw [e]
  exact putA_new v (seen_none e)
theorem seen_app {l m : List Pr} {t : List Nat} : seen (l ++ m) t = match seen l t with
  | some v => some v
  | none => seen m t := by
  induction l with
  | nil => rfl
  | cons p l ih =>
    rw [List.cons_append, seen_cons, seen_cons]
    by_cases c : p.1 = t
    · rw [if_pos c, if_pos c]
    · rw [if_neg c, if_neg c, ih]
theorem seen_more {l m : List Pr} {t : List Nat} {v : Int} (e : seen l t = some v) : seen (l ++ m) t = some v := by rw [seen_app, e]
theorem seen_setd {own : List Pr} {t u : List Nat} {v x : Int} (e : seen own u = some x) : seen (setd own t v) u = some x := by
  cases e2 : seen own t with
  | some y => rw [setd_seen e2]; exact e
  | none => rw [setd_new e2]; exact seen_more e
theorem dnL_none {f : List Nat → Option Int} {o : List Pr} {t : List Nat} {e : XErr} (h : dnL f o t = .err e) : f t = none ∧ e = .noName t := by
  unfold dnL at h
  cases e1 : f t with
  | some v => rw [e1] at h; cases h
  | none => rw [e1] at h; cases h; exact ⟨rfl, rfl⟩
section
variable {S : Type} {lk : S → List Nat → OutR S}
/-- all that is looked for is known -/
theorem wk_have {s : S} {own : List Pr} (hK : ∀ u x, seen own u = some x → lk s u = .ok x s) : ∀ {r : Rcp} {o o' : List Pr} {v : Int}, wk (dnL (seen own)) r o = .ok v o' → wk (lkO lk) r (s, own) = .ok v (s, own) := by
  have look : ∀ {t : List Nat} {o o' : List Pr} {v : Int}, dnL (seen own) o t = .ok v o' → lkO lk (s, own) t = .ok v (s, own) := by
    intro t o o' v h
    obtain ⟨e, _⟩ := dnL_ok h
    rw [lkO_ok (hK t v e), setd_seen e]
  intro r
  induction r with
  | num n => intro o o' v h; cases h; rfl
  | read t => exact fun h => look h
  | two k a b ia ib =>
    intro o o' v h
    obtain ⟨x, o1, h1, h2⟩ := OutR.bind_ok h
    obtain ⟨y, o2, h3, h4⟩ := OutR.bind_ok h2
    cases h4
    show (wk (lkO lk) a (s, own)).bind _ = _
    rw [bind_okI (ia h1), bind_okI (ib h3)]
  | pick a b c ia ib ic =>
    intro o o' v h
    obtain ⟨x, o1, h1, h2⟩ := OutR.bind_ok h
    show (wk (lkO lk) a (s, own)).bind _ = _
    rw [bind_okI (ia h1)]
    by_cases z : x > 0
    · simp only [if_pos z] at h2 ⊢
      exact ib h2
    · simp only [if_neg z] at h2 ⊢
      exact ic h2
  | choose a ns ia =>
    intro o o' v h
    obtain ⟨x, o1, h1, h2⟩ := OutR.bind_ok h
    show (wk (lkO lk) a (s, own)).bind _ = _
    rw [bind_okI (ia h1)]
    exact look h2
/-- the first name that is not known -/
theorem wk_lack {s : S} {own : List Pr} (hK : ∀ u x, seen own u = some x → lk s u = .ok x s) : ∀ {r : Rcp} {o : List Pr} {e : XErr}, wk (dnL (seen own)) r o = .err e → ∃ t, e = .noName t ∧ seen own t = none ∧ (∀ e', lk s t = .err e' → wk (lkO lk) r (s, own) = .err e') ∧
    ∀ x s', lk s t = .ok x s' → (∀ u y, seen (setd own t x) u = some y → lk s' u = .ok y s') → wk (lkO lk) r (s, own) = wk (lkO lk) r (s', setd own t x) := by
  have look : ∀ {t : List Nat} {o : List Pr} {e : XErr}, dnL (seen own) o t = .err e → e = .noName t ∧ seen own t = none ∧ (∀ e', lk s t = .err e' → lkO lk (s, own) t = .err e') ∧
      ∀ x s', lk s t = .ok x s' → (∀ u y, seen (setd own t x) u = some y → lk s' u = .ok y s') → lkO lk (s, own) t = lkO lk (s', setd own t x) t := by
    intro t o e h
    obtain ⟨e1, rfl⟩ := dnL_none h
    refine ⟨rfl, e1, fun e' h' => lkO_err h', fun x s' h' k' => ?_⟩
    have e2 : seen (setd own t x) t = some x := by rw [setd_new e1, seen_app, e1, seen_cons, if_pos rfl]
    rw [lkO_ok h', lkO_ok (k' t x e2), setd_seen e2]
  have up : ∀ {a : Rcp} {o o1 : List Pr} {x : Int} {t : List Nat} {y : Int} {s' : S}, wk (dnL (seen own)) a o = .ok x o1 → (∀ u z, seen (setd own t y) u = some z → lk s' u = .ok z s') → wk (lkO lk) a (s', setd own t y) = .ok x (s', setd own t y) :=
    fun h k' => wk_have k' (wk_mono (fun u z e => seen_setd e) h)
  intro r
  induction r with
  | num n => intro o e h; cases h
  | read t => exact fun h => ⟨t, look h⟩
  | two k a b ia ib =>
    intro o e h
    rcases OutR.bind_err h with h1 | ⟨x, o1, h1, h2⟩
    · obtain ⟨t, e1, e2, g1, g2⟩ := ia h1
      refine ⟨t, e1, e2, fun e' h' => bind_errI (g1 e' h'), fun x s' h' k' => ?_⟩
      show (wk (lkO lk) a (s, own)).bind _ = (wk (lkO lk) a (s', setd own t x)).bind _
      rw [g2 x s' h' k']
    · rcases OutR.bind_err h2 with h3 | ⟨y, o2, h3, h4⟩
      · obtain ⟨t, e1, e2, g1, g2⟩ := ib h3
        refine ⟨t, e1, e2, fun e' h' => ?_, fun y s' h' k' => ?_⟩
        · show (wk (lkO lk) a (s, own)).bind _ = _
          rw [bind_okI (wk_have hK h1), bind_errI (g1 e' h')]
        · show (wk (lkO lk) a (s, own)).bind _ = (wk (lkO lk) a (s', setd own t y)).bind _
          rw [bind_okI (wk_have hK h1), bind_okI (up h1 k'), g2 y s' h' k']
      · cases h4
  | pick a b c ia ib ic =>
    intro o e h
    rcases OutR.bind_err h with h1 | ⟨x, o1, h1, h2⟩
    · obtain ⟨t, e1, e2, g1, g2⟩ := ia h1
      refine ⟨t, e1, e2, fun e' h' => bind_errI (g1 e' h'), fun x s' h' k' => ?_⟩
      show (wk (lkO lk) a (s, own)).bind _ = (wk (lkO lk) a (s', setd own t x)).bind _
      rw [g2 x s' h' k']
    · by_cases z : x > 0
      · simp only [if_pos z] at h2
        obtain ⟨t, e1, e2, g1, g2⟩ := ib h2
        refine ⟨t, e1, e2, fun e' h' => ?_, fun y s' h' k' => ?_⟩
        · show (wk (lkO lk) a (s, own)).bind _ = _
          rw [bind_okI (wk_have hK h1), if_pos z, g1 e' h']
        · show (wk (lkO lk) a (s, own)).bind _ = (wk (lkO lk) a (s', setd own t y)).bind _
          rw [bind_okI (wk_have hK h1), bind_okI (up h1 k'), if_pos z, if_pos z, g2 y s' h' k']
      · simp only [if_neg z] at h2
        obtain ⟨t, e1, e2, g1, g2⟩ := ic h2
        refine ⟨t, e1, e2, fun e' h' => ?_, fun y s' h' k' => ?_⟩
        · show (wk (lkO lk) a (s, own)).bind _ = _
          rw [bind_okI (wk_have hK h1), if_neg z, g1 e' h']
        · show (wk (lkO lk) a (s, own)).bind _ = (wk (lkO lk) a (s', setd own t y)).bind _
          rw [bind_okI (wk_have hK h1), bind_okI (up h1 k'), if_neg z, if_neg z, g2 y s' h' k']
  | choose a ns ia =>
    intro o e h
    rcases OutR.bind_err h with h1 | ⟨x, o1, h1, h2⟩
    · obtain ⟨t, e1, e2, g1, g2⟩ := ia h1
      refine ⟨t, e1, e2, fun e' h' => bind_errI (g1 e' h'), fun x s' h' k' => ?_⟩
      show (wk (lkO lk) a (s, own)).bind _ = (wk (lkO lk) a (s', setd own t x)).bind _
      rw [g2 x s' h' k']
    · obtain ⟨e1, e2, g1, g2⟩ := look h2
      refine ⟨nthN ns x, e1, e2, fun e' h' => ?_, fun y s' h' k' => ?_⟩
      · show (wk (lkO lk) a (s, own)).bind _ = _
        rw [bind_okI (wk_have hK h1)]
        exact g1 e' h'
      · show (wk (lkO lk) a (s, own)).bind _ = (wk (lkO lk) a (s', setd own (nthN ns x) y)).bind _
        rw [bind_okI (wk_have hK h1), bind_okI (up h1 k')]
        exact g2 y s' h' k'
end
/-- what is looked for, name by name -/
theorem wk_pre {f : List Nat → Option Int} : ∀ {r : Rcp} {o o' : List Pr} {v : Int}, (o.map (·.1)).Nodup → (∀ p ∈ o, f p.1 = some p.2) → wk (dnL f) r o = .ok v o' → ∃ ext, o' = o ++ ext ∧ ∀ i p, ext[i]? = some p → wk (dnL (seen (o ++ ext.take i))) r o = .err (.noName p.1) := by
  have look : ∀ {t : List Nat} {o o' : List Pr} {v : Int}, (o.map (·.1)).Nodup → (∀ p ∈ o, f p.1 = some p.2) → dnL f o t = .ok v o' → ∃ ext, o' = o ++ ext ∧ ∀ i p, ext[i]? = some p → dnL (seen (o ++ ext.take i)) o t = .err (.noName p.1) := by
    intro t o o' v nd ho h
    obtain ⟨e, rfl⟩ := dnL_ok h
    cases e1 : seen o t with
    | some x =>
      refine ⟨[], by rw [setd_seen e1, List.append_nil], fun i p hi => ?_⟩
      simp at hi
    | none =>
      refine ⟨[(t, v)], setd_new e1, fun i p hi => ?_⟩
      cases i with
      | zero =>
        have : (t, v) = p := by simpa using hi
        subst this
        unfold dnL
        rw [List.take_zero, List.append_nil, e1]
      | succ i => simp at hi
  -- the part ahead, done with what it told and more
  have again : ∀ {a : Rcp} {o o1 m : List Pr} {x : Int}, (o1.map (·.1)).Nodup → (∀ p ∈ o, f p.1 = some p.2) → wk (dnL f) a o = .ok x o1 → wk (dnL (seen (o1 ++ m))) a o = .ok x o1 := by
    intro a o o1 m x nd ho h
    refine (wk_agree h).2 _ fun u y e hu => ?_
    obtain ⟨p, hp, ep⟩ := List.mem_map.mp hu
    have h2 := wk_told ho h p hp
    rw [show p.1 = u from ep, e] at h2
    obtain ⟨i, hi⟩ := List.mem_iff_getElem?.mp hp
    have := seen_at nd hi
    rw [show p.1 = u from ep] at this
    rw [seen_more this, ← Option.some.inj h2]
  have both : ∀ {e1 e2 : List Pr} {i : Nat}, e1.length ≤ i → (e1 ++ e2).take i = e1 ++ e2.take (i - e1.length) := fun {e1 e2 i} h => by
    rw [List.take_append, List.take_of_length_le h]
  intro r
  induction r with
  | num n => intro o o' v nd ho h; cases h; exact ⟨[], (List.append_nil _).symm, fun i p hi => by simp at hi⟩
  | read t => exact fun nd ho h => look nd ho h
  | two k a b ia ib =>
    intro o o' v nd ho h
    obtain ⟨x, o1, h1, h2⟩ := OutR.bind_ok h
    obtain ⟨y, o2, h3, h4⟩ := OutR.bind_ok h2
    cases h4
    have nd1 := wk_nd nd h1
    have ho1 := wk_told ho h1
    obtain ⟨e1, rfl, g1⟩ := ia nd ho h1
    obtain ⟨e2, rfl, g2⟩ := ib nd1 ho1 h3
    refine ⟨e1 ++ e2, List.append_assoc .., fun i p hi => ?_⟩
    by_cases c : i < e1.length
    · rw [List.getElem?_append_left c] at hi
      show (wk _ a o).bind _ = _
      rw [List.take_append_of_le_length (Nat.le_of_lt c)]
      exact bind_errI (g1 i p hi)
    · rw [List.getElem?_append_right (by omega)] at hi
      show (wk _ a o).bind _ = _
      rw [both (by omega), ← List.append_assoc, bind_okI (again nd1 ho h1)]
      exact bind_errI (g2 _ p hi)
  | pick a b c ia ib ic =>
    intro o o' v nd ho h
    obtain ⟨x, o1, h1, h2⟩ := OutR.bind_ok h
    have nd1 := wk_nd nd h1
    have ho1 := wk_told ho h1
    obtain ⟨e1, rfl, g1⟩ := ia nd ho h1
    by_cases z : x > 0
    · simp only [if_pos z] at h2
      obtain ⟨e2, rfl, g2⟩ := ib nd1 ho1 h2
      refine ⟨e1 ++ e2, List.append_assoc .., fun i p hi => ?_⟩
      by_cases c : i < e1.length
      · rw [List.getElem?_append_left c] at hi
        show (wk _ a o).bind _ = _
        rw [List.take_append_of_le_length (Nat.le_of_lt c)]
        exact bind_errI (g1 i p hi)
      · rw [List.getElem?_append_right (by omega)] at hi
        show (wk _ a o).bind _ = _
        rw [both (by omega), ← List.append_assoc, bind_okI (again nd1 ho h1), if_pos z]
        exact g2 _ p hi
    · simp only [if_neg z] at h2
      obtain ⟨e2, rfl, g2⟩ := ic nd1 ho1 h2
      refine ⟨e1 ++ e2, List.append_assoc .., fun i p hi => ?_⟩
      by_cases c : i < e1.length
      · rw [List.getElem?_append_left c] at hi
        show (wk _ a o).bind _ = _
        rw [List.take_append_of_le_length (Nat.le_of_lt c)]
        exact bind_errI (g1 i p hi)
      · rw [List.getElem?_append_right (by omega)] at hi
        show (wk _ a o).bind _ = _
        rw [both (by omega), ← List.append_assoc, bind_okI (again nd1 ho h1), if_neg z]
        exact g2 _ p hi
  | choose a ns ia =>
    intro o o' v nd ho h
    obtain ⟨x, o1, h1, h2⟩ := OutR.bind_ok h
    have nd1 := wk_nd nd h1
    have ho1 := wk_told ho h1
    obtain ⟨e1, rfl, g1⟩ := ia nd ho h1
    obtain ⟨e2, rfl, g2⟩ := look nd1 ho1 h2
    refine ⟨e1 ++ e2, List.append_assoc .., fun i p hi => ?_⟩
    by_cases c : i < e1.length
    · rw [List.getElem?_append_left c] at hi
      show (wk _ a o).bind _ = _
      rw [List.take_append_of_le_length (Nat.le_of_lt c)]
      exact bind_errI (g1 i p hi)
    · rw [List.getElem?_append_right (by omega)] at hi
      show (wk _ a o).bind _ = _
      rw [both (by omega), ← List.append_assoc, bind_okI (again nd1 ho h1)]
      exact g2 _ p hi
/-- a record that a recipe makes -/
structure TrueRec (r : Rcp) (rd : List Pr) (w : Int) : Prop where
  nd : (rd.map (·.1)).Nodup
  run : wk (dnL (seen rd)) r [] = .ok w rd
theorem TrueRec.lacks {r : Rcp} {rd : List Pr} {w : Int} (T : TrueRec r rd w) {i : Nat} {p : Pr} (h : rd[i]? = some p) : wk (dnL (seen (rd.take i))) r [] = .err (.noName p.1) := by
  obtain ⟨ext, e, g⟩ := wk_pre (o := []) List.nodup_nil (fun _ h => nomatch h) T.run
  rw [List.nil_append] at e
  subst e
  exact g i p h
theorem Rds.true {h : House} {t : List Nat} {own : List Pr} (a : Rds h t own) {r : Rcp} (e : rcpOf h.recs t = some r) : ∃ v, Val h t v ∧ TrueRec r own v := by
  obtain ⟨a1, r2, n, v, e2, a2⟩ := a
  obtain rfl : r2 = r := Option.some.inj (e2.symm.trans e)
  have nd := wk_nd (o := []) List.nodup_nil a2
  refine ⟨v, .work a1 e2 a2, nd, (wk_agree a2).2 _ fun u y e hu => ?_⟩
  obtain ⟨p, hp, ep⟩ := List.mem_map.mp hu
  have h2 := wk_told (f := Mad.val h n) (fun p (h : p ∈ ([] : List Pr)) => nomatch h) a2 p hp
  rw [show p.1 = u from ep, e] at h2
  obtain ⟨i, hi⟩ := List.mem_iff_getElem?.mp hp
  have := seen_at nd hi
  rw [show p.1 = u from ep] at this
  rw [this, ← Option.some.inj h2]
/-- a true record whose reads all are as they are now is the record of now -/
theorem TrueRec.now {h : House} {t : List Nat} {r : Rcp} {rd : List Pr} {w : Int} (T : TrueRec r rd w) (a1 : seen h.given t = none) (e : rcpOf h.recs t = some r) (hr : ∀ p ∈ rd, Val h p.1 p.2) : Val h t w ∧ Rds h t rd := by
  have ex : ∃ N, ∀ p ∈ rd, val h N p.1 = some p.2 := by
    have : ∀ l : List Pr, (∀ p ∈ l, Val h p.1 p.2) → ∃ N, ∀ p ∈ l, val h N p.1 = some p.2 := by
      intro l
      induction l with
      | nil => exact fun _ => ⟨0, fun _ h => nomatch h⟩
      | cons p l ih =>
        intro hl
        obtain ⟨n, e⟩ := hl p List.mem_cons_self
        obtain ⟨N, hN⟩ := ih fun q hq => hl q (List.mem_cons_of_mem _ hq)
        refine ⟨max n N, fun q hq => ?_⟩
        rcases List.mem_cons.mp hq with rfl | hq
        · exact val_le (Nat.le_max_left _ _) e
        · exact val_le (Nat.le_max_right _ _) (hN q hq)
    exact this rd hr
  obtain ⟨N, hN⟩ := ex
  have key := (wk_agree T.run).2 (val h N) fun u x e _ => hN _ (seen_mem e)
  exact ⟨.work a1 e key, ⟨a1, r, N, w, e, key⟩⟩
/-! #### going over the reads of a record, then working -/
section
variable {S : Type} {lk : S → List Nat → OutR S} {Kn : S → List Nat → Int → Prop}
/-- what a look tells is known from then on, and looking for it again changes nothing -/
structure Rem (lk : S → List Nat → OutR S) (Inv : S → Prop) (Kn : S → List Nat → Int → Prop) : Prop where
  same : ∀ s u x, Inv s → Kn s u x → lk s u = .ok x s
  got : ∀ s u x s', Inv s → Nm u → lk s u = .ok x s' → Inv s' ∧ Kn s' u x ∧ ∀ t y, Kn s t y → Kn s' t y
def alR (lk : S → List Nat → OutR S) : List Pr → S → XErr ⊕ (Bool × S)
  | [], s => .inr (true, s)
  | p :: ps, s => match lk s p.1 with
    | .err e => .inl e
    | .ok v s' => if v = p.2 then alR lk ps s' else .inr (false, s')
theorem seen_pre {rd : List Pr} (nd : (rd.map (·.1)).Nodup) {i : Nat} {p : Pr} (h : rd[i]? = some p) : seen (rd.take i) p.1 = none := by
  refine seen_not fun z => ?_
  obtain ⟨q, hq, e⟩ := List.mem_map.mp z
  obtain ⟨j, hj⟩ := List.mem_iff_getElem?.mp hq
  have jl : j < (rd.take i).length := (List.getElem?_eq_some_iff.mp hj).1
  rw [List.length_take] at jl
  rw [List.getElem?_take_of_lt (by omega)] at hj
  obtain ⟨hi, ei⟩ := List.getElem?_eq_some_iff.mp h
  obtain ⟨hj', ej⟩ := List.getElem?_eq_some_iff.mp hj
  have h1 : (rd.map (·.1))[i]'(by rw [List.length_map]; exact hi) = (rd.map (·.1))[j]'(by rw [List.length_map]; exact hj') := by
    rw [List.getElem_map, List.getElem_map, ei, ej]
    exact e.symm
  have := (List.getElem_inj nd).mp h1
  omega
variable {Inv : S → Prop}
/-- begun anew where the first names are known -/
theorem wk_restart (R : Rem lk Inv Kn) {r : Rcp} {rd : List Pr} {w : Int} (T : TrueRec r rd w) {s : S} (hi : Inv s) : ∀ i, i ≤ rd.length → (∀ p ∈ rd.take i, Kn s p.1 p.2) → wk (lkO lk) r (s, []) = wk (lkO lk) r (s, rd.take i)
  | 0, _, _ => by rw [List.take_zero]
  | i + 1, hl, hk => by
    have hlt : i < rd.length := by omega
    have hp := List.getElem?_eq_getElem hlt
    have e1 : rd.take (i + 1) = rd.take i ++ [rd[i]] := by rw [List.take_add_one, hp]; rfl
    have hk' : ∀ p ∈ rd.take i, Kn s p.1 p.2 := fun p h => hk p (by rw [e1]; exact List.mem_append_left _ h)
    rw [wk_restart R T hi i (by omega) hk']
    obtain ⟨t, et, en, _, g⟩ := wk_lack (lk := lk) (s := s) (own := rd.take i) (fun u x e => R.same s u x hi (hk' _ (seen_mem e))) (T.lacks hp)
    cases et
    have hs : setd (rd.take i) rd[i].1 rd[i].2 = rd.take (i + 1) := by rw [setd_new en, e1]
    have := g rd[i].2 s (R.same s _ _ hi (hk _ (by rw [e1]; exact List.mem_append_right _ (List.mem_singleton.mpr rfl)))) (fun u y e => by
      rw [hs] at e
      exact R.same s u y hi (hk _ (seen_mem e)))
    rw [this, hs]
/-- the reads of a record gone over: as working would -/
theorem al_run (R : Rem lk Inv Kn) {r : Rcp} {rd : List Pr} {w : Int} (T : TrueRec r rd w) (hn : ∀ p ∈ rd, Nm p.1) : ∀ (k i : Nat) (s : S), rd.length = i + k → Inv s → (∀ p ∈ rd.take i, Kn s p.1 p.2) → match alR lk (rd.drop i) s with
    | .inl e => wk (lkO lk) r (s, rd.take i) = .err e
    | .inr (true, s') => wk (lkO lk) r (s, rd.take i) = .ok w (s', rd) ∧ Inv s' ∧ (∀ p ∈ rd, Kn s' p.1 p.2) ∧ ∀ t y, Kn s t y → Kn s' t y
    | .inr (false, s') => wk (lkO lk) r (s, rd.take i) = wk (lkO lk) r (s', []) ∧ Inv s' ∧ (∃ p ∈ rd, ∃ v, v ≠ p.2 ∧ Kn s' p.1 v) ∧ ∀ t y, Kn s t y → Kn s' t y
  | 0, i, s, hl, hi, hk => by
    rw [List.drop_eq_nil_of_le (by omega)]
    show wk (lkO lk) r (s, rd.take i) = .ok w (s, rd) ∧ _
    rw [List.take_of_length_le (by omega)] at hk ⊢
    exact ⟨wk_have (fun u x e => R.same s u x hi (hk _ (seen_mem e))) T.run, hi, hk, fun _ _ h => h⟩
  | k + 1, i, s, hl, hi, hk => by
    have hlt : i < rd.length := by omega
    have hp := List.getElem?_eq_getElem hlt
    have e1 : rd.take (i + 1) = rd.take i ++ [rd[i]] := by rw [List.take_add_one, hp]; rfl
    have hm : rd[i] ∈ rd := List.getElem_mem hlt
    rw [List.drop_eq_getElem_cons hlt]
    obtain ⟨t, et, en, g0, g⟩ := wk_lack (lk := lk) (s := s) (own := rd.take i) (fun u x e => R.same s u x hi (hk _ (seen_mem e))) (T.lacks hp)
    cases et
    unfold alR
    cases e : lk s rd[i].1 with
    | err x => exact g0 x e
    | ok v s' =>
      obtain ⟨hi', k1, k2⟩ := R.got s _ v s' hi (hn _ hm) e
      have kset : ∀ u y, seen (setd (rd.take i) rd[i].1 v) u = some y → lk s' u = .ok y s' := fun u y e => by
        rw [setd_new en] at e
        rcases List.mem_append.mp (seen_mem e) with h | h
        · exact R.same s' u y hi' (k2 _ _ (hk _ h))
        · cases List.mem_singleton.mp h
          exact R.same s' _ _ hi' k1
      have step := g v s' e kset
      by_cases c : v = rd[i].2
      · simp only [if_pos c]
        have hk' : ∀ p ∈ rd.take (i + 1), Kn s' p.1 p.2 := fun p h => by
          rw [e1] at h
          rcases List.mem_append.mp h with h | h
          · exact k2 _ _ (hk _ h)
          · rw [List.mem_singleton.mp h, ← c]; exact k1
        have ih := al_run R T hn k (i + 1) s' (by omega) hi' hk'
        have es : setd (rd.take i) rd[i].1 v = rd.take (i + 1) := by rw [setd_new en, e1, c]
        rw [step, es]
        cases e3 : alR lk (rd.drop (i + 1)) s' with
        | inl x => rw [e3] at ih; exact ih
        | inr q =>
          obtain ⟨b, s2⟩ := q
          rw [e3] at ih
          cases b with
          | true => exact ⟨ih.1, ih.2.1, ih.2.2.1, fun t y h => ih.2.2.2 t y (k2 t y h)⟩
          | false => exact ⟨ih.1, ih.2.1, ih.2.2.1, fun t y h => ih.2.2.2 t y (k2 t y h)⟩
      · simp only [if_neg c]
        refine ⟨?_, hi', ⟨rd[i], hm, v, c, k1⟩, k2⟩
        rw [step, wk_restart R T hi' i (by omega) fun p h => k2 _ _ (hk _ h)]
        obtain ⟨t, et, en2, _, g2⟩ := wk_lack (lk := lk) (s := s') (own := rd.take i) (fun u x e => R.same s' u x hi' (k2 _ _ (hk _ (seen_mem e)))) (T.lacks hp)
        cases et
        exact (g2 v s' (R.same s' _ _ hi' k1) kset).symm
end
/-! ### builds from records: plain facts -/
abbrev Row := List Pr × Rcp × Int
abbrev Old := List (List Nat × Row)
structure AgS where
  known : List Pr
  book : Old
  made : List (List Nat)
  kept : List (List Nat)
  going : List (List Nat)
def AgS.rk (s : AgS) : RkS := ⟨s.known, s.book.map fun p => (p.1, p.2.1), s.going⟩
def AgS.keep (s : AgS) (t : List Nat) (o : Row) : AgS := { known := putA s.known t o.2.2, book := putA s.book t o, made := s.made, kept := s.kept ++ [t], going := s.going.dropLast }
def AgS.make (s : AgS) (t : List Nat) (o : Row) : AgS := { known := putA s.known t o.2.2, book := putA s.book t o, made := s.made ++ [t], kept := s.kept, going := s.going.dropLast }
def sameR (a b : Rcp) : Bool := PyData.eqv a.th.py b.th.py
def alike (lk : AgS → List Nat → OutR AgS) (old : Old) (t : List Nat) (r : Rcp) (s : AgS) : XErr ⊕ (Bool × AgS) := match getA old t with
  | none => .inr (false, s)
  | some o => if sameR o.2.1 r = true then alR lk o.1 s else .inr (false, s)
def settled (lk : AgS → List Nat → OutR AgS) (old : Old) (t : List Nat) (r : Rcp) (x : XErr ⊕ (Bool × AgS)) : OutR AgS := match x with
  | .inl e => .err e
  | .inr (true, s) => match getA old t with
    | none => .err (.ring [])
    | some o => .ok o.2.2 (s.keep t o)
  | .inr (false, s) => match wk (lkO lk) r (s, []) with
    | .err e => .err e
    | .ok v p => .ok v (p.1.make t (p.2, r, v))
def agR (h : House) (old : Old) : Nat → AgS → List Nat → OutR AgS
  | 0, _, _ => .err (.ring [])
  | n + 1, s, t => match seen s.known t with
    | some v => .ok v s
    | none => match seen h.given t with
      | some v => .ok v { s with known := putA s.known t v }
      | none => match rcpOf h.recs t with
        | none => .err (.noName t)
        | some r => if t ∈ s.going then .err (.ring (s.going.drop (s.going.idxOf t) ++ [t])) else
          settled (agR h old n) old t r (alike (agR h old n) old t r { s with going := s.going ++ [t] })
/-- of the recipes that the house has the records are true -/
def OldOk (h : House) (old : Old) : Prop := ∀ t o r, getA old t = some o → rcpOf h.recs t = some r → sameR o.2.1 r = true → TrueRec r o.1 o.2.2 ∧ ∀ p ∈ o.1, Nm p.1
/-- there is a record by the same recipe whose reads all are as they are now -/
def GoodRec (h : House) (old : Old) (t : List Nat) : Prop := ∃ o r, getA old t = some o ∧ rcpOf h.recs t = some r ∧ sameR o.2.1 r = true ∧ ∀ p ∈ o.1, Val h p.1 p.2
open Classical in
noncomputable def isGood (h : House) (old : Old) (t : List Nat) : Bool := decide (GoodRec h old t)
theorem isGood_t {h : House} {old : Old} {t : List Nat} (g : GoodRec h old t) : isGood h old t = true := by
  classical
  unfold isGood
  exact decide_eq_true g
theorem isGood_f {h : House} {old : Old} {t : List Nat} (g : ¬ GoodRec h old t) : isGood h old t = false := by
  classical
  unfold isGood
  exact decide_eq_false g
structure AgOk (h : House) (beta : Nat → Nat) (old : Old) (s : AgS) : Prop where
  rk : RkOk h beta s.rk
  coh : Coh h s.rk
  rows : ∀ p ∈ s.book, rcpOf h.recs p.1 = some p.2.2.1 ∧ seen s.known p.1 = some p.2.2.2
  kept : s.kept = (s.book.map (·.1)).filter (isGood h old)
  made : s.made = (s.book.map (·.1)).filter fun t => !isGood h old t
theorem putA_map {α β : Type} (f : α → β) (l : List (List Nat × α)) (t : List Nat) (a : α) : (putA l t a).map (fun p => (p.1, f p.2)) = putA (l.map fun p => (p.1, f p.2)) t (f a) := by
  unfold putA
  have e : ((l.map fun p => (p.1, f p.2)).any fun p => decide (p.1 = t)) = l.any fun p => decide (p.1 = t) := by rw [List.any_map]; rfl
  rw [e]
  split
  · rw [List.map_map, List.map_map]
    refine List.map_congr_left fun p _ => ?_
    show ((fun p : List Nat × α => (p.1, f p.2)) (if p.1 = t then (p.1, a) else p)) = if p.1 = t then (p.1, f a) else (p.1, f p.2)
    split <;> rfl
  · rw [List.map_append]; rfl
theorem rk_put (s : AgS) (t : List Nat) (o : Row) : (putA s.book t o).map (fun p => (p.1, p.2.1)) = putA s.rk.read t o.1 := putA_map (fun x : Row => x.1) s.book t o
theorem seen_putA {l : List Pr} {t u : List Nat} {v : Int} : seen (putA l t v) u = if u = t then some v else seen l u := by
  by_cases hm : t ∈ l.map (·.1)
  · unfold putA
    rw [if_pos (by obtain ⟨p, hp, e⟩ := List.mem_map.mp hm; exact List.any_eq_true.mpr ⟨p, hp, decide_eq_true e⟩)]
    have key : ∀ l : List Pr, (t ∈ l.map (·.1) ∨ u ≠ t) → seen (l.map fun p => if p.1 = t then (p.1, v) else p) u = if u = t then some v else seen l u := by
      intro l
      induction l with
      | nil => intro h; rcases h with h | h; · exact nomatch h
               · rw [if_neg h]; rfl
      | cons p l ih =>
        intro h
        rw [List.map_cons, seen_cons, seen_cons]
        by_cases c : p.1 = t
        · rw [if_pos c]
          by_cases d : u = t
          · rw [if_pos d, if_pos (c.trans d.symm)]
          · rw [if_neg d, if_neg (fun z => d (z.symm.trans c)), if_neg (fun z => d (z.symm.trans c)), ih (.inr d), if_neg d]
        · rw [if_neg c]
          by_cases d : p.1 = u
          · rw [if_pos d, if_pos d, if_neg fun z => c (d.trans z)]
          · rw [if_neg d, if_neg d]
            exact ih (h.imp (fun h => (List.mem_cons.mp h).resolve_left fun z => c z.symm) id)
    by_cases d : u = t
    · exact key l (.inl ‹_›)
    · exact key l (.inr d)
  · rw [putA_new v hm, seen_app]
    by_cases d : u = t
    · rw [if_pos d, d, seen_not hm, seen_cons, if_pos rfl]
    · rw [if_neg d]
      cases e : seen l u with
      | some x => rfl
      | none => rw [seen_cons, if_neg fun z => d z.symm]; rfl
theorem lkO_is (lk : RkS → List Nat → OutR RkS) : lkO lk = lkOwn lk := by
  funext p t
  unfold lkO lkOwn
  cases lk p.1 t <;> rfl
/-- two lookers that tell alike -/
theorem wk_sim {S1 S2 : Type} {l1 : S1 → List Nat → OutR S1} {l2 : S2 → List Nat → OutR S2} {R : S1 → S2 → Prop} (hl : ∀ a b t, R a b → Nm t → match l2 b t with
    | .err e => l1 a t = .err e
    | .ok v b' => ∃ a', l1 a t = .ok v a' ∧ R a' b') : ∀ {r : Rcp} {a : S1} {b : S2} {o : List Pr}, r.Wn → R a b → match wk (lkO l2) r (b, o) with
    | .err e => wk (lkO l1) r (a, o) = .err e
    | .ok v p => ∃ a', wk (lkO l1) r (a, o) = .ok v (a', p.2) ∧ R a' p.1 := by
  have look : ∀ {t : List Nat} {a : S1} {b : S2} {o : List Pr}, Nm t → R a b → match lkO l2 (b, o) t with
      | .err e => lkO l1 (a, o) t = .err e
      | .ok v p => ∃ a', lkO l1 (a, o) t = .ok v (a', p.2) ∧ R a' p.1 := by
    intro t a b o ht hr
    have := hl a b t hr ht
    cases e : l2 b t with
    | err x =>
      rw [e] at this
      rw [lkO_err e]
      exact lkO_err this
    | ok v b' =>
      rw [e] at this
      obtain ⟨a', e1, r1⟩ := this
      rw [lkO_ok e]
      exact ⟨a', lkO_ok e1, r1⟩
  intro r
  induction r with
  | num n => intro a b o _ hr; exact ⟨a, rfl, hr⟩
  | read t => exact fun hw hr => look hw hr
  | two k x y ix iy =>
    intro a b o hw hr
    have h1 := ix (o := o) hw.1 hr
    show match (wk (lkO l2) x (b, o)).bind _ with | .err e => (wk (lkO l1) x (a, o)).bind _ = .err e | .ok v p => ∃ a', (wk (lkO l1) x (a, o)).bind _ = .ok v (a', p.2) ∧ R a' p.1
    cases e : wk (lkO l2) x (b, o) with
    | err z => rw [e] at h1; exact bind_errI h1
    | ok v p =>
      rw [e] at h1
      obtain ⟨a1, e1, r1⟩ := h1
      have h2 := iy (o := p.2) hw.2 r1
      rw [show (OutR.ok v p).bind _ = _ from rfl, bind_okI e1]
      show match (wk (lkO l2) y (p.1, p.2)).bind _ with | .err e => (wk (lkO l1) y (a1, p.2)).bind _ = .err e | .ok v p' => ∃ a', (wk (lkO l1) y (a1, p.2)).bind _ = .ok v (a', p'.2) ∧ R a' p'.1
      cases e2 : wk (lkO l2) y (p.1, p.2) with
      | err z => rw [e2] at h2; exact bind_errI h2
      | ok w q =>
        rw [e2] at h2
        obtain ⟨a2, e3, r2⟩ := h2
        exact ⟨a2, bind_okI e3, r2⟩
  | pick x y z ix iy iz =>
    intro a b o hw hr
    have h1 := ix (o := o) hw.1 hr
    show match (wk (lkO l2) x (b, o)).bind _ with | .err e => (wk (lkO l1) x (a, o)).bind _ = .err e | .ok v p => ∃ a', (wk (lkO l1) x (a, o)).bind _ = .ok v (a', p.2) ∧ R a' p.1
    cases e : wk (lkO l2) x (b, o) with
    | err z => rw [e] at h1; exact bind_errI h1
    | ok v p =>
      rw [e] at h1
      obtain ⟨a1, e1, r1⟩ := h1
      rw [bind_okI e1]
      refine (show match (if v > 0 then wk (lkO l2) y p else wk (lkO l2) z p) with | .err e => (if v > 0 then wk (lkO l1) y (a1, p.2) else wk (lkO l1) z (a1, p.2)) = .err e | .ok w q => ∃ a', (if v > 0 then wk (lkO l1) y (a1, p.2) else wk (lkO l1) z (a1, p.2)) = .ok w (a', q.2) ∧ R a' q.1 from ?_)
      by_cases c : v > 0
      · simp only [if_pos c]
        exact iy (o := p.2) hw.2.1 r1
      · simp only [if_neg c]
        exact iz (o := p.2) hw.2.2 r1
  | choose x ns ix =>
    intro a b o hw hr
    have h1 := ix (o := o) hw.1 hr
    show match (wk (lkO l2) x (b, o)).bind _ with | .err e => (wk (lkO l1) x (a, o)).bind _ = .err e | .ok v p => ∃ a', (wk (lkO l1) x (a, o)).bind _ = .ok v (a', p.2) ∧ R a' p.1
    cases e : wk (lkO l2) x (b, o) with
    | err z => rw [e] at h1; exact bind_errI h1
    | ok v p =>
      rw [e] at h1
      obtain ⟨a1, e1, r1⟩ := h1
      rw [show (OutR.ok v p).bind _ = _ from rfl, bind_okI e1]
      obtain ⟨i, _, hi⟩ := nth_mem hw.2.1 v
      exact look (o := p.2) (hw.2.2.2 _ (List.mem_of_getElem? hi)) r1
/-! #### a build from records tells what a fresh build tells -/
theorem AgOk.empty (h : House) (beta : Nat → Nat) (old : Old) : AgOk h beta old ⟨[], [], [], [], []⟩ := ⟨emptyOk h beta, Coh.empty h, (fun _ h => nomatch h), rfl, rfl⟩
theorem AgOk.kn {h : House} {beta : Nat → Nat} {old : Old} {s : AgS} (o : AgOk h beta old s) {u : List Nat} {x : Int} (e : seen s.known u = some x) : Val h u x := o.coh.kn _ (seen_mem e)
/-- what is known stays known -/
theorem kn_keep {h : House} {s s' : RkS} (c : Coh h s) (c' : Coh h s') (mono : ∀ u ∈ s.known.map (·.1), u ∈ s'.known.map (·.1)) {u : List Nat} {x : Int} (e : seen s.known u = some x) : seen s'.known u = some x := by
  have hm := mono u (seen_key e)
  cases e2 : seen s'.known u with
  | none => exact absurd hm (seen_none e2)
  | some y =>
    have h1 : Val h u x := c.kn _ (seen_mem e)
    have h2 : Val h u y := c'.kn _ (seen_mem e2)
    rw [h1.det h2]
theorem AgOk.put {h : House} {beta : Nat → Nat} {old : Old} {s : AgS} {A : List (List Nat)} {t : List Nat} {o : Row} {dm : Nat} (HH : HouseN dm h beta) (k : AgOk h beta old s) (ha : s.going = A ++ [t]) (e1 : seen h.given t = none) (e2 : rcpOf h.recs t = some o.2.1) (hv : Val h t o.2.2) (hr : Rds h t o.1) (hn : ∀ p ∈ o.1, Nm p.1) :
    RkOk h beta ⟨putA s.known t o.2.2, putA s.rk.read t o.1, s.going.dropLast⟩ ∧ Coh h ⟨putA s.known t o.2.2, putA s.rk.read t o.1, s.going.dropLast⟩ ∧ (putA s.book t o).map (·.1) = s.book.map (·.1) ++ [t] ∧ (∀ p ∈ putA s.book t o, rcpOf h.recs p.1 = some p.2.2.1 ∧ seen (putA s.known t o.2.2) p.1 = some p.2.2.2) := by
  have nd := k.rk.nd
  have hrk : s.rk.asked = A ++ [t] := ha
  rw [hrk] at nd
  have ct : ¬ t ∈ s.rk.read.map (·.1) := fun z => (List.nodup_append.mp nd).2.2 t (List.mem_append_right _ (List.mem_singleton.mpr rfl)) t z rfl
  have eb : s.rk.read.map (·.1) = s.book.map (·.1) := by
    show (s.book.map fun p => (p.1, p.2.1)).map (·.1) = _
    rw [List.map_map]
    rfl
  have kn : ∀ {u x}, seen s.known u = some x → seen (putA s.known t o.2.2) u = some x := fun {u x} e => by
    rw [seen_putA]
    by_cases c : u = t
    · rw [if_pos c, (show Val h u x from k.kn e).det (by rw [c]; exact hv)]
    · rw [if_neg c, e]
  have hmem := rcpOf_mem e2
  refine ⟨⟨?_, fun u hu => ?_, fun p hp => ?_, fun p hp q hq => ?_, fun u hu => ?_, putA_nd k.rk.kd, fun u hu => ?_⟩, ⟨fun p hp => ?_, fun p hp => ?_, fun u hu => ?_⟩, ?_, fun p hp => ?_⟩
  · show (s.going.dropLast ++ (putA s.rk.read t o.1).map (·.1)).Nodup
    rw [ha, List.dropLast_concat, putA_keys, if_neg ct, ← List.append_assoc]
    have : ((A ++ s.rk.read.map (·.1)) ++ [t]).Perm ((A ++ [t]) ++ s.rk.read.map (·.1)) := by
      rw [List.append_assoc, List.append_assoc]
      exact List.Perm.append_left _ List.perm_append_comm
    exact this.nodup_iff.mpr nd
  · have hu : u ∈ s.going.dropLast ++ (putA s.rk.read t o.1).map (·.1) := hu
    rw [ha, List.dropLast_concat, putA_keys, if_neg ct] at hu
    have sub := k.rk.sub
    rw [hrk] at sub
    rcases List.mem_append.mp hu with hu | hu
    · exact sub u (List.mem_append_left _ (List.mem_append_left _ hu))
    · rcases List.mem_append.mp hu with hu | hu
      · exact sub u (List.mem_append_right _ hu)
      · exact sub u (List.mem_append_left _ (List.mem_append_right _ hu))
  · rcases mem_putA hp with rfl | hp
    · exact ⟨(HH.rcp _ hmem).1, hv⟩
    · exact k.rk.val p hp
  · rcases mem_putA hp with rfl | hp
    · exact hn q hq
    · exact k.rk.rds p hp q hq
  · rcases putA_mem.mp hu with hu | hu
    · exact putA_mem.mpr (.inl (k.rk.kn u hu))
    · exact putA_mem.mpr (.inr hu)
  · rcases putA_mem.mp hu with hu | rfl
    · exact k.rk.ks u hu
    · exact List.mem_append_right _ (List.mem_map.mpr ⟨_, hmem, rfl⟩)
  · rcases mem_putA hp with rfl | hp
    · exact hv
    · exact k.coh.kn p hp
  · rcases mem_putA hp with rfl | hp
    · exact hr
    · exact k.coh.rd p hp
  · rcases putA_mem.mp hu with hu | rfl
    · exact (k.coh.kr u hu).imp id fun h => putA_mem.mpr (.inl h)
    · exact .inr (putA_mem.mpr (.inr rfl))
  · rw [putA_keys, if_neg (by rw [← eb]; exact ct)]
  · rcases mem_putA hp with rfl | hp
    · exact ⟨e2, by rw [seen_putA, if_pos rfl]⟩
    · exact ⟨(k.rows p hp).1, kn (k.rows p hp).2⟩
theorem AgOk.doneK {h : House} {beta : Nat → Nat} {old : Old} {s : AgS} {A : List (List Nat)} {t : List Nat} {o : Row} {dm : Nat} (HH : HouseN dm h beta) (k : AgOk h beta old s) (ha : s.going = A ++ [t]) (e1 : seen h.given t = none) (e2 : rcpOf h.recs t = some o.2.1) (hv : Val h t o.2.2) (hr : Rds h t o.1) (hn : ∀ p ∈ o.1, Nm p.1) (g : GoodRec h old t) : AgOk h beta old (s.keep t o) := by
  obtain ⟨a, b, c, d⟩ := k.put HH ha e1 e2 hv hr hn
  have gb := isGood_t g
  refine ⟨?_, ?_, d, ?_, ?_⟩
  · show RkOk h beta ⟨putA s.known t o.2.2, (putA s.book t o).map _, s.going.dropLast⟩
    rw [rk_put]; exact a
  · show Coh h ⟨putA s.known t o.2.2, (putA s.book t o).map _, s.going.dropLast⟩
    rw [rk_put]; exact b
  · show s.kept ++ [t] = ((putA s.book t o).map (·.1)).filter _
    rw [c, List.filter_append, k.kept, List.filter_cons_of_pos gb]; rfl
  · show s.made = ((putA s.book t o).map (·.1)).filter _
    rw [c, List.filter_append, k.made, List.filter_cons_of_neg (by rw [gb]; decide)]; exact (List.append_nil _).symm
theorem AgOk.doneM {h : House} {beta : Nat → Nat} {old : Old} {s : AgS} {A : List (List Nat)} {t : List Nat} {o : Row} {dm : Nat} (HH : HouseN dm h beta) (k : AgOk h beta old s) (ha : s.going = A ++ [t]) (e1 : seen h.given t = none) (e2 : rcpOf h.recs t = some o.2.1) (hv : Val h t o.2.2) (hr : Rds h t o.1) (hn : ∀ p ∈ o.1, Nm p.1) (g : ¬ GoodRec h old t) : AgOk h beta old (s.make t o) := by
  obtain ⟨a, b, c, d⟩ := k.put HH ha e1 e2 hv hr hn
  have gb := isGood_f g
  refine ⟨?_, ?_, d, ?_, ?_⟩
  · show RkOk h beta ⟨putA s.known t o.2.2, (putA s.book t o).map _, s.going.dropLast⟩
    rw [rk_put]; exact a
  · show Coh h ⟨putA s.known t o.2.2, (putA s.book t o).map _, s.going.dropLast⟩
    rw [rk_put]; exact b
  · show s.kept = ((putA s.book t o).map (·.1)).filter _
    rw [c, List.filter_append, k.kept, List.filter_cons_of_neg (by rw [gb]; decide)]; exact (List.append_nil _).symm
  · show s.made ++ [t] = ((putA s.book t o).map (·.1)).filter _
    rw [c, List.filter_append, k.made, List.filter_cons_of_pos (by rw [gb]; decide)]; rfl
theorem Rem.of_sim {h : House} {beta : Nat → Nat} {old : Old} {dm n : Nat} (HH : HouseN dm h beta) {A : List (List Nat)} (hA : h.recs.length + 1 ≤ A.length + n)
    (ih : ∀ s t, AgOk h beta old s → s.going = A → Nm t → match lkR h n s.rk t with
      | .err e => agR h old n s t = .err e
      | .ok v k => ∃ s', agR h old n s t = .ok v s' ∧ s'.rk = k ∧ AgOk h beta old s') :
    Rem (agR h old n) (fun s => AgOk h beta old s ∧ s.going = A) (fun s u x => seen s.known u = some x) := by
  refine ⟨fun s u x ⟨o, ha⟩ e => ?_, fun s u x s' ⟨o, ha⟩ hu e => ?_⟩
  · cases n with
    | zero =>
      have := o.rk.len
      rw [show s.rk.asked = s.going from rfl, ha] at this
      omega
    | succ n =>
      unfold agR
      rw [e]
  · have := ih s u o ha hu
    cases e1 : lkR h n s.rk u with
    | err z => rw [e1] at this; rw [show agR h old n s u = _ from this] at e; cases e
    | ok v k =>
      rw [e1] at this
      obtain ⟨s2, e2, rfl, o2⟩ := this
      rw [e] at e2
      cases e2
      have st := lkR_step HH n s.rk u x s'.rk o.rk hu e1
      refine ⟨⟨o2, st.asked.trans ha⟩, ?_, fun t y hk => kn_keep o.coh o2.coh st.mono hk⟩
      cases e3 : seen s'.known u with
      | none => exact absurd st.got (seen_none e3)
      | some y =>
        have h1 : Val h u y := o2.kn e3
        rw [h1.det st.worth]
theorem agR_sim {dm : Nat} {h : House} {beta : Nat → Nat} {old : Old} (HH : HouseN dm h beta) (hO : OldOk h old) : ∀ (n : Nat) (s : AgS) (t : List Nat), AgOk h beta old s → Nm t → h.recs.length + 1 ≤ s.going.length + n → match lkR h n s.rk t with
    | .err e => agR h old n s t = .err e
    | .ok v k => ∃ s', agR h old n s t = .ok v s' ∧ s'.rk = k ∧ AgOk h beta old s'
  | 0, s, t, o, _, hn => by
    have := o.rk.len
    have e : s.rk.asked = s.going := rfl
    rw [e] at this
    omega
  | n + 1, s, t, o, ht, hn => by
    unfold lkR agR
    rw [show s.rk.known = s.known from rfl]
    cases e1 : seen s.known t with
    | some v => exact ⟨s, rfl, rfl, o⟩
    | none =>
      cases e2 : seen h.given t with
      | some v =>
        have hx : Val h t v := .given e2
        have st := lkR_step HH (n + 1) s.rk t v { s.rk with known := putA s.known t v } o.rk ht (by unfold lkR; rw [show s.rk.known = s.known from rfl, e1, e2])
        have cc := (lkR_sound (h := h) (n + 1) s.rk t v { s.rk with known := putA s.known t v } o.coh (by unfold lkR; rw [show s.rk.known = s.known from rfl, e1, e2])).2
        exact ⟨_, rfl, rfl, st.ok, cc, fun p hp => ⟨(o.rows p hp).1, kn_keep o.coh cc st.mono (o.rows p hp).2⟩, o.kept, o.made⟩
      | none =>
        cases e3 : rcpOf h.recs t with
        | none => rfl
        | some r =>
          rw [show s.rk.asked = s.going from rfl]
          by_cases c : t ∈ s.going
          · simp only [if_pos c]
          · simp only [if_neg c]
            obtain ⟨ho1, ct⟩ := o.rk.ask e3 e1 c
            have hmem := rcpOf_mem e3
            obtain ⟨_, hwn, hdp⟩ := HH.rcp _ hmem
            have o1 : AgOk h beta old { s with going := s.going ++ [t] } := ⟨ho1, ⟨o.coh.kn, o.coh.rd, o.coh.kr⟩, o.rows, o.kept, o.made⟩
            have hA : h.recs.length + 1 ≤ (s.going ++ [t]).length + n := by
              rw [List.length_append]
              show _ ≤ s.going.length + 1 + n
              omega
            have ih : ∀ s1 u, AgOk h beta old s1 → s1.going = s.going ++ [t] → Nm u → match lkR h n s1.rk u with
                | .err e => agR h old n s1 u = .err e
                | .ok v k => ∃ s', agR h old n s1 u = .ok v s' ∧ s'.rk = k ∧ AgOk h beta old s' := fun s1 u q ga hu => agR_sim HH hO n s1 u q hu (by rw [ga]; exact hA)
            have R := Rem.of_sim HH hA ih
            -- working tells what the reckoner's working tells
            have work := wk_sim (l1 := agR h old n) (l2 := lkR h n) (R := fun a b => a.rk = b ∧ AgOk h beta old a ∧ a.going = s.going ++ [t]) (fun a b u hr hu => by
              obtain ⟨rfl, q, ga⟩ := hr
              have := ih a u q ga hu
              cases e : lkR h n a.rk u with
              | err z => rw [e] at this; exact this
              | ok v k =>
                rw [e] at this
                obtain ⟨a', e4, rfl, q'⟩ := this
                exact ⟨a', e4, rfl, q', (lkR_step HH n a.rk u v a'.rk q.rk hu e).asked.trans ga⟩) (r := r) (a := { s with going := s.going ++ [t] }) (b := { s.rk with asked := s.going ++ [t] }) (o := []) hwn ⟨rfl, o1, rfl⟩
            rw [lkO_is] at work
            -- what a made record comes to
            have fresh : ∀ {v : Int} {p : RkS × List Pr}, wk (lkOwn (lkR h n)) r ({ s.rk with asked := s.going ++ [t] }, []) = .ok v p → Val h t v ∧ Rds h t p.2 ∧ ∀ q ∈ p.2, Nm q.1 := fun {v p} e => by
              obtain ⟨o4, a4, l4, w4, b4⟩ := wk_step (A := s.going ++ [t]) (fun s t v s' o _ ht e => lkR_step HH n s t v s' o ht e) hwn (p := ({ s.rk with asked := s.going ++ [t] }, [])) ho1 rfl (OwnOk.nil _ _) e
              obtain ⟨c4, m, g4⟩ := wk_sound (fun s t v s' => lkR_sound n s t v s') (p := ({ s.rk with asked := s.going ++ [t] }, [])) o1.coh e
              exact ⟨.work e2 e3 g4, ⟨e2, r, m, v, e3, g4⟩, w4.sm⟩
            have notNone : getA old t = none → ¬ GoodRec h old t := fun e5 ⟨o', _, g, _⟩ => by rw [e5] at g; cases g
            have notSame : ∀ ro, getA old t = some ro → sameR ro.2.1 r = false → ¬ GoodRec h old t := fun ro e5 e6 ⟨o', r', g1, g2, g3, _⟩ => by
              rw [e5] at g1
              rw [e3] at g2
              cases g1
              cases g2
              rw [e6] at g3
              cases g3
            have bad : ∀ (s1 : AgS) (z : XErr), wk (lkO (agR h old n)) r (s1, []) = .err z → settled (agR h old n) old t r (.inr (false, s1)) = .err z := fun s1 z e => by
              show (match wk (lkO (agR h old n)) r (s1, []) with | .err e => OutR.err e | .ok v p => .ok v (p.1.make t (p.2, r, v))) = .err z
              rw [e]
            have run : ∀ ro, getA old t = some ro → sameR ro.2.1 r = true → _ := fun ro e5 e6 => al_run R (hO t ro r e5 e3 e6).1 (hO t ro r e5 e3 e6).2 ro.1.length 0 { s with going := s.going ++ [t] } (by omega) ⟨o1, rfl⟩ (fun p h => by rw [List.take_zero] at h; cases h)
            cases e4 : wk (lkOwn (lkR h n)) r ({ s.rk with asked := s.going ++ [t] }, []) with
            | err z =>
              rw [e4] at work
              have e4' : wk (lkOwn (lkR h n)) r (({ known := s.known, read := s.rk.read, asked := s.going ++ [t] } : RkS), []) = _ := e4
              rw [e4']
              show settled (agR h old n) old t r (alike (agR h old n) old t r { s with going := s.going ++ [t] }) = .err z
              unfold alike
              cases e5 : getA old t with
              | none => exact bad _ z work
              | some ro =>
                cases e6 : sameR ro.2.1 r with
                | false =>
                  simp only [e6, Bool.false_eq_true, if_false]
                  exact bad _ z work
                | true =>
                  simp only [e6, if_true]
                  have run := run ro e5 e6
                  rw [List.drop_zero, List.take_zero] at run
                  cases e7 : alR (agR h old n) ro.1 { s with going := s.going ++ [t] } with
                  | inl y =>
                    rw [e7] at run
                    have := run.symm.trans work
                    cases this
                    rfl
                  | inr q =>
                    obtain ⟨b, s2⟩ := q
                    rw [e7] at run
                    cases b with
                    | false => exact bad _ z (run.1.symm.trans work)
                    | true =>
                      have := run.1.symm.trans work
                      cases this
            | ok v p =>
              rw [e4] at work
              obtain ⟨a', e8, er, q, ga⟩ := work
              obtain ⟨hv, hr, hnm⟩ := fresh e4
              have e4' : wk (lkOwn (lkR h n)) r (({ known := s.known, read := s.rk.read, asked := s.going ++ [t] } : RkS), []) = _ := e4
              rw [e4']
              show ∃ s', settled (agR h old n) old t r (alike (agR h old n) old t r { s with going := s.going ++ [t] }) = .ok v s' ∧ s'.rk = { known := putA p.1.known t v, read := putA p.1.read t p.2, asked := p.1.asked.dropLast } ∧ AgOk h beta old s'
              have made : ∀ s1 : AgS, wk (lkO (agR h old n)) r (s1, []) = .ok v (a', p.2) → ¬ GoodRec h old t → ∃ s', settled (agR h old n) old t r (.inr (false, s1)) = .ok v s' ∧ s'.rk = { known := putA p.1.known t v, read := putA p.1.read t p.2, asked := p.1.asked.dropLast } ∧ AgOk h beta old s' := fun s1 es ng => by
                refine ⟨a'.make t (p.2, r, v), ?_, ?_, q.doneM HH ga e2 e3 hv hr hnm ng⟩
                · show (match wk (lkO (agR h old n)) r (s1, []) with | .err e => OutR.err e | .ok v p => .ok v (p.1.make t (p.2, r, v))) = _
                  rw [es]
                · show (⟨putA a'.known t v, (putA a'.book t (p.2, r, v)).map _, a'.going.dropLast⟩ : RkS) = _
                  rw [rk_put, ← er]
                  rfl
              unfold alike
              cases e5 : getA old t with
              | none => exact made _ e8 (notNone e5)
              | some ro =>
                cases e6 : sameR ro.2.1 r with
                | false =>
                  simp only [e6, Bool.false_eq_true, if_false]
                  exact made _ e8 (notSame ro e5 e6)
                | true =>
                  simp only [e6, if_true]
                  have run := run ro e5 e6
                  rw [List.drop_zero, List.take_zero] at run
                  have req : ro.2.1 = r := eqv_rcp e6
                  cases e7 : alR (agR h old n) ro.1 { s with going := s.going ++ [t] } with
                  | inl y =>
                    rw [e7] at run
                    have := run.symm.trans e8
                    cases this
                  | inr q7 =>
                    obtain ⟨b, s2⟩ := q7
                    rw [e7] at run
                    cases b with
                    | false =>
                      obtain ⟨r1, ⟨q2, ga2⟩, ⟨p', hp, v', hne, hkn⟩, _⟩ := run
                      refine made s2 (r1.symm.trans e8) fun ⟨o', r', g1, g2, g3, g4⟩ => ?_
                      rw [e5] at g1
                      cases g1
                      exact hne ((q2.kn hkn).det (g4 p' hp))
                    | true =>
                      obtain ⟨r1, ⟨q2, ga2⟩, hkn, _⟩ := run
                      obtain ⟨ew, ea⟩ := OutR.ok.inj (r1.symm.trans e8)
                      obtain ⟨ea1, ea2⟩ := Prod.mk.inj ea
                      subst ea1
                      refine ⟨s2.keep t ro, ?_, ?_, q2.doneK HH ga2 e2 (by rw [req]; exact e3) (by rw [ew]; exact hv) (by rw [ea2]; exact hr) (by rw [ea2]; exact hnm) ⟨ro, r, e5, e3, e6, fun p hp => q2.kn (hkn p hp)⟩⟩
                      · show (match getA old t with | none => OutR.err (.ring []) | some o => .ok o.2.2 (s2.keep t o)) = _
                        rw [e5, ← ew]
                      · show (⟨putA s2.known t ro.2.2, (putA s2.book t ro).map _, s2.going.dropLast⟩ : RkS) = _
                        rw [rk_put, ← er, ew, ea2]
                        rfl
/-! ### rows of records -/
open LamX NdefX
/-- the rows of what was worked: reads, recipe, worth -/
def rowOf (h : House) (s : RkS) (p : List Nat × List Pr) : List Nat × (List Pr × Rcp × Int) := (p.1, (p.2, (rcpOf h.recs p.1).getD (.num 0), (seen s.known p.1).getD 0))
def RowR (H : Hp) (r : List Pr × Rcp × Int) (v : V) : Prop := ∃ T rv L xs, v = .ref T ∧ H T = some (.tup [rv, .ref L, .int r.2.2]) ∧ Rec H r.2.1 rv ∧ H L = some (.lst xs) ∧ Prs H r.1 xs
theorem RowR.st {H H' : Hp} (k : Keep H H') (l : ∀ b xs, H b = some (.lst xs) → H' b = some (.lst xs)) {r : List Pr × Rcp × Int} {v : V} (h : RowR H r v) : RowR H' r v := by
  obtain ⟨T, rv, L, xs, e, h1, h2, h3, h4⟩ := h
  exact ⟨T, rv, L, xs, e, k _ _ h1, h2.keep k, l _ _ h3, h4.keep k⟩
theorem kvR_own {α : Type} {R : α → V → Prop} : ∀ {l : List (List Nat × α)} {m : List (Key × V)}, KvR R l m → (l.map (·.1)).Nodup → ∀ q ∈ m, valV m q.1 = some q.2
  | [], [], _, _, _, hq => nomatch hq
  | p :: l, q :: m, ⟨x, y, z⟩, nd, r, hr => by
    obtain ⟨n1, n2⟩ := List.nodup_cons.mp nd
    rcases List.mem_cons.mp hr with rfl | hr
    · exact valV_pos rfl
    · have h1 := kvR_own z n2 r hr
      obtain ⟨i, hi, e⟩ := List.mem_iff_getElem.mp hr
      obtain ⟨p2, e1, e2, _⟩ := KvR.at (i := i) (k := r.1) (v := r.2) z (by rw [List.getElem?_eq_getElem hi, e])
      rw [valV_neg (by
        rw [x, e2]
        exact fun e => n1 (by show p.1 ∈ _; rw [kS_inj e]; exact List.mem_map.mpr ⟨p2, List.mem_of_getElem? e1, rfl⟩))]
      exact h1
  | [], _ :: _, h, _, _, _ => h.elim
  | _ :: _, [], h, _, _, _ => h.elim
/-- the lists of reads of the rows are new, and told apart from one another and from what else is told -/
def Apart (H0 H : Hp) (kD rD nL : Addr) (kvs : List (Key × V)) : Prop := kD ≠ rD ∧ ∃ fkv : List (Key × V), (fkv.map (·.2)).Nodup ∧ ∀ (i : Nat) (k : Key) (v : V), kvs[i]? = some (k, v) → ∃ (T : Addr) (rv : V) (L : Addr) (y : V) (k' : Key), v = V.ref T ∧ H T = some (.tup [rv, V.ref L, y]) ∧ fkv[i]? = some (k', V.ref L) ∧ H0 L = none ∧ L ≠ nL
theorem Apart.list {H0 H : Hp} {kD rD nL : Addr} {kvs : List (Key × V)} (a : Apart H0 H kD rD nL kvs) : kD ≠ rD ∧ ∃ Ls : List Addr, Ls.length = kvs.length ∧ Ls.Nodup ∧ (∀ L ∈ Ls, H0 L = none ∧ L ≠ nL) ∧ ∀ (i : Nat) (k : Key) (v : V), kvs[i]? = some (k, v) → ∃ (T : Addr) (rv : V) (L : Addr) (y : V), v = V.ref T ∧ H T = some (.tup [rv, V.ref L, y]) ∧ Ls[i]? = some L := by
  obtain ⟨n, fkv, nd, h⟩ := a
  have ex : ∀ i : Fin kvs.length, ∃ (L T : Addr) (rv y : V) (k' : Key), kvs[i].2 = V.ref T ∧ H T = some (.tup [rv, V.ref L, y]) ∧ fkv[i.val]? = some (k', V.ref L) ∧ H0 L = none ∧ L ≠ nL := fun i => by
    obtain ⟨T, rv, L, y, k', h1, h2, h3, h4, h5⟩ := h i.val kvs[i].1 kvs[i].2 (List.getElem?_eq_getElem i.isLt)
    exact ⟨L, T, rv, y, k', h1, h2, h3, h4, h5⟩
  obtain ⟨g, hg⟩ : ∃ g : Fin kvs.length → Addr, ∀ i, ∃ (T : Addr) (rv y : V) (k' : Key), kvs[i].2 = V.ref T ∧ H T = some (.tup [rv, V.ref (g i), y]) ∧ fkv[i.val]? = some (k', V.ref (g i)) ∧ H0 (g i) = none ∧ g i ≠ nL := ⟨fun i => Classical.choose (ex i), fun i => Classical.choose_spec (ex i)⟩
  refine ⟨n, List.ofFn g, List.length_ofFn, ?_, fun L hL => ?_, fun i k v e => ?_⟩
  · refine List.pairwise_iff_getElem.mpr fun i j hi hj hij e => ?_
    rw [List.length_ofFn] at hi hj
    rw [List.getElem_ofFn, List.getElem_ofFn] at e
    obtain ⟨_, _, _, k1, _, _, e1, _⟩ := hg ⟨i, hi⟩
    obtain ⟨_, _, _, k2, _, _, e2, _⟩ := hg ⟨j, hj⟩
    rw [← e] at e2
    have h1 : (fkv.map (·.2))[i]? = some (V.ref (g ⟨i, hi⟩)) := by rw [List.getElem?_map, e1]; rfl
    have h2 : (fkv.map (·.2))[j]? = some (V.ref (g ⟨i, hi⟩)) := by rw [List.getElem?_map, e2]; rfl
    obtain ⟨b1, c1⟩ := List.getElem?_eq_some_iff.mp h1
    obtain ⟨b2, c2⟩ := List.getElem?_eq_some_iff.mp h2
    have := (List.getElem_inj nd).mp (c1.trans c2.symm)
    omega
  · obtain ⟨i, hi, e⟩ := List.mem_iff_getElem.mp hL
    rw [List.getElem_ofFn] at e
    rw [List.length_ofFn] at hi
    obtain ⟨_, _, _, _, _, _, _, e4, e5⟩ := hg ⟨i, hi⟩
    rw [← e]
    exact ⟨e4, e5⟩
  · obtain ⟨hi, e1⟩ := List.getElem?_eq_some_iff.mp e
    obtain ⟨T, rv, y, k', e2, e3, e4, e5, e6⟩ := hg ⟨i, hi⟩
    refine ⟨T, rv, _, y, ?_, e3, ?_⟩
    · rw [← e2]
      show v = kvs[i].2
      rw [e1]
    · rw [List.getElem?_eq_getElem (by rw [List.length_ofFn]; exact hi), List.getElem_ofFn]
/-! ### the class Again walked -/
open LamX NdefX
theorem Rcp.laysW : ∀ {r : Rcp}, r.Wn → r.th.py.canLay0 = true ∧ r.th.py.depth ≤ r.dep
  | .num n, _ => ⟨by show ((PyData.str (SX.S w_number)).canLay0 && ((PyData.int n).canLay0 && true)) = true; rw [str_lay (by decide)]; rfl, by show max 0 (max 0 0) + 1 ≤ 1; decide⟩
  | .read s, h => ⟨by show ((PyData.str (SX.S w_read)).canLay0 && ((PyData.str (SX.S s)).canLay0 && true)) = true; rw [nm_lay h, str_lay (s := w_read) (by decide)]; rfl, by show max 0 (max 0 0) + 1 ≤ 1; decide⟩
  | .two k a b, h => by
    have h1 := Rcp.laysW h.1
    have h2 := Rcp.laysW h.2
    refine ⟨?_, ?_⟩
    · show ((PyData.str (SX.S k.word)).canLay0 && (a.th.py.canLay0 && (b.th.py.canLay0 && true))) = true
      rw [h1.1, h2.1, str_lay (s := k.word) (by cases k <;> decide)]
      rfl
    · show max 0 (max a.th.py.depth (max b.th.py.depth 0)) + 1 ≤ max a.dep b.dep + 1
      omega
  | .pick a b c, h => by
    have h1 := Rcp.laysW h.1
    have h2 := Rcp.laysW h.2.1
    have h3 := Rcp.laysW h.2.2
    refine ⟨?_, ?_⟩
    · show ((PyData.str (SX.S w_pick)).canLay0 && (a.th.py.canLay0 && (b.th.py.canLay0 && (c.th.py.canLay0 && true)))) = true
      rw [h1.1, h2.1, h3.1, str_lay (s := w_pick) (by decide)]
      rfl
    · show max 0 (max a.th.py.depth (max b.th.py.depth (max c.th.py.depth 0))) + 1 ≤ max a.dep (max b.dep c.dep) + 1
      omega
  | .choose a ns, h => by
    have h1 := Rcp.laysW h.1
    have h2 := nms_py h.2.2.2
    have h3 := dep_pos a
    refine ⟨?_, ?_⟩
    · show ((PyData.str (SX.S w_choose)).canLay0 && (a.th.py.canLay0 && (PyData.canLayAll0 (Th.pyL (nmsTh ns)) && true))) = true
      rw [h1.1, h2.1, str_lay (s := w_choose) (by decide)]
      rfl
    · show max 0 (max a.th.py.depth (max (PyData.depthAll (Th.pyL (nmsTh ns)) + 1) 0)) + 1 ≤ a.dep + 1
      rw [h2.2]
      omega
theorem Rcp.shapedW {r : Rcp} (hg : r.Wn) (hd : r.dep ≤ 60) : SeqAt.shaped r.th.py = true := by
  have h := Rcp.laysW hg
  show (r.th.py.canLay0 && decide (r.th.py.depth ≤ 64)) = true
  rw [h.1, decide_eq_true (by omega)]
  rfl
structure AgT (K : PySem.W.Frag) (mg : Str → Option Value) (C fI : Addr) : Prop where
  cl : Cls K C
  nG : NoAttr K C "given"
  nR : NoAttr K C "recipes"
  nO : NoAttr K C "old"
  nW : NoAttr K C "worths"
  nB : NoAttr K C "record_book"
  nM : NoAttr K C "made_list"
  nK : NoAttr K C "kept_list"
  nA : NoAttr K C "going"
  g : mg "Again" = some (.ref C)
  mkI : Mk K C fI
/-- where a build from records stands, and what stood ahead of it -/
structure AgA where
  R : Addr
  gD : Addr
  rD : Addr
  oD : Addr
  wD : Addr
  bD : Addr
  mL : Addr
  kL : Addr
  aL : Addr
  B : Hp
def AgA.own (A : AgA) : List Addr := [A.wD, A.bD, A.mL, A.kL, A.aL]
/-- the house and the records handed in -/
structure AgB (A : AgA) (h : House) (old : Old) : Prop where
  gv : A.B A.gD = some (.dK (numsK h.given))
  rc : ∃ kvs, Rd A.B A.rD (.dK kvs) ∧ KvR (Rec A.B) h.recs kvs
  od : ∃ kvs, Rd A.B A.oD (.dK kvs) ∧ KvR (RowR A.B) old kvs
  wf : ∀ t o, getA old t = some o → o.2.1.Wn ∧ o.2.1.dep ≤ 60
/-- a row told: its list of reads is L, and new -/
def RowB (A : AgA) (H : Hp) (r : Row × Addr) (v : V) : Prop := ∃ T rv xs, v = .ref T ∧ H T = some (.tup [rv, .ref r.2, .int r.1.2.2]) ∧ Rec H r.1.2.1 rv ∧ A.B r.2 = none ∧ r.2 ≠ A.mL ∧ r.2 ≠ A.kL ∧ r.2 ≠ A.aL ∧ H r.2 = some (.lst xs) ∧ Prs H r.1.1 xs
abbrev Bl := List (List Nat × (Row × Addr))
structure AgAt (C : Addr) (Tb : List NTab) (A : AgA) (s : AgS) (H : Hp) : Prop where
  ins : ∃ dx fs, H A.R = some (.ins C dx fs) ∧ fs.lookup ("given" : Str) = some (.ref A.gD) ∧ fs.lookup ("recipes" : Str) = some (.ref A.rD) ∧ fs.lookup ("old" : Str) = some (.ref A.oD) ∧ fs.lookup ("worths" : Str) = some (.ref A.wD) ∧ fs.lookup ("record_book" : Str) = some (.ref A.bD) ∧ fs.lookup ("made_list" : Str) = some (.ref A.mL) ∧ fs.lookup ("kept_list" : Str) = some (.ref A.kL) ∧ fs.lookup ("going" : Str) = some (.ref A.aL) ∧
    fs.lookup ("settle" : Str) = none ∧ fs.lookup ("is_alike" : Str) = none ∧ fs.lookup ("kept_record" : Str) = none ∧ fs.lookup ("made_record" : Str) = none
  fr : FrS Tb [] A.B H
  new : A.B A.wD = none ∧ A.B A.bD = none ∧ A.B A.mL = none ∧ A.B A.kL = none ∧ A.B A.aL = none
  wn : H A.wD = some (.dK (numsK s.known))
  bk : ∃ kvs, ∃ bl : Bl, H A.bD = some (.dK kvs) ∧ bl.map (fun p => (p.1, p.2.1)) = s.book ∧ (bl.map fun p => p.2.2).Nodup ∧ KvR (RowB A H) bl kvs
  md : H A.mL = some (.lst (txs s.made))
  kp : H A.kL = some (.lst (txs s.kept))
  ask : H A.aL = some (.lst (txs s.going))
  tab : TabsN Tb H
  ne : A.wD ≠ A.bD ∧ A.mL ≠ A.kL ∧ A.mL ≠ A.aL ∧ A.kL ≠ A.aL
theorem RowB.mp {A : AgA} {H H' : Hp} (k : Keep H H') (l : ∀ b xs, b ≠ A.mL → b ≠ A.kL → b ≠ A.aL → H b = some (.lst xs) → H' b = some (.lst xs)) {r : Row × Addr} {v : V} (h : RowB A H r v) : RowB A H' r v := by
  obtain ⟨T, rv, xs, e, h1, h2, h3, n1, n2, n3, h4, h5⟩ := h
  exact ⟨T, rv, xs, e, k _ _ h1, h2.keep k, h3, n1, n2, n3, l _ _ n1 n2 n3 h4, h5.keep k⟩
theorem KvR.each {α : Type} {R : α → V → Prop} : ∀ {l : List (List Nat × α)} {m : List (Key × V)}, KvR R l m → ∀ p ∈ l, ∃ q, q ∈ m ∧ R p.2 q.2
  | [], [], _, _, hp => nomatch hp
  | p :: l, q :: m, ⟨_, y, z⟩, r, hr => by
    rcases List.mem_cons.mp hr with rfl | hr
    · exact ⟨q, List.mem_cons_self, y⟩
    · obtain ⟨q2, h1, h2⟩ := KvR.each z r hr
      exact ⟨q2, List.mem_cons_of_mem _ h1, h2⟩
  | [], _ :: _, h, _, _ => h.elim
  | _ :: _, [], h, _, _ => h.elim
section
variable {C : Addr} {Tb : List NTab} {A : AgA} {s : AgS} {H H' : Hp}
theorem AgAt.same (a : AgAt C Tb A s H) (sm : Same H H') : AgAt C Tb A s H' := by
  obtain ⟨dx, fs, h1, h2⟩ := a.ins
  obtain ⟨kvs, bl, h3, h4, h5, h6⟩ := a.bk
  exact ⟨⟨dx, fs, sm _ _ h1, h2⟩, a.fr.trans (FrS.of sm), a.new, sm _ _ a.wn, ⟨kvs, bl, sm _ _ h3, h4, h5, h6.imp fun r v q => q.mp (same_keep sm) fun b xs _ _ _ e => sm _ _ e⟩, sm _ _ a.md, sm _ _ a.kp, sm _ _ a.ask, a.tab.ext sm, a.ne⟩
/-- other dicts may change, and tables -/
theorem AgAt.frame {S : List Addr} (a : AgAt C Tb A s H) (f : FrS Tb S H H') (hS : ∀ x ∈ S, A.B x = none ∧ (∃ kvs, H x = some (.dK kvs)) ∧ x ≠ A.wD ∧ x ≠ A.bD) : AgAt C Tb A s H' := by
  have st : ∀ {x : Addr} {u : HO}, x ∉ S → (∀ ps, u ≠ .tbl ps) → H x = some u → H' x = some u := fun n t e => f.1 _ _ n t e
  have nd : ∀ {x : Addr} {u : HO}, (∀ kvs, u ≠ .dK kvs) → H x = some u → x ∉ S := fun hu e m => by
    obtain ⟨_, ⟨kvs, e2⟩, _⟩ := hS _ m
    rw [e2] at e
    exact hu _ (Option.some.inj e).symm
  have k : Keep H H' := fun b ys e => st (nd (fun _ z => by cases z) e) (fun _ z => by cases z) e
  have l : ∀ b xs, H b = some (.lst xs) → H' b = some (.lst xs) := fun b xs e => st (nd (fun _ z => by cases z) e) (fun _ z => by cases z) e
  obtain ⟨dx, fs, h1, h2⟩ := a.ins
  obtain ⟨kvs, bl, h3, h4, h5, h6⟩ := a.bk
  exact ⟨⟨dx, fs, st (nd (fun _ z => by cases z) h1) (fun _ z => by cases z) h1, h2⟩, ((FrS.mono a.fr fun _ h => nomatch h).trans f).dropAll fun x hx => (hS x hx).1, a.new, st (fun m => (hS _ m).2.2.1 rfl) (fun _ z => by cases z) a.wn,
    ⟨kvs, bl, st (fun m => (hS _ m).2.2.2 rfl) (fun _ z => by cases z) h3, h4, h5, h6.imp fun r v q => q.mp k fun b xs _ _ _ e => l b xs e⟩, l _ _ a.md, l _ _ a.kp, l _ _ a.ask, f.2.2 a.tab, a.ne⟩
theorem AgAt.ownDL (a : AgAt C Tb A s H) {x : Addr} (hx : x ∈ A.own) : A.B x = none ∧ ((∃ kvs, H x = some (.dK kvs)) ∨ ∃ xs, H x = some (.lst xs)) := by
  obtain ⟨kvs, bl, h3, _⟩ := a.bk
  obtain ⟨n1, n2, n3, n4, n5⟩ := a.new
  unfold AgA.own at hx
  rcases List.mem_cons.mp hx with rfl | hx
  · exact ⟨n1, .inl ⟨_, a.wn⟩⟩
  rcases List.mem_cons.mp hx with rfl | hx
  · exact ⟨n2, .inl ⟨_, h3⟩⟩
  rcases List.mem_cons.mp hx with rfl | hx
  · exact ⟨n3, .inr ⟨_, a.md⟩⟩
  rcases List.mem_cons.mp hx with rfl | hx
  · exact ⟨n4, .inr ⟨_, a.kp⟩⟩
  rw [List.mem_singleton.mp hx]
  exact ⟨n5, .inr ⟨_, a.ask⟩⟩
/-- what any store to its own does not touch -/
theorem AgAt.rest (a : AgAt C Tb A s H) {x : Addr} {o : HO} (hx : x ∈ A.own) (hl : (∃ xs, H x = some (.lst xs)) → x = A.mL ∨ x = A.kL ∨ x = A.aL) :
    (∃ dx fs, upd H x o A.R = some (.ins C dx fs) ∧ fs.lookup ("given" : Str) = some (.ref A.gD) ∧ fs.lookup ("recipes" : Str) = some (.ref A.rD) ∧ fs.lookup ("old" : Str) = some (.ref A.oD) ∧ fs.lookup ("worths" : Str) = some (.ref A.wD) ∧ fs.lookup ("record_book" : Str) = some (.ref A.bD) ∧ fs.lookup ("made_list" : Str) = some (.ref A.mL) ∧ fs.lookup ("kept_list" : Str) = some (.ref A.kL) ∧ fs.lookup ("going" : Str) = some (.ref A.aL) ∧
      fs.lookup ("settle" : Str) = none ∧ fs.lookup ("is_alike" : Str) = none ∧ fs.lookup ("kept_record" : Str) = none ∧ fs.lookup ("made_record" : Str) = none) ∧
    FrS Tb [] A.B (upd H x o) ∧ TabsN Tb (upd H x o) ∧ Keep H (upd H x o) ∧ FrS Tb A.own H (upd H x o) ∧ ∀ r v, RowB A H r v → RowB A (upd H x o) r v := by
  obtain ⟨nx, dl⟩ := a.ownDL hx
  obtain ⟨dx, fs, h1, h2⟩ := a.ins
  have k : Keep H (upd H x o) := fun b ys e => by
    rw [upd_ne (fun z => by rcases dl with ⟨_, d⟩ | ⟨_, d⟩ <;> rw [z, d] at e <;> cases e)]
    exact e
  refine ⟨⟨dx, fs, ?_, h2⟩, a.fr.put0 nx dl, DL.tab dl a.tab, k, FrS.upd hx dl, fun r v q => q.mp k fun b xs n1 n2 n3 e => ?_⟩
  · rw [upd_ne (fun z => by rcases dl with ⟨_, d⟩ | ⟨_, d⟩ <;> rw [z, d] at h1 <;> cases h1)]
    exact h1
  · rw [upd_ne (fun z => ?_)]
    · exact e
    · rcases hl ⟨xs, z ▸ e⟩ with rfl | rfl | rfl
      · exact n1 z
      · exact n2 z
      · exact n3 z
/-- a worth known more -/
theorem AgAt.known (a : AgAt C Tb A s H) (t : List Nat) (v : Int) : AgAt C Tb A { s with known := putA s.known t v } (upd H A.wD (.dK (numsK (putA s.known t v)))) := by
  obtain ⟨n1, n2, n3, n4⟩ := a.ne
  obtain ⟨r1, r2, r3, r4, _, r5⟩ := a.rest (x := A.wD) (o := .dK (numsK (putA s.known t v))) (by unfold AgA.own; simp) fun ⟨xs, e⟩ => by rw [a.wn] at e; cases e
  obtain ⟨kvs, bl, h3, h4, h5, h6⟩ := a.bk
  have ls : ∀ {b xs}, H b = some (.lst xs) → upd H A.wD (.dK (numsK (putA s.known t v))) b = some (.lst xs) := fun {b xs} e => by rw [upd_ne (fun z => by rw [z, a.wn] at e; cases e)]; exact e
  exact ⟨r1, r2, a.new, upd_same, ⟨kvs, bl, by rw [upd_ne n1.symm]; exact h3, h4, h5, h6.imp r5⟩, ls a.md, ls a.kp, ls a.ask, r3, a.ne⟩
theorem AgAt.asking (a : AgAt C Tb A s H) (ns : List (List Nat)) : AgAt C Tb A { s with going := ns } (upd H A.aL (.lst (txs ns))) := by
  obtain ⟨n1, n2, n3, n4⟩ := a.ne
  obtain ⟨r1, r2, r3, r4, _, r5⟩ := a.rest (x := A.aL) (o := .lst (txs ns)) (by unfold AgA.own; simp) fun _ => .inr (.inr rfl)
  obtain ⟨kvs, bl, h3, h4, h5, h6⟩ := a.bk
  have ds : ∀ {b xs}, H b = some (.dK xs) → upd H A.aL (.lst (txs ns)) b = some (.dK xs) := fun {b xs} e => by rw [upd_ne (fun z => by rw [z, a.ask] at e; cases e)]; exact e
  exact ⟨r1, r2, a.new, ds a.wn, ⟨kvs, bl, ds h3, h4, h5, h6.imp r5⟩, by rw [upd_ne n3]; exact a.md, by rw [upd_ne n4]; exact a.kp, upd_same, r3, a.ne⟩
theorem AgAt.making (a : AgAt C Tb A s H) (ns : List (List Nat)) : AgAt C Tb A { s with made := ns } (upd H A.mL (.lst (txs ns))) := by
  obtain ⟨n1, n2, n3, n4⟩ := a.ne
  obtain ⟨r1, r2, r3, r4, _, r5⟩ := a.rest (x := A.mL) (o := .lst (txs ns)) (by unfold AgA.own; simp) fun _ => .inl rfl
  obtain ⟨kvs, bl, h3, h4, h5, h6⟩ := a.bk
  have ds : ∀ {b xs}, H b = some (.dK xs) → upd H A.mL (.lst (txs ns)) b = some (.dK xs) := fun {b xs} e => by rw [upd_ne (fun z => by rw [z, a.md] at e; cases e)]; exact e
  exact ⟨r1, r2, a.new, ds a.wn, ⟨kvs, bl, ds h3, h4, h5, h6.imp r5⟩, upd_same, by rw [upd_ne n2.symm]; exact a.kp, by rw [upd_ne n3.symm]; exact a.ask, r3, a.ne⟩
theorem AgAt.keeping (a : AgAt C Tb A s H) (ns : List (List Nat)) : AgAt C Tb A { s with kept := ns } (upd H A.kL (.lst (txs ns))) := by
  obtain ⟨n1, n2, n3, n4⟩ := a.ne
  obtain ⟨r1, r2, r3, r4, _, r5⟩ := a.rest (x := A.kL) (o := .lst (txs ns)) (by unfold AgA.own; simp) fun _ => .inr (.inl rfl)
  obtain ⟨kvs, bl, h3, h4, h5, h6⟩ := a.bk
  have ds : ∀ {b xs}, H b = some (.dK xs) → upd H A.kL (.lst (txs ns)) b = some (.dK xs) := fun {b xs} e => by rw [upd_ne (fun z => by rw [z, a.kp] at e; cases e)]; exact e
  exact ⟨r1, r2, a.new, ds a.wn, ⟨kvs, bl, ds h3, h4, h5, h6.imp r5⟩, by rw [upd_ne n2]; exact a.md, upd_same, by rw [upd_ne n4.symm]; exact a.ask, r3, a.ne⟩
/-- a row put down for a new name, its list of reads a new one -/
theorem AgAt.booking (a : AgAt C Tb A s H) {kvs : List (Key × V)} (e : H A.bD = some (.dK kvs)) {t : List Nat} {o : Row} {L : Addr} {v : V} (hr : RowB A H (o, L) v) (hnew : ∀ q ∈ kvs, ∀ T rv y, q.2 = V.ref T → H T = some (.tup [rv, V.ref L, y]) → False) (hnt : ¬ t ∈ s.book.map (·.1)) :
    AgAt C Tb A { s with book := putA s.book t o } (upd H A.bD (.dK (putK kvs (kT (SX.S t)) v))) := by
  obtain ⟨n1, n2, n3, n4⟩ := a.ne
  obtain ⟨r1, r2, r3, r4, _, r5⟩ := a.rest (x := A.bD) (o := .dK (putK kvs (kT (SX.S t)) v)) (by unfold AgA.own; simp) fun ⟨xs, e2⟩ => by rw [e] at e2; cases e2
  obtain ⟨kvs', bl, h3, h4, h5, h6⟩ := a.bk
  rw [e] at h3
  cases h3
  have ls : ∀ {b xs}, H b = some (.lst xs) → upd H A.bD (.dK (putK kvs (kT (SX.S t)) v)) b = some (.lst xs) := fun {b xs} e2 => by rw [upd_ne (fun z => by rw [z, e] at e2; cases e2)]; exact e2
  have hk : bl.map (·.1) = s.book.map (·.1) := by rw [← h4, List.map_map]; rfl
  refine ⟨r1, r2, a.new, by rw [upd_ne n1]; exact a.wn, ⟨_, putA bl t (o, L), upd_same, ?_, ?_, (KvR.put (a := (o, L)) hr h6).imp r5⟩, ls a.md, ls a.kp, ls a.ask, r3, a.ne⟩
  · rw [putA_map (fun x : Row × Addr => x.1) bl t (o, L), h4]
  · rw [putA_new _ (by rw [hk]; exact hnt), List.map_append]
    refine List.nodup_append.mpr ⟨h5, List.nodup_cons.mpr ⟨(fun z => nomatch z), List.nodup_nil⟩, fun x hx y hy e2 => ?_⟩
    obtain ⟨p, hp, rfl⟩ := List.mem_map.mp hx
    rw [List.mem_singleton.mp hy] at e2
    obtain ⟨q, hq, T, rv, xs, e3, e4, _⟩ := KvR.each h6 p hp
    exact hnew q hq T rv _ e3 (e2 ▸ e4)
end
def lvA (dm n : Nat) : Nat := n * (dm + 3) + 1
/-- what is handed to a build from records, and where it stands -/
structure AgPre (C : Addr) (Tb : List NTab) (dm : Nat) (A : AgA) (h : House) (old : Old) (beta : Nat → Nat) (s : AgS) (H : Hp) : Prop where
  HH : HouseOk dm h beta
  OO : OldOk h old
  AB : AgB A h old
  sz : h.given.length + h.recs.length ≤ 100000
  at_ : AgAt C Tb A s H
  ok : AgOk h beta old s
/-- settle's promise, by n names in one another -/
def spSet (C CN CR : Addr) (Tb : List NTab) (dm n : Nat) : Sp := fun vs H Q E => ∃ (A : AgA) (h : House) (old : Old) (beta : Nat → Nat) (s : AgS) (t : List Nat), vs = [.ref A.R, .str (SX.S t)] ∧ AgPre C Tb dm A h old beta s H ∧ h.recs.length + 1 ≤ s.going.length + n ∧ Nm t ∧
  TellW (fun s' H' => AgAt C Tb A s' H') (FrS Tb A.own) (ErK CN CR) Q E H (agR h old n s t)
def spAl (C CN CR : Addr) (Tb : List NTab) (dm n : Nat) : Sp := fun vs H Q E => ∃ (A : AgA) (h : House) (old : Old) (beta : Nat → Nat) (s : AgS) (t : List Nat) (r : Rcp), vs = [.ref A.R, .str (SX.S t)] ∧ AgPre C Tb dm A h old beta s H ∧ h.recs.length + 1 ≤ s.going.length + n ∧ Nm t ∧ rcpOf h.recs t = some r ∧
  match alike (agR h old n) old t r s with
    | .inl e => ∀ H', FrS Tb A.own H H' → ErK CN CR e E H'
    | .inr (b, s') => ∀ H', FrS Tb A.own H H' → AgAt C Tb A s' H' → Q (.bl b) H'
def spKeptR (C : Addr) (Tb : List NTab) : Sp := fun vs H Q _ => ∃ (A : AgA) (h : House) (old : Old) (s : AgS) (t : List Nat) (o : Row), vs = [.ref A.R, .str (SX.S t)] ∧ AgB A h old ∧ AgAt C Tb A s H ∧ getA old t = some o ∧
  ∀ (T L : Addr) (rv : V) (xs : List V) (H' : Hp), Same H H' → H L = none → H' T = some (.tup [rv, .ref L, .int o.2.2]) → Rec H' o.2.1 rv → H' L = some (.lst xs) → Prs H' o.1 xs → Q (.ref T) H'
def spMadeR (C CN CR : Addr) (Tb : List NTab) (dm n : Nat) : Sp := fun vs H Q E => ∃ (A : AgA) (h : House) (old : Old) (beta : Nat → Nat) (s : AgS) (t : List Nat) (r : Rcp), vs = [.ref A.R, .str (SX.S t)] ∧ AgPre C Tb dm A h old beta s H ∧ h.recs.length + 1 ≤ s.going.length + n ∧ Nm t ∧ rcpOf h.recs t = some r ∧ seen h.given t = none ∧
  match wk (lkO (agR h old n)) r (s, []) with
    | .err e => ∀ H', FrS Tb A.own H H' → ErK CN CR e E H'
    | .ok v p => ∀ (T L : Addr) (rv : V) (xs : List V) (X H' : Hp), FrS Tb A.own H X → AgAt C Tb A p.1 X → Same X H' → X L = none → H' T = some (.tup [rv, .ref L, .int v]) → Rec H' r rv → H' L = some (.lst xs) → Prs H' p.2 xs → Q (.ref T) H'
/-! ### the names within a recipe -/
/-- the names within a recipe -/
def Rcp.Wi (S : List Nat → Prop) : Rcp → Prop
  | .num _ => True
  | .read t => S t
  | .two _ a b => a.Wi S ∧ b.Wi S
  | .pick a b c => a.Wi S ∧ b.Wi S ∧ c.Wi S
  | .choose a ns => a.Wi S ∧ ∀ t ∈ ns, S t
theorem Rcp.Ev.wi {f : List Nat → Int → Prop} {S : List Nat → Prop} : ∀ {r : Rcp} {v : Int}, r.Wn → r.Wi S → r.Ev f v → r.Ev (fun t x => S t ∧ f t x) v
  | .num _, v, _, _, h => h
  | .read _, v, _, w, h => ⟨w, h⟩
  | .two _ _ _, v, n, w, ⟨a, c, h1, h2, e⟩ => ⟨a, c, h1.wi n.1 w.1, h2.wi n.2 w.2, e⟩
  | .pick _ _ _, v, n, w, ⟨a, h1, h2, h3⟩ => ⟨a, h1.wi n.1 w.1, fun c => (h2 c).wi n.2.1 w.2.1, fun c => (h3 c).wi n.2.2 w.2.2⟩
  | .choose _ _, v, n, w, ⟨a, h1, h2⟩ => ⟨a, h1.wi n.1 w.1, by obtain ⟨i, _, hi⟩ := nth_mem n.2.1 a; exact w.2 _ (List.mem_of_getElem? hi), h2⟩
theorem Rcp.Fit.wi {f : List Nat → Int → Prop} {S : List Nat → Prop} : ∀ {r : Rcp}, r.Wn → r.Wi S → r.Fit (fun t x => S t ∧ f t x) → r.Fit f
  | .num _, _, _, _ => trivial
  | .read _, _, _, _ => trivial
  | .two _ _ _, n, w, ⟨h1, h2⟩ => ⟨h1.wi n.1 w.1, fun a ha => ⟨(h2 a (ha.wi n.1 w.1)).1.wi n.2 w.2, fun c hc => (h2 a (ha.wi n.1 w.1)).2 c (hc.wi n.2 w.2)⟩⟩
  | .pick _ _ _, n, w, ⟨h1, h2⟩ => ⟨h1.wi n.1 w.1, fun a ha => ⟨fun c => ((h2 a (ha.wi n.1 w.1)).1 c).wi n.2.1 w.2.1, fun c => ((h2 a (ha.wi n.1 w.1)).2 c).wi n.2.2 w.2.2⟩⟩
  | .choose x _, n, w, h => Fit.wi (r := x) n.1 w.1 h
theorem Rcp.Wi.imp {S S' : List Nat → Prop} (h : ∀ t, S t → S' t) : ∀ {r : Rcp}, r.Wi S → r.Wi S'
  | .num _, _ => trivial
  | .read _, w => h _ w
  | .two _ _ _, w => ⟨w.1.imp h, w.2.imp h⟩
  | .pick _ _ _, w => ⟨w.1.imp h, w.2.1.imp h, w.2.2.imp h⟩
  | .choose _ _, w => ⟨w.1.imp h, fun t ht => h t (w.2 t ht)⟩
/-! ### worths bounded by names -/
def maxN : List Nat → Nat
  | [] => 0
  | a :: l => max a (maxN l)
theorem maxN_ge {l : List Nat} {a : Nat} (h : a ∈ l) : a ≤ maxN l := by
  induction l with
  | nil => exact nomatch h
  | cons b l ih =>
    show a ≤ max b (maxN l)
    rcases List.mem_cons.mp h with rfl | h
    · exact Nat.le_max_left _ _
    · exact Nat.le_trans (ih h) (Nat.le_max_right _ _)
theorem maxN_le {l : List Nat} {b : Nat} (h : ∀ a ∈ l, a ≤ b) : maxN l ≤ b := by
  induction l with
  | nil => exact Nat.zero_le _
  | cons a l ih =>
    show max a (maxN l) ≤ b
    exact Nat.max_le.mpr ⟨h a List.mem_cons_self, ih fun x hx => h x (List.mem_cons_of_mem _ hx)⟩
/-- a bound of the bits of what a recipe comes to, the read of u below 2 ^ f u -/
def Rcp.bitsN (f : List Nat → Nat) : Rcp → Nat
  | .num n => n.natAbs.log2 + 1
  | .read t => f t
  | .two .times x y => x.bitsN f + y.bitsN f
  | .two .most x y => max (x.bitsN f) (y.bitsN f)
  | .two _ x y => max (x.bitsN f) (y.bitsN f) + 1
  | .pick x y z => max (x.bitsN f) (max (y.bitsN f) (z.bitsN f))
  | .choose x ns => max (x.bitsN f) (maxN (ns.map f))
theorem bitsN_pos {f : List Nat → Nat} (hf : ∀ u, 0 < f u) : ∀ r : Rcp, 0 < r.bitsN f
  | .num _ => Nat.succ_pos _
  | .read t => hf t
  | .two k x y => by
    have hx := bitsN_pos hf x
    have hy := bitsN_pos hf y
    cases k <;> simp only [Rcp.bitsN] <;> omega
  | .pick x y z => by
    have hx := bitsN_pos hf x
    simp only [Rcp.bitsN]; omega
  | .choose x ns => by
    have hx := bitsN_pos hf x
    simp only [Rcp.bitsN]; omega
theorem apN {f : List Nat → Nat} {k : Kd} {x y : Rcp} {v w : Int} (hx : v.natAbs < 2 ^ x.bitsN f) (hy : w.natAbs < 2 ^ y.bitsN f) : (k.ap v w).natAbs < 2 ^ (Rcp.two k x y).bitsN f := by
  have hx' := pow_mono hx (Nat.le_max_left _ (y.bitsN f))
  have hy' := pow_mono hy (Nat.le_max_right (x.bitsN f) _)
  cases k with
  | plus =>
    show (v + w).natAbs < 2 ^ (max (x.bitsN f) (y.bitsN f) + 1)
    rw [Nat.pow_succ]
    omega
  | minus =>
    show (v - w).natAbs < 2 ^ (max (x.bitsN f) (y.bitsN f) + 1)
    rw [Nat.pow_succ]
    omega
  | times =>
    show (v * w).natAbs < 2 ^ (x.bitsN f + y.bitsN f)
    rw [Int.natAbs_mul, Nat.pow_add]
    exact Nat.mul_lt_mul'' hx hy
  | most => exact max_small hx' hy'
theorem Rcp.Ev.smallN {F : List Nat → Int → Prop} {f : List Nat → Nat} (hf : ∀ t v, F t v → v.natAbs < 2 ^ f t) : ∀ {r : Rcp} {v : Int}, r.Wn → r.Ev F v → v.natAbs < 2 ^ r.bitsN f
  | .num n, v, _, h => by
    rw [show v = n from h]
    exact Nat.lt_log2_self
  | .read t, v, _, h => hf t v h
  | .two k x y, v, w, h => by
    obtain ⟨a, c, h1, h2, rfl⟩ := h
    exact apN (h1.smallN hf w.1) (h2.smallN hf w.2)
  | .pick x y z, v, w, h => by
    obtain ⟨a, h1, h2, h3⟩ := h
    by_cases c : a > 0
    · exact pow_mono ((h2 c).smallN hf w.2.1) (by simp only [Rcp.bitsN]; omega)
    · exact pow_mono ((h3 c).smallN hf w.2.2) (by simp only [Rcp.bitsN]; omega)
  | .choose x ns, v, w, h => by
    obtain ⟨a, h1, h2⟩ := h
    obtain ⟨i, _, hi⟩ := nth_mem w.2.1 a
    have := maxN_ge (List.mem_map.mpr ⟨_, List.mem_of_getElem? hi, rfl⟩ : f (nthN ns a) ∈ ns.map f)
    exact pow_mono (hf _ _ h2) (by simp only [Rcp.bitsN]; omega)
theorem Rcp.Fit.of_bitsN {F : List Nat → Int → Prop} {f : List Nat → Nat} (hp : ∀ u, 0 < f u) (hf : ∀ t v, F t v → v.natAbs < 2 ^ f t) : ∀ {r : Rcp}, r.Wn → r.bitsN f ≤ 1000000 → r.Fit F
  | .num _, _, _ => trivial
  | .read _, _, _ => trivial
  | .two k x y, w, h => by
    have hs : x.bitsN f ≤ (Rcp.two k x y).bitsN f ∧ y.bitsN f ≤ (Rcp.two k x y).bitsN f := by cases k <;> simp only [Rcp.bitsN] <;> omega
    refine ⟨Fit.of_bitsN hp hf w.1 (by omega), fun a ha => ⟨Fit.of_bitsN hp hf w.2 (by omega), fun c hc e => ?_⟩⟩
    subst e
    exact wide_mul (ha.smallN hf w.1) (hc.smallN hf w.2) (bitsN_pos hp x) (bitsN_pos hp y) h
  | .pick x y z, w, h => by
    have e : (Rcp.pick x y z).bitsN f = max (x.bitsN f) (max (y.bitsN f) (z.bitsN f)) := rfl
    exact ⟨Fit.of_bitsN hp hf w.1 (by omega), fun a _ => ⟨fun _ => Fit.of_bitsN hp hf w.2.1 (by omega), fun _ => Fit.of_bitsN hp hf w.2.2 (by omega)⟩⟩
  | .choose x ns, w, h => by
    have e : (Rcp.choose x ns).bitsN f = max (x.bitsN f) (maxN (ns.map f)) := rfl
    exact Fit.of_bitsN (r := x) hp hf w.1 (by omega)
/-- no product stands in a recipe -/
def Rcp.NoT : Rcp → Prop
  | .two k x y => k ≠ .times ∧ x.NoT ∧ y.NoT
  | .pick x y z => x.NoT ∧ y.NoT ∧ z.NoT
  | .choose x _ => x.NoT
  | _ => True
theorem Rcp.Fit.noT {F : List Nat → Int → Prop} : ∀ {r : Rcp}, r.NoT → r.Fit F
  | .num _, _ => trivial
  | .read _, _ => trivial
  | .two _ _ _, h => ⟨Fit.noT h.2.1, fun _ _ => ⟨Fit.noT h.2.2, fun _ _ e => absurd e h.1⟩⟩
  | .pick _ _ _, h => ⟨Fit.noT h.1, fun _ _ => ⟨fun _ => Fit.noT h.2.1, fun _ => Fit.noT h.2.2⟩⟩
  | .choose x _, h => Fit.noT (r := x) h
/-- a house whose worths are bounded by names -/
structure HouseW (dm : Nat) (h : House) (f : List Nat → Nat) : Prop where
  rcp : ∀ p ∈ h.recs, Nm p.1 ∧ p.2.Wn ∧ p.2.dep ≤ dm ∧ p.2.bitsN f ≤ f p.1 ∧ p.2.bitsN f ≤ 1000000
  gvn : ∀ p ∈ h.given, Nm p.1 ∧ p.2.natAbs < 2 ^ f p.1
  pos : ∀ u, 0 < f u
theorem HouseW.small {dm : Nat} {h : House} {f : List Nat → Nat} (H : HouseW dm h f) : ∀ (n : Nat) {t : List Nat} {v : Int}, val h n t = some v → v.natAbs < 2 ^ f t
  | 0, t, v, e => by cases e
  | n + 1, t, v, e => by
    rw [val_succ] at e
    cases e1 : seen h.given t with
    | some x =>
      rw [e1] at e
      cases e
      exact (H.gvn _ (seen_mem e1)).2
    | none =>
      rw [e1] at e
      cases e2 : rcpOf h.recs t with
      | none => rw [e2] at e; cases e
      | some r =>
        rw [e2] at e
        cases e3 : wk (dnL (val h n)) r [] with
        | err x => simp only [e3] at e; cases e
        | ok w o =>
          simp only [e3] at e
          cases e
          obtain ⟨_, wn, _, b1, _⟩ := H.rcp _ (rcpOf_mem e2)
          exact pow_mono (((wk_ev e3).mono fun t x e => e.1).smallN (F := fun t x => val h n t = some x) (fun t v e => H.small n e) wn) b1
theorem HouseW.ok {dm : Nat} {h : House} {f : List Nat → Nat} (H : HouseW dm h f) (beta : Nat → Nat) : HouseOk dm h beta :=
  ⟨⟨fun p hp => ⟨(H.rcp p hp).1, (H.rcp p hp).2.1, (H.rcp p hp).2.2.1⟩, fun p hp => (H.gvn p hp).1⟩, fun p hp _ => Rcp.Fit.of_bitsN H.pos (fun t v ⟨n, e⟩ => H.small n e) (H.rcp p hp).2.1 (H.rcp p hp).2.2.2.2⟩
/-! ### small words, cut from A9, A12, A13 -/
open LamX NdefX
def bet0 : Nat → Nat := fun _ => 0
theorem nx_post {t : TS} {D : Ends} {σ : L2.St} {H : Hp} (Post : L2.St → Hp → Prop) (h1 : ∀ nx : L2.St → Hp → Prop, (∀ σ X, Post σ X → nx σ X) → t { D with nx := nx } σ H) (h2 : ∀ σ X, Post σ X → D.nx σ X) : t D σ H := h1 D.nx h2
theorem txs_at' {l : List (List Nat)} {i : Nat} {x : V} (h : (txs l)[i]? = some x) : ∃ t, l[i]? = some t ∧ x = .str (SX.S t) := by
  unfold txs at h
  rw [List.getElem?_map, List.getElem?_map] at h
  cases e : l[i]? with
  | none => rw [e] at h; cases h
  | some t => rw [e] at h; cases h; exact ⟨t, rfl, rfl⟩
/-! ### rows as data -/
open LamX NdefX
/-- rows as data -/
def rowTh (r : List Pr × Rcp × Int) : Th := .tup [r.2.1.th, .lst (r.1.map pairTh), .int r.2.2]
theorem RowR.data {H : Hp} {r : List Pr × Rcp × Int} {v : V} (h : RowR H r v) : Data H (rowTh r) v := by
  obtain ⟨T, rv, L, xs, e, h1, h2, h3, h4⟩ := h
  exact ⟨T, _, e, h1, _, _, rfl, h2.data, _, _, rfl, ⟨L, xs, rfl, h3, h4.data⟩, _, _, rfl, rfl, rfl⟩
theorem rowTh_flat (r : List Pr × Rcp × Int) : (rowTh r).flat = true := by
  show (r.2.1.th.flat && (Th.flatL (r.1.map pairTh) && true)) = true
  rw [Rcp.flat, prs_flat]
  rfl
theorem rowTh_shaped {r : List Pr × Rcp × Int} (hg : r.2.1.Good) (hd : r.2.1.dep ≤ 60) (hn : ∀ p ∈ r.1, Nm p.1) : SeqAt.shaped (rowTh r).py = true := by
  obtain ⟨a1, a2⟩ := Rcp.lays hg
  obtain ⟨b1, b2⟩ := prs_lay hn
  show ((r.2.1.th.py.canLay0 && (PyData.canLayAll0 (Th.pyL (r.1.map pairTh)) && true)) && decide (max r.2.1.th.py.depth (max (PyData.depthAll (Th.pyL (r.1.map pairTh)) + 1) 0) + 1 ≤ 64)) = true
  rw [a1, b1, decide_eq_true (by omega)]
  rfl
/-! ### what a fresh build and a build from records have alike -/
open LamX NdefX
/-- there is a record by the same recipe whose reads all have the worths read -/
def alB (ws : List Pr) (old : Old) (t : List Nat) (r : Rcp) : Bool := match getA old t with
  | none => false
  | some o => sameR o.2.1 r && o.1.all fun p => decide (seen ws p.1 = some p.2)
theorem alB_good {h : House} {beta : Nat → Nat} {old : Old} {s : RkS} (R : Rest h beta s) (hO : OldOk h old) {t : List Nat} {r : Rcp} (ht : t ∈ s.read.map (·.1)) (er : rcpOf h.recs t = some r) : alB s.known old t r = isGood h old t := by
  by_cases g : GoodRec h old t
  · rw [isGood_t g]
    obtain ⟨o, r', e1, e2, e3, e4⟩ := g
    rw [er] at e2
    obtain rfl := Option.some.inj e2
    unfold alB
    rw [e1]
    show (sameR o.2.1 r && o.1.all fun p => decide (seen s.known p.1 = some p.2)) = true
    rw [e3, Bool.true_and]
    refine List.all_eq_true.mpr fun p hp => decide_eq_true ?_
    obtain ⟨T, _⟩ := hO t o r e1 er e3
    obtain ⟨q, hq, rfl⟩ := List.mem_map.mp ht
    have hr := R.coh.rd _ hq
    obtain ⟨_, h2⟩ := T.now hr.1 er e4
    have e5 := hr.det h2
    have hk := R.ord.kno _ hq p.1 (by rw [e5]; exact List.mem_map.mpr ⟨p, hp, rfl⟩)
    obtain ⟨x, hx, hv⟩ := known_val R hk
    rw [show seen s.known p.1 = some x from hx, hv.det (e4 p hp)]
  · rw [isGood_f g]
    unfold alB
    cases e1 : getA old t with
    | none => rfl
    | some o =>
      show (sameR o.2.1 r && o.1.all fun p => decide (seen s.known p.1 = some p.2)) = false
      cases e3 : sameR o.2.1 r with
      | false => rfl
      | true =>
        rw [Bool.true_and]
        cases e6 : o.1.all fun p => decide (seen s.known p.1 = some p.2) with
        | false => rfl
        | true =>
          exact absurd ⟨o, r, e1, er, e3, fun p hp => R.coh.kn _ (seen_mem (of_decide_eq_true (List.all_eq_true.mp e6 p hp)))⟩ g
/-- the rows are those of what is known -/
theorem book_rows {h : House} {beta : Nat → Nat} {old : Old} {s : AgS} (o : AgOk h beta old s) : s.rk.read.map (rowOf h s.rk) = s.book := by
  show (s.book.map fun p => (p.1, p.2.1)).map (rowOf h s.rk) = s.book
  rw [List.map_map]
  refine (List.map_congr_left fun p hp => ?_).trans (List.map_id _)
  obtain ⟨a, b⟩ := o.rows p hp
  show (p.1, (p.2.1, (rcpOf h.recs p.1).getD (.num 0), (seen s.known p.1).getD 0)) = id p
  rw [a, b]
  rfl
/-- no records: all is made -/
theorem made_all {h : House} {beta : Nat → Nat} {s : AgS} (o : AgOk h beta [] s) : s.made = s.book.map (·.1) := by
  rw [o.made]
  refine List.filter_eq_self.mpr fun t _ => ?_
  rw [isGood_f fun ⟨_, _, e, _⟩ => nomatch e]
  rfl
theorem rowTh_shapedW {r : Row} (hg : r.2.1.Wn) (hd : r.2.1.dep ≤ 60) (hn : ∀ p ∈ r.1, Nm p.1) : SeqAt.shaped (rowTh r).py = true := by
  obtain ⟨a1, a2⟩ := Rcp.laysW hg
  obtain ⟨b1, b2⟩ := prs_lay hn
  show ((r.2.1.th.py.canLay0 && (PyData.canLayAll0 (Th.pyL (r.1.map pairTh)) && true)) && decide (max r.2.1.th.py.depth (max (PyData.depthAll (Th.pyL (r.1.map pairTh)) + 1) 0) + 1 ≤ 64)) = true
  rw [a1, b1, decide_eq_true (by omega)]
  rfl
/-- the same rows, laid twice -/
theorem KvR.each' {α : Type} {R : α → V → Prop} : ∀ {l : List (List Nat × α)} {m : List (Key × V)}, KvR R l m → ∀ {i : Nat} {p : List Nat × α}, l[i]? = some p → ∃ q, m[i]? = some q ∧ q.1 = kT (SX.S p.1) ∧ R p.2 q.2
  | [], [], _, _, _, h => by simp at h
  | p :: l, q :: m, ⟨a, b, c⟩, 0, x, h => by
    simp only [List.getElem?_cons_zero, Option.some.injEq] at h
    subst h
    exact ⟨q, rfl, a, b⟩
  | p :: l, q :: m, ⟨a, b, c⟩, i + 1, x, h => by
    simp only [List.getElem?_cons_succ] at h
    obtain ⟨y, h1, h2⟩ := KvR.each' c h
    exact ⟨y, by simpa using h1, h2⟩
  | [], _ :: _, h, _, _, _ => h.elim
  | _ :: _, [], h, _, _, _ => h.elim
theorem rows_same {K : PySem.W.Frag} {H : Hp} {n : Nat} (hn : 64 ≤ n) {l : List (List Nat × Row)} {ks ls : List (Key × V)} (rl : KvR (RowR H) l ks) (rm : KvR (RowR H) l ls) (nd : (l.map (·.1)).Nodup) (sh : ∀ p ∈ l, SeqAt.shaped (rowTh p.2).py = true) :
    ks.length = ls.length ∧ ∀ p ∈ ks, ∃ u, valV ls p.1 = some u ∧ L2.EqG K H (n + 1) p.2 u := by
  refine ⟨by rw [rl.len, rm.len], fun p hp => ?_⟩
  obtain ⟨i, hi, e⟩ := List.mem_iff_getElem.mp hp
  obtain ⟨k, x⟩ := p
  obtain ⟨q, hq, rfl, hx⟩ := rl.at (i := i) (k := k) (v := x) (by rw [List.getElem?_eq_getElem hi, e])
  have hqm := List.mem_of_getElem? hq
  obtain ⟨y, hy, hr⟩ := KvR.each' rm hq
  refine ⟨y.2, ?_, .inr (.inr (.inl ⟨hn, (rowTh q.2).py, (rowTh q.2).py, Data.dp (rowTh_flat _) hx.data, Data.dp (rowTh_flat _) hr.2.data, sh q hqm, sh q hqm, SeqAt.eqv_refl _ (SeqAt.canLay_of_shaped (sh q hqm))⟩))⟩
  have := kvR_own rm nd y (List.mem_of_getElem? hy)
  rw [hr.1] at this
  exact this
/-- the same worths, laid twice -/
theorem nums_same {K : PySem.W.Frag} {H : Hp} {n : Nat} {l : List Pr} (nd : (l.map (·.1)).Nodup) : (numsK l).length = (numsK l).length ∧ ∀ p ∈ numsK l, ∃ u, valV (numsK l) p.1 = some u ∧ L2.EqG K H (n + 1) p.2 u := by
  refine ⟨rfl, fun p hp => ?_⟩
  obtain ⟨q, hq, rfl⟩ := List.mem_map.mp hp
  refine ⟨.int q.2, ?_, EqG.flat rfl⟩
  show valV (numsK l) (kT (SX.S q.1)) = _
  obtain ⟨i, hi⟩ := List.mem_iff_getElem?.mp hq
  rw [val_seen, seen_at nd hi]
  rfl
/-! ### texts alike -/
theorem paired_txs {K : PySem.W.Frag} {H : Hp} {n : Nat} : ∀ l : List (List Nat), Paired (L2.EqG K H (n + 1)) (txs l) (txs l)
  | [] => .nil
  | _ :: l => .cons (EqG.flat rfl) (paired_txs l)
/-! ### worth_of, reads_of -/
open LamX NdefX
section
variable {P : Program} {w : World} {K : PySem.W.Frag} {mg : Str → Option Value} {base : Heap} {C fI CN CR : Addr} {Tb : List NTab}
abbrev s_worth_of : Stmt := topS 29
abbrev N_worth_of : List Str := ["house", "name"]
theorem sc_worth_of : FnScope N_worth_of ["house", "name"] (defScope s_worth_of) := ⟨rfl, rfl, rfl, by decide +kernel, rfl, by decide +kernel, by decide +kernel⟩

theorem ok_worth_of {dm n : Nat} {fdI : FuncData} (T : Txt K mg) (ZReckoner : RkT K mg C fI) (D : IsDef K mg "worth_of" s_worth_of ["house", "name"]) (F_Reckoner___init__ : FnOk P w K mg base CX0 1 fI fdI ["self", "house"] (spRkI C)) (B_Reckoner___init__ : Binds K fdI ["self", "house"] [])
    (ML : Met P w K mg base (L2.CX P w) (lvR dm n) C "look_for" ["self", "name"] (spLF C CN CR Tb dm n)) : Cal P w K mg base (L2.CX P w) (lvR dm n + 2) "worth_of" ["house", "name"] (spWorthOf CN CR Tb dm n) := by
  obtain ⟨f_l, fd_l, F_Reckoner_look_for, M_Reckoner_look_for, B_Reckoner_look_for⟩ := ML
  refine D.calX2 (k := lvR dm n + 1) sc_worth_of (fun vs H Q E h => ?_) (fun f cdv A outer s H vs Q E hr h => ?_)
  · obtain ⟨v, hh, beta, t, rfl, _⟩ := h
    rfl
  obtain ⟨v, hh, beta, t, rfl, HH, hsz, hn, ⟨p, gD, rD, kvs, rfl, hp, hg, hrd, hrr⟩, hT, ht, q⟩ := h
  have hlv : 1 ≤ lvR dm n := Nat.le_add_left _ _
  refine ⟨_, (pss_one (ps_ret (pe_meth (pe_make ZReckoner.mkI F_Reckoner___init__ (hr.mono (by first | decide | omega)) rfl ZReckoner.g B_Reckoner___init__ .nil pass0 (pa_cons (pv 0) pa_nil)) ZReckoner.cl M_Reckoner_look_for F_Reckoner_look_for (hr.mono (by first | decide | omega)) B_Reckoner_look_for .nil (passes_call (takes_of rfl rfl rfl rfl) (fun _ _ _ _ h => h)) (pa_cons (pv 1) pa_nil)))), ?_⟩
  refine ⟨_, rfl, fun R dx nR ndx ndR => ⟨R, dx, p, gD, rD, rfl, upd_same, ?_, fun kD fD aL H1 nk nf na nkf hfs hk hf ha hs => ⟨rfl, ?_⟩⟩⟩
  · rw [upd_ne (ne_of_none hp nR), upd_ne (ne_of_none hp ndx)]
    exact hp
  obtain ⟨a1, sm, k0, f0, a0⟩ := rk_made nR ndx hp hg hrd hrr hT nk nf na nkf hfs hk hf ha hs
  obtain ⟨fs, h1, h2⟩ := hfs
  refine ⟨R, dx, fs, rfl, h1, h2.2.2.2.2.2, _, rfl, ⟨R, gD, rD, kD, fD, aL, H⟩, hh, beta, emptyS, t, rfl, HH, hsz, a1, emptyOk _ _, ?_, ht, ?_⟩
  · show hh.recs.length + 1 ≤ 0 + n
    omega
  cases e : lkR hh n emptyS t with
  | ok v s' =>
    rw [e] at q
    exact fun H2 f2 A2 => q _ H2 (f2.news sm k0 f0 a0) rfl
  | err x =>
    rw [e] at q
    exact fun H2 f2 => q H2 (f2.news sm k0 f0 a0)
abbrev s_reads_of : Stmt := topS 30
abbrev N_reads_of : List Str := ["house", "name", "reckoner"]
theorem sc_reads_of : FnScope N_reads_of ["house", "name"] (defScope s_reads_of) := ⟨rfl, rfl, rfl, by decide +kernel, rfl, by decide +kernel, by decide +kernel⟩

theorem ok_reads_of {dm n : Nat} {fdI : FuncData} (T : Txt K mg) (ZReckoner : RkT K mg C fI) (D : IsDef K mg "reads_of" s_reads_of ["house", "name"]) (F_Reckoner___init__ : FnOk P w K mg base CX0 1 fI fdI ["self", "house"] (spRkI C)) (B_Reckoner___init__ : Binds K fdI ["self", "house"] [])
    (ML : Met P w K mg base (L2.CX P w) (lvR dm n) C "look_for" ["self", "name"] (spLF C CN CR Tb dm n)) : Cal P w K mg base (L2.CX P w) (lvR dm n + 2) "reads_of" ["house", "name"] (spReadsOf CN CR Tb dm n) := by
  obtain ⟨f_l, fd_l, F_Reckoner_look_for, M_Reckoner_look_for, B_Reckoner_look_for⟩ := ML
  refine D.calX2 (k := lvR dm n + 1) sc_reads_of (fun vs H Q E h => ?_) (fun f cdv A outer s H vs Q E hr h => ?_)
  · obtain ⟨v, hh, beta, t, rfl, _⟩ := h
    rfl
  obtain ⟨v, hh, beta, t, rfl, HH, hsz, hn, ⟨p, gD, rD, kvs, rfl, hp, hg, hrd, hrr⟩, hT, ht, q⟩ := h
  have hlv : 1 ≤ lvR dm n := Nat.le_add_left _ _
  have hu : (cxOf (L2.CX P w) P w K mg base N_reads_of "reads_of" (defScope s_reads_of) f cdv A outer s H E).A.units + 1 < cLine := Nat.lt_of_le_of_lt (Nat.add_le_add_left (by decide : 1 ≤ 64) _) hr.units
  refine ⟨_, (pss_cons (ps_set (i := 2) sc_reads_of.nd rfl (Or.inl rfl) (pe_make ZReckoner.mkI F_Reckoner___init__ (hr.mono (by first | decide | omega)) rfl ZReckoner.g B_Reckoner___init__ .nil pass0 (pa_cons (pv 0) pa_nil)))
      (pss_cons (ps_expr (pe_meth (pv 2) ZReckoner.cl M_Reckoner_look_for F_Reckoner_look_for (hr.mono (by first | decide | omega)) B_Reckoner_look_for .nil (passes_call (takes_of rfl rfl rfl rfl) (fun _ _ _ _ h => h)) (pa_cons (pv 1) pa_nil)))
      (pss_one (ps_ret (pe_dget2 hu (pe_fld (pv 2) rfl) (pv 1) (pe_lst pa_nil) ⟨rfl, rfl, rfl, rfl⟩))))), ?_⟩
  refine ⟨_, rfl, fun R dx nR ndx ndR => ⟨R, dx, p, gD, rD, rfl, upd_same, ?_, fun kD fD aL H1 nk nf na nkf hfs hk hf ha hs => ⟨rfl, ?_⟩⟩⟩
  · rw [upd_ne (ne_of_none hp nR), upd_ne (ne_of_none hp ndx)]
    exact hp
  obtain ⟨a1, sm, k0, f0, a0⟩ := rk_made nR ndx hp hg hrd hrr hT nk nf na nkf hfs hk hf ha hs
  obtain ⟨fs, h1, h2⟩ := hfs
  refine ⟨_, rfl, R, dx, fs, rfl, h1, h2.2.2.2.2.2, _, rfl, ⟨R, gD, rD, kD, fD, aL, H⟩, hh, beta, emptyS, t, rfl, HH, hsz, a1, emptyOk _ _, ?_, ht, ?_⟩
  · show hh.recs.length + 1 ≤ 0 + n
    omega
  cases e : lkR hh n emptyS t with
  | ok v s' =>
    rw [e] at q
    refine fun H2 f2 A2 => ?_
    obtain ⟨dx2, fs2, hR2, _, _, _, lF2, _, _⟩ := A2.ins
    obtain ⟨fkv, hfD, hfR⟩ := A2.rd
    refine ⟨_, rfl, R, C, dx2, fs2, _, rfl, hR2, ZReckoner.cl, ZReckoner.nF, lF2, fD, rfl, .inl ⟨_, .inl hfD⟩, _, rfl, Nat.zero_le _, fun M nM => ?_⟩
    have sM := same_new nM (.lst [])
    have fN := f2.news sm k0 f0 a0
    refine ⟨_, DGet.k (k := kT (SX.S t)) (sM _ _ hfD), ?_⟩
    rcases KvR.get (t := t) hfR with ⟨e3, e4⟩ | ⟨own, lv, e3, e4, hrv⟩
    · rw [e4]
      refine q _ _ (fN.trans (FrS.of sM)) ⟨M, [], rfl, fN.2.1 M nM, upd_same, ?_⟩
      rw [show readsFor s' t = [] by unfold readsFor; rw [e3]; rfl]
      trivial
    · rw [e4]
      obtain ⟨L, xs, rfl, nL, nB, hL, hP⟩ := hrv
      refine q _ _ (fN.trans (FrS.of sM)) ⟨L, xs, rfl, nB, sM _ _ hL, ?_⟩
      rw [show readsFor s' t = own by unfold readsFor; rw [e3]; rfl]
      exact hP.same sM
  | err x =>
    rw [e] at q
    exact fun H2 f2 => q H2 (f2.news sm k0 f0 a0)
end
/-! ### fresh_build -/
open LamX NdefX
def spFresh (K : PySem.W.Frag) (CN CR : Addr) (Tb : List NTab) (dm n : Nat) : Sp := fun vs H Q E => ∃ (v : V) (wv : Addr) (h : House) (beta : Nat → Nat) (ts : List (List Nat)), vs = [v, .ref wv] ∧ HouseOk dm h beta ∧ h.given.length + h.recs.length ≤ 100000 ∧ h.recs.length + 1 ≤ n ∧ HouseAt H h v ∧ TabsN Tb H ∧
  SqL K H wv (txs ts) ∧ ts.length ≤ 100000 ∧ (∀ t ∈ ts, Nm t) ∧ match lkAll h n emptyS ts with
    | .ok _ s => ∀ (T kD rD nL : Addr) (kvs : List (Key × V)) (H' : Hp), FrS Tb [] H H' → RkOk h beta s → H T = none → H kD = none → H rD = none → H nL = none → H' T = some (.tup [.ref kD, .ref rD, .ref nL]) → H' kD = some (.dK (numsK s.known)) → H' rD = some (.dK kvs) → KvR (RowR H') (s.read.map (rowOf h s)) kvs → H' nL = some (.lst (txs (s.read.map (·.1)))) → Q (.ref T) H'
    | .err e => ∀ H', FrS Tb [] H H' → ErK CN CR e E H'
def spFreshA (K : PySem.W.Frag) (CN CR : Addr) (Tb : List NTab) (dm n : Nat) : Sp := fun vs H Q E => ∃ (v : V) (wv : Addr) (h : House) (beta : Nat → Nat) (ts : List (List Nat)), vs = [v, .ref wv] ∧ HouseOk dm h beta ∧ h.given.length + h.recs.length ≤ 100000 ∧ h.recs.length + 1 ≤ n ∧ HouseAt H h v ∧ TabsN Tb H ∧
  SqL K H wv (txs ts) ∧ ts.length ≤ 100000 ∧ (∀ t ∈ ts, Nm t) ∧ match lkAll h n emptyS ts with
    | .ok _ s => ∀ (T kD rD nL : Addr) (kvs : List (Key × V)) (H' : Hp), FrS Tb [] H H' → RkOk h beta s → H T = none → H kD = none → H rD = none → H nL = none → H' T = some (.tup [.ref kD, .ref rD, .ref nL]) → H' kD = some (.dK (numsK s.known)) → H' rD = some (.dK kvs) → KvR (RowR H') (s.read.map (rowOf h s)) kvs → H' nL = some (.lst (txs (s.read.map (·.1)))) → Apart H H' kD rD nL kvs → Q (.ref T) H'
    | .err e => ∀ H', FrS Tb [] H H' → ErK CN CR e E H'
section
variable {P : Program} {w : World} {K : PySem.W.Frag} {mg : Str → Option Value} {base : Heap} {C fI CN CR : Addr} {Tb : List NTab}
abbrev s_fresh_build : Stmt := topS 32
abbrev N_fresh_build : List Str := ["house", "wishes", "reckoner", "name", "records"]
theorem sc_fresh_build : FnScope N_fresh_build ["house", "wishes"] (defScope s_fresh_build) := ⟨rfl, rfl, rfl, by decide +kernel, rfl, by decide +kernel, by decide +kernel⟩

theorem ok_fresh_buildA {dm n : Nat} {fdI : FuncData} (T : Txt K mg) (ZReckoner : RkT K mg C fI) (D : IsDef K mg "fresh_build" s_fresh_build ["house", "wishes"]) (F_Reckoner___init__ : FnOk P w K mg base CX0 1 fI fdI ["self", "house"] (spRkI C)) (B_Reckoner___init__ : Binds K fdI ["self", "house"] [])
    (ML : Met P w K mg base (L2.CX P w) (lvR dm n) C "look_for" ["self", "name"] (spLF C CN CR Tb dm n)) : Cal P w K mg base (L2.CX P w) (lvR dm n + 2) "fresh_build" ["house", "wishes"] (spFreshA K CN CR Tb dm n) := by
  obtain ⟨f_l, fd_l, F_Reckoner_look_for, M_Reckoner_look_for, B_Reckoner_look_for⟩ := ML
  refine D.calX2 (k := lvR dm n + 1) sc_fresh_build (fun vs H Q E h => ?_) (fun f cdv A outer s H vs Q E hr h => ?_)
  · obtain ⟨v, wv, hh, beta, ts, rfl, _⟩ := h
    rfl
  obtain ⟨v, wv, hh, beta, ts, rfl, HH, hsz, hn, ⟨p, gD, rD, kvs, rfl, hp, hg, hrd, hrr⟩, hT, hW, hwl, hts, q⟩ := h
  have hlv : 1 ≤ lvR dm n := Nat.le_add_left _ _
  have hu : (cxOf (L2.CX P w) P w K mg base N_fresh_build "fresh_build" (defScope s_fresh_build) f cdv A outer s H E).A.units + 1 < cLine := Nat.lt_of_le_of_lt (Nat.add_le_add_left (by decide : 1 ≤ 64) _) hr.units
  refine ⟨_, (pss_cons (ps_set (i := 2) sc_fresh_build.nd rfl (Or.inl rfl) (pe_make ZReckoner.mkI F_Reckoner___init__ (hr.mono (by first | decide | omega)) rfl ZReckoner.g B_Reckoner___init__ .nil pass0 (pa_cons (pv 0) pa_nil)))
      (pss_cons (ps_for (passes_of rfl) rfl (pi_list (pv 1)) (pg_name (i := 3) sc_fresh_build.nd rfl (Or.inl rfl))
        (pss_one (ps_expr (pe_meth (pv 2) ZReckoner.cl M_Reckoner_look_for F_Reckoner_look_for (hr.mono (by first | decide | omega)) B_Reckoner_look_for .nil (passes_call (takes_of rfl rfl rfl rfl) (fun _ _ _ _ h => h)) (pa_cons (pv 3) pa_nil)))))
      (pss_cons (ps_set (i := 4) sc_fresh_build.nd rfl (Or.inl rfl) pe_dnewK)
      (pss_cons (ps_lock (ps_for (passes_of rfl) rfl (pi_keys (pe_fld (pv 2) rfl)) (pg_name (i := 3) sc_fresh_build.nd rfl (Or.inl rfl))
        (pss_one (ps_dput hu (pv 4) (pv 3) (pe_tup (pa_cons (pe_dget hu (pe_fld (pv 2) rfl) (pv 3) (fun _ _ => rfl)) (pa_cons (pe_dget hu (pe_fld (pv 2) rfl) (pv 3) (fun _ _ => rfl)) (pa_cons (pe_dget hu (pe_fld (pv 2) rfl) (pv 3) (fun _ _ => rfl)) pa_nil)))) rfl))))
      (pss_one (ps_ret (pe_tup (pa_cons (pe_fld (pv 2) rfl) (pa_cons (pv 4) (pa_cons (pe_callTy (call_listD rfl) (by rfl) T.b_list (by decide +kernel) (pa_cons (pv 4) pa_nil)) pa_nil)))))))))), ?_⟩
  refine ⟨_, rfl, fun R dx nR ndx ndR => ⟨R, dx, p, gD, rD, rfl, upd_same, ?_, fun kD fD aL H1 nk nf na nkf hfs hk hf ha hs => ⟨rfl, ?_⟩⟩⟩
  · rw [upd_ne (ne_of_none hp nR), upd_ne (ne_of_none hp ndx)]
    exact hp
  obtain ⟨a1, sm, k0, f0, a0⟩ := rk_made nR ndx hp hg hrd hrr hT nk nf na nkf hfs hk hf ha hs
  obtain ⟨fs, h1, h2⟩ := hfs
  have fin : ∀ (st : RkS) (v0 : Int), lkAll hh n emptyS ts = .ok v0 st → ∀ (T kD rD nL : Addr) (kvs : List (Key × V)) (H' : Hp), FrS Tb [] H H' → RkOk hh beta st → H T = none → H kD = none → H rD = none → H nL = none → H' T = some (.tup [.ref kD, .ref rD, .ref nL]) → H' kD = some (.dK (numsK st.known)) → H' rD = some (.dK kvs) → KvR (RowR H') (st.read.map (rowOf hh st)) kvs → H' nL = some (.lst (txs (st.read.map (·.1)))) → Apart H H' kD rD nL kvs → Q (.ref T) H' := fun st v0 e => by
    rw [e] at q
    exact q
  have finE : ∀ x : XErr, lkAll hh n emptyS ts = .err x → ∀ H', FrS Tb [] H H' → ErK CN CR x E H' := fun x e => by
    rw [e] at q
    exact q
  obtain ⟨A, eA⟩ : ∃ A : RkA, A = ⟨R, gD, rD, kD, fD, aL, H⟩ := ⟨_, rfl⟩
  have aR : A.R = R := by rw [eA]
  rw [← eA] at a1
  have news : ∀ {G : Hp}, FrS Tb A.own H1 G → FrS Tb [] H G := fun f => FrS.news f sm (by rw [eA]; exact k0) (by rw [eA]; exact f0) (by rw [eA]; exact a0)
  refine ⟨_, rfl, wv, rfl, ⟨_, sm.seq hW⟩, for_list (xs := txs ts) (fun j σ G => ∃ (w3 : Option V) (st : RkS) (v0 : Int), σ = [some (.ref p), some (.ref wv), some (.ref R), w3, none] ∧ RkAt C Tb A hh st G ∧ RkOk hh beta st ∧ st.asked = [] ∧ lkAll hh n emptyS (ts.take j) = .ok v0 st ∧ FrS Tb A.own H1 G)
    ⟨none, emptyS, 0, rfl, a1, emptyOk _ _, rfl, by rw [List.take_zero]; rfl, FrS.refl _ _⟩ (fun j σ G _ ⟨w3, st, v0, _, _, _, _, _, f⟩ => ?_) ?_ ?_⟩
  · exact (news f).seq (fun z => nomatch z) hW
  · rintro j x σ G hx ⟨w3, st, v0, rfl, aG, oG, asG, eG, fG⟩
    obtain ⟨t, ht, rfl⟩ : ∃ t, ts[j]? = some t ∧ x = .str (SX.S t) := by
      have hj : j < ts.length := by
        have := (List.getElem?_eq_some_iff.mp hx).1
        rwa [txs_len] at this
      rw [txs_get hj] at hx
      exact ⟨ts[j], List.getElem?_eq_getElem hj, (Option.some.inj hx).symm⟩
    have tk : ts.take (j + 1) = ts.take j ++ [t] := by rw [List.take_add_one, ht]; rfl
    obtain ⟨dx2, fs2, hR2, _, _, _, _, _, lf2⟩ := aG.ins
    rw [aR] at hR2
    refine ⟨_, rfl, R, dx2, fs2, rfl, hR2, lf2, _, rfl, A, hh, beta, st, t, by rw [aR]; rfl, HH, hsz, aG, oG, by rw [asG]; show hh.recs.length + 1 ≤ 0 + n; omega, hts t (List.mem_of_getElem? ht), ?_⟩
    cases e : lkR hh n st t with
    | ok v1 s' =>
      intro G2 f2 A2
      have S1 := lkR_step HH.n n st t v1 s' oG (hts t (List.mem_of_getElem? ht)) e
      exact ⟨_, s', 0, rfl, A2, S1.ok, S1.asked.trans asG, by rw [tk, lkAll_snoc eG, e], fG.trans f2⟩
    | err x =>
      intro G2 f2
      refine finE x ?_ G2 (news (fG.trans f2))
      have := lkAll_err (us := ts.drop (j + 1)) (show lkAll hh n emptyS (ts.take (j + 1)) = .err x by rw [tk, lkAll_snoc eG, e])
      rwa [List.take_append_drop] at this
  · rintro σ G ⟨w3, st, v0, rfl, aG, oG, asG, eG, fG⟩
    rw [txs_len, List.take_of_length_le (Nat.le_refl _)] at eG
    have fN := news fG
    have aK : A.kD = kD := by rw [eA]
    have aF : A.fD = fD := by rw [eA]
    have aB : A.B = H := by rw [eA]
    refine fun rc nrc => ?_
    have src := same_new nrc (.dK [])
    have erc : upd G rc (.dK []) rc = some (.dK []) := upd_same
    generalize upd G rc (.dK []) = G0 at src erc ⊢
    have aG0 := aG.same src
    have fN0 := fN.trans (FrS.of src)
    have nrcH : H rc = none := fN.2.1 rc nrc
    obtain ⟨dx2, fs2, hR2, _, lR, lK, lF, _, _⟩ := aG0.ins
    rw [aR] at hR2
    rw [aK] at lK
    rw [aF] at lF
    obtain ⟨rkv, hrD, hrR⟩ := aG0.rc
    obtain ⟨fkv, hfD, hfR⟩ := aG0.rd
    have hkD := aG0.kn
    have arD : A.rD = rD := by rw [eA]
    rw [arD] at lR hrD
    rw [aF] at hfD
    rw [aK] at hkD
    have nFR : R ≠ fD := fun z => by rw [z, hfD] at hR2; cases hR2
    have nRc : R ≠ rc := fun z => by rw [z, erc] at hR2; cases hR2
    have nFc : fD ≠ rc := fun z => by
      obtain ⟨kv0, hf0, _⟩ := aG.rd
      rw [aF, z] at hf0
      rw [nrc] at hf0
      cases hf0
    obtain ⟨n1, n2, n3, n4, n5⟩ := aG0.ne
    rw [aK, aF] at n1
    rw [arD, aF] at n5
    have nKc : kD ≠ rc := fun z => by
      have := aG.kn
      rw [aK, z, nrc] at this
      cases this
    have nDc : rD ≠ rc := fun z => by
      obtain ⟨kv0, hf0, _⟩ := aG.rc
      rw [arD, z] at hf0
      rcases hf0 with e | ⟨_, e⟩ <;> rw [nrc] at e <;> cases e
    refine ⟨fD, _, hfD, ?_, fun od => ?_⟩
    · exact True.intro
    have rnd : (st.read.map (·.1)).Nodup := (List.nodup_append.mp oG.nd).2.1
    refine ⟨_, rfl, R, C, dx2, fs2, _, rfl, by rw [upd_ne nFR]; exact hR2, ZReckoner.cl, ZReckoner.nF, lF, fD, od, rfl, .inl ⟨fkv, upd_same, for_it walk_keys (fun i σ X => ∃ (w3 : Option V) (kvs : List (Key × V)), σ = [some (.ref p), some (.ref wv), some (.ref R), w3, some (.ref rc)] ∧ X fD = some (.frz od (.dK fkv)) ∧ (∀ b u, b ≠ fD → b ≠ rc → G0 b = some u → X b = some u) ∧ (∀ b, X b = none → G0 b = none) ∧ X rc = some (.dK kvs) ∧ KvR (RowR X) ((st.read.take i).map (rowOf hh st)) kvs ∧ ∀ (j : Nat) (k : Key) (v : V), kvs[j]? = some (k, v) → ∃ (T : Addr) (rv : V) (L : Addr) (y : V) (k' : Key), v = V.ref T ∧ X T = some (.tup [rv, V.ref L, y]) ∧ fkv[j]? = some (k', V.ref L) ∧ H L = none ∧ ∃ xs, G0 L = some (.lst xs))
      ⟨w3, [], rfl, upd_same, fun b u n _ e => by rw [upd_ne n]; exact e, fun b e => ?_, by rw [upd_ne nFc.symm]; exact erc, by rw [List.take_zero]; trivial, fun j k v e => (by simp at e)⟩ (fun i σ X _ ⟨_, _, _, h, _⟩ => h) ?_ ?_⟩⟩
    · unfold L2.upd at e
      split at e
      · cases e
      · exact e
    · rintro i x σ X X' hi ⟨w4, kvs, rfl, hXf, fX, zX, hXr, hXK, hAp⟩ ⟨rfl, k, v, hk, rfl⟩
      obtain ⟨q, hq, rfl, lv, rfl⟩ : ∃ q, st.read[i]? = some q ∧ k = kT (SX.S q.1) ∧ ∃ v', v = v' := by
        obtain ⟨q, h1, h2, _⟩ := hfR.at hk
        exact ⟨q, h1, h2, v, rfl⟩
      obtain ⟨_, hq', _, hrv⟩ := hfR.at hk
      rw [hq] at hq'
      cases hq'
      obtain ⟨L, xs, rfl, nL, nB, hL, hP⟩ := hrv
      have qin : q.1 ∈ st.read.map (·.1) := List.mem_map.mpr ⟨q, List.mem_of_getElem? hq, rfl⟩
      have hXR : X' R = some (.ins C dx2 fs2) := fX _ _ nFR nRc hR2
      have hXD : Rd X' rD (.dK rkv) := Rd.mp (fun _ e _ => fX _ _ n5 nDc e) hrD
      have hXK2 : X' kD = some (.dK (numsK st.known)) := fX _ _ n1 nKc hkD
      have kX : Keep G0 X' := fun b ys e => fX b _ (fun z => by rw [z, hfD] at e; cases e) (fun z => by rw [z, erc] at e; cases e) e
      have lX : ∀ b ys, G0 b = some (.lst ys) → X' b = some (.lst ys) := fun b ys e => fX b _ (fun z => by rw [z, hfD] at e; cases e) (fun z => by rw [z, erc] at e; cases e) e
      obtain ⟨r, rv, er, erv, hrr'⟩ : ∃ r rv, rcpOf hh.recs q.1 = some r ∧ valV rkv (kT (SX.S q.1)) = some rv ∧ Rec G0 r rv := by
        rcases KvR.get (t := q.1) hrR with ⟨e1, _⟩ | ⟨r, rv, e1, e2, e3⟩
        · have := oG.sub q.1 (List.mem_append_right _ qin)
          obtain ⟨p3, hp3, e3⟩ := List.mem_map.mp this
          unfold getA at e1
          rw [Option.map_eq_none_iff, List.find?_eq_none] at e1
          exact absurd (decide_eq_true e3) (e1 p3 hp3)
        · exact ⟨r, rv, e1, e2, e3⟩
      obtain ⟨y, ey⟩ : ∃ y, seen st.known q.1 = some y := by
        cases e : seen st.known q.1 with
        | some y => exact ⟨y, rfl⟩
        | none => exact absurd (oG.kn _ qin) (seen_none e)
      have efk : valV fkv (kT (SX.S q.1)) = some (.ref L) := kvR_own hfR rnd _ (List.mem_of_getElem? hk)
      refine ⟨_, rfl, R, C, dx2, fs2, _, rfl, hXR, ZReckoner.cl, ZReckoner.nR, lR, _, rfl, rD, rv, rfl, erv ▸ DGet.rd (k := kT (SX.S q.1)) hXD, ?_⟩
      refine ⟨_, rfl, R, C, dx2, fs2, _, rfl, hXR, ZReckoner.cl, ZReckoner.nF, lF, _, rfl, fD, .ref L, rfl, .inl ⟨fkv, kT (SX.S q.1), .inr ⟨od, hXf⟩, rfl, efk.symm⟩, ?_⟩
      refine ⟨_, rfl, R, C, dx2, fs2, _, rfl, hXR, ZReckoner.cl, ZReckoner.nK, lK, _, rfl, kD, .int y, rfl, ?_, ?_⟩
      · have : valV (numsK st.known) (kT (SX.S q.1)) = some (.int y) := by rw [val_seen, ey]; rfl
        exact this ▸ DGet.k (k := kT (SX.S q.1)) hXK2
      refine ⟨le_line (Nat.le_of_ble_eq_true rfl), fun U nU => ?_⟩
      have sU := same_new nU (.tup [rv, .ref L, .int y])
      have eU : upd X' U (.tup [rv, .ref L, .int y]) U = some (.tup [rv, .ref L, .int y]) := upd_same
      generalize upd X' U (.tup [rv, .ref L, .int y]) = Y at sU eU ⊢
      have hYr := sU _ _ hXr
      have kl : kvs.length = i := by
        rw [hXK.len, List.length_map, List.length_take]
        have := (List.getElem?_eq_some_iff.mp hq).1
        omega
      have hi9 : i < 100000 := by
        have h1 := (List.getElem?_eq_some_iff.mp hq).1
        have h2 := oG.len
        omega
      refine ⟨_, rfl, _, rfl, rc, _, rfl, DPut.k (k := kT (SX.S q.1)) hYr (by rw [kl]; exact lt_line (by omega)), _, _, rfl, by rw [upd_ne nFc]; exact sU _ _ hXf, fun b u a b' e => by rw [upd_ne b']; exact sU _ _ (fX b u a b' e), fun b e => ?_, upd_same, ?_, ?_⟩
      · unfold L2.upd at e
        split at e
        · cases e
        · exact zX b (sU.free e)
      · have new : ¬ q.1 ∈ ((st.read.take i).map (rowOf hh st)).map (·.1) := by
          rw [List.map_map]
          intro m
          obtain ⟨q2, hq2, e2⟩ := List.mem_map.mp m
          obtain ⟨i2, hi2, e3⟩ := List.mem_iff_getElem.mp hq2
          rw [List.length_take] at hi2
          rw [List.getElem_take] at e3
          obtain ⟨hiq, eq⟩ := List.getElem?_eq_some_iff.mp hq
          have hlen : i2 < (st.read.map (·.1)).length := by rw [List.length_map]; omega
          have hlen2 : i < (st.read.map (·.1)).length := by rw [List.length_map]; exact hiq
          have : (st.read.map (·.1))[i2] = (st.read.map (·.1))[i] := by
            rw [List.getElem_map, List.getElem_map, e3, eq]
            exact e2
          have := (List.getElem_inj rnd).mp this
          omega
        have kU : Keep X' (upd Y rc (.dK (putK kvs (kT (SX.S q.1)) (.ref U)))) := fun b ys e => by
          rw [upd_ne (fun z => by rw [z, hXr] at e; cases e)]
          exact sU _ _ e
        have lU : ∀ b ys, X' b = some (.lst ys) → upd Y rc (.dK (putK kvs (kT (SX.S q.1)) (.ref U))) b = some (.lst ys) := fun b ys e => by
          rw [upd_ne (fun z => by rw [z, hXr] at e; cases e)]
          exact sU _ _ e
        have hnew : RowR (upd Y rc (.dK (putK kvs (kT (SX.S q.1)) (.ref U)))) (q.2, r, y) (.ref U) := by
          refine ⟨U, rv, L, xs, rfl, ?_, (hrr'.keep kX).keep kU, lU _ _ (lX _ _ hL), (hP.keep kX).keep kU⟩
          rw [upd_ne (fun z => by rw [z, hYr] at eU; cases eU)]
          exact eU
        have := KvR.put (t := q.1) hnew (hXK.imp fun r v h => RowR.st kU lU h)
        rw [putA_new _ new] at this
        have e9 : (st.read.take (i + 1)).map (rowOf hh st) = (st.read.take i).map (rowOf hh st) ++ [(q.1, (q.2, r, y))] := by
          rw [List.take_add_one, hq, List.map_append]
          show _ ++ [rowOf hh st q] = _
          unfold rowOf
          rw [er, ey]
          rfl
        rw [e9]
        exact this
      · have hnew : ¬ q.1 ∈ ((st.read.take i).map (rowOf hh st)).map (·.1) := by
          rw [List.map_map]
          intro m
          obtain ⟨q2, hq2, e2⟩ := List.mem_map.mp m
          obtain ⟨i2, hi2, e3⟩ := List.mem_iff_getElem.mp hq2
          rw [List.length_take] at hi2
          rw [List.getElem_take] at e3
          obtain ⟨hiq, eq⟩ := List.getElem?_eq_some_iff.mp hq
          have hlen : i2 < (st.read.map (·.1)).length := by rw [List.length_map]; omega
          have hlen2 : i < (st.read.map (·.1)).length := by rw [List.length_map]; exact hiq
          have : (st.read.map (·.1))[i2] = (st.read.map (·.1))[i] := by
            rw [List.getElem_map, List.getElem_map, e3, eq]
            exact e2
          have := (List.getElem_inj rnd).mp this
          omega
        have eput : putK kvs (kT (SX.S q.1)) (.ref U) = kvs ++ [(kT (SX.S q.1), .ref U)] := by
          unfold putK
          rw [if_neg]
          rw [hXK.any]
          intro z
          obtain ⟨p, hp, e2⟩ := List.any_eq_true.mp z
          exact hnew (List.mem_map.mpr ⟨p, hp, of_decide_eq_true e2⟩)
        rw [eput]
        intro j k v ej
        by_cases hj : j < kvs.length
        · rw [List.getElem?_append_left hj] at ej
          obtain ⟨T, rv', L', y', k', e1, e2, e3⟩ := hAp j k v ej
          refine ⟨T, rv', L', y', k', e1, ?_, e3⟩
          rw [upd_ne (fun z => by rw [z, hXr] at e2; cases e2)]
          exact sU _ _ e2
        · have : j = kvs.length := by
            have := (List.getElem?_eq_some_iff.mp ej).1
            rw [List.length_append] at this
            simp only [List.length_cons, List.length_nil] at this
            omega
          subst this
          rw [List.getElem?_append_right (Nat.le_refl _), Nat.sub_self] at ej
          cases ej
          refine ⟨U, rv, L, .int y, _, rfl, ?_, by rw [kl]; exact hk, by rw [← aB]; exact nB, _, hL⟩
          rw [upd_ne (fun z => by rw [z, hYr] at eU; cases eU)]
          exact eU
    · rintro σ X ⟨w4, kvs, rfl, hXf, fX, zX, hXr, hXK, hAp⟩
      rw [hfR.len, List.take_of_length_le (Nat.le_refl _)] at hXK
      refine ⟨hXf, ?_⟩
      have fZ : ∀ b u, b ≠ rc → G0 b = some u → upd X fD (.dK fkv) b = some u := fun b u n e => by
        by_cases z : b = fD
        · rw [z] at e ⊢
          rw [upd_same, ← hfD]
          exact e
        · rw [upd_ne z]
          exact fX b u z n e
      have zZ : ∀ b, upd X fD (.dK fkv) b = none → G0 b = none := fun b e => by
        unfold L2.upd at e
        split at e
        · cases e
        · exact zX b e
      have hZr : upd X fD (.dK fkv) rc = some (.dK kvs) := by rw [upd_ne nFc.symm]; exact hXr
      have kZ : Keep X (upd X fD (.dK fkv)) := fun b ys e => by rw [upd_ne (fun z => by rw [z, hXf] at e; cases e)]; exact e
      have lZ : ∀ b ys, X b = some (.lst ys) → upd X fD (.dK fkv) b = some (.lst ys) := fun b ys e => by rw [upd_ne (fun z => by rw [z, hXf] at e; cases e)]; exact e
      have hZK : KvR (RowR (upd X fD (.dK fkv))) (st.read.map (rowOf hh st)) kvs := hXK.imp fun r v h => RowR.st kZ lZ h
      have hZR := fZ _ _ nRc hR2
      have hZk := fZ _ _ nKc hkD
      have fNZ : FrS Tb [] H (upd X fD (.dK fkv)) := by
        have f1 : FrS Tb [rc] H G0 := FrS.mono fN0 (fun _ h => nomatch h)
        exact (f1.trans (FrS.dict1 erc fZ zZ)).dropAll fun x hx => by rw [List.mem_singleton.mp hx]; exact nrcH
      have hApZ : ∀ (i : Nat) (k : Key) (v : V), kvs[i]? = some (k, v) → ∃ (T : Addr) (rv : V) (L : Addr) (y : V) (k' : Key), v = V.ref T ∧ upd X fD (.dK fkv) T = some (.tup [rv, V.ref L, y]) ∧ fkv[i]? = some (k', V.ref L) ∧ H L = none ∧ ∃ xs, upd X fD (.dK fkv) L = some (.lst xs) := fun i k v e => by
        obtain ⟨T, rv', L', y', k', e1, e2, e3, e4, xs, e5⟩ := hAp i k v e
        exact ⟨T, rv', L', y', k', e1, kZ _ _ e2, e3, e4, xs, fZ _ _ (fun z2 => by rw [z2, erc] at e5; cases e5) e5⟩
      generalize upd X fD (.dK fkv) = Z at hZr hZK hZR hZk fNZ hApZ ⊢
      refine ⟨_, rfl, R, C, dx2, fs2, _, rfl, hZR, ZReckoner.cl, ZReckoner.nK, lK, _, rfl, _, rfl, rc, kvs, rfl, Rd.of hZr, fun nl nnl => ?_⟩
      have s1 := same_new nnl (.lst (kvs.map fun kv => kV kv.1))
      have e1 : upd Z nl (.lst (kvs.map fun kv => kV kv.1)) nl = some (.lst (txs (st.read.map (·.1)))) := by
        rw [upd_same, kvR_keys hZK, List.map_map]
        rfl
      generalize upd Z nl (.lst (kvs.map fun kv => kV kv.1)) = Z1 at s1 e1 ⊢
      refine ⟨le_line (Nat.le_of_ble_eq_true rfl), fun U nU => ?_⟩
      have s2 := same_new nU (.tup [.ref kD, .ref rc, .ref nl])
      have s3 := s1.trans s2
      have nlH : H nl = none := fNZ.2.1 nl nnl
      refine fin st v0 eG U kD rc nl kvs _ (fNZ.trans (FrS.of s3)) oG ((fNZ.trans (FrS.of s1)).2.1 U nU) k0 nrcH nlH upd_same (s3 _ _ hZk) (s3 _ _ hZr) (hZK.imp fun r v h => RowR.st (same_keep s3) (fun b ys e => s3 _ _ e) h) (s2 _ _ e1) ⟨nKc, fkv, aG0.rn fkv (by rw [aF]; exact hfD), fun i k v e => ?_⟩
      obtain ⟨T, rv', L', y', k', e1, e2, e3, e4, xs, e5⟩ := hApZ i k v e
      exact ⟨T, rv', L', y', k', e1, s3 _ _ e2, e3, e4, fun z => by rw [← z, e5] at nnl; cases nnl⟩
theorem ok_fresh_build {dm n : Nat} {fdI : FuncData} (T : Txt K mg) (ZReckoner : RkT K mg C fI) (D : IsDef K mg "fresh_build" s_fresh_build ["house", "wishes"]) (F_Reckoner___init__ : FnOk P w K mg base CX0 1 fI fdI ["self", "house"] (spRkI C)) (B_Reckoner___init__ : Binds K fdI ["self", "house"] [])
    (ML : Met P w K mg base (L2.CX P w) (lvR dm n) C "look_for" ["self", "name"] (spLF C CN CR Tb dm n)) : Cal P w K mg base (L2.CX P w) (lvR dm n + 2) "fresh_build" ["house", "wishes"] (spFresh K CN CR Tb dm n) :=
  (ok_fresh_buildA T ZReckoner D F_Reckoner___init__ B_Reckoner___init__ ML).imp fun vs H Q E ⟨v, wv, h, beta, ts, h1, h2, h3, h4, h5, h6, h7, h8, h9, q⟩ => ⟨v, wv, h, beta, ts, h1, h2, h3, h4, h5, h6, h7, h8, h9, by
    cases e : lkAll h n emptyS ts with
    | ok y s => rw [e] at q; exact fun T kD rD nL kvs H' a1 a2 a3 a4 a5 a6 a7 a8 a9 a10 a11 _ => q T kD rD nL kvs H' a1 a2 a3 a4 a5 a6 a7 a8 a9 a10 a11
    | err x => rw [e] at q; exact q⟩
end
/-! ### builds from a store: plain facts -/
open LamX NdefX
inductive OutE (S : Type) where
  | ok (v : Int) (s : S)
  | err (e : XErr) (s : S)
structure StS where
  known : List Pr
  book : Old
  going : List (List Nat)
  held : List Row
  made : List (List Nat)
  kept : List (List Nat)
def StS.rk (s : StS) : RkS := ⟨s.known, s.book.map fun p => (p.1, p.2.1), s.going⟩
def workE (look : StS → List Nat → OutE StS) (r : Rcp) : Nat → StS → List Pr → OutE (StS × List Pr)
  | 0, s, own => .err (.ring []) (s, own)
  | m + 1, s, own => match outOf own r with
    | .worth v => .ok v (s, own)
    | .read u => match look s u with
      | .ok v s' => workE look r m s' (own ++ [(u, v)])
      | .err e s' => .err e (s', own)
    | .none => .err (.ring []) (s, own)
open Classical in
noncomputable def StS.done (s : StS) (t : List Nat) (o : Row) : StS :=
  if o ∈ s.held then { known := putA s.known t o.2.2, book := putA s.book t o, going := s.going.dropLast, held := s.held, made := s.made, kept := s.kept ++ [t] }
  else { known := putA s.known t o.2.2, book := putA s.book t o, going := s.going.dropLast, held := s.held ++ [o], made := s.made ++ [t], kept := s.kept }
noncomputable def finE (t : List Nat) (r : Rcp) : OutE (StS × List Pr) → OutE StS
  | .ok v p => .ok v (p.1.done t (p.2, r, v))
  | .err e p => .err e p.1
noncomputable def stR (h : House) : Nat → StS → List Nat → OutE StS
  | 0, s, _ => .err (.ring []) s
  | n + 1, s, t => match seen s.known t with
    | some v => .ok v s
    | none => match seen h.given t with
      | some v => .ok v { s with known := putA s.known t v }
      | none => match rcpOf h.recs t with
        | none => .err (.noName t) s
        | some r => if t ∈ s.going then .err (.ring (s.going.drop (s.going.idxOf t) ++ [t])) s else
          finE t r (workE (stR h n) r (r.nms.length + 1) { s with going := s.going ++ [t] } [])
/-! #### going on where a name lacked -/
theorem setd_in {own : List Pr} {u : List Nat} {v x : Int} (h : seen own u = some x) : setd own u v = own := by
  unfold setd
  rw [h]
theorem seen_in {own : List Pr} (nd : (own.map (·.1)).Nodup) {p : Pr} (hp : p ∈ own) : seen own p.1 = some p.2 := by
  obtain ⟨i, hi⟩ := List.mem_iff_getElem?.mp hp
  exact seen_at nd hi
structure LkK (lk : RkS → List Nat → OutR RkS) (J : RkS → Prop) : Prop where
  known : ∀ {s u v}, J s → seen s.known u = some v → lk s u = .ok v s
  step : ∀ {s u v s'}, J s → Nm u → lk s u = .ok v s' → J s' ∧ (∀ u x, seen s.known u = some x → seen s'.known u = some x) ∧ seen s'.known u = some v
section
variable {lk : RkS → List Nat → OutR RkS} {J : RkS → Prop}
theorem look_res1 (L : LkK lk J) {s : RkS} {own : List Pr} (hj : J s) (nd : (own.map (·.1)).Nodup) (kn : ∀ p ∈ own, seen s.known p.1 = some p.2) {n m : Nat} {u : List Nat} {v : Int} (hn : n ≤ own.length) (e : lookG own n u = .ok v m) : lkOwn lk (s, own) u = .ok v (s, own) := by
  obtain ⟨_, _, h⟩ := lookG_ok hn e
  unfold lkOwn
  show (match lk s u with | .ok v s => OutR.ok v (s, setd own u v) | .err e => .err e) = _
  rw [L.known hj (kn _ h)]
  show OutR.ok v (s, setd own u v) = _
  rw [setd_in (seen_in nd h)]
theorem resume1 (L : LkK lk J) {s : RkS} {own : List Pr} (hj : J s) (nd : (own.map (·.1)).Nodup) (kn : ∀ p ∈ own, seen s.known p.1 = some p.2) : ∀ {x : Rcp} {n m : Nat} {v : Int}, n ≤ own.length → go own x n = .ok v m → wk (lkOwn lk) x (s, own) = .ok v (s, own)
  | .num w, n, m, v, hn, h => by cases h; rfl
  | .read u, n, m, v, hn, h => look_res1 L hj nd kn hn h
  | .two k a b, n, m, v, hn, h => by
    obtain ⟨x, l, ha, h2⟩ := bind_ok h
    obtain ⟨y, l2, hb, h3⟩ := bind_ok h2
    cases h3
    have hl := (go_more ([], 0) hn ha).2
    show (wk (lkOwn lk) a (s, own)).bind _ = _
    rw [resume1 L hj nd kn hn ha]
    show (wk (lkOwn lk) b (s, own)).bind _ = _
    rw [resume1 L hj nd kn hl hb]
    rfl
  | .pick a b c, n, m, v, hn, h => by
    obtain ⟨x, l, ha, h2⟩ := bind_ok h
    have hl := (go_more ([], 0) hn ha).2
    show (wk (lkOwn lk) a (s, own)).bind _ = _
    rw [resume1 L hj nd kn hn ha]
    show (if x > 0 then wk (lkOwn lk) b (s, own) else wk (lkOwn lk) c (s, own)) = _
    by_cases c0 : x > 0
    · simp only [if_pos c0] at h2 ⊢
      exact resume1 L hj nd kn hl h2
    · simp only [if_neg c0] at h2 ⊢
      exact resume1 L hj nd kn hl h2
  | .choose a ns, n, m, v, hn, h => by
    obtain ⟨x, l, ha, h2⟩ := bind_ok h
    have hl := (go_more ([], 0) hn ha).2
    show (wk (lkOwn lk) a (s, own)).bind _ = _
    rw [resume1 L hj nd kn hn ha]
    exact look_res1 L hj nd kn hl h2
def goOn (lk : RkS → List Nat → OutR RkS) (f : RkS × List Pr → OutR (RkS × List Pr)) (s : RkS) (own : List Pr) (u : List Nat) : OutR (RkS × List Pr) := match lk s u with
  | .ok v s' => f (s', own ++ [(u, v)])
  | .err e => .err e
theorem look_res2 (L : LkK lk J) {s : RkS} {own : List Pr} (hj : J s) {n : Nat} {t u : List Nat} (ht : Nm t) (hn : n ≤ own.length) (e : lookG own n t = .lack u) : lkOwn lk (s, own) t = goOn lk (fun p => lkOwn lk p t) s own u := by
  obtain ⟨_, rfl, h⟩ := lookG_lack hn e
  have e0 : ∀ (s : RkS) (own : List Pr), lkOwn lk (s, own) t = match lk s t with | .ok v s => OutR.ok v (s, setd own t v) | .err e => .err e := fun _ _ => rfl
  unfold goOn
  rw [e0]
  cases e1 : lk s t with
  | err x => rfl
  | ok v s' =>
    obtain ⟨j', _, k'⟩ := L.step hj ht e1
    show OutR.ok v (s', setd own t v) = lkOwn lk (s', own ++ [(t, v)]) t
    rw [e0, L.known j' k', setd_new h]
    show _ = OutR.ok v (s', setd (own ++ [(t, v)]) t v)
    have : seen (own ++ [(t, v)]) t = some v := by
      unfold seen at h ⊢
      rw [Option.map_eq_none_iff] at h
      rw [List.find?_append, h]
      rw [Option.none_or, List.find?_cons, decide_eq_true rfl]
      rfl
    rw [setd_in this]
theorem snoc_ok {own : List Pr} {u : List Nat} {v : Int} {s s' : RkS} (nd : (own.map (·.1)).Nodup) (e : seen own u = none) (kn : ∀ p ∈ own, seen s.known p.1 = some p.2) (mo : ∀ u x, seen s.known u = some x → seen s'.known u = some x) (g : seen s'.known u = some v) : ((own ++ [(u, v)]).map (·.1)).Nodup ∧ ∀ p ∈ own ++ [(u, v)], seen s'.known p.1 = some p.2 := by
  refine ⟨?_, fun p hp => ?_⟩
  · rw [List.map_append]
    exact List.nodup_append.mpr ⟨nd, List.nodup_cons.mpr ⟨(fun z => nomatch z), List.nodup_nil⟩, fun a ha b hb e2 => seen_none e (by have hb' : b = u := List.mem_singleton.mp hb; rw [← hb', ← e2]; exact ha)⟩
  · rcases List.mem_append.mp hp with hp | hp
    · exact mo _ _ (kn p hp)
    · rw [List.mem_singleton.mp hp]
      exact g
theorem go_lack {own : List Pr} : ∀ {x : Rcp} {n : Nat} {u : List Nat}, x.Wn → n ≤ own.length → go own x n = .lack u → seen own u = none ∧ Nm u
  | .num v, n, u, _, hn, h => by cases h
  | .read t, n, u, hw, hn, h => by
    obtain ⟨_, rfl, e⟩ := lookG_lack hn h
    exact ⟨e, hw⟩
  | .two k a b, n, u, hw, hn, h => by
    rcases bind_lack h with ha | ⟨x, l, ha, h2⟩
    · exact go_lack hw.1 hn ha
    · rcases bind_lack h2 with hb | ⟨y, l2, hb, h3⟩
      · exact go_lack hw.2 (go_more ([], 0) hn ha).2 hb
      · cases h3
  | .pick a b c, n, u, hw, hn, h => by
    rcases bind_lack h with ha | ⟨x, l, ha, h2⟩
    · exact go_lack hw.1 hn ha
    · have hl := (go_more ([], 0) hn ha).2
      by_cases c0 : x > 0
      · simp only [if_pos c0] at h2
        exact go_lack hw.2.1 hl h2
      · simp only [if_neg c0] at h2
        exact go_lack hw.2.2 hl h2
  | .choose a ns, n, u, hw, hn, h => by
    rcases bind_lack h with ha | ⟨x, l, ha, h2⟩
    · exact go_lack hw.1 hn ha
    · obtain ⟨_, e, e2⟩ := lookG_lack (go_more ([], 0) hn ha).2 h2
      obtain ⟨i, _, hi⟩ := nth_mem hw.2.1 x
      exact ⟨by rw [← e]; exact e ▸ e2, by rw [← e]; exact hw.2.2.2 _ (List.mem_of_getElem? hi)⟩
theorem resume2 (L : LkK lk J) {s : RkS} {own : List Pr} (hj : J s) (nd : (own.map (·.1)).Nodup) (kn : ∀ p ∈ own, seen s.known p.1 = some p.2) : ∀ {x : Rcp} {n : Nat} {u : List Nat}, x.Wn → n ≤ own.length → go own x n = .lack u → wk (lkOwn lk) x (s, own) = goOn lk (wk (lkOwn lk) x) s own u
  | .num w, n, u, _, hn, h => by cases h
  | .read t, n, u, hw, hn, h => look_res2 L hj hw hn h
  | .two k a b, n, u, hw, hn, h => by
    rcases bind_lack h with ha | ⟨x, l, ha, h2⟩
    · show (wk (lkOwn lk) a (s, own)).bind _ = _
      rw [resume2 L hj nd kn hw.1 hn ha]
      unfold goOn
      cases lk s u <;> rfl
    · have hl := (go_more ([], 0) hn ha).2
      rcases bind_lack h2 with hb | ⟨y, l2, hb, h3⟩
      · obtain ⟨e0, hu⟩ := go_lack hw.2 hl hb
        show (wk (lkOwn lk) a (s, own)).bind _ = _
        rw [resume1 L hj nd kn hn ha]
        show (wk (lkOwn lk) b (s, own)).bind _ = _
        rw [resume2 L hj nd kn hw.2 hl hb]
        unfold goOn
        cases e1 : lk s u with
        | err z => rfl
        | ok v s' =>
          obtain ⟨j', mo, g⟩ := L.step hj hu e1
          obtain ⟨nd', kn'⟩ := snoc_ok nd e0 kn mo g
          show (wk (lkOwn lk) b (s', own ++ [(u, v)])).bind _ = (wk (lkOwn lk) a (s', own ++ [(u, v)])).bind _
          rw [resume1 L j' nd' kn' (by rw [List.length_append]; omega) (go_more (u, v) hn ha).1]
          rfl
      · cases h3
  | .pick a b c, n, u, hw, hn, h => by
    rcases bind_lack h with ha | ⟨x, l, ha, h2⟩
    · show (wk (lkOwn lk) a (s, own)).bind _ = _
      rw [resume2 L hj nd kn hw.1 hn ha]
      unfold goOn
      cases lk s u <;> rfl
    · have hl := (go_more ([], 0) hn ha).2
      have h2' : (if x > 0 then go own b l else go own c l) = .lack u := h2
      have hu : seen own u = none ∧ Nm u := by
        by_cases c0 : x > 0
        · rw [if_pos c0] at h2'; exact go_lack hw.2.1 hl h2'
        · rw [if_neg c0] at h2'; exact go_lack hw.2.2 hl h2'
      show (wk (lkOwn lk) a (s, own)).bind _ = _
      rw [resume1 L hj nd kn hn ha]
      show (if x > 0 then wk (lkOwn lk) b (s, own) else wk (lkOwn lk) c (s, own)) = _
      have e3 : (if x > 0 then wk (lkOwn lk) b (s, own) else wk (lkOwn lk) c (s, own)) = goOn lk (fun p => if x > 0 then wk (lkOwn lk) b p else wk (lkOwn lk) c p) s own u := by
        by_cases c0 : x > 0
        · rw [if_pos c0] at h2' ⊢
          rw [resume2 L hj nd kn hw.2.1 hl h2']
          unfold goOn
          cases lk s u with
          | err z => rfl
          | ok v s' => show _ = if x > 0 then _ else _; rw [if_pos c0]
        · rw [if_neg c0] at h2' ⊢
          rw [resume2 L hj nd kn hw.2.2 hl h2']
          unfold goOn
          cases lk s u with
          | err z => rfl
          | ok v s' => show _ = if x > 0 then _ else _; rw [if_neg c0]
      rw [e3]
      unfold goOn
      cases e1 : lk s u with
      | err z => rfl
      | ok v s' =>
        obtain ⟨j', mo, g⟩ := L.step hj hu.2 e1
        obtain ⟨nd', kn'⟩ := snoc_ok nd hu.1 kn mo g
        show _ = (wk (lkOwn lk) a (s', own ++ [(u, v)])).bind _
        rw [resume1 L j' nd' kn' (by rw [List.length_append]; omega) (go_more (u, v) hn ha).1]
        rfl
  | .choose a ns, n, u, hw, hn, h => by
    rcases bind_lack h with ha | ⟨x, l, ha, h2⟩
    · show (wk (lkOwn lk) a (s, own)).bind _ = _
      rw [resume2 L hj nd kn hw.1 hn ha]
      unfold goOn
      cases lk s u <;> rfl
    · have hl := (go_more ([], 0) hn ha).2
      obtain ⟨i, _, hi⟩ := nth_mem hw.2.1 x
      have hm : Nm (nthN ns x) := hw.2.2.2 _ (List.mem_of_getElem? hi)
      obtain ⟨_, e0, e2⟩ := lookG_lack hl h2
      show (wk (lkOwn lk) a (s, own)).bind _ = _
      rw [resume1 L hj nd kn hn ha]
      show lkOwn lk (s, own) (nthN ns x) = _
      rw [look_res2 L hj hm hl h2]
      unfold goOn
      cases e1 : lk s u with
      | err z => rfl
      | ok v s' =>
        obtain ⟨j', mo, g⟩ := L.step hj (e0 ▸ hm) e1
        obtain ⟨nd', kn'⟩ := snoc_ok nd (e0 ▸ e2) kn mo g
        show _ = (wk (lkOwn lk) a (s', own ++ [(u, v)])).bind _
        rw [resume1 L j' nd' kn' (by rw [List.length_append]; omega) (go_more (u, v) hn ha).1]
        rfl
end
/-! ### what behind tells: small words (cut from K50a, K50b, K50c) -/
def Small (rd : List Pr) : Prop := ∀ p ∈ rd, Nm p.1 ∧ p.2.natAbs < 2 ^ 400
theorem go_small {rd : List Pr} (hs : Small rd) {r : Rcp} {n m : Nat} {v : Int} (hb : r.Nb) (hd : r.dep ≤ 9) (hn : n ≤ rd.length) (h : go rd r n = .ok v m) : n ≤ m ∧ m ≤ rd.length ∧ ∃ e, 0 < e ∧ e ≤ 204800 ∧ v.natAbs < 2 ^ e := by
  obtain ⟨h1, h2, h3⟩ := go_ok (fun p hp => (hs p hp).2) hb hn h
  have h4 : 2 ^ r.dep ≤ 2 ^ 9 := Nat.pow_le_pow_right (by decide) hd
  have h5 : 1 ≤ 2 ^ r.dep := Nat.one_le_two_pow
  have h6 : (2 : Nat) ^ 9 = 512 := by decide
  exact ⟨h1, h2, 400 * 2 ^ r.dep, by omega, by omega, h3⟩
def TellO (Q : VK) (qn : Hp → Prop) (o : Out) (H : Hp) : Prop :=
  (∀ s t H', o = .read s → Same H H' → H' t = some (.tup [.str "read", .str (SX.S s)]) → Q (.ref t) H') ∧ (∀ x t H', o = .worth x → Same H H' → H' t = some (.tup [.str "worth", .int x]) → Q (.ref t) H') ∧ (∀ H', o = .none → Same H H' → qn H')
theorem out_ok {rd : List Pr} {r : Rcp} {v : Int} {m : Nat} (h : go rd r 0 = .ok v m) : outOf rd r = if m < rd.length then .none else .worth v := by unfold outOf; rw [h]
theorem out_lack {rd : List Pr} {r : Rcp} {s : List Nat} (h : go rd r 0 = .lack s) : outOf rd r = .read s := by unfold outOf; rw [h]
theorem out_bad {rd : List Pr} {r : Rcp} (h : go rd r 0 = .bad) : outOf rd r = .none := by unfold outOf; rw [h]
theorem out_next {rd : List Pr} {r : Rcp} {s : List Nat} (w : Int) (h : outOf rd r = .read s) : go rd r 0 = .lack s ∧ ((∃ t, outOf (rd ++ [(s, w)]) r = .read t) ∨ ∃ v, outOf (rd ++ [(s, w)]) r = .worth v) := by
  have hg : go rd r 0 = .lack s := by
    unfold outOf at h
    cases e : go rd r 0 with
    | ok v n =>
      rw [e] at h
      by_cases c : n < rd.length
      · simp only [if_pos c] at h; cases h
      · simp only [if_neg c] at h; cases h
    | lack t => rw [e] at h; cases h; rfl
    | bad => rw [e] at h; cases h
  refine ⟨hg, ?_⟩
  rcases go_next w (Nat.zero_le _) hg with ⟨v, hv⟩ | ⟨t, ht⟩
  · exact .inr ⟨v, (out_ok hv).trans (if_neg (by omega))⟩
  · exact .inl ⟨t, out_lack ht⟩
theorem out_first (r : Rcp) : (∃ t, outOf [] r = .read t) ∨ ∃ v, outOf [] r = .worth v := by
  rcases go_end (rd := []) (r := r) with ⟨v, hv⟩ | ⟨t, ht⟩
  · exact .inr ⟨v, (out_ok hv).trans (if_neg (by show ¬ 0 < 0; omega))⟩
  · exact .inl ⟨t, out_lack ht⟩
/-! #### records that a store holds -/
structure GoodRow (o : Row) : Prop where
  rcp : o.2.1.th.isRcp = true
  wn : o.2.1.Wn
  nb : o.2.1.Nb
  dp : o.2.1.dep ≤ 8
  sm : Small o.1
  out : outOf o.1 o.2.1 = .worth o.2.2
theorem out_worth {rd : List Pr} {r : Rcp} {v : Int} (h : outOf rd r = .worth v) : ∃ m, go rd r 0 = .ok v m ∧ rd.length ≤ m := by
  unfold outOf at h
  cases e : go rd r 0 with
  | ok x n =>
    rw [e] at h
    by_cases c : n < rd.length
    · simp only [if_pos c] at h; cases h
    · simp only [if_neg c] at h; cases h; exact ⟨n, rfl, by omega⟩
  | lack s => rw [e] at h; cases h
  | bad => rw [e] at h; cases h
theorem out_read {rd : List Pr} {r : Rcp} {u : List Nat} (h : outOf rd r = .read u) : go rd r 0 = .lack u := by
  unfold outOf at h
  cases e : go rd r 0 with
  | ok x n =>
    rw [e] at h
    by_cases c : n < rd.length
    · simp only [if_pos c] at h; cases h
    · simp only [if_neg c] at h; cases h
  | lack s => rw [e] at h; cases h; rfl
  | bad => rw [e] at h; cases h
theorem go_okL {rd : List Pr} {r : Rcp} {n m : Nat} {v : Int} (hn : n ≤ rd.length) (h : go rd r n = .ok v m) : n ≤ m ∧ m ≤ rd.length := by
  refine ⟨?_, (go_more ([], 0) hn h).2⟩
  revert n m v
  induction r with
  | num w => intro n m v hn h; cases h; exact Nat.le_refl _
  | read s => intro n m v hn h; exact (lookG_ok hn h).1
  | two k a b iha ihb =>
    intro n m v hn h
    obtain ⟨x, l, ha, h2⟩ := bind_ok h
    obtain ⟨y, l2, hb, h3⟩ := bind_ok h2
    cases h3
    exact Nat.le_trans (iha hn ha) (ihb (go_more ([], 0) hn ha).2 hb)
  | pick a b c iha ihb ihc =>
    intro n m v hn h
    obtain ⟨x, l, ha, h2⟩ := bind_ok h
    have hl := (go_more ([], 0) hn ha).2
    by_cases c0 : x > 0
    · simp only [if_pos c0] at h2; exact Nat.le_trans (iha hn ha) (ihb hl h2)
    · simp only [if_neg c0] at h2; exact Nat.le_trans (iha hn ha) (ihc hl h2)
  | choose a ns iha =>
    intro n m v hn h
    obtain ⟨x, l, ha, h2⟩ := bind_ok h
    exact Nat.le_trans (iha hn ha) (lookG_ok (go_more ([], 0) hn ha).2 h2).1
/-- each read stands once -/
theorem look_nd {rd : List Pr} {n m : Nat} {u : List Nat} {v : Int} (nd : ((rd.take n).map (·.1)).Nodup) (h : lookG rd n u = .ok v m) : ((rd.take m).map (·.1)).Nodup := by
  unfold lookG at h
  cases e : seen (rd.take n) u with
  | some w => rw [e] at h; cases h; exact nd
  | none =>
    rw [e] at h
    cases e2 : rd[n]? with
    | none => rw [e2] at h; cases h
    | some p =>
      rw [e2] at h
      by_cases c : p.1 = u
      · simp only [if_pos c] at h
        cases h
        rw [List.take_add_one, e2, List.map_append]
        exact List.nodup_append.mpr ⟨nd, List.nodup_cons.mpr ⟨(fun z => nomatch z), List.nodup_nil⟩, fun a ha b hb e3 => seen_none e (by have hb' : b = p.1 := List.mem_singleton.mp hb; rw [← c, ← hb', ← e3]; exact ha)⟩
      · simp only [if_neg c] at h; cases h
theorem go_nd {rd : List Pr} : ∀ {r : Rcp} {n m : Nat} {v : Int}, n ≤ rd.length → ((rd.take n).map (·.1)).Nodup → go rd r n = .ok v m → ((rd.take m).map (·.1)).Nodup
  | .num w, n, m, v, hn, nd, h => by cases h; exact nd
  | .read s, n, m, v, hn, nd, h => look_nd nd h
  | .two k a b, n, m, v, hn, nd, h => by
    obtain ⟨x, l, ha, h2⟩ := bind_ok h
    obtain ⟨y, l2, hb, h3⟩ := bind_ok h2
    cases h3
    exact go_nd (go_more ([], 0) hn ha).2 (go_nd hn nd ha) hb
  | .pick a b c, n, m, v, hn, nd, h => by
    obtain ⟨x, l, ha, h2⟩ := bind_ok h
    have hl := (go_more ([], 0) hn ha).2
    by_cases c0 : x > 0
    · simp only [if_pos c0] at h2; exact go_nd hl (go_nd hn nd ha) h2
    · simp only [if_neg c0] at h2; exact go_nd hl (go_nd hn nd ha) h2
  | .choose a ns, n, m, v, hn, nd, h => by
    obtain ⟨x, l, ha, h2⟩ := bind_ok h
    exact look_nd (go_nd hn nd ha) h2
theorem out_nd {rd : List Pr} {r : Rcp} {v : Int} (h : outOf rd r = .worth v) : (rd.map (·.1)).Nodup := by
  obtain ⟨m, e, hm⟩ := out_worth h
  have := go_nd (Nat.zero_le _) (by rw [List.take_zero]; exact List.nodup_nil) e
  rwa [List.take_of_length_le hm] at this
/-- behind the first reads of a record the next one is looked for -/
theorem look_cut {rd : List Pr} {n m i : Nat} {u : List Nat} {v : Int} {p : Pr} (hi : n ≤ i) (him : i < m) (hp : rd[i]? = some p) (h : lookG rd n u = .ok v m) : lookG (rd.take i) n u = .lack p.1 := by
  have hil := (List.getElem?_eq_some_iff.mp hp).1
  unfold lookG at h ⊢
  rw [List.take_take, Nat.min_eq_left hi]
  cases e : seen (rd.take n) u with
  | some w => rw [e] at h; cases h; omega
  | none =>
    rw [e] at h
    cases e2 : rd[n]? with
    | none => rw [e2] at h; cases h
    | some q =>
      rw [e2] at h
      by_cases c : q.1 = u
      · simp only [if_pos c] at h
        cases h
        obtain rfl : i = n := by omega
        rw [hp] at e2
        cases e2
        rw [List.getElem?_eq_none (by rw [List.length_take]; omega), ← c]
      · simp only [if_neg c] at h; cases h
theorem look_same {rd : List Pr} {n m i : Nat} {u : List Nat} {v : Int} (hn : n ≤ i) (hm : m ≤ i) (h : lookG rd n u = .ok v m) : lookG (rd.take i) n u = .ok v m := by
  unfold lookG at h ⊢
  rw [List.take_take, Nat.min_eq_left hn]
  cases e : seen (rd.take n) u with
  | some w => rw [e] at h; exact h
  | none =>
    rw [e] at h
    cases e2 : rd[n]? with
    | none => rw [e2] at h; cases h
    | some q =>
      rw [e2] at h
      by_cases c : q.1 = u
      · have h3 := h
        simp only [if_pos c] at h3
        cases h3
        rw [List.getElem?_take_of_lt (by omega), e2]
        exact h
      · simp only [if_neg c] at h; cases h
theorem go_same {rd : List Pr} : ∀ {r : Rcp} {n m i : Nat} {v : Int}, i ≤ rd.length → n ≤ i → m ≤ i → go rd r n = .ok v m → go (rd.take i) r n = .ok v m
  | .num w, n, m, i, v, hl, hn, hm, h => h
  | .read s, n, m, i, v, hl, hn, hm, h => look_same hn hm h
  | .two k a b, n, m, i, v, hl, hn, hm, h => by
    obtain ⟨x, l, ha, h2⟩ := bind_ok h
    obtain ⟨y, l2, hb, h3⟩ := bind_ok h2
    cases h3
    have h0 := go_okL (Nat.le_trans hn hl) ha
    have h1 := go_okL h0.2 hb
    show (go (rd.take i) a n).bind _ = _
    rw [go_same hl hn (by omega) ha]
    show (go (rd.take i) b l).bind _ = _
    rw [go_same hl (by omega) hm hb]
    rfl
  | .pick a b c, n, m, i, v, hl, hn, hm, h => by
    obtain ⟨x, l, ha, h2⟩ := bind_ok h
    have h0 := go_okL (Nat.le_trans hn hl) ha
    have h2' : (if x > 0 then go rd b l else go rd c l) = .ok v m := h2
    have h1 : l ≤ m := by
      by_cases c0 : x > 0
      · rw [if_pos c0] at h2'; exact (go_okL h0.2 h2').1
      · rw [if_neg c0] at h2'; exact (go_okL h0.2 h2').1
    show (go (rd.take i) a n).bind _ = _
    rw [go_same hl hn (by omega) ha]
    show (if x > 0 then go (rd.take i) b l else go (rd.take i) c l) = _
    by_cases c0 : x > 0
    · rw [if_pos c0] at h2' ⊢; exact go_same hl (by omega) hm h2'
    · rw [if_neg c0] at h2' ⊢; exact go_same hl (by omega) hm h2'
  | .choose a ns, n, m, i, v, hl, hn, hm, h => by
    obtain ⟨x, l, ha, h2⟩ := bind_ok h
    have h0 := go_okL (Nat.le_trans hn hl) ha
    have h1 := (lookG_ok h0.2 h2).1
    show (go (rd.take i) a n).bind _ = _
    rw [go_same hl hn (by omega) ha]
    exact look_same (by omega) hm h2
theorem go_cut {rd : List Pr} {p : Pr} : ∀ {r : Rcp} {n m i : Nat} {v : Int}, n ≤ i → i < m → rd[i]? = some p → go rd r n = .ok v m → go (rd.take i) r n = .lack p.1
  | .num w, n, m, i, v, hn, hm, hp, h => by cases h; omega
  | .read s, n, m, i, v, hn, hm, hp, h => look_cut hn hm hp h
  | .two k a b, n, m, i, v, hn, hm, hp, h => by
    have hil := (List.getElem?_eq_some_iff.mp hp).1
    obtain ⟨x, l, ha, h2⟩ := bind_ok h
    obtain ⟨y, l2, hb, h3⟩ := bind_ok h2
    cases h3
    show (go (rd.take i) a n).bind _ = _
    by_cases c : i < l
    · rw [go_cut hn c hp ha]
      rfl
    · rw [go_same (Nat.le_of_lt hil) hn (by omega) ha]
      show (go (rd.take i) b l).bind _ = _
      rw [go_cut (by omega) hm hp hb]
      rfl
  | .pick a b c, n, m, i, v, hn, hm, hp, h => by
    have hil := (List.getElem?_eq_some_iff.mp hp).1
    obtain ⟨x, l, ha, h2⟩ := bind_ok h
    have h2' : (if x > 0 then go rd b l else go rd c l) = .ok v m := h2
    show (go (rd.take i) a n).bind _ = _
    by_cases c1 : i < l
    · rw [go_cut hn c1 hp ha]
      rfl
    · rw [go_same (Nat.le_of_lt hil) hn (by omega) ha]
      show (if x > 0 then go (rd.take i) b l else go (rd.take i) c l) = _
      by_cases c0 : x > 0
      · rw [if_pos c0] at h2' ⊢; exact go_cut (by omega) hm hp h2'
      · rw [if_neg c0] at h2' ⊢; exact go_cut (by omega) hm hp h2'
  | .choose a ns, n, m, i, v, hn, hm, hp, h => by
    have hil := (List.getElem?_eq_some_iff.mp hp).1
    obtain ⟨x, l, ha, h2⟩ := bind_ok h
    show (go (rd.take i) a n).bind _ = _
    by_cases c1 : i < l
    · rw [go_cut hn c1 hp ha]
      rfl
    · rw [go_same (Nat.le_of_lt hil) hn (by omega) ha]
      exact look_cut (by omega) hm hp h2
theorem out_cut {rd : List Pr} {r : Rcp} {v : Int} {i : Nat} {p : Pr} (h : outOf rd r = .worth v) (hp : rd[i]? = some p) : outOf (rd.take i) r = .read p.1 := by
  obtain ⟨m, e, hm⟩ := out_worth h
  have hil := (List.getElem?_eq_some_iff.mp hp).1
  have := go_cut (Nat.zero_le i) (by omega : i < m) hp e
  unfold outOf
  rw [this]
/-- reads that were all looked for, in this order -/
def Part (own : List Pr) (r : Rcp) : Prop := Fine own (go own r 0)
theorem Part.nil (r : Rcp) : Part [] r := go_end (rd := []) (r := r)
theorem Part.cases {own : List Pr} {r : Rcp} (h : Part own r) : (∃ v, go own r 0 = .ok v own.length ∧ outOf own r = .worth v) ∨ ∃ u, go own r 0 = .lack u ∧ outOf own r = .read u := by
  rcases h with ⟨v, h⟩ | ⟨u, h⟩
  · exact .inl ⟨v, h, by unfold outOf; rw [h]; exact if_neg (Nat.lt_irrefl _)⟩
  · exact .inr ⟨u, h, by unfold outOf; rw [h]⟩
theorem Part.next {own : List Pr} {r : Rcp} {u : List Nat} (w : Int) (h : go own r 0 = .lack u) : Part (own ++ [(u, w)]) r := go_next w (Nat.zero_le _) h
theorem go_ev {own : List Pr} {F : List Nat → Int → Prop} (hF : ∀ p ∈ own, F p.1 p.2) : ∀ {r : Rcp} {n m : Nat} {v : Int}, n ≤ own.length → go own r n = .ok v m → r.Ev F v
  | .num w, n, m, v, hn, h => by cases h; rfl
  | .read s, n, m, v, hn, h => hF _ (lookG_ok hn h).2.2
  | .two k a b, n, m, v, hn, h => by
    obtain ⟨x, l, ha, h2⟩ := bind_ok h
    obtain ⟨y, l2, hb, h3⟩ := bind_ok h2
    cases h3
    exact ⟨x, y, go_ev hF hn ha, go_ev hF (go_more ([], 0) hn ha).2 hb, rfl⟩
  | .pick a b c, n, m, v, hn, h => by
    obtain ⟨x, l, ha, h2⟩ := bind_ok h
    have hl := (go_more ([], 0) hn ha).2
    have h2' : (if x > 0 then go own b l else go own c l) = .ok v m := h2
    refine ⟨x, go_ev hF hn ha, fun c0 => ?_, fun c0 => ?_⟩
    · rw [if_pos c0] at h2'; exact go_ev hF hl h2'
    · rw [if_neg c0] at h2'; exact go_ev hF hl h2'
  | .choose a ns, n, m, v, hn, h => by
    obtain ⟨x, l, ha, h2⟩ := bind_ok h
    exact ⟨x, go_ev hF hn ha, hF _ (lookG_ok (go_more ([], 0) hn ha).2 h2).2.2⟩
/-! ### a def that stands under another name -/
def IsDefA (K : PySem.W.Frag) (mg : Str → Option Value) (x nm : Str) (st : Stmt) (ps : List Str) : Prop := ∃ (f : Addr) (fd : FuncData), Fun K nm nm st f fd ∧ mg x = some (.ref f) ∧ Binds K fd ps []
theorem IsDefA.cal {P : Program} {w : World} {K : PySem.W.Frag} {mg : Str → Option Value} {base : Heap} {x nm : Str} {st : Stmt} {N ps : List Str} {k : Nat} {sp : Sp} (D : IsDefA K mg x nm st ps) (S : FnScope N ps (defScope st)) (len : ∀ vs H Q E, sp vs H Q E → vs.length = ps.length)
    (hbody : ∀ (f : Addr) (cdv : Value) (A : Around) (outer : List Env) (s : Shared) (H : Hp) (vs : List V) (Q : VK) (E : XK), Room k (A.deeper (envOfC nm (defScope st) s.heap.objs.size f cdv)) → sp vs H Q E →
      ∃ t, PSs (cxOf CX0 P w K mg base N nm (defScope st) f cdv A outer s H E).nox (defBody st) t ∧ t { nx := fun _ H' => Q .non H', rt := Q } (start N vs) H) : Cal P w K mg base CX0 (k + 1) x ps sp := by
  obtain ⟨f, fd, F, m, b⟩ := D
  exact ⟨f, fd, F.ok S len fun cdv A outer s H vs Q E => hbody f cdv A outer s H vs Q E, m, F.kp, b⟩
/-! ### names and recipes told -/
structure RTxt (K : PySem.W.Frag) (mg : Str → Option Value) (tw : Addr) : Prop where
  LETTERS : ∃ t, mg "LETTERS" = some (.str "abcdefghijklmnopqrstuvwxyz" t)
  LONGEST : ∃ t, mg "LONGEST" = some (.int 8 t)
  DEEPEST : ∃ t, mg "DEEPEST" = some (.int 8 t)
  MOST : ∃ t, mg "MOST" = some (.int 100 t)
  MOST_NAMES : ∃ t, mg "MOST_NAMES" = some (.int 9 t)
  TWOS : mg "TWOS" = some (.ref tw)
  twos : ∀ H, SqT K H tw [.str "plus", .str "minus", .str "times", .str "most"]
def spIsWhole : Sp := fun vs H Q _ => ∃ (v : V) (t : Th), vs = [v] ∧ Data H t v ∧ Q (.bl t.isInt) H
def spIsName : Sp := fun vs H Q _ => ∃ (v : V) (t : Th), vs = [v] ∧ Data H t v ∧ t.tame = true ∧ ∀ H', Same H H' → Q (.bl t.isNm) H'
def spAreNames : Sp := fun vs H Q _ => ∃ (v : V) (t : Th), vs = [v] ∧ Data H t v ∧ t.tame = true ∧ (∀ m, t = .tup m → Th.flatL m = true ∧ SeqAt.shaped (.list (Th.pyL m)) = true) ∧ ∀ H', Same H H' → Q (.bl t.areNms) H'
theorem letter_in (c : Nat) : decide (c ∈ ("abcdefghijklmnopqrstuvwxyz" : Str).cps.toList) = (decide (97 ≤ c) && decide (c ≤ 122)) := by
  rw [letters_is]
  show decide (c ∈ letters) = _
  rw [← Bool.decide_and]
  refine decide_eq_decide.mpr ⟨fun h => letters_ok c h, fun ⟨h1, h2⟩ => ?_⟩
  have : ∀ d : Nat, d < 26 → (97 + d) ∈ letters := by decide
  have := this (c - 97) (by omega)
  rwa [show 97 + (c - 97) = c by omega] at this
section
variable {P : Program} {w : World} {K : PySem.W.Frag} {mg : Str → Option Value} {base : Heap}
abbrev s_is_whole_recipes : Stmt := topS 12
abbrev N_is_whole_recipes : List Str := ["thing"]
theorem sc_is_whole_recipes : FnScope N_is_whole_recipes ["thing"] (defScope s_is_whole_recipes) := ⟨rfl, rfl, rfl, by decide +kernel, rfl, by decide +kernel, by decide +kernel⟩

theorem ok_is_whole_recipes (T : Txt K mg) (D : IsDefA K mg "is_whole_recipes" "is_whole" s_is_whole_recipes ["thing"]) : Cal P w K mg base CX0 1 "is_whole_recipes" ["thing"] spIsWhole := by
  refine D.cal sc_is_whole_recipes (fun vs H Q E h => ?_) (fun f cdv A outer s H vs Q E hr h => ?_)
  · obtain ⟨v, t, rfl, _⟩ := h
    rfl
  obtain ⟨v, t, rfl, hv, q⟩ := h
  refine ⟨_, (pss_one (ps_ret (pe_and (pe_callB call_isi (by rfl) T.b_isinstance (by decide +kernel) (pa_cons (pv 0) (pa_cons (pe_bltn (v := .ty "int") (by rfl) T.b_int (by decide +kernel) rfl) pa_nil))) (pe_one (pe_not (pe_callB call_isi (by rfl) T.b_isinstance (by decide +kernel) (pa_cons (pv 0) (pa_cons (pe_bltn (v := .ty "bool") (by rfl) T.b_bool (by decide +kernel) rfl) pa_nil)))))))), ?_⟩
  refine ⟨_, rfl, _, _, _, _, _, rfl, .ty _, hv.ty, kit_int t, _, rfl, ?_⟩
  have e := isInt_is t
  cases h1 : t.isIntB with
  | false =>
    rw [h1, Bool.false_and] at e
    refine iteF ?_
    rw [e]
    exact q
  | true =>
    rw [h1, Bool.true_and] at e
    refine iteT ?_
    refine ⟨_, rfl, _, _, _, _, _, rfl, .ty _, hv.ty, kit_bl t, _, rfl, ?_⟩
    rw [e]
    exact q
abbrev s_is_whole_behind : Stmt := topS 21
abbrev N_is_whole_behind : List Str := ["thing"]
theorem sc_is_whole_behind : FnScope N_is_whole_behind ["thing"] (defScope s_is_whole_behind) := ⟨rfl, rfl, rfl, by decide +kernel, rfl, by decide +kernel, by decide +kernel⟩

theorem ok_is_whole_behind (T : Txt K mg) (D : IsDefA K mg "is_whole_behind" "is_whole" s_is_whole_behind ["thing"]) : Cal P w K mg base CX0 1 "is_whole_behind" ["thing"] spIsWhole := by
  refine D.cal sc_is_whole_behind (fun vs H Q E h => ?_) (fun f cdv A outer s H vs Q E hr h => ?_)
  · obtain ⟨v, t, rfl, _⟩ := h
    rfl
  obtain ⟨v, t, rfl, hv, q⟩ := h
  refine ⟨_, (pss_one (ps_ret (pe_and (pe_callB call_isi (by rfl) T.b_isinstance (by decide +kernel) (pa_cons (pv 0) (pa_cons (pe_bltn (v := .ty "int") (by rfl) T.b_int (by decide +kernel) rfl) pa_nil))) (pe_one (pe_not (pe_callB call_isi (by rfl) T.b_isinstance (by decide +kernel) (pa_cons (pv 0) (pa_cons (pe_bltn (v := .ty "bool") (by rfl) T.b_bool (by decide +kernel) rfl) pa_nil)))))))), ?_⟩
  refine ⟨_, rfl, _, _, _, _, _, rfl, .ty _, hv.ty, kit_int t, _, rfl, ?_⟩
  have e := isInt_is t
  cases h1 : t.isIntB with
  | false =>
    rw [h1, Bool.false_and] at e
    refine iteF ?_
    rw [e]
    exact q
  | true =>
    rw [h1, Bool.true_and] at e
    refine iteT ?_
    refine ⟨_, rfl, _, _, _, _, _, rfl, .ty _, hv.ty, kit_bl t, _, rfl, ?_⟩
    rw [e]
    exact q
abbrev s_is_name : Stmt := topS 14
abbrev N_is_name : List Str := ["thing", "sign"]
theorem sc_is_name : FnScope N_is_name ["thing"] (defScope s_is_name) := ⟨rfl, rfl, rfl, by decide +kernel, rfl, by decide +kernel, by decide +kernel⟩

theorem ok_is_name {tw : Addr} (T : Txt K mg) (R : RTxt K mg tw) (D : IsDef K mg "is_name" s_is_name ["thing"]) : Cal P w K mg base CX0 1 "is_name" ["thing"] spIsName := by
  refine D.cal sc_is_name (fun vs H Q E h => ?_) (fun f cdv A outer s H vs Q E hr h => ?_)
  · obtain ⟨v, t, rfl, _⟩ := h
    rfl
  obtain ⟨v, t, rfl, hv, ht, q⟩ := h
  obtain ⟨_, g_LETTERS⟩ := R.LETTERS
  obtain ⟨_, g_LONGEST⟩ := R.LONGEST
  refine ⟨_, (pss_cons (ps_if (PW.pt (pw_or (pt_not (pt_val (pe_callB call_isi (by rfl) T.b_isinstance (by decide +kernel) (pa_cons (pv 0) (pa_cons (pe_bltn (v := .ty "str") (by rfl) T.b_str (by decide +kernel) rfl) pa_nil))))) (pw_or (pt_cmpR op_lt (pe_callB call_len_str (by rfl) T.b_len PySem.boot_len (pa_cons (pv 0) pa_nil)) pe_int (nomark _)) (pw_or1 (pt_cmpR op_gt (pe_callB call_len_str (by rfl) T.b_len PySem.boot_len (pa_cons (pv 0) pa_nil)) (pe_glob (v := .int _) rfl g_LONGEST ⟨_, rfl⟩) (nomark _))))))
        (pss_one (ps_ret pe_bl))
        pss_nil)
      (pss_one (ps_ret (pe_cmpR (op_eqD hr.units) (pe_lc (own := [("sign", 1)]) (g := gName 1)  (by rfl) sc_is_name.nd  (pi_str (pv 0)) (blkOk_by (own := [("sign", 1)]) (N := N_is_name) (sc := defScope s_is_name) (by decide +kernel)) (fun _ _ _ _ _ => (pg_name (i := 1) sc_is_name.nd rfl (Or.inl rfl))) (fun _ _ _ _ _ => (pts_one (pt_cmpR op_notIn_sign (pv 1) (pe_glob (v := .str _) rfl g_LETTERS ⟨_, rfl⟩) rfl))) (fun _ _ _ _ _ => (pv 1))) (pe_lst pa_nil) (nomark _))))), ?_⟩
  refine ⟨_, rfl, _, _, _, _, _, rfl, .ty _, hv.ty, kit_str t, _, rfl, ?_⟩
  cases t with
  | str z =>
    have hz : z.length ≤ 1000000 := by
      have : (decide (z.length ≤ 1000000) && z.all fun c => decide (c < 128)) = true := ht
      rw [Bool.and_eq_true, decide_eq_true_eq] at this
      exact this.1
    have hc : ∀ c ∈ z, c < 128 := by
      have : (decide (z.length ≤ 1000000) && z.all fun c => decide (c < 128)) = true := ht
      rw [Bool.and_eq_true, List.all_eq_true] at this
      exact fun c h => of_decide_eq_true (this.2 c h)
    have ev : v = .str (SX.S z) := hv
    subst ev
    refine iteF ?_
    have hl : (SX.S z).length ≤ sizeLine := by rw [SX.S_len]; exact le_line (by omega)
    refine ⟨_, rfl, _, rfl, hl, _, _, rfl, rfl, _, rfl, ?_⟩
    by_cases h1 : (((SX.S z).length : Nat) : Int) < 1
    · refine iteY h1 (iteT ?_)
      have e : nmOk z = false := by
        unfold nmOk
        rw [SX.S_len] at h1
        rw [decide_eq_false (show ¬ 1 ≤ z.length by omega)]
        rfl
      have : Q (.bl (nmOk z)) H := q H (Same.refl H)
      rw [e] at this
      exact this
    refine iteN h1 ?_
    refine ⟨_, rfl, _, rfl, hl, _, _, rfl, rfl, _, rfl, ?_⟩
    by_cases h2 : (((SX.S z).length : Nat) : Int) > 8
    · refine iteY h2 ?_
      have e : nmOk z = false := by
        unfold nmOk
        rw [SX.S_len] at h2
        rw [decide_eq_false (show ¬ z.length ≤ 8 by omega), Bool.and_false]
        rfl
      have : Q (.bl (nmOk z)) H := q H (Same.refl H)
      rw [e] at this
      exact this
    refine iteN h2 ?_
    rw [SX.S_len] at h1 h2
    refine ⟨_, rfl, _, rfl, fun L nL => lcS (z := SX.S z) (fun i H' => Same H H' ∧ H' L = some (.lst (txs (ones ((z.take i).filter fun c => !(decide (97 ≤ c) && decide (c ≤ 122)))))))
      ⟨same_new nL _, upd_same⟩ ?_ ?_⟩
    · rintro i c H1 hc1 ⟨hs, hL⟩
      have hci : z[i]? = some c := by
        have : z.toArray[i]? = some c := hc1
        rwa [List.getElem?_toArray] at this
      have e1 : (z.take (i + 1)) = z.take i ++ [c] := by rw [List.take_add_one, hci]; rfl
      refine ⟨rfl, _, rfl, c, _, rfl, rfl, _, rfl, ?_⟩
      rw [letter_in]
      cases hcc : (decide (97 ≤ c) && decide (c ≤ 122)) with
      | true =>
        refine iteF ⟨hs, ?_⟩
        rw [e1, List.filter_append, List.filter_cons_of_neg (by rw [hcc]; decide), List.filter_nil, List.append_nil]
        exact hL
      | false =>
        refine iteT ⟨_, rfl, _, hL, ?_, same_upd hs nL _, ?_⟩
        · rw [txs_len, ones_len]
          exact lt_line (Nat.lt_of_le_of_lt (List.length_filter_le _ _) (by rw [List.length_take]; omega))
        · rw [upd_same, e1, List.filter_append, List.filter_cons_of_pos (by rw [hcc]; rfl), List.filter_nil]
          unfold ones
          rw [List.map_append, txs_app]
          rfl
    · rintro H1 ⟨hs, hL⟩
      have ez : z.take (SX.S z).cps.size = z := List.take_of_length_le (by show z.length ≤ z.toArray.size; simp)
      rw [ez] at hL
      refine ⟨Nat.zero_le _, fun e ne => ?_⟩
      have Le : L ≠ e := ne_of_none hL ne
      have dd : ∀ (H : Hp) (l : List Nat), DpAll K H (txs (ones l)) (l.map fun c => PyData.str (SX.S [c])) := fun H l => by
        induction l with
        | nil => exact .nil
        | cons c l ih => exact .cons (.str _) ih
      have sh : ∀ l : List Nat, (∀ c ∈ l, c < 128) → PyData.canLayAll0 (l.map fun c => PyData.str (SX.S [c])) = true ∧ PyData.depthAll (l.map fun c => PyData.str (SX.S [c])) = 0 := fun l hl => by
        induction l with
        | nil => exact ⟨rfl, rfl⟩
        | cons c l ih =>
          have ih := ih fun d h => hl d (List.mem_cons_of_mem _ h)
          refine ⟨?_, ?_⟩
          · show ((SX.S [c]).cps.all (· < 0x110000) && PyData.canLayAll0 _) = true
            rw [ih.1]
            have := hl c (List.mem_cons_self ..)
            simp
            omega
          · show max 0 _ = 0
            rw [ih.2]
            rfl
      have s1 := sh (z.filter fun c => !(decide (97 ≤ c) && decide (c ≤ 122))) fun c h => hc c (List.mem_filter.mp h).1
      refine ⟨_, _, .lst (SqL.of (by rw [upd_ne Le]; exact hL)) (dd _ _), .lst (SqL.of upd_same) .nil, shaped_parts.mpr ⟨s1.1, by rw [s1.2]; decide⟩, rfl, ?_⟩
      have ef : ∀ l : List Nat, PyData.eqv (.list (l.map fun c => PyData.str (SX.S [c]))) (.list []) = l.isEmpty := fun l => by cases l <;> rfl
      rw [ef]
      have en : nmOk z = (z.filter fun c => !(decide (97 ≤ c) && decide (c ≤ 122))).isEmpty := by
        unfold nmOk
        rw [decide_eq_true (show 1 ≤ z.length by omega), decide_eq_true (show z.length ≤ 8 by omega)]
        show (z.all fun c => decide (97 ≤ c) && decide (c ≤ 122)) = _
        generalize z = l
        induction l with
        | nil => rfl
        | cons c l ih =>
          rw [List.all_cons, List.filter_cons, ih]
          cases (decide (97 ≤ c) && decide (c ≤ 122)) <;> rfl
      rw [← en]
      exact q _ (hs.trans (same_new ne _))
  | _ => exact iteT (q H (Same.refl H))
end
def spWithin (K : PySem.W.Frag) : Sp := fun vs H Q _ => ∃ (v : V) (t : Th), vs = [v] ∧ Data H t v ∧ t.tame = true ∧ (t.parts = none → ∀ H', Same H H' → Q .non H') ∧ (∀ ps, t.parts = some ps → ∀ (H' : Hp) (a : Addr) (xs : List V), Same H H' → H' a = some (.tup xs) → (∀ B, Same B H → Data B t v → DataL B ps xs) → Q (.ref a) H')
theorem data_in {B H : Hp} (s : Same B H) {l : List Th} {p : Addr} {xs : List V} (d : Data B (.tup l) (.ref p)) (hp : H p = some (.tup xs)) : DataL B l xs := by
  obtain ⟨p', xs', e, hp', hl⟩ := d
  cases e
  have z := s _ _ hp'
  rw [hp] at z
  cases z
  exact hl
theorem tup_tame {k : List Nat} {l : List Th} (h : (Th.tup (.str k :: l)).tame = true) : tameS k = true ∧ Th.tameL l = true ∧ l.length ≤ 1000000 ∧ namesTame (.str k :: l) = true := by
  have e : ((tameS k && Th.tameL l) && decide (l.length + 1 ≤ 1000000) && namesTame (.str k :: l)) = true := h
  rw [Bool.and_eq_true, Bool.and_eq_true, Bool.and_eq_true, decide_eq_true_eq] at e
  exact ⟨e.1.1.1, e.1.1.2, by omega, e.2⟩
section
variable {P : Program} {w : World} {K : PySem.W.Frag} {mg : Str → Option Value} {base : Heap}
abbrev s_are_names : Stmt := topS 15
abbrev N_are_names : List Str := ["thing", "name"]
theorem sc_are_names : FnScope N_are_names ["thing"] (defScope s_are_names) := ⟨rfl, rfl, rfl, by decide +kernel, rfl, by decide +kernel, by decide +kernel⟩

theorem ok_are_names {tw : Addr} (T : Txt K mg) (R : RTxt K mg tw) (D : IsDef K mg "are_names" s_are_names ["thing"]) (C_is_name : Cal P w K mg base CX0 1 "is_name" ["thing"] spIsName) : Cal P w K mg base CX0 2 "are_names" ["thing"] spAreNames := by
  refine D.cal sc_are_names (fun vs H Q E h => ?_) (fun f cdv A outer s H vs Q E hr h => ?_)
  · obtain ⟨v, t, rfl, _⟩ := h
    rfl
  obtain ⟨v, t, rfl, hv, ht, hf, q⟩ := h
  obtain ⟨_, g_MOST_NAMES⟩ := R.MOST_NAMES
  refine ⟨_, (pss_cons (ps_if (PW.pt (pw_or (pt_not (pt_val (pe_callB call_isi (by rfl) T.b_isinstance (by decide +kernel) (pa_cons (pv 0) (pa_cons (pe_bltn (v := .ty "tuple") (by rfl) T.b_tuple (by decide +kernel) rfl) pa_nil))))) (pw_or (pt_cmpR op_lt (pe_callB call_len_seq (by rfl) T.b_len PySem.boot_len (pa_cons (pv 0) pa_nil)) pe_int (nomark _)) (pw_or1 (pt_cmpR op_gt (pe_callB call_len_seq (by rfl) T.b_len PySem.boot_len (pa_cons (pv 0) pa_nil)) (pe_glob (v := .int _) rfl g_MOST_NAMES ⟨_, rfl⟩) (nomark _))))))
        (pss_one (ps_ret pe_bl))
        pss_nil)
      (pss_one (ps_ret (pe_cmpR (op_eqD hr.units) (pe_lc (own := [("name", 1)]) (g := gName 1)  (by rfl) sc_are_names.nd  (pi_tup (pv 0)) (blkOk_by (own := [("name", 1)]) (N := N_are_names) (sc := defScope s_are_names) (by decide +kernel)) (fun _ _ _ _ _ => (pg_name (i := 1) sc_are_names.nd rfl (Or.inl rfl))) (fun _ _ _ _ _ => (pts_one (pt_not (pt_val (pe_cal C_is_name (hr.mono (by first | decide | omega)) pass0 (pa_cons (pv 1) pa_nil)))))) (fun _ _ _ _ _ => (pv 1))) (pe_lst pa_nil) (nomark _))))), ?_⟩
  refine ⟨_, rfl, _, _, _, _, _, rfl, .ty _, hv.ty, kit_tup t, _, rfl, ?_⟩
  cases t with
  | tup l =>
    obtain ⟨p, xs, rfl, hp, hl⟩ := hv
    have hxl := hl.len
    have hq := q H (Same.refl H)
    have ea : (Th.tup l).areNms = (decide (1 ≤ l.length) && decide (l.length ≤ 9) && l.all Th.isNm) := rfl
    rw [ea] at hq q
    refine iteF ?_
    refine ⟨_, rfl, p, _, rfl, .inr (SqT.of hp), _, _, rfl, rfl, _, rfl, ?_⟩
    by_cases h1 : ((xs.length : Nat) : Int) < 1
    · refine iteY h1 (iteT ?_)
      rw [decide_eq_false (show ¬ 1 ≤ l.length by omega)] at hq
      exact hq
    refine iteN h1 ?_
    refine ⟨_, rfl, p, _, rfl, .inr (SqT.of hp), _, _, rfl, rfl, _, rfl, ?_⟩
    by_cases h2 : ((xs.length : Nat) : Int) > 9
    · refine iteY h2 ?_
      rw [decide_eq_false (show ¬ l.length ≤ 9 by omega), Bool.and_false] at hq
      exact hq
    refine iteN h2 ?_
    rw [decide_eq_true (show 1 ≤ l.length by omega), decide_eq_true (show l.length ≤ 9 by omega)] at q
    have htl : Th.tameL l = true := by
      have e : (Th.tameL l && decide (l.length ≤ 1000000) && namesTame l) = true := ht
      rw [Bool.and_eq_true, Bool.and_eq_true] at e
      exact e.1.1
    refine ⟨_, rfl, p, rfl, ⟨_, SqT.of hp⟩, fun L nL => lc_tup (K := K) (a := p) (xs := xs) (fun i H' => Same H H' ∧ ∃ ys, H' L = some (.lst ys) ∧ DataL H ((l.take i).filter fun t => !t.isNm) ys)
      ⟨same_new nL _, [], upd_same, rfl⟩ (fun i H' _ h => SqT.of (h.1 _ _ hp)) ?_ ?_⟩
    · rintro i x H1 hx ⟨hs, ys, hL, hy⟩
      obtain ⟨t, hti, hd⟩ := hl.at hx
      have hm : t ∈ l := List.mem_of_getElem? hti
      have e1 : (l.take (i + 1)) = l.take i ++ [t] := by rw [List.take_add_one, hti]; rfl
      refine ⟨rfl, _, rfl, x, t, rfl, hd.same hs, tameL_mem htl t hm, fun H2 s2 => ⟨_, rfl, ?_⟩⟩
      have hs2 := hs.trans s2
      cases htt : t.isNm with
      | true =>
        refine iteF ⟨hs2, ys, s2 _ _ hL, ?_⟩
        rw [e1, List.filter_append, List.filter_cons_of_neg (by rw [htt]; decide), List.filter_nil, List.append_nil]
        exact hy
      | false =>
        have hyl : ys.length ≤ 9 := by
          rw [hy.len]
          have := List.length_filter_le (fun t : Th => !t.isNm) (l.take i)
          have := List.length_take_le i l
          rw [List.length_take] at *
          omega
        refine iteT ⟨_, rfl, ys, s2 _ _ hL, lt_line (by omega), same_upd hs2 nL _, _, upd_same, ?_⟩
        rw [e1, List.filter_append, List.filter_cons_of_pos (by rw [htt]; rfl), List.filter_nil]
        exact hy.snoc hd
    · rintro H1 ⟨hs, ys, hL, hy⟩
      rw [hxl, List.take_length] at hy
      refine ⟨Nat.zero_le _, fun e ne => ?_⟩
      have Le : L ≠ e := ne_of_none hL ne
      have hff := hf l rfl
      refine ⟨_, _, .lst (SqL.of (by rw [upd_ne Le]; exact hL)) (DataL.dp (flatL_filter (fun t => !t.isNm) hff.1) (hy.same (hs.trans (same_new ne _)))), .lst (SqL.of upd_same) .nil, shaped_filter (fun t => !t.isNm) hff.2, rfl, ?_⟩
      rw [eqv_nil]
      have en : (l.filter fun t => !t.isNm).isEmpty = l.all Th.isNm := by
        generalize l = m
        induction m with
        | nil => rfl
        | cons c m ih =>
          rw [List.all_cons, List.filter_cons, ← ih]
          cases c.isNm <;> rfl
      rw [en]
      exact q _ (hs.trans (same_new ne _))
  | _ => exact iteT (q H (Same.refl H))
abbrev s_within : Stmt := topS 16
abbrev N_within : List Str := ["thing", "kind"]
theorem sc_within : FnScope N_within ["thing"] (defScope s_within) := ⟨rfl, rfl, rfl, by decide +kernel, rfl, by decide +kernel, by decide +kernel⟩

theorem cut_tail (a b : V) (r : List V) : cutV (a :: b :: r) (some 1) none = b :: r := by
  show ((a :: b :: r).drop (HT.sIx (a :: b :: r).length 0 (some ((1 : Nat) : Int)))).take (HT.sIx (a :: b :: r).length (a :: b :: r).length none - HT.sIx (a :: b :: r).length 0 (some ((1 : Nat) : Int))) = _
  rw [HT.sIx_nat, HT.sIx_none, Nat.min_eq_left (by simp), List.drop_one, List.tail_cons, List.take_of_length_le (by simp)]
theorem slice_ne (a b : V) (r : List V) : ¬ (HT.sIx (a :: b :: r).length 0 (some 1) = 0 ∧ HT.sIx (a :: b :: r).length (a :: b :: r).length none = (a :: b :: r).length) := fun z => by
  have z1 : HT.sIx (a :: b :: r).length 0 (some ((1 : Nat) : Int)) = 0 := z.1
  rw [HT.sIx_nat, Nat.min_eq_left (by simp)] at z1
  cases z1
theorem cut_one (a b c : V) : cutV [a, b, c] (some 1) (some 2) = [b] := rfl
theorem iteInY {k : List Nat} {A B : Prop} (h : k ∈ twos) (a : A) : if inV (.str (SX.S k)) [.str "plus", .str "minus", .str "times", .str "most"] = true then A else B := by
  rw [in_twos, if_pos (decide_eq_true h)]; exact a
theorem iteInN {k : List Nat} {A B : Prop} (h : ¬ k ∈ twos) (b : B) : if inV (.str (SX.S k)) [.str "plus", .str "minus", .str "times", .str "most"] = true then A else B := by
  rw [in_twos, if_neg (fun z => h (of_decide_eq_true z))]; exact b
theorem ok_within {tw : Addr} (T : Txt K mg) (R : RTxt K mg tw) (D : IsDef K mg "within" s_within ["thing"]) (C_is_whole_recipes : Cal P w K mg base CX0 1 "is_whole_recipes" ["thing"] spIsWhole) (C_is_name : Cal P w K mg base CX0 1 "is_name" ["thing"] spIsName)
    (C_are_names : Cal P w K mg base CX0 2 "are_names" ["thing"] spAreNames) : Cal P w K mg base CX0 3 "within" ["thing"] (spWithin K) := by
  refine D.cal sc_within (fun vs H Q E h => ?_) (fun f cdv A outer s H vs Q E hr h => ?_)
  · obtain ⟨v, t, rfl, _⟩ := h
    rfl
  obtain ⟨v, t, rfl, hv, ht, qn, qs⟩ := h
  have g_TWOS := R.TWOS
  refine ⟨_, (pss_cons (ps_if (PW.pt (pw_or (pt_not (pt_val (pe_callB call_isi (by rfl) T.b_isinstance (by decide +kernel) (pa_cons (pv 0) (pa_cons (pe_bltn (v := .ty "tuple") (by rfl) T.b_tuple (by decide +kernel) rfl) pa_nil))))) (pw_or (pt_cmpR op_lt (pe_callB call_len_seq (by rfl) T.b_len PySem.boot_len (pa_cons (pv 0) pa_nil)) pe_int (nomark _)) (pw_or1 (pt_not (pt_val (pe_callB call_isi (by rfl) T.b_isinstance (by decide +kernel) (pa_cons (pe_ix (r := rIxT K) ix_tup (pv 0) pe_int (fun _ _ => rfl)) (pa_cons (pe_bltn (v := .ty "str") (by rfl) T.b_str (by decide +kernel) rfl) pa_nil)))))))))
        (pss_one (ps_ret pe_non))
        pss_nil)
      (pss_cons (ps_set (i := 1) sc_within.nd rfl (Or.inl rfl) (pe_ix (r := rIxT K) ix_tup (pv 0) pe_int (fun _ _ => rfl)))
      (pss_cons (ps_if (PW.pt (pw_and (pt_cmpR op_eq (pv 1) pe_str (nomark _)) (pw_and (pt_cmpR op_eq (pe_callB call_len_seq (by rfl) T.b_len PySem.boot_len (pa_cons (pv 0) pa_nil)) pe_int (nomark _)) (pw_and1 (pt_val (pe_cal C_is_whole_recipes (hr.mono (by first | decide | omega)) pass0 (pa_cons (pe_ix (r := rIxT K) ix_tup (pv 0) pe_int (fun _ _ => rfl)) pa_nil)))))))
        (pss_one (ps_ret (pe_tup pa_nil)))
        pss_nil)
      (pss_cons (ps_if (PW.pt (pw_and (pt_cmpR op_eq (pv 1) pe_str (nomark _)) (pw_and (pt_cmpR op_eq (pe_callB call_len_seq (by rfl) T.b_len PySem.boot_len (pa_cons (pv 0) pa_nil)) pe_int (nomark _)) (pw_and1 (pt_val (pe_cal C_is_name (hr.mono (by first | decide | omega)) pass0 (pa_cons (pe_ix (r := rIxT K) ix_tup (pv 0) pe_int (fun _ _ => rfl)) pa_nil)))))))
        (pss_one (ps_ret (pe_tup pa_nil)))
        pss_nil)
      (pss_cons (ps_if (PW.pt (pw_or (PW.pt (pw_and (pt_cmpR op_in_seq (pv 1) (pe_glob (v := .ref _) rfl g_TWOS rfl) (by with_unfolding_all rfl)) (pw_and1 (pt_cmpR op_eq (pe_callB call_len_seq (by rfl) T.b_len PySem.boot_len (pa_cons (pv 0) pa_nil)) pe_int (nomark _))))) (pw_or1 (PW.pt (pw_and (pt_cmpR op_eq (pv 1) pe_str (nomark _)) (pw_and1 (pt_cmpR op_eq (pe_callB call_len_seq (by rfl) T.b_len PySem.boot_len (pa_cons (pv 0) pa_nil)) pe_int (nomark _))))))))
        (pss_one (ps_ret (pe_slice (r := rSlT K) sl_tup (pv 0) (po_some pe_int) po_none)))
        pss_nil)
      (pss_cons (ps_if (PW.pt (pw_and (pt_cmpR op_eq (pv 1) pe_str (nomark _)) (pw_and (pt_cmpR op_eq (pe_callB call_len_seq (by rfl) T.b_len PySem.boot_len (pa_cons (pv 0) pa_nil)) pe_int (nomark _)) (pw_and1 (pt_val (pe_cal C_are_names (hr.mono (by first | decide | omega)) pass0 (pa_cons (pe_ix (r := rIxT K) ix_tup (pv 0) pe_int (fun _ _ => rfl)) pa_nil)))))))
        (pss_one (ps_ret (pe_slice (r := rSlT K) sl_tup (pv 0) (po_some pe_int) (po_some pe_int))))
        pss_nil)
      (pss_one (ps_ret pe_non)))))))), ?_⟩
  refine ⟨_, rfl, _, _, _, _, _, rfl, .ty _, hv.ty, kit_tup t, _, rfl, ?_⟩
  cases t with
  | tup l0 =>
    obtain ⟨p, xs0, rfl, hp, hl0⟩ := hv
    refine iteF ?_
    refine ⟨_, rfl, p, _, rfl, .inr (SqT.of hp), _, _, rfl, rfl, _, rfl, ?_⟩
    cases l0 with
    | nil =>
      rw [show xs0 = [] from hl0]
      exact iteY (by decide) (iteT (qn rfl H (Same.refl H)))
    | cons t0 l =>
      obtain ⟨x0, xs, rfl, hd0, hl⟩ := hl0
      cases l with
      | nil =>
        rw [show xs = [] from hl]
        refine iteY (by show ((1 : Nat) : Int) < 2; decide) (iteT (qn ?_ H (Same.refl H)))
        cases t0 with
        | str k =>
          show formParts k [] = none
          unfold formParts
          simp
        | _ => rfl
      | cons t1 l' =>
        have hxl : xs.length = (t1 :: l').length := hl.len
        have hlen : (((x0 :: xs).length : Nat) : Int) = ((l'.length + 2 : Nat) : Int) := by rw [List.length_cons, hxl]; rfl
        refine iteN (by rw [hlen]; omega) ?_
        refine ⟨_, rfl, p, _, _, _, rfl, rfl, SqT.of hp, atI_at (by decide) rfl, _, _, _, _, _, rfl, .ty _, hd0.ty, kit_str t0, _, rfl, ?_⟩
        cases t0 with
        | str k =>
          obtain rfl : x0 = V.str (SX.S k) := hd0
          obtain ⟨_, htl, _, hnt⟩ := tup_tame ht
          have ep : (Th.tup (.str k :: t1 :: l')).parts = formParts k (t1 :: l') := rfl
          rw [ep] at qn qs
          obtain ⟨x1, xs', rfl, hd1, hl'⟩ := hl
          have hx' := hl'.len
          refine iteF ?_
          refine ⟨_, rfl, p, _, _, _, rfl, rfl, SqT.of hp, atI_at (by decide) rfl, ?_⟩
          have no : formParts k (t1 :: l') = none → ∀ H', Same H H' → Q .non H' := qn
          have n0 : ∀ w : List Nat, ∀ lit : Str, lit = SX.S w → k ≠ w → ¬ V.str (SX.S k) = V.str lit := fun w lit e hk z => hk ((kw e).mp z)
          have y0 : ∀ w : List Nat, ∀ lit : Str, lit = SX.S w → k = w → V.str (SX.S k) = V.str lit := fun w lit e hk => (kw e).mpr hk
          have len_is : ∀ m : Nat, (V.int (((V.str (SX.S k) :: x1 :: xs').length : Nat) : Int) = V.int ((m + 2 : Nat) : Int)) ↔ l'.length = m := fun m => by
            constructor
            · intro e
              have e' : (((V.str (SX.S k) :: x1 :: xs').length : Nat) : Int) = ((m + 2 : Nat) : Int) := by cases e; rfl
              rw [hlen] at e'
              omega
            · intro e
              rw [hlen, e]
          by_cases k1 : k = w_number
          · have fp : formParts k (t1 :: l') = if l'.length = 0 ∧ t1.isInt = true then some [] else none := by
                unfold formParts
                rw [if_pos k1]
                simp
            have n_read : k ≠ w_read := by rw [k1]; decide
            have n_pick : k ≠ w_pick := by rw [k1]; decide
            have n_choose : k ≠ w_choose := by rw [k1]; decide
            have nt : ¬ k ∈ twos := by rw [k1]; decide
            refine ⟨_, rfl, rfl, _, rfl, iteY (y0 _ _ q_number k1) ?_⟩
            refine ⟨_, rfl, p, _, rfl, .inr (SqT.of hp), rfl, _, rfl, ?_⟩
            by_cases hl0 : l'.length = 0
            · refine iteY ((len_is 0).mpr hl0) ?_
              refine ⟨_, rfl, p, _, _, _, rfl, rfl, SqT.of hp, atI_at (by decide) rfl, x1, t1, rfl, hd1, _, rfl, ?_⟩
              cases hi : t1.isInt with
              | true =>
                exact iteT ⟨Nat.zero_le _, fun a na => qs [] (by rw [fp, if_pos ⟨hl0, hi⟩]) _ a [] (same_new na _) upd_same fun _ _ _ => rfl⟩
              | false =>
                refine iteF ?_
                refine ⟨_, rfl, rfl, _, rfl, iteN (n0 _ _ q_read n_read) (iteF ?_)⟩
                refine ⟨_, rfl, tw, _, rfl, .inr (R.twos H), rfl, rfl, _, rfl, iteInN nt (iteF ?_)⟩
                refine ⟨_, rfl, rfl, _, rfl, iteN (n0 _ _ q_pick n_pick) (iteF ?_)⟩
                refine ⟨_, rfl, rfl, _, rfl, iteN (n0 _ _ q_choose n_choose) (iteF ?_)⟩
                exact no (by rw [fp, if_neg (fun z => by rw [hi] at z; cases z.2)]) H (Same.refl H)
            · refine iteN (fun z => hl0 ((len_is 0).mp z)) (iteF ?_)
              refine ⟨_, rfl, rfl, _, rfl, iteN (n0 _ _ q_read n_read) (iteF ?_)⟩
              refine ⟨_, rfl, tw, _, rfl, .inr (R.twos H), rfl, rfl, _, rfl, iteInN nt (iteF ?_)⟩
              refine ⟨_, rfl, rfl, _, rfl, iteN (n0 _ _ q_pick n_pick) (iteF ?_)⟩
              refine ⟨_, rfl, rfl, _, rfl, iteN (n0 _ _ q_choose n_choose) (iteF ?_)⟩
              exact no (by rw [fp, if_neg (fun z => hl0 z.1)]) H (Same.refl H)
          have n_number := k1
          refine ⟨_, rfl, rfl, _, rfl, iteN (n0 _ _ q_number n_number) (iteF ?_)⟩
          by_cases k2 : k = w_read
          · have fp : formParts k (t1 :: l') = if l'.length = 0 ∧ t1.isNm = true then some [] else none := by
              unfold formParts
              rw [if_neg k1, if_pos k2]
              simp
            have n_pick : k ≠ w_pick := by rw [k2]; decide
            have n_choose : k ≠ w_choose := by rw [k2]; decide
            have nt : ¬ k ∈ twos := by rw [k2]; decide
            refine ⟨_, rfl, rfl, _, rfl, iteY (y0 _ _ q_read k2) ?_⟩
            refine ⟨_, rfl, p, _, rfl, .inr (SqT.of hp), rfl, _, rfl, ?_⟩
            by_cases hl0 : l'.length = 0
            · refine iteY ((len_is 0).mpr hl0) ?_
              refine ⟨_, rfl, p, _, _, _, rfl, rfl, SqT.of hp, atI_at (by decide) rfl, x1, t1, rfl, hd1, tameL_mem htl t1 (List.mem_cons_self ..), fun H1 hs1 => ⟨_, rfl, ?_⟩⟩
              cases hi : t1.isNm with
              | true =>
                exact iteT ⟨Nat.zero_le _, fun a na => qs [] (by rw [fp, if_pos ⟨hl0, hi⟩]) _ a [] (hs1.trans (same_new na _)) upd_same fun _ _ _ => rfl⟩
              | false =>
                refine iteF ?_
                refine ⟨_, rfl, tw, _, rfl, .inr (R.twos H1), rfl, rfl, _, rfl, iteInN nt (iteF ?_)⟩
                refine ⟨_, rfl, rfl, _, rfl, iteN (n0 _ _ q_pick n_pick) (iteF ?_)⟩
                refine ⟨_, rfl, rfl, _, rfl, iteN (n0 _ _ q_choose n_choose) (iteF ?_)⟩
                exact no (by rw [fp, if_neg (fun z => by rw [hi] at z; cases z.2)]) H1 hs1
            · refine iteN (fun z => hl0 ((len_is 0).mp z)) (iteF ?_)
              refine ⟨_, rfl, tw, _, rfl, .inr (R.twos H), rfl, rfl, _, rfl, iteInN nt (iteF ?_)⟩
              refine ⟨_, rfl, rfl, _, rfl, iteN (n0 _ _ q_pick n_pick) (iteF ?_)⟩
              refine ⟨_, rfl, rfl, _, rfl, iteN (n0 _ _ q_choose n_choose) (iteF ?_)⟩
              exact no (by rw [fp, if_neg (fun z => hl0 z.1)]) H (Same.refl H)
          have n_read := k2
          refine ⟨_, rfl, rfl, _, rfl, iteN (n0 _ _ q_read n_read) (iteF ?_)⟩
          by_cases k3 : k ∈ twos
          · have fp : formParts k (t1 :: l') = if l'.length = 1 then some (t1 :: l') else none := by
              unfold formParts
              rw [if_neg k1, if_neg k2, if_pos k3]
              simp
            have n_pick : k ≠ w_pick := fun z => by rw [z] at k3; revert k3; decide
            have n_choose : k ≠ w_choose := fun z => by rw [z] at k3; revert k3; decide
            refine ⟨_, rfl, tw, _, rfl, .inr (R.twos H), rfl, rfl, _, rfl, iteInY k3 ?_⟩
            refine ⟨_, rfl, p, _, rfl, .inr (SqT.of hp), rfl, _, rfl, ?_⟩
            by_cases hl0 : l'.length = 1
            · refine iteY ((len_is 1).mpr hl0) (iteT ?_)
              refine ⟨_, rfl, _, rfl, p, _, rfl, SqT.of hp, slice_ne _ _ _, fun a na => ?_⟩
              refine qs _ (by rw [fp, if_pos hl0]) _ a _ (same_new na _) upd_same fun B sB dB => ?_
              rw [cut_tail]
              exact DataL.drop 1 (data_in sB dB hp)
            · refine iteN (fun z => hl0 ((len_is 1).mp z)) ?_
              refine ⟨_, rfl, rfl, _, rfl, iteN (n0 _ _ q_pick n_pick) (iteF ?_)⟩
              refine ⟨_, rfl, rfl, _, rfl, iteN (n0 _ _ q_choose n_choose) (iteF ?_)⟩
              exact no (by rw [fp, if_neg hl0]) H (Same.refl H)
          have nt := k3
          refine ⟨_, rfl, tw, _, rfl, .inr (R.twos H), rfl, rfl, _, rfl, iteInN nt (iteF ?_)⟩
          by_cases k4 : k = w_pick
          · have fp : formParts k (t1 :: l') = if l'.length = 2 then some (t1 :: l') else none := by
              unfold formParts
              rw [if_neg k1, if_neg k2, if_neg k3, if_pos k4]
              simp
            have n_choose : k ≠ w_choose := by rw [k4]; decide
            refine ⟨_, rfl, rfl, _, rfl, iteY (y0 _ _ q_pick k4) ?_⟩
            refine ⟨_, rfl, p, _, rfl, .inr (SqT.of hp), rfl, _, rfl, ?_⟩
            by_cases hl0 : l'.length = 2
            · refine iteY ((len_is 2).mpr hl0) ?_
              refine ⟨_, rfl, _, rfl, p, _, rfl, SqT.of hp, slice_ne _ _ _, fun a na => ?_⟩
              refine qs _ (by rw [fp, if_pos hl0]) _ a _ (same_new na _) upd_same fun B sB dB => ?_
              rw [cut_tail]
              exact DataL.drop 1 (data_in sB dB hp)
            · refine iteN (fun z => hl0 ((len_is 2).mp z)) ?_
              refine ⟨_, rfl, rfl, _, rfl, iteN (n0 _ _ q_choose n_choose) (iteF ?_)⟩
              exact no (by rw [fp, if_neg hl0]) H (Same.refl H)
          have n_pick := k4
          refine ⟨_, rfl, rfl, _, rfl, iteN (n0 _ _ q_pick n_pick) (iteF ?_)⟩
          by_cases k5 : k = w_choose
          · have fp : formParts k (t1 :: l') = if l'.length = 1 ∧ (l'.headD .non).areNms = true then some [t1] else none := by
              unfold formParts
              rw [if_neg k1, if_neg k2, if_neg k3, if_neg k4, if_pos k5]
              cases l' <;> simp
            refine ⟨_, rfl, rfl, _, rfl, iteY (y0 _ _ q_choose k5) ?_⟩
            refine ⟨_, rfl, p, _, rfl, .inr (SqT.of hp), rfl, _, rfl, ?_⟩
            by_cases hl0 : l'.length = 1
            · refine iteY ((len_is 1).mpr hl0) ?_
              match l', hl0, hl', htl, hnt, fp with
              | [t2], _, ⟨x2, xs2, e2, hd2, e3⟩, htl, hnt, fp =>
                subst e2
                obtain rfl : xs2 = [] := e3
                refine ⟨_, rfl, p, _, _, _, rfl, rfl, SqT.of hp, atI_at (by decide) rfl, x2, t2, rfl, hd2, tameL_mem htl t2 (by simp), fun m hm => ?_, fun H1 hs1 => ⟨_, rfl, ?_⟩⟩
                · subst hm
                  have e : (!decide (k = w_choose) || (Th.flatL m && SeqAt.shaped (.list (Th.pyL m)))) = true := hnt
                  rw [decide_eq_true k5] at e
                  exact Bool.and_eq_true_iff.mp e
                cases hi : t2.areNms with
                | true =>
                  refine iteT ⟨_, rfl, _, rfl, _, rfl, p, _, rfl, SqT.of (hs1 _ _ hp), fun z => absurd z.1 (by show ¬ HT.sIx 3 0 (some 1) = 0; decide), fun a na => ?_⟩
                  refine qs [t1] (by rw [fp, if_pos ⟨rfl, hi⟩]) _ a _ (hs1.trans (same_new na _)) upd_same fun B sB dB => ?_
                  rw [cut_one]
                  exact DataL.take 1 (DataL.drop 1 (data_in sB dB hp))
                | false =>
                  exact iteF (no (by rw [fp, if_neg (fun z => by rw [show ([t2] : List Th).headD .non = t2 from rfl, hi] at z; cases z.2)]) H1 hs1)
            · exact iteN (fun z => hl0 ((len_is 1).mp z)) (iteF (no (by rw [fp, if_neg (fun z => hl0 z.1)]) H (Same.refl H)))
          have n_choose := k5
          refine ⟨_, rfl, rfl, _, rfl, iteN (n0 _ _ q_choose n_choose) (iteF ?_)⟩
          exact no (by unfold formParts; rw [if_neg k1, if_neg k2, if_neg k3, if_neg k4, if_neg k5]) H (Same.refl H)
        | _ => exact iteT (qn rfl H (Same.refl H))
  | _ => exact iteT (qn rfl H (Same.refl H))
end
section
variable {P : Program} {w : World} {K : PySem.W.Frag} {mg : Str → Option Value} {base : Heap}
abbrev s_is_recipe : Stmt := topS 17
abbrev N_is_recipe : List Str := ["thing", "row", "at", "one", "depth", "parts", "part"]
theorem sc_is_recipe : FnScope N_is_recipe ["thing"] (defScope s_is_recipe) := ⟨rfl, rfl, rfl, by decide +kernel, rfl, by decide +kernel, by decide +kernel⟩

/-- what is still to be looked at -/
def pend (n : Nat) (rest : List (Th × Nat)) : Nat := (rest.map fun p => Th.count (9 - p.2) p.1).sum
def RowI (H : Hp) : List (Th × Nat) → List V → Prop
  | [], xs => xs = []
  | p :: r, xs => ∃ (a : Addr) (x : V) (ys : List V), xs = .ref a :: ys ∧ H a = some (.tup [x, .int (p.2 : Int)]) ∧ Data H p.1 x ∧ RowI H r ys
theorem RowI.same {H H' : Hp} (s : Same H H') : ∀ {r : List (Th × Nat)} {xs : List V}, RowI H r xs → RowI H' r xs
  | [], _, h => h
  | _ :: _, _, ⟨a, x, ys, e, h, d, r⟩ => ⟨a, x, ys, e, s _ _ h, d.same s, RowI.same s r⟩
theorem RowI.len {H : Hp} : ∀ {r : List (Th × Nat)} {xs : List V}, RowI H r xs → xs.length = r.length
  | [], _, h => by rw [show _ = [] from h]; rfl
  | _ :: _, _, ⟨a, x, ys, e, h, d, r⟩ => by rw [e, List.length_cons, RowI.len r]; rfl
theorem RowI.at {H : Hp} : ∀ {r : List (Th × Nat)} {xs : List V} {i : Nat} {p : Th × Nat}, RowI H r xs → r[i]? = some p → ∃ (a : Addr) (x : V), xs[i]? = some (.ref a) ∧ H a = some (.tup [x, .int (p.2 : Int)]) ∧ Data H p.1 x
  | [], _, i, p, _, e => by simp at e
  | q :: _, _, 0, p, ⟨a, x, ys, e1, h, d, _⟩, e => by subst e1; cases e; exact ⟨a, x, rfl, h, d⟩
  | _ :: _, _, i + 1, p, ⟨a, x, ys, e1, h, d, r⟩, e => by subst e1; exact RowI.at (i := i) r (by simpa using e)
theorem RowI.snoc {H : Hp} {p : Th × Nat} {a : Addr} {x : V} (h : H a = some (.tup [x, .int (p.2 : Int)])) (d : Data H p.1 x) : ∀ {r : List (Th × Nat)} {xs : List V}, RowI H r xs → RowI H (r ++ [p]) (xs ++ [.ref a])
  | [], _, e => by rw [show _ = [] from e]; exact ⟨a, x, [], rfl, h, d, rfl⟩
  | _ :: _, _, ⟨b, y, ys, e, h', d', r⟩ => by subst e; exact ⟨b, y, _, rfl, h', d', RowI.snoc h d r⟩
theorem pend_ge (n : Nat) : ∀ r : List (Th × Nat), r.length ≤ pend n r
  | [] => Nat.zero_le _
  | p :: r => by
    have := pend_ge n r
    have := count_pos (9 - p.2) p.1
    show r.length + 1 ≤ Th.count (9 - p.2) p.1 + pend n r
    omega
theorem pend_app (n : Nat) (a b : List (Th × Nat)) : pend n (a ++ b) = pend n a + pend n b := by unfold pend; rw [List.map_append, List.sum_append]
def allOk (r : List (Th × Nat)) : Bool := r.all fun p => Th.okay (9 - p.2) p.1
def spIsRecipe : Sp := fun vs H Q _ => ∃ (v : V) (t : Th), vs = [v] ∧ Data H t v ∧ t.tame = true ∧ ∀ H', Same H H' → Q (.bl t.isRcp) H'
theorem parts_tame {t : Th} {ps : List Th} (ht : t.tame = true) (h : t.parts = some ps) : ps.length ≤ 3 ∧ ∀ p ∈ ps, p.tame = true := by
  obtain ⟨k, l, rfl⟩ := parts_tup h
  have hm := tameL_mem (tup_tame ht).2.1
  have e : formParts k l = some ps := h
  unfold formParts at e
  have none_ne : ∀ {x : List Th}, (Option.none : Option (List Th)) = some x → False := fun z => by cases z
  split at e
  · split at e
    · cases e; exact ⟨by decide, by simp⟩
    · cases e
  split at e
  · split at e
    · cases e; exact ⟨by decide, by simp⟩
    · cases e
  split at e
  · split at e
    · rename_i h2; cases e; exact ⟨by omega, hm⟩
    · cases e
  split at e
  · split at e
    · rename_i h2; cases e; exact ⟨by omega, hm⟩
    · cases e
  split at e
  · split at e
    · rename_i h2; cases e
      refine ⟨by rw [List.length_take]; omega, fun p hp => hm p (List.mem_of_mem_take hp)⟩
    · cases e
  · cases e
theorem ok_is_recipe {tw : Addr} (T : Txt K mg) (R : RTxt K mg tw) (D : IsDef K mg "is_recipe" s_is_recipe ["thing"]) (C_within : Cal P w K mg base CX0 3 "within" ["thing"] (spWithin K)) : Cal P w K mg base CX0 4 "is_recipe" ["thing"] spIsRecipe := by
  refine D.cal sc_is_recipe (fun vs H Q E h => ?_) (fun f cdv A outer s H vs Q E hr h => ?_)
  · obtain ⟨v, t, rfl, _⟩ := h
    rfl
  obtain ⟨v, t, rfl, hv, ht, q⟩ := h
  obtain ⟨_, g_MOST⟩ := R.MOST
  obtain ⟨_, g_DEEPEST⟩ := R.DEEPEST
  refine ⟨_, (pss_cons (ps_set (i := 1) sc_is_recipe.nd rfl (Or.inl rfl) (pe_lst (pa_cons (pe_tup (pa_cons (pv 0) (pa_cons pe_int pa_nil))) pa_nil)))
      (pss_cons (ps_set (i := 2) sc_is_recipe.nd rfl (Or.inl rfl) pe_int)
      (pss_cons (ps_while PassesOwn.never (pt_cmpR op_lt (pv 2) (pe_callB call_len_seq (by rfl) T.b_len PySem.boot_len (pa_cons (pv 1) pa_nil)) (nomark _))
        (pss_cons (ps_asg (pe_ix (r := rIxL K) ix_list (pv 1) (pv 2) (fun _ _ => rfl)) (pg_tup rfl (pgs_cons (pg_name (i := 3) sc_is_recipe.nd rfl (Or.inl rfl)) (pgs_cons (pg_name (i := 4) sc_is_recipe.nd rfl (Or.inl rfl)) pgs_nil))))
      (pss_cons (ps_set (i := 5) sc_is_recipe.nd rfl (Or.inl rfl) (pe_cal C_within (hr.mono (by first | decide | omega)) pass0 (pa_cons (pv 3) pa_nil)))
      (pss_cons (ps_if (PW.pt (pw_or (pt_cmpR op_isN (pv 5) pe_non (nomark _)) (pw_or (pt_cmpR op_gt (pv 4) (pe_glob (v := .int _) rfl g_DEEPEST ⟨_, rfl⟩) (nomark _)) (pw_or1 (pt_cmpR op_gt (pe_callB call_len_seq (by rfl) T.b_len PySem.boot_len (pa_cons (pv 1) pa_nil)) (pe_glob (v := .int _) rfl g_MOST ⟨_, rfl⟩) (nomark _))))))
        (pss_one (ps_ret pe_bl))
        pss_nil)
      (pss_cons (ps_for PassesOwn.never rfl (pi_tup (pv 5)) (pg_name (i := 6) sc_is_recipe.nd rfl (Or.inl rfl))
        (pss_one (ps_expr (pe_bm PySem.F.plainAttrs_list PySem.F.slot_list_append PySem.F.type_list_append mt_append (pv 1) (pa_cons (pe_tup (pa_cons (pv 6) (pa_cons (pe_op op_add (pv 4) pe_int) pa_nil))) pa_nil)))))
      (pss_one (ps_aug (i := 2) sc_is_recipe.nd rfl (Or.inl rfl) pe_int ip_add)))))))
      (pss_one (ps_ret pe_bl))))), ?_⟩
  refine ⟨_, rfl, le_line (Nat.le_of_ble_eq_true rfl), fun p np => ⟨le_line (Nat.le_of_ble_eq_true rfl), fun L nL => ?_⟩⟩
  have s1 := same_new np (.tup [v, .int 1])
  -- the row: looked at, and still to be looked at
  refine ⟨fun m σ H' => ∃ (B : Hp) (all : List (Th × Nat)) (xs : List V) (i : Nat) (o1 o2 o3 o4 : Option V), σ = [some v, some (.ref L), some (.int (i : Int)), o1, o2, o3, o4] ∧ Same H B ∧ B L = none ∧ Same B H' ∧ H' L = some (.lst xs) ∧ RowI B all xs ∧
      i ≤ all.length ∧ all.length ≤ 103 ∧ (∀ q ∈ all, q.1.tame = true ∧ 1 ≤ q.2 ∧ q.2 ≤ 9) ∧ (all.length ≤ 100 ∨ i < all.length) ∧ t.isRcp = (allOk (all.drop i) && decide (i + pend 0 (all.drop i) ≤ 100)) ∧ m = 104 - i, ?_, ?_⟩
  · refine ⟨104, _, [(t, 1)], [.ref p], 0, none, none, none, none, rfl, s1, nL, same_new nL _, upd_same, ⟨p, v, [], rfl, upd_same, hv.same s1, rfl⟩, Nat.zero_le _, Nat.le_of_ble_eq_true rfl, ?_, .inl (Nat.le_of_ble_eq_true rfl), ?_, rfl⟩
    · intro q' hq
      rw [List.mem_singleton.mp hq]
      exact ⟨ht, Nat.le_refl 1, (by decide : 1 ≤ 9)⟩
    · show (t.okay 8 && decide (t.count 8 ≤ 100)) = ((t.okay 8 && true) && decide (0 + (t.count 8 + 0) ≤ 100))
      rw [Bool.and_true, Nat.zero_add, Nat.add_zero]
  rintro m σ H1 ⟨B, all, xs, i, o1, o2, o3, o4, rfl, hB, nB, hs, hL, hrow, hi, h103, htm, hlast, heq, rfl⟩
  have hxl := hrow.len
  refine ⟨_, rfl, _, rfl, L, _, rfl, .inl (SqL.of hL), _, _, rfl, rfl, _, rfl, ?_⟩
  by_cases hlt : ((i : Nat) : Int) < ((xs.length : Nat) : Int)
  · refine iteY hlt ?_
    have hia : i < all.length := by omega
    have hget := List.getElem?_eq_getElem hia
    obtain ⟨a, x, hxa, hpa, hda⟩ := hrow.at hget
    generalize hqe : all[i] = pq at hget hpa hda
    obtain ⟨t1, d1⟩ := pq
    have hq1 := htm (t1, d1) (by rw [← hqe]; exact List.getElem_mem hia)
    have hdrop : all.drop i = (t1, d1) :: all.drop (i + 1) := by rw [List.drop_eq_getElem_cons hia, hqe]
    refine ⟨fun σ' H' => ∃ (B : Hp) (all : List (Th × Nat)) (xs : List V) (i' : Nat) (o1 o2 o3 o4 : Option V), σ' = [some v, some (.ref L), some (.int (i' : Int)), o1, o2, o3, o4] ∧ Same H B ∧ B L = none ∧ Same B H' ∧ H' L = some (.lst xs) ∧ RowI B all xs ∧
      i' ≤ all.length ∧ all.length ≤ 103 ∧ (∀ q ∈ all, q.1.tame = true ∧ 1 ≤ q.2 ∧ q.2 ≤ 9) ∧ (all.length ≤ 100 ∨ i' < all.length) ∧ t.isRcp = (allOk (all.drop i') && decide (i' + pend 0 (all.drop i') ≤ 100)) ∧ i' = i + 1, ?_, ?_⟩
    · rintro σ' H' ⟨B, all, xs, i', o1, o2, o3, o4, e1, e2, e3, e4, e5, e6, e7, e8, e9, e10, e11, e12⟩
      exact ⟨104 - i', by omega, B, all, xs, i', o1, o2, o3, o4, e1, e2, e3, e4, e5, e6, e7, e8, e9, e10, e11, rfl⟩
    -- one, depth = row[at]
    refine ⟨_, rfl, _, rfl, L, _, _, _, rfl, rfl, SqL.of hL, atI_nat hxa, ?_⟩
    refine ⟨a, _, rfl, SqT.of (hs _ _ hpa), rfl, x, _, rfl, _, _, rfl, rfl, ?_⟩
    refine ⟨_, rfl, x, t1, rfl, hda.same hs, hq1.1, fun hno H2 hs2 => ?_, fun ps hps H2 ap zs hs2 hap hzs => ?_⟩
    · refine ⟨_, rfl, rfl, _, rfl, iteY rfl (iteT ?_)⟩
      have : t.isRcp = false := by
        rw [heq, hdrop]
        show ((Th.okay (9 - d1) t1 && allOk (all.drop (i + 1))) && _) = false
        have : Th.okay (9 - d1) t1 = false := by
          cases 9 - d1 with
          | zero => rfl
          | succ n => show (match t1.parts with | none => false | some ps => ps.all (Th.okay n)) = false; rw [hno]
        rw [this]
        rfl
      rw [← this]
      exact q _ (hB.trans (hs.trans hs2))
    · refine ⟨_, rfl, rfl, _, rfl, iteN (by intro z; cases z) ?_⟩
      have hs12 := hs.trans hs2
      have hL2 := hs2 _ _ hL
      refine ⟨_, rfl, _, _, rfl, rfl, _, rfl, ?_⟩
      by_cases hd9 : ((d1 : Nat) : Int) > 8
      · refine iteY hd9 (iteT ?_)
        have : t.isRcp = false := by
          rw [heq, hdrop]
          show ((Th.okay (9 - d1) t1 && allOk (all.drop (i + 1))) && _) = false
          have e9 : 9 - d1 = 0 := by omega
          rw [e9]
          rfl
        rw [← this]
        exact q _ (hB.trans hs12)
      refine iteN hd9 ?_
      refine ⟨_, rfl, L, _, rfl, .inl (SqL.of hL2), _, _, rfl, rfl, _, rfl, ?_⟩
      by_cases hbig : ((xs.length : Nat) : Int) > 100
      · refine iteY hbig ?_
        have : t.isRcp = false := by
          rw [heq, hdrop]
          have hge := pend_ge 0 (all.drop i)
          rw [hdrop] at hge
          have hln : ((t1, d1) :: all.drop (i + 1)).length = all.length - i := by rw [← hdrop, List.length_drop]
          rw [decide_eq_false (show ¬ i + pend 0 ((t1, d1) :: all.drop (i + 1)) ≤ 100 by omega), Bool.and_false]
        rw [← this]
        exact q _ (hB.trans hs12)
      refine iteN hbig ?_
      obtain ⟨hp3, hptm⟩ := parts_tame hq1.1 hps
      have hzl := (hzs B hs hda).len
      obtain ⟨nn, hnn⟩ : ∃ nn, 9 - d1 = nn + 1 := ⟨8 - d1, by omega⟩
      have hnn2 : 9 - (d1 + 1) = nn := by omega
      have hok : Th.okay (9 - d1) t1 = allOk (ps.map fun p => (p, d1 + 1)) := by
        rw [hnn]
        show (match t1.parts with | none => false | some ps => ps.all (Th.okay nn)) = _
        rw [hps]
        unfold allOk
        rw [List.all_map]
        show ps.all (Th.okay nn) = ps.all fun p => Th.okay (9 - (d1 + 1)) p
        rw [hnn2]
      have hct : Th.count (9 - d1) t1 = 1 + pend 0 (ps.map fun p => (p, d1 + 1)) := by
        rw [hnn]
        show (match t1.parts with | none => 1 | some ps => 1 + (ps.map (Th.count nn)).sum) = _
        rw [hps]
        unfold pend
        rw [List.map_map]
        show 1 + (ps.map (Th.count nn)).sum = 1 + (ps.map fun p => Th.count (9 - (d1 + 1)) p).sum
        rw [hnn2]
      -- for part in parts
      refine ⟨_, rfl, ap, rfl, ⟨_, SqT.of hap⟩, for_tup (K := K) (a := ap) (xs := zs) (fun j σ' H' => ∃ (B' : Hp) (ys : List V) (o4 : Option V), σ' = [some v, some (.ref L), some (.int (i : Int)), some x, some (.int (d1 : Int)), some (.ref ap), o4] ∧ Same B B' ∧ B' L = none ∧ Same B' H' ∧ H' ap = some (.tup zs) ∧ H' L = some (.lst ys) ∧
          RowI B' (all ++ (ps.take j).map fun p => (p, d1 + 1)) ys ∧ DataL B' ps zs) ?_ (fun j σ' H' _ ⟨_, _, _, _, _, _, _, h, _⟩ => SqT.of h) ?_ ?_⟩
      · exact ⟨B, xs, o4, rfl, Same.refl _, nB, hs12, hap, hL2, by rw [List.take_zero, List.map_nil, List.append_nil]; exact hrow, hzs B hs hda⟩
      · rintro j y σ' H3 hy ⟨B', ys, o4', rfl, hBB, nB', hs3, hap3, hL3, hrow3, hzs3⟩
        obtain ⟨tj, htj, hdj⟩ := hzs3.at hy
        have hyl := hrow3.len
        have hjl : (ps.take j).length ≤ 3 := by rw [List.length_take]; omega
        rw [List.length_append, List.length_map] at hyl
        refine ⟨_, rfl, .inl ⟨rfl, _, SqL.of hL3⟩, _, rfl, _, rfl, _, _, rfl, rfl, le_line (Nat.le_of_ble_eq_true rfl), fun u nu => ⟨L, _, _, rfl, rfl, same_new nu _ _ _ hL3, lt_line (by omega), ?_⟩⟩
        have Lu : L ≠ u := ne_of_none hL3 nu
        have apL : ap ≠ L := fun z => by rw [z, hL3] at hap3; cases hap3
        have nu' : B' u = none := hs3.free nu
        refine ⟨upd B' u (.tup [y, .int ((d1 : Int) + 1)]), _, _, rfl, hBB.trans (same_new nu' _), by rw [upd_ne Lu]; exact nB', fun b o e => ?_, ?_, upd_same, ?_, hzs3.same (same_new nu' _)⟩
        · have hbL : b ≠ L := fun z => by rw [z, upd_ne Lu, nB'] at e; cases e
          rw [upd_ne hbL]
          by_cases hbu : b = u
          · rw [hbu, upd_same] at e ⊢; exact e
          · rw [upd_ne hbu] at e ⊢; exact hs3 _ _ e
        · rw [upd_ne apL]; exact same_new nu _ _ _ hap3
        · rw [List.take_add_one, htj, List.map_append, ← List.append_assoc]
          exact RowI.snoc (p := (tj, d1 + 1)) upd_same (hdj.same (same_new nu' _)) (hrow3.same (same_new nu' _))
      · rintro σ' H3 ⟨B', ys, o4', rfl, hBB, nB', hs3, hap3, hL3, hrow3, hzs3⟩
        rw [hzl, List.take_length] at hrow3
        refine ⟨_, rfl, _, _, rfl, rfl, ?_⟩
        have hnl : (ps.map fun p => (p, d1 + 1)).length = ps.length := List.length_map _
        refine ⟨B', all ++ ps.map fun p => (p, d1 + 1), ys, i + 1, _, _, _, _, rfl, hB.trans hBB, nB', hs3, hL3, hrow3, ?_, ?_, ?_, ?_, ?_, rfl⟩
        · rw [List.length_append]; omega
        · rw [List.length_append, hnl]; omega
        · intro q' hq'
          rcases List.mem_append.mp hq' with h | h
          · exact htm q' h
          · obtain ⟨p', hp', rfl⟩ := List.mem_map.mp h
            exact ⟨hptm p' hp', by show 1 ≤ d1 + 1; omega, by show d1 + 1 ≤ 9; omega⟩
        · rw [List.length_append, hnl]
          cases ps with
          | nil => exact .inl (by show all.length + 0 ≤ 100; omega)
          | cons p0 r0 => exact .inr (by rw [List.length_cons]; omega)
        · rw [heq, hdrop, List.drop_append_of_le_length (by omega), pend_app]
          have ea : allOk ((t1, d1) :: all.drop (i + 1)) = (Th.okay (9 - d1) t1 && allOk (all.drop (i + 1))) := rfl
          have ep : pend 0 ((t1, d1) :: all.drop (i + 1)) = Th.count (9 - d1) t1 + pend 0 (all.drop (i + 1)) := rfl
          have eb : allOk (all.drop (i + 1) ++ ps.map fun p => (p, d1 + 1)) = (allOk (all.drop (i + 1)) && allOk (ps.map fun p => (p, d1 + 1))) := List.all_append
          rw [ea, ep, eb, hok, hct, Bool.and_comm (allOk (ps.map fun p => (p, d1 + 1)))]
          congr 2
          exact propext ⟨fun z => by omega, fun z => by omega⟩
  · refine iteN hlt ?_
    have e : all.drop i = [] := List.drop_eq_nil_of_le (by omega)
    have : t.isRcp = true := by
      rw [heq, e]
      show (true && decide (i + 0 ≤ 100)) = true
      rw [decide_eq_true (show i + 0 ≤ 100 by omega)]
      rfl
    have h := q _ (hB.trans hs)
    rw [this] at h
    exact h
end
/-! ### the class Going -/
structure GoT (K : PySem.W.Frag) (mg : Str → Option Value) (C fI : Addr) : Prop where
  cl : Cls K C
  nR : NoAttr K C "reads"
  nH : NoAttr K C "had"
  nL : NoAttr K C "lacking"
  g : mg "Going" = some (.ref C)
  mkI : Mk K C fI
def ObG (H : Hp) (g C R D : Addr) (lk : V) : Prop := ∃ dx fs, H g = some (.ins C dx fs) ∧ fs.lookup ("reads" : Str) = some (.ref R) ∧ fs.lookup ("had" : Str) = some (.ref D) ∧ fs.lookup ("lacking" : Str) = some lk ∧
  fs.lookup ("look" : Str) = none ∧ fs.lookup ("worth" : Str) = none ∧ fs.lookup ("two" : Str) = none ∧ fs.length = 3
theorem ObG.same {H H' : Hp} {g C R D : Addr} {lk : V} (h : ObG H g C R D lk) (s : H' g = H g) : ObG H' g C R D lk := by
  obtain ⟨dx, fs, h1, h2⟩ := h
  exact ⟨dx, fs, s.trans h1, h2⟩
theorem putF_len {f : Str} {v x : V} : ∀ {fs : List (Str × V)}, fs.lookup f = some x → (putF f v fs).length = fs.length
  | [], h => by cases h
  | (g, y) :: r, h => by
    unfold putF
    by_cases c : g = f
    · rw [if_pos c]
      rfl
    · rw [if_neg c]
      have hb : (f == g) = false := beq_eq_false_iff_ne.mpr fun z => c z.symm
      have h' : r.lookup f = some x := by
        rw [List.lookup, hb] at h
        exact h
      show (putF f v r).length + 1 = r.length + 1
      rw [putF_len h']
theorem ObG.lack {H : Hp} {g C R D : Addr} {lk : V} (h : ObG H g C R D lk) (x : V) : ∃ dx fs, H g = some (.ins C dx fs) ∧ fs.length < 1000 ∧ ObG (upd H g (.ins C dx (putF "lacking" x fs))) g C R D x := by
  obtain ⟨dx, fs, h1, h2, h3, h4, h5, h6, h7, h8⟩ := h
  refine ⟨dx, fs, h1, by omega, dx, putF "lacking" x fs, upd_same, ?_, ?_, ?_, ?_, ?_, ?_, ?_⟩
  · rw [lookup_putF, if_neg (by decide +kernel)]; exact h2
  · rw [lookup_putF, if_neg (by decide +kernel)]; exact h3
  · rw [lookup_putF, if_pos rfl]
  · rw [lookup_putF, if_neg (by decide +kernel)]; exact h5
  · rw [lookup_putF, if_neg (by decide +kernel)]; exact h6
  · rw [lookup_putF, if_neg (by decide +kernel)]; exact h7
  · rw [putF_len h4]; exact h8
def Fr2 (a b : Addr) (H H' : Hp) : Prop := ∀ x u, x ≠ a → x ≠ b → H x = some u → H' x = some u
theorem Fr2.refl (a b : Addr) (H : Hp) : Fr2 a b H H := fun _ _ _ _ e => e
theorem Fr2.trans {a b : Addr} {A B C : Hp} (h : Fr2 a b A B) (k : Fr2 a b B C) : Fr2 a b A C := fun x u n m e => k x u n m (h x u n m e)
theorem Fr2.of {a b : Addr} {A B : Hp} (h : Same A B) : Fr2 a b A B := fun x u _ _ e => h x u e
/-- a Going in the work: n reads of rd were looked for -/
def StG (C : Addr) (H : Hp) (g R D : Addr) (rd : List Pr) (n : Nat) : Prop := ObG H g C R D .non ∧ H D = some (.dK (numsK (rd.take n))) ∧ ∃ xs, H R = some (.lst xs) ∧ Prs H rd xs
theorem StG.keep {C : Addr} {H H' : Hp} {g R D : Addr} {rd : List Pr} {n : Nat} (k : StG C H g R D rd n) (f : Fr2 g D H H') : Keep H H' := by
  obtain ⟨⟨dx, fs, h1, _⟩, h2, _⟩ := k
  exact fun b ys e => f b _ (fun z => by rw [z, h1] at e; cases e) (fun z => by rw [z, h2] at e; cases e) e
def TellG (Q : VK) (E : XK) (C CN : Addr) (rd : List Pr) (g R D : Addr) (H : Hp) (res : Res) : Prop :=
  (∀ v m H', res = .ok v m → Fr2 g D H H' → StG C H' g R D rd m → Q (.int v) H') ∧
  (∀ t H', res = .lack t → Fr2 g D H H' → ObG H' g C R D (.str (SX.S t)) → Q .non H') ∧
  (∀ H', res = .bad → Fr2 g D H H' → E (.ref CN) none H')
def spGInit (C : Addr) : Sp := fun vs H Q _ => ∃ (g R dx : Addr), vs = [.ref g, .ref R] ∧ H g = some (.ins C dx []) ∧ ∀ (D : Addr) (H' : Hp), H D = none → ObG H' g C R D .non → H' D = some (.dK []) → (∀ b o, b ≠ g → H b = some o → H' b = some o) → Q .non H'
def spGLook (C CN : Addr) : Sp := fun vs H Q E => ∃ (g R D : Addr) (s : List Nat) (rd : List Pr) (n : Nat), vs = [.ref g, .str (SX.S s)] ∧ StG C H g R D rd n ∧ n ≤ rd.length ∧ rd.length ≤ 1000000 ∧ TellG Q E C CN rd g R D H (lookG rd n s)
section
variable {P : Program} {w : World} {K : PySem.W.Frag} {mg : Str → Option Value} {base : Heap} {C fI CN : Addr}
abbrev s_Going___init__ : Stmt := inClass (topS 19) 0
abbrev N_Going___init__ : List Str := ["self", "reads"]
theorem sc_Going___init__ : FnScope N_Going___init__ ["self", "reads"] (defScope s_Going___init__) := ⟨rfl, rfl, rfl, by decide +kernel, rfl, by decide +kernel, by decide +kernel⟩

theorem ok_Going_init (T : Txt K mg) (ZGoing : GoT K mg C fI) {fd : FuncData} (F : Fun K "__init__" "Going.__init__" s_Going___init__ fI fd) : FnOk P w K mg base CX0 1 fI fd ["self", "reads"] (spGInit C) := by
  refine F.ok sc_Going___init__ (fun vs H Q E h => ?_) (fun cdv A outer s H vs Q E hr h => ?_)
  · obtain ⟨g, R, dx, rfl, _⟩ := h
    rfl
  obtain ⟨g, R, dx, rfl, hg, q⟩ := h
  refine ⟨_, (pss_cons (ps_fld (pv 0) (pv 1) rfl)
      (pss_cons (ps_fld (pv 0) pe_dnewK rfl)
      (pss_one (ps_fld (pv 0) pe_non rfl)))), ?_⟩
  refine ⟨_, rfl, _, rfl, g, C, dx, _, rfl, hg, ZGoing.cl, ZGoing.nR, (by show 0 < 1000; decide), ?_⟩
  refine fun D nD => ?_
  have ngD : g ≠ D := ne_of_none (H := upd H g (.ins C dx (putF "reads" (.ref R) []))) upd_same nD
  refine ⟨_, rfl, g, C, dx, _, rfl, (by rw [upd_ne ngD]; exact upd_same), ZGoing.cl, ZGoing.nH, (by show 1 < 1000; decide), _, rfl, g, C, dx, _, rfl, upd_same, ZGoing.cl, ZGoing.nL, ?_, ?_⟩
  · show (putF "had" (.ref D) [(("reads" : Str), V.ref R)]).length < 1000
    unfold putF
    rw [if_neg (by decide +kernel)]
    show 2 < 1000
    decide
  have e3 : putF "lacking" .non (putF "had" (.ref D) (putF "reads" (.ref R) [])) = ([("reads", .ref R), ("had", .ref D), ("lacking", .non)] : List (Str × V)) := by
    show putF "lacking" .non (putF "had" (.ref D) [(("reads" : Str), V.ref R)]) = _
    rw [show putF "had" (.ref D) [(("reads" : Str), V.ref R)] = [(("reads" : Str), V.ref R), ("had", .ref D)] by unfold putF; rw [if_neg (by decide +kernel)]; rfl]
    unfold putF
    rw [if_neg (by decide +kernel)]
    unfold putF
    rw [if_neg (by decide +kernel)]
    rfl
  have nD0 : H D = none := by rw [upd_ne ngD.symm] at nD; exact nD
  refine q D _ nD0 ⟨dx, _, upd_same, ?_⟩ (by rw [upd_ne ngD.symm, upd_ne ngD.symm]; exact upd_same) (fun b o nb e => ?_)
  · have lk : ∀ f : Str, (putF "lacking" V.non (putF "had" (.ref D) (putF "reads" (.ref R) []))).lookup f = if f = "lacking" then some .non else if f = "had" then some (.ref D) else if f = "reads" then some (.ref R) else none := fun f => by
      rw [lookup_putF, lookup_putF, lookup_putF]
      rfl
    refine ⟨?_, ?_, ?_, ?_, ?_, ?_, by rw [e3]; rfl⟩
    · rw [lk, if_neg (by decide +kernel), if_neg (by decide +kernel), if_pos rfl]
    · rw [lk, if_neg (by decide +kernel), if_pos rfl]
    · rw [lk, if_pos rfl]
    · rw [lk, if_neg (by decide +kernel), if_neg (by decide +kernel), if_neg (by decide +kernel)]
    · rw [lk, if_neg (by decide +kernel), if_neg (by decide +kernel), if_neg (by decide +kernel)]
    · rw [lk, if_neg (by decide +kernel), if_neg (by decide +kernel), if_neg (by decide +kernel)]
  · rw [upd_ne nb, upd_ne nb, upd_ne (fun z => by rw [z, nD0] at e; cases e), upd_ne nb]
    exact e
abbrev s_Going_look : Stmt := inClass (topS 19) 1
abbrev N_Going_look : List Str := ["self", "name", "read", "number"]
theorem sc_Going_look : FnScope N_Going_look ["self", "name"] (defScope s_Going_look) := ⟨rfl, rfl, rfl, by decide +kernel, rfl, by decide +kernel, by decide +kernel⟩

theorem ok_Going_look (T : Txt K mg) (ZGoing : GoT K mg C fI) (XNoRead : NoX K mg "NoRead" CN) (D : IsMet K C "look" "Going.look" s_Going_look ["self", "name"]) : Met P w K mg base (L2.CX P w) 1 C "look" ["self", "name"] (spGLook C CN) := by
  refine D.metX sc_Going_look (fun vs H Q E h => ?_) (fun f cdv A outer s H vs Q E hr h => ?_)
  · obtain ⟨g, R, D, s, rd, n, rfl, _⟩ := h
    rfl
  obtain ⟨g, R, D, s0, rd, n, rfl, ⟨hO, hD, xs, hR, hP⟩, hn, h100, q1, q2, q3⟩ := h
  have hu : (cxOf (L2.CX P w) P w K mg base N_Going_look "Going.look" (defScope s_Going_look) f cdv A outer s H E).A.units + 1 < cLine := Nat.lt_of_le_of_lt (Nat.add_le_add_left (by decide : 1 ≤ 64) _) hr.units
  refine ⟨_, (pss_cons (ps_if (pt_cmp (pc_din hu (pv 1) (pe_fld (pv 0) rfl)))
        (pss_one (ps_ret (pe_dget hu (pe_fld (pv 0) rfl) (pv 1) (fun _ _ => rfl))))
        pss_nil)
      (pss_cons (ps_if (pt_cmpR op_eq (pe_callB call_lenD (by rfl) T.b_len PySem.boot_len (pa_cons (pe_fld (pv 0) rfl) pa_nil)) (pe_callB call_len_seq (by rfl) T.b_len PySem.boot_len (pa_cons (pe_fld (pv 0) rfl) pa_nil)) (nomark _))
        (pss_cons (ps_fld (pv 0) (pv 1) rfl)
      (pss_one (ps_ret pe_non)))
        pss_nil)
      (pss_cons (ps_asg (pe_ix (r := rIxL K) ix_list (pe_fld (pv 0) rfl) (pe_callB call_lenD (by rfl) T.b_len PySem.boot_len (pa_cons (pe_fld (pv 0) rfl) pa_nil)) (fun _ _ => rfl)) (pg_tup rfl (pgs_cons (pg_name (i := 2) sc_Going_look.nd rfl (Or.inl rfl)) (pgs_cons (pg_name (i := 3) sc_Going_look.nd rfl (Or.inl rfl)) pgs_nil))))
      (pss_cons (ps_if (pt_cmpR op_ne (pv 2) (pv 1) (nomark _))
        (pss_one (ps_raise rfl (takes_of rfl rfl rfl rfl) (pmk_own PySem.F.excBase_ValueError XNoRead.x XNoRead.g XNoRead.k (raises_own XNoRead.b XNoRead.t) rfl)))
        pss_nil)
      (pss_cons (ps_dput hu (pe_fld (pv 0) rfl) (pv 1) (pv 3) rfl)
      (pss_one (ps_ret (pv 3)))))))), ?_⟩
  obtain ⟨dx, fs, hg, l1, l2, l3, l4, l5, l6, l7⟩ := id hO
  have ngD : g ≠ D := fun z => by rw [z, hD] at hg; cases hg
  have hln : (numsK (rd.take n)).length = n := by rw [numsK_len, List.length_take]; omega
  have hxl := hP.len
  refine ⟨_, rfl, _, rfl, g, C, dx, _, _, rfl, hg, ZGoing.cl, ZGoing.nH, l2, D, _, rfl, DGet.k (k := kT (SX.S s0)) hD, _, rfl, ?_⟩
  rw [val_seen]
  cases e : seen (rd.take n) s0 with
  | some v =>
    have dV : DGet H D (.str (SX.S s0)) (some (.int v)) := (show valV (numsK (rd.take n)) (kT (SX.S s0)) = some (.int v) by rw [val_seen, e]; rfl) ▸ DGet.k (k := kT (SX.S s0)) hD
    refine iteT ?_
    exact ⟨_, rfl, g, C, dx, _, _, rfl, hg, ZGoing.cl, ZGoing.nH, l2, _, rfl, D, _, rfl, dV, q1 v n H (lookG_seen e) (Fr2.refl g D H) ⟨hO, hD, xs, hR, hP⟩⟩
  | none =>
    refine iteF ?_
    refine ⟨_, rfl, g, C, dx, _, _, rfl, hg, ZGoing.cl, ZGoing.nH, l2, D, _, rfl, hD, _, rfl, g, C, dx, _, _, rfl, hg, ZGoing.cl, ZGoing.nR, l1, R, _, rfl, .inl (SqL.of hR), rfl, _, rfl, ?_⟩
    rw [hln, hxl]
    by_cases c : n = rd.length
    · refine iteY (by rw [c]) ?_
      obtain ⟨dx', fs', hg', hl', hO'⟩ := hO.lack (.str (SX.S s0))
      refine ⟨_, rfl, _, rfl, g, C, dx', _, rfl, hg', ZGoing.cl, ZGoing.nL, hl', ?_⟩
      exact q2 s0 _ (lookG_last e (List.getElem?_eq_none (by omega))) (fun x u n1 _ e => by rw [upd_ne n1]; exact e) hO'
    · refine iteN (fun z => c (by have := V.int.inj z; omega)) ?_
      have hlt : n < rd.length := by omega
      have e2 : rd[n]? = some rd[n] := List.getElem?_eq_getElem hlt
      obtain ⟨p, hp⟩ : ∃ p, p = rd[n] := ⟨_, rfl⟩
      rw [← hp] at e2
      have hxn : xs[n]? = some xs[n] := List.getElem?_eq_getElem (by omega)
      obtain ⟨p', t, hp', ht0, ht⟩ := hP.at hxn
      obtain rfl : p' = p := Option.some.inj (hp'.symm.trans e2)
      rw [ht0] at hxn
      refine ⟨_, rfl, g, C, dx, _, _, rfl, hg, ZGoing.cl, ZGoing.nR, l1, _, rfl, g, C, dx, _, _, rfl, hg, ZGoing.cl, ZGoing.nH, l2, D, _, rfl, hD, R, _, _, _, rfl, rfl, SqL.of hR, by rw [hln]; exact atI_nat hxn, t, _, rfl, SqT.of ht, rfl, _, _, rfl, _, _, rfl, rfl, ?_⟩
      refine ⟨_, rfl, _, rfl, rfl, _, rfl, ?_⟩
      by_cases cp : p'.1 = s0
      · refine not_true_eq (decide_eq_true (by rw [cp])) ?_
        have etk : rd.take (n + 1) = rd.take n ++ [(s0, p'.2)] := by
          rw [List.take_add_one, e2, ← cp]
          rfl
        refine ⟨_, rfl, _, rfl, g, C, dx, _, _, rfl, hg, ZGoing.cl, ZGoing.nH, l2, _, rfl, D, _, rfl, DPut.k (k := kT (SX.S s0)) hD (lt_line (by omega)), ?_⟩
        rw [nums_put e, ← etk]
        have nRD : R ≠ D := fun z => by rw [z, hD] at hR; cases hR
        refine ⟨_, rfl, q1 p'.2 (n + 1) _ (lookG_right e e2 cp) (fun x u _ n2 e => by rw [upd_ne n2]; exact e) ⟨hO.same (upd_ne ngD), upd_same, xs, by rw [upd_ne nRD]; exact hR, hP.keep fun b zs e => ?_⟩⟩
        have nb : b ≠ D := fun z => by rw [z, hD] at e; cases e
        rw [upd_ne nb]
        exact e
      · refine not_false_eq (decide_eq_false fun z => cp (strS_inj z)) ?_
        exact q3 _ (lookG_bad e e2 cp) (Fr2.refl g D H)
end
/-! ### Going through a recipe; behind -/
theorem StG.same {C : Addr} {H H' : Hp} {g R D : Addr} {rd : List Pr} {n : Nat} (k : StG C H g R D rd n) (s : Same H H') : StG C H' g R D rd n := by
  obtain ⟨⟨dx, fs, h1, h2⟩, h3, xs, h4, h5⟩ := k
  exact ⟨⟨dx, fs, s _ _ h1, h2⟩, s _ _ h3, xs, s _ _ h4, h5.same s⟩
def spGTwo (C CN : Addr) (j : Nat) : Sp := fun vs H Q E => ∃ (g R D : Addr) (k : Kd) (x : Int) (v : V) (b : Rcp) (rd : List Pr) (m e : Nat), vs = [.ref g, .str k.name, .int x, v] ∧ Rec H b v ∧ b.Nb ∧ b.dep ≤ j ∧ b.dep ≤ 9 ∧ StG C H g R D rd m ∧ m ≤ rd.length ∧ rd.length ≤ 1000000 ∧ Small rd ∧ 0 < e ∧ e ≤ 204800 ∧ x.natAbs < 2 ^ e ∧
  TellG Q E C CN rd g R D H ((go rd b m).bind fun y l => .ok (k.ap x y) l)
def spGWorth (C CN : Addr) (j : Nat) : Sp := fun vs H Q E => ∃ (g R D : Addr) (v : V) (r : Rcp) (rd : List Pr) (n : Nat), vs = [.ref g, v] ∧ Rec H r v ∧ r.Nb ∧ r.dep ≤ j ∧ r.dep ≤ 9 ∧ StG C H g R D rd n ∧ n ≤ rd.length ∧ rd.length ≤ 1000000 ∧ Small rd ∧ TellG Q E C CN rd g R D H (go rd r n)
section
variable {P : Program} {w : World} {K : PySem.W.Frag} {mg : Str → Option Value} {base : Heap} {C fI CN : Addr}
abbrev s_Going_two : Stmt := inClass (topS 19) 2
abbrev N_Going_two : List Str := ["self", "kind", "one", "r", "other"]
theorem sc_Going_two : FnScope N_Going_two ["self", "kind", "one", "r"] (defScope s_Going_two) := ⟨rfl, rfl, rfl, by decide +kernel, rfl, by decide +kernel, by decide +kernel⟩

theorem ok_Going_two {j : Nat} (T : Txt K mg) (ZGoing : GoT K mg C fI) (D : IsMet K C "two" "Going.two" s_Going_two ["self", "kind", "one", "r"]) (MW : Met P w K mg base (L2.CX P w) (2 * j + 1) C "worth" ["self", "r"] (spGWorth C CN j)) :
    Met P w K mg base (L2.CX P w) (2 * j + 2) C "two" ["self", "kind", "one", "r"] (spGTwo C CN j) := by
  obtain ⟨f_w, fd_w, F_Going_worth, M_Going_worth, B_Going_worth⟩ := MW
  refine D.metX sc_Going_two (fun vs H Q E h => ?_) (fun f cdv A outer s H vs Q E hr h => ?_)
  · obtain ⟨g, R, D, k, x, v, b, rd, m, e, rfl, _⟩ := h
    rfl
  obtain ⟨g, R, D, k, x, v, b, rd, m, e, rfl, hRc, hNb, hd, h9, hS, hm, h100, hsm, e0, e1, ex, q1, q2, q3⟩ := h
  refine ⟨_, (pss_cons (ps_set (i := 4) sc_Going_two.nd rfl (Or.inl rfl) (pe_meth (pv 0) ZGoing.cl M_Going_worth F_Going_worth (hr.mono (by first | decide | omega)) B_Going_worth .nil (passes_call (takes_of rfl rfl rfl rfl) (fun _ _ _ _ h => h)) (pa_cons (pv 3) pa_nil)))
      (pss_cons (ps_if (pt_cmpR op_isN (pv 4) pe_non (nomark _))
        (pss_one (ps_ret pe_non))
        pss_nil)
      (pss_cons (ps_if (pt_cmpR op_eq (pv 1) pe_str (nomark _))
        (pss_one (ps_ret (pe_op op_add (pv 2) (pv 4))))
        pss_nil)
      (pss_cons (ps_if (pt_cmpR op_eq (pv 1) pe_str (nomark _))
        (pss_one (ps_ret (pe_op op_sub (pv 2) (pv 4))))
        pss_nil)
      (pss_cons (ps_if (pt_cmpR op_eq (pv 1) pe_str (nomark _))
        (pss_one (ps_ret (pe_op op_mulW (pv 2) (pv 4))))
        pss_nil)
      (pss_one (ps_ret (pe_callB (call_max2 rfl) (by rfl) T.b_max (by decide +kernel) (pa_cons (pv 2) (pa_cons (pv 4) pa_nil)))))))))), ?_⟩
  obtain ⟨dx, fs, hg, _, _, _, _, l5, _⟩ := hS.1
  refine ⟨_, rfl, g, dx, fs, rfl, hg, l5, _, rfl, g, R, D, v, b, rd, m, rfl, hRc, hNb, hd, h9, hS, hm, h100, hsm, ?_, ?_, ?_⟩
  · intro y l H1 h1 f1 S1
    obtain ⟨_, _, d, d0, d1, dy⟩ := go_small hsm hNb h9 hm h1
    have q1' := q1 (k.ap x y) l H1 (by rw [h1]; rfl) f1 S1
    refine ⟨_, rfl, rfl, _, rfl, iteN (fun z => by cases z) ?_⟩
    cases k with
    | plus => exact ⟨_, rfl, rfl, _, rfl, iteY rfl ⟨_, rfl, _, rfl, _, _, rfl, rfl, q1'⟩⟩
    | minus => exact ⟨_, rfl, rfl, _, rfl, iteN (sne (by decide +kernel)) ⟨_, rfl, rfl, _, rfl, iteY rfl ⟨_, rfl, _, rfl, _, _, rfl, rfl, q1'⟩⟩⟩
    | times => exact ⟨_, rfl, rfl, _, rfl, iteN (sne (by decide +kernel)) ⟨_, rfl, rfl, _, rfl, iteN (sne (by decide +kernel)) ⟨_, rfl, rfl, _, rfl, iteY rfl ⟨_, rfl, _, rfl, _, _, rfl, rfl, wide_mul ex dy e0 d0 (by omega), q1'⟩⟩⟩⟩
    | most => exact ⟨_, rfl, rfl, _, rfl, iteN (sne (by decide +kernel)) ⟨_, rfl, rfl, _, rfl, iteN (sne (by decide +kernel)) ⟨_, rfl, rfl, _, rfl, iteN (sne (by decide +kernel)) ⟨_, rfl, _, rfl, _, _, rfl, q1'⟩⟩⟩⟩
  · intro t H1 h1 f1 O1
    exact ⟨_, rfl, rfl, _, rfl, iteY rfl (q2 t H1 (by rw [h1]; rfl) f1 O1)⟩
  · intro H1 h1 f1
    exact q3 H1 (by rw [h1]; rfl) f1
abbrev s_Going_worth : Stmt := inClass (topS 19) 3
abbrev N_Going_worth : List Str := ["self", "r", "one"]
theorem sc_Going_worth : FnScope N_Going_worth ["self", "r"] (defScope s_Going_worth) := ⟨rfl, rfl, rfl, by decide +kernel, rfl, by decide +kernel, by decide +kernel⟩

theorem ok_Going_worth (T : Txt K mg) (ZGoing : GoT K mg C fI) (D : IsMet K C "worth" "Going.worth" s_Going_worth ["self", "r"]) (D2 : IsMet K C "two" "Going.two" s_Going_two ["self", "kind", "one", "r"]) (ML : Met P w K mg base (L2.CX P w) 1 C "look" ["self", "name"] (spGLook C CN)) :
    ∀ j, Met P w K mg base (L2.CX P w) (2 * j + 1) C "worth" ["self", "r"] (spGWorth C CN j)
  | 0 => met_none D fun vs H Q E h => by
    obtain ⟨_, _, _, _, r, _, _, _, _, _, hd, _⟩ := h
    have := dep_pos r
    omega
  | j + 1 => by
    have MW := ok_Going_worth T ZGoing D D2 ML j
    have M2 := ok_Going_two T ZGoing D2 MW
    obtain ⟨f_w, fd_w, F_Going_worth, M_Going_worth, B_Going_worth⟩ := MW
    obtain ⟨f_t, fd_t, F_Going_two, M_Going_two, B_Going_two⟩ := M2
    obtain ⟨f_l, fd_l, F_Going_look, M_Going_look, B_Going_look⟩ := ML
    refine D.metX (k := 2 * j + 2) sc_Going_worth (fun vs H Q E h => ?_) (fun f cdv A outer s H vs Q E hr h => ?_)
    · obtain ⟨g, R, D, v, r, rd, n, rfl, _⟩ := h
      rfl
    obtain ⟨g, R, D, v, r, rd, n, rfl, hRc, hNb, hd, h9, hS, hn, h100, hsm, q1, q2, q3⟩ := h
    refine ⟨_, (pss_cons (ps_if (pt_cmpR op_eq (pe_ix (r := rIxT K) ix_tup (pv 1) pe_int (fun _ _ => rfl)) pe_str (nomark _))
        (pss_one (ps_ret (pe_ix (r := rIxT K) ix_tup (pv 1) pe_int (fun _ _ => rfl))))
        pss_nil)
      (pss_cons (ps_if (pt_cmpR op_eq (pe_ix (r := rIxT K) ix_tup (pv 1) pe_int (fun _ _ => rfl)) pe_str (nomark _))
        (pss_one (ps_ret (pe_meth (pv 0) ZGoing.cl M_Going_look F_Going_look (hr.mono (by first | decide | omega)) B_Going_look .nil (passes_call (takes_of rfl rfl rfl rfl) (fun _ _ _ _ h => h)) (pa_cons (pe_ix (r := rIxT K) ix_tup (pv 1) pe_int (fun _ _ => rfl)) pa_nil))))
        pss_nil)
      (pss_cons (ps_set (i := 2) sc_Going_worth.nd rfl (Or.inl rfl) (pe_meth (pv 0) ZGoing.cl M_Going_worth F_Going_worth (hr.mono (by first | decide | omega)) B_Going_worth .nil (passes_call (takes_of rfl rfl rfl rfl) (fun _ _ _ _ h => h)) (pa_cons (pe_ix (r := rIxT K) ix_tup (pv 1) pe_int (fun _ _ => rfl)) pa_nil)))
      (pss_cons (ps_if (pt_cmpR op_isN (pv 2) pe_non (nomark _))
        (pss_one (ps_ret pe_non))
        pss_nil)
      (pss_cons (ps_if (pt_cmpR op_eq (pe_ix (r := rIxT K) ix_tup (pv 1) pe_int (fun _ _ => rfl)) pe_str (nomark _))
        (pss_one (ps_ret (pe_meth (pv 0) ZGoing.cl M_Going_look F_Going_look (hr.mono (by first | decide | omega)) B_Going_look .nil (passes_call (takes_of rfl rfl rfl rfl) (fun _ _ _ _ h => h)) (pa_cons (pe_ix (r := rIxT K) ix_tup (pe_ix (r := rIxT K) ix_tup (pv 1) pe_int (fun _ _ => rfl)) (pe_op op_mod (pv 2) (pe_callB call_len_seq (by rfl) T.b_len PySem.boot_len (pa_cons (pe_ix (r := rIxT K) ix_tup (pv 1) pe_int (fun _ _ => rfl)) pa_nil))) (fun _ _ => rfl)) pa_nil))))
        pss_nil)
      (pss_cons (ps_if (pt_cmpR op_eq (pe_ix (r := rIxT K) ix_tup (pv 1) pe_int (fun _ _ => rfl)) pe_str (nomark _))
        (pss_one (ps_ret (pe_meth (pv 0) ZGoing.cl M_Going_worth F_Going_worth (hr.mono (by first | decide | omega)) B_Going_worth .nil (passes_call (takes_of rfl rfl rfl rfl) (fun _ _ _ _ h => h)) (pa_cons (pe_ix (r := rIxT K) ix_tup (pv 1) (pe_op op_add pe_int (pe_callTy call_int1 (by rfl) T.b_int (by decide +kernel) (pa_cons (pe_cmpR op_le (pv 2) pe_int (nomark _)) pa_nil))) (fun _ _ => rfl)) pa_nil))))
        pss_nil)
      (pss_one (ps_ret (pe_meth (pv 0) ZGoing.cl M_Going_two F_Going_two (hr.mono (by first | decide | omega)) B_Going_two .nil (passes_call (takes_of rfl rfl rfl rfl) (fun _ _ _ _ h => h)) (pa_cons (pe_ix (r := rIxT K) ix_tup (pv 1) pe_int (fun _ _ => rfl)) (pa_cons (pv 2) (pa_cons (pe_ix (r := rIxT K) ix_tup (pv 1) pe_int (fun _ _ => rfl)) pa_nil)))))))))))), ?_⟩
    obtain ⟨dx, fs, hg, _, _, _, l4, l5, l6, _⟩ := id hS.1
    cases r with
    | num x =>
      obtain ⟨p, rfl, hp⟩ := hRc
      refine ⟨_, rfl, p, _, _, _, rfl, rfl, SqT.of hp, rfl, rfl, _, rfl, iteY rfl ?_⟩
      exact ⟨_, rfl, p, _, _, _, rfl, rfl, SqT.of hp, rfl, q1 x n H rfl (Fr2.refl g D H) hS⟩
    | read s0 =>
      obtain ⟨p, rfl, hp⟩ := hRc
      refine ⟨_, rfl, p, _, _, _, rfl, rfl, SqT.of hp, rfl, rfl, _, rfl, iteN (sne (by decide +kernel)) ?_⟩
      refine ⟨_, rfl, p, _, _, _, rfl, rfl, SqT.of hp, rfl, rfl, _, rfl, iteY rfl ?_⟩
      exact ⟨_, rfl, g, dx, fs, rfl, hg, l4, _, rfl, p, _, _, _, rfl, rfl, SqT.of hp, rfl, g, R, D, s0, rd, n, rfl, hS, hn, h100, q1, q2, q3⟩
    | two k a b =>
      obtain ⟨p, x, y, rfl, hp, ha, hb⟩ := hRc
      have hd1 : a.dep ≤ j ∧ b.dep ≤ j ∧ a.dep ≤ 9 ∧ b.dep ≤ 9 := by
        have e : (Rcp.two k a b).dep = max a.dep b.dep + 1 := rfl
        omega
      refine ⟨_, rfl, p, _, _, _, rfl, rfl, SqT.of hp, rfl, rfl, _, rfl, iteN (sne (by cases k <;> decide +kernel)) ?_⟩
      refine ⟨_, rfl, p, _, _, _, rfl, rfl, SqT.of hp, rfl, rfl, _, rfl, iteN (sne (by cases k <;> decide +kernel)) ?_⟩
      refine ⟨_, rfl, g, dx, fs, rfl, hg, l5, _, rfl, p, _, _, _, rfl, rfl, SqT.of hp, rfl, g, R, D, x, a, rd, n, rfl, ha, hNb.1, hd1.1, hd1.2.2.1, hS, hn, h100, hsm, ?_⟩
      refine ⟨fun vx m H1 h1 f1 S1 => ?_, fun t H1 h1 f1 O1 => ⟨_, rfl, rfl, _, rfl, iteY rfl (q2 t H1 (by show Res.bind _ _ = _; rw [h1]; rfl) f1 O1)⟩, fun H1 h1 f1 => q3 H1 (by show Res.bind _ _ = _; rw [h1]; rfl) f1⟩
      obtain ⟨_, hm, e1, e10, e11, e12⟩ := go_small hsm hNb.1 hd1.2.2.1 hn h1
      have k1 := hS.keep f1
      have hp1 := k1 _ _ hp
      obtain ⟨dx1, fs1, hg1, _, _, _, l41, l51, l61, _⟩ := id S1.1
      have e0 : go rd (.two k a b) n = (go rd b m).bind fun vy l => .ok (k.ap vx vy) l := by show Res.bind _ _ = _; rw [h1]; rfl
      rw [e0] at q1 q2 q3
      refine ⟨_, rfl, rfl, _, rfl, iteN (fun z => by cases z) ?_⟩
      refine ⟨_, rfl, p, _, _, _, rfl, rfl, SqT.of hp1, rfl, rfl, _, rfl, iteN (sne (by cases k <;> decide +kernel)) ?_⟩
      refine ⟨_, rfl, p, _, _, _, rfl, rfl, SqT.of hp1, rfl, rfl, _, rfl, iteN (sne (by cases k <;> decide +kernel)) ?_⟩
      refine ⟨_, rfl, g, dx1, fs1, rfl, hg1, l61, _, rfl, p, _, _, _, rfl, rfl, SqT.of hp1, rfl, _, rfl, _, rfl, p, _, _, _, rfl, rfl, SqT.of hp1, rfl, g, R, D, k, vx, y, b, rd, m, e1, rfl, hb.keep k1, hNb.2, hd1.2.1, hd1.2.2.2, S1, hm, h100, hsm, e10, e11, e12, ?_⟩
      exact ⟨fun v m' H' h f S => q1 v m' H' h (f1.trans f) S, fun t H' h f O => q2 t H' h (f1.trans f) O, fun H' h f => q3 H' h (f1.trans f)⟩
    | pick a b c =>
      obtain ⟨p, x, y, z, rfl, hp, ha, hb, hc⟩ := hRc
      have hd1 : a.dep ≤ j ∧ b.dep ≤ j ∧ c.dep ≤ j ∧ a.dep ≤ 9 ∧ b.dep ≤ 9 ∧ c.dep ≤ 9 := by
        have e : (Rcp.pick a b c).dep = max a.dep (max b.dep c.dep) + 1 := rfl
        omega
      refine ⟨_, rfl, p, _, _, _, rfl, rfl, SqT.of hp, rfl, rfl, _, rfl, iteN (sne (by decide +kernel)) ?_⟩
      refine ⟨_, rfl, p, _, _, _, rfl, rfl, SqT.of hp, rfl, rfl, _, rfl, iteN (sne (by decide +kernel)) ?_⟩
      refine ⟨_, rfl, g, dx, fs, rfl, hg, l5, _, rfl, p, _, _, _, rfl, rfl, SqT.of hp, rfl, g, R, D, x, a, rd, n, rfl, ha, hNb.1, hd1.1, hd1.2.2.2.1, hS, hn, h100, hsm, ?_⟩
      refine ⟨fun vx m H1 h1 f1 S1 => ?_, fun t H1 h1 f1 O1 => ⟨_, rfl, rfl, _, rfl, iteY rfl (q2 t H1 (by show Res.bind _ _ = _; rw [h1]; rfl) f1 O1)⟩, fun H1 h1 f1 => q3 H1 (by show Res.bind _ _ = _; rw [h1]; rfl) f1⟩
      obtain ⟨_, hm, _⟩ := go_small hsm hNb.1 hd1.2.2.2.1 hn h1
      have k1 := hS.keep f1
      have hp1 := k1 _ _ hp
      obtain ⟨dx1, fs1, hg1, _, _, _, l41, l51, l61, _⟩ := id S1.1
      have e0 : go rd (.pick a b c) n = if vx > 0 then go rd b m else go rd c m := by show Res.bind _ _ = _; rw [h1]; rfl
      rw [e0] at q1 q2 q3
      refine ⟨_, rfl, rfl, _, rfl, iteN (fun z => by cases z) ?_⟩
      refine ⟨_, rfl, p, _, _, _, rfl, rfl, SqT.of hp1, rfl, rfl, _, rfl, iteN (sne (by decide +kernel)) ?_⟩
      refine ⟨_, rfl, p, _, _, _, rfl, rfl, SqT.of hp1, rfl, rfl, _, rfl, iteY rfl ?_⟩
      by_cases c0 : vx > 0
      · rw [if_pos c0] at q1 q2 q3
        refine ⟨_, rfl, g, dx1, fs1, rfl, hg1, l51, _, rfl, _, rfl, _, _, rfl, rfl, .inr ⟨_, rfl, _, _, rfl, rfl, p, _, _, y, rfl, rfl, SqT.of hp1, ?_, g, R, D, y, b, rd, m, rfl, hb.keep k1, hNb.2.1, hd1.2.1, hd1.2.2.2.2.1, S1, hm, h100, hsm, ?_⟩⟩
        · show atI [.str "pick", x, y, z] (2 + (if decide (vx ≤ 0) = true then 1 else 0)) = _
          rw [if_neg (fun z => by have := of_decide_eq_true z; omega)]
          rfl
        · exact ⟨fun v m' H' h f S => q1 v m' H' h (f1.trans f) S, fun t H' h f O => q2 t H' h (f1.trans f) O, fun H' h f => q3 H' h (f1.trans f)⟩
      · rw [if_neg c0] at q1 q2 q3
        refine ⟨_, rfl, g, dx1, fs1, rfl, hg1, l51, _, rfl, _, rfl, _, _, rfl, rfl, .inr ⟨_, rfl, _, _, rfl, rfl, p, _, _, z, rfl, rfl, SqT.of hp1, ?_, g, R, D, z, c, rd, m, rfl, hc.keep k1, hNb.2.2, hd1.2.2.1, hd1.2.2.2.2.2, S1, hm, h100, hsm, ?_⟩⟩
        · show atI [.str "pick", x, y, z] (2 + (if decide (vx ≤ 0) = true then 1 else 0)) = _
          rw [if_pos (decide_eq_true (by omega))]
          rfl
        · exact ⟨fun v m' H' h f S => q1 v m' H' h (f1.trans f) S, fun t H' h f O => q2 t H' h (f1.trans f) O, fun H' h f => q3 H' h (f1.trans f)⟩
    | choose a ns =>
      obtain ⟨p, x, t2, rfl, hp, ha, ht2⟩ := hRc
      have hd1 : a.dep ≤ j ∧ a.dep ≤ 9 := by
        have e : (Rcp.choose a ns).dep = a.dep + 1 := rfl
        omega
      refine ⟨_, rfl, p, _, _, _, rfl, rfl, SqT.of hp, rfl, rfl, _, rfl, iteN (sne (by decide +kernel)) ?_⟩
      refine ⟨_, rfl, p, _, _, _, rfl, rfl, SqT.of hp, rfl, rfl, _, rfl, iteN (sne (by decide +kernel)) ?_⟩
      refine ⟨_, rfl, g, dx, fs, rfl, hg, l5, _, rfl, p, _, _, _, rfl, rfl, SqT.of hp, rfl, g, R, D, x, a, rd, n, rfl, ha, hNb.1, hd1.1, hd1.2, hS, hn, h100, hsm, ?_⟩
      refine ⟨fun vx m H1 h1 f1 S1 => ?_, fun t H1 h1 f1 O1 => ⟨_, rfl, rfl, _, rfl, iteY rfl (q2 t H1 (by show Res.bind _ _ = _; rw [h1]; rfl) f1 O1)⟩, fun H1 h1 f1 => q3 H1 (by show Res.bind _ _ = _; rw [h1]; rfl) f1⟩
      obtain ⟨_, hm, _⟩ := go_small hsm hNb.1 hd1.2 hn h1
      have k1 := hS.keep f1
      have hp1 := k1 _ _ hp
      have ht21 := k1 _ _ ht2
      obtain ⟨dx1, fs1, hg1, _, _, _, l41, l51, l61, _⟩ := id S1.1
      have e0 : go rd (.choose a ns) n = lookG rd m (nthN ns vx) := by show Res.bind _ _ = _; rw [h1]; rfl
      rw [e0] at q1 q2 q3
      obtain ⟨i, hi, hi2⟩ := nth_mem hNb.2.1 vx
      have hi3 := (List.getElem?_eq_some_iff.mp hi2).1
      refine ⟨_, rfl, rfl, _, rfl, iteN (fun z => by cases z) ?_⟩
      refine ⟨_, rfl, p, _, _, _, rfl, rfl, SqT.of hp1, rfl, rfl, _, rfl, iteY rfl ?_⟩
      refine ⟨_, rfl, g, dx1, fs1, rfl, hg1, l41, _, rfl, p, _, _, _, rfl, rfl, SqT.of hp1, rfl, _, rfl, _, rfl, p, _, _, _, rfl, rfl, SqT.of hp1, rfl, t2, _, rfl, .inr (SqT.of ht21), _, _, rfl, rfl, ?_, t2, _, _, .str (SX.S (nthN ns vx)), rfl, rfl, SqT.of ht21, ?_, g, R, D, nthN ns vx, rd, m, rfl, S1, hm, h100, ?_⟩
      · show (0 : Int) < ((txs ns).length : Nat)
        rw [txs_len]
        have := hNb.2.1
        omega
      · show atI (txs ns) (vx % (((txs ns).length : Nat) : Int)) = _
        rw [txs_len, hi]
        refine atI_nat ?_
        rw [txs_get hi3, Option.some.inj ((List.getElem?_eq_getElem hi3).symm.trans hi2)]
      · exact ⟨fun v m' H' h f S => q1 v m' H' h (f1.trans f) S, fun t H' h f O => q2 t H' h (f1.trans f) O, fun H' h f => q3 H' h (f1.trans f)⟩
end
/-! ### behind -/
def spBhd (CN : Addr) : Sp := fun vs H Q E => ∃ (v : V) (R : Addr) (r : Rcp) (rd : List Pr) (xs : List V), vs = [v, .ref R] ∧ Rec H r v ∧ r.Nb ∧ r.dep ≤ 9 ∧ H R = some (.lst xs) ∧ Prs H rd xs ∧ rd.length ≤ 1000000 ∧ Small rd ∧ TellO Q (fun H' => E (.ref CN) none H') (outOf rd r) H
section
variable {P : Program} {w : World} {K : PySem.W.Frag} {mg : Str → Option Value} {base : Heap} {C fI CN : Addr}
abbrev s_behind : Stmt := topS 20
abbrev N_behind : List Str := ["r", "reads", "going", "worth"]
theorem sc_behind : FnScope N_behind ["r", "reads"] (defScope s_behind) := ⟨rfl, rfl, rfl, by decide +kernel, rfl, by decide +kernel, by decide +kernel⟩

theorem ok_behind (T : Txt K mg) (ZGoing : GoT K mg C fI) (XNoRead : NoX K mg "NoRead" CN) (D : IsDef K mg "behind" s_behind ["r", "reads"]) {fdI : FuncData} (F_Going___init__ : FnOk P w K mg base CX0 1 fI fdI ["self", "reads"] (spGInit C)) (B_Going___init__ : Binds K fdI ["self", "reads"] [])
    (MW : Met P w K mg base (L2.CX P w) 19 C "worth" ["self", "r"] (spGWorth C CN 9)) : Cal P w K mg base (L2.CX P w) 20 "behind" ["r", "reads"] (spBhd CN) := by
  obtain ⟨f_w, fd_w, F_Going_worth, M_Going_worth, B_Going_worth⟩ := MW
  refine D.calX2 sc_behind (fun vs H Q E h => ?_) (fun f cdv A outer s H vs Q E hr h => ?_)
  · obtain ⟨v, R, r, rd, xs, rfl, _⟩ := h
    rfl
  obtain ⟨v, R, r, rd, xs, rfl, hRc, hNb, h9, hR, hP, h100, hsm, q1, q2, q3⟩ := h
  refine ⟨_, (pss_cons (ps_set (i := 2) sc_behind.nd rfl (Or.inl rfl) (pe_make ZGoing.mkI F_Going___init__ (hr.mono (by first | decide | omega)) rfl ZGoing.g B_Going___init__ .nil pass0 (pa_cons (pv 1) pa_nil)))
      (pss_cons (ps_set (i := 3) sc_behind.nd rfl (Or.inl rfl) (pe_meth (pv 2) ZGoing.cl M_Going_worth F_Going_worth (hr.mono (by first | decide | omega)) B_Going_worth .nil (passes_call (takes_of rfl rfl rfl rfl) (fun _ _ _ _ h => h)) (pa_cons (pv 0) pa_nil)))
      (pss_cons (ps_if (pt_cmpR op_notN (pe_fld (pv 2) rfl) pe_non (nomark _))
        (pss_one (ps_ret (pe_tup (pa_cons pe_str (pa_cons (pe_fld (pv 2) rfl) pa_nil)))))
        pss_nil)
      (pss_cons (ps_if (pt_cmpR op_lt (pe_callB call_lenD (by rfl) T.b_len PySem.boot_len (pa_cons (pe_fld (pv 2) rfl) pa_nil)) (pe_callB call_len_seq (by rfl) T.b_len PySem.boot_len (pa_cons (pv 1) pa_nil)) (nomark _))
        (pss_one (ps_raise rfl (takes_of rfl rfl rfl rfl) (pmk_own PySem.F.excBase_ValueError XNoRead.x XNoRead.g XNoRead.k (raises_own XNoRead.b XNoRead.t) rfl)))
        pss_nil)
      (pss_one (ps_ret (pe_tup (pa_cons pe_str (pa_cons (pv 3) pa_nil))))))))), ?_⟩
  refine ⟨_, rfl, fun g dx ng ndx ne => ⟨g, R, dx, rfl, upd_same, fun D H1 nD hO hD hk => ⟨rfl, ?_⟩⟩⟩
  have ng0 : H g = none := ng
  have s0 : Same H (upd (upd H dx (.own g)) g (.ins C dx [])) := fun b o e => by
    rw [upd_ne (ne_of_none e ng), upd_ne (ne_of_none e ndx)]
    exact e
  have s1 : Same H H1 := fun b o e => hk b o (ne_of_none e ng) (s0 b o e)
  have nD0 : H D = none := s0.free nD
  obtain ⟨dx1, fs1, hg1, _, _, _, l4, l5, l6, _⟩ := id hO
  have fin : ∀ {H' : Hp}, Fr2 g D H1 H' → Same H H' := fun {H'} f b u e => f b u (fun z => by rw [z, ng0] at e; cases e) (fun z => by rw [z, nD0] at e; cases e) (s1 _ _ e)
  refine ⟨_, rfl, g, dx1, fs1, rfl, hg1, l5, _, rfl, g, R, D, v, r, rd, 0, rfl, hRc.same s1, hNb, h9, h9, ⟨hO, hD, xs, s1 _ _ hR, hP.same s1⟩, Nat.zero_le _, h100, hsm, ?_, ?_, ?_⟩
  · rintro x m H2 h2 f2 ⟨⟨dx2, fs2, hg2, _, l22, l32, _⟩, hD2, ys, hR2, hP2⟩
    have hml := (go_small hsm hNb h9 (Nat.zero_le _) h2).2.1
    have hln : (numsK (rd.take m)).length = m := by rw [numsK_len, List.length_take]; omega
    have hyl := hP2.len
    refine ⟨_, rfl, g, C, dx2, _, _, rfl, hg2, ZGoing.cl, ZGoing.nL, l32, rfl, _, rfl, not_true_eq (decide_eq_true rfl) ?_⟩
    refine ⟨_, rfl, g, C, dx2, _, _, rfl, hg2, ZGoing.cl, ZGoing.nH, l22, D, _, rfl, hD2, _, rfl, R, _, rfl, .inl (SqL.of hR2), _, _, rfl, rfl, _, rfl, ?_⟩
    rw [hln, hyl]
    by_cases c : m < rd.length
    · refine iteY (by omega) ?_
      exact q3 H2 ((out_ok h2).trans (if_pos c)) (fin f2)
    · refine iteN (by omega) ?_
      refine ⟨_, rfl, le_line (Nat.le_of_ble_eq_true rfl), fun t nt => ?_⟩
      exact q2 x t _ ((out_ok h2).trans (if_neg c)) ((fin f2).trans (same_new nt _)) upd_same
  · rintro s0 H2 h2 f2 ⟨dx2, fs2, hg2, _, l22, l32, _⟩
    refine ⟨_, rfl, g, C, dx2, _, _, rfl, hg2, ZGoing.cl, ZGoing.nL, l32, rfl, _, rfl, not_false_eq (decide_eq_false fun z => by cases z) ?_⟩
    refine ⟨_, rfl, g, C, dx2, _, _, rfl, hg2, ZGoing.cl, ZGoing.nL, l32, le_line (Nat.le_of_ble_eq_true rfl), fun t nt => ?_⟩
    exact q1 s0 t _ (out_lack h2) ((fin f2).trans (same_new nt _)) upd_same
  · intro H2 h2 f2
    exact q3 H2 (out_bad h2) (fin f2)
end
section
variable {X : Cx} {CX : CXT} {k : Nat} {ps : List Str} {sp : Sp} {E : L2.St → XK} {x : Str} {p pos : Pos}
theorem pe_calS {e : Expr} {es : List Expr} {t : TA} (c : Cal X.prog X.w X.K X.mg X.base CX k x ps sp) (hr : Room k X.A) (hx : ∀ σ, PassesAt CX X σ (E σ)) (ha : PA X (e :: es) t) (hg : Gl X x := by rfl)
    (hdb : (x == ("__debug__" : Str)) = false := by decide) (he : starEach (e :: es) X.env = (false, eval e X.env) :: starEach es X.env := by rfl) (hpl : (backTo pos (starEach es X.env)).any (·.1) = false := by rfl) :
    PE X (.Call (.Name x p) (e :: es) [] pos) (tCallS sp E t) := by
  obtain ⟨f, fd, F, m, kp, b⟩ := c
  exact pe_callS F hr hg m kp b hx ha hdb he hpl
end
/-! ### what is due, as data -/
theorem dp_read (K : PySem.W.Frag) {H : Hp} {t : Addr} {s : List Nat} (h : H t = some (.tup [.str "read", .str (SX.S s)])) (hs : Nm s) : Dp K H (.ref t) (.tuple [.str "read", .str (SX.S s)]) ∧ SeqAt.shaped (.tuple [.str "read", .str (SX.S s)]) = true ∧ PyData.eqv (.tuple [.str "read", .str (SX.S s)]) (.tuple [.str "read", .str (SX.S s)]) = true := by
  have h3 : (PyData.str (SX.S s)).canLay0 = true := nm_lay hs
  have h4 : (PyData.str "read").canLay0 = true := by decide +kernel
  have hc : (PyData.tuple [.str "read", .str (SX.S s)]).canLay0 = true := by
    show ((PyData.str "read").canLay0 && ((PyData.str (SX.S s)).canLay0 && true)) = true
    rw [h3, h4]
    rfl
  refine ⟨.tup (SqT.of h) (.cons (.str _) (.cons (.str _) .nil)), ?_, SeqAt.eqv_refl _ hc⟩
  show (((PyData.str "read").canLay0 && ((PyData.str (SX.S s)).canLay0 && true)) && decide (PyData.depthAll [.str "read", .str (SX.S s)] + 1 ≤ 64)) = true
  rw [h3, h4]
  rfl
theorem dp_worth (K : PySem.W.Frag) {H : Hp} {t : Addr} {x : Int} (h : H t = some (.tup [.str "worth", .int x])) : Dp K H (.ref t) (.tuple [.str "worth", .int x]) ∧ SeqAt.shaped (.tuple [.str "worth", .int x]) = true ∧ PyData.eqv (.tuple [.str "worth", .int x]) (.tuple [.str "worth", .int x]) = true := by
  have h3 : (PyData.int x).canLay0 = true := rfl
  have h4 : (PyData.str "worth").canLay0 = true := by decide +kernel
  have hc : (PyData.tuple [.str "worth", .int x]).canLay0 = true := by
    show ((PyData.str "worth").canLay0 && ((PyData.int x).canLay0 && true)) = true
    rw [h3, h4]
    rfl
  refine ⟨.tup (SqT.of h) (.cons (.str _) (.cons (.int _) .nil)), ?_, SeqAt.eqv_refl _ hc⟩
  show (((PyData.str "worth").canLay0 && ((PyData.int x).canLay0 && true)) && decide (PyData.depthAll [.str "worth", .int x] + 1 ≤ 64)) = true
  rw [h3, h4]
  rfl
theorem dp_reads (K : PySem.W.Frag) {H : Hp} {R : Addr} {rd : List Pr} {xs : List V} (h : H R = some (.lst xs)) (hP : Prs H rd xs) : Dp K H (.ref R) (.list (Th.pyL (rd.map pairTh))) :=
  Data.dp (t := .lst (rd.map pairTh)) (prs_flat _) ⟨R, _, rfl, h, hP.data⟩
theorem reads_eqv {rd : List Pr} (h : ∀ p ∈ rd, Nm p.1) : PyData.eqv (.list (Th.pyL (rd.map pairTh))) (.list (Th.pyL (rd.map pairTh))) = true := by
  obtain ⟨h1, _⟩ := prs_lay h
  exact SeqAt.eqv_refl _ h1
theorem out_nm {rd : List Pr} {r : Rcp} {s : List Nat} (hb : r.Nb) (h : outOf rd r = .read s) : Nm s :=
  nms_ok hb s (go_name hb (Nat.zero_le _) (out_next 0 h).1).1
/-! ### true records, by recipes at hand -/
theorem good_nb : ∀ {r : Rcp}, r.Good → r.Nb
  | .num n, h => by
    have h1 : (10 : Nat) ^ 40 ≤ 2 ^ 400 := by decide +kernel
    exact Nat.lt_of_lt_of_le (show n.natAbs < 10 ^ 40 from h) h1
  | .read _, h => h
  | .two _ _ _, h => ⟨good_nb h.1, good_nb h.2⟩
  | .pick _ _ _, h => ⟨good_nb h.1, good_nb h.2.1, good_nb h.2.2⟩
  | .choose _ _, h => ⟨good_nb h.1, h.2⟩
/-- a record stands at v -/
def RecAt (H : Hp) (r : Rcp) (rd : List Pr) (w : Int) (v : V) : Prop := ∃ (t L : Addr) (rv : V) (xs : List V), v = .ref t ∧ H t = some (.tup [rv, .ref L, .int w]) ∧ H L = some (.lst xs) ∧ Rec H r rv ∧ Prs H rd xs
theorem RecAt.same {H H' : Hp} {r : Rcp} {rd : List Pr} {w : Int} {v : V} (h : RecAt H r rd w v) (s : Same H H') : RecAt H' r rd w v := by
  obtain ⟨t, L, rv, xs, e, h1, h2, h3, h4⟩ := h
  exact ⟨t, L, rv, xs, e, s _ _ h1, s _ _ h2, h3.same s, h4.same s⟩
def Out.isW (o : Out) (w : Int) : Bool := match o with
  | .worth x => decide (x = w)
  | _ => false
def trueR (r : Rcp) (rd : List Pr) (w : Int) : Bool := r.th.isRcp && (outOf rd r).isW w
def spIsRead : Sp := fun vs H Q _ => ∃ (t : Addr) (s : List Nat) (n : Int), vs = [.ref t] ∧ H t = some (.tup [.str (SX.S s), .int n]) ∧ Nm s ∧ ∀ H', Same H H' → Q (.bl true) H'
def spTrueR : Sp := fun vs H Q _ => ∃ (v : V) (r : Rcp) (rd : List Pr) (w : Int), vs = [v] ∧ RecAt H r rd w v ∧ r.th.tame = true ∧ r.Nb ∧ (r.th.isRcp = true → r.dep ≤ 9) ∧ Small rd ∧ rd.length ≤ 1000000 ∧ ∀ H', Same H H' → Q (.bl (trueR r rd w)) H'
theorem read_rcp {s : List Nat} (h : Nm s) : (Rcp.read s).th.isRcp = true := Rcp.isRcp (r := .read s) h (by show 1 ≤ 8; decide) (by show 1 ≤ 100; decide)
theorem sh_worth (x : Int) : SeqAt.shaped (.tuple [.str "worth", .int x]) = true := by
  have h4 : (PyData.str "worth").canLay0 = true := by decide +kernel
  show (((PyData.str "worth").canLay0 && ((PyData.int x).canLay0 && true)) && decide (PyData.depthAll [.str "worth", .int x] + 1 ≤ 64)) = true
  rw [h4]
  rfl
section
variable {P : Program} {w : World} {K : PySem.W.Frag} {mg : Str → Option Value} {base : Heap}
abbrev s_is_read : Stmt := topS 23
abbrev N_is_read : List Str := ["thing"]
theorem sc_is_read : FnScope N_is_read ["thing"] (defScope s_is_read) := ⟨rfl, rfl, rfl, by decide +kernel, rfl, by decide +kernel, by decide +kernel⟩

theorem ok_is_readR (T : Txt K mg) (D : IsDef K mg "is_read" s_is_read ["thing"]) (C_is_recipe : Cal P w K mg base CX0 4 "is_recipe" ["thing"] spIsRecipe) (C_whole : Cal P w K mg base CX0 1 "is_whole_behind" ["thing"] spIsWhole) : Cal P w K mg base CX0 5 "is_read" ["thing"] spIsRead := by
  have C_is_whole_behind := C_whole.mono (show 1 ≤ 4 by omega)
  refine D.cal sc_is_read (fun vs H Q E h => ?_) (fun f cdv A outer s H vs Q E hr h => ?_)
  · obtain ⟨t, s0, n, rfl, _⟩ := h
    rfl
  obtain ⟨t, s0, n, rfl, ht, hs, q⟩ := h
  refine ⟨_, (pss_one (ps_ret (pe_and (pe_callB call_isi (by rfl) T.b_isinstance (by decide +kernel) (pa_cons (pv 0) (pa_cons (pe_bltn (v := .ty "tuple") (by rfl) T.b_tuple (by decide +kernel) rfl) pa_nil))) (pe_and (pe_cmpR op_eq (pe_callB call_len_seq (by rfl) T.b_len PySem.boot_len (pa_cons (pv 0) pa_nil)) pe_int (nomark _)) (pe_and (pe_cal C_is_recipe (hr.mono (by first | decide | omega)) pass0 (pa_cons (pe_tup (pa_cons pe_str (pa_cons (pe_ix (r := rIxT K) ix_tup (pv 0) pe_int (fun _ _ => rfl)) pa_nil))) pa_nil)) (pe_one (pe_cal C_is_whole_behind (hr.mono (by first | decide | omega)) pass0 (pa_cons (pe_ix (r := rIxT K) ix_tup (pv 0) pe_int (fun _ _ => rfl)) pa_nil)))))))), ?_⟩
  refine ⟨_, rfl, _, _, .type "tuple", _, true, rfl, .ty _, .base (.tup ht), kit_ty (by decide +kernel), _, rfl, iteT ?_⟩
  refine ⟨_, rfl, t, _, rfl, .inr (SqT.of ht), rfl, _, rfl, iteY rfl ?_⟩
  refine ⟨_, rfl, t, _, _, _, rfl, rfl, SqT.of ht, rfl, le_line (Nat.le_of_ble_eq_true rfl), fun u nu => ?_⟩
  have su := same_new nu (.tup [.str "read", .str (SX.S s0)])
  have hR : Rec (upd H u (.tup [.str "read", .str (SX.S s0)])) (.read s0) (.ref u) := ⟨u, rfl, upd_same⟩
  refine ⟨.ref u, (Rcp.read s0).th, rfl, hR.data, Rcp.tame (r := .read s0) hs, fun H2 s2 => ⟨_, rfl, ?_⟩⟩
  rw [read_rcp hs]
  refine iteT ?_
  have ht2 := s2 _ _ (su _ _ ht)
  refine ⟨_, rfl, t, _, _, _, rfl, rfl, SqT.of ht2, rfl, .int n, .int n, rfl, rfl, ?_⟩
  exact q _ (su.trans s2)
abbrev s_is_true_record : Stmt := topS 24
abbrev N_is_true_record : List Str := ["thing", "told", "read"]
theorem sc_is_true_record : FnScope N_is_true_record ["thing"] (defScope s_is_true_record) := ⟨rfl, rfl, rfl, by decide +kernel, rfl, by decide +kernel, by decide +kernel⟩

theorem ok_is_trueR {CN : Addr} (T : Txt K mg) (XNoRead : NoX K mg "NoRead" CN) (hm : PySem.W.exmOne K (.ref CN) (.ref CN) = some true) (D : IsDef K mg "is_true_record" s_is_true_record ["thing"]) (C_rec : Cal P w K mg base CX0 4 "is_recipe" ["thing"] spIsRecipe) (C_whole : Cal P w K mg base CX0 1 "is_whole_behind" ["thing"] spIsWhole)
    (C_read : Cal P w K mg base CX0 5 "is_read" ["thing"] spIsRead) (C_behind0 : Cal P w K mg base (L2.CX P w) 20 "behind" ["r", "reads"] (spBhd CN)) : Cal P w K mg base CX0 21 "is_true_record" ["thing"] spTrueR := by
  have C_behind := C_behind0
  have C_is_recipe := C_rec.mono (show 4 ≤ 20 by omega)
  have C_is_whole_behind := C_whole.mono (show 1 ≤ 20 by omega)
  have C_is_read := C_read.mono (show 5 ≤ 20 by omega)
  have GNoRead := XNoRead.g
  refine D.cal sc_is_true_record (fun vs H Q E h => ?_) (fun f cdv A outer s H vs Q E hr h => ?_)
  · obtain ⟨v, r, rd, w, rfl, _⟩ := h
    rfl
  obtain ⟨v, r, rd, wt, rfl, ⟨t, L, rv, xs, rfl, ht, hL, hRc, hP⟩, htm, hNb, hdp, hsm, hrl, q⟩ := h
  have hxl := hP.len
  refine ⟨_, (pss_cons (ps_if (PW.pt (pw_or (pt_not (pt_val (pe_callB call_isi (by rfl) T.b_isinstance (by decide +kernel) (pa_cons (pv 0) (pa_cons (pe_bltn (v := .ty "tuple") (by rfl) T.b_tuple (by decide +kernel) rfl) pa_nil))))) (pw_or (pt_cmpR op_ne (pe_callB call_len_seq (by rfl) T.b_len PySem.boot_len (pa_cons (pv 0) pa_nil)) pe_int (nomark _)) (pw_or (pt_not (pt_val (pe_cal C_is_recipe (hr.mono (by first | decide | omega)) pass0 (pa_cons (pe_ix (r := rIxT K) ix_tup (pv 0) pe_int (fun _ _ => rfl)) pa_nil)))) (pw_or1 (pt_not (pt_val (pe_cal C_is_whole_behind (hr.mono (by first | decide | omega)) pass0 (pa_cons (pe_ix (r := rIxT K) ix_tup (pv 0) pe_int (fun _ _ => rfl)) pa_nil)))))))))
        (pss_one (ps_ret pe_bl))
        pss_nil)
      (pss_cons (ps_if (PW.pt (pw_or (pt_not (pt_val (pe_callB call_isi (by rfl) T.b_isinstance (by decide +kernel) (pa_cons (pe_ix (r := rIxT K) ix_tup (pv 0) pe_int (fun _ _ => rfl)) (pa_cons (pe_bltn (v := .ty "list") (by rfl) T.b_list (by decide +kernel) rfl) pa_nil))))) (pw_or1 (pt_cmpR (op_neD hr.units) (pe_lc (own := [("read", 2)]) (g := gName 2)  (by rfl) sc_is_true_record.nd  (pi_list (pe_ix (r := rIxT K) ix_tup (pv 0) pe_int (fun _ _ => rfl))) (blkOk_by (own := [("read", 2)]) (N := N_is_true_record) (sc := defScope s_is_true_record) (by decide +kernel)) (fun _ _ _ _ _ => (pg_name (i := 2) sc_is_true_record.nd rfl (Or.inl rfl))) (fun _ _ _ _ _ => (pts_one (pt_not (pt_val (pe_cal C_is_read (hr.mono (by first | decide | omega)) pass0 (pa_cons (pv 2) pa_nil)))))) (fun _ _ _ _ _ => (pv 2))) (pe_lst pa_nil) (nomark _)))))
        (pss_one (ps_ret pe_bl))
        pss_nil)
      (pss_cons (ps_try_only rfl rfl ⟨rfl, by decide, .inl GNoRead⟩ L2.takes0 (fun W pn xe tk _ => (pss_one (ps_set (i := 1) sc_is_true_record.nd rfl (Or.inl rfl) (pe_calS C_behind (hr.mono (by first | decide | omega)) (fun σ => passAt tk σ) (pa_cons (pe_ix (r := rIxT K) ix_tup (pv 0) pe_int (fun _ _ => rfl)) (pa_cons (pe_ix (r := rIxT K) ix_tup (pv 0) pe_int (fun _ _ => rfl)) pa_nil))))))
        (fun a oe cls d pn _ _ => (pss_one (ps_set (i := 1) sc_is_true_record.nd rfl (Or.inl rfl) (pe_tup (pa_cons pe_str pa_nil))))))
      (pss_one (ps_ret (pe_cmpR (op_eqD hr.units) (pv 1) (pe_tup (pa_cons pe_str (pa_cons (pe_ix (r := rIxT K) ix_tup (pv 0) pe_int (fun _ _ => rfl)) pa_nil))) (nomark _))))))), ?_⟩
  refine ⟨_, rfl, _, _, .type "tuple", _, true, rfl, .ty _, .base (.tup ht), kit_ty (by decide +kernel), _, rfl, not_true_eq rfl ?_⟩
  refine ⟨_, rfl, t, _, rfl, .inr (SqT.of ht), rfl, _, rfl, not_true_eq (decide_eq_true rfl) ?_⟩
  refine ⟨_, rfl, t, _, _, _, rfl, rfl, SqT.of ht, rfl, rv, r.th, rfl, hRc.data, htm, fun H1 s1 => ⟨_, rfl, ?_⟩⟩
  unfold trueR at q
  cases hrc : r.th.isRcp with
  | false =>
    rw [hrc] at q
    exact not_false_eq rfl (q _ s1)
  | true =>
    rw [hrc] at q
    refine not_true_eq rfl ?_
    have ht1 := s1 _ _ ht
    have hL1 := s1 _ _ hL
    refine ⟨_, rfl, t, _, _, _, rfl, rfl, SqT.of ht1, rfl, .int wt, .int wt, rfl, rfl, ⟨_, rfl, not_true_eq rfl ?_⟩⟩
    refine ⟨_, rfl, t, _, _, _, rfl, rfl, SqT.of ht1, rfl, _, _, .type "list", _, true, rfl, .ty _, .base (.lst hL1), kit_ty (by decide +kernel), _, rfl, not_true_eq rfl ?_⟩
    refine ⟨_, rfl, t, _, _, _, rfl, rfl, SqT.of ht1, rfl, L, rfl, ⟨_, SqL.of hL1⟩, fun M nM => lc_list (K := K) (xs := xs) (fun i G => Same H1 G ∧ G M = some (.lst [])) ⟨same_new nM _, upd_same⟩ (fun i G _ h => SqL.of (h.1 _ _ hL1)) (fun i x G hx h => ?_) (fun G h => ?_)⟩
    · obtain ⟨p, u, hp1, rfl, hu⟩ := hP.at hx
      have hu1 := h.1 _ _ (s1 _ _ hu)
      exact ⟨rfl, _, rfl, u, p.1, p.2, rfl, hu1, (hsm p (List.mem_of_getElem? hp1)).1, fun G2 s2 => ⟨_, rfl, not_true_eq rfl ⟨h.1.trans s2, s2 _ _ h.2⟩⟩⟩
    · obtain ⟨g1, g2⟩ := h
      refine ⟨Nat.zero_le _, fun e ne => ?_⟩
      have se := same_new ne (.lst [])
      refine ⟨.list [], .list [], .lst (SqL.of (se _ _ g2)) .nil, .lst (SqL.of upd_same) .nil, rfl, rfl, _, rfl, ?_⟩
      rw [show PyData.eqv (.list []) (.list []) = true from rfl]
      refine iteF ?_
      have sA := s1.trans (g1.trans se)
      have htA := sA _ _ ht
      have hLA := sA _ _ hL
      have hPA := hP.same sA
      refine ⟨_, rfl, t, _, _, _, rfl, rfl, SqT.of htA, rfl, _, rfl, t, _, _, _, rfl, rfl, SqT.of htA, rfl, rv, L, r, rd, xs, rfl, hRc.same sA, hNb, hdp hrc, hLA, hPA, hrl, hsm, ?_⟩
      refine ⟨fun s0 u G2 e2 s2 hu => ?_, fun x u G2 e2 s2 hu => ?_, fun G2 e2 s2 => ?_⟩
      · have hu1 := s2 _ _ htA
        refine ⟨_, rfl, _, rfl, t, _, _, _, rfl, rfl, SqT.of hu1, rfl, le_line (Nat.le_of_ble_eq_true rfl), fun u2 nu2 => ?_⟩
        have su2 := same_new nu2 (.tup [.str "worth", .int wt])
        refine ⟨_, _, (dp_read K (su2 _ _ hu) (out_nm hNb e2)).1, (dp_worth K upd_same).1, (dp_read K (su2 _ _ hu) (out_nm hNb e2)).2.1, sh_worth _, ?_⟩
        have hq := q _ (sA.trans (s2.trans su2))
        rw [e2] at hq
        exact hq
      · have hu1 := s2 _ _ htA
        refine ⟨_, rfl, _, rfl, t, _, _, _, rfl, rfl, SqT.of hu1, rfl, le_line (Nat.le_of_ble_eq_true rfl), fun u2 nu2 => ?_⟩
        have su2 := same_new nu2 (.tup [.str "worth", .int wt])
        refine ⟨_, _, (dp_worth K (su2 _ _ hu)).1, (dp_worth K upd_same).1, (dp_worth K (su2 _ _ hu)).2.1, sh_worth _, ?_⟩
        have hq := q _ (sA.trans (s2.trans su2))
        have eb : PyData.eqv (.tuple [.str "worth", .int x]) (.tuple [.str "worth", .int wt]) = (outOf rd r).isW wt := by
          rw [e2]
          show ((("worth" : Str) == "worth") && ((x == wt) && true)) = decide (x = wt)
          rw [beq_self_eq_true, Bool.true_and, Bool.and_true]
          by_cases c : x = wt
          · rw [c, beq_self_eq_true, decide_eq_true rfl]
          · rw [beq_eq_false_iff_ne.mpr c, decide_eq_false c]
        rw [eb]
        exact hq
      · refine ⟨true, hm, fun _ a na => ?_, fun z => nomatch z⟩
        refine ⟨le_line (Nat.le_of_ble_eq_true rfl), fun u nu => ?_⟩
        have su := same_new nu (.tup [.str "none"])
        have hu1 := su _ _ (s2 _ _ htA)
        refine ⟨_, rfl, _, rfl, t, _, _, _, rfl, rfl, SqT.of hu1, rfl, le_line (Nat.le_of_ble_eq_true rfl), fun u2 nu2 => ?_⟩
        have su2 := same_new nu2 (.tup [.str "worth", .int wt])
        have hun : upd (upd G2 u (.tup [.str "none"])) u2 (.tup [.str "worth", .int wt]) u = some (.tup [.str "none"]) := su2 _ _ upd_same
        refine ⟨.tuple [.str "none"], _, .tup (SqT.of hun) (.cons (.str _) .nil), (dp_worth K upd_same).1, by decide +kernel, sh_worth _, ?_⟩
        have hq := q _ (sA.trans (s2.trans (su.trans su2)))
        rw [e2] at hq
        exact hq
end
/-! ### what the law draws -/
def pl (r m c : Int) : List V := [.int r, .int m, .int c]
def spPoolL (K : PySem.W.Frag) : Sp := fun vs H Q _ => ∃ (a : Addr) (ns : List Int) (k : Int), vs = [.ref a, .int k] ∧ SqL K H a (ns.map V.int) ∧ ns.length ≤ 63 ∧ 0 ≤ k ∧ k ≤ 1000 ∧ ∀ (p : Addr) (r m c : Int), H p = none → 0 ≤ c → c ≤ 11000 → Q (.ref p) (upd H p (.lst (pl r m c)))
def Fr1 (p : Addr) (H H' : Hp) : Prop := ∀ b u, b ≠ p → H b = some u → H' b = some u
theorem Fr1.refl (p : Addr) (H : Hp) : Fr1 p H H := fun _ _ _ e => e
theorem Fr1.trans {p : Addr} {A B C : Hp} (h : Fr1 p A B) (k : Fr1 p B C) : Fr1 p A C := fun b u n e => k b u n (h b u n e)
theorem Fr1.of {p : Addr} {A B : Hp} (h : Same A B) : Fr1 p A B := fun b u _ e => h b u e
theorem Fr1.keep {p : Addr} {A B : Hp} {xs : List V} (h : A p = some (.lst xs)) (f : Fr1 p A B) : Keep A B := fun b ys e => f b _ (fun z => by rw [z, h] at e; cases e) e
def spTakeL : Sp := fun vs H Q _ => ∃ (p : Addr) (r m c many : Int), vs = [.ref p, .int many] ∧ H p = some (.lst (pl r m c)) ∧ 0 < many ∧ many.natAbs < 2 ^ 400 ∧ 0 ≤ c ∧ c ≤ 1000000 ∧
  ∀ (H' : Hp) (v r' c' : Int), (∀ b, b ≠ p → H' b = H b) → H' p = some (.lst (pl r' m c')) → 0 ≤ c' → c' ≤ c + 1 → 0 ≤ v → v < many → Q (.int v) H'
section
variable {P : Program} {w : World} {K : PySem.W.Frag} {mg : Str → Option Value} {base : Heap}
abbrev s__law_pool : Stmt := topS 34
abbrev N__law_pool : List Str := ["script", "k", "cell"]
theorem sc__law_pool : FnScope N__law_pool ["script", "k"] (defScope s__law_pool) := ⟨rfl, rfl, rfl, by decide +kernel, rfl, by decide +kernel, by decide +kernel⟩

theorem ok__law_pool (T : Txt K mg) (D : IsDef K mg "_law_pool" s__law_pool ["script", "k"]) : Cal P w K mg base CX0 1 "_law_pool" ["script", "k"] (spPoolL K) := by
  refine D.cal sc__law_pool (fun vs H Q E h => ?_) (fun f cdv A outer s H vs Q E hr h => ?_)
  · obtain ⟨a, ns, k, rfl, _⟩ := h
    rfl
  obtain ⟨a, ns, k, rfl, hS, h63, k0, k1, q⟩ := h
  refine ⟨_, (pss_cons (ps_set (i := 2) sc__law_pool.nd rfl (Or.inl rfl) pe_int)
      (pss_cons (ps_if (pt_cmpR op_lt (pv 1) (pe_callB call_len_seq (by rfl) T.b_len PySem.boot_len (pa_cons (pv 0) pa_nil)) (nomark _))
        (pss_one (ps_set (i := 2) sc__law_pool.nd rfl (Or.inl rfl) (pe_ix (r := rIxL K) ix_list (pv 0) (pv 1) (fun _ _ => rfl))))
        pss_nil)
      (pss_cons (ps_if (pt_cmpR op_ge (pv 2) (pe_op op_pow pe_int pe_int) (nomark _))
        (pss_one (ps_ret (pe_lst (pa_cons (pe_op op_sub (pv 2) (pe_op op_pow pe_int pe_int)) (pa_cons pe_int (pa_cons pe_int pa_nil))))))
        pss_nil)
      (pss_one (ps_ret (pe_lst (pa_cons (pv 2) (pa_cons pe_int (pa_cons (pe_op op_mul pe_int (pv 1)) pa_nil))))))))), ?_⟩
  have fin : ∀ cell : Int, (∃ x, (V.int cell) = .int x) := fun c => ⟨c, rfl⟩
  refine ⟨_, rfl, _, rfl, a, _, rfl, .inl hS, _, _, rfl, rfl, _, rfl, ?_⟩
  refine ite2 (fun c => ?_) (fun c => ?_)
  · have c' : k < (((ns.map V.int).length : Nat) : Int) := of_decide_eq_true c
    rw [List.length_map] at c'
    obtain ⟨v, hv⟩ := int_at k0 c'
    refine ⟨_, rfl, _, rfl, a, _, _, _, rfl, rfl, hS, hv, ?_⟩
    refine ⟨_, rfl, _, _, rfl, rfl, ⟨by decide, by decide, by decide⟩, _, _, rfl, rfl, _, rfl, ?_⟩
    refine ite2 (fun _ => ?_) (fun _ => ?_)
    · exact ⟨_, rfl, _, _, rfl, rfl, ⟨by decide, by decide, by decide⟩, _, _, rfl, rfl, le_line (Nat.le_of_ble_eq_true rfl), fun p np => q p _ 1 0 np (by decide) (by decide)⟩
    · exact ⟨_, rfl, _, rfl, _, _, rfl, rfl, .inl ⟨by decide, by decide⟩, le_line (Nat.le_of_ble_eq_true rfl), fun p np => q p _ 0 (11 * k) np (by omega) (by omega)⟩
  · refine ⟨_, rfl, _, _, rfl, rfl, ⟨by decide, by decide, by decide⟩, _, _, rfl, rfl, _, rfl, ?_⟩
    refine ite2 (fun _ => ?_) (fun _ => ?_)
    · exact ⟨_, rfl, _, _, rfl, rfl, ⟨by decide, by decide, by decide⟩, _, _, rfl, rfl, le_line (Nat.le_of_ble_eq_true rfl), fun p np => q p _ 1 0 np (by decide) (by decide)⟩
    · exact ⟨_, rfl, _, rfl, _, _, rfl, rfl, .inl ⟨by decide, by decide⟩, le_line (Nat.le_of_ble_eq_true rfl), fun p np => q p _ 0 (11 * k) np (by omega) (by omega)⟩
abbrev s__law_take : Stmt := topS 35
abbrev N__law_take : List Str := ["pool", "many", "found", "step", "mark"]
theorem sc__law_take : FnScope N__law_take ["pool", "many"] (defScope s__law_take) := ⟨rfl, rfl, rfl, by decide +kernel, rfl, by decide +kernel, by decide +kernel⟩

theorem ok__law_take (T : Txt K mg) (D : IsDef K mg "_law_take" s__law_take ["pool", "many"]) : Cal P w K mg base CX0 1 "_law_take" ["pool", "many"] spTakeL := by
  refine D.cal sc__law_take (fun vs H Q E h => ?_) (fun f cdv A outer s H vs Q E hr h => ?_)
  · obtain ⟨p, r, m, c, many, rfl, _⟩ := h
    rfl
  obtain ⟨p, r, m, c, many, rfl, hp, m0, mb, c0, c1, q⟩ := h
  refine ⟨_, (pss_cons (ps_if (pt_cmpR op_eq (pe_ix (r := rIxL K) ix_list (pv 0) pe_int (fun _ _ => rfl)) pe_int (nomark _))
        (pss_cons (ps_set (i := 2) sc__law_take.nd rfl (Or.inl rfl) (pe_op op_mod (pe_ix (r := rIxL K) ix_list (pv 0) pe_int (fun _ _ => rfl)) (pv 1)))
      (pss_cons (ps_asg (pe_op op_fdivW (pe_ix (r := rIxL K) ix_list (pv 0) pe_int (fun _ _ => rfl)) (pv 1)) (pg_sub (pv 0) pe_int set_list))
      (pss_one (ps_ret (pv 2)))))
        pss_nil)
      (pss_cons (ps_asg (pe_op op_add (pe_ix (r := rIxL K) ix_list (pv 0) pe_int (fun _ _ => rfl)) pe_int) (pg_sub (pv 0) pe_int set_list))
      (pss_cons (ps_set (i := 3) sc__law_take.nd rfl (Or.inl rfl) (pe_ix (r := rIxL K) ix_list (pv 0) pe_int (fun _ _ => rfl)))
      (pss_cons (ps_set (i := 4) sc__law_take.nd rfl (Or.inl rfl) (pe_op op_mul (pe_op op_add (pe_op op_mod (pe_ix (r := rIxL K) ix_list (pv 0) pe_int (fun _ _ => rfl)) pe_int) pe_int) (pe_op op_add (pe_op op_mul pe_int (pv 3)) pe_int)))
      (pss_cons (ps_set (i := 4) sc__law_take.nd rfl (Or.inl rfl) (pe_op op_add (pv 4) (pe_op op_mul (pe_op op_mul pe_int (pv 3)) (pv 3))))
      (pss_cons (ps_set (i := 4) sc__law_take.nd rfl (Or.inl rfl) (pe_op op_mod (pe_op op_mul (pv 4) (pv 4)) pe_int))
      (pss_one (ps_ret (pe_op op_mod (pe_op op_fdivW (pe_op op_mod (pe_op op_mul (pv 4) (pe_op op_add (pv 4) pe_int)) pe_int) pe_int) (pv 1)))))))))), ?_⟩
  have at0 : ∀ r m c : Int, atI (pl r m c) 0 = some (.int r) := fun _ _ _ => rfl
  have at1 : ∀ r m c : Int, atI (pl r m c) 1 = some (.int m) := fun _ _ _ => rfl
  have at2 : ∀ r m c : Int, atI (pl r m c) 2 = some (.int c) := fun _ _ _ => rfl
  refine ⟨_, rfl, p, _, _, _, rfl, rfl, SqL.of hp, at1 r m c, rfl, _, rfl, ?_⟩
  refine ite2 (fun cm => ?_) (fun cm => ?_)
  · refine ⟨_, rfl, p, _, _, _, rfl, rfl, SqL.of hp, at0 r m c, _, rfl, _, _, rfl, rfl, m0, ?_⟩
    refine ⟨_, rfl, p, _, _, _, rfl, rfl, SqL.of hp, at0 r m c, _, rfl, _, _, rfl, rfl, wide_div m0 mb (by decide) (by decide), _, rfl, p, _, 0, 0, rfl, rfl, hp, rfl, ?_⟩
    exact ⟨_, rfl, q _ _ (r / many) c (fun b hb => upd_ne hb) upd_same c0 (by omega) (Int.emod_nonneg _ (by omega)) (Int.emod_lt_of_pos _ m0)⟩
  · refine ⟨_, rfl, p, _, _, _, rfl, rfl, SqL.of hp, at2 r m c, _, _, rfl, rfl, _, rfl, p, _, 2, 2, rfl, rfl, hp, rfl, ?_⟩
    have hp1 : upd H p (.lst (pl r m (c + 1))) p = some (.lst (pl r m (c + 1))) := upd_same
    refine ⟨_, rfl, p, _, _, _, rfl, rfl, SqL.of hp1, at2 r m (c + 1), ?_⟩
    refine ⟨_, rfl, p, _, _, _, rfl, rfl, SqL.of hp1, at0 r m (c + 1), _, _, rfl, rfl, (by show (0 : Int) < 9999999851; decide), _, _, rfl, rfl, _, rfl, _, _, rfl, rfl, .inl ⟨by decide, by decide⟩, _, _, rfl, rfl, _, _, rfl, rfl, ?_⟩
    have y0 : 0 ≤ r % 9999999851 := Int.emod_nonneg _ (by decide)
    have y1 : r % 9999999851 < 9999999851 := Int.emod_lt_of_pos _ (by decide)
    refine ⟨.inl ⟨by show -(2 ^ 64) < r % 9999999851 + 577; omega, by show r % 9999999851 + 577 < 2 ^ 64; omega⟩, ?_⟩
    show gName 4 (V.int ((r % 9999999851 + 577) * (5 * (c + 1) + 23))) _ _ _
    obtain ⟨M, hM, M0, M1⟩ : ∃ M, (r % 9999999851 + 577) * (5 * (c + 1) + 23) = M ∧ 0 ≤ M ∧ M ≤ 10000000428 * 5000028 := ⟨_, rfl, Int.mul_nonneg (by omega) (by omega), Int.mul_le_mul (by omega) (by omega) (by omega) (by decide)⟩
    rw [hM]
    refine ⟨_, rfl, _, rfl, _, _, rfl, rfl, .inl ⟨by decide, by decide⟩, _, rfl, _, _, rfl, rfl, .inr ⟨by show -(2 ^ 64) < c + 1; omega, by show c + 1 < 2 ^ 64; omega⟩, _, _, rfl, rfl, ?_⟩
    show gName 4 (V.int (M + 2711 * (c + 1) * (c + 1))) _ _ _
    obtain ⟨M2, hM2, N0, N1⟩ : ∃ M2, M + 2711 * (c + 1) * (c + 1) = M2 ∧ 0 ≤ M2 ∧ M2 < 2 ^ 64 := by
      have h1 : 0 ≤ 2711 * (c + 1) * (c + 1) := Int.mul_nonneg (by omega) (by omega)
      have h2 : 2711 * (c + 1) * (c + 1) ≤ 2711000000000 * 1000001 := Int.mul_le_mul (by omega) (by omega) (by omega) (by decide)
      exact ⟨_, rfl, by omega, by omega⟩
    rw [hM2]
    refine ⟨_, rfl, _, rfl, _, _, rfl, rfl, .inl ⟨by omega, N1⟩, _, _, rfl, rfl, (by show (0 : Int) < 99999999871; decide), ?_⟩
    show gName 4 (V.int (M2 * M2 % 99999999871)) _ _ _
    have z0 : 0 ≤ M2 * M2 % 99999999871 := Int.emod_nonneg _ (by decide)
    have z1 : M2 * M2 % 99999999871 < 99999999871 := Int.emod_lt_of_pos _ (by decide)
    generalize M2 * M2 % 99999999871 = M3 at z0 z1
    refine ⟨_, rfl, _, rfl, _, _, rfl, rfl, _, _, rfl, rfl, .inl ⟨by omega, by omega⟩, _, _, rfl, rfl, (by show (0 : Int) < 99999999907; decide), _, _, rfl, rfl, ⟨by decide, by decide +kernel⟩, _, rfl, _, _, rfl, rfl, m0, ?_⟩
    exact q _ _ r (c + 1) (fun b hb => upd_ne hb) upd_same (by omega) (Int.le_refl _) (Int.emod_nonneg _ (by omega)) (Int.emod_lt_of_pos _ m0)
end
/-! ### names, leaves, recipes drawn -/
def keysOf (kvs : List (Key × V)) : List Key := kvs.map (·.1)
theorem keys_put_old {kvs : List (Key × V)} {k : Key} {v : V} (h : k ∈ keysOf kvs) : keysOf (putK kvs k v) = keysOf kvs := by
  unfold putK
  rw [if_pos (by
    obtain ⟨kv, hk, e⟩ := List.mem_map.mp h
    exact List.any_eq_true.mpr ⟨kv, hk, decide_eq_true e⟩)]
  unfold keysOf
  rw [List.map_map]
  refine List.map_congr_left fun kv _ => ?_
  show (if kv.1 = k then (kv.1, v) else kv).1 = kv.1
  split <;> rfl
theorem keys_put_new {kvs : List (Key × V)} {k : Key} {v : V} (h : ¬ k ∈ keysOf kvs) : keysOf (putK kvs k v) = keysOf kvs ++ [k] := by
  unfold putK
  rw [if_neg (fun z => by
    obtain ⟨kv, hk, e⟩ := List.any_eq_true.mp z
    exact h (List.mem_map.mpr ⟨kv, hk, of_decide_eq_true e⟩))]
  unfold keysOf
  rw [List.map_append]
  rfl
theorem joinL_nil5 : ∀ l : List (List Nat), TL.joinL [] l = l.flatten
  | [] => rfl
  | [p] => by simp [TL.joinL]
  | p :: q :: r => by
    show p ++ ([] ++ TL.joinL [] (q :: r)) = _
    rw [joinL_nil5 (q :: r)]
    simp
theorem cutS_to (z : List Nat) (k : Nat) : cutS (SX.S z) none (some (k : Int)) = SX.S (z.take k) := by
  have h1 : HT.sIx (SX.S z).length 0 none = 0 := HT.sIx_none _ _
  have h2 : HT.sIx (SX.S z).length (SX.S z).length (some (k : Int)) = min k (SX.S z).length := HT.sIx_nat _ _ _
  unfold cutS
  rw [h1, h2, Nat.sub_zero, List.drop_zero, SX.S_len]
  show (⟨(z.toArray.toList.take (min k z.length)).toArray⟩ : Str) = SX.S (z.take k)
  rw [List.toList_toArray]
  by_cases c : k ≤ z.length
  · rw [Nat.min_eq_left c]
    try rfl
  · rw [Nat.min_eq_right (by omega), List.take_of_length_le (Nat.le_refl _), List.take_of_length_le (by omega)]
    try rfl
def spNamesL : Sp := fun vs H Q _ => ∃ (p : Addr) (r m c : Int), vs = [.ref p] ∧ H p = some (.lst (pl r m c)) ∧ 0 ≤ c ∧ c ≤ 900000 ∧
  ∀ (H' : Hp) (l : Addr) (ns : List (List Nat)) (r' c' : Int), Fr1 p H H' → H' l = some (.lst (txs ns)) → H l = none → 1 ≤ ns.length → ns.length ≤ 7 → (∀ s ∈ ns, Nm s) → ns.Nodup → H' p = some (.lst (pl r' m c')) → 0 ≤ c' → c' ≤ c + 100 → Q (.ref l) H'
section
variable {P : Program} {w : World} {K : PySem.W.Frag} {mg : Str → Option Value} {base : Heap}
abbrev s__law_names : Stmt := topS 36
abbrev N__law_names : List Str := ["pool", "letters", "found", "k", "wide", "word", "at"]
theorem sc__law_names : FnScope N__law_names ["pool"] (defScope s__law_names) := ⟨rfl, rfl, rfl, by decide +kernel, rfl, by decide +kernel, by decide +kernel⟩

theorem ok__law_names (T : Txt K mg) (D : IsDef K mg "_law_names" s__law_names ["pool"]) (C__law_take : Cal P w K mg base CX0 1 "_law_take" ["pool", "many"] spTakeL) : Cal P w K mg base CX0 2 "_law_names" ["pool"] spNamesL := by
  refine D.cal sc__law_names (fun vs H Q E h => ?_) (fun f cdv A outer s H vs Q E hr h => ?_)
  · obtain ⟨p, r, m, c, rfl, _⟩ := h
    rfl
  obtain ⟨p, r, m, c, rfl, hp, c0, c1, q⟩ := h
  have hu : (cxOf CX0 P w K mg base N__law_names "_law_names" (defScope s__law_names) f cdv A outer s H E).nox.A.units + 1 < cLine := Nat.lt_of_le_of_lt (Nat.add_le_add_left (by decide : 1 ≤ 64) _) hr.units
  refine ⟨_, (pss_cons (ps_set (i := 1) sc__law_names.nd rfl (Or.inr rfl) pe_str)
      (pss_cons (ps_set (i := 2) sc__law_names.nd rfl (Or.inl rfl) pe_dnewK)
      (pss_cons (ps_for PassesOwn.never rfl (pi_range1 rfl T.b_range (pa_cons pe_int pa_nil)) (pg_name (i := 3) sc__law_names.nd rfl (Or.inl rfl))
        (pss_cons (ps_set (i := 4) sc__law_names.nd rfl (Or.inr rfl) (pe_ix (r := rIxL K) ix_list (pe_lst (pa_cons pe_int (pa_cons pe_int pa_nil))) (pe_cal C__law_take (hr.mono (by first | decide | omega)) pass0 (pa_cons (pv 0) (pa_cons pe_int pa_nil))) (fun _ _ => rfl)))
      (pss_cons (ps_set (i := 5) sc__law_names.nd rfl (Or.inl rfl) (pe_join pe_str (pe_lc (own := [("at", 6)]) (g := gName 6)  (by rfl) sc__law_names.nd  (pi_range1 rfl T.b_range (pa_cons pe_int pa_nil)) (blkOk_by (own := [("at", 6)]) (N := N__law_names) (sc := defScope s__law_names) (by decide +kernel)) (fun _ _ _ _ _ => (pg_name (i := 6) sc__law_names.nd rfl (Or.inl rfl))) (fun _ _ _ _ _ => pts_nil) (fun _ _ _ _ _ => (pe_item_str (pv 1) (pe_cal C__law_take (hr.mono (by first | decide | omega)) pass0 (pa_cons (pv 0) (pa_cons (pv 4) pa_nil))) (fun _ _ => rfl))))))
      (pss_one (ps_dput hu (pv 2) (pe_slice sl_str (pv 5) po_none (po_some (pe_op op_add pe_int (pe_cal C__law_take (hr.mono (by first | decide | omega)) pass0 (pa_cons (pv 0) (pa_cons pe_int pa_nil)))))) pe_bl rfl)))))
      (pss_one (ps_ret (pe_callTy (call_listD rfl) (by rfl) T.b_list (by decide +kernel) (pa_cons (pv 2) pa_nil))))))), ?_⟩
  refine fun D nD => ?_
  have npD : p ≠ D := ne_of_none hp nD
  have big : ∀ {n : Nat}, n ≤ 30 → ((n : Int)).natAbs < 2 ^ 400 := fun {n} h => by
    have h1 : (2 : Nat) ^ 5 ≤ 2 ^ 400 := Nat.pow_le_pow_right (by decide) (by decide)
    exact Nat.lt_of_lt_of_le (show ((n : Int)).natAbs < 32 by omega) h1
  have hlen : ("abcdefghijklmnopqrstuvwxyz" : Str).length = 26 := by rw [letters_is, SX.S_len]; rfl
  have let26 : ∀ v : Int, 0 ≤ v → v < 26 → ∃ c, ("abcdefghijklmnopqrstuvwxyz" : Str).cps[v.toNat]? = some c ∧ 97 ≤ c ∧ c ≤ 122 := fun v v0 v26 => by
    have hv : v.toNat < letters.length := by show v.toNat < 26; omega
    refine ⟨letters[v.toNat], ?_, letters_ok _ (List.getElem_mem hv)⟩
    rw [letters_is]
    show letters.toArray[v.toNat]? = _
    rw [List.getElem?_toArray, List.getElem?_eq_getElem hv]
  refine ⟨7, rfl, by decide, by decide, for_range (lo := 0) (n := 7) (fun i σ H' => ∃ (v3 v4 v5 v6 : Option V) (kvs : List (Key × V)) (ns : List (List Nat)) (r' c' : Int), σ = [some (.ref p), some (.str "abcdefghijklmnopqrstuvwxyz"), some (.ref D), v3, v4, v5, v6] ∧ Fr2 p D H H' ∧ H' p = some (.lst (pl r' m c')) ∧ 0 ≤ c' ∧ c' ≤ c + 10 * i ∧ H' D = some (.dK kvs) ∧ keysOf kvs = ns.map (fun s => kT (SX.S s)) ∧ ns.length ≤ i ∧ (1 ≤ i → 1 ≤ ns.length) ∧ (∀ s ∈ ns, Nm s) ∧ ns.Nodup) ⟨none, none, none, none, [], [], r, c, rfl, Fr2.of (same_new nD _), by rw [upd_ne npD]; exact hp, c0, by omega, upd_same, rfl, Nat.le_refl _, by omega, fun _ h => (nomatch h), List.nodup_nil⟩ ?_ ?_⟩
  · rintro i σ H1 hi ⟨v3, v4, v5, v6, kvs, ns, r1, c1', rfl, f1, p1, d0, d1, hD1, hk, hnl, hn1, hnm, hnd⟩
    refine ⟨le_line (Nat.le_of_ble_eq_true rfl), fun l nl => ?_⟩
    have pl1 : p ≠ l := ne_of_none p1 nl
    have Dl1 : D ≠ l := ne_of_none hD1 nl
    refine ⟨_, rfl, p, r1, m, c1', 2, rfl, by rw [upd_ne pl1]; exact p1, by decide, big (n := 2) (by decide), d0, by omega, fun H2 w1 r2 c2 k2 p2 e0 e1 w10 w11 => ?_⟩
    have hl2 := (k2 l pl1.symm).trans upd_same
    obtain ⟨x, hx, hat⟩ := one_of (xs := ([.int 2, .int 26] : List V)) w10 w11
    obtain ⟨wd, rfl, wd0, wd26⟩ : ∃ wd : Int, x = .int wd ∧ 0 < wd ∧ wd ≤ 26 := by
      simp only [List.mem_cons, List.not_mem_nil, or_false] at hx
      rcases hx with h | h <;> exact ⟨_, h, by decide, by decide⟩
    refine ⟨l, _, w1, _, rfl, rfl, SqL.of hl2, hat, ?_⟩
    have hD2 : H2 D = some (.dK kvs) := (k2 D npD.symm).trans ((upd_ne Dl1).trans hD1)
    have f2 : Fr2 p D H1 H2 := fun b u n1 n2 e => by rw [k2 b n1]; exact same_new nl _ _ _ e
    refine ⟨⟨_, rfl⟩, 8, rfl, by decide, by decide, fun L nL => lc_range (lo := 0) (n := 8) (fun i H' => ∃ (ss : List Nat) (r' c' : Int), Fr1 p H2 H' ∧ H' p = some (.lst (pl r' m c')) ∧ 0 ≤ c' ∧ c' ≤ c2 + i ∧ H' L = some (.lst (txs (ones ss))) ∧ ss.length = i ∧ ∀ c ∈ ss, 97 ≤ c ∧ c ≤ 122)
      ⟨[], r2, c2, Fr1.of (same_new nL _), by rw [upd_ne (ne_of_none p2 nL)]; exact p2, e0, by omega, upd_same, rfl, fun _ h => (nomatch h)⟩ ?_ ?_⟩
    · rintro j H3 hj ⟨ss, r3, c3, f3, p3, g0, g1, hL3, hn, hc⟩
      have nLp : L ≠ p := (ne_of_none p2 nL).symm
      refine ⟨rfl, _, rfl, _, rfl, _, rfl, p, r3, m, c3, wd, rfl, p3, wd0, ?_, g0, by omega, fun H4 v r4 c4 k4 p4 i0 i1 v0 v26 => ?_⟩
      · have := big (n := wd.toNat) (by omega)
        rw [show ((wd.toNat : Nat) : Int) = wd by omega] at this
        exact this
      obtain ⟨cc, hcc, hc1⟩ := let26 v v0 (by omega)
      refine ⟨_, v, cc, rfl, rfl, v0, by omega, by rw [hlen]; omega, hcc, _, (k4 L nLp).trans hL3, lt_line (by rw [txs_len, ones_len]; omega), ss ++ [cc], r4, c4, fun b u n e => ?_, by rw [upd_ne nLp.symm]; exact p4, i0, by omega, ?_, by rw [List.length_append, hn]; rfl, fun x hx => ?_⟩
      · have nb : b ≠ L := fun z => by rw [z, nL] at e; cases e
        rw [upd_ne nb, k4 b n]
        exact f3 b u n e
      · rw [upd_same]
        unfold ones
        rw [List.map_append, txs_app]
        rfl
      · rcases List.mem_append.mp hx with h | h
        · exact hc x h
        · rw [List.mem_singleton.mp h]
          exact hc1
    rintro H3 ⟨ss, r3, c3, f3, p3, g0, g1, hL3, hn, hc⟩
    have ee : ("" : Str) = SX.S [] := by decide +kernel
    have ej : Txt.join "" ((ones ss).map SX.S) = SX.S ss := by
      rw [ee]
      refine (SX.join_S [] (ones ss)).trans ?_
      rw [joinL_nil5, ones_flat]
    refine ⟨"", L, (ones ss).map SX.S, rfl, rfl, .inl (SqL.of hL3), ?_, ?_⟩
    · rw [ones_sum, List.length_map, ones_len, ee, SX.S_len]
      show ss.length + ss.length * 0 ≤ 16777216
      omega
    rw [ej]
    have hD3 := f3 D _ npD.symm hD2
    have n10 : ∀ b u, H b = some u → b ≠ p → b ≠ D → H3 b = some u := fun b u e n1 n2 => f3 b u n1 (f2 b u n1 n2 (f1 b u n1 n2 e))
    refine ⟨_, rfl, _, rfl, _, rfl, p, r3, m, c3, 8, rfl, p3, by decide, big (n := 8) (by decide), g0, by omega, fun H4 v r4 c4 k4 p4 i0 i1 v0 v8 => ⟨_, _, rfl, rfl, 1 + v, rfl, _, rfl, le_line (by rw [SX.S_len]; omega), ?_⟩⟩
    obtain ⟨kn, hkn, kn1, kn8⟩ : ∃ kn : Nat, 1 + v = (kn : Int) ∧ 1 ≤ kn ∧ kn ≤ 8 := ⟨(1 + v).toNat, by omega, by omega, by omega⟩
    have hcut : cutS (SX.S ss) none (some (1 + v)) = SX.S (ss.take kn) := by rw [hkn]; exact cutS_to ss kn
    have hD4 : H4 D = some (.dK kvs) := (k4 D npD.symm).trans hD3
    have hkl : kvs.length = ns.length := by have := congrArg List.length hk; rw [List.length_map] at this; unfold keysOf at this; rw [List.length_map] at this; exact this
    have hNw : Nm (ss.take kn) := ⟨by rw [List.length_take]; omega, by rw [List.length_take]; omega, fun x hx => hc x (List.mem_of_mem_take hx)⟩
    rw [hcut]
    refine ⟨D, _, rfl, DPut.k (k := kT (SX.S (ss.take kn))) hD4 (lt_line (by omega)), ?_⟩
    have fin : Fr2 p D H (upd H4 D (.dK (putK kvs (kT (SX.S (ss.take kn))) (.bl true)))) := fun b u n1 n2 e => by
      rw [upd_ne n2, k4 b n1]
      exact n10 b u e n1 n2
    by_cases hin : ss.take kn ∈ ns
    · refine ⟨_, _, _, _, _, ns, r4, c4, rfl, fin, by rw [upd_ne npD]; exact p4, i0, by omega, upd_same, ?_, by omega, fun _ => List.length_pos_of_mem hin, hnm, hnd⟩
      rw [keys_put_old (by rw [hk]; exact List.mem_map.mpr ⟨_, hin, rfl⟩)]
      exact hk
    · refine ⟨_, _, _, _, _, ns ++ [ss.take kn], r4, c4, rfl, fin, by rw [upd_ne npD]; exact p4, i0, by omega, upd_same, ?_, by rw [List.length_append]; show ns.length + 1 ≤ i + 1; omega, fun _ => by rw [List.length_append]; show 1 ≤ ns.length + 1; omega, fun s hs => ?_, ?_⟩
      · rw [keys_put_new (fun z => by
          rw [hk] at z
          obtain ⟨t, ht, e⟩ := List.mem_map.mp z
          exact hin (by rw [← kS_inj e]; exact ht)), hk, List.map_append]
        rfl
      · rcases List.mem_append.mp hs with h | h
        · exact hnm s h
        · rw [List.mem_singleton.mp h]; exact hNw
      · refine List.nodup_append.mpr ⟨hnd, by simp, fun a ha b hb e => ?_⟩
        rw [List.mem_singleton.mp hb] at e
        exact hin (by rw [← e]; exact ha)
  · rintro σ H1 ⟨v3, v4, v5, v6, kvs, ns, r1, c1', rfl, f1, p1, d0, d1, hD1, hk, hnl, hn1, hnm, hnd⟩
    refine ⟨_, rfl, D, kvs, rfl, .inl hD1, fun l nl => ?_⟩
    have ev : (kvs.map fun kv => kV kv.1) = txs ns := by
      have : (kvs.map fun kv => kV kv.1) = (keysOf kvs).map kV := by unfold keysOf; rw [List.map_map]; rfl
      rw [this, hk, List.map_map]
      unfold txs
      rw [List.map_map]
      rfl
    rw [ev]
    have s1 := same_new nl (.lst (txs ns))
    have nlH : H l = none := by
      cases e : H l with
      | none => rfl
      | some u =>
        have n1 : l ≠ p := fun z => by rw [z, p1] at nl; cases nl
        have n2 : l ≠ D := fun z => by rw [z, hD1] at nl; cases nl
        rw [f1 l u n1 n2 e] at nl
        cases nl
    exact q _ l ns r1 c1' (fun b u n1 e => s1 _ _ (f1 b u n1 (fun z => by rw [z, nD] at e; cases e) e)) upd_same nlH (hn1 (by decide)) hnl hnm hnd (by rw [upd_ne (ne_of_none p1 nl)]; exact p1) d0 (by omega)
end
/-! #### a build from a store tells what the reckoner tells -/
open LamX NdefX
structure HouseS (dm : Nat) (h : House) : Prop where
  ok : HouseOk dm h bet0
  rc : ∀ p ∈ h.recs, p.2.th.isRcp = true ∧ p.2.Nb ∧ p.2.dep ≤ 8
  sm : ∀ t v, Val h t v → v.natAbs < 2 ^ 400
  nd : (h.given.map (·.1) ++ h.recs.map (·.1)).Nodup
  few : h.given.length + h.recs.length ≤ 1000
structure StOk (h : House) (s : StS) : Prop where
  rk : RkOk h bet0 s.rk
  coh : Coh h s.rk
  rows : ∀ p ∈ s.book, rcpOf h.recs p.1 = some p.2.2.1 ∧ seen s.known p.1 = some p.2.2.2
  good : ∀ o ∈ s.held, GoodRow o
  gn : ∀ g ∈ s.going, seen h.given g = none
open Classical in
noncomputable def stF : List Row × List (List Nat) × List (List Nat) → Old → List Row × List (List Nat) × List (List Nat)
  | a, [] => a
  | (l, m, k), (t, o) :: b => if o ∈ l then stF (l, m, k ++ [t]) b else stF (l ++ [o], m ++ [t], k) b
open Classical in
theorem stF_app (b c : Old) : ∀ a, stF a (b ++ c) = stF (stF a b) c := by
  induction b with
  | nil => intro a; rfl
  | cons p b ih =>
    intro a
    obtain ⟨l, m, k⟩ := a
    obtain ⟨t, o⟩ := p
    show (if o ∈ l then stF (l, m, k ++ [t]) (b ++ c) else stF (l ++ [o], m ++ [t], k) (b ++ c)) = stF (if o ∈ l then stF (l, m, k ++ [t]) b else stF (l ++ [o], m ++ [t], k) b) c
    by_cases h : o ∈ l
    · rw [if_pos h, if_pos h, ih]
    · rw [if_neg h, if_neg h, ih]
def nms (o : List Pr) : List (List Nat) := o.map (·.1)
structure After (s s' : StS) : Prop where
  pre : ∃ l, s'.held = s.held ++ l
  fold : ∃ nb, s'.book = s.book ++ nb ∧ stF (s.held, s.made, s.kept) nb = (s'.held, s'.made, s'.kept)
theorem After.refl (s : StS) : After s s := ⟨⟨[], (List.append_nil _).symm⟩, [], (List.append_nil _).symm, rfl⟩
theorem After.trans {a b c : StS} (h : After a b) (k : After b c) : After a c := by
  obtain ⟨l, e1⟩ := h.pre
  obtain ⟨l2, e2⟩ := k.pre
  obtain ⟨n1, e3, e4⟩ := h.fold
  obtain ⟨n2, e5, e6⟩ := k.fold
  exact ⟨⟨l ++ l2, by rw [e2, e1, List.append_assoc]⟩, n1 ++ n2, by rw [e5, e3, List.append_assoc], by rw [stF_app, e4, e6]⟩
theorem After.sub {a b : StS} (h : After a b) {o : Row} (ho : o ∈ a.held) : o ∈ b.held := by
  obtain ⟨l, e⟩ := h.pre
  rw [e]
  exact List.mem_append_left _ ho
section
variable {dm : Nat} {h : House}
theorem StOk.disj {s : StS} (S : StOk h s) {g : List Nat} (hg : g ∈ s.going) : seen s.known g = none := by
  cases e : seen s.known g with
  | none => rfl
  | some v =>
    have hk : g ∈ s.rk.known.map (·.1) := seen_key e
    rcases S.coh.kr g hk with z | z
    · exact absurd z (seen_none (S.gn g hg))
    · exact absurd rfl ((List.nodup_append.mp S.rk.nd).2.2 g hg g z)
theorem StOk.seen_val {s : StS} (S : StOk h s) {u : List Nat} {v : Int} (e : seen s.known u = some v) : Val h u v := S.coh.kn _ (seen_mem e)
theorem StOk.known {s : StS} (S : StOk h s) {u : List Nat} {v : Int} (hv : Val h u v) (hu : u ∈ s.known.map (·.1)) : seen s.known u = some v := by
  cases e : seen s.known u with
  | none => exact absurd hu (seen_none e)
  | some x => rw [show x = v from (S.seen_val e).det hv]
theorem lkR_pos (h : House) (n : Nat) (s : RkS) {u : List Nat} {v : Int} (e : seen s.known u = some v) : lkR h (n + 1) s u = .ok v s := by
  unfold lkR
  rw [e]
theorem lkk (HH : HouseN dm h bet0) (n : Nat) (G : List (List Nat)) : LkK (lkR h (n + 1)) fun k => RkOk h bet0 k ∧ Coh h k ∧ k.asked = G := by
  refine ⟨fun _ e => lkR_pos h n _ e, fun {s u v s'} hj hu e => ?_⟩
  obtain ⟨o, c, ga⟩ := hj
  have st := lkR_step HH (n + 1) s u v s' o hu e
  obtain ⟨_, c'⟩ := lkR_sound (n + 1) s u v s' c e
  have see : ∀ w x, Val h w x → w ∈ s'.known.map (·.1) → seen s'.known w = some x := fun w x hv hw => by
    cases e : seen s'.known w with
    | none => exact absurd hw (seen_none e)
    | some y => rw [show y = x from (c'.kn _ (seen_mem e)).det hv]
  exact ⟨⟨st.ok, c', st.asked.trans ga⟩, fun w x ex => see w x (c.kn _ (seen_mem ex)) (st.mono w (seen_key ex)), see u v st.worth st.got⟩
/-- what one look brings -/
structure Looked (h : House) (s : StS) (t : List Nat) (v : Int) (s' : StS) : Prop where
  ok : StOk h s'
  aft : After s s'
  going : s'.going = s.going
  mono : ∀ u x, seen s.known u = some x → seen s'.known u = some x
  got : seen s'.known t = some v
  fresh : ∀ o ∈ s'.held, o ∈ s.held ∨ (∀ g ∈ s.going, ¬ g ∈ nms o.1) ∧ ¬ t ∈ nms o.1
structure OwnS (h : House) (s : StS) (r : Rcp) (own : List Pr) : Prop where
  part : Part own r
  nd : (own.map (·.1)).Nodup
  kn : ∀ p ∈ own, seen s.known p.1 = some p.2
  nm : ∀ p ∈ own, Nm p.1
  sub : ∀ p ∈ own, p.1 ∈ r.nms
  cut : ∀ j p, own[j]? = some p → outOf (own.take j) r = .read p.1
theorem OwnS.nil (h : House) (s : StS) (r : Rcp) : OwnS h s r [] := ⟨Part.nil r, List.nodup_nil, (fun _ h => nomatch h), (fun _ h => nomatch h), (fun _ h => nomatch h), fun j p e => by simp at e⟩
theorem OwnS.len {s : StS} {r : Rcp} {own : List Pr} (O : OwnS h s r own) : own.length ≤ r.nms.length := by
  have := sub_lenR O.nd fun u hu => (by obtain ⟨p, hp, rfl⟩ := List.mem_map.mp hu; exact O.sub p hp : u ∈ r.nms)
  rwa [List.length_map] at this
theorem OwnS.mono {s s' : StS} {r : Rcp} {own : List Pr} (O : OwnS h s r own) (mo : ∀ u x, seen s.known u = some x → seen s'.known u = some x) : OwnS h s' r own := ⟨O.part, O.nd, fun p hp => mo _ _ (O.kn p hp), O.nm, O.sub, O.cut⟩
theorem OwnS.next {s s' : StS} {r : Rcp} {own : List Pr} {u : List Nat} {v : Int} (O : OwnS h s r own) (wn : r.Wn) (nb : r.Nb) (e : go own r 0 = .lack u) (mo : ∀ u x, seen s.known u = some x → seen s'.known u = some x) (g : seen s'.known u = some v) : OwnS h s' r (own ++ [(u, v)]) := by
  obtain ⟨e0, hu⟩ := go_lack wn (Nat.zero_le _) e
  obtain ⟨hn, _⟩ := go_name nb (Nat.zero_le _) e
  have kn' : ∀ p ∈ own ++ [(u, v)], seen s'.known p.1 = some p.2 := fun p hp => by
    rcases List.mem_append.mp hp with hp | hp
    · exact mo _ _ (O.kn p hp)
    · rw [List.mem_singleton.mp hp]; exact g
  refine ⟨Part.next v e, ?_, kn', fun p hp => ?_, fun p hp => ?_, fun j p hj => ?_⟩
  · rw [List.map_append]
    exact List.nodup_append.mpr ⟨O.nd, List.nodup_cons.mpr ⟨(fun z => nomatch z), List.nodup_nil⟩, fun a ha b hb e2 => seen_none e0 (by have hb' : b = u := List.mem_singleton.mp hb; rw [← hb', ← e2]; exact ha)⟩
  · rcases List.mem_append.mp hp with hp | hp
    · exact O.nm p hp
    · rw [List.mem_singleton.mp hp]; exact hu
  · rcases List.mem_append.mp hp with hp | hp
    · exact O.sub p hp
    · rw [List.mem_singleton.mp hp]; exact hn
  · by_cases c : j < own.length
    · rw [List.getElem?_append_left c] at hj
      rw [List.take_append_of_le_length (Nat.le_of_lt c)]
      exact O.cut j p hj
    · have hl := (List.getElem?_eq_some_iff.mp hj).1
      rw [List.length_append] at hl
      have hl : j < own.length + 1 := hl
      obtain rfl : j = own.length := by omega
      rw [List.getElem?_append_right (Nat.le_refl _), Nat.sub_self] at hj
      cases hj
      rw [List.take_append_of_le_length (Nat.le_refl _), List.take_length]
      unfold outOf
      rw [e]
structure Worked (h : House) (r : Rcp) (s : StS) (own : List Pr) (v : Int) (s' : StS) (own' : List Pr) : Prop where
  ok : StOk h s'
  aft : After s s'
  going : s'.going = s.going
  mono : ∀ u x, seen s.known u = some x → seen s'.known u = some x
  ow : OwnS h s' r own'
  ext : ∃ l, own' = own ++ l
  out : outOf own' r = .worth v
  fresh : ∀ o ∈ s'.held, o ∈ s.held ∨ (∀ g ∈ s.going, ¬ g ∈ nms o.1) ∧ ∃ u ∈ nms own', ¬ u ∈ nms o.1
/-- a look's law, at n -/
def SimL (h : House) (n : Nat) : Prop := ∀ (s : StS) (t : List Nat), StOk h s → Nm t → h.recs.length + 1 ≤ s.going.length + n → match lkR h n s.rk t with
  | .ok v k => ∃ s', stR h n s t = .ok v s' ∧ s'.rk = k ∧ Looked h s t v s'
  | .err e => ∃ s', stR h n s t = .err e s' ∧ (∀ o ∈ s'.held, GoodRow o) ∧ ∃ l, s'.held = s.held ++ l
theorem work_sim (HH : HouseN dm h bet0) {n : Nat} (IH : SimL h (n + 1)) {r : Rcp} (wn : r.Wn) (nb : r.Nb) : ∀ (m : Nat) (s : StS) (own : List Pr), StOk h s → h.recs.length + 1 ≤ s.going.length + (n + 1) → OwnS h s r own → r.nms.length + 1 ≤ m + own.length → match wk (lkOwn (lkR h (n + 1))) r (s.rk, own) with
    | .ok v p => ∃ s', workE (stR h (n + 1)) r m s own = .ok v (s', p.2) ∧ s'.rk = p.1 ∧ Worked h r s own v s' p.2
    | .err e => ∃ s' own', workE (stR h (n + 1)) r m s own = .err e (s', own') ∧ (∀ o ∈ s'.held, GoodRow o) ∧ ∃ l, s'.held = s.held ++ l
  | 0, s, own, _, _, O, hm => absurd O.len (by omega)
  | m + 1, s, own, S, hn, O, hm => by
    have L := lkk HH n s.rk.asked
    have hj : RkOk h bet0 s.rk ∧ Coh h s.rk ∧ s.rk.asked = s.rk.asked := ⟨S.rk, S.coh, rfl⟩
    rcases O.part.cases with ⟨v, e, eo⟩ | ⟨u, e, eo⟩
    · rw [resume1 L hj O.nd O.kn (Nat.zero_le _) e]
      refine ⟨s, ?_, rfl, S, After.refl s, rfl, fun _ _ e => e, O, ⟨[], (List.append_nil _).symm⟩, eo, fun o ho => .inl ho⟩
      unfold workE
      rw [eo]
    · obtain ⟨e0, hu⟩ := go_lack wn (Nat.zero_le _) e
      rw [resume2 L hj O.nd O.kn wn (Nat.zero_le _) e]
      have sim := IH s u S hu hn
      unfold goOn
      cases e1 : lkR h (n + 1) s.rk u with
      | err x =>
        rw [e1] at sim
        obtain ⟨s', h1, h2, h3⟩ := sim
        refine ⟨s', own, ?_, h2, h3⟩
        unfold workE
        rw [eo]
        show (match stR h (n + 1) s u with | .ok v s' => workE (stR h (n + 1)) r m s' (own ++ [(u, v)]) | .err e s' => .err e (s', own)) = _
        rw [h1]
      | ok v k =>
        rw [e1] at sim
        obtain ⟨s', h1, rfl, LK⟩ := sim
        have O' := O.next wn nb e LK.mono LK.got
        have hw : workE (stR h (n + 1)) r (m + 1) s own = workE (stR h (n + 1)) r m s' (own ++ [(u, v)]) := by
          conv => lhs; unfold workE
          rw [eo]
          show (match stR h (n + 1) s u with | .ok v s' => workE (stR h (n + 1)) r m s' (own ++ [(u, v)]) | .err e s' => .err e (s', own)) = _
          rw [h1]
        have rec_ := work_sim HH IH wn nb m s' (own ++ [(u, v)]) LK.ok (by rw [LK.going]; exact hn) O' (by rw [List.length_append]; show _ ≤ m + (own.length + 1); omega)
        show match wk (lkOwn (lkR h (n + 1))) r (s'.rk, own ++ [(u, v)]) with | .ok v p => _ | .err e => _
        cases e2 : wk (lkOwn (lkR h (n + 1))) r (s'.rk, own ++ [(u, v)]) with
        | err x =>
          rw [e2] at rec_
          obtain ⟨s2, own2, r1, r2, r3⟩ := rec_
          obtain ⟨l1, e3⟩ := LK.aft.pre
          obtain ⟨l2, e4⟩ := r3
          exact ⟨s2, own2, hw.trans r1, r2, l1 ++ l2, by rw [e4, e3, List.append_assoc]⟩
        | ok w p =>
          rw [e2] at rec_
          obtain ⟨s2, r1, r2, W⟩ := rec_
          obtain ⟨l, el⟩ := W.ext
          refine ⟨s2, hw.trans r1, r2, W.ok, LK.aft.trans W.aft, W.going.trans LK.going, fun a b z => W.mono a b (LK.mono a b z), W.ow, ⟨(u, v) :: l, by rw [el, List.append_assoc]; rfl⟩, W.out, fun o ho => ?_⟩
          rcases W.fresh o ho with z | ⟨z1, z2⟩
          · rcases LK.fresh o z with z | ⟨z1, z2⟩
            · exact .inl z
            · exact .inr ⟨z1, u, by unfold nms; rw [el]; simp, z2⟩
          · exact .inr ⟨fun g hg => z1 g (by rw [LK.going]; exact hg), z2⟩
theorem stR_sim (HS : HouseS dm h) : ∀ n, SimL h n
  | 0 => fun s t S ht hn => by
    have := S.rk.len
    have e : s.rk.asked = s.going := rfl
    rw [e] at this
    omega
  | n + 1 => fun s t S ht hn => by
    have HH := HS.ok.n
    have whole : ∀ v k, lkR h (n + 1) s.rk t = .ok v k → RkOk h bet0 k ∧ Coh h k ∧ Val h t v ∧ (∀ u ∈ s.known.map (·.1), u ∈ k.known.map (·.1)) ∧ t ∈ k.known.map (·.1) := fun v k e => by
      have st := lkR_step HH (n + 1) s.rk t v k S.rk ht e
      exact ⟨st.ok, (lkR_sound (n + 1) s.rk t v k S.coh e).2, st.worth, st.mono, st.got⟩
    have edef : lkR h (n + 1) s.rk t = match seen s.known t with
      | some v => .ok v s.rk
      | none => match seen h.given t with
        | some v => .ok v { s.rk with known := putA s.known t v }
        | none => match rcpOf h.recs t with
          | none => .err (.noName t)
          | some r => if t ∈ s.going then .err (.ring (s.going.drop (s.going.idxOf t) ++ [t])) else
            match wk (lkOwn (lkR h n)) r ({ s.rk with asked := s.going ++ [t] }, []) with
            | .ok v p => .ok v { known := putA p.1.known t v, read := putA p.1.read t p.2, asked := p.1.asked.dropLast }
            | .err e => .err e := rfl
    have sdef : stR h (n + 1) s t = match seen s.known t with
      | some v => .ok v s
      | none => match seen h.given t with
        | some v => .ok v { s with known := putA s.known t v }
        | none => match rcpOf h.recs t with
          | none => .err (.noName t) s
          | some r => if t ∈ s.going then .err (.ring (s.going.drop (s.going.idxOf t) ++ [t])) s else
            finE t r (workE (stR h n) r (r.nms.length + 1) { s with going := s.going ++ [t] } []) := rfl
    rw [sdef]
    cases e1 : seen s.known t with
    | some v =>
      rw [e1] at edef
      rw [edef]
      exact ⟨s, rfl, rfl, S, After.refl s, rfl, fun _ _ e => e, e1, fun o ho => .inl ho⟩
    | none =>
      rw [e1] at edef
      cases e2 : seen h.given t with
      | some v =>
        rw [e2] at edef
        obtain ⟨w1, w2, w3, w4, w5⟩ := whole v _ edef
        rw [edef]
        have mo : ∀ u x, seen s.known u = some x → seen (putA s.known t v) u = some x := fun u x e => by
          rw [seen_putA, if_neg (fun z => by rw [z, e1] at e; cases e)]
          exact e
        exact ⟨_, rfl, rfl, ⟨w1, w2, fun p hp => ⟨(S.rows p hp).1, mo _ _ (S.rows p hp).2⟩, S.good, S.gn⟩, ⟨⟨[], (List.append_nil _).symm⟩, [], (List.append_nil _).symm, rfl⟩, rfl, mo, by show seen (putA s.known t v) t = some v; rw [seen_putA, if_pos rfl], fun o ho => .inl ho⟩
      | none =>
        rw [e2] at edef
        cases e3 : rcpOf h.recs t with
        | none =>
          rw [e3] at edef
          rw [edef]
          exact ⟨s, rfl, S.good, [], (List.append_nil _).symm⟩
        | some r =>
          rw [e3] at edef
          by_cases c : t ∈ s.going
          · simp only [if_pos c] at edef ⊢
            rw [edef]
            exact ⟨s, rfl, S.good, [], (List.append_nil _).symm⟩
          · simp only [if_neg c] at edef ⊢
            have hmem := rcpOf_mem e3
            obtain ⟨_, wn, _⟩ := HH.rcp _ hmem
            obtain ⟨isr, nb, dp⟩ := HS.rc _ hmem
            obtain ⟨ho1, _⟩ := S.rk.ask e3 e1 c
            have S1 : StOk h { s with going := s.going ++ [t] } := ⟨ho1, ⟨S.coh.kn, S.coh.rd, S.coh.kr⟩, S.rows, S.good, fun g hg => by
              rcases List.mem_append.mp hg with hg | hg
              · exact S.gn g hg
              · rw [List.mem_singleton.mp hg]; exact e2⟩
            have hn1 : h.recs.length + 1 ≤ (s.going ++ [t]).length + n := by rw [List.length_append]; show _ ≤ s.going.length + 1 + n; omega
            have npos : ∃ k, n = k + 1 := by
              have := S1.rk.len
              have e : StS.rk { s with going := s.going ++ [t] } = ⟨s.known, s.rk.read, s.going ++ [t]⟩ := rfl
              rw [e] at this
              have l : (s.going ++ [t]).length + s.rk.read.length ≤ h.recs.length := this
              exact ⟨n - 1, by omega⟩
            obtain ⟨k0, rfl⟩ := npos
            have WS := work_sim HH (stR_sim HS (k0 + 1)) wn nb (r.nms.length + 1) { s with going := s.going ++ [t] } [] S1 hn1 (OwnS.nil h _ r) (Nat.le_refl _)
            have ek : StS.rk { s with going := s.going ++ [t] } = { s.rk with asked := s.going ++ [t] } := rfl
            rw [ek] at WS
            cases e4 : wk (lkOwn (lkR h (k0 + 1))) r ({ s.rk with asked := s.going ++ [t] }, []) with
            | err x =>
              rw [e4] at WS edef
              rw [edef]
              obtain ⟨s', own', h1, h2, h3⟩ := WS
              rw [h1]
              exact ⟨s', rfl, h2, h3⟩
            | ok v p =>
              rw [e4] at WS edef
              obtain ⟨s', h1, h2, W⟩ := WS
              obtain ⟨w1, w2, w3, w4, w5⟩ := whole v _ edef
              rw [edef, h1]
              obtain ⟨k, own⟩ := p
              have h2 : s'.rk = k := h2
              subst h2
              have W : Worked h r { s with going := s.going ++ [t] } [] v s' own := W
              have go1 : s'.going = s.going ++ [t] := W.going
              have nt : ¬ t ∈ s'.book.map (·.1) := fun z => by
                have nd := W.ok.rk.nd
                have e : s'.rk.asked = s.going ++ [t] := go1
                rw [e] at nd
                have e9 : s'.rk.read.map (·.1) = s'.book.map (·.1) := by
                  show (s'.book.map fun p => (p.1, p.2.1)).map (·.1) = _
                  rw [List.map_map]; rfl
                exact (List.nodup_append.mp nd).2.2 t (List.mem_append_right _ (List.mem_singleton.mpr rfl)) t (by rw [e9]; exact z) rfl
              have edone : (s'.done t (own, r, v)).known = putA s'.known t v ∧ (s'.done t (own, r, v)).book = s'.book ++ [(t, (own, r, v))] ∧ (s'.done t (own, r, v)).going = s.going ∧ stF (s'.held, s'.made, s'.kept) [(t, (own, r, v))] = ((s'.done t (own, r, v)).held, (s'.done t (own, r, v)).made, (s'.done t (own, r, v)).kept) ∧ (∃ l, (s'.done t (own, r, v)).held = s'.held ++ l) ∧ ∀ o ∈ (s'.done t (own, r, v)).held, o ∈ s'.held ∨ o = (own, r, v) := by
                classical
                have dl : s'.going.dropLast = s.going := by rw [go1]; exact List.dropLast_concat
                unfold StS.done stF
                by_cases hin : (own, r, v) ∈ s'.held
                · rw [if_pos hin, if_pos hin]
                  exact ⟨rfl, putA_new _ nt, dl, rfl, ⟨[], (List.append_nil _).symm⟩, fun o ho => .inl ho⟩
                · rw [if_neg hin, if_neg hin]
                  exact ⟨rfl, putA_new _ nt, dl, rfl, ⟨_, rfl⟩, fun o ho => (List.mem_append.mp ho).imp id List.mem_singleton.mp⟩
              obtain ⟨d1, d2, d3, d4, d5, d6⟩ := edone
              have erk : (s'.done t (own, r, v)).rk = { known := putA s'.rk.known t v, read := putA s'.rk.read t own, asked := s'.rk.asked.dropLast } := by
                have a : (s'.done t (own, r, v)).going = s'.going.dropLast := by rw [d3, go1]; exact List.dropLast_concat.symm
                have b : (s'.book ++ [(t, (own, r, v))]).map (fun p : List Nat × Row => (p.1, p.2.1)) = putA (s'.book.map fun p => (p.1, p.2.1)) t own := by
                  rw [putA_new _ (by rw [List.map_map]; exact nt), List.map_append]
                  rfl
                unfold StS.rk
                rw [d1, d2, a, b]
              have mo : ∀ u x, seen s'.known u = some x → seen (s'.done t (own, r, v)).known u = some x := fun u x e => by
                rw [d1, seen_putA, if_neg (fun z => by
                  rw [z, W.ok.disj (g := t) (by rw [go1]; exact List.mem_append_right _ (List.mem_singleton.mpr rfl))] at e
                  cases e)]
                exact e
              have gr : GoodRow (own, r, v) := ⟨isr, wn, nb, dp, fun q hq => ⟨W.ow.nm q hq, HS.sm _ _ (W.ok.seen_val (W.ow.kn q hq))⟩, W.out⟩
              have S2 : StOk h (s'.done t (own, r, v)) := by
                refine ⟨by rw [erk]; exact w1, by rw [erk]; exact w2, fun q hq => ?_, fun o ho => ?_, fun g hg => ?_⟩
                · rw [d2] at hq
                  rcases List.mem_append.mp hq with hq | hq
                  · exact ⟨(W.ok.rows q hq).1, mo _ _ (W.ok.rows q hq).2⟩
                  · rw [List.mem_singleton.mp hq]
                    exact ⟨e3, by rw [d1, seen_putA, if_pos rfl]⟩
                · rcases d6 o ho with z | z
                  · exact W.ok.good o z
                  · rw [z]; exact gr
                · rw [d3] at hg
                  exact S.gn g hg
              refine ⟨_, rfl, erk, S2, ?_, d3, fun u x e => mo u x (W.mono u x e), by rw [d1, seen_putA, if_pos rfl], fun o ho => ?_⟩
              · have A1 : After s s' := ⟨W.aft.pre, W.aft.fold⟩
                exact A1.trans ⟨d5, _, d2, d4⟩
              · rcases d6 o ho with z | z
                · rcases W.fresh o z with z | ⟨z1, _⟩
                  · exact .inl z
                  · exact .inr ⟨fun g hg => z1 g (List.mem_append_left _ hg), z1 t (List.mem_append_right _ (List.mem_singleton.mpr rfl))⟩
                · have key : ∀ g ∈ s.going ++ [t], ¬ g ∈ nms o.1 := fun g hg z2 => by
                    rw [z] at z2
                    obtain ⟨q, hq, eq⟩ := List.mem_map.mp z2
                    have h1 := W.ow.kn q hq
                    rw [show q.1 = g from eq, W.ok.disj (by rw [go1]; exact hg)] at h1
                    cases h1
                  exact .inr ⟨fun g hg => key g (List.mem_append_left _ hg), key t (List.mem_append_right _ (List.mem_singleton.mpr rfl))⟩
/-- going on with what is known already -/
theorem restart {s : StS} {n : Nat} {r : Rcp} {own : List Pr} (O : OwnS h s r own) : ∀ (k m : Nat), k ≤ own.length → workE (stR h (n + 1)) r (m + k) s (own.take (own.length - k)) = workE (stR h (n + 1)) r m s own
  | 0, m, _ => by rw [Nat.sub_zero, List.take_length]; rfl
  | k + 1, m, hk => by
    have hlt : own.length - (k + 1) < own.length := by omega
    have hp := List.getElem?_eq_getElem hlt
    generalize own[own.length - (k + 1)] = p at hp
    have e1 := O.cut _ _ hp
    have e2 : stR h (n + 1) s p.1 = .ok p.2 s := by
      unfold stR
      rw [O.kn p (List.mem_of_getElem? hp)]
    have e3 : own.take (own.length - (k + 1)) ++ [(p.1, p.2)] = own.take (own.length - k) := by
      rw [show own.length - k = own.length - (k + 1) + 1 by omega, List.take_add_one, hp]
      rfl
    have e4 : workE (stR h (n + 1)) r (m + (k + 1)) s (own.take (own.length - (k + 1))) = workE (stR h (n + 1)) r (m + k) s (own.take (own.length - k)) := by
      rw [show m + (k + 1) = (m + k) + 1 from rfl]
      conv => lhs; unfold workE
      rw [e1]
      show (match stR h (n + 1) s p.1 with | .ok v s' => workE (stR h (n + 1)) r (m + k) s' (own.take (own.length - (k + 1)) ++ [(p.1, v)]) | .err e s' => .err e (s', own.take (own.length - (k + 1)))) = _
      rw [e2]
      show workE (stR h (n + 1)) r (m + k) s (own.take (own.length - (k + 1)) ++ [(p.1, p.2)]) = _
      rw [e3]
    rw [e4]
    exact restart O k m (by omega)
/-- how far a recipe's work has come -/
structure Prog (h : House) (n : Nat) (r : Rcp) (s : StS) (own : List Pr) (s1 : StS) : Prop where
  ok : StOk h s1
  aft : After s s1
  going : s1.going = s.going
  mono : ∀ u x, seen s.known u = some x → seen s1.known u = some x
  ow : OwnS h s1 r own
  len : own.length ≤ r.nms.length
  run : workE (stR h n) r (r.nms.length + 1) s [] = workE (stR h n) r (r.nms.length + 1 - own.length) s1 own
theorem Prog.start {n : Nat} {r : Rcp} {s : StS} (S : StOk h s) : Prog h n r s [] s := ⟨S, After.refl s, rfl, fun _ _ e => e, OwnS.nil h s r, Nat.zero_le _, rfl⟩
theorem Prog.fuel {n : Nat} {r : Rcp} {s s1 : StS} {own : List Pr} (P : Prog h n r s own s1) : ∃ m, r.nms.length + 1 - own.length = m + 1 := ⟨r.nms.length - own.length, by have := P.len; omega⟩
theorem Prog.step {n : Nat} {r : Rcp} {s s1 s2 : StS} {own : List Pr} {u : List Nat} {v : Int} (wn : r.Wn) (nb : r.Nb) (P : Prog h n r s own s1) (e : go own r 0 = .lack u) (el : stR h n s1 u = .ok v s2) (L : Looked h s1 u v s2) : Prog h n r s (own ++ [(u, v)]) s2 := by
  have O2 := P.ow.next wn nb e L.mono L.got
  obtain ⟨m, em⟩ := P.fuel
  refine ⟨L.ok, P.aft.trans L.aft, L.going.trans P.going, fun a b z => L.mono a b (P.mono a b z), O2, O2.len, ?_⟩
  have eo : outOf own r = .read u := by unfold outOf; rw [e]
  rw [P.run, em]
  have hl : r.nms.length + 1 - (own ++ [(u, v)]).length = m := by
    have : (own ++ [(u, v)]).length = own.length + 1 := by rw [List.length_append]; rfl
    omega
  rw [hl]
  conv => lhs; unfold workE
  rw [eo]
  show (match stR h n s1 u with | .ok v s' => workE (stR h n) r m s' (own ++ [(u, v)]) | .err e s' => .err e (s', own)) = _
  rw [el]
theorem Prog.fail {n : Nat} {r : Rcp} {s s1 s2 : StS} {own : List Pr} {u : List Nat} {x : XErr} (P : Prog h n r s own s1) (e : go own r 0 = .lack u) (el : stR h n s1 u = .err x s2) : workE (stR h n) r (r.nms.length + 1) s [] = .err x (s2, own) := by
  obtain ⟨m, em⟩ := P.fuel
  have eo : outOf own r = .read u := by unfold outOf; rw [e]
  rw [P.run, em]
  unfold workE
  rw [eo]
  show (match stR h n s1 u with | .ok v s' => workE (stR h n) r m s' (own ++ [(u, v)]) | .err e s' => .err e (s', own)) = _
  rw [el]
theorem Prog.end {n : Nat} {r : Rcp} {s s1 : StS} {own : List Pr} {v : Int} (P : Prog h n r s own s1) (eo : outOf own r = .worth v) : workE (stR h n) r (r.nms.length + 1) s [] = .ok v (s1, own) := by
  obtain ⟨m, em⟩ := P.fuel
  rw [P.run, em]
  unfold workE
  rw [eo]
theorem Prog.again {n : Nat} {r : Rcp} {s s1 : StS} {own : List Pr} (P : Prog h (n + 1) r s own s1) : workE (stR h (n + 1)) r (r.nms.length + 1) s [] = workE (stR h (n + 1)) r (r.nms.length + 1) s1 [] := by
  rw [P.run]
  have := restart (n := n) P.ow own.length (r.nms.length + 1 - own.length) (Nat.le_refl _)
  rw [Nat.sub_self, List.take_zero] at this
  rw [← this]
  congr 1
  have := P.len
  omega
/-- what the work comes to, from where it stands -/
theorem Prog.worked {n : Nat} (HS : HouseS dm h) {r : Rcp} (wn : r.Wn) (nb : r.Nb) {s s1 s' : StS} {own own' : List Pr} {v : Int} (P : Prog h (n + 1) r s own s1) (hn : h.recs.length + 1 ≤ s.going.length + (n + 1)) (e : workE (stR h (n + 1)) r (r.nms.length + 1) s [] = .ok v (s', own')) : Worked h r s1 own v s' own' := by
  have W := work_sim HS.ok.n (stR_sim HS (n + 1)) wn nb (r.nms.length + 1 - own.length) s1 own P.ok (by rw [P.going]; exact hn) P.ow (by have := P.len; omega)
  rw [P.run] at e
  cases e2 : wk (lkOwn (lkR h (n + 1))) r (s1.rk, own) with
  | err x =>
    rw [e2] at W
    obtain ⟨_, _, h1, _⟩ := W
    rw [h1] at e
    cases e
  | ok w p =>
    rw [e2] at W
    obtain ⟨s2, h1, _, W⟩ := W
    rw [h1] at e
    cases e
    exact W
end
/-! ### recipes with numbers of any size are recipes -/
theorem Rcp.tameW : ∀ {r : Rcp}, r.Wn → r.th.tame = true
  | .num n, _ => tame_tup (by show (tameS w_number && (true && true)) = true; decide) (Nat.le_of_ble_eq_true rfl) rfl
  | .read s, h => tame_tup (by show (tameS w_read && (tameS s && true)) = true; rw [Nm.tame h]; decide) (Nat.le_of_ble_eq_true rfl) rfl
  | .two k a b, h => by
    refine tame_tup ?_ (Nat.le_of_ble_eq_true rfl) (namesTame3 (kd_nochoose k) _ _)
    show (tameS k.word && (a.th.tame && (b.th.tame && true))) = true
    rw [Rcp.tameW h.1, Rcp.tameW h.2]
    cases k <;> decide
  | .pick a b c, h => by
    refine tame_tup ?_ (Nat.le_of_ble_eq_true rfl) (namesTame4 _ _ _ _ _)
    show (tameS w_pick && (a.th.tame && (b.th.tame && (c.th.tame && true)))) = true
    rw [Rcp.tameW h.1, Rcp.tameW h.2.1, Rcp.tameW h.2.2]
    decide
  | .choose a ns, h => by
    refine tame_tup ?_ (Nat.le_of_ble_eq_true rfl) (namesTameC _ Nms.flat (Nms.shaped h.2.2.2))
    show (tameS w_choose && (a.th.tame && ((Th.tup (nmsTh ns)).tame && true))) = true
    rw [Rcp.tameW h.1, nms_names_tame h.2]
    decide
theorem Rcp.parts_thW : ∀ {r : Rcp}, r.Wn → r.th.parts = some (r.subs.map Rcp.th)
  | .num n, _ => (num_parts _ rfl _).1 rfl
  | .read s, h => (read_parts _ (by decide) rfl _).1 (nmOk_iff.mpr h)
  | .two k a b, _ => twos_parts _ (kd_twos k) _ _
  | .pick a b c, _ => pick_parts _ rfl _ _ _
  | .choose a ns, h => (choose_parts _ rfl _ _).1 (nms_are h.2)
theorem Rcp.subs_wn : ∀ {r : Rcp}, r.Wn → ∀ x ∈ r.subs, x.Wn ∧ x.dep + 1 ≤ r.dep
  | .num n, _, x, hx => by cases hx
  | .read s, h, x, hx => by cases hx
  | .two k a b, h, x, hx => by
    have e : (Rcp.two k a b).dep = max a.dep b.dep + 1 := rfl
    simp only [Rcp.subs, List.mem_cons, List.not_mem_nil, or_false] at hx
    rcases hx with rfl | rfl
    · exact ⟨h.1, by omega⟩
    · exact ⟨h.2, by omega⟩
  | .pick a b c, h, x, hx => by
    have e : (Rcp.pick a b c).dep = max a.dep (max b.dep c.dep) + 1 := rfl
    simp only [Rcp.subs, List.mem_cons, List.not_mem_nil, or_false] at hx
    rcases hx with rfl | rfl | rfl
    · exact ⟨h.1, by omega⟩
    · exact ⟨h.2.1, by omega⟩
    · exact ⟨h.2.2, by omega⟩
  | .choose a ns, h, x, hx => by
    have e : (Rcp.choose a ns).dep = a.dep + 1 := rfl
    rw [List.mem_singleton.mp hx]
    exact ⟨h.1, by omega⟩
theorem Rcp.okayW : ∀ (n : Nat) {r : Rcp}, r.Wn → r.dep ≤ n → r.th.okay n = true ∧ r.th.count n = r.siz
  | 0, r, _, h => by have := dep_pos r; omega
  | n + 1, r, hg, h => by
    have hp := r.parts_thW hg
    have hs := r.subs_wn hg
    refine ⟨?_, ?_⟩
    · show (match r.th.parts with | none => false | some ps => ps.all (Th.okay n)) = true
      rw [hp]
      show (r.subs.map Rcp.th).all (Th.okay n) = true
      rw [List.all_map, List.all_eq_true]
      intro x hx
      exact (Rcp.okayW n (hs x hx).1 (by have := (hs x hx).2; omega)).1
    · show (match r.th.parts with | none => 1 | some ps => 1 + (ps.map (Th.count n)).sum) = r.siz
      rw [hp, Rcp.siz_subs r]
      show 1 + ((r.subs.map Rcp.th).map (Th.count n)).sum = _
      rw [List.map_map]
      congr 2
      exact List.map_congr_left fun x hx => (Rcp.okayW n (hs x hx).1 (by have := (hs x hx).2; omega)).2
theorem Rcp.isRcpW {r : Rcp} (hg : r.Wn) (hd : r.dep ≤ 8) (hs : r.siz ≤ 100) : r.th.isRcp = true := by
  unfold Th.isRcp
  rw [(Rcp.okayW 8 hg hd).1, (Rcp.okayW 8 hg hd).2, decide_eq_true hs]
  rfl
/-! ### the houses of the laws over stores: plain facts -/
open LamX NdefX
/-- a bound of the bits of what a recipe comes to (a pick's first part does not count) -/
def Rcp.bitV (f : List Nat → Nat) : Rcp → Nat
  | .num n => n.natAbs.log2 + 1
  | .read t => f t
  | .two .times x y => x.bitV f + y.bitV f
  | .two .most x y => max (x.bitV f) (y.bitV f)
  | .two _ x y => max (x.bitV f) (y.bitV f) + 1
  | .pick _ y z => max (y.bitV f) (z.bitV f)
  | .choose _ ns => maxN (ns.map f)
/-- a bound of the bits of all its parts, and of the products of what its pairs come to -/
def Rcp.bitA (f : List Nat → Nat) : Rcp → Nat
  | .num n => n.natAbs.log2 + 1
  | .read t => f t
  | .two _ x y => max (x.bitV f + y.bitV f) (max (x.bitA f) (y.bitA f))
  | .pick x y z => max (x.bitA f) (max (y.bitA f) (z.bitA f))
  | .choose x ns => max (x.bitA f) (maxN (ns.map f))
theorem bitV_pos {f : List Nat → Nat} (hf : ∀ u, 0 < f u) : ∀ {r : Rcp}, r.Wn → 0 < r.bitV f
  | .num _, _ => Nat.succ_pos _
  | .read t, _ => hf t
  | .two k x y, w => by
    have hx := bitV_pos hf w.1
    have hy := bitV_pos hf w.2
    cases k <;> simp only [Rcp.bitV] <;> omega
  | .pick x y z, w => by
    have hx := bitV_pos hf w.2.1
    simp only [Rcp.bitV]; omega
  | .choose x ns, w => by
    have hl : 1 ≤ ns.length := w.2.1
    obtain ⟨i, _, hi⟩ := nth_mem hl 0
    have := maxN_ge (List.mem_map.mpr ⟨_, List.mem_of_getElem? hi, rfl⟩ : f (nthN ns 0) ∈ ns.map f)
    have := hf (nthN ns 0)
    show 0 < maxN (ns.map f)
    omega
theorem apV {f : List Nat → Nat} {k : Kd} {x y : Rcp} {v w : Int} (hx : v.natAbs < 2 ^ x.bitV f) (hy : w.natAbs < 2 ^ y.bitV f) : (k.ap v w).natAbs < 2 ^ (Rcp.two k x y).bitV f := by
  have hx' := pow_mono hx (Nat.le_max_left _ (y.bitV f))
  have hy' := pow_mono hy (Nat.le_max_right (x.bitV f) _)
  cases k with
  | plus =>
    show (v + w).natAbs < 2 ^ (max (x.bitV f) (y.bitV f) + 1)
    rw [Nat.pow_succ]
    omega
  | minus =>
    show (v - w).natAbs < 2 ^ (max (x.bitV f) (y.bitV f) + 1)
    rw [Nat.pow_succ]
    omega
  | times =>
    show (v * w).natAbs < 2 ^ (x.bitV f + y.bitV f)
    rw [Int.natAbs_mul, Nat.pow_add]
    exact Nat.mul_lt_mul'' hx hy
  | most => exact max_small hx' hy'
theorem Rcp.Ev.smallV {F : List Nat → Int → Prop} {f : List Nat → Nat} (hf : ∀ t v, F t v → v.natAbs < 2 ^ f t) : ∀ {r : Rcp} {v : Int}, r.Wn → r.Ev F v → v.natAbs < 2 ^ r.bitV f
  | .num n, v, _, h => by
    rw [show v = n from h]
    exact Nat.lt_log2_self
  | .read t, v, _, h => hf t v h
  | .two k x y, v, w, h => by
    obtain ⟨a, c, h1, h2, rfl⟩ := h
    exact apV (h1.smallV hf w.1) (h2.smallV hf w.2)
  | .pick x y z, v, w, h => by
    obtain ⟨a, h1, h2, h3⟩ := h
    by_cases c : a > 0
    · exact pow_mono ((h2 c).smallV hf w.2.1) (by simp only [Rcp.bitV]; omega)
    · exact pow_mono ((h3 c).smallV hf w.2.2) (by simp only [Rcp.bitV]; omega)
  | .choose x ns, v, w, h => by
    obtain ⟨a, h1, h2⟩ := h
    obtain ⟨i, _, hi⟩ := nth_mem w.2.1 a
    have := maxN_ge (List.mem_map.mpr ⟨_, List.mem_of_getElem? hi, rfl⟩ : f (nthN ns a) ∈ ns.map f)
    exact pow_mono (hf _ _ h2) (by simp only [Rcp.bitV]; omega)
theorem Rcp.Fit.of_bitA {F : List Nat → Int → Prop} {f : List Nat → Nat} (hp : ∀ u, 0 < f u) (hf : ∀ t v, F t v → v.natAbs < 2 ^ f t) : ∀ {r : Rcp}, r.Wn → r.bitA f ≤ 1000000 → r.Fit F
  | .num _, _, _ => trivial
  | .read _, _, _ => trivial
  | .two k x y, w, h => by
    have h : max (x.bitV f + y.bitV f) (max (x.bitA f) (y.bitA f)) ≤ 1000000 := h
    refine ⟨Fit.of_bitA hp hf w.1 (by omega), fun a ha => ⟨Fit.of_bitA hp hf w.2 (by omega), fun c hc e => ?_⟩⟩
    subst e
    exact wide_mul (ha.smallV hf w.1) (hc.smallV hf w.2) (bitV_pos hp w.1) (bitV_pos hp w.2) (by omega)
  | .pick x y z, w, h => by
    have h : max (x.bitA f) (max (y.bitA f) (z.bitA f)) ≤ 1000000 := h
    exact ⟨Fit.of_bitA hp hf w.1 (by omega), fun a _ => ⟨fun _ => Fit.of_bitA hp hf w.2.1 (by omega), fun _ => Fit.of_bitA hp hf w.2.2 (by omega)⟩⟩
  | .choose x ns, w, h => by
    have h : max (x.bitA f) (maxN (ns.map f)) ≤ 1000000 := h
    exact Fit.of_bitA (r := x) hp hf w.1 (by omega)
structure HouseV (dm : Nat) (h : House) (f : List Nat → Nat) : Prop where
  rcp : ∀ p ∈ h.recs, Nm p.1 ∧ p.2.Wn ∧ p.2.dep ≤ dm ∧ p.2.bitV f ≤ f p.1 ∧ p.2.bitA f ≤ 1000000
  gvn : ∀ p ∈ h.given, Nm p.1 ∧ p.2.natAbs < 2 ^ f p.1
  pos : ∀ u, 0 < f u
theorem HouseV.small {dm : Nat} {h : House} {f : List Nat → Nat} (H : HouseV dm h f) : ∀ (n : Nat) {t : List Nat} {v : Int}, val h n t = some v → v.natAbs < 2 ^ f t
  | 0, t, v, e => by cases e
  | n + 1, t, v, e => by
    rw [val_succ] at e
    cases e1 : seen h.given t with
    | some x =>
      rw [e1] at e
      cases e
      exact (H.gvn _ (seen_mem e1)).2
    | none =>
      rw [e1] at e
      cases e2 : rcpOf h.recs t with
      | none => rw [e2] at e; cases e
      | some r =>
        rw [e2] at e
        cases e3 : wk (dnL (val h n)) r [] with
        | err x => simp only [e3] at e; cases e
        | ok w o =>
          simp only [e3] at e
          cases e
          obtain ⟨_, wn, _, b1, _⟩ := H.rcp _ (rcpOf_mem e2)
          exact pow_mono (((wk_ev e3).mono fun t x e => e.1).smallV (F := fun t x => val h n t = some x) (fun t v e => H.small n e) wn) b1
theorem HouseV.ok {dm : Nat} {h : House} {f : List Nat → Nat} (H : HouseV dm h f) (beta : Nat → Nat) : HouseOk dm h beta :=
  ⟨⟨fun p hp => ⟨(H.rcp p hp).1, (H.rcp p hp).2.1, (H.rcp p hp).2.2.1⟩, fun p hp => (H.gvn p hp).1⟩, fun p hp _ => Rcp.Fit.of_bitA H.pos (fun t v ⟨n, e⟩ => H.small n e) (H.rcp p hp).2.1 (H.rcp p hp).2.2.2.2⟩
/-! ### leaves -/
/-- names fine, numbers below 2 ^ 21 -/
def Rcp.Nc : Rcp → Prop
  | .num v => v.natAbs < 2 ^ 21
  | .read s => Nm s
  | .two _ a b => a.Nc ∧ b.Nc
  | .pick a b c => a.Nc ∧ b.Nc ∧ c.Nc
  | .choose a ns => a.Nc ∧ Nms ns
theorem Rcp.Nc.nb : ∀ {r : Rcp}, r.Nc → r.Nb
  | .num _, h => Nat.lt_of_lt_of_le h (by decide +kernel)
  | .read _, h => h
  | .two _ _ _, h => ⟨h.1.nb, h.2.nb⟩
  | .pick _ _ _, h => ⟨h.1.nb, h.2.1.nb, h.2.2.nb⟩
  | .choose _ _, h => ⟨h.1.nb, h.2⟩
/-- times stands over leaves alone -/
def Rcp.Tm : Rcp → Prop
  | .num _ => True
  | .read _ => True
  | .two k a b => a.Tm ∧ b.Tm ∧ (k = .times → a.dep ≤ 1 ∧ b.dep ≤ 1)
  | .pick a b c => a.Tm ∧ b.Tm ∧ c.Tm
  | .choose a _ => a.Tm
theorem tm_leaf : ∀ {x : Rcp}, x.dep ≤ 1 → x.Tm
  | .num _, _ => trivial
  | .read _, _ => trivial
  | .two _ a b, h => by have := dep_pos a; have h' : max a.dep b.dep + 1 ≤ 1 := h; omega
  | .pick a b c, h => by have := dep_pos a; have h' : max a.dep (max b.dep c.dep) + 1 ≤ 1 := h; omega
  | .choose a _, h => by have := dep_pos a; have h' : a.dep + 1 ≤ 1 := h; omega
def szt : Nat → Nat
  | 0 => 1
  | n + 1 => 3 * szt n + 1
theorem szt_pos : ∀ n, 1 ≤ szt n
  | 0 => by decide
  | n + 1 => by show 1 ≤ 3 * szt n + 1; omega
theorem txs_pl {ns : List (List Nat)} {r m c : Int} : ¬ txs ns = pl r m c := fun z => by
  cases ns with
  | nil => cases z
  | cons a l =>
    have h := (List.cons.inj (show V.str (SX.S a) :: txs l = V.int r :: [.int m, .int c] from z)).1
    cases h
def spLeafL : Sp := fun vs H Q _ => ∃ (p N : Addr) (r m c most : Int) (ns : List (List Nat)), vs = [.ref p, .ref N, .int most] ∧ H p = some (.lst (pl r m c)) ∧ H N = some (.lst (txs ns)) ∧ 1 ≤ ns.length ∧ ns.length ≤ 7 ∧ (∀ s ∈ ns, Nm s) ∧ 0 ≤ most ∧ most < 2 ^ 20 ∧ 0 ≤ c ∧ c ≤ 990000 ∧
  ∀ (H' : Hp) (v : V) (x : Rcp) (r' c' : Int), Fr1 p H H' → Rec H' x v → x.Nc → (x.dep ≤ 1 ∧ x.siz ≤ 1) → (∀ s ∈ x.nms, s ∈ ns) → H' p = some (.lst (pl r' m c')) → 0 ≤ c' → c' ≤ c + 10 → Q v H'
theorem small400 {x : Int} (h0 : -(2 ^ 100) - 8 ≤ x) (h1 : x ≤ 2 ^ 101 + 8) : x.natAbs < 2 ^ 400 := by
  have h2 : (2 : Nat) ^ 102 ≤ 2 ^ 400 := Nat.pow_le_pow_right (by decide) (by decide)
  exact Nat.lt_of_lt_of_le (show x.natAbs < 2 ^ 102 by omega) h2
section
variable {P : Program} {w : World} {K : PySem.W.Frag} {mg : Str → Option Value} {base : Heap}
theorem names_dp (K : PySem.W.Frag) {H : Hp} {N : Addr} {ns : List (List Nat)} (h : H N = some (.lst (txs ns))) : Dp K H (.ref N) (.list (Th.pyL (nmsTh ns))) := by
  have key : ∀ ns : List (List Nat), DpAll K H (txs ns) (Th.pyL (nmsTh ns)) := fun ns => by
    induction ns with
    | nil => exact .nil
    | cons a l ih => exact .cons (.str _) ih
  exact .lst (SqL.of h) (key ns)
theorem names_shaped {ns : List (List Nat)} (h : ∀ s ∈ ns, Nm s) : SeqAt.shaped (.list (Th.pyL (nmsTh ns))) = true := by
  have h2 := nms_py (ns := ns) h
  show (PyData.canLayAll0 (Th.pyL (nmsTh ns)) && decide (PyData.depthAll (Th.pyL (nmsTh ns)) + 1 ≤ 64)) = true
  rw [h2.1, decide_eq_true (by have := h2.2; omega)]
  rfl
theorem names_empty {ns : List (List Nat)} (h : 1 ≤ ns.length) : PyData.eqv (.list (Th.pyL (nmsTh ns))) (.list []) = false := by
  cases ns with
  | nil => exact absurd h (by decide)
  | cons a l => rfl
abbrev s__law_leaf : Stmt := topS 37
abbrev N__law_leaf : List Str := ["pool", "names", "most", "some", "number"]
theorem sc__law_leaf : FnScope N__law_leaf ["pool", "names", "most"] (defScope s__law_leaf) := ⟨rfl, rfl, rfl, by decide +kernel, rfl, by decide +kernel, by decide +kernel⟩

theorem ok__law_leaf (T : Txt K mg) (D : IsDef K mg "_law_leaf" s__law_leaf ["pool", "names", "most"]) (C__law_take : Cal P w K mg base CX0 1 "_law_take" ["pool", "many"] spTakeL) : Cal P w K mg base CX0 2 "_law_leaf" ["pool", "names", "most"] spLeafL := by
  refine D.cal sc__law_leaf (fun vs H Q E h => ?_) (fun f cdv A outer s H vs Q E hr h => ?_)
  · obtain ⟨p, N, r, m, c, most, ns, rfl, _⟩ := h
    rfl
  obtain ⟨p, N, r, m, c, most, ns, rfl, hp, hN, n1, n7, hnm, m0, mb, c0, c1, q⟩ := h
  refine ⟨_, (pss_cons (ps_set (i := 3) sc__law_leaf.nd rfl (Or.inl rfl) (pe_lst (pa_cons (pe_cal C__law_take (hr.mono (by first | decide | omega)) pass0 (pa_cons (pv 0) (pa_cons pe_int pa_nil))) (pa_cons (pe_op op_sub (pe_cal C__law_take (hr.mono (by first | decide | omega)) pass0 (pa_cons (pv 0) (pa_cons pe_int pa_nil))) pe_int) (pa_cons (pe_op op_sub (pe_cal C__law_take (hr.mono (by first | decide | omega)) pass0 (pa_cons (pv 0) (pa_cons (pe_op op_add (pe_op op_mul pe_int (pv 2)) pe_int) pa_nil))) (pv 2)) pa_nil)))))
      (pss_cons (ps_set (i := 4) sc__law_leaf.nd rfl (Or.inl rfl) (pe_ix (r := rIxL K) ix_list (pv 3) (pe_cal C__law_take (hr.mono (by first | decide | omega)) pass0 (pa_cons (pv 0) (pa_cons pe_int pa_nil))) (fun _ _ => rfl)))
      (pss_cons (ps_if (PW.pt (pw_or (pt_cmpR (op_eqD hr.units) (pv 1) (pe_lst pa_nil) (nomark _)) (pw_or1 (pt_cmpR op_eq (pe_cal C__law_take (hr.mono (by first | decide | omega)) pass0 (pa_cons (pv 0) (pa_cons pe_int pa_nil))) pe_int (nomark _)))))
        (pss_one (ps_ret (pe_tup (pa_cons pe_str (pa_cons (pv 4) pa_nil)))))
        pss_nil)
      (pss_one (ps_ret (pe_tup (pa_cons pe_str (pa_cons (pe_ix (r := rIxL K) ix_list (pv 1) (pe_cal C__law_take (hr.mono (by first | decide | omega)) pass0 (pa_cons (pv 0) (pa_cons (pe_callB call_len_seq (by rfl) T.b_len PySem.boot_len (pa_cons (pv 1) pa_nil)) pa_nil))) (fun _ _ => rfl)) pa_nil)))))))), ?_⟩
  have nNp : N ≠ p := fun z => by rw [z, hp] at hN; exact txs_pl (HO.lst.inj (Option.some.inj hN)).symm
  refine ⟨_, rfl, p, r, m, c, 4, rfl, hp, by decide, small400 (by decide) (by decide), c0, by omega, fun H1 v1 r1 c1' k1 p1 d0 d1 v10 v11 => ?_⟩
  refine ⟨_, rfl, p, r1, m, c1', 9, rfl, p1, by decide, small400 (by decide) (by decide), d0, by omega, fun H2 v2 r2 c2 k2 p2 e0 e1 v20 v21 => ?_⟩
  refine ⟨_, _, rfl, rfl, _, rfl, _, rfl, _, _, rfl, rfl, .inl ⟨by decide, by decide⟩, _, _, rfl, rfl, p, r2, m, c2, _, rfl, p2, by omega, small400 (by omega) (by omega), e0, by omega, fun H3 v3 r3 c3 k3 p3 f0 f1 v30 v31 => ?_⟩
  refine ⟨_, rfl, _, _, rfl, rfl, le_line (Nat.le_of_ble_eq_true rfl), fun L nL => ?_⟩
  have npL : p ≠ L := ne_of_none p3 nL
  refine ⟨_, rfl, _, rfl, p, r3, m, c3, 3, rfl, by rw [upd_ne npL]; exact p3, by decide, small400 (by decide) (by decide), f0, by omega, fun H4 v4 r4 c4 k4 p4 g0 g1 v40 v41 => ?_⟩
  have hL4 := (k4 L npL.symm).trans upd_same
  have f04 : Fr1 p H H4 := fun b u n e => by
    rw [k4 b n]
    refine same_new nL _ _ _ ?_
    rw [k3 b n, k2 b n, k1 b n]
    exact e
  obtain ⟨x, hx, hat⟩ := one_of (xs := ([.int v1, .int (v2 - 4), .int (v3 - most)] : List V)) v40 v41
  obtain ⟨num, rfl, hnum⟩ : ∃ num : Int, x = .int num ∧ num.natAbs < 2 ^ 21 := by
    simp only [List.mem_cons, List.not_mem_nil, or_false] at hx
    rcases hx with h | h | h
    · exact ⟨_, h, by omega⟩
    · exact ⟨_, h, by omega⟩
    · exact ⟨_, h, by omega⟩
  refine ⟨L, _, v4, _, rfl, rfl, SqL.of hL4, hat, ?_⟩
  have hN4 := f04 N _ nNp hN
  refine ⟨_, rfl, le_line (Nat.le_of_ble_eq_true rfl), fun E1 nE => ?_⟩
  have sE := same_new nE (.lst [])
  have npE : p ≠ E1 := ne_of_none p4 nE
  refine ⟨_, _, names_dp K (sE _ _ hN4), .lst (SqL.of upd_same) .nil, names_shaped hnm, rfl, _, rfl, ?_⟩
  rw [names_empty n1]
  refine iteF ?_
  refine ⟨_, rfl, p, r4, m, c4, 3, rfl, by rw [upd_ne npE]; exact p4, by decide, small400 (by decide) (by decide), g0, by omega, fun H5 v5 r5 c5 k5 p5 h0 h1 v50 v51 => ?_⟩
  have f05 : Fr1 p H H5 := fun b u n e => by
    rw [k5 b n]
    exact sE _ _ (f04 b u n e)
  refine ⟨rfl, _, rfl, ?_⟩
  refine ite2 (fun _ => ?_) (fun _ => ?_)
  · refine ⟨_, rfl, le_line (Nat.le_of_ble_eq_true rfl), fun t nt => ?_⟩
    exact q _ (.ref t) (.num num) r5 c5 (f05.trans (Fr1.of (same_new nt _))) ⟨t, rfl, upd_same⟩ hnum ⟨Nat.le_refl _, Nat.le_refl _⟩ (fun _ h => (nomatch h)) (by rw [upd_ne (ne_of_none p5 nt)]; exact p5) h0 (by omega)
  · have hN5 := f05 N _ nNp hN
    refine ⟨_, rfl, _, rfl, _, rfl, N, _, rfl, .inl (SqL.of hN5), p, r5, m, c5, _, rfl, p5, ?_, ?_, h0, by omega, fun H6 v6 r6 c6 k6 p6 i0 i1 v60 v61 => ?_⟩
    · rw [txs_len]; omega
    · rw [txs_len]; exact small400 (by omega) (by omega)
    have hN6 := (k6 N nNp).trans hN5
    rw [txs_len] at v61
    have hi : v6.toNat < ns.length := by omega
    refine ⟨N, _, v6, .str (SX.S ns[v6.toNat]), rfl, rfl, SqL.of hN6, atI_at v60 (txs_get hi), le_line (Nat.le_of_ble_eq_true rfl), fun t nt => ?_⟩
    have hm := List.getElem_mem hi
    exact q _ (.ref t) (.read ns[v6.toNat]) r6 c6 (fun b u n e => same_new nt _ _ _ (by rw [k6 b n]; exact f05 b u n e)) ⟨t, rfl, upd_same⟩ (hnm _ hm) ⟨Nat.le_refl _, Nat.le_refl _⟩ (fun s hs => by rw [List.mem_singleton.mp hs]; exact hm) (by rw [upd_ne (ne_of_none p6 nt)]; exact p6) i0 (by omega)
end
/-! ### parts and recipes drawn -/
theorem call_len_seqK {X : Cx} {K : PySem.W.Frag} (h : X.K = K) : CallR X (.builtin "len") (fun xs H Q => ∃ p ys, xs = [V.ref p] ∧ (SqL K H p ys ∨ SqT K H p ys) ∧ Q (V.int (ys.length : Int)) H) := by
  subst h
  exact call_len_seq
def cst : Nat → Int
  | 0 => 12
  | n + 1 => 3 * cst n + 15
theorem cst_pos : ∀ n, 0 ≤ cst n
  | 0 => by decide
  | n + 1 => by have := cst_pos n; show 0 ≤ 3 * cst n + 15; omega
def spPartL (j : Nat) : Sp := fun vs H Q _ => ∃ (p N : Addr) (r m c most : Int) (d : Nat) (ns : List (List Nat)), vs = [.ref p, .ref N, .int (d : Int), .int most] ∧ d < j ∧ H p = some (.lst (pl r m c)) ∧ H N = some (.lst (txs ns)) ∧ 1 ≤ ns.length ∧ ns.length ≤ 7 ∧ (∀ s ∈ ns, Nm s) ∧ 0 ≤ most ∧ most < 2 ^ 20 ∧ 0 ≤ c ∧ c + cst d ≤ 950000 ∧
  ∀ (H' : Hp) (v : V) (x : Rcp) (r' c' : Int), Fr1 p H H' → Rec H' x v → x.Nc → (x.dep ≤ d + 1 ∧ x.siz ≤ szt d ∧ x.Tm) → (∀ s ∈ x.nms, s ∈ ns) → H' p = some (.lst (pl r' m c')) → 0 ≤ c' → c' ≤ c + cst d → Q v H'
theorem kind3 {n : Int} (h0 : 0 ≤ n) (h : n < 3) : ∃ k : Kd, atI ([.str "plus", .str "minus", .str "most"] : List V) n = some (.str k.name) ∧ k ≠ .times := by
  have e : n = 0 ∨ n = 1 ∨ n = 2 := by omega
  rcases e with e | e | e <;> subst e
  · exact ⟨.plus, rfl, fun z => nomatch z⟩
  · exact ⟨.minus, rfl, fun z => nomatch z⟩
  · exact ⟨.most, rfl, fun z => nomatch z⟩
section
variable {P : Program} {w : World} {K : PySem.W.Frag} {mg : Str → Option Value} {base : Heap}
abbrev s__law_part : Stmt := topS 38
abbrev N__law_part : List Str := ["pool", "names", "deep", "most", "kind", "one", "some", "other", "k"]
theorem sc__law_part : FnScope N__law_part ["pool", "names", "deep", "most"] (defScope s__law_part) := ⟨rfl, rfl, rfl, by decide +kernel, rfl, by decide +kernel, by decide +kernel⟩

theorem ok__law_part (T : Txt K mg) (D : IsDef K mg "_law_part" s__law_part ["pool", "names", "deep", "most"]) (C_take : Cal P w K mg base CX0 1 "_law_take" ["pool", "many"] spTakeL) (C_leaf : Cal P w K mg base CX0 2 "_law_leaf" ["pool", "names", "most"] spLeafL) : ∀ j, Cal P w K mg base CX0 (j + 2) "_law_part" ["pool", "names", "deep", "most"] (spPartL j)
  | 0 => cal_none D fun vs H Q E h => by
    obtain ⟨_, _, _, _, _, _, d, _, _, hd, _⟩ := h
    omega
  | j + 1 => by
    have C__law_part := ok__law_part T D C_take C_leaf j
    have C__law_take := C_take.mono (show 1 ≤ j + 2 by omega)
    have C__law_leaf := C_leaf.mono (show 2 ≤ j + 2 by omega)
    refine D.cal sc__law_part (fun vs H Q E h => ?_) (fun f cdv A outer s H vs Q E hr h => ?_)
    · obtain ⟨p, N, r, m, c, most, d, ns, rfl, _⟩ := h
      rfl
    obtain ⟨p, N, r, m, c, most, d, ns, rfl, hdj, hp, hN, n1, n7, hnm, m0, mb, c0, c1, q⟩ := h
    refine ⟨_, (pss_cons (ps_set (i := 4) sc__law_part.nd rfl (Or.inl rfl) (pe_cal C__law_take (hr.mono (by first | decide | omega)) pass0 (pa_cons (pv 0) (pa_cons pe_int pa_nil))))
      (pss_cons (ps_if (PW.pt (pw_or (pt_cmpR op_eq (pv 2) pe_int (nomark _)) (pw_or1 (pt_cmpR op_lt (pv 4) pe_int (nomark _)))))
        (pss_one (ps_ret (pe_cal C__law_leaf (hr.mono (by first | decide | omega)) pass0 (pa_cons (pv 0) (pa_cons (pv 1) (pa_cons (pv 3) pa_nil))))))
        pss_nil)
      (pss_cons (ps_set (i := 5) sc__law_part.nd rfl (Or.inl rfl) (pe_cal C__law_part (hr.mono (by first | decide | omega)) pass0 (pa_cons (pv 0) (pa_cons (pv 1) (pa_cons (pe_op op_sub (pv 2) pe_int) (pa_cons (pv 3) pa_nil))))))
      (pss_cons (ps_if (PW.pt (pw_and (pt_cmpR op_lt (pv 4) pe_int (nomark _)) (pw_and1 (pt_cmpR (op_neD hr.units) (pv 1) (pe_lst pa_nil) (nomark _)))))
        (pss_cons (ps_setLc (i := 6) (own := [("k", 8)]) (g := gName 8)  (by rfl) sc__law_part.nd rfl rfl (sw_true rfl rfl rfl (by decide +kernel)) (pi_range1 rfl T.b_range (pa_cons (pe_op op_add pe_int (pe_cal C__law_take (hr.mono (by first | decide | omega)) pass0 (pa_cons (pv 0) (pa_cons pe_int pa_nil)))) pa_nil)) (blkOk_by (own := [("k", 8)]) (N := N__law_part) (sc := defScope s__law_part) (by decide +kernel)) (fun _ _ _ _ _ => (pg_name (i := 8) sc__law_part.nd rfl (Or.inl rfl))) (fun _ _ _ _ _ => pts_nil) (fun _ _ _ _ _ => (pe_ix (r := rIxL K) ix_list (pv 1) (pe_cal C__law_take (hr.mono (by first | decide | omega)) pass0 (pa_cons (pv 0) (pa_cons (pe_callB (call_len_seqK (K := K) rfl) (by rfl) T.b_len PySem.boot_len (pa_cons (pv 1) pa_nil)) pa_nil))) (fun _ _ => rfl))))
      (pss_one (ps_ret (pe_tup (pa_cons pe_str (pa_cons (pv 5) (pa_cons (pe_callTy call_tuple_of (by rfl) T.b_tuple (by decide +kernel) (pa_cons (pv 6) pa_nil)) pa_nil)))))))
        pss_nil)
      (pss_cons (ps_set (i := 7) sc__law_part.nd rfl (Or.inl rfl) (pe_cal C__law_part (hr.mono (by first | decide | omega)) pass0 (pa_cons (pv 0) (pa_cons (pv 1) (pa_cons (pe_op op_sub (pv 2) pe_int) (pa_cons (pv 3) pa_nil))))))
      (pss_cons (ps_if (pt_cmpR op_lt (pv 4) pe_int (nomark _))
        (pss_one (ps_ret (pe_tup (pa_cons pe_str (pa_cons (pv 5) (pa_cons (pv 7) (pa_cons (pe_cal C__law_part (hr.mono (by first | decide | omega)) pass0 (pa_cons (pv 0) (pa_cons (pv 1) (pa_cons (pe_op op_sub (pv 2) pe_int) (pa_cons (pv 3) pa_nil))))) pa_nil)))))))
        pss_nil)
      (pss_cons (ps_if (PW.pt (pw_and (pt_cmpR op_eq (pv 2) pe_int (nomark _)) (pw_and1 (pt_cmpR op_eq (pv 4) pe_int (nomark _)))))
        (pss_one (ps_ret (pe_tup (pa_cons pe_str (pa_cons (pv 5) (pa_cons (pv 7) pa_nil))))))
        pss_nil)
      (pss_one (ps_ret (pe_tup (pa_cons (pe_ix (r := rIxL K) ix_list (pe_lst (pa_cons pe_str (pa_cons pe_str (pa_cons pe_str pa_nil)))) (pe_op op_mod (pv 4) pe_int) (fun _ _ => rfl)) (pa_cons (pv 5) (pa_cons (pv 7) pa_nil))))))))))))), ?_⟩
    have nNp : N ≠ p := fun z => by rw [z, hp] at hN; exact txs_pl (HO.lst.inj (Option.some.inj hN)).symm
    have hcd : 12 ≤ cst d := by
      cases d with
      | zero => decide
      | succ d => have := cst_pos d; show 12 ≤ 3 * cst d + 15; omega
    refine ⟨_, rfl, p, r, m, c, 10, rfl, hp, by decide, small400 (by decide) (by decide), c0, by omega, fun H1 kd r1 c1' k1 p1 d0 d1 kd0 kd1 => ?_⟩
    have f1 : Fr1 p H H1 := fun b u n e => by rw [k1 b n]; exact e
    have hN1 := f1 N _ nNp hN
    have lf : ∀ {x : Rcp}, (x.dep ≤ 1 ∧ x.siz ≤ 1) → (x.dep ≤ d + 1 ∧ x.siz ≤ szt d ∧ x.Tm) := fun {x} h => ⟨by omega, by have := szt_pos d; omega, tm_leaf h.1⟩
    refine ⟨_, rfl, rfl, _, rfl, ?_⟩
    by_cases dz : d = 0
    · refine iteY (by rw [dz]; rfl) ?_
      refine ⟨_, rfl, _, rfl, _, rfl, p, N, r1, m, c1', most, ns, rfl, p1, hN1, n1, n7, hnm, m0, mb, d0, by omega, fun H2 v x r2 c2 f2 hv hb hd hs p2 e0 e1 => ?_⟩
      exact q H2 v x r2 c2 (f1.trans f2) hv hb (lf hd) hs p2 e0 (by omega)
    refine iteN (fun z => dz (by have := V.int.inj z; omega)) ?_
    refine ⟨_, rfl, _, _, rfl, rfl, _, rfl, ?_⟩
    by_cases k2 : kd < 2
    · refine iteY k2 ?_
      refine ⟨_, rfl, _, rfl, _, rfl, p, N, r1, m, c1', most, ns, rfl, p1, hN1, n1, n7, hnm, m0, mb, d0, by omega, fun H2 v x r2 c2 f2 hv hb hd hs p2 e0 e1 => ?_⟩
      exact q H2 v x r2 c2 (f1.trans f2) hv hb (lf hd) hs p2 e0 (by omega)
    refine iteN k2 ?_
    obtain ⟨d', rfl⟩ : ∃ d', d = d' + 1 := ⟨d - 1, by omega⟩
    have ecst : cst (d' + 1) = 3 * cst d' + 15 := rfl
    have pos := cst_pos d'
    have esz : szt (d' + 1) = 3 * szt d' + 1 := rfl
    have hdm : ((d' + 1 : Nat) : Int) - 1 = (d' : Int) := by omega
    refine ⟨_, rfl, _, rfl, _, rfl, _, _, rfl, rfl, _, rfl, p, N, r1, m, c1', most, d', ns, congrArg (fun z => [V.ref p, V.ref N, V.int z, V.int most]) hdm, by omega, p1, hN1, n1, n7, hnm, m0, mb, d0, by omega, fun H2 v1 x1 r2 c2 f2 hv1 hb1 hd1 hs1 p2 e0 e1 => ?_⟩
    have hN2 := f2 N _ nNp hN1
    refine ⟨_, rfl, _, _, rfl, rfl, _, rfl, ?_⟩
    by_cases k4 : kd < 4
    · refine iteY k4 ?_
      refine ⟨_, rfl, le_line (Nat.le_of_ble_eq_true rfl), fun E1 nE => ?_⟩
      have sE := same_new nE (.lst [])
      have npE : p ≠ E1 := ne_of_none p2 nE
      refine ⟨_, _, names_dp K (sE _ _ hN2), .lst (SqL.of upd_same) .nil, names_shaped hnm, rfl, _, rfl, ?_⟩
      rw [names_empty n1]
      refine not_false_eq rfl ?_
      refine ⟨_, rfl, p, r2, m, c2, 9, rfl, by rw [upd_ne npE]; exact p2, by decide, small400 (by decide) (by decide), e0, by omega, fun H3 w r3 c3 k3 p3 g0 g1 w0 w1 => ?_⟩
      have f23 : Fr1 p H2 H3 := fun b u n e => by rw [k3 b n]; exact sE _ _ e
      refine ⟨_, _, rfl, rfl, 1 + w, rfl, by omega, by omega, fun S nS => lc_range (lo := 0) (n := (1 + w).toNat) (fun i H' => ∃ (ss : List (List Nat)) (r' c' : Int), Fr1 p H3 H' ∧ H' p = some (.lst (pl r' m c')) ∧ 0 ≤ c' ∧ c' ≤ c3 + i ∧ H' S = some (.lst (txs ss)) ∧ ss.length = i ∧ ∀ s ∈ ss, s ∈ ns)
        ⟨[], r3, c3, Fr1.of (same_new nS _), by rw [upd_ne (ne_of_none p3 nS)]; exact p3, g0, by omega, upd_same, rfl, fun _ h => (nomatch h)⟩ ?_ ?_⟩
      · rintro i H4 hi ⟨ss, r4, c4, f4, p4, i0, i1, hS, hn, hss⟩
        have nSp : S ≠ p := (ne_of_none p3 nS).symm
        have hN4 := f4 N _ nNp (f23 N _ nNp hN2)
        refine ⟨rfl, _, rfl, _, rfl, _, rfl, N, _, rfl, .inl (SqL.of hN4), p, r4, m, c4, _, rfl, p4, ?_, ?_, i0, by omega, fun H5 u r5 c5 k5 p5 j0 j1 u0 u1 => ?_⟩
        · rw [txs_len]; omega
        · rw [txs_len]; exact small400 (by omega) (by omega)
        have hN5 := (k5 N nNp).trans hN4
        rw [txs_len] at u1
        have hiu : u.toNat < ns.length := by omega
        refine ⟨N, _, u, .str (SX.S ns[u.toNat]), rfl, rfl, SqL.of hN5, atI_at u0 (txs_get hiu), _, (k5 S nSp).trans hS, lt_line (by rw [txs_len]; omega), ss ++ [ns[u.toNat]], r5, c5, fun b x n e => ?_, by rw [upd_ne nSp.symm]; exact p5, j0, by omega, ?_, by rw [List.length_append, hn]; rfl, fun s hs => ?_⟩
        · have nb : b ≠ S := fun z => by rw [z, nS] at e; cases e
          rw [upd_ne nb, k5 b n]
          exact f4 b x n e
        · rw [upd_same, txs_app]
          rfl
        · rcases List.mem_append.mp hs with h | h
          · exact hss s h
          · rw [List.mem_singleton.mp h]; exact List.getElem_mem hiu
      · rintro H4 ⟨ss, r4, c4, f4, p4, i0, i1, hS, hn, hss⟩
        refine ⟨_, rfl, _, rfl, S, _, rfl, .inl ⟨SqL.of hS, fun tt nt => ⟨le_line (Nat.le_of_ble_eq_true rfl), fun t nt2 => ?_⟩⟩⟩
        have s1 := same_new nt (.tup (txs ss))
        have s2 := same_new nt2 (.tup [.str "choose", v1, .ref tt])
        have f24 : Fr1 p H2 (upd (upd H4 tt (.tup (txs ss))) t (.tup [.str "choose", v1, .ref tt])) := f23.trans (f4.trans (Fr1.of (s1.trans s2)))
        refine q _ (.ref t) (.choose x1 ss) r4 c4 (f1.trans (f2.trans f24)) ⟨t, v1, tt, rfl, upd_same, hv1.keep (Fr1.keep p2 f24), s2 _ _ upd_same⟩ ⟨hb1, by omega, by omega, fun s hs => hnm s (hss s hs)⟩ ⟨by show x1.dep + 1 ≤ _; omega, by show x1.siz + 1 ≤ _; omega, hd1.2.2⟩ (fun s hs => ?_) (s2 _ _ (s1 _ _ p4)) i0 (by omega)
        rcases List.mem_append.mp hs with h | h
        · exact hs1 s h
        · exact hss s h
    · refine iteN k4 ?_
      refine iteF ⟨_, rfl, _, rfl, _, rfl, _, _, rfl, rfl, _, rfl, p, N, r2, m, c2, most, d', ns, congrArg (fun z => [V.ref p, V.ref N, V.int z, V.int most]) hdm, by omega, p2, hN2, n1, n7, hnm, m0, mb, e0, by omega, fun H3 v2 x2 r3 c3 f3 hv2 hb2 hd2 hs2 p3 g0 g1 => ?_⟩
      have hN3 := f3 N _ nNp hN2
      have hv13 := hv1.keep (Fr1.keep p2 f3)
      refine ⟨_, rfl, _, _, rfl, rfl, _, rfl, ?_⟩
      by_cases k6 : kd < 6
      · refine iteY k6 ?_
        refine ⟨_, rfl, _, rfl, _, rfl, _, rfl, _, rfl, _, _, rfl, rfl, _, rfl, p, N, r3, m, c3, most, d', ns, congrArg (fun z => [V.ref p, V.ref N, V.int z, V.int most]) hdm, by omega, p3, hN3, n1, n7, hnm, m0, mb, g0, by omega, fun H4 v3 x3 r4 c4 f4 hv3 hb3 hd3 hs3 p4 i0 i1 => ?_⟩
        refine ⟨le_line (Nat.le_of_ble_eq_true rfl), fun t nt => ?_⟩
        have st := same_new nt (.tup [.str "pick", v1, v2, v3])
        have k34 := (Fr1.keep p3 f4).trans (same_keep st)
        refine q _ (.ref t) (.pick x1 x2 x3) r4 c4 (f1.trans (f2.trans (f3.trans (f4.trans (Fr1.of st))))) ⟨t, v1, v2, v3, rfl, upd_same, hv13.keep k34, hv2.keep k34, hv3.same st⟩ ⟨hb1, hb2, hb3⟩ ⟨by show max x1.dep (max x2.dep x3.dep) + 1 ≤ _; omega, by show x1.siz + x2.siz + x3.siz + 1 ≤ _; omega, hd1.2.2, hd2.2.2, hd3.2.2⟩ (fun s hs => ?_) (st _ _ p4) i0 (by omega)
        rcases List.mem_append.mp hs with h | h
        · exact hs1 s h
        · exact (List.mem_append.mp h).elim (hs2 s) (hs3 s)
      · refine iteN k6 ?_
        have tail : ∀ (k : Kd) (t : Addr), (k = .times → x1.dep ≤ 1 ∧ x2.dep ≤ 1) → H3 t = none → Q (.ref t) (upd H3 t (.tup [.str k.name, v1, v2])) := fun k t hk nt => by
          have st := same_new nt (.tup [.str k.name, v1, v2])
          refine q _ (.ref t) (.two k x1 x2) r3 c3 (f1.trans (f2.trans (f3.trans (Fr1.of st)))) ⟨t, v1, v2, rfl, upd_same, hv13.same st, hv2.same st⟩ ⟨hb1, hb2⟩ ⟨by show max x1.dep x2.dep + 1 ≤ _; omega, by show x1.siz + x2.siz + 1 ≤ _; omega, hd1.2.2, hd2.2.2, hk⟩ (fun s hs => ?_) (st _ _ p3) g0 (by omega)
          exact (List.mem_append.mp hs).elim (hs1 s) (hs2 s)
        have kd9 : ∃ k : Kd, atI ([.str "plus", .str "minus", .str "most"] : List V) (kd % 3) = some (.str k.name) ∧ k ≠ .times := kind3 (Int.emod_nonneg _ (by decide)) (Int.emod_lt_of_pos _ (by decide))
        obtain ⟨kk, hkk, hkt⟩ := kd9
        have rest : ∀ {A B : Prop}, B → B := fun b => b
        refine ⟨_, rfl, rfl, _, rfl, ?_⟩
        by_cases c1 : d' = 0
        · refine iteY (by rw [c1]; rfl) ?_
          refine ⟨_, rfl, rfl, _, rfl, ?_⟩
          by_cases c9 : kd = 9
          · refine iteY (by rw [c9]) ?_
            exact ⟨_, rfl, _, rfl, le_line (Nat.le_of_ble_eq_true rfl), fun t nt => tail .times t (fun _ => ⟨by omega, by omega⟩) nt⟩
          · refine iteN (fun z => c9 (V.int.inj z)) ?_
            refine ⟨le_line (Nat.le_of_ble_eq_true rfl), fun l nl => ⟨_, rfl, _, _, rfl, rfl, (by show (0 : Int) < 3; decide), l, _, _, .str kk.name, rfl, rfl, SqL.of upd_same, hkk, _, rfl, _, rfl, le_line (Nat.le_of_ble_eq_true rfl), fun t nt => ?_⟩⟩
            have sl := same_new nl (.lst [.str "plus", .str "minus", .str "most"])
            have st := same_new nt (.tup [.str kk.name, v1, v2])
            refine q _ (.ref t) (.two kk x1 x2) r3 c3 (f1.trans (f2.trans (f3.trans (Fr1.of (sl.trans st))))) ⟨t, v1, v2, rfl, upd_same, hv13.same (sl.trans st), hv2.same (sl.trans st)⟩ ⟨hb1, hb2⟩ ⟨by show max x1.dep x2.dep + 1 ≤ _; omega, by show x1.siz + x2.siz + 1 ≤ _; omega, hd1.2.2, hd2.2.2, fun z => absurd z hkt⟩ (fun s hs => ?_) (st _ _ (sl _ _ p3)) g0 (by omega)
            exact (List.mem_append.mp hs).elim (hs1 s) (hs2 s)
        · refine iteN (fun z => c1 (by have := V.int.inj z; omega)) ?_
          refine iteF ⟨le_line (Nat.le_of_ble_eq_true rfl), fun l nl => ⟨_, rfl, _, _, rfl, rfl, (by show (0 : Int) < 3; decide), l, _, _, .str kk.name, rfl, rfl, SqL.of upd_same, hkk, _, rfl, _, rfl, le_line (Nat.le_of_ble_eq_true rfl), fun t nt => ?_⟩⟩
          have sl := same_new nl (.lst [.str "plus", .str "minus", .str "most"])
          have st := same_new nt (.tup [.str kk.name, v1, v2])
          refine q _ (.ref t) (.two kk x1 x2) r3 c3 (f1.trans (f2.trans (f3.trans (Fr1.of (sl.trans st))))) ⟨t, v1, v2, rfl, upd_same, hv13.same (sl.trans st), hv2.same (sl.trans st)⟩ ⟨hb1, hb2⟩ ⟨by show max x1.dep x2.dep + 1 ≤ _; omega, by show x1.siz + x2.siz + 1 ≤ _; omega, hd1.2.2, hd2.2.2, fun z => absurd z hkt⟩ (fun s hs => ?_) (st _ _ (sl _ _ p3)) g0 (by omega)
          exact (List.mem_append.mp hs).elim (hs1 s) (hs2 s)
end
/-! ### recipes drawn -/
def spRecipeL : Sp := fun vs H Q _ => ∃ (p N : Addr) (r m c most : Int) (ns : List (List Nat)), vs = [.ref p, .ref N, .int most] ∧ H p = some (.lst (pl r m c)) ∧ H N = some (.lst (txs ns)) ∧ 1 ≤ ns.length ∧ ns.length ≤ 7 ∧ (∀ s ∈ ns, Nm s) ∧ 0 ≤ most ∧ most < 2 ^ 20 ∧ 0 ≤ c ∧ c ≤ 900000 ∧
  ∀ (H' : Hp) (v : V) (x : Rcp) (r' c' : Int), Fr1 p H H' → Rec H' x v → x.Nc → (x.dep ≤ 8 ∧ x.siz ≤ 48 ∧ x.Tm) → (∀ s ∈ x.nms, s ∈ ns) → H' p = some (.lst (pl r' m c')) → 0 ≤ c' → c' ≤ c + 2000 → Q v H'
theorem szt4 : ∀ d : Nat, d < 4 → szt d ≤ 40 := by decide +kernel
theorem cst4 : ∀ d : Nat, d < 4 → cst d ≤ 700 := by decide +kernel
section
variable {P : Program} {w : World} {K : PySem.W.Frag} {mg : Str → Option Value} {base : Heap}
abbrev s__law_recipe : Stmt := topS 39
abbrev N__law_recipe : List Str := ["pool", "names", "most", "found", "k"]
theorem sc__law_recipe : FnScope N__law_recipe ["pool", "names", "most"] (defScope s__law_recipe) := ⟨rfl, rfl, rfl, by decide +kernel, rfl, by decide +kernel, by decide +kernel⟩

theorem ok__law_recipe (T : Txt K mg) (D : IsDef K mg "_law_recipe" s__law_recipe ["pool", "names", "most"]) (C_take : Cal P w K mg base CX0 1 "_law_take" ["pool", "many"] spTakeL) (C_leaf : Cal P w K mg base CX0 2 "_law_leaf" ["pool", "names", "most"] spLeafL) (C__law_part : Cal P w K mg base CX0 6 "_law_part" ["pool", "names", "deep", "most"] (spPartL 4)) : Cal P w K mg base CX0 7 "_law_recipe" ["pool", "names", "most"] spRecipeL := by
  have C__law_take := C_take.mono (show 1 ≤ 6 by omega)
  have C__law_leaf := C_leaf.mono (show 2 ≤ 6 by omega)
  refine D.cal sc__law_recipe (fun vs H Q E h => ?_) (fun f cdv A outer s H vs Q E hr h => ?_)
  · obtain ⟨p, N, r, m, c, most, ns, rfl, _⟩ := h
    rfl
  obtain ⟨p, N, r, m, c, most, ns, rfl, hp, hN, n1, n7, hnm, m0, mb, c0, c1, q⟩ := h
  refine ⟨_, (pss_cons (ps_set (i := 3) sc__law_recipe.nd rfl (Or.inl rfl) (pe_cal C__law_part (hr.mono (by first | decide | omega)) pass0 (pa_cons (pv 0) (pa_cons (pv 1) (pa_cons (pe_cal C__law_take (hr.mono (by first | decide | omega)) pass0 (pa_cons (pv 0) (pa_cons pe_int pa_nil))) (pa_cons (pv 2) pa_nil))))))
      (pss_cons (ps_for PassesOwn.never rfl (pi_range1 rfl T.b_range (pa_cons (pe_ix (r := rIxL K) ix_list (pe_lst (pa_cons pe_int (pa_cons (pe_cal C__law_take (hr.mono (by first | decide | omega)) pass0 (pa_cons (pv 0) (pa_cons pe_int pa_nil))) pa_nil))) (pe_cal C__law_take (hr.mono (by first | decide | omega)) pass0 (pa_cons (pv 0) (pa_cons pe_int pa_nil))) (fun _ _ => rfl)) pa_nil)) (pg_name (i := 4) sc__law_recipe.nd rfl (Or.inl rfl))
        (pss_one (ps_set (i := 3) sc__law_recipe.nd rfl (Or.inl rfl) (pe_tup (pa_cons (pe_ix (r := rIxL K) ix_list (pe_lst (pa_cons pe_str (pa_cons pe_str (pa_cons pe_str pa_nil)))) (pe_cal C__law_take (hr.mono (by first | decide | omega)) pass0 (pa_cons (pv 0) (pa_cons pe_int pa_nil))) (fun _ _ => rfl)) (pa_cons (pv 3) (pa_cons (pe_cal C__law_leaf (hr.mono (by first | decide | omega)) pass0 (pa_cons (pv 0) (pa_cons (pv 1) (pa_cons (pv 2) pa_nil)))) pa_nil)))))))
      (pss_one (ps_ret (pv 3))))), ?_⟩
  have nNp : N ≠ p := fun z => by rw [z, hp] at hN; exact txs_pl (HO.lst.inj (Option.some.inj hN)).symm
  refine ⟨_, rfl, _, rfl, _, rfl, p, r, m, c, 4, rfl, hp, by decide, small400 (by decide) (by decide), c0, by omega, fun H1 kd r1 c1' k1 p1 d0 d1 kd0 kd1 => ?_⟩
  have f1 : Fr1 p H H1 := fun b u n e => by rw [k1 b n]; exact e
  have hN1 := f1 N _ nNp hN
  obtain ⟨d, rfl⟩ : ∃ d : Nat, kd = (d : Int) := ⟨kd.toNat, by omega⟩
  have hc4 := cst4 d (by omega)
  refine ⟨_, rfl, p, N, r1, m, c1', most, d, ns, rfl, by omega, p1, hN1, n1, n7, hnm, m0, mb, d0, by omega, fun H2 v1 x1 r2 c2 f2 hv1 hb1 hd1 hs1 p2 e0 e1 => ?_⟩
  refine ⟨_, rfl, p, r2, m, c2, 5, rfl, p2, by decide, small400 (by decide) (by decide), e0, by omega, fun H3 w r3 c3 k3 p3 g0 g1 w0 w1 => ?_⟩
  refine ⟨le_line (Nat.le_of_ble_eq_true rfl), fun L nL => ?_⟩
  have npL : p ≠ L := ne_of_none p3 nL
  refine ⟨_, rfl, p, r3, m, c3, 2, rfl, by rw [upd_ne npL]; exact p3, by decide, small400 (by decide) (by decide), g0, by omega, fun H4 u r4 c4 k4 p4 i0 i1 u0 u1 => ?_⟩
  have hL4 := (k4 L npL.symm).trans upd_same
  have f24 : Fr1 p H2 H4 := fun b x n e => by
    rw [k4 b n]
    refine same_new nL _ _ _ ?_
    rw [k3 b n]
    exact e
  obtain ⟨x, hx, hat⟩ := one_of (xs := ([.int 0, .int w] : List V)) u0 u1
  obtain ⟨times, rfl, t0, t4⟩ : ∃ times : Int, x = .int times ∧ 0 ≤ times ∧ times ≤ 4 := by
    simp only [List.mem_cons, List.not_mem_nil, or_false] at hx
    rcases hx with h | h
    · exact ⟨_, h, by decide, by decide⟩
    · exact ⟨_, h, w0, by omega⟩
  refine ⟨L, _, u, _, rfl, rfl, SqL.of hL4, hat, ?_⟩
  refine ⟨times, rfl, by omega, by omega, for_range (lo := 0) (n := times.toNat) (fun i σ H' => ∃ (v : V) (x : Rcp) (v4 : Option V) (r' c' : Int), σ = [some (.ref p), some (.ref N), some (.int most), some v, v4] ∧ Fr1 p H4 H' ∧ Rec H' x v ∧ x.Nc ∧ (x.dep ≤ 4 + i ∧ x.siz ≤ 40 + 2 * i ∧ x.Tm) ∧ (∀ s ∈ x.nms, s ∈ ns) ∧ H' p = some (.lst (pl r' m c')) ∧ 0 ≤ c' ∧ c' ≤ c4 + 20 * i) ⟨v1, x1, none, r4, c4, rfl, Fr1.refl p H4, hv1.keep (Fr1.keep p2 f24), hb1, ⟨by omega, by have := szt4 d (by omega); omega, hd1.2.2⟩, hs1, p4, i0, by omega⟩ ?_ ?_⟩
  · rintro i σ H5 hi ⟨v, y, v4, r5, c5, rfl, f5, hv, hb, hd, hs, p5, j0, j1⟩
    refine ⟨le_line (Nat.le_of_ble_eq_true rfl), fun l nl => ?_⟩
    have npl : p ≠ l := ne_of_none p5 nl
    refine ⟨_, rfl, p, r5, m, c5, 3, rfl, by rw [upd_ne npl]; exact p5, by decide, small400 (by decide) (by decide), j0, by omega, fun H6 z r6 c6 k6 p6 a0 a1 z0 z1 => ?_⟩
    have hl6 := (k6 l npl.symm).trans upd_same
    have f56 : Fr1 p H5 H6 := fun b x n e => by rw [k6 b n]; exact same_new nl _ _ _ e
    obtain ⟨kk, hkk, hkt⟩ := kind3 z0 z1
    have hN6 := f56 N _ nNp (f5 N _ nNp (f24 N _ nNp (f2 N _ nNp hN1)))
    refine ⟨l, _, z, .str kk.name, rfl, rfl, SqL.of hl6, hkk, _, rfl, _, rfl, _, rfl, _, rfl, p, N, r6, m, c6, most, ns, rfl, p6, hN6, n1, n7, hnm, m0, mb, a0, by omega, fun H7 v2 x2 r7 c7 f7 hv2 hb2 hd2 hs2 p7 b0 b1 => ?_⟩
    refine ⟨le_line (Nat.le_of_ble_eq_true rfl), fun t nt => ?_⟩
    have st := same_new nt (.tup [.str kk.name, v, v2])
    exact ⟨.ref t, .two kk y x2, _, r7, c7, rfl, f5.trans (f56.trans (f7.trans (Fr1.of st))), ⟨t, v, v2, rfl, upd_same, (hv.keep (Fr1.keep p5 (f56.trans f7))).same st, hv2.same st⟩, ⟨hb, hb2⟩, ⟨by show max y.dep x2.dep + 1 ≤ 4 + (i + 1); have := dep_pos y; omega, by show y.siz + x2.siz + 1 ≤ _; omega, hd.2.2, tm_leaf hd2.1, fun z => absurd z hkt⟩, fun s h => (List.mem_append.mp h).elim (hs s) (hs2 s), st _ _ p7, b0, by omega⟩
  · rintro σ H5 ⟨v, y, v4, r5, c5, rfl, f5, hv, hb, hd, hs, p5, j0, j1⟩
    exact ⟨_, rfl, q _ v y r5 c5 (f1.trans (f2.trans (f24.trans f5))) hv hb ⟨by omega, by omega, hd.2.2⟩ hs p5 j0 (by omega)⟩
end
/-! ### k52: a house of the reads and one recipe: plain facts -/
open LamX NdefX
theorem nc_wn : ∀ {r : Rcp}, r.Nc → r.Wn
  | .num _, _ => trivial
  | .read _, h => h
  | .two _ _ _, h => ⟨nc_wn h.1, nc_wn h.2⟩
  | .pick _ _ _, h => ⟨nc_wn h.1, nc_wn h.2.1, nc_wn h.2.2⟩
  | .choose _ _, h => ⟨nc_wn h.1, h.2⟩
theorem log_lt {n k : Nat} (h : n < 2 ^ k) (hk : 0 < k) : n.log2 + 1 ≤ k := by
  by_cases c : n = 0
  · rw [c]; show Nat.log2 0 + 1 ≤ k; rw [show Nat.log2 0 = 0 from rfl]; omega
  · have := (Nat.log2_lt c).mpr h
    omega
theorem leaf_bits {f : List Nat → Nat} : ∀ {r : Rcp}, r.dep ≤ 1 → r.Nc → (∀ s ∈ r.nms, f s ≤ 21) → r.bitV f ≤ 21 ∧ r.bitA f ≤ 21
  | .num n, _, h, _ => ⟨log_lt h (by decide), log_lt h (by decide)⟩
  | .read s, _, _, h => ⟨h s (List.mem_singleton.mpr rfl), h s (List.mem_singleton.mpr rfl)⟩
  | .two _ a b, h, _, _ => by have := dep_pos a; have h' : max a.dep b.dep + 1 ≤ 1 := h; omega
  | .pick a b c, h, _, _ => by have := dep_pos a; have h' : max a.dep (max b.dep c.dep) + 1 ≤ 1 := h; omega
  | .choose a _, h, _, _ => by have := dep_pos a; have h' : a.dep + 1 ≤ 1 := h; omega
theorem nc_bits {f : List Nat → Nat} : ∀ {r : Rcp}, r.Nc → r.Tm → (∀ s ∈ r.nms, f s ≤ 21) → r.bitV f ≤ 42 + r.dep ∧ r.bitA f ≤ 2 * (42 + r.dep)
  | .num n, h, _, _ => by
    have := log_lt h (by decide)
    exact ⟨by show n.natAbs.log2 + 1 ≤ _; omega, by show n.natAbs.log2 + 1 ≤ _; omega⟩
  | .read s, _, _, h => by
    have := h s (List.mem_singleton.mpr rfl)
    exact ⟨by show f s ≤ _; omega, by show f s ≤ _; omega⟩
  | .two k a b, hc, ht, h => by
    have ha := nc_bits hc.1 ht.1 fun s hs => h s (List.mem_append_left _ hs)
    have hb := nc_bits hc.2 ht.2.1 fun s hs => h s (List.mem_append_right _ hs)
    have e : (Rcp.two k a b).dep = max a.dep b.dep + 1 := rfl
    have eA : (Rcp.two k a b).bitA f = max (a.bitV f + b.bitV f) (max (a.bitA f) (b.bitA f)) := rfl
    refine ⟨?_, by rw [eA, e]; omega⟩
    cases k with
    | times =>
      obtain ⟨d1, d2⟩ := ht.2.2 rfl
      have a1 := (leaf_bits d1 hc.1 fun s hs => h s (List.mem_append_left _ hs)).1
      have b1 := (leaf_bits d2 hc.2 fun s hs => h s (List.mem_append_right _ hs)).1
      show a.bitV f + b.bitV f ≤ _
      omega
    | plus => show max (a.bitV f) (b.bitV f) + 1 ≤ _; rw [e]; omega
    | minus => show max (a.bitV f) (b.bitV f) + 1 ≤ _; rw [e]; omega
    | most => show max (a.bitV f) (b.bitV f) ≤ _; rw [e]; omega
  | .pick a b c, hc, ht, h => by
    have ha := nc_bits hc.1 ht.1 fun s hs => h s (List.mem_append_left _ hs)
    have hb := nc_bits hc.2.1 ht.2.1 fun s hs => h s (List.mem_append_right _ (List.mem_append_left _ hs))
    have hd := nc_bits hc.2.2 ht.2.2 fun s hs => h s (List.mem_append_right _ (List.mem_append_right _ hs))
    have e : (Rcp.pick a b c).dep = max a.dep (max b.dep c.dep) + 1 := rfl
    exact ⟨by show max (b.bitV f) (c.bitV f) ≤ _; omega, by show max (a.bitA f) (max (b.bitA f) (c.bitA f)) ≤ _; omega⟩
  | .choose a ns, hc, ht, h => by
    have ha := nc_bits hc.1 ht fun s hs => h s (List.mem_append_left _ hs)
    have hm : maxN (ns.map f) ≤ 21 := maxN_le fun x hx => by obtain ⟨s, hs, rfl⟩ := List.mem_map.mp hx; exact h s (List.mem_append_right _ hs)
    have e : (Rcp.choose a ns).dep = a.dep + 1 := rfl
    exact ⟨by show maxN (ns.map f) ≤ _; omega, by show max (a.bitA f) (maxN (ns.map f)) ≤ _; omega⟩
def hs52 (g : List Pr) (own : List Nat) (r : Rcp) : House := ⟨g, [(own, r)]⟩
structure Rc52 (ns : List (List Nat)) (own : List Nat) (r : Rcp) : Prop where
  nc : r.Nc
  tm : r.Tm
  dp : r.dep ≤ 8
  sz : r.siz ≤ 100
  nm : ∀ s ∈ r.nms, s ∈ ns
  on : Nm own
  no : ¬ own ∈ ns
theorem Rc52.rcp {ns : List (List Nat)} {own : List Nat} {r : Rcp} (R : Rc52 ns own r) : r.th.isRcp = true := Rcp.isRcpW (nc_wn R.nc) R.dp R.sz
theorem hs52_ok {ns : List (List Nat)} {own : List Nat} {r : Rcp} (R : Rc52 ns own r) {g : List Pr} (hg : ∀ p ∈ g, Nm p.1 ∧ p.2.natAbs < 2 ^ 21) : HouseOk 8 (hs52 g own r) bet0 := by
  have hf : ∀ s ∈ r.nms, (if s = own then 60 else 21) ≤ 21 := fun s hs => by
    rw [if_neg (fun z => R.no (by rw [← z]; exact R.nm s hs))]
    exact Nat.le_refl _
  have hb := nc_bits (f := fun s => if s = own then 60 else 21) R.nc R.tm hf
  have dp := R.dp
  have V : HouseV 8 (hs52 g own r) (fun s => if s = own then 60 else 21) := by
    refine ⟨fun p hp => ?_, fun p hp => ⟨(hg p hp).1, Nat.lt_of_lt_of_le (hg p hp).2 (Nat.pow_le_pow_right (by decide) (by show 21 ≤ if p.1 = own then 60 else 21; split <;> decide))⟩, fun u => by show 0 < if u = own then 60 else 21; split <;> decide⟩
    rw [List.mem_singleton.mp hp]
    exact ⟨R.on, nc_wn R.nc, dp, by show r.bitV (fun s => if s = own then 60 else 21) ≤ (if own = own then 60 else 21); rw [if_pos rfl]; omega, by show r.bitA (fun s => if s = own then 60 else 21) ≤ 1000000; omega⟩
  exact V.ok bet0
section
variable {rd : List Pr} {lk : RkS → List Nat → OutR RkS} {J : RkS → Prop}
theorem look_wk (ha : ∀ st t v, J st → seen rd t = some v → ∃ st', lk st t = .ok v st' ∧ J st') {n m : Nat} {t : List Nat} {v : Int} (h : lookG rd n t = .ok v m) (st : RkS) (hj : J st) : ∃ st', lkOwn lk (st, rd.take n) t = .ok v (st', rd.take m) ∧ J st' := by
  have own : ∀ {st'}, lk st t = .ok v st' → lkOwn lk (st, rd.take n) t = .ok v (st', setd (rd.take n) t v) := fun {st'} e => by unfold lkOwn; rw [e]
  unfold lookG at h
  cases e : seen (rd.take n) t with
  | some x =>
    rw [e] at h
    cases h
    have : seen rd t = some v := by
      have := seen_more (m := rd.drop n) e
      rwa [List.take_append_drop] at this
    obtain ⟨st', h1, h2⟩ := ha st t v hj this
    refine ⟨st', ?_, h2⟩
    rw [own h1, setd_seen e]
  | none =>
    rw [e] at h
    cases e2 : rd[n]? with
    | none => rw [e2] at h; cases h
    | some p =>
      rw [e2] at h
      by_cases c : p.1 = t
      · simp only [if_pos c] at h
        cases h
        have hs : seen rd t = some p.2 := by
          have e3 : rd = rd.take n ++ rd.drop n := (List.take_append_drop n rd).symm
          rw [e3, seen_app, e]
          have hl := (List.getElem?_eq_some_iff.mp e2).1
          rw [List.drop_eq_getElem_cons hl, seen_cons]
          have : rd[n] = p := Option.some.inj ((List.getElem?_eq_getElem hl).symm.trans e2)
          rw [this, if_pos c]
        obtain ⟨st', h1, h2⟩ := ha st t _ hj hs
        refine ⟨st', ?_, h2⟩
        rw [own h1, setd_new e, List.take_add_one, e2, ← c]
        rfl
      · simp only [if_neg c] at h
        cases h
theorem wk_go (ha : ∀ st t v, J st → seen rd t = some v → ∃ st', lk st t = .ok v st' ∧ J st') : ∀ {r : Rcp} {n m : Nat} {v : Int}, go rd r n = .ok v m → ∀ st, J st → ∃ st', wk (lkOwn lk) r (st, rd.take n) = .ok v (st', rd.take m) ∧ J st'
  | .num x, n, m, v, h, st, hj => by cases h; exact ⟨st, rfl, hj⟩
  | .read t, n, m, v, h, st, hj => look_wk ha h st hj
  | .two k a b, n, m, v, h, st, hj => by
    obtain ⟨x, l, h1, h2⟩ := bind_ok h
    obtain ⟨y, l2, h3, h4⟩ := bind_ok h2
    cases h4
    obtain ⟨s1, g1, j1⟩ := wk_go ha h1 st hj
    obtain ⟨s2, g2, j2⟩ := wk_go ha h3 s1 j1
    refine ⟨s2, ?_, j2⟩
    show (wk (lkOwn lk) a (st, rd.take n)).bind _ = _
    rw [bind_okI g1, bind_okI g2]
  | .pick a b c, n, m, v, h, st, hj => by
    obtain ⟨x, l, h1, h2⟩ := bind_ok h
    obtain ⟨s1, g1, j1⟩ := wk_go ha h1 st hj
    by_cases z : x > 0
    · simp only [if_pos z] at h2
      obtain ⟨s2, g2, j2⟩ := wk_go ha h2 s1 j1
      refine ⟨s2, ?_, j2⟩
      show (wk (lkOwn lk) a (st, rd.take n)).bind _ = _
      rw [bind_okI g1, if_pos z, g2]
    · simp only [if_neg z] at h2
      obtain ⟨s2, g2, j2⟩ := wk_go ha h2 s1 j1
      refine ⟨s2, ?_, j2⟩
      show (wk (lkOwn lk) a (st, rd.take n)).bind _ = _
      rw [bind_okI g1, if_neg z, g2]
  | .choose a ns, n, m, v, h, st, hj => by
    obtain ⟨x, l, h1, h2⟩ := bind_ok h
    obtain ⟨s1, g1, j1⟩ := wk_go ha h1 st hj
    obtain ⟨s2, g2, j2⟩ := look_wk ha h2 s1 j1
    refine ⟨s2, ?_, j2⟩
    show (wk (lkOwn lk) a (st, rd.take n)).bind _ = _
    rw [bind_okI g1, g2]
theorem wk_lacks (ha : ∀ st t v, J st → seen rd t = some v → ∃ st', lk st t = .ok v st' ∧ J st') {s : List Nat} (hb : ∀ st, J st → lk st s = .err (.noName s)) : ∀ {r : Rcp} {n : Nat}, n ≤ rd.length → go rd r n = .lack s → ∀ st, J st → wk (lkOwn lk) r (st, rd.take n) = .err (.noName s) := by
  have lo : ∀ {n : Nat} {t : List Nat}, n ≤ rd.length → lookG rd n t = .lack s → ∀ st, J st → lkOwn lk (st, rd.take n) t = .err (.noName s) := fun {n t} hn h st hj => by
    obtain ⟨_, rfl, _⟩ := lookG_lack hn h
    unfold lkOwn
    rw [hb st hj]
  intro r
  induction r with
  | num x => intro n _ h; cases h
  | read t => intro n hn h; exact lo hn h
  | two k a b ia ib =>
    intro n hn h st hj
    show (wk (lkOwn lk) a (st, rd.take n)).bind _ = _
    rcases bind_lack h with h1 | ⟨x, l, h1, h2⟩
    · exact bind_errI (ia hn h1 st hj)
    · obtain ⟨s1, g1, j1⟩ := wk_go ha h1 st hj
      rw [bind_okI g1]
      rcases bind_lack h2 with h3 | ⟨y, l2, h3, h4⟩
      · exact bind_errI (ib (go_okL hn h1).2 h3 s1 j1)
      · cases h4
  | pick a b c ia ib ic =>
    intro n hn h st hj
    show (wk (lkOwn lk) a (st, rd.take n)).bind _ = _
    rcases bind_lack h with h1 | ⟨x, l, h1, h2⟩
    · exact bind_errI (ia hn h1 st hj)
    · obtain ⟨s1, g1, j1⟩ := wk_go ha h1 st hj
      rw [bind_okI g1]
      by_cases z : x > 0
      · simp only [if_pos z] at h2
        rw [if_pos z]
        exact ib (go_okL hn h1).2 h2 s1 j1
      · simp only [if_neg z] at h2
        rw [if_neg z]
        exact ic (go_okL hn h1).2 h2 s1 j1
  | choose a ns ia =>
    intro n hn h st hj
    show (wk (lkOwn lk) a (st, rd.take n)).bind _ = _
    rcases bind_lack h with h1 | ⟨x, l, h1, h2⟩
    · exact bind_errI (ia hn h1 st hj)
    · obtain ⟨s1, g1, j1⟩ := wk_go ha h1 st hj
      rw [bind_okI g1]
      exact lo (go_okL hn h1).2 h2 s1 j1
end
section
variable {g rd : List Pr} {own s : List Nat} {r : Rcp} {w : Int}
def J52 (g : List Pr) (own : List Nat) (st : RkS) : Prop := st.read = [] ∧ st.asked = [own] ∧ ∀ u x, seen st.known u = some x → seen g u = some x
theorem j52_look {k : Nat} (sub : ∀ t v, seen rd t = some v → seen g t = some v) : ∀ st t v, J52 g own st → seen rd t = some v → ∃ st', lkR (hs52 g own r) (k + 1) st t = .ok v st' ∧ J52 g own st' := fun st t v hj e => by
  have eg := sub t v e
  obtain ⟨j1, j2, j3⟩ := id hj
  unfold lkR
  cases e1 : seen st.known t with
  | some x =>
    have := (j3 t x e1).symm.trans eg
    cases this
    exact ⟨st, rfl, hj⟩
  | none =>
    have eg' : seen (hs52 g own r).given t = some v := eg
    simp only [eg']
    refine ⟨_, rfl, j1, j2, fun u x h => ?_⟩
    rw [seen_putA] at h
    by_cases c : u = t
    · rw [if_pos c] at h
      cases h
      rw [c]; exact eg
    · rw [if_neg c] at h
      exact j3 u x h
theorem j52_no {k : Nat} (e : seen g s = none) (n : s ≠ own) : ∀ st, J52 g own st → lkR (hs52 g own r) (k + 1) st s = .err (.noName s) := fun st hj => by
  unfold lkR
  cases e1 : seen st.known s with
  | some x => have := hj.2.2 s x e1; rw [e] at this; cases this
  | none =>
    have e' : seen (hs52 g own r).given s = none := e
    have : rcpOf (hs52 g own r).recs s = none := by
      show rcpOf [(own, r)] s = none
      unfold rcpOf
      rw [List.find?_cons, decide_eq_false (fun z => n z.symm)]
      rfl
    simp only [e', this]
theorem lk52_start {k : Nat} (e : seen g own = none) : lkR (hs52 g own r) (k + 1) emptyS own = match wk (lkOwn (lkR (hs52 g own r) k)) r (⟨[], [], [own]⟩, []) with
    | .ok v p => .ok v { known := putA p.1.known own v, read := putA p.1.read own p.2, asked := p.1.asked.dropLast }
    | .err x => .err x := by
  conv => lhs; unfold lkR
  have e1 : seen (emptyS : RkS).known own = none := rfl
  have e2 : rcpOf (hs52 g own r).recs own = some r := by
    show rcpOf [(own, r)] own = some r
    unfold rcpOf
    rw [List.find?_cons, decide_eq_true rfl]
    rfl
  have e3 : seen (hs52 g own r).given own = none := e
  rw [e1, e3, e2]
  rfl
theorem lk52_ok (k : Nat) (h1 : outOf rd r = .worth w) (sub : ∀ t v, seen rd t = some v → seen g t = some v) (no : seen g own = none) : ∃ s', lkR (hs52 g own r) (k + 2) emptyS own = .ok w s' ∧ s'.read = [(own, rd)] ∧ seen s'.known own = some w := by
  obtain ⟨m, e, hl⟩ := out_worth h1
  have hm := (go_okL (Nat.zero_le _) e).2
  obtain ⟨st, g1, j1, j2, j3⟩ := wk_go (J := J52 g own) (lk := lkR (hs52 g own r) (k + 1)) (j52_look sub) e ⟨[], [], [own]⟩ ⟨rfl, rfl, fun u x h => by cases h⟩
  rw [List.take_zero] at g1
  rw [lk52_start no, g1]
  refine ⟨_, rfl, ?_, by rw [seen_putA, if_pos rfl]⟩
  show putA st.read own (rd.take m) = _
  rw [j1, List.take_of_length_le hl]
  rfl
theorem lk52_no (k : Nat) (h1 : outOf rd r = .read s) (no : seen rd own = none) (es : seen rd s = none) (n : s ≠ own) : lkR (hs52 rd own r) (k + 2) emptyS own = .err (.noName s) := by
  have e := out_read h1
  have := wk_lacks (J := J52 rd own) (lk := lkR (hs52 rd own r) (k + 1)) (j52_look fun _ _ h => h) (j52_no es n) (Nat.zero_le _) e ⟨[], [], [own]⟩ ⟨rfl, rfl, fun u x h => by cases h⟩
  rw [List.take_zero] at this
  rw [lk52_start no, this]
end
/-- one read more than is looked for -/
theorem out_over {rd : List Pr} {r : Rcp} {w : Int} (p : Pr) (h : outOf rd r = .worth w) : outOf (rd ++ [p]) r = .none := by
  obtain ⟨m, e, hl⟩ := out_worth h
  have hm := (go_okL (Nat.zero_le _) e).2
  obtain ⟨e2, _⟩ := go_more p (Nat.zero_le _) e
  unfold outOf
  rw [e2]
  show (if m < (rd ++ [p]).length then Out.none else .worth w) = _
  rw [if_pos (by rw [List.length_append]; show m < rd.length + 1; omega)]
/-! ### the name that is lacking, as the error tells it -/
open LamX NdefX
def spLack (Tb : List NTab) (dm n : Nat) : Sp := fun vs H Q _ => ∃ (v : V) (h : House) (beta : Nat → Nat) (t s : List Nat), vs = [v, .str (SX.S t)] ∧ HouseOk dm h beta ∧ h.given.length + h.recs.length ≤ 100000 ∧ h.recs.length + 1 ≤ n ∧ HouseAt H h v ∧ TabsN Tb H ∧ Nm t ∧
  lkR h n emptyS t = .err (.noName s) ∧ ∀ H', FrS Tb [] H H' → Q (.str (SX.S s)) H'
section
variable {P : Program} {w : World} {K : PySem.W.Frag} {mg : Str → Option Value} {base : Heap} {CN CR fN : Addr} {Tb : List NTab}
abbrev s__law_lacking : Stmt := topS 40
abbrev N__law_lacking : List Str := ["house", "name", "caught", "e"]
theorem sc__law_lacking : FnScope N__law_lacking ["house", "name"] (defScope s__law_lacking) := ⟨rfl, rfl, rfl, by decide +kernel, rfl, by decide +kernel, by decide +kernel⟩

theorem ok__law_lacking {dm n : Nat} (T : Txt K mg) (Z : OwnX K mg "NoName" "name" CN fN) (hm : PySem.W.exmOne K (.ref CN) (.ref CN) = some true) (D : IsDef K mg "_law_lacking" s__law_lacking ["house", "name"])
    (C_worth_of : Cal P w K mg base (L2.CX P w) (lvR dm n + 2) "worth_of" ["house", "name"] (spWorthOf CN CR Tb dm n)) : Cal P w K mg base CX0 (lvR dm n + 3) "_law_lacking" ["house", "name"] (spLack Tb dm n) := by
  have GNoName := Z.g
  refine D.cal (k := lvR dm n + 2) sc__law_lacking (fun vs H Q E h => ?_) (fun f cdv A outer s H vs Q E hr h => ?_)
  · obtain ⟨v, hh, beta, t, s0, rfl, _⟩ := h
    rfl
  obtain ⟨v, hh, beta, t, s0, rfl, HH, hsz, hn, hH, hT, ht, e, q⟩ := h
  refine ⟨_, (pss_cons (ps_set (i := 2) sc__law_lacking.nd rfl (Or.inl rfl) pe_non)
      (pss_cons (ps_try_keep (i := 3) rfl rfl sc__law_lacking.nd rfl rfl ⟨rfl, by decide, .inl GNoName⟩ L2.takes0 (fun W pn xe tk _ => (pss_one (ps_expr (pe_calS C_worth_of (hr.mono (by first | decide | omega)) (fun σ => passAt tk σ) (pa_cons (pv 0) (pa_cons (pv 1) pa_nil))))))
        (fun a cls d pn => (pss_one (ps_set (i := 2) sc__law_lacking.nd rfl (Or.inl rfl) (pv 3)))))
      (pss_cons (ps_if (pt_cmpR op_isN (pv 2) pe_non (nomark _))
        (pss_one (ps_ret pe_non))
        pss_nil)
      (pss_one (ps_ret (pe_xk (pv 2))))))), ?_⟩
  refine ⟨_, rfl, _, rfl, v, hh, beta, t, rfl, HH, hsz, hn, hH, hT, ht, ?_⟩
  rw [e]
  intro H2 f2 d G sG nd hd
  refine ⟨true, hm, fun _ a na => ?_, fun z => nomatch z⟩
  have hd2 := (same_new na (EzO (.ref CN) (some d) a)) _ _ hd
  refine ⟨_, rfl, ?_⟩
  refine ⟨_, rfl, rfl, _, rfl, iteN (fun z => by cases z) ?_⟩
  exact ⟨_, rfl, a, CN, d, _, _, rfl, upd_same, Z.xf, Z.no, hd2, rfl, q _ (f2.trans (FrS.of (sG.trans (same_new na _))))⟩
end
/-! ### k52: behind and the worths agree -/
open LamX NdefX
def DueAt (H : Hp) (d : V) (o : Out) : Prop := (∃ t s, d = .ref t ∧ o = .read s ∧ H t = some (.tup [.str "read", .str (SX.S s)])) ∨ ∃ t x, d = .ref t ∧ o = .worth x ∧ H t = some (.tup [.str "worth", .int x])
theorem nums_self {ps : List Pr} (nd : (ps.map (·.1)).Nodup) : mergeK [] (numsK ps) = numsK ps := by
  have h := nums_merge [] ps
  have hm : ∀ {m l : List Pr}, (m.map (·.1)).Nodup → (∀ t ∈ m.map (·.1), ¬ t ∈ l.map (·.1)) → merA l m = l ++ m := by
    intro m
    induction m with
    | nil => intro l _ _; exact (List.append_nil l).symm
    | cons p m ih =>
      intro l hn h
      obtain ⟨n1, n2⟩ := List.nodup_cons.mp hn
      show merA (putA l p.1 p.2) m = _
      rw [putA_new p.2 (h p.1 List.mem_cons_self), ih n2 fun t ht z => by
        rw [List.map_append] at z
        rcases List.mem_append.mp z with z | z
        · exact h t (List.mem_cons_of_mem _ ht) z
        · have : t = p.1 := List.mem_singleton.mp z
          exact n1 (by show p.1 ∈ _; rw [← this]; exact ht), List.append_assoc]
      rfl
  rw [hm (l := []) nd fun _ _ z => by cases z] at h
  exact h
theorem disp1 {i j : Nat} {t : List Nat} {x : V} {σ : L2.St} {H : Hp} {Q : VK} (hi : σ[i]? = some (some (V.str (SX.S t)))) (hj : σ[j]? = some (some x)) (q : ∀ p H', H p = none → Same H H' → H' p = some (.dK [(kT (SX.S t), x)]) → Q (.ref p) H') : tDisp [(tVar i, tVar j)] σ H Q := fun p np =>
  ⟨_, hi, _, hj, upd_same, [(kT (SX.S t), x)], rfl, (by show 1 ≤ 15; decide), q p _ np (fun b u e => by rw [upd_ne (ne_of_none e np), upd_ne (ne_of_none e np)]; exact e) upd_same⟩
theorem prs_pairs45 {K : PySem.W.Frag} {H : Hp} : ∀ {ps : List Pr} {vs : List V}, Prs H ps vs → ∃ as : List Addr, vs = as.map V.ref ∧ Paired (fun p kv => SqT K H p [kV kv.1, kv.2]) as (numsK ps)
  | [], [], _ => ⟨[], rfl, .nil⟩
  | p :: ps, v :: vs, ⟨⟨t, e, ht⟩, h⟩ => by
    obtain ⟨as, e2, pa⟩ := prs_pairs45 (K := K) h
    exact ⟨t :: as, by rw [e, e2]; rfl, .cons (SqT.of ht) pa⟩
  | [], _ :: _, h => h.elim
  | _ :: _, [], h => h.elim
theorem reads_shaped {ps : List Pr} (hn : ∀ p ∈ ps, Nm p.1) : SeqAt.shaped (Th.lst (ps.map pairTh)).py = true := by
  obtain ⟨b1, b2⟩ := prs_lay hn
  show (PyData.canLayAll0 (Th.pyL (ps.map pairTh)) && decide (PyData.depthAll (Th.pyL (ps.map pairTh)) + 1 ≤ 64)) = true
  rw [b1, decide_eq_true (by omega)]
  rfl
theorem cut_front (xs : List V) (y : V) : cutV (xs ++ [y]) none (some (-1)) = xs := by
  have hl : (xs ++ [y]).length = xs.length + 1 := by rw [List.length_append]; rfl
  have h1 : HT.sIx (xs.length + 1) (xs.length + 1) (some (-1)) = xs.length := by
    show (if (-1 : Int) < 0 then (-1 + ((xs.length + 1 : Nat) : Int)).toNat else min (-1 : Int).toNat (xs.length + 1)) = xs.length
    rw [if_pos (by decide)]
    omega
  show ((xs ++ [y]).drop (HT.sIx (xs ++ [y]).length 0 none)).take (HT.sIx (xs ++ [y]).length (xs ++ [y]).length (some (-1)) - HT.sIx (xs ++ [y]).length 0 none) = xs
  rw [hl, h1, show HT.sIx (xs.length + 1) 0 none = 0 from rfl, List.drop_zero, Nat.sub_zero, List.take_left']
  rfl
structure G52 (nm rd : List Pr) : Prop where
  nd : (rd.map (·.1)).Nodup
  mem : ∀ p ∈ rd, p ∈ nm
theorem G52.sub {nm rd : List Pr} (g : G52 nm rd) (nd : (nm.map (·.1)).Nodup) : ∀ t v, seen rd t = some v → seen nm t = some v := fun t v e => seen_in nd (g.mem _ (seen_mem e))
theorem G52.len {nm rd : List Pr} (g : G52 nm rd) : rd.length ≤ nm.length := by
  have := sub_lenR (m := nm.map (·.1)) g.nd fun s hs => by
    obtain ⟨p, hp, e⟩ := List.mem_map.mp hs
    rw [← e]
    exact List.mem_map.mpr ⟨p, g.mem p hp, rfl⟩
  rwa [List.length_map, List.length_map] at this
theorem G52.add {nm rd : List Pr} (g : G52 nm rd) {p : Pr} (hp : p ∈ nm) (n : seen rd p.1 = none) : G52 nm (rd ++ [p]) := by
  refine ⟨?_, fun q hq => ?_⟩
  · rw [List.map_append]
    refine List.nodup_append.mpr ⟨g.nd, by simp, fun a ha b hb e => ?_⟩
    rw [List.mem_singleton.mp hb] at e
    have e' : a = p.1 := e
    exact seen_none n (by rw [← e']; exact ha)
  · rcases List.mem_append.mp hq with h | h
    · exact g.mem q h
    · rw [List.mem_singleton.mp h]; exact hp
theorem rcp52 (g : List Pr) (own : List Nat) (r : Rcp) : rcpOf (hs52 g own r).recs own = some r := by
  show rcpOf [(own, r)] own = some r
  unfold rcpOf
  rw [List.find?_cons, decide_eq_true rfl]
  rfl
/-- the house, one row -/
structure Hou52 (K : PySem.W.Frag) (Tb : List NTab) (H : Hp) (own : List Nat) (r : Rcp) (rd : List Pr) (x : Int) (g : List Pr) (U : Addr) : Prop where
  hs : ∀ Y, FrS Tb [] H Y → HouseAt Y (hs52 g own r) (.ref U)
  ok : HouseOk 8 (hs52 g own r) bet0
  few : (hs52 g own r).given.length + (hs52 g own r).recs.length ≤ 100000
  lk : ∃ s', lkR (hs52 g own r) 2 emptyS own = .ok x s' ∧ s'.read = [(own, rd)] ∧ seen s'.known own = some x
def spRight52 (Tb : List NTab) : Sp := fun vs H Q _ => ∃ (v : V) (N : Addr) (own : List Nat) (r : Rcp) (nm : List Pr), vs = [v, .ref N, .str (SX.S own)] ∧ Rec H r v ∧ Rc52 (nm.map (·.1)) own r ∧ H N = some (.dK (numsK nm)) ∧ (∀ p ∈ nm, Nm p.1 ∧ p.2.natAbs < 2 ^ 21) ∧ (nm.map (·.1)).Nodup ∧ nm.length ≤ 90 ∧ TabsN Tb H ∧ ∀ H', FrS Tb [] H H' → Q (.bl true) H'
section
variable {P : Program} {w : World} {K : PySem.W.Frag} {mg : Str → Option Value} {base : Heap} {CN CR CNr : Addr} {Tb : List NTab}
abbrev s__law_right : Stmt := topS 41
abbrev N__law_right : List Str := ["r", "numbers", "own", "reads", "told", "worth", "house"]
theorem sc__law_right : FnScope N__law_right ["r", "numbers", "own"] (defScope s__law_right) := ⟨rfl, rfl, rfl, by decide +kernel, rfl, by decide +kernel, by decide +kernel⟩

theorem ok__law_right52 (T : Txt K mg) (D : IsDef K mg "_law_right" s__law_right ["r", "numbers", "own"]) (C_bh : Cal P w K mg base (L2.CX P w) 20 "behind" ["r", "reads"] (spBhd CNr)) (C_lack : Cal P w K mg base CX0 (lvR 8 2 + 3) "_law_lacking" ["house", "name"] (spLack Tb 8 2))
    (C_tr : Cal P w K mg base CX0 21 "is_true_record" ["thing"] spTrueR) (C_fb : Cal P w K mg base (L2.CX P w) (lvR 8 2 + 2) "fresh_build" ["house", "wishes"] (spFresh K CN CR Tb 8 2)) (C_w : Cal P w K mg base (L2.CX P w) (lvR 8 2 + 2) "worth_of" ["house", "name"] (spWorthOf CN CR Tb 8 2))
    (C_r : Cal P w K mg base (L2.CX P w) (lvR 8 2 + 2) "reads_of" ["house", "name"] (spReadsOf CN CR Tb 8 2)) : Cal P w K mg base CX0 (lvR 8 2 + 4) "_law_right" ["r", "numbers", "own"] (spRight52 Tb) := by
  have C_behind := C_bh.mono (show 20 ≤ lvR 8 2 + 3 by decide)
  have C__law_lacking := C_lack
  have C_is_true_record := C_tr.mono (show 21 ≤ lvR 8 2 + 3 by decide)
  have C_fresh_build := C_fb.mono (show lvR 8 2 + 2 ≤ lvR 8 2 + 3 by decide)
  have C_worth_of := C_w.mono (show lvR 8 2 + 2 ≤ lvR 8 2 + 3 by decide)
  have C_reads_of := C_r.mono (show lvR 8 2 + 2 ≤ lvR 8 2 + 3 by decide)
  refine D.cal (k := lvR 8 2 + 3) sc__law_right (fun vs H Q E h => ?_) (fun f cdv A outer s H vs Q E hr h => ?_)
  · obtain ⟨_, _, _, _, _, rfl, _⟩ := h
    rfl
  obtain ⟨v, N, own, r, nm, rfl, hRc, RC, hN, hnm, nd, hl, hT, q⟩ := h
  have hu : (cxOf CX0 P w K mg base N__law_right "_law_right" (defScope s__law_right) f cdv A outer s H E).A.units + 1 < cLine := Nat.lt_of_le_of_lt (Nat.add_le_add_left (by decide : 1 ≤ 64) _) hr.units
  have hNb := RC.nc.nb
  have wn := nc_wn RC.nc
  have d9 : r.dep ≤ 9 := Nat.le_succ_of_le RC.dp
  have isr := RC.rcp
  have notOwn : ∀ {l : List Pr}, G52 nm l → seen l own = none := fun {l} g => seen_not fun z => by
    obtain ⟨p, hp, e⟩ := List.mem_map.mp z
    exact RC.no (by rw [← e]; exact List.mem_map.mpr ⟨p, g.mem p hp, rfl⟩)
  have gAll : G52 nm nm := ⟨nd, fun _ h => h⟩
  have small : ∀ {l : List Pr}, G52 nm l → Small l := fun {l} g p hp => ⟨(hnm p (g.mem p hp)).1, Nat.lt_of_lt_of_le (hnm p (g.mem p hp)).2 (Nat.pow_le_pow_right (by decide) (by decide))⟩
  have hOk : ∀ {l : List Pr}, G52 nm l → HouseOk 8 (hs52 l own r) bet0 := fun {l} g => hs52_ok RC fun p hp => hnm p (g.mem p hp)
  have few : ∀ {l : List Pr}, G52 nm l → (hs52 l own r).given.length + (hs52 l own r).recs.length ≤ 100000 := fun {l} g => by
    have := g.len
    show l.length + 1 ≤ _
    omega
  refine ⟨_, (pss_cons (ps_set (i := 3) sc__law_right.nd rfl (Or.inl rfl) (pe_lstA pa_nil))
      (pss_cons (ps_set (i := 4) sc__law_right.nd rfl (Or.inl rfl) (pe_cal C_behind (hr.mono (by first | decide | omega)) passL (pa_cons (pv 0) (pa_cons (pe_callTy call_listA (by rfl) T.b_list (by decide +kernel) (pa_cons (pv 3) pa_nil)) pa_nil))))
      (pss_cons (ps_while PassesOwn.never (pt_cmpR op_eq (pe_ix (r := rIxT K) ix_tup (pv 4) pe_int (fun _ _ => rfl)) pe_str (nomark _))
        (pss_cons (ps_if (PW.pt (pw_or (pt_cmpR op_eq (pe_callB call_len_seq (by rfl) T.b_len PySem.boot_len (pa_cons (pv 3) pa_nil)) (pe_callB call_lenD (by rfl) T.b_len PySem.boot_len (pa_cons (pv 1) pa_nil)) (nomark _)) (pw_or1 (pt_cmp (pc_din hu (pe_ix (r := rIxT K) ix_tup (pv 4) pe_int (fun _ _ => rfl)) (pe_callTy (call_dictPA (K := K) rfl rfl) (by rfl) T.b_dict (by decide +kernel) (pa_cons (pv 3) pa_nil)))))))
        (pss_one (ps_ret pe_bl))
        pss_nil)
      (pss_cons (ps_if (pt_cmpR op_ne (pe_cal C__law_lacking (hr.mono (by first | decide | omega)) pass0 (pa_cons (pe_tupA (pa_cons (pe_callTy (call_dictPA (K := K) rfl rfl) (by rfl) T.b_dict (by decide +kernel) (pa_cons (pv 3) pa_nil)) (pa_cons (pe_disp (pps_cons (pv 2) (pv 0) pps_nil) (by rfl) (by rfl) (fun z => by cases z) (by decide)) pa_nil))) (pa_cons (pv 2) pa_nil))) (pe_ix (r := rIxT K) ix_tup (pv 4) pe_int (fun _ _ => rfl)) (nomark _))
        (pss_one (ps_ret pe_bl))
        pss_nil)
      (pss_cons (ps_expr (pe_bm PySem.F.plainAttrs_list PySem.F.slot_list_append PySem.F.type_list_append mt_append (pv 3) (pa_cons (pe_tupA (pa_cons (pe_ix (r := rIxT K) ix_tup (pv 4) pe_int (fun _ _ => rfl)) (pa_cons (pe_dget hu (pv 1) (pe_ix (r := rIxT K) ix_tup (pv 4) pe_int (fun _ _ => rfl)) (fun _ _ => rfl)) pa_nil))) pa_nil)))
      (pss_cons (ps_if (pt_val (pe_cal C_is_true_record (hr.mono (by first | decide | omega)) pass0 (pa_cons (pe_tupA (pa_cons (pv 0) (pa_cons (pe_callTy call_listA (by rfl) T.b_list (by decide +kernel) (pa_cons (pe_slice (r := rSlLA K) sl_listA (pv 3) po_none (po_some (pe_un un_neg pe_int))) pa_nil)) (pa_cons pe_int pa_nil)))) pa_nil)))
        (pss_one (ps_ret pe_bl))
        pss_nil)
      (pss_one (ps_set (i := 4) sc__law_right.nd rfl (Or.inl rfl) (pe_cal C_behind (hr.mono (by first | decide | omega)) passL (pa_cons (pv 0) (pa_cons (pe_callTy call_listA (by rfl) T.b_list (by decide +kernel) (pa_cons (pv 3) pa_nil)) pa_nil))))))))))
      (pss_cons (ps_set (i := 5) sc__law_right.nd rfl (Or.inl rfl) (pe_ix (r := rIxT K) ix_tup (pv 4) pe_int (fun _ _ => rfl)))
      (pss_cons (ps_for PassesOwn.never rfl (pi_list (pe_lstA (pa_cons (pe_tupA (pa_cons (pe_callTy (call_dictPA (K := K) rfl rfl) (by rfl) T.b_dict (by decide +kernel) (pa_cons (pv 3) pa_nil)) (pa_cons (pe_disp (pps_cons (pv 2) (pv 0) pps_nil) (by rfl) (by rfl) (fun z => by cases z) (by decide)) pa_nil))) (pa_cons (pe_tupA (pa_cons (pe_callTy call_dictDA (by rfl) T.b_dict (by decide +kernel) (pa_cons (pv 1) pa_nil)) (pa_cons (pe_disp (pps_cons (pv 2) (pv 0) pps_nil) (by rfl) (by rfl) (fun z => by cases z) (by decide)) pa_nil))) pa_nil)))) (pg_name (i := 6) sc__law_right.nd rfl (Or.inl rfl))
        (pss_cons (ps_if (PW.pt (pw_or (pt_cmpR op_ne (pe_cal C_worth_of (hr.mono (by first | decide | omega)) passL (pa_cons (pv 6) (pa_cons (pv 2) pa_nil))) (pv 5) (nomark _)) (pw_or1 (pt_cmpR (op_neD hr.units) (pe_cal C_reads_of (hr.mono (by first | decide | omega)) passL (pa_cons (pv 6) (pa_cons (pv 2) pa_nil))) (pv 3) (nomark _)))))
        (pss_one (ps_ret pe_bl))
        pss_nil)
      (pss_one (ps_if (pt_cmpR (op_neGD (hu199 hr)) (pe_ix (r := rIxT K) ix_tup (pe_cal C_fresh_build (hr.mono (by first | decide | omega)) passL (pa_cons (pv 6) (pa_cons (pe_lstA (pa_cons (pv 2) pa_nil)) pa_nil))) pe_int (fun _ _ => rfl)) (pe_disp (pps_cons (pv 2) (pe_tupA (pa_cons (pv 0) (pa_cons (pv 3) (pa_cons (pv 5) pa_nil)))) pps_nil) (by rfl) (by rfl) (fun z => by cases z) (by decide)) (nomark _))
        (pss_one (ps_ret pe_bl))
        pss_nil))))
      (pss_cons (ps_if (PW.pt (pw_or (pt_val (pe_cal C_is_true_record (hr.mono (by first | decide | omega)) pass0 (pa_cons (pe_tupA (pa_cons (pv 0) (pa_cons (pe_callTy call_listA (by rfl) T.b_list (by decide +kernel) (pa_cons (pv 3) pa_nil)) (pa_cons (pe_op op_add (pv 5) pe_int) pa_nil)))) pa_nil))) (pw_or1 (pt_val (pe_cal C_is_true_record (hr.mono (by first | decide | omega)) pass0 (pa_cons (pe_tupA (pa_cons (pv 0) (pa_cons (pe_op op_catU (pv 3) (pe_lstA (pa_cons (pe_tupA (pa_cons (pv 2) (pa_cons pe_int pa_nil))) pa_nil))) (pa_cons (pv 5) pa_nil)))) pa_nil))))))
        (pss_one (ps_ret pe_bl))
        pss_nil)
      (pss_one (ps_ret (pe_cal C_is_true_record (hr.mono (by first | decide | omega)) pass0 (pa_cons (pe_tupA (pa_cons (pv 0) (pa_cons (pv 3) (pa_cons (pv 5) pa_nil)))) pa_nil)))))))))), ?_⟩
  refine ⟨le_line (Nat.le_of_ble_eq_true rfl), fun R H1 nR s1' eR1 => ?_⟩
  have s1 : Same H H1 := s1'
  have tell : ∀ {H1 : Hp} {rd : List Pr} {Q1 : VK}, ((∃ t, outOf rd r = .read t) ∨ ∃ x, outOf rd r = .worth x) → (∀ d H', Same H1 H' → DueAt H' d (outOf rd r) → Q1 d H') → ∀ {Qn : Hp → Prop}, TellO Q1 Qn (outOf rd r) H1 := fun {H1 rd Q1} ho k {Qn} =>
    ⟨fun s t H' e s1 ht => k _ H' s1 (.inl ⟨t, s, rfl, e, ht⟩), fun x t H' e s1 ht => k _ H' s1 (.inr ⟨t, x, rfl, e, ht⟩), fun H' e _ => by
      rcases ho with ⟨t, h⟩ | ⟨x, h⟩
      · rw [h] at e; cases e
      · rw [h] at e; cases e⟩
  refine ⟨_, rfl, _, rfl, R, _, rfl, .inl (SqL.of eR1), fun L0 H2 nL0 s2' eL0 => ?_⟩
  have s2 : Same H1 H2 := s2'
  refine ⟨v, L0, r, [], [], rfl, hRc.same (s1.trans s2), hNb, d9, eL0, trivial, Nat.zero_le _, fun _ h => (nomatch h), tell (out_first r) fun d H3 s3 hd => ?_⟩
  refine ⟨fun m σ Y => ∃ (d : V) (rd : List Pr) (xs : List V), σ = [some v, some (.ref N), some (.str (SX.S own)), some (.ref R), some d, none, none] ∧ FrS Tb [] H Y ∧ Y R = some (.lst xs) ∧ Prs Y rd xs ∧ DueAt Y d (outOf rd r) ∧ G52 nm rd ∧ m = nm.length - rd.length,
    ⟨_, d, [], [], rfl, FrS.of ((s1.trans s2).trans s3), (s2.trans s3) _ _ eR1, trivial, hd, ⟨List.nodup_nil, fun _ h => (nomatch h)⟩, rfl⟩, ?_⟩
  clear hd s3 s2 s2' s1 s1' eR1 eL0
  rintro m σ X ⟨d, rd, xs, rfl, f0, eR, hP, hd, hg, rfl⟩
  have hrl := hg.len
  have hxl := hP.len
  have eN := f0.dk hN
  have hRc0 := hRc.keep f0.kp
  rcases hd with ⟨t, s0, rfl, ho, ht⟩ | ⟨t, x, rfl, ho, ht⟩
  · obtain ⟨hgo, _⟩ := out_next 0 ho
    obtain ⟨hmem, hseen⟩ := go_name hNb (Nat.zero_le _) hgo
    obtain ⟨p0, hp0, ep0⟩ := List.mem_map.mp (RC.nm s0 hmem)
    obtain ⟨s0', y0⟩ := p0
    have ep0 : s0' = s0 := ep0
    subst ep0
    have hg2 := hg.add hp0 hseen
    have hrl2 := hg2.len
    rw [List.length_append] at hrl2
    have hrl3 : rd.length + 1 ≤ nm.length := hrl2
    obtain ⟨_, hnext⟩ := out_next y0 ho
    have hlk : lkR (hs52 rd own r) 2 emptyS own = .err (.noName s0') := lk52_no 0 ho (notOwn hg) hseen fun z => RC.no (by rw [← z]; exact RC.nm s0' hmem)
    obtain ⟨as, eas, pas⟩ := prs_pairs45 (K := K) hP
    have eR' : X R = some (.lst (as.map V.ref)) := by rw [eR, eas]
    refine ⟨_, rfl, t, _, _, _, rfl, rfl, SqT.of ht, rfl, rfl, _, rfl, iteY rfl ?_⟩
    refine ⟨_, fun σ' H' h => h, ?_⟩
    refine ⟨_, rfl, R, _, rfl, .inl (SqL.of eR), _, rfl, N, _, rfl, eN, rfl, _, rfl, iteN (fun z => by have z' := V.int.inj z; rw [numsK_len, hxl] at z'; omega) ?_⟩
    refine ⟨_, rfl, t, _, _, _, rfl, rfl, SqT.of ht, rfl, _, rfl, R, as, numsK rd, rfl, SqL.of eR', pas, fun G1 X1 nG1 x1' eG1 => ?_⟩
    rw [nums_self hg.nd] at eG1
    have x1 : Same X X1 := x1'
    refine ⟨G1, none, rfl, (by have := DGet.k (k := kT (SX.S s0')) eG1; rw [val_seen, hseen] at this; exact this), _, rfl, iteF ?_⟩
    -- what is lacking
    have P1 := hP.same x1
    obtain ⟨as2, eas2, pas2⟩ := prs_pairs45 (K := K) P1
    refine ⟨_, rfl, R, as2, numsK rd, rfl, (by rw [← eas2]; exact SqL.of (x1 _ _ eR)), pas2, fun G2 X2 nG2 x2' eG2 => ?_⟩
    rw [nums_self hg.nd] at eG2
    have x2 : Same X1 X2 := x2'
    refine disp1 (t := own) (x := v) rfl rfl fun RD X3 nRD x3 eRD => ?_
    refine ⟨le_line (Nat.le_of_ble_eq_true rfl), fun U X4 nU x4' eU => ?_⟩
    have x4 : Same X3 X4 := x4'
    have x34 : Same X X4 := (x1.trans x2).trans (x3.trans x4)
    have f4 := f0.trans (FrS.of (Tb := Tb) (S := []) x34)
    refine ⟨_, rfl, .ref U, hs52 rd own r, bet0, own, s0', rfl, hOk hg, few hg, (by show 1 + 1 ≤ 2; decide), ⟨U, G2, RD, _, rfl, eU, (x3.trans x4) _ _ eG2, .inl (x4 _ _ eRD), ⟨rfl, hRc.keep f4.kp, trivial⟩⟩, f4.2.2 hT, RC.on, hlk, fun X5 g5 => ?_⟩
    have f45 : FrS Tb [] X X5 := (FrS.of x34).trans g5
    have ht5 := f45.tup ht
    refine ⟨_, rfl, t, _, _, _, rfl, rfl, SqT.of ht5, rfl, rfl, _, rfl, not_true_eq (decide_eq_true rfl) ?_⟩
    -- the read is put down
    have f5 := f0.trans f45
    have eN5 := f5.dk hN
    have eR5 := f45.lst eR
    have P5 := hP.keep f45.kp
    have dg : DGet X5 N (.str (SX.S s0')) (some (.int y0)) := by
      have := DGet.k (k := kT (SX.S s0')) eN5
      rw [val_seen, seen_in nd hp0] at this
      exact this
    refine ⟨_, rfl, .inl ⟨rfl, _, SqL.of eR5⟩, _, rfl, t, _, _, _, rfl, rfl, SqT.of ht5, rfl, _, rfl, _, rfl, t, _, _, _, rfl, rfl, SqT.of ht5, rfl, N, _, rfl, dg, le_line (Nat.le_of_ble_eq_true rfl), fun u X6 nu x6' eu => ?_⟩
    have x6 : Same X5 X6 := x6'
    have eR6 := x6 _ _ eR5
    refine ⟨R, _, _, rfl, rfl, eR6, lt_line (by omega), ?_⟩
    have f6 := f5.trans (FrS.of (Tb := Tb) (S := []) x6)
    have f7 : FrS Tb [] H (upd X6 R (.lst (xs ++ [.ref u]))) := f6.put0 nR (.inr ⟨_, eR6⟩)
    have eR7 : upd X6 R (.lst (xs ++ [.ref u])) R = some (.lst (xs ++ [.ref u])) := upd_same
    have P7 : Prs (upd X6 R (.lst (xs ++ [.ref u]))) (rd ++ [(s0', y0)]) (xs ++ [.ref u]) := (Prs.snoc (p := (s0', y0)) eu (P5.same x6)).keep (keep_lst eR6)
    have P7f : Prs (upd X6 R (.lst (xs ++ [.ref u]))) rd xs := (P5.same x6).keep (keep_lst eR6)
    generalize upd X6 R (.lst (xs ++ [.ref u])) = X7 at f7 eR7 P7 P7f ⊢
    -- less than is read is no true record
    refine ⟨_, rfl, _, rfl, 1, rfl, -1, rfl, R, _, rfl, SqL.of eR7, fun S1 X8 nS1 x8' eS1 => ?_⟩
    have x8 : Same X7 X8 := x8'
    rw [cut_front] at eS1
    refine ⟨S1, _, rfl, .inl (SqL.of eS1), fun S2 X9 nS2 x9' eS2 => ?_⟩
    have x9 : Same X8 X9 := x9'
    refine ⟨le_line (Nat.le_of_ble_eq_true rfl), fun T1 Y1 nT1 y1' eT1 => ?_⟩
    have y1 : Same X9 Y1 := y1'
    have y0' : Same X7 Y1 := (x8.trans x9).trans y1
    have f71 := f7.trans (FrS.of (Tb := Tb) (S := []) y0')
    have P71 := P7.same y0'
    have Pf := P7f.same y0'
    refine ⟨.ref T1, r, rd, 0, rfl, ⟨T1, S2, v, xs, rfl, eT1, y1 _ _ eS2, hRc.keep f71.kp, Pf⟩, Rcp.tameW wn, hNb, fun _ => d9, small hg, by omega, fun Y2 y2 => ⟨_, rfl, ?_⟩⟩
    rw [show trueR r rd 0 = false by unfold trueR; rw [ho]; exact Bool.and_false _]
    refine iteF ?_
    refine ⟨_, rfl, _, rfl, R, _, rfl, .inl (SqL.of ((y0'.trans y2) _ _ eR7)), fun L4 Y3 nL4 y3' eL4 => ?_⟩
    have y3 : Same Y2 Y3 := y3'
    have f73 := f7.trans (FrS.of (Tb := Tb) (S := []) ((y0'.trans y2).trans y3))
    have P73 := P7.same ((y0'.trans y2).trans y3)
    refine ⟨v, L4, r, rd ++ [(s0', y0)], _, rfl, hRc.keep f73.kp, hNb, d9, eL4, P73, by rw [List.length_append]; show rd.length + 1 ≤ 1000000; omega, small hg2, tell hnext fun d Y4 y4 hd4 => ?_⟩
    exact ⟨_, by rw [List.length_append]; show nm.length - (rd.length + 1) < _; omega, d, rd ++ [(s0', y0)], _, rfl, f73.trans (FrS.of y4), (((y0'.trans y2).trans y3).trans y4) _ _ eR7, P73.same y4, hd4, hg2, rfl⟩
  · refine ⟨_, rfl, t, _, _, _, rfl, rfl, SqT.of ht, rfl, rfl, _, rfl, iteN (sne (by decide +kernel)) ?_⟩
    refine ⟨_, rfl, t, _, _, _, rfl, rfl, SqT.of ht, rfl, ?_⟩
    obtain ⟨as, eas, pas⟩ := prs_pairs45 (K := K) hP
    have eR' : X R = some (.lst (as.map V.ref)) := by rw [eR, eas]
    have one1 : ∀ u ∈ [own], Nm u := fun u hu => by rw [List.mem_singleton.mp hu]; exact RC.on
    have rdn : ∀ p ∈ rd, Nm p.1 := fun p hp => (hnm p (hg.mem p hp)).1
    have rsh := reads_shaped rdn
    have req : PyData.eqv (Th.lst (rd.map pairTh)).py (Th.lst (rd.map pairTh)).py = true := SeqAt.eqv_refl _ (SeqAt.canLay_of_shaped rsh)
    have rowsh : ∀ p ∈ [(own, ((rd, r, x) : List Pr × Rcp × Int))], SeqAt.shaped (rowTh p.2).py = true := fun p hp => by
      rw [List.mem_singleton.mp hp]
      exact rowTh_shapedW wn (Nat.le_trans RC.dp (by decide)) rdn
    refine ⟨_, rfl, R, as, numsK rd, rfl, SqL.of eR', pas, fun G1 X1 nG1 x1' eG1 => disp1 (t := own) (x := v) rfl rfl fun RD1 X2 nRD1 x2 eRD1 => ⟨le_line (Nat.le_of_ble_eq_true rfl), fun U1 X3 nU1 x3' eU1 => ?_⟩⟩
    rw [nums_self hg.nd] at eG1
    have x1 : Same X X1 := x1'
    have x3 : Same X2 X3 := x3'
    have x03 : Same X X3 := (x1.trans x2).trans x3
    refine ⟨_, rfl, N, _, rfl, .inl (x03 _ _ eN), fun G2 X4 nG2 x4' eG2 => disp1 (t := own) (x := v) rfl rfl fun RD2 X5 nRD2 x5 eRD2 => ⟨le_line (Nat.le_of_ble_eq_true rfl), fun U2 X6 nU2 x6' eU2 => ⟨le_line (Nat.le_of_ble_eq_true rfl), fun Ls X7 nLs x7' eLs => ?_⟩⟩⟩
    have x4 : Same X3 X4 := x4'
    have x6 : Same X5 X6 := x6'
    have x7 : Same X6 X7 := x7'
    have x37 : Same X3 X7 := ((x4.trans x5).trans x6).trans x7
    have x47 : Same X4 X7 := (x5.trans x6).trans x7
    have x07 : Same X X7 := x03.trans x37
    have f7 := f0.trans (FrS.of (Tb := Tb) (S := []) x07)
    have hRc7 := hRc.keep f7.kp
    have eR7 := x07 _ _ eR
    have P7 := hP.same x07
    have A1 : Hou52 K Tb X7 own r rd x rd U1 := ⟨fun Y f => ⟨U1, G1, RD1, _, rfl, f.tup (x37 _ _ eU1), f.dk (x37 _ _ ((x2.trans x3) _ _ eG1)), .inl (f.dk (x37 _ _ (x3 _ _ eRD1))), ⟨rfl, hRc7.keep f.kp, trivial⟩⟩, hOk hg, few hg, lk52_ok 0 ho (fun _ _ h => h) (notOwn hg)⟩
    have A2 : Hou52 K Tb X7 own r rd x nm U2 := ⟨fun Y f => ⟨U2, G2, RD2, _, rfl, f.tup (x7 _ _ eU2), f.dk (x47 _ _ eG2), .inl (f.dk ((x6.trans x7) _ _ eRD2)), ⟨rfl, hRc7.keep f.kp, trivial⟩⟩, hOk gAll, few gAll, lk52_ok 0 ho (hg.sub nd) (notOwn gAll)⟩
    clear eas pas eR' eG1 eRD1 eU1 eG2 eRD2 eU2
    refine ⟨Ls, rfl, ⟨_, SqL.of eLs⟩, for_list (xs := [V.ref U1, .ref U2]) (fun j σ Z => ∃ w6 : Option V, σ = [some v, some (.ref N), some (.str (SX.S own)), some (.ref R), some (.ref t), some (.int x), w6] ∧ FrS Tb [] X7 Z) ⟨none, rfl, FrS.refl _ _⟩ (fun j σ Z _ ⟨_, _, f⟩ => SqL.of (f.lst eLs)) ?_ ?_⟩
    · rintro j y σ Z hx ⟨w6, rfl, fZ⟩
      obtain ⟨U, g, ey, A⟩ : ∃ (U : Addr) (g : List Pr), y = .ref U ∧ Hou52 K Tb X7 own r rd x g U := by
        match j, hx with
        | 0, hx => cases hx; exact ⟨_, _, rfl, A1⟩
        | 1, hx => cases hx; exact ⟨_, _, rfl, A2⟩
        | j + 2, hx => cases hx
      subst ey
      clear A1 A2 hx
      obtain ⟨s', eA, rA, kA⟩ := A.lk
      refine in_name rfl ?_
      refine ⟨_, rfl, _, rfl, .ref U, hs52 g own r, bet0, own, rfl, A.ok, A.few, (by show 1 + 1 ≤ 2; decide), A.hs _ fZ, (f7.trans fZ).2.2 hT, RC.on, ?_⟩
      rw [eA]
      intro x1 B8 g8 ex1
      subst ex1
      refine ⟨_, rfl, rfl, _, rfl, not_true_eq (decide_eq_true rfl) ?_⟩
      have f8 := fZ.trans g8
      refine ⟨_, rfl, _, rfl, .ref U, hs52 g own r, bet0, own, rfl, A.ok, A.few, (by show 1 + 1 ≤ 2; decide), A.hs _ f8, (f7.trans f8).2.2 hT, RC.on, ?_⟩
      rw [eA]
      intro x2 B9 g9 ⟨La, xa, ex2, _, eLa, hPa⟩
      subst ex2
      have erf : readsFor s' own = rd := by
        unfold readsFor
        rw [rA, getA_cons, if_pos rfl]
        rfl
      rw [erf] at hPa
      have f9 := f8.trans g9
      have rD : ∀ {Y : Hp} {L : Addr} {ys : List V}, Y L = some (.lst ys) → Prs Y rd ys → Data Y (Th.lst (rd.map pairTh)) (.ref L) := fun {Y L ys} e p => ⟨L, ys, rfl, e, p.data⟩
      refine ⟨_, rfl, _, _, Data.dp (t := .lst (rd.map pairTh)) (prs_flat _) (rD eLa hPa), Data.dp (t := .lst (rd.map pairTh)) (prs_flat _) (rD (f9.lst eR7) (P7.keep f9.kp)), rsh, rsh, _, rfl, not_true_eq req ?_⟩
      refine ⟨_, rfl, _, rfl, le_line (Nat.le_of_ble_eq_true rfl), fun W1 C6 nW1 c6' eW1 => ?_⟩
      have c6 : Same B9 C6 := c6'
      have eW1 : C6 W1 = some (.lst (txs [own])) := eW1
      have f10 := f9.trans (FrS.of (Tb := Tb) (S := []) c6)
      refine ⟨.ref U, W1, hs52 g own r, bet0, [own], rfl, A.ok, A.few, (by show 1 + 1 ≤ 2; decide), A.hs _ f10, (f7.trans f10).2.2 hT, SqL.of eW1, (by show 1 ≤ 100000; decide), one1, ?_⟩
      rw [show lkAll (hs52 g own r) 2 emptyS [own] = .ok 0 s' by unfold lkAll; rw [eA]; rfl]
      intro F1 kD1 rD1 nD1 kv1 C7 g7 _ _ _ _ _ eF1 ekD1 erD1 hO1 enD1
      rw [show s'.read.map (rowOf (hs52 g own r) s') = [(own, (rd, r, x))] by rw [rA]; show [(own, (rd, (rcpOf (hs52 g own r).recs own).getD (.num 0), (seen s'.known own).getD 0))] = _; rw [rcp52, kA]; rfl] at hO1
      refine ⟨F1, _, 1, _, rfl, rfl, SqT.of eF1, rfl, ?_⟩
      have f11 := f10.trans g7
      refine fun RD nRD => ⟨_, rfl, _, rfl, _, rfl, _, rfl, le_line (Nat.le_of_ble_eq_true rfl), fun T0 C4 nT0 c4' eT0 => ?_⟩
      have c4 : Same (upd C7 RD (.dK [])) C4 := c4'
      have eRD0 : upd C7 RD (.dK []) RD = some (.dK []) := upd_same
      refine ⟨c4 _ _ eRD0, [(kT (SX.S own), .ref T0)], rfl, (by show 1 ≤ 15; decide), ?_⟩
      have s23 : Same C7 (upd C4 RD (.dK [(kT (SX.S own), .ref T0)])) := same_upd ((same_new nRD _).trans c4) nRD _
      have nTRD : T0 ≠ RD := fun z => by rw [z, eRD0] at nT0; cases nT0
      rw [show mergeK [] [(kT (SX.S own), V.ref T0)] = [(kT (SX.S own), V.ref T0)] from rfl]
      have eRD : upd C4 RD (.dK [(kT (SX.S own), .ref T0)]) RD = some (.dK [(kT (SX.S own), .ref T0)]) := upd_same
      have eT0' : upd C4 RD (.dK [(kT (SX.S own), .ref T0)]) T0 = some (.tup [v, .ref R, .int x]) := by rw [upd_ne nTRD]; exact eT0
      generalize upd C4 RD (.dK [(kT (SX.S own), .ref T0)]) = C5 at s23 eRD eT0' ⊢
      have g5 : FrS Tb [] X7 C5 := f11.trans (FrS.of s23)
      have row5 : RowR C5 (rd, r, x) (.ref T0) := ⟨T0, v, R, xs, rfl, eT0', hRc7.keep g5.kp, g5.lst eR7, P7.keep g5.kp⟩
      have h1 : KvR (RowR C5) [(own, ((rd, r, x) : List Pr × Rcp × Int))] kv1 := hO1.imp fun _ _ h => h.st (same_keep s23) fun b l e => s23 _ _ e
      obtain ⟨r1', r2'⟩ := rows_same (K := K) (H := C5) (n := 79) (by decide) h1 (ls := [(kT (SX.S own), .ref T0)]) ⟨rfl, row5, trivial⟩ (List.nodup_cons.mpr ⟨(fun z => nomatch z), List.nodup_nil⟩) rowsh
      refine ⟨⟨rD1, RD, _, _, rfl, rfl, s23 _ _ erD1, eRD, r1', r2'⟩, _, rfl, iteF ?_⟩
      exact ⟨_, rfl, g5⟩
    · rintro σ Z ⟨w6, rfl, fZ⟩
      have eRZ := fZ.lst eR7
      refine ⟨_, rfl, _, rfl, R, _, rfl, .inl (SqL.of eRZ), fun S2 Z1 nS2 z1' eS2 => ?_⟩
      have z1 : Same Z Z1 := z1'
      refine ⟨_, rfl, _, _, rfl, rfl, le_line (Nat.le_of_ble_eq_true rfl), fun T1 Z2 nT1 z2' eT1 => ?_⟩
      have z2 : Same Z1 Z2 := z2'
      have f2 := fZ.trans (FrS.of (Tb := Tb) (S := []) (z1.trans z2))
      refine ⟨.ref T1, r, rd, x + 1, rfl, ⟨T1, S2, v, xs, rfl, eT1, z2 _ _ eS2, hRc7.keep f2.kp, P7.keep f2.kp⟩, Rcp.tameW wn, hNb, fun _ => d9, small hg, by omega, fun Z3 z3 => ⟨_, rfl, ?_⟩⟩
      rw [show trueR r rd (x + 1) = false by unfold trueR; rw [ho, isr]; exact decide_eq_false (by omega)]
      refine iteF ?_
      have f3 := f2.trans (FrS.of (Tb := Tb) (S := []) z3)
      refine ⟨_, rfl, _, rfl, _, rfl, le_line (Nat.le_of_ble_eq_true rfl), fun T2 Z4 nT2 z4' eT2 => ⟨le_line (Nat.le_of_ble_eq_true rfl), fun S3 Z5 nS3 z5' eS3 => ?_⟩⟩
      have z4 : Same Z3 Z4 := z4'
      have z5 : Same Z4 Z5 := z5'
      have f5 := f3.trans (FrS.of (Tb := Tb) (S := []) (z4.trans z5))
      refine ⟨R, S3, _, _, rfl, rfl, f5.lst eR7, eS3, Nat.le_trans (show xs.length + 1 ≤ 1000 by omega) (by decide), fun S4 Z6 nS4 z6' eS4 => ⟨_, rfl, le_line (Nat.le_of_ble_eq_true rfl), fun T3 Z7 nT3 z7' eT3 => ?_⟩⟩
      have z6 : Same Z5 Z6 := z6'
      have z7 : Same Z6 Z7 := z7'
      have f77 := f5.trans (FrS.of (Tb := Tb) (S := []) (z6.trans z7))
      have P9 : Prs Z7 (rd ++ [(own, 1)]) (xs ++ [.ref T2]) := Prs.snoc (p := (own, 1)) (((z5.trans z6).trans z7) _ _ eT2) (P7.keep f77.kp)
      refine ⟨.ref T3, r, rd ++ [(own, 1)], x, rfl, ⟨T3, S4, v, _, rfl, eT3, z7 _ _ eS4, hRc7.keep f77.kp, P9⟩, Rcp.tameW wn, hNb, fun _ => d9, (fun p hp => by
        rcases List.mem_append.mp hp with h | h
        · exact small hg p h
        · rw [List.mem_singleton.mp h]; exact ⟨RC.on, (by decide : (1 : Int).natAbs < 2 ^ 400)⟩), by rw [List.length_append]; show rd.length + 1 ≤ _; omega, fun Z8 z8 => ⟨_, rfl, ?_⟩⟩
      rw [show trueR r (rd ++ [(own, 1)]) x = false by unfold trueR; rw [out_over _ ho]; exact Bool.and_false _]
      refine iteF ?_
      have f8 := f77.trans (FrS.of (Tb := Tb) (S := []) z8)
      refine ⟨_, rfl, _, rfl, _, rfl, le_line (Nat.le_of_ble_eq_true rfl), fun T4 Z9 nT4 z9' eT4 => ?_⟩
      have z9 : Same Z8 Z9 := z9'
      have f9 := f8.trans (FrS.of (Tb := Tb) (S := []) z9)
      refine ⟨.ref T4, r, rd, x, rfl, ⟨T4, R, v, xs, rfl, eT4, f9.lst eR7, hRc7.keep f9.kp, P7.keep f9.kp⟩, Rcp.tameW wn, hNb, fun _ => d9, small hg, by omega, fun Z0 z0 => ?_⟩
      rw [show trueR r rd x = true by unfold trueR; rw [ho, isr]; exact decide_eq_true rfl]
      exact q _ ((f7.trans f9).trans (FrS.of z0))
end
/-! ### k52: a sum of names, laid by halves: plain facts -/
open LamX NdefX
def SumR : Rcp → Prop
  | .read _ => True
  | .two k a b => k = .plus ∧ SumR a ∧ SumR b
  | _ => False
def sumP (l : List Pr) : Int := (l.map (·.2)).sum
theorem sumP_app (a b : List Pr) : sumP (a ++ b) = sumP a + sumP b := by
  unfold sumP
  rw [List.map_append, List.sum_append]
theorem go_sum {F : List Pr} (nd : (F.map (·.1)).Nodup) {a : Nat} (ha : a ≤ F.length) : ∀ {r : Rcp} {n : Nat} {post : List (List Nat)}, SumR r → n ≤ a → (F.drop n).map (·.1) = r.nms ++ post →
    (n + r.nms.length ≤ a → go (F.take a) r n = .ok (sumP ((F.drop n).take r.nms.length)) (n + r.nms.length)) ∧ (a < n + r.nms.length → ∃ p, F[a]? = some p ∧ go (F.take a) r n = .lack p.1)
  | .num _, _, _, h, _, _ => h.elim
  | .pick _ _ _, _, _, h, _, _ => h.elim
  | .choose _ _, _, _, h, _, _ => h.elim
  | .read s, n, post, _, hn, e => by
    have e : (F.drop n).map (·.1) = s :: post := e
    have hl : n < F.length := by
      by_cases c : n < F.length
      · exact c
      · rw [List.drop_eq_nil_of_le (by omega)] at e; cases e
    have ed := List.drop_eq_getElem_cons hl
    rw [ed, List.map_cons] at e
    have hs : F[n].1 = s := (List.cons.inj e).1
    have hq : F[n]? = some F[n] := List.getElem?_eq_getElem hl
    have hsn : seen ((F.take a).take n) s = none := by
      rw [List.take_take, Nat.min_eq_left hn]
      refine seen_not fun z => ?_
      obtain ⟨p, hp, ep⟩ := List.mem_map.mp z
      obtain ⟨i, hi, ei⟩ := List.mem_iff_getElem.mp hp
      have hi' : i < n := by rw [List.length_take] at hi; omega
      have h1 := seen_at nd (i := i) (p := p) (by rw [List.getElem?_eq_getElem (by omega)]; rw [List.getElem_take] at ei; rw [ei])
      have h2 := List.pairwise_iff_getElem.mp (List.nodup_iff_pairwise_ne.mp nd) i n (by rw [List.length_map]; omega) (by rw [List.length_map]; omega) hi'
      rw [List.getElem_map, List.getElem_map] at h2
      rw [List.getElem_take] at ei
      exact h2 (by rw [ei, ep, hs])
    refine ⟨fun h => ?_, fun h => ?_⟩
    · have h : n + 1 ≤ a := h
      have hr : (F.take a)[n]? = some F[n] := by rw [List.getElem?_take_of_lt (by omega)]; exact hq
      refine (lookG_right hsn hr hs).trans ?_
      rw [ed]
      show Res.ok F[n].2 (n + 1) = Res.ok (sumP [F[n]]) (n + 1)
      rw [show sumP [F[n]] = F[n].2 + 0 from rfl, Int.add_zero]
    · have h : a < n + 1 := h
      have : a = n := by omega
      subst this
      exact ⟨_, hq, (lookG_last hsn (List.getElem?_eq_none (by rw [List.length_take]; omega))).trans (by rw [hs])⟩
  | .two k x y, n, post, h, hn, e => by
    obtain ⟨rfl, hx, hy⟩ := h
    have e : (F.drop n).map (·.1) = (x.nms ++ y.nms) ++ post := e
    rw [List.append_assoc] at e
    have el : (Rcp.two .plus x y).nms.length = x.nms.length + y.nms.length := List.length_append
    obtain ⟨x1, x2⟩ := go_sum nd ha hx hn e
    have e2 : (F.drop (n + x.nms.length)).map (·.1) = y.nms ++ post := by
      rw [← List.drop_drop, List.map_drop, e, List.drop_left']
      rfl
    rw [el]
    refine ⟨fun h => ?_, fun h => ?_⟩
    · obtain ⟨y1, _⟩ := go_sum nd ha hy (show n + x.nms.length ≤ a by omega) e2
      show (go (F.take a) x n).bind _ = _
      rw [x1 (by omega)]
      show (go (F.take a) y (n + x.nms.length)).bind _ = _
      rw [y1 (by omega), List.take_add, sumP_app, List.drop_drop]
      show Res.ok _ _ = Res.ok _ _
      rw [Nat.add_assoc]
      rfl
    · by_cases c : a < n + x.nms.length
      · obtain ⟨p, hp, g⟩ := x2 c
        refine ⟨p, hp, ?_⟩
        show (go (F.take a) x n).bind _ = _
        rw [g]
        rfl
      · obtain ⟨_, y2⟩ := go_sum nd ha hy (show n + x.nms.length ≤ a by omega) e2
        obtain ⟨p, hp, g⟩ := y2 (by omega)
        refine ⟨p, hp, ?_⟩
        show (go (F.take a) x n).bind _ = _
        rw [x1 (by omega)]
        show (go (F.take a) y (n + x.nms.length)).bind _ = _
        rw [g]
        rfl
theorem sum_read {F : List Pr} (nd : (F.map (·.1)).Nodup) {r : Rcp} (h : SumR r) (e : r.nms = F.map (·.1)) {a : Nat} (ha : a < F.length) : ∃ p, F[a]? = some p ∧ outOf (F.take a) r = .read p.1 := by
  obtain ⟨p, hp, g⟩ := (go_sum nd (Nat.le_of_lt ha) (n := 0) (post := []) h (Nat.zero_le _) (by rw [e, List.append_nil]; rfl)).2 (by rw [e, List.length_map]; omega)
  exact ⟨p, hp, out_lack g⟩
theorem sum_worth {F : List Pr} (nd : (F.map (·.1)).Nodup) {r : Rcp} (h : SumR r) (e : r.nms = F.map (·.1)) : outOf F r = .worth (sumP F) := by
  have g := (go_sum nd (Nat.le_refl F.length) (n := 0) (post := []) h (Nat.zero_le _) (by rw [e, List.append_nil]; rfl)).1 (by rw [e, List.length_map]; omega)
  rw [List.take_length, e, List.length_map, List.drop_zero, List.take_length, Nat.zero_add] at g
  exact (out_ok g).trans (if_neg (Nat.lt_irrefl _))
theorem sum_siz : ∀ {r : Rcp}, SumR r → r.siz + 1 = 2 * r.nms.length
  | .read _, _ => rfl
  | .two k a b, h => by
    have ha := sum_siz h.2.1
    have hb := sum_siz h.2.2
    have e1 : (Rcp.two k a b).siz = a.siz + b.siz + 1 := rfl
    have e2 : (Rcp.two k a b).nms.length = a.nms.length + b.nms.length := List.length_append
    omega
  | .num _, h => h.elim
  | .pick _ _ _, h => h.elim
  | .choose _ _, h => h.elim
theorem sum_nc : ∀ {r : Rcp}, SumR r → (∀ s ∈ r.nms, Nm s) → r.Nc
  | .read s, _, h => h s (List.mem_singleton.mpr rfl)
  | .two _ _ _, h, n => ⟨sum_nc h.2.1 fun s hs => n s (List.mem_append_left _ hs), sum_nc h.2.2 fun s hs => n s (List.mem_append_right _ hs)⟩
  | .num _, h, _ => h.elim
  | .pick _ _ _, h, _ => h.elim
  | .choose _ _, h, _ => h.elim
def halve : List Rcp → List Rcp
  | a :: b :: l => .two .plus a b :: halve l
  | l => l
theorem halve_len : ∀ l : List Rcp, (halve l).length = (l.length + 1) / 2
  | [] => by simp [halve]
  | [_] => by simp [halve]
  | a :: b :: l => by
    show (halve l).length + 1 = (l.length + 1 + 1 + 1) / 2
    rw [halve_len l]
    omega
theorem halve_two : ∀ {l : List Rcp} {j : Nat} {a b : Rcp}, l[2 * j]? = some a → l[2 * j + 1]? = some b → (halve l)[j]? = some (.two .plus a b)
  | [], _, _, _, h, _ => by simp at h
  | [x], 0, _, _, _, h => by simp at h
  | [x], j + 1, _, _, h, _ => by rw [show 2 * (j + 1) = 2 * j + 1 + 1 by omega] at h; simp at h
  | x :: y :: l, 0, a, b, h1, h2 => by
    have h1 : x = a := by simpa using h1
    have h2 : y = b := by simpa using h2
    rw [← h1, ← h2]
    rfl
  | x :: y :: l, j + 1, a, b, h1, h2 => by
    rw [show 2 * (j + 1) = 2 * j + 1 + 1 by omega] at h1 h2
    exact halve_two (l := l) (j := j) (by simpa using h1) (by simpa using h2)
theorem halve_one : ∀ {l : List Rcp} {j : Nat} {a : Rcp}, l[2 * j]? = some a → l[2 * j + 1]? = none → (halve l)[j]? = some a
  | [], _, _, h, _ => by simp at h
  | [x], 0, _, h, _ => h
  | [x], j + 1, _, h, _ => by rw [show 2 * (j + 1) = 2 * j + 1 + 1 by omega] at h; simp at h
  | x :: y :: l, 0, a, _, h2 => by simp at h2
  | x :: y :: l, j + 1, a, h1, h2 => by
    rw [show 2 * (j + 1) = 2 * j + 1 + 1 by omega] at h1 h2
    exact halve_one (l := l) (j := j) (by simpa using h1) (by simpa using h2)
def allN (l : List Rcp) : List (List Nat) := (l.map Rcp.nms).flatten
theorem halve_nms : ∀ l : List Rcp, allN (halve l) = allN l
  | [] => rfl
  | [_] => rfl
  | a :: b :: l => by
    show (a.nms ++ b.nms) ++ allN (halve l) = a.nms ++ (b.nms ++ allN l)
    rw [halve_nms l, List.append_assoc]
theorem halve_all {P : Rcp → Prop} (P' : Rcp → Prop) (h' : ∀ a, P' a → P a) (h2 : ∀ a b, P' a → P' b → P (.two .plus a b)) : ∀ {l : List Rcp}, (∀ r ∈ l, P' r) → ∀ r ∈ halve l, P r
  | [], _, _, h => nomatch h
  | [x], a, r, hr => h' r (a r hr)
  | x :: y :: l, a, r, hr => by
    rcases List.mem_cons.mp hr with e | hr
    · rw [e]
      exact h2 _ _ (a x List.mem_cons_self) (a y (List.mem_cons_of_mem _ List.mem_cons_self))
    · exact halve_all P' h' h2 (fun q hq => a q (List.mem_cons_of_mem _ (List.mem_cons_of_mem _ hq))) r hr
def nmK (k : Nat) : List Nat := (List.replicate (1 + k / 26) [letters.getD (k % 26) 97]).flatten
def nmsK (m : Nat) : List (List Nat) := (List.range m).map nmK
theorem nmK_ok : ∀ k, k < 30 → Nm (nmK k) := by
  show ∀ k, k < 30 → 1 ≤ (nmK k).length ∧ (nmK k).length ≤ 8 ∧ ∀ c ∈ nmK k, 97 ≤ c ∧ c ≤ 122
  decide +kernel
theorem nmsK_nd {m : Nat} (h : m ≤ 30) : (nmsK m).Nodup := by
  have h30 : (nmsK 30).Nodup := by decide +kernel
  have e : nmsK 30 = nmsK m ++ (nmsK 30).drop m := by
    have : nmsK m = (nmsK 30).take m := by
      unfold nmsK
      rw [← List.map_take, List.take_range, Nat.min_eq_left h]
    rw [this, List.take_append_drop]
  rw [e] at h30
  exact (List.nodup_append.mp h30).1
theorem nmsK_ok {m : Nat} (h : m ≤ 30) : ∀ s ∈ nmsK m, Nm s := fun s hs => by
  obtain ⟨k, hk, rfl⟩ := List.mem_map.mp hs
  exact nmK_ok k (by have := List.mem_range.mp hk; omega)
theorem rg2 : ∀ L : Nat, L < 31 → RgC 0 (L : Int) 2 ((L + 1) / 2) := fun L h => by
  have key : ∀ L : Nat, L < 31 → Builtin.Range.small 0 (L : Int) 2 = true ∧ Builtin.Range.rangeSize 0 (L : Int) 2 = (((L + 1) / 2 : Nat) : Int) := by decide +kernel
  exact ⟨by decide, by decide, (key L h).1, (key L h).2⟩
/-! ### a text times a number of two or more -/
def rRepS : R2 := fun x y H Q => ∃ (z : List Nat) (k : Nat), x = .str (SX.S z) ∧ y = .int (k : Int) ∧ 2 ≤ k ∧ k ≤ 1000 ∧ 1 ≤ z.length ∧ z.length ≤ 1000 ∧ Q (.str (SX.S (List.replicate k z).flatten)) H
theorem rep_flat (z : List Nat) : ∀ (k : Nat) (acc : Array Nat), (List.replicate k z.toArray).foldl (· ++ ·) acc = (acc.toList ++ (List.replicate k z).flatten).toArray
  | 0, acc => by simp
  | k + 1, acc => by
    rw [List.replicate_succ, List.foldl_cons, rep_flat z k, List.replicate_succ, List.flatten_cons]
    simp
section
variable {X : Cx}
theorem op_repS : OpR X (binaryOp .Mult) rRepS := by
  intro pins s σ H x y v u Q I rx ry h
  obtain ⟨z, k, rfl, rfl, h2, hk, h1, hz, q⟩ := h
  obtain ⟨t, rfl⟩ := rx
  obtain ⟨t', rfl⟩ := ry
  have hlen := SX.S_len z
  have hn1 : ¬ ((k : Nat) : Int) < 1 := by omega
  have hn2 : (((k : Nat) : Int) == 1 || (SX.S z).length == 0) = false := by
    rw [hlen, Bool.or_eq_false_iff]
    exact ⟨beq_eq_false_iff_ne.mpr (by omega), beq_eq_false_iff_ne.mpr (by omega)⟩
  have hmul : z.length * k ≤ 1000 * 1000 := Nat.mul_le_mul hz hk
  have hsz : 1000 * 1000 ≤ sizeLine := le_line (Nat.le_of_ble_eq_true rfl)
  refine PySem.P.mul_str ?_ (fun _ _ => ?_) (fun _ _ => ?_) ?_
  · rw [decide_eq_false (by omega), decide_eq_false (by omega)]
    rfl
  · rw [hlen]
    have : (1000 : Int) ≤ (2 ^ 63 - 1) / (k : Int) := (Int.le_ediv_iff_mul_le (by omega)).mpr (by omega)
    omega
  · rw [hlen]
    refine decide_eq_false ?_
    show ¬ _
    rw [Int.toNat_natCast]
    omega
  · rw [if_neg hn1, hn2, if_neg Bool.false_ne_true]
    rw [Int.toNat_natCast, show (SX.S z).cps = z.toArray from rfl, rep_flat]
    refine ⟨?_, ⟨.str _, H, I.tok _, ⟨_, rfl⟩, q⟩⟩
    have e : (List.replicate k z).flatten.length ≤ sizeLine := by
      rw [List.length_flatten, List.map_replicate, List.sum_replicate_nat, Nat.mul_comm]
      omega
    have e2 : (SX.S (List.replicate k z).flatten).length ≤ sizeLine := by rw [SX.S_len]; exact e
    exact e2
end
/-! ### a text times a number, nought and one too -/
def rRepA : R2 := fun x y H Q => ∃ (z : List Nat) (k : Nat), x = .str (SX.S z) ∧ y = .int (k : Int) ∧ k ≤ 1000 ∧ 1 ≤ z.length ∧ z.length ≤ 1000 ∧ Q (.str (SX.S (List.replicate k z).flatten)) H
section
variable {X : Cx}
theorem op_repA : OpR X (binaryOp .Mult) rRepA := by
  intro pins s σ H x y v u Q I rx ry h
  obtain ⟨z, k, rfl, rfl, hk, h1, hz, q⟩ := h
  by_cases h2 : 2 ≤ k
  · exact op_repS pins s σ H _ _ v u Q I rx ry ⟨z, k, rfl, rfl, h2, hk, h1, hz, q⟩
  obtain ⟨t, rfl⟩ := rx
  obtain ⟨t', rfl⟩ := ry
  have hlen := SX.S_len z
  have hk2 : k = 0 ∨ k = 1 := by omega
  rcases hk2 with rfl | rfl
  · exact PySem.P.mul_str_none (by decide) (by decide) ⟨.str _, H, I.tok _, ⟨_, rfl⟩, q⟩
  · refine PySem.P.mul_str (by decide) (fun _ e => ?_) (fun _ e => ?_) ?_
    · exact absurd e (by simp)
    · exact absurd e (by simp)
    · rw [if_neg (by decide)]
      have e : ((((1 : Nat) : Int) == 1) || (SX.S z).length == 0) = true := rfl
      rw [if_pos e]
      refine ⟨.str (SX.S z), H, I, ⟨_, rfl⟩, ?_⟩
      have e2 : (List.replicate 1 z).flatten = z := by simp
      rw [e2] at q
      exact q
end
/-! ### k52: long sums of names -/
open LamX NdefX
theorem cut_neg1 (xs : List V) (h : 1 ≤ xs.length) : cutV xs none (some (-1)) = xs.take (xs.length - 1) := by
  have h1 : HT.sIx xs.length xs.length (some (-1)) = xs.length - 1 := by
    show (if (-1 : Int) < 0 then (-1 + ((xs.length : Nat) : Int)).toNat else min (-1 : Int).toNat xs.length) = _
    rw [if_pos (by decide)]
    omega
  show (xs.drop (HT.sIx xs.length 0 none)).take (HT.sIx xs.length xs.length (some (-1)) - HT.sIx xs.length 0 none) = _
  rw [h1, show HT.sIx xs.length 0 none = 0 from rfl, List.drop_zero, Nat.sub_zero]
theorem take_two {xs : List V} {n : Nat} {a b : V} (h1 : xs[n]? = some a) (h2 : xs[n + 1]? = some b) : (xs.drop n).take 2 = [a, b] := by
  obtain ⟨l1, e1⟩ := List.getElem?_eq_some_iff.mp h1
  obtain ⟨l2, e2⟩ := List.getElem?_eq_some_iff.mp h2
  rw [List.drop_eq_getElem_cons l1, List.drop_eq_getElem_cons l2, e1, e2]
  rfl
theorem nmsK_succ (j : Nat) : nmsK (j + 1) = nmsK j ++ [nmK j] := by
  unfold nmsK
  rw [List.range_succ, List.map_append]
  rfl
theorem nmsK_len (m : Nat) : (nmsK m).length = m := by
  unfold nmsK
  rw [List.length_map, List.length_range]
theorem allN_reads (l : List (List Nat)) : allN (l.map Rcp.read) = l := by
  induction l with
  | nil => rfl
  | cons a l ih =>
    show [a] ++ allN (l.map Rcp.read) = a :: l
    rw [ih]
    rfl
theorem pow_half {n d : Nat} (h : n ≤ 2 ^ (6 - d)) (h1 : 1 < n) (hd : d ≤ 6) : d + 1 ≤ 6 ∧ (n + 1) / 2 ≤ 2 ^ (6 - (d + 1)) := by
  have h5 : d ≤ 5 := by
    rcases Nat.lt_or_ge 5 d with c | c
    · have : d = 6 := by omega
      rw [this] at h
      have : n ≤ 1 := h
      omega
    · exact c
  have e : 2 ^ (6 - d) = 2 * 2 ^ (6 - (d + 1)) := by
    rw [show 6 - d = (6 - (d + 1)) + 1 by omega, Nat.pow_succ]
    omega
  exact ⟨by omega, by omega⟩
def spLong : Sp := fun vs H Q _ => ∃ (p : Addr) (r m c : Int), vs = [.ref p] ∧ H p = some (.lst (pl r m c)) ∧ 0 ≤ c ∧ c ≤ 900000 ∧ ∀ H', Fr1 p H H' → Q (.bl true) H'
section
variable {P : Program} {w : World} {K : PySem.W.Frag} {mg : Str → Option Value} {base : Heap} {CNr : Addr}
abbrev s__law_long : Stmt := topS 42
abbrev N__law_long : List Str := ["pool", "letters", "k", "names", "row", "later", "reads", "at", "worth", "name", "number"]
theorem sc__law_long : FnScope N__law_long ["pool"] (defScope s__law_long) := ⟨rfl, rfl, rfl, by decide +kernel, rfl, by decide +kernel, by decide +kernel⟩

theorem ok__law_long (T : Txt K mg) (D : IsDef K mg "_law_long" s__law_long ["pool"]) (C_tk : Cal P w K mg base CX0 1 "_law_take" ["pool", "many"] spTakeL) (C_bh : Cal P w K mg base (L2.CX P w) 20 "behind" ["r", "reads"] (spBhd CNr))
    (C_tr : Cal P w K mg base CX0 21 "is_true_record" ["thing"] spTrueR) : Cal P w K mg base CX0 22 "_law_long" ["pool"] spLong := by
  have C_behind := C_bh.mono (show 20 ≤ 21 by decide)
  have C__law_take := C_tk.mono (show 1 ≤ 21 by decide)
  have C_is_true_record := C_tr
  refine D.cal (k := 21) sc__law_long (fun vs H Q E h => ?_) (fun f cdv A outer s H vs Q E hr h => ?_)
  · obtain ⟨_, _, _, _, rfl, _⟩ := h
    rfl
  obtain ⟨p, r, m, c, rfl, ep, c0, c1, q⟩ := h
  have hlen : ("abcdefghijklmnopqrstuvwxyz" : Str).length = 26 := by rw [letters_is, SX.S_len]; rfl
  have let26 : ∀ (v : Int) (n : Nat), v = (n : Int) → n < 26 → ("abcdefghijklmnopqrstuvwxyz" : Str).cps[v.toNat]? = some (letters.getD n 97) := fun v n hv hn => by
    have hv : v.toNat = n := by omega
    rw [hv, letters_is]
    show letters.toArray[n]? = _
    rw [List.getElem?_toArray, List.getElem?_eq_getElem hn, List.getD_eq_getElem?_getD, List.getElem?_eq_getElem hn]
    rfl
  refine ⟨_, (pss_cons (ps_set (i := 1) sc__law_long.nd rfl (Or.inr rfl) pe_str)
      (pss_cons (ps_setLc (i := 3) (own := [("k", 2)]) (g := gName 2)  (by rfl) sc__law_long.nd rfl rfl (sw_true rfl rfl rfl (by decide +kernel)) (pi_range1 rfl T.b_range (pa_cons (pe_op op_add pe_int (pe_cal C__law_take (hr.mono (by first | decide | omega)) pass0 (pa_cons (pv 0) (pa_cons pe_int pa_nil)))) pa_nil)) (blkOk_by (own := [("k", 2)]) (N := N__law_long) (sc := defScope s__law_long) (by decide +kernel)) (fun _ _ _ _ _ => (pg_name (i := 2) sc__law_long.nd rfl (Or.inl rfl))) (fun _ _ _ _ _ => pts_nil) (fun _ _ _ _ _ => (pe_op op_repA (pe_item_str (pv 1) (pe_op op_mod (pv 2) pe_int) (fun _ _ => rfl)) (pe_op op_add pe_int (pe_op op_fdivW (pv 2) pe_int)))))
      (pss_cons (ps_setLc (i := 4) (own := [("name", 9)]) (g := gName 9)  (by rfl) sc__law_long.nd rfl rfl (sw_true rfl rfl rfl (by decide +kernel)) (pi_list (pv 3)) (blkOk_by (own := [("name", 9)]) (N := N__law_long) (sc := defScope s__law_long) (by decide +kernel)) (fun _ _ _ _ _ => (pg_name (i := 9) sc__law_long.nd rfl (Or.inl rfl))) (fun _ _ _ _ _ => pts_nil) (fun _ _ _ _ _ => (pe_tupA (pa_cons pe_str (pa_cons (pv 9) pa_nil)))))
      (pss_cons (ps_while PassesOwn.never (pt_cmpR op_gt (pe_callB call_len_seq (by rfl) T.b_len PySem.boot_len (pa_cons (pv 4) pa_nil)) pe_int (nomark _))
        (pss_cons (ps_set (i := 5) sc__law_long.nd rfl (Or.inl rfl) (pe_lstA pa_nil))
      (pss_cons (ps_for PassesOwn.never rfl (pi_range3 rfl T.b_range (pa_cons pe_int (pa_cons (pe_callB call_len_seq (by rfl) T.b_len PySem.boot_len (pa_cons (pv 4) pa_nil)) (pa_cons pe_int pa_nil)))) (pg_name (i := 2) sc__law_long.nd rfl (Or.inl rfl))
        (pss_one (ps_expr (pe_bm PySem.F.plainAttrs_list PySem.F.slot_list_append PySem.F.type_list_append mt_append (pv 5) (pa_cons (pe_ix (r := rIxT K) ix_tup (pe_tupA (pa_cons (pe_op op_catT (pe_tupA (pa_cons pe_str pa_nil)) (pe_callTy call_tuple_of (by rfl) T.b_tuple (by decide +kernel) (pa_cons (pe_slice (r := rSlLA K) sl_listA (pv 4) (po_some (pv 2)) (po_some (pe_op op_add (pv 2) pe_int))) pa_nil))) (pa_cons (pe_ix (r := rIxL K) ix_list (pv 4) (pv 2) (fun _ _ => rfl)) pa_nil))) (pe_callTy call_int1 (by rfl) T.b_int (by decide +kernel) (pa_cons (pe_cmpR op_eq (pe_op op_add (pv 2) pe_int) (pe_callB call_len_seq (by rfl) T.b_len PySem.boot_len (pa_cons (pv 4) pa_nil)) (nomark _)) pa_nil)) (fun _ _ => rfl)) pa_nil)))))
      (pss_one (ps_set (i := 4) sc__law_long.nd rfl (Or.inl rfl) (pv 5))))))
      (pss_cons (ps_setLc (i := 6) (own := [("name", 9)]) (g := gName 9)  (by rfl) sc__law_long.nd rfl rfl (sw_true rfl rfl rfl (by decide +kernel)) (pi_list (pv 3)) (blkOk_by (own := [("name", 9)]) (N := N__law_long) (sc := defScope s__law_long) (by decide +kernel)) (fun _ _ _ _ _ => (pg_name (i := 9) sc__law_long.nd rfl (Or.inl rfl))) (fun _ _ _ _ _ => pts_nil) (fun _ _ _ _ _ => (pe_tupA (pa_cons (pv 9) (pa_cons (pe_op op_sub (pe_cal C__law_take (hr.mono (by first | decide | omega)) pass0 (pa_cons (pv 0) (pa_cons pe_int pa_nil))) pe_int) pa_nil)))))
      (pss_cons (ps_for PassesOwn.never rfl (pi_range1 rfl T.b_range (pa_cons (pe_callB call_len_seq (by rfl) T.b_len PySem.boot_len (pa_cons (pv 6) pa_nil)) pa_nil)) (pg_name (i := 7) sc__law_long.nd rfl (Or.inl rfl))
        (pss_one (ps_if (pt_cmpR (op_neD hr.units) (pe_cal C_behind (hr.mono (by first | decide | omega)) passL (pa_cons (pe_ix (r := rIxL K) ix_list (pv 4) pe_int (fun _ _ => rfl)) (pa_cons (pe_slice (r := rSlLA K) sl_listA (pv 6) po_none (po_some (pv 7))) pa_nil))) (pe_tupA (pa_cons pe_str (pa_cons (pe_ix (r := rIxL K) ix_list (pv 3) (pv 7) (fun _ _ => rfl)) pa_nil))) (nomark _))
        (pss_one (ps_ret pe_bl))
        pss_nil)))
      (pss_cons (ps_set (i := 8) sc__law_long.nd rfl (Or.inl rfl) (pe_callB (cr_sum rfl) (by rfl) T.b_sum (by decide +kernel) (pa_cons (pe_lc (own := [("name", 9), ("number", 10)]) (g := gTup K 2 (gCons (gName 9) (gCons (gName 10) gNil)))  (by rfl) sc__law_long.nd  (pi_list (pv 6)) (blkOk_by (own := [("name", 9), ("number", 10)]) (N := N__law_long) (sc := defScope s__law_long) (by decide +kernel)) (fun _ _ _ _ _ => (pg_tup rfl (pgs_cons (pg_name (i := 9) sc__law_long.nd rfl (Or.inl rfl)) (pgs_cons (pg_name (i := 10) sc__law_long.nd rfl (Or.inl rfl)) pgs_nil)))) (fun _ _ _ _ _ => pts_nil) (fun _ _ _ _ _ => (pv 10))) pa_nil)))
      (pss_cons (ps_if (PW.pt (pw_or (pt_cmpR (op_neD hr.units) (pe_cal C_behind (hr.mono (by first | decide | omega)) passL (pa_cons (pe_ix (r := rIxL K) ix_list (pv 4) pe_int (fun _ _ => rfl)) (pa_cons (pe_callTy call_listA (by rfl) T.b_list (by decide +kernel) (pa_cons (pv 6) pa_nil)) pa_nil))) (pe_tupA (pa_cons pe_str (pa_cons (pv 8) pa_nil))) (nomark _)) (pw_or1 (pt_val (pe_cal C_is_true_record (hr.mono (by first | decide | omega)) pass0 (pa_cons (pe_tupA (pa_cons (pe_ix (r := rIxL K) ix_list (pv 4) pe_int (fun _ _ => rfl)) (pa_cons (pe_slice (r := rSlLA K) sl_listA (pv 6) po_none (po_some (pe_un un_neg pe_int))) (pa_cons (pv 8) pa_nil)))) pa_nil))))))
        (pss_one (ps_ret pe_bl))
        pss_nil)
      (pss_one (ps_ret (pe_and (pe_cal C_is_true_record (hr.mono (by first | decide | omega)) pass0 (pa_cons (pe_tupA (pa_cons (pe_ix (r := rIxL K) ix_list (pv 4) pe_int (fun _ _ => rfl)) (pa_cons (pv 6) (pa_cons (pv 8) pa_nil)))) pa_nil)) (pe_one (pe_not (pe_cal C_is_true_record (hr.mono (by first | decide | omega)) pass0 (pa_cons (pe_tupA (pa_cons (pe_ix (r := rIxL K) ix_list (pv 4) pe_int (fun _ _ => rfl)) (pa_cons (pv 6) (pa_cons (pe_op op_add (pv 8) pe_int) pa_nil)))) pa_nil))))))))))))))), ?_⟩
  -- the names
  refine ⟨_, rfl, p, r, m, c, 30, rfl, ep, by decide, small400 (by decide) (by decide), c0, by omega, fun H1 x r1 c1' k1 p1 d0 d1 x0 x1 => ?_⟩
  obtain ⟨M, hM⟩ : ∃ M : Nat, M = (1 + x).toNat := ⟨_, rfl⟩
  have M1 : 1 ≤ M := by omega
  have M30 : M ≤ 30 := by omega
  have f1 : Fr1 p H H1 := fun b u n e => by rw [k1 b n]; exact e
  refine ⟨_, _, rfl, rfl, 1 + x, rfl, by omega, by omega, fun L nL => lc_range (lo := 0) (n := (1 + x).toNat) (fun i X => Same H1 X ∧ X L = some (.lst (txs (nmsK i)))) ⟨same_new nL _, upd_same⟩ ?_ ?_⟩
  · rintro j X hj ⟨sX, eL⟩
    have hj30 : j < 30 := by omega
    have ha : (0 + (j : Int)) % 26 = ((j % 26 : Nat) : Int) := by omega
    have hb : 1 + (0 + (j : Int)) / 26 = ((1 + j / 26 : Nat) : Int) := by omega
    have hx := let26 _ _ ha (by omega)
    refine ⟨rfl, _, rfl, _, rfl, _, _, rfl, rfl, (by show (0 : Int) < 26; decide), _, _, letters.getD (j % 26) 97, rfl, rfl, by show 0 ≤ (0 + (j : Int)) % 26; omega, by show (0 + (j : Int)) % 26 < 2 ^ 63; omega, by rw [hlen]; show (0 + (j : Int)) % 26 < 26; omega, hx, ?_⟩
    refine ⟨_, rfl, _, _, rfl, rfl, ⟨by decide, by decide⟩, _, _, rfl, rfl, [letters.getD (j % 26) 97], 1 + j / 26, rfl, congrArg V.int hb, by omega, (by show 1 ≤ 1; decide), (by show 1 ≤ 1000; decide), ?_⟩
    refine ⟨_, eL, lt_line (by rw [txs_len, nmsK_len]; omega), same_upd sX nL _, ?_⟩
    rw [nmsK_succ]
    show upd X L (.lst (txs (nmsK j) ++ [.str (SX.S (nmK j))])) L = _
    rw [upd_same]
    unfold txs
    rw [List.map_append, List.map_append]
    rfl
  rintro X ⟨sX, eL⟩
  rw [← hM] at eL
  have pL : p ≠ L := ne_of_none p1 nL
  have f2 : Fr1 p H X := f1.trans (Fr1.of sX)
  have p2 := sX _ _ p1
  have hnm := nmsK_ok M30
  -- the row
  refine ⟨_, rfl, L, rfl, ⟨_, SqL.of eL⟩, fun R0 nR0 => lc_list (xs := txs (nmsK M)) (fun i Y => Same X Y ∧ ∃ vs, Y R0 = some (.lst vs) ∧ Recs Y (((nmsK M).take i).map Rcp.read) vs) ⟨same_new nR0 _, [], upd_same, trivial⟩ (fun i Y _ h => SqL.of (h.1 _ _ eL)) ?_ ?_⟩
  · rintro i y Y hy ⟨sY, vs, eR, hrs⟩
    obtain ⟨t, ht, rfl⟩ := txs_at' hy
    have hvl := hrs.len
    rw [List.length_map, List.length_take, nmsK_len] at hvl
    refine ⟨rfl, _, rfl, le_line (Nat.le_of_ble_eq_true rfl), fun u Z nu z' eu => ?_⟩
    have z : Same Y Z := z'
    refine ⟨_, z _ _ eR, lt_line (by omega), same_upd (sY.trans z) nR0 _, _, upd_same, ?_⟩
    rw [List.take_add_one, ht, List.map_append]
    exact Recs.snoc (Rec.keep (keep_lst (z _ _ eR)) (show Rec Z (.read t) (.ref u) from ⟨u, rfl, eu⟩)) ((hrs.keep (same_keep z)).keep (keep_lst (z _ _ eR)))
  rintro Y ⟨sY, vs0, eR0, hrs0⟩
  rw [txs_len, List.take_of_length_le (Nat.le_refl _)] at hrs0
  have eLY := sY _ _ eL
  -- laid by halves
  refine ⟨fun n σ Z => ∃ (Rw : Addr) (vs : List V) (rs : List Rcp) (d : Nat) (w2 w5 : Option V), σ = [some (.ref p), some (.str "abcdefghijklmnopqrstuvwxyz"), w2, some (.ref L), some (.ref Rw), w5, none, none, none, none, none] ∧ Same Y Z ∧ Z Rw = some (.lst vs) ∧ Recs Z rs vs ∧ allN rs = nmsK M ∧ (∀ q ∈ rs, SumR q) ∧ (∀ q ∈ rs, q.dep ≤ d) ∧ d ≤ 6 ∧ rs.length ≤ 2 ^ (6 - d) ∧ 1 ≤ rs.length ∧ rs.length ≤ 30 ∧ n = rs.length,
    ⟨_, R0, vs0, (nmsK M).map Rcp.read, 1, none, none, rfl, fun _ _ e => e, eR0, hrs0, allN_reads _, (fun q hq => by obtain ⟨s, _, rfl⟩ := List.mem_map.mp hq; trivial), (fun q hq => by obtain ⟨s, _, rfl⟩ := List.mem_map.mp hq; exact Nat.le_refl 1), by decide, by rw [List.length_map, nmsK_len]; show M ≤ 32; omega, by rw [List.length_map, nmsK_len]; exact M1, by rw [List.length_map, nmsK_len]; exact M30, rfl⟩, ?_⟩
  rintro n σ Z ⟨Rw, vs, rs, d, w2, w5, rfl, sZ, eRw, hrs, hall, hsum, hdep, hd6, hpw, hr1, hrsM, rfl⟩
  have hvl := hrs.len
  by_cases c1r : 1 < rs.length
  · refine ⟨_, rfl, Rw, _, rfl, .inl (SqL.of eRw), _, _, rfl, rfl, _, rfl, iteY (by rw [hvl]; show (rs.length : Int) > 1; omega) ?_⟩
    refine ⟨_, fun σ' H' h => h, ?_⟩
    refine ⟨le_line (Nat.le_of_ble_eq_true rfl), fun Lt Z1 nLt z1' eLt => ?_⟩
    have z1 : Same Z Z1 := z1'
    refine ⟨_, rfl, Rw, _, rfl, .inl (SqL.of (z1 _ _ eRw)), 0, (vs.length : Int), 2, (vs.length + 1) / 2, rfl, rg2 _ (by omega), for_rangeC (lo := 0) (c := 2) (n := (vs.length + 1) / 2) (fun j σ U => ∃ (w2 : Option V) (ys : List V), σ = [some (.ref p), some (.str "abcdefghijklmnopqrstuvwxyz"), w2, some (.ref L), some (.ref Rw), some (.ref Lt), none, none, none, none, none] ∧ Same Z U ∧ U Lt = some (.lst ys) ∧ Recs U ((halve rs).take j) ys)
      ⟨_, [], rfl, z1, eLt, trivial⟩ ?_ ?_⟩
    · rintro j σ U hj ⟨w2, ys, rfl, sU, eLt, hys⟩
      refine in_name rfl ?_
      rw [show ((0 : Int) + ((j : Nat) : Int) * 2) = ((2 * j : Nat) : Int) by omega]
      have hi : 2 * j < rs.length := by omega
      obtain ⟨v1, q1, hv1, hq1, hR1⟩ := hrs.get hi
      have hyl := hys.len
      rw [List.length_take, halve_len] at hyl
      have eRwU := sU _ _ eRw
      refine ⟨_, rfl, .inl ⟨rfl, _, SqL.of eLt⟩, le_line (Nat.le_of_ble_eq_true rfl), fun T0 U1 nT0 u1' eT0 => ?_⟩
      have u1 : Same U U1 := u1'
      refine ⟨_, rfl, _, rfl, _, rfl, _, rfl, _, _, rfl, rfl, _, rfl, Rw, _, rfl, SqL.of (u1 _ _ eRwU), fun S U2 nS u2' eS => ?_⟩
      have u2 : Same U1 U2 := u2'
      rw [show (((2 * j : Nat) : Int) + 2) = ((2 * j + 2 : Nat) : Int) by omega, cut_nat _ (by omega), show 2 * j + 2 - 2 * j = 2 by omega] at eS
      refine ⟨S, _, rfl, .inl ⟨SqL.of eS, fun T1 nT1 => ?_⟩⟩
      have u3 := same_new nT1 (.tup ((vs.drop (2 * j)).take 2))
      have hnil : ¬ (vs.drop (2 * j)).take 2 = [] := fun z => by
        have := congrArg List.length z
        rw [List.length_take, List.length_drop] at this
        have : min 2 (vs.length - 2 * j) = 0 := this
        omega
      refine ⟨T0, T1, _, _, rfl, rfl, SqT.of (u3 _ _ (u2 _ _ eT0)), SqT.of upd_same, (fun z => nomatch z), le_line (Nat.le_trans (show 1 + ((vs.drop (2 * j)).take 2).length ≤ 3 by rw [List.length_take]; omega) (by decide)), fun z => absurd z hnil, fun _ T2 nT2 => ?_⟩
      have u4 := same_new nT2 (.tup ([.str "plus"] ++ (vs.drop (2 * j)).take 2))
      have eT2 : upd (upd U2 T1 (.tup ((vs.drop (2 * j)).take 2))) T2 (.tup ([.str "plus"] ++ (vs.drop (2 * j)).take 2)) T2 = some (.tup ([.str "plus"] ++ (vs.drop (2 * j)).take 2)) := upd_same
      have u14 : Same U (upd (upd U2 T1 (.tup ((vs.drop (2 * j)).take 2))) T2 (.tup ([.str "plus"] ++ (vs.drop (2 * j)).take 2))) := ((u1.trans u2).trans u3).trans u4
      generalize upd (upd U2 T1 (.tup ((vs.drop (2 * j)).take 2))) T2 (.tup ([.str "plus"] ++ (vs.drop (2 * j)).take 2)) = U4 at eT2 u14 ⊢
      refine ⟨_, rfl, _, rfl, Rw, vs, _, v1, rfl, rfl, SqL.of (u14 _ _ eRwU), atI_nat hv1, le_line (Nat.le_of_ble_eq_true rfl), fun T3 U5 nT3 u5' eT3 => ?_⟩
      have u5 : Same U4 U5 := u5'
      have u15 := u14.trans u5
      refine ⟨_, rfl, _, _, rfl, rfl, _, rfl, Rw, _, rfl, .inl (SqL.of (u15 _ _ eRwU)), rfl, .inr ⟨_, rfl, ?_⟩⟩
      have fin : ∀ (q : Rcp) (v : V), (halve rs)[j]? = some q → Rec U5 q v → ∃ (w2 : Option V) (ys' : List V), [some (V.ref p), some (.str "abcdefghijklmnopqrstuvwxyz"), some (.int ((2 * j : Nat) : Int)), some (.ref L), some (.ref Rw), some (.ref Lt), none, none, none, none, none] = [some (V.ref p), some (.str "abcdefghijklmnopqrstuvwxyz"), w2, some (.ref L), some (.ref Rw), some (.ref Lt), none, none, none, none, none] ∧ Same Z (upd U5 Lt (.lst (ys ++ [v]))) ∧ upd U5 Lt (.lst (ys ++ [v])) Lt = some (.lst ys') ∧ Recs (upd U5 Lt (.lst (ys ++ [v]))) ((halve rs).take (j + 1)) ys' := fun q v hq hv => by
        refine ⟨_, _, rfl, same_upd (sU.trans u15) nLt _, upd_same, ?_⟩
        rw [List.take_add_one, hq]
        exact Recs.snoc (hv.keep (keep_lst (u15 _ _ eLt))) ((hys.keep (same_keep u15)).keep (keep_lst (u15 _ _ eLt)))
      by_cases c2 : 2 * j + 1 < rs.length
      · obtain ⟨v2, q2, hv2, hq2, hR2⟩ := hrs.get c2
        rw [take_two hv1 hv2] at eT2
        refine ⟨T3, _, 0, .ref T2, rfl, congrArg V.int (if_neg fun z => ?_), SqT.of eT3, rfl, ?_⟩
        · have z' := V.int.inj (of_decide_eq_true z)
          omega
        refine ⟨Lt, _, _, rfl, rfl, u15 _ _ eLt, lt_line (by omega), ?_⟩
        exact fin _ _ (halve_two hq1 hq2) ⟨T2, v1, v2, rfl, u5 _ _ eT2, hR1.keep (same_keep (sU.trans u15)), hR2.keep (same_keep (sU.trans u15))⟩
      · refine ⟨T3, _, 1, v1, rfl, congrArg V.int (if_pos (decide_eq_true (congrArg V.int ?_))), SqT.of eT3, rfl, ?_⟩
        · rw [hvl]
          omega
        refine ⟨Lt, _, _, rfl, rfl, u15 _ _ eLt, lt_line (by omega), ?_⟩
        exact fin _ _ (halve_one hq1 (List.getElem?_eq_none (by omega))) (hR1.keep (same_keep (sU.trans u15)))
    · rintro σ U ⟨w2, ys, rfl, sU, eLt, hys⟩
      rw [List.take_of_length_le (by rw [halve_len, hvl]; exact Nat.le_refl _)] at hys
      obtain ⟨d1, d2⟩ := pow_half hpw c1r hd6
      refine ⟨_, rfl, ?_⟩
      refine ⟨_, ?_, Lt, ys, halve rs, d + 1, w2, _, rfl, sZ.trans sU, eLt, hys, (halve_nms rs).trans hall, halve_all (P := SumR) SumR (fun _ h => h) (fun a b x y => ⟨rfl, x, y⟩) hsum, halve_all (P := fun q => q.dep ≤ d + 1) (fun q => q.dep ≤ d) (fun _ h => Nat.le_succ_of_le h) (fun a b x y => ?_) hdep, d1, by rw [halve_len]; exact d2, by rw [halve_len]; omega, by rw [halve_len]; omega, rfl⟩
      · rw [halve_len]; omega
      · show max a.dep b.dep + 1 ≤ d + 1
        have x : a.dep ≤ d := x
        have y : b.dep ≤ d := y
        omega
  refine ⟨_, rfl, Rw, _, rfl, .inl (SqL.of eRw), _, _, rfl, rfl, _, rfl, iteN (fun z => by rw [hvl] at z; have z : (rs.length : Int) > 1 := z; omega) ?_⟩
  obtain ⟨q0, rfl⟩ : ∃ q0, rs = [q0] := List.length_eq_one_iff.mp (by omega)
  obtain ⟨vq, rfl⟩ : ∃ vq, vs = [vq] := List.length_eq_one_iff.mp hvl
  have hRq : Rec Z q0 vq := hrs.1
  have hsq := hsum q0 (List.mem_singleton.mpr rfl)
  have hdq : q0.dep ≤ 6 := Nat.le_trans (hdep q0 (List.mem_singleton.mpr rfl)) hd6
  have enms : q0.nms = nmsK M := by
    have : q0.nms ++ [] = nmsK M := hall
    rwa [List.append_nil] at this
  have hnc := sum_nc hsq (by rw [enms]; exact hnm)
  have wn := nc_wn hnc
  have hNb := hnc.nb
  have hsz := sum_siz hsq
  rw [enms, nmsK_len] at hsz
  have isr : q0.th.isRcp = true := Rcp.isRcpW wn (by omega) (by omega)
  have d9 : q0.dep ≤ 9 := by omega
  have p3 := sZ _ _ (sY _ _ p2)
  have eLZ := sZ _ _ eLY
  have nLp : L ≠ p := pL.symm
  clear hrs hall hsum hdep hpw c1r hrs0 eR0
  -- the reads
  refine ⟨_, rfl, L, rfl, ⟨_, SqL.of eLZ⟩, fun Rd nRd => lc_list (xs := txs (nmsK M)) (fun i X => ∃ (F : List Pr) (ws : List V) (r' c' : Int), Fr1 p Z X ∧ X p = some (.lst (pl r' m c')) ∧ 0 ≤ c' ∧ c' ≤ c + 1 + i ∧ X Rd = some (.lst ws) ∧ Prs X F ws ∧ F.map (·.1) = (nmsK M).take i ∧ ∀ q ∈ F, q.2.natAbs < 2 ^ 21)
    ⟨[], [], r1, c1', Fr1.of (same_new nRd _), by rw [upd_ne (ne_of_none p3 nRd)]; exact p3, d0, by omega, upd_same, trivial, rfl, fun _ h => nomatch h⟩ (fun i X _ ⟨_, _, _, _, h, _⟩ => SqL.of (h _ _ nLp eLZ)) ?_ ?_⟩
  · rintro i y X hy ⟨F, ws, r', c', fX, pX, e0, e1, eRd, hP, hF, hsm⟩
    obtain ⟨t, ht, rfl⟩ := txs_at' hy
    have hiM : i < M := by
      have := (List.getElem?_eq_some_iff.mp ht).1
      rwa [nmsK_len] at this
    have npR : p ≠ Rd := ne_of_none p3 nRd
    have hwl := hP.len
    have hFl : F.length = i := by
      have := congrArg List.length hF
      rw [List.length_map, List.length_take, nmsK_len] at this
      omega
    refine ⟨rfl, _, rfl, _, rfl, p, r', m, c', 9, rfl, pX, by decide, small400 (by decide) (by decide), e0, by omega, fun X2 w r2 c2 k2 p2' g0 g1 w0 w9 => ?_⟩
    refine ⟨_, _, rfl, rfl, le_line (Nat.le_of_ble_eq_true rfl), fun u X3 nu z' eu => ?_⟩
    have z : Same X2 X3 := z'
    have eRd2 : X2 Rd = some (.lst ws) := (k2 Rd npR.symm).trans eRd
    have f3 : Fr1 p X X3 := fun b o n e => z b o (by rw [k2 b n]; exact e)
    refine ⟨_, z _ _ eRd2, lt_line (by omega), F ++ [(t, w - 4)], _, r2, c2, fun b o n e => ?_, by rw [upd_ne npR]; exact z _ _ p2', g0, by omega, upd_same, (Prs.snoc (p := (t, w - 4)) eu (hP.keep (f3.keep pX))).keep (keep_lst (z _ _ eRd2)), ?_, fun q hq => ?_⟩
    · have nb : b ≠ Rd := fun z => by rw [z, nRd] at e; cases e
      rw [upd_ne nb]
      exact f3 b o n (fX b o n e)
    · rw [List.map_append, hF, List.take_add_one, ht]
      rfl
    · rcases List.mem_append.mp hq with h | h
      · exact hsm q h
      · rw [List.mem_singleton.mp h]
        exact Nat.lt_of_lt_of_le (show (w - 4).natAbs < 16 by omega) (by decide)
  rintro X ⟨F, ws, r', c', fX, pX, e0, e1, eRd, hP, hF, hsm⟩
  rw [txs_len, List.take_of_length_le (Nat.le_refl _)] at hF
  have hFl : F.length = M := by
    have := congrArg List.length hF
    rwa [List.length_map, nmsK_len] at this
  have hwl := hP.len
  have ndF : (F.map (·.1)).Nodup := by rw [hF]; exact nmsK_nd M30
  have enF : q0.nms = F.map (·.1) := by rw [enms, hF]
  have nmF : ∀ q ∈ F, Nm q.1 := fun q hq => hnm _ (by rw [← hF]; exact List.mem_map.mpr ⟨q, hq, rfl⟩)
  have smF : Small F := fun q hq => ⟨nmF q hq, Nat.lt_of_lt_of_le (hsm q hq) (Nat.pow_le_pow_right (by decide) (by decide))⟩
  have smT : ∀ i, Small (F.take i) := fun i q hq => smF q (List.mem_of_mem_take hq)
  have hRX : Rec X q0 vq := hRq.keep (fX.keep p3)
  have nRwp : Rw ≠ p := fun z => by rw [z, p3] at eRw; cases eRw
  have eRwX := fX _ _ nRwp eRw
  have eLX := fX _ _ nLp eLZ
  have f0X : Fr1 p H X := ((f2.trans (Fr1.of sY)).trans (Fr1.of sZ)).trans fX
  have hlenT : ∀ i, (F.take i).length ≤ 1000000 := fun i => by rw [List.length_take]; omega
  -- read by read
  refine ⟨_, rfl, Rd, _, rfl, .inl (SqL.of eRd), (ws.length : Int), rfl, by omega, by omega, for_range (lo := 0) (n := ((ws.length : Int)).toNat) (fun i σ U => ∃ w7 : Option V, σ = [some (.ref p), some (.str "abcdefghijklmnopqrstuvwxyz"), w2, some (.ref L), some (.ref Rw), w5, some (.ref Rd), w7, none, none, none] ∧ Same X U) ⟨none, rfl, fun _ _ e => e⟩ ?_ ?_⟩
  · rintro i σ U hi ⟨w7, rfl, sU⟩
    refine in_name rfl ?_
    rw [show ((0 : Int) + ((i : Nat) : Int)) = ((i : Nat) : Int) by omega]
    obtain ⟨pp, hpp, ho⟩ := sum_read ndF hsq enF (a := i) (by omega)
    have hs := nmF pp (List.mem_of_getElem? hpp)
    have hat : (txs (nmsK M))[i]? = some (.str (SX.S pp.1)) := by
      rw [← hF]
      unfold txs
      rw [List.getElem?_map, List.getElem?_map, List.getElem?_map, hpp]
      rfl
    refine ⟨_, rfl, Rw, _, 0, vq, rfl, rfl, SqL.of (sU _ _ eRwX), rfl, _, rfl, _, rfl, _, rfl, Rd, _, rfl, SqL.of (sU _ _ eRd), fun S U1 nS u1' eS => ?_⟩
    rw [cut_to] at eS
    have u1 : Same U U1 := u1'
    have sU1 := sU.trans u1
    refine ⟨vq, S, q0, F.take i, ws.take i, rfl, hRX.same sU1, hNb, d9, eS, (hP.same sU1).take i, hlenT i, smT i, fun s t U2 e s2 ht => ?_, fun x t U2 e => ?_, fun U2 e => ?_⟩
    · rw [ho] at e
      cases e
      refine ⟨_, rfl, _, rfl, L, _, _, _, rfl, rfl, SqL.of ((sU1.trans s2) _ _ eLX), atI_nat hat, le_line (Nat.le_of_ble_eq_true rfl), fun t2 U3 nt2 u3' et2 => ?_⟩
      have u3 : Same U2 U3 := u3'
      refine ⟨_, _, (dp_read K (u3 _ _ ht) hs).1, (dp_read K et2 hs).1, (dp_read K et2 hs).2.1, (dp_read K et2 hs).2.1, _, rfl, not_true_eq (dp_read K et2 hs).2.2 ?_⟩
      exact ⟨_, rfl, (sU1.trans s2).trans u3⟩
    · rw [ho] at e; cases e
    · rw [ho] at e; cases e
  rintro σ U ⟨w7, rfl, sU⟩
  -- the sum
  have hPU := hP.same sU
  refine ⟨_, rfl, Rd, rfl, ⟨_, SqL.of (sU _ _ eRd)⟩, fun M0 nM0 => lc_list (xs := ws) (fun i V1 => Same U V1 ∧ V1 M0 = some (.lst (((F.map (·.2)).take i).map V.int))) ⟨same_new nM0 _, upd_same⟩ (fun i V1 _ h => SqL.of (h.1 _ _ (sU _ _ eRd))) ?_ ?_⟩
  · rintro i y V1 hy ⟨sV, eM⟩
    obtain ⟨pp, t, hpp, rfl, ht⟩ := hPU.at hy
    refine ⟨t, _, rfl, SqT.of (sV _ _ ht), rfl, _, _, rfl, in_name rfl ⟨_, _, rfl, in_name rfl ⟨rfl, rfl, _, rfl, _, eM, lt_line (by rw [List.length_map, List.length_take, List.length_map]; omega), same_upd sV nM0 _, ?_⟩⟩⟩
    rw [upd_same, List.take_add_one, List.getElem?_map, hpp, List.map_append]
    rfl
  rintro V1 ⟨sV, eM⟩
  rw [List.take_of_length_le (by rw [List.length_map]; omega)] at eM
  refine ⟨M0, F.map (·.2), rfl, SqL.of eM, ?_⟩
  show _
  have sV1 := sU.trans sV
  have ho := sum_worth ndF hsq enF
  refine ⟨_, rfl, Rw, _, 0, vq, rfl, rfl, SqL.of (sV1 _ _ eRwX), rfl, _, rfl, Rd, _, rfl, .inl (SqL.of (sV1 _ _ eRd)), fun S V2 nS v2' eS => ?_⟩
  have v2 : Same V1 V2 := v2'
  have sV2 := sV1.trans v2
  refine ⟨vq, S, q0, F, ws, rfl, hRX.same sV2, hNb, d9, eS, hP.same sV2, by omega, smF, fun s t V3 e => ?_, fun x t V3 e s3 ht => ?_, fun V3 e => ?_⟩
  · rw [ho] at e; cases e
  · rw [ho] at e
    cases e
    have sV3 := sV2.trans s3
    refine ⟨_, rfl, le_line (Nat.le_of_ble_eq_true rfl), fun t2 V4 nt2 v4' et2 => ?_⟩
    have v4 : Same V3 V4 := v4'
    have et2 : V4 t2 = some (.tup [.str "worth", .int (sumP F)]) := et2
    have sV4 := sV3.trans v4
    refine ⟨_, _, (dp_worth K (v4 _ _ ht)).1, (dp_worth K et2).1, (dp_worth K et2).2.1, (dp_worth K et2).2.1, _, rfl, not_true_eq (dp_worth K et2).2.2 ?_⟩
    refine ⟨_, rfl, Rw, _, 0, vq, rfl, rfl, SqL.of (sV4 _ _ eRwX), rfl, _, rfl, 1, rfl, -1, rfl, Rd, _, rfl, SqL.of (sV4 _ _ eRd), fun S2 V5 nS2 v5' eS2 => ?_⟩
    have v5 : Same V4 V5 := v5'
    rw [cut_neg1 _ (by omega)] at eS2
    refine ⟨_, rfl, le_line (Nat.le_of_ble_eq_true rfl), fun T1 V6 nT1 v6' eT1 => ?_⟩
    have v6 : Same V5 V6 := v6'
    have sV6 := (sV4.trans v5).trans v6
    obtain ⟨pp, hpp, ho1⟩ := sum_read ndF hsq enF (a := ws.length - 1) (by omega)
    refine ⟨.ref T1, q0, F.take (ws.length - 1), sumP F, rfl, ⟨T1, S2, vq, _, rfl, eT1, v6 _ _ eS2, hRX.same sV6, (hP.same sV6).take _⟩, Rcp.tameW wn, hNb, fun _ => d9, smT _, hlenT _, fun V7 v7 => ⟨_, rfl, ?_⟩⟩
    rw [show trueR q0 (F.take (ws.length - 1)) (sumP F) = false by unfold trueR; rw [ho1]; exact Bool.and_false _]
    refine iteF ?_
    have sV7 := sV6.trans v7
    refine ⟨_, rfl, Rw, _, 0, vq, rfl, rfl, SqL.of (sV7 _ _ eRwX), rfl, _, rfl, _, rfl, le_line (Nat.le_of_ble_eq_true rfl), fun T2 V8 nT2 v8' eT2 => ?_⟩
    have v8 : Same V7 V8 := v8'
    have sV8 := sV7.trans v8
    refine ⟨.ref T2, q0, F, sumP F, rfl, ⟨T2, Rd, vq, _, rfl, eT2, sV8 _ _ eRd, hRX.same sV8, hP.same sV8⟩, Rcp.tameW wn, hNb, fun _ => d9, smF, by omega, fun V9 v9 => ⟨_, rfl, ?_⟩⟩
    rw [show trueR q0 F (sumP F) = true by unfold trueR; rw [ho, isr]; exact decide_eq_true rfl]
    refine iteT ?_
    have sV9 := sV8.trans v9
    refine ⟨_, rfl, Rw, _, 0, vq, rfl, rfl, SqL.of (sV9 _ _ eRwX), rfl, _, rfl, _, rfl, _, _, rfl, rfl, le_line (Nat.le_of_ble_eq_true rfl), fun T3 W1 nT3 w1' eT3 => ?_⟩
    have w1 : Same V9 W1 := w1'
    have sW1 := sV9.trans w1
    refine ⟨.ref T3, q0, F, sumP F + 1, rfl, ⟨T3, Rd, vq, _, rfl, eT3, sW1 _ _ eRd, hRX.same sW1, hP.same sW1⟩, Rcp.tameW wn, hNb, fun _ => d9, smF, by omega, fun W2 w2 => ⟨_, rfl, ?_⟩⟩
    rw [show trueR q0 F (sumP F + 1) = false by unfold trueR; rw [ho, isr]; exact decide_eq_false (by omega)]
    exact q _ (f0X.trans (Fr1.of (sW1.trans w2)))
  · rw [ho] at e; cases e
end
/-! ### law k52 -/
open LamX NdefX
def cands52 : List (List Nat) := [[111, 119, 110], [109, 105, 110, 101], [109, 101], [97], [98], [99], [97, 98], [122]]
theorem cands52_is : ([.str "own", .str "mine", .str "me", .str "a", .str "b", .str "c", .str "ab", .str "z"] : List V) = txs cands52 := by
  have h1 : ("own" : Str) = SX.S [111, 119, 110] := by decide +kernel
  have h2 : ("mine" : Str) = SX.S [109, 105, 110, 101] := by decide +kernel
  have h3 : ("me" : Str) = SX.S [109, 101] := by decide +kernel
  have h4 : ("a" : Str) = SX.S [97] := by decide +kernel
  have h5 : ("b" : Str) = SX.S [98] := by decide +kernel
  have h6 : ("c" : Str) = SX.S [99] := by decide +kernel
  have h7 : ("ab" : Str) = SX.S [97, 98] := by decide +kernel
  have h8 : ("z" : Str) = SX.S [122] := by decide +kernel
  rw [h1, h2, h3, h4, h5, h6, h7, h8]
  rfl
theorem cands52_ok : ∀ s ∈ cands52, Nm s := by
  show ∀ s ∈ cands52, 1 ≤ s.length ∧ s.length ≤ 8 ∧ ∀ c ∈ s, 97 ≤ c ∧ c ≤ 122
  decide
theorem DL.tabOff52 {Tb : List NTab} {H H' : Hp} {p : Addr} (d : DL H p) (g : ∀ b u, b ≠ p → H b = some u → H' b = some u) (t : TabsN Tb H) : TabsN Tb H' := fun q hq => by
  obtain ⟨ps, t1, t2, t3⟩ := t q hq
  refine ⟨ps, g _ _ (fun z => by rcases d with ⟨_, d⟩ | ⟨_, d⟩ <;> rw [z, d] at t1 <;> cases t1) t1, t2, fun pos cv hc => ?_⟩
  obtain ⟨c, e1, e2⟩ := t3 pos cv hc
  exact ⟨c, e1, g _ _ (fun z => by rcases d with ⟨_, d⟩ | ⟨_, d⟩ <;> rw [z, d] at e2 <;> cases e2) e2⟩
theorem frs_of1 {Tb : List NTab} {A B : Hp} {p : Addr} {xs ys : List V} (d : A p = some (.lst xs)) (f : Fr1 p A B) (e : B p = some (.lst ys)) : FrS Tb [p] A B :=
  ⟨fun x u n _ h => f x u (fun z => n (List.mem_singleton.mpr z)) h, (fun b h => by
    by_cases c : b = p
    · rw [c, e] at h; cases h
    · cases hA : A b with
      | none => rfl
      | some u => rw [f b u c hA] at h; cases h), fun t => DL.tabOff52 (.inr ⟨_, d⟩) (fun b u n h => f b u n h) t⟩
section
variable {P : Program} {w : World} {K : PySem.W.Frag} {mg : Str → Option Value} {base : Heap} {Tb : List NTab}
abbrev s_law : Stmt := topS 43
abbrev N_law : List Str := ["script", "k", "pool", "names", "r", "numbers", "name", "some", "own"]
theorem sc_law : FnScope N_law ["script"] (defScope s_law) := ⟨rfl, rfl, rfl, by decide +kernel, rfl, by decide +kernel, by decide +kernel⟩

theorem ok_law52 {fl : Addr} {fd : FuncData} (F : Fun K "law" "law" s_law fl fd) (T : Txt K mg) (C_po : Cal P w K mg base CX0 1 "_law_pool" ["script", "k"] (spPoolL K)) (C_tk : Cal P w K mg base CX0 1 "_law_take" ["pool", "many"] spTakeL) (C_nm : Cal P w K mg base CX0 2 "_law_names" ["pool"] spNamesL)
    (C_rc : Cal P w K mg base CX0 7 "_law_recipe" ["pool", "names", "most"] spRecipeL) (C_lg : Cal P w K mg base CX0 22 "_law_long" ["pool"] spLong) (C_rt : Cal P w K mg base CX0 (lvR 8 2 + 4) "_law_right" ["r", "numbers", "own"] (spRight52 Tb)) : FnOk P w K mg base CX0 (lvR 8 2 + 5) fl fd ["script"] (spLawT K Tb) := by
  have C__law_pool := C_po.mono (show 1 ≤ lvR 8 2 + 4 by decide)
  have C__law_take := C_tk.mono (show 1 ≤ lvR 8 2 + 4 by decide)
  have C__law_names := C_nm.mono (show 2 ≤ lvR 8 2 + 4 by decide)
  have C__law_recipe := C_rc.mono (show 7 ≤ lvR 8 2 + 4 by decide)
  have C__law_long := C_lg.mono (show 22 ≤ lvR 8 2 + 4 by decide)
  have C__law_right := C_rt
  refine F.ok (k := lvR 8 2 + 4) sc_law (fun vs H Q E h => ?_) (fun cdv A' outer s H vs Q E hr h => ?_)
  · obtain ⟨_, _, rfl, _⟩ := h
    rfl
  obtain ⟨a, cs, rfl, hS, h63, hT, q⟩ := h
  have hu : (cxOf CX0 P w K mg base N_law "law" (defScope s_law) fl cdv A' outer s H E).nox.A.units + 1 < cLine := Nat.lt_of_le_of_lt (Nat.add_le_add_left (by decide : 1 ≤ 64) _) hr.units
  refine ⟨_, (pss_cons (ps_if (pt_not (pt_val (pe_cal C__law_long (hr.mono (by first | decide | omega)) pass0 (pa_cons (pe_cal C__law_pool (hr.mono (by first | decide | omega)) pass0 (pa_cons (pv 0) (pa_cons pe_int pa_nil))) pa_nil))))
        (pss_one (ps_ret pe_bl))
        pss_nil)
      (pss_cons (ps_for PassesOwn.never rfl (pi_range1 rfl T.b_range (pa_cons (pe_callB (call_max2 rfl) (by rfl) T.b_max (by decide +kernel) (pa_cons pe_int (pa_cons (pe_callB (call_min2 rfl) (by rfl) T.b_min (by decide +kernel) (pa_cons pe_int (pa_cons (pe_callB call_len_seq (by rfl) T.b_len PySem.boot_len (pa_cons (pv 0) pa_nil)) pa_nil))) pa_nil))) pa_nil)) (pg_name (i := 1) sc_law.nd rfl (Or.inl rfl))
        (pss_cons (ps_set (i := 2) sc_law.nd rfl (Or.inl rfl) (pe_cal C__law_pool (hr.mono (by first | decide | omega)) pass0 (pa_cons (pv 0) (pa_cons (pv 1) pa_nil))))
      (pss_cons (ps_set (i := 3) sc_law.nd rfl (Or.inl rfl) (pe_cal C__law_names (hr.mono (by first | decide | omega)) pass0 (pa_cons (pv 2) pa_nil)))
      (pss_cons (ps_set (i := 4) sc_law.nd rfl (Or.inl rfl) (pe_cal C__law_recipe (hr.mono (by first | decide | omega)) pass0 (pa_cons (pv 2) (pa_cons (pv 3) (pa_cons (pe_op op_pow pe_int pe_int) pa_nil)))))
      (pss_cons (ps_set (i := 5) sc_law.nd rfl (Or.inr rfl) pe_dnewA)
      (pss_cons (ps_for PassesOwn.never rfl (pi_list (pv 3)) (pg_name (i := 6) sc_law.nd rfl (Or.inl rfl))
        (pss_cons (ps_set (i := 7) sc_law.nd rfl (Or.inl rfl) (pe_lstA (pa_cons (pe_op op_sub (pe_cal C__law_take (hr.mono (by first | decide | omega)) pass0 (pa_cons (pv 2) (pa_cons pe_int pa_nil))) pe_int) (pa_cons (pe_op op_sub (pe_cal C__law_take (hr.mono (by first | decide | omega)) pass0 (pa_cons (pv 2) (pa_cons (pe_op op_add (pe_op op_mul pe_int (pe_op op_pow pe_int pe_int)) pe_int) pa_nil))) (pe_op op_pow pe_int pe_int)) pa_nil))))
      (pss_one (ps_dput hu (pv 5) (pv 6) (pe_ix (r := rIxL K) ix_list (pv 7) (pe_cal C__law_take (hr.mono (by first | decide | omega)) pass0 (pa_cons (pv 2) (pa_cons pe_int pa_nil))) (fun _ _ => rfl)) rfl))))
      (pss_cons (ps_set (i := 8) sc_law.nd rfl (Or.inl rfl) (pe_ix (r := rIxL K) ix_list (pe_lc (own := [("name", 6)]) (g := gName 6)  (by rfl) sc_law.nd  (pi_list (pe_lstA (pa_cons pe_str (pa_cons pe_str (pa_cons pe_str (pa_cons pe_str (pa_cons pe_str (pa_cons pe_str (pa_cons pe_str (pa_cons pe_str pa_nil)))))))))) (blkOk_by (own := [("name", 6)]) (N := N_law) (sc := defScope s_law) (by decide +kernel)) (fun _ _ _ _ _ => (pg_name (i := 6) sc_law.nd rfl (Or.inl rfl))) (fun _ _ _ _ _ => (pts_one (pt_cmp (pc_dnotin hu (pv 6) (pv 5))))) (fun _ _ _ _ _ => (pv 6))) pe_int (fun _ _ => rfl)))
      (pss_one (ps_if (pt_not (pt_val (pe_cal C__law_right (hr.mono (by first | decide | omega)) pass0 (pa_cons (pv 4) (pa_cons (pv 5) (pa_cons (pv 8) pa_nil))))))
        (pss_one (ps_ret pe_bl))
        pss_nil)))))))))
      (pss_one (ps_ret pe_bl)))), ?_⟩
  refine ⟨_, rfl, a, cs, 13, rfl, hS, h63, by decide, by decide, fun p r m c np c0 c1 => ?_⟩
  refine ⟨p, r, m, c, rfl, upd_same, c0, by omega, fun H2 f2 => ⟨_, rfl, not_true_eq rfl ?_⟩⟩
  have s2 : Same H H2 := fun b u e => f2 b u (fun z => by rw [z, np] at e; cases e) (same_new np _ _ _ e)
  have F2 : FrS Tb [] H H2 := FrS.of s2
  obtain ⟨mx, ⟨m0, m1⟩, hm⟩ : ∃ mx : Int, (1 ≤ mx ∧ mx ≤ 12) ∧ (if (if (((cs.map V.int).length : Nat) : Int) < 12 then (((cs.map V.int).length : Nat) : Int) else 12) > 1 then (if (((cs.map V.int).length : Nat) : Int) < 12 then (((cs.map V.int).length : Nat) : Int) else 12) else 1) = mx := by
    refine ⟨_, ?_, rfl⟩
    split <;> split at * <;> omega
  refine ⟨_, rfl, a, _, rfl, .inl (s2.seq hS), _, _, rfl, _, _, rfl, mx, congrArg (fun z => [V.int z]) hm, by omega, by omega, for_range (lo := 0) (n := mx.toNat) (fun k σ X => ∃ (w1 w2 w3 w4 w5 w6 w7 w8 : Option V), σ = [some (.ref a), w1, w2, w3, w4, w5, w6, w7, w8] ∧ FrS Tb [] H X) ⟨_, _, _, _, _, _, _, _, rfl, F2⟩ ?_ ?_⟩
  · clear F2 s2 f2
    rintro k σ X hk ⟨w1, w2, w3, w4, w5, w6, w7, w8, rfl, FX⟩
    refine in_name rfl ?_
    have hSX := FX.seq (fun z => nomatch z) hS
    refine ⟨_, rfl, _, rfl, a, cs, 0 + (k : Int), rfl, hSX, h63, by omega, by omega, fun p r m c np c0 c1 => ?_⟩
    have s1 := same_new np (.lst (pl r m c))
    have p1 : upd X p (.lst (pl r m c)) p = some (.lst (pl r m c)) := upd_same
    generalize upd X p (.lst (pl r m c)) = X1 at s1 p1 ⊢
    refine ⟨_, rfl, p, r, m, c, rfl, p1, c0, by omega, fun X2 L ns r2 c2 f2 eL nL n1 n7 hnm nd p2 d0 d1 => ?_⟩
    have npL : L ≠ p := fun z => by rw [z, p1] at nL; cases nL
    have small6 : (10 : Int) ^ (6 : Int).toNat = 1000000 := by decide
    refine ⟨_, rfl, _, rfl, _, _, rfl, rfl, ⟨by decide, by decide, by decide⟩, p, L, r2, m, c2, _, ns, rfl, p2, eL, n1, n7, hnm, by rw [small6]; decide, by rw [small6]; decide, d0, by omega, fun X3 v x r3 c3 f3 hv hnc ⟨hdp, hsz, htm⟩ hns p3 e0 e1 => ?_⟩
    have eL3 := f3 _ _ npL eL
    have nX1 : ∀ {b : Addr}, b ≠ p → X3 b = none → X b = none := fun {b} n h => by
      cases hA : X b with
      | none => rfl
      | some u => rw [f3 b u n (f2 b u n (s1 b u hA))] at h; cases h
    refine fun Nd X4 nNd s4' eNd => ?_
    have s4 : Same X3 X4 := s4'
    have npN : p ≠ Nd := ne_of_none p3 nNd
    have nLN : L ≠ Nd := ne_of_none eL3 nNd
    have F03 : FrS Tb [p] X X3 := ((FrS.of s1).trans (frs_of1 p1 f2 p2)).trans (frs_of1 p2 f3 p3)
    have F4 : FrS Tb [p, Nd] X X4 := (F03.mono fun y hy => by rw [List.mem_singleton.mp hy]; exact List.mem_cons_self).trans (FrS.of s4)
    have nNdX : X Nd = none := nX1 npN.symm nNd
    refine ⟨_, rfl, L, rfl, ⟨_, SqL.of (s4 _ _ eL3)⟩, for_list (xs := txs ns) (fun j σ Y => ∃ (w6 w7 w8 : Option V) (nm : List Pr) (r' c' : Int), σ = [some (.ref a), some (.int (0 + (k : Int))), some (.ref p), some (.ref L), some v, some (.ref Nd), w6, w7, w8] ∧ FrS Tb [p, Nd] X Y ∧ Y L = some (.lst (txs ns)) ∧ Rec Y x v ∧ Y p = some (.lst (pl r' m c')) ∧ 0 ≤ c' ∧ c' ≤ c3 + 3 * j ∧ Y Nd = some (.dK (numsK nm)) ∧ nm.map (·.1) = ns.take j ∧ ∀ y ∈ nm, y.2.natAbs < 2 ^ 21)
      ⟨_, _, _, [], r3, c3, rfl, F4, s4 _ _ eL3, hv.same s4, s4 _ _ p3, e0, by omega, eNd, rfl, fun _ h => nomatch h⟩ (fun j σ Y _ ⟨_, _, _, _, _, _, _, _, h, _⟩ => SqL.of h) ?_ ?_⟩
    · rintro j y σ Y hy ⟨w6, w7, w8, nm, r', c', rfl, fY, eLY, hvY, pY, g0, g1, eN, hmap, hsm⟩
      obtain ⟨t, ht, rfl⟩ := txs_at' hy
      have hj7 : j < 7 := by have := (List.getElem?_eq_some_iff.mp ht).1; omega
      have hnl : nm.length ≤ 7 := by
        have := congrArg List.length hmap
        rw [List.length_map, List.length_take] at this
        omega
      refine in_name rfl ?_
      refine ⟨_, rfl, p, r', m, c', 9, rfl, pY, by decide, small400 (by decide) (by decide), g0, by omega, fun Y1 y1 r1 c1 k1 p1' i0 i1 a0 a9 => ?_⟩
      refine ⟨_, _, rfl, rfl, _, rfl, _, _, rfl, rfl, ⟨by decide, by decide, by decide⟩, _, _, rfl, rfl, .inl ⟨by decide, by decide⟩, _, _, rfl, rfl, p, r1, m, c1, _, rfl, p1', (by decide), small400 (by decide) (by decide), i0, by omega, fun Y2 y2 r2 c2 k2 p2' j0 j1 b0 b1 => ?_⟩
      have hbig : 2 * (10 : Int) ^ (6 : Int).toNat + 1 = 2000001 := by decide
      rw [hbig] at b1
      refine ⟨_, _, rfl, rfl, ⟨by decide, by decide, by decide⟩, _, _, rfl, rfl, le_line (Nat.le_of_ble_eq_true rfl), fun Sm Y3 nSm y3' eSm => ?_⟩
      rw [small6] at eSm
      have y3 : Same Y2 Y3 := y3'
      have p3' := y3 _ _ p2'
      have npS : p ≠ Sm := ne_of_none p2' nSm
      refine ⟨_, rfl, _, rfl, p, r2, m, c2, 2, rfl, p3', by decide, small400 (by decide) (by decide), j0, by omega, fun Y4 bb r4 c4 k4 p4' l0 l1 bb0 bb1 => ?_⟩
      obtain ⟨z, hz, hat⟩ := one_of (xs := ([.int (y1 - 4), .int (y2 - 1000000)] : List V)) bb0 (by show bb < 2; exact bb1)
      obtain ⟨w, rfl, hw⟩ : ∃ w : Int, z = .int w ∧ w.natAbs < 2 ^ 21 := by
        simp only [List.mem_cons, List.not_mem_nil, or_false] at hz
        rcases hz with h | h
        · exact ⟨_, h, Nat.lt_of_lt_of_le (show (y1 - 4).natAbs < 16 by omega) (by decide)⟩
        · exact ⟨_, h, Nat.lt_of_lt_of_le (show (y2 - 1000000).natAbs < 1000002 by omega) (by decide)⟩
      have fA : Fr1 p Y Y4 := fun b u n e => by rw [k4 b n]; exact y3 _ _ (by rw [k2 b n, k1 b n]; exact e)
      have eS4 : Y4 Sm = some (.lst [.int (y1 - 4), .int (y2 - 1000000)]) := (k4 Sm npS.symm).trans eSm
      have eN4 := fA _ _ npN.symm eN
      refine ⟨Sm, _, bb, _, rfl, rfl, SqL.of eS4, hat, _, rfl, _, rfl, Nd, _, rfl, DPut.k (k := kT (SX.S t)) eN4 (lt_line (by rw [numsK_len]; omega)), ?_⟩
      have hnew : ¬ t ∈ nm.map (·.1) := fun z => by
        rw [hmap] at z
        obtain ⟨i, hi, ei⟩ := List.mem_iff_getElem.mp z
        rw [List.length_take] at hi
        obtain ⟨hj, ej⟩ := List.getElem?_eq_some_iff.mp ht
        rw [List.getElem_take] at ei
        exact List.pairwise_iff_getElem.mp (List.nodup_iff_pairwise_ne.mp nd) i j (by omega) hj (by omega) (ei.trans ej.symm)
      rw [nums_putA, putA_new w hnew]
      have f5 : FrS Tb [p, Nd] X (upd Y4 Nd (.dK (numsK (nm ++ [(t, w)])))) := (fY.trans ((frs_of1 pY fA p4').mono fun y hy => by rw [List.mem_singleton.mp hy]; exact List.mem_cons_self)).trans (FrS.upd (List.mem_cons_of_mem _ (List.mem_singleton.mpr rfl)) (.inl ⟨_, eN4⟩))
      have kpU : Keep Y4 (upd Y4 Nd (.dK (numsK (nm ++ [(t, w)])))) := fun b ys e => by
        rw [upd_ne (fun z => by rw [z, eN4] at e; cases e)]
        exact e
      refine ⟨_, _, _, nm ++ [(t, w)], r4, c4, rfl, f5, by rw [upd_ne nLN]; exact fA _ _ npL eLY, (hvY.keep (fA.keep pY)).keep kpU, by rw [upd_ne npN]; exact p4', l0, by omega, upd_same, ?_, fun y hy => ?_⟩
      · rw [List.map_append, hmap, List.take_add_one, ht]
        rfl
      · rcases List.mem_append.mp hy with h | h
        · exact hsm y h
        · rw [List.mem_singleton.mp h]; exact hw
    rintro σ Y ⟨w6, w7, w8, nm, r', c', rfl, fY, eLY, hvY, pY, g0, g1, eN, hmap, hsm⟩
    rw [txs_len, List.take_of_length_le (Nat.le_refl _)] at hmap
    have hnl : nm.length ≤ 7 := by
      have := congrArg List.length hmap
      rw [List.length_map] at this
      omega
    refine ⟨le_line (Nat.le_of_ble_eq_true rfl), fun Cn Y1 nCn y1' eCn => ?_⟩
    have y1 : Same Y Y1 := y1'
    have eCn : Y1 Cn = some (.lst (txs cands52)) := by rw [← cands52_is]; exact eCn
    refine ⟨Cn, rfl, ⟨_, SqL.of eCn⟩, fun M0 nM0 => lc_list (xs := txs cands52) (fun i Z => Same Y1 Z ∧ Z M0 = some (.lst (txs ((cands52.take i).filter fun s => decide (seen nm s = none))))) ⟨same_new nM0 _, upd_same⟩ (fun i Z _ h => SqL.of (h.1 _ _ eCn)) ?_ ?_⟩
    · rintro i y Z hy ⟨sZ, eM⟩
      obtain ⟨t, ht, rfl⟩ := txs_at' hy
      have dg := DGet.k (k := kT (SX.S t)) ((y1.trans sZ) _ _ eN)
      rw [val_seen] at dg
      refine ⟨rfl, _, rfl, _, rfl, Nd, _, rfl, dg, _, rfl, ?_⟩
      rw [List.take_add_one, ht, List.filter_append]
      have ll : (List.filter (fun s => decide (seen nm s = none)) (List.take i cands52)).length ≤ 8 := Nat.le_trans (List.length_filter_le _ _) (by rw [List.length_take]; exact Nat.min_le_right _ _)
      cases hs : seen nm t with
      | none =>
        refine iteT ⟨_, rfl, _, eM, lt_line (by rw [txs_len]; omega), same_upd sZ nM0 _, ?_⟩
        rw [upd_same, show List.filter (fun s => decide (seen nm s = none)) (some t).toList = [t] by
          show List.filter _ [t] = [t]
          rw [List.filter_cons, if_pos (by rw [hs]; rfl)]
          rfl, txs_app]
        rfl
      | some x =>
        refine iteF ⟨sZ, ?_⟩
        rw [show List.filter (fun s => decide (seen nm s = none)) (some t).toList = [] by
          show List.filter _ [t] = []
          rw [List.filter_cons, if_neg (fun z => by rw [hs] at z; have := of_decide_eq_true z; cases this)]
          rfl, List.append_nil]
        exact eM
    rintro Z ⟨sZ, eM⟩
    rw [txs_len, List.take_of_length_le (Nat.le_refl _)] at eM
    obtain ⟨own, rest, eo⟩ : ∃ own rest, cands52.filter (fun s => decide (seen nm s = none)) = own :: rest := by
      cases e : cands52.filter (fun s => decide (seen nm s = none)) with
      | cons o l => exact ⟨o, l, rfl⟩
      | nil =>
        have := sub_lenR (l := cands52) (m := nm.map (·.1)) (by decide) fun s hs => by
          have := List.filter_eq_nil_iff.mp e s hs
          by_cases c : s ∈ nm.map (·.1)
          · exact c
          · exact absurd (decide_eq_true (seen_not c)) this
        rw [List.length_map] at this
        have : 8 ≤ nm.length := this
        omega
    have ho : own ∈ cands52.filter (fun s => decide (seen nm s = none)) := by rw [eo]; exact List.mem_cons_self
    obtain ⟨ho1, ho2⟩ := List.mem_filter.mp ho
    rw [eo] at eM
    refine ⟨M0, _, 0, .str (SX.S own), rfl, rfl, SqL.of eM, atI_nat (j := 0) rfl, ?_⟩
    have sYZ := y1.trans sZ
    have hno : ¬ own ∈ nm.map (·.1) := seen_none (of_decide_eq_true ho2)
    have fZ : FrS Tb [] X Z := (fY.trans (FrS.of sYZ)).dropAll fun b hb => by
      rcases List.mem_cons.mp hb with e | hb
      · rw [e]; exact np
      · rw [List.mem_singleton.mp hb]; exact nNdX
    refine ⟨_, rfl, _, rfl, _, rfl, v, Nd, own, x, nm, rfl, hvY.same sYZ, ⟨hnc, htm, hdp, by omega, fun s hs => by rw [hmap]; exact hns s hs, cands52_ok own ho1, hno⟩, sYZ _ _ eN, fun y hy => ⟨hnm _ (by rw [← hmap]; exact List.mem_map.mpr ⟨y, hy, rfl⟩), hsm y hy⟩, by rw [hmap]; exact nd, by omega, (FX.trans fZ).2.2 hT, fun W f => ⟨_, rfl, not_true_eq rfl ?_⟩⟩
    exact ⟨_, _, _, _, _, _, _, _, rfl, (FX.trans fZ).trans f⟩
  · rintro σ X ⟨w1, w2, w3, w4, w5, w6, w7, w8, rfl, FX⟩
    exact q X
end
/-- the class of an own error stands as it is laid: seen in the written part -/
def oexB (K : PySem.W.Frag) (C : Addr) : Bool := match K.lookup C with
  | none => false
  | some o => match o.data with
    | .cls cd => decide (o.cls = .type "type") && (decide (o.slots.size = 6) && (decide (o.slots[4]? = some (some (.builtin "ValueError.__new__"))) && (cd.hasDict && (!cd.hasDel && (match cd.mro with
      | a :: bm => decide (a = .ref C) && PySem.HandSPX.refsVE bm
      | [] => false)))))
    | _ => false
def OexL (K : PySem.W.Frag) (C : Addr) : Prop := ∃ nm q N bs bm sn sub ab col dd k0 k1 k2 k3 k5, K.lookup C = some (excClassObj nm q C N bs bm true sn sub ab col dd k0 k1 k2 k3 k5 "ValueError.__new__") ∧ PySem.HandSPX.refsVE bm = true
theorem oexB_ok {K : PySem.W.Frag} {C : Addr} (h : oexB K C = true) : OexL K C := by
  unfold oexB at h
  cases e : K.lookup C with
  | none => rw [e] at h; cases h
  | some o =>
    rw [e] at h
    obtain ⟨ocl, odd, odt, ⟨osl⟩⟩ := o
    cases odt with
    | cls cd =>
      obtain ⟨nm, bs, mro, ns, qn, hd, sn, sub, ab, col, del⟩ := cd
      simp only [Bool.and_eq_true, decide_eq_true_eq, Bool.not_eq_true'] at h
      obtain ⟨h1, h2, h3, h4, h5, h6⟩ := h
      subst h1 h4 h5
      cases mro with
      | nil => cases h6
      | cons a bm =>
        simp only [Bool.and_eq_true, decide_eq_true_eq] at h6
        obtain ⟨rfl, h7⟩ := h6
        match osl, h2, h3 with
        | [k0, k1, k2, k3, k4, k5], _, h3 =>
          have h8 : k4 = some (.builtin "ValueError.__new__") := by simpa using h3
          subst h8
          exact ⟨nm, qn, ns, bs, bm, sn, sub, ab, col, odd, k0, k1, k2, k3, k5, e, h7⟩
    | _ => cases h
theorem all_mk {l : PySem.W.OpenLaw} {w : World} {K : PySem.W.Frag} {h : Heap} {mg : Str → Option Value} {fa f_is_whole_recipes f_is_name f_are_names f_within f_is_recipe f_behind f_is_whole_behind f_is_read f_is_true_record f_put_together f_worth_by f_fresh_build f_worth_of f_reads_of f__law_pool f__law_take f__law_names f__law_leaf f__law_part f__law_recipe f__law_lacking f__law_right f__law_long f_law : Addr} (X : K.In h) (G : h.Ns mainGlobals mg) (hfa : mg "law" = some (.ref fa))
    {od_is_whole_recipes an_is_whole_recipes od_is_name an_is_name od_are_names an_are_names od_within an_within od_is_recipe an_is_recipe od_behind an_behind od_is_whole_behind an_is_whole_behind od_is_read an_is_read od_is_true_record an_is_true_record od_put_together an_put_together od_worth_by an_worth_by od_fresh_build an_fresh_build od_worth_of an_worth_of od_reads_of an_reads_of od__law_pool an__law_pool od__law_take an__law_take od__law_names an__law_names od__law_leaf an__law_leaf od__law_part an__law_part od__law_recipe an__law_recipe od__law_lacking an__law_lacking od__law_right an__law_right od__law_long an__law_long od_law an_law : Option Addr} {sl_is_whole_recipes sl_is_name sl_are_names sl_within sl_is_recipe sl_behind sl_is_whole_behind sl_is_read sl_is_true_record sl_put_together sl_worth_by sl_fresh_build sl_worth_of sl_reads_of sl__law_pool sl__law_take sl__law_names sl__law_leaf sl__law_part sl__law_recipe sl__law_lacking sl__law_right sl__law_long sl_law : Array (Option Value)} {oc_is_whole_recipes kV_is_whole_recipes dc_is_whole_recipes pm_is_whole_recipes cd_is_whole_recipes ct_is_whole_recipes oc_is_name kV_is_name dc_is_name pm_is_name cd_is_name ct_is_name oc_are_names kV_are_names dc_are_names pm_are_names cd_are_names ct_are_names oc_within kV_within dc_within pm_within cd_within ct_within oc_is_recipe kV_is_recipe dc_is_recipe pm_is_recipe cd_is_recipe ct_is_recipe oc_behind kV_behind dc_behind pm_behind cd_behind ct_behind oc_is_whole_behind kV_is_whole_behind dc_is_whole_behind pm_is_whole_behind cd_is_whole_behind ct_is_whole_behind oc_is_read kV_is_read dc_is_read pm_is_read cd_is_read ct_is_read oc_is_true_record kV_is_true_record dc_is_true_record pm_is_true_record cd_is_true_record ct_is_true_record oc_put_together kV_put_together dc_put_together pm_put_together cd_put_together ct_put_together oc_worth_by kV_worth_by dc_worth_by pm_worth_by cd_worth_by ct_worth_by oc_fresh_build kV_fresh_build dc_fresh_build pm_fresh_build cd_fresh_build ct_fresh_build oc_worth_of kV_worth_of dc_worth_of pm_worth_of cd_worth_of ct_worth_of oc_reads_of kV_reads_of dc_reads_of pm_reads_of cd_reads_of ct_reads_of oc__law_pool kV__law_pool dc__law_pool pm__law_pool cd__law_pool ct__law_pool oc__law_take kV__law_take dc__law_take pm__law_take cd__law_take ct__law_take oc__law_names kV__law_names dc__law_names pm__law_names cd__law_names ct__law_names oc__law_leaf kV__law_leaf dc__law_leaf pm__law_leaf cd__law_leaf ct__law_leaf oc__law_part kV__law_part dc__law_part pm__law_part cd__law_part ct__law_part oc__law_recipe kV__law_recipe dc__law_recipe pm__law_recipe cd__law_recipe ct__law_recipe oc__law_lacking kV__law_lacking dc__law_lacking pm__law_lacking cd__law_lacking ct__law_lacking oc__law_right kV__law_right dc__law_right pm__law_right cd__law_right ct__law_right oc__law_long kV__law_long dc__law_long pm__law_long cd__law_long ct__law_long oc_law kV_law dc_law pm_law cd_law ct_law : Value}
    (a_is_whole_recipes : PySem.W.nsIn K mainGlobals "is_whole_recipes" = some (some (.ref f_is_whole_recipes))) (l_is_whole_recipes : K.lookup f_is_whole_recipes = some ⟨oc_is_whole_recipes, od_is_whole_recipes, .func (PySem.W.fnOf "is_whole" "is_whole" (defArgs s_is_whole_recipes) (defBody s_is_whole_recipes) (defScope s_is_whole_recipes) .none kV_is_whole_recipes dc_is_whole_recipes pm_is_whole_recipes an_is_whole_recipes cd_is_whole_recipes ct_is_whole_recipes), sl_is_whole_recipes⟩) (c_is_whole_recipes : PySem.W.codeIn K cd_is_whole_recipes "is_whole" = true) (k_is_whole_recipes : PySem.W.keepIn K (.ref f_is_whole_recipes) = true)
    (a_is_name : PySem.W.nsIn K mainGlobals "is_name" = some (some (.ref f_is_name))) (l_is_name : K.lookup f_is_name = some ⟨oc_is_name, od_is_name, .func (PySem.W.fnOf "is_name" "is_name" (defArgs s_is_name) (defBody s_is_name) (defScope s_is_name) .none kV_is_name dc_is_name pm_is_name an_is_name cd_is_name ct_is_name), sl_is_name⟩) (c_is_name : PySem.W.codeIn K cd_is_name "is_name" = true) (k_is_name : PySem.W.keepIn K (.ref f_is_name) = true)
    (a_are_names : PySem.W.nsIn K mainGlobals "are_names" = some (some (.ref f_are_names))) (l_are_names : K.lookup f_are_names = some ⟨oc_are_names, od_are_names, .func (PySem.W.fnOf "are_names" "are_names" (defArgs s_are_names) (defBody s_are_names) (defScope s_are_names) .none kV_are_names dc_are_names pm_are_names an_are_names cd_are_names ct_are_names), sl_are_names⟩) (c_are_names : PySem.W.codeIn K cd_are_names "are_names" = true) (k_are_names : PySem.W.keepIn K (.ref f_are_names) = true)
    (a_within : PySem.W.nsIn K mainGlobals "within" = some (some (.ref f_within))) (l_within : K.lookup f_within = some ⟨oc_within, od_within, .func (PySem.W.fnOf "within" "within" (defArgs s_within) (defBody s_within) (defScope s_within) .none kV_within dc_within pm_within an_within cd_within ct_within), sl_within⟩) (c_within : PySem.W.codeIn K cd_within "within" = true) (k_within : PySem.W.keepIn K (.ref f_within) = true)
    (a_is_recipe : PySem.W.nsIn K mainGlobals "is_recipe" = some (some (.ref f_is_recipe))) (l_is_recipe : K.lookup f_is_recipe = some ⟨oc_is_recipe, od_is_recipe, .func (PySem.W.fnOf "is_recipe" "is_recipe" (defArgs s_is_recipe) (defBody s_is_recipe) (defScope s_is_recipe) .none kV_is_recipe dc_is_recipe pm_is_recipe an_is_recipe cd_is_recipe ct_is_recipe), sl_is_recipe⟩) (c_is_recipe : PySem.W.codeIn K cd_is_recipe "is_recipe" = true) (k_is_recipe : PySem.W.keepIn K (.ref f_is_recipe) = true)
    (a_behind : PySem.W.nsIn K mainGlobals "behind" = some (some (.ref f_behind))) (l_behind : K.lookup f_behind = some ⟨oc_behind, od_behind, .func (PySem.W.fnOf "behind" "behind" (defArgs s_behind) (defBody s_behind) (defScope s_behind) .none kV_behind dc_behind pm_behind an_behind cd_behind ct_behind), sl_behind⟩) (c_behind : PySem.W.codeIn K cd_behind "behind" = true) (k_behind : PySem.W.keepIn K (.ref f_behind) = true)
    (a_is_whole_behind : PySem.W.nsIn K mainGlobals "is_whole_behind" = some (some (.ref f_is_whole_behind))) (l_is_whole_behind : K.lookup f_is_whole_behind = some ⟨oc_is_whole_behind, od_is_whole_behind, .func (PySem.W.fnOf "is_whole" "is_whole" (defArgs s_is_whole_behind) (defBody s_is_whole_behind) (defScope s_is_whole_behind) .none kV_is_whole_behind dc_is_whole_behind pm_is_whole_behind an_is_whole_behind cd_is_whole_behind ct_is_whole_behind), sl_is_whole_behind⟩) (c_is_whole_behind : PySem.W.codeIn K cd_is_whole_behind "is_whole" = true) (k_is_whole_behind : PySem.W.keepIn K (.ref f_is_whole_behind) = true)
    (a_is_read : PySem.W.nsIn K mainGlobals "is_read" = some (some (.ref f_is_read))) (l_is_read : K.lookup f_is_read = some ⟨oc_is_read, od_is_read, .func (PySem.W.fnOf "is_read" "is_read" (defArgs s_is_read) (defBody s_is_read) (defScope s_is_read) .none kV_is_read dc_is_read pm_is_read an_is_read cd_is_read ct_is_read), sl_is_read⟩) (c_is_read : PySem.W.codeIn K cd_is_read "is_read" = true) (k_is_read : PySem.W.keepIn K (.ref f_is_read) = true)
    (a_is_true_record : PySem.W.nsIn K mainGlobals "is_true_record" = some (some (.ref f_is_true_record))) (l_is_true_record : K.lookup f_is_true_record = some ⟨oc_is_true_record, od_is_true_record, .func (PySem.W.fnOf "is_true_record" "is_true_record" (defArgs s_is_true_record) (defBody s_is_true_record) (defScope s_is_true_record) .none kV_is_true_record dc_is_true_record pm_is_true_record an_is_true_record cd_is_true_record ct_is_true_record), sl_is_true_record⟩) (c_is_true_record : PySem.W.codeIn K cd_is_true_record "is_true_record" = true) (k_is_true_record : PySem.W.keepIn K (.ref f_is_true_record) = true)
    (a_put_together : PySem.W.nsIn K mainGlobals "put_together" = some (some (.ref f_put_together))) (l_put_together : K.lookup f_put_together = some ⟨oc_put_together, od_put_together, .func (PySem.W.fnOf "put_together" "put_together" (defArgs s_put_together) (defBody s_put_together) (defScope s_put_together) .none kV_put_together dc_put_together pm_put_together an_put_together cd_put_together ct_put_together), sl_put_together⟩) (c_put_together : PySem.W.codeIn K cd_put_together "put_together" = true) (k_put_together : PySem.W.keepIn K (.ref f_put_together) = true)
    (a_worth_by : PySem.W.nsIn K mainGlobals "worth_by" = some (some (.ref f_worth_by))) (l_worth_by : K.lookup f_worth_by = some ⟨oc_worth_by, od_worth_by, .func (PySem.W.fnOf "worth_by" "worth_by" (defArgs s_worth_by) (defBody s_worth_by) (defScope s_worth_by) .none kV_worth_by dc_worth_by pm_worth_by an_worth_by cd_worth_by ct_worth_by), sl_worth_by⟩) (c_worth_by : PySem.W.codeIn K cd_worth_by "worth_by" = true) (k_worth_by : PySem.W.keepIn K (.ref f_worth_by) = true)
    (a_fresh_build : PySem.W.nsIn K mainGlobals "fresh_build" = some (some (.ref f_fresh_build))) (l_fresh_build : K.lookup f_fresh_build = some ⟨oc_fresh_build, od_fresh_build, .func (PySem.W.fnOf "fresh_build" "fresh_build" (defArgs s_fresh_build) (defBody s_fresh_build) (defScope s_fresh_build) .none kV_fresh_build dc_fresh_build pm_fresh_build an_fresh_build cd_fresh_build ct_fresh_build), sl_fresh_build⟩) (c_fresh_build : PySem.W.codeIn K cd_fresh_build "fresh_build" = true) (k_fresh_build : PySem.W.keepIn K (.ref f_fresh_build) = true)
    (a_worth_of : PySem.W.nsIn K mainGlobals "worth_of" = some (some (.ref f_worth_of))) (l_worth_of : K.lookup f_worth_of = some ⟨oc_worth_of, od_worth_of, .func (PySem.W.fnOf "worth_of" "worth_of" (defArgs s_worth_of) (defBody s_worth_of) (defScope s_worth_of) .none kV_worth_of dc_worth_of pm_worth_of an_worth_of cd_worth_of ct_worth_of), sl_worth_of⟩) (c_worth_of : PySem.W.codeIn K cd_worth_of "worth_of" = true) (k_worth_of : PySem.W.keepIn K (.ref f_worth_of) = true)
    (a_reads_of : PySem.W.nsIn K mainGlobals "reads_of" = some (some (.ref f_reads_of))) (l_reads_of : K.lookup f_reads_of = some ⟨oc_reads_of, od_reads_of, .func (PySem.W.fnOf "reads_of" "reads_of" (defArgs s_reads_of) (defBody s_reads_of) (defScope s_reads_of) .none kV_reads_of dc_reads_of pm_reads_of an_reads_of cd_reads_of ct_reads_of), sl_reads_of⟩) (c_reads_of : PySem.W.codeIn K cd_reads_of "reads_of" = true) (k_reads_of : PySem.W.keepIn K (.ref f_reads_of) = true)
    (a__law_pool : PySem.W.nsIn K mainGlobals "_law_pool" = some (some (.ref f__law_pool))) (l__law_pool : K.lookup f__law_pool = some ⟨oc__law_pool, od__law_pool, .func (PySem.W.fnOf "_law_pool" "_law_pool" (defArgs s__law_pool) (defBody s__law_pool) (defScope s__law_pool) .none kV__law_pool dc__law_pool pm__law_pool an__law_pool cd__law_pool ct__law_pool), sl__law_pool⟩) (c__law_pool : PySem.W.codeIn K cd__law_pool "_law_pool" = true) (k__law_pool : PySem.W.keepIn K (.ref f__law_pool) = true)
    (a__law_take : PySem.W.nsIn K mainGlobals "_law_take" = some (some (.ref f__law_take))) (l__law_take : K.lookup f__law_take = some ⟨oc__law_take, od__law_take, .func (PySem.W.fnOf "_law_take" "_law_take" (defArgs s__law_take) (defBody s__law_take) (defScope s__law_take) .none kV__law_take dc__law_take pm__law_take an__law_take cd__law_take ct__law_take), sl__law_take⟩) (c__law_take : PySem.W.codeIn K cd__law_take "_law_take" = true) (k__law_take : PySem.W.keepIn K (.ref f__law_take) = true)
    (a__law_names : PySem.W.nsIn K mainGlobals "_law_names" = some (some (.ref f__law_names))) (l__law_names : K.lookup f__law_names = some ⟨oc__law_names, od__law_names, .func (PySem.W.fnOf "_law_names" "_law_names" (defArgs s__law_names) (defBody s__law_names) (defScope s__law_names) .none kV__law_names dc__law_names pm__law_names an__law_names cd__law_names ct__law_names), sl__law_names⟩) (c__law_names : PySem.W.codeIn K cd__law_names "_law_names" = true) (k__law_names : PySem.W.keepIn K (.ref f__law_names) = true)
    (a__law_leaf : PySem.W.nsIn K mainGlobals "_law_leaf" = some (some (.ref f__law_leaf))) (l__law_leaf : K.lookup f__law_leaf = some ⟨oc__law_leaf, od__law_leaf, .func (PySem.W.fnOf "_law_leaf" "_law_leaf" (defArgs s__law_leaf) (defBody s__law_leaf) (defScope s__law_leaf) .none kV__law_leaf dc__law_leaf pm__law_leaf an__law_leaf cd__law_leaf ct__law_leaf), sl__law_leaf⟩) (c__law_leaf : PySem.W.codeIn K cd__law_leaf "_law_leaf" = true) (k__law_leaf : PySem.W.keepIn K (.ref f__law_leaf) = true)
    (a__law_part : PySem.W.nsIn K mainGlobals "_law_part" = some (some (.ref f__law_part))) (l__law_part : K.lookup f__law_part = some ⟨oc__law_part, od__law_part, .func (PySem.W.fnOf "_law_part" "_law_part" (defArgs s__law_part) (defBody s__law_part) (defScope s__law_part) .none kV__law_part dc__law_part pm__law_part an__law_part cd__law_part ct__law_part), sl__law_part⟩) (c__law_part : PySem.W.codeIn K cd__law_part "_law_part" = true) (k__law_part : PySem.W.keepIn K (.ref f__law_part) = true)
    (a__law_recipe : PySem.W.nsIn K mainGlobals "_law_recipe" = some (some (.ref f__law_recipe))) (l__law_recipe : K.lookup f__law_recipe = some ⟨oc__law_recipe, od__law_recipe, .func (PySem.W.fnOf "_law_recipe" "_law_recipe" (defArgs s__law_recipe) (defBody s__law_recipe) (defScope s__law_recipe) .none kV__law_recipe dc__law_recipe pm__law_recipe an__law_recipe cd__law_recipe ct__law_recipe), sl__law_recipe⟩) (c__law_recipe : PySem.W.codeIn K cd__law_recipe "_law_recipe" = true) (k__law_recipe : PySem.W.keepIn K (.ref f__law_recipe) = true)
    (a__law_lacking : PySem.W.nsIn K mainGlobals "_law_lacking" = some (some (.ref f__law_lacking))) (l__law_lacking : K.lookup f__law_lacking = some ⟨oc__law_lacking, od__law_lacking, .func (PySem.W.fnOf "_law_lacking" "_law_lacking" (defArgs s__law_lacking) (defBody s__law_lacking) (defScope s__law_lacking) .none kV__law_lacking dc__law_lacking pm__law_lacking an__law_lacking cd__law_lacking ct__law_lacking), sl__law_lacking⟩) (c__law_lacking : PySem.W.codeIn K cd__law_lacking "_law_lacking" = true) (k__law_lacking : PySem.W.keepIn K (.ref f__law_lacking) = true)
    (a__law_right : PySem.W.nsIn K mainGlobals "_law_right" = some (some (.ref f__law_right))) (l__law_right : K.lookup f__law_right = some ⟨oc__law_right, od__law_right, .func (PySem.W.fnOf "_law_right" "_law_right" (defArgs s__law_right) (defBody s__law_right) (defScope s__law_right) .none kV__law_right dc__law_right pm__law_right an__law_right cd__law_right ct__law_right), sl__law_right⟩) (c__law_right : PySem.W.codeIn K cd__law_right "_law_right" = true) (k__law_right : PySem.W.keepIn K (.ref f__law_right) = true)
    (a__law_long : PySem.W.nsIn K mainGlobals "_law_long" = some (some (.ref f__law_long))) (l__law_long : K.lookup f__law_long = some ⟨oc__law_long, od__law_long, .func (PySem.W.fnOf "_law_long" "_law_long" (defArgs s__law_long) (defBody s__law_long) (defScope s__law_long) .none kV__law_long dc__law_long pm__law_long an__law_long cd__law_long ct__law_long), sl__law_long⟩) (c__law_long : PySem.W.codeIn K cd__law_long "_law_long" = true) (k__law_long : PySem.W.keepIn K (.ref f__law_long) = true)
    (a_law : PySem.W.nsIn K mainGlobals "law" = some (some (.ref f_law))) (l_law : K.lookup f_law = some ⟨oc_law, od_law, .func (PySem.W.fnOf "law" "law" (defArgs s_law) (defBody s_law) (defScope s_law) .none kV_law dc_law pm_law an_law cd_law ct_law), sl_law⟩) (c_law : PySem.W.codeIn K cd_law "law" = true) (k_law : PySem.W.keepIn K (.ref f_law) = true)
    (z_len : PySem.W.nsIn K mainGlobals "len" = some none)
    (z_list : PySem.W.nsIn K mainGlobals "list" = some none)
    (z_range : PySem.W.nsIn K mainGlobals "range" = some none)
    (z_tuple : PySem.W.nsIn K mainGlobals "tuple" = some none)
    (z_str : PySem.W.nsIn K mainGlobals "str" = some none)
    (z_int : PySem.W.nsIn K mainGlobals "int" = some none)
    (z_isinstance : PySem.W.nsIn K mainGlobals "isinstance" = some none)
    (z_bool : PySem.W.nsIn K mainGlobals "bool" = some none)
    (z_sum : PySem.W.nsIn K mainGlobals "sum" = some none)
    (z_dict : PySem.W.nsIn K mainGlobals "dict" = some none)
    (z_sorted : PySem.W.nsIn K mainGlobals "sorted" = some none)
    (z_zip : PySem.W.nsIn K mainGlobals "zip" = some none)
    (z_enumerate : PySem.W.nsIn K mainGlobals "enumerate" = some none)
    (z_min : PySem.W.nsIn K mainGlobals "min" = some none)
    (z_max : PySem.W.nsIn K mainGlobals "max" = some none)
    (z_set : PySem.W.nsIn K mainGlobals "set" = some none)
    (z_ValueError : PySem.W.nsIn K mainGlobals "ValueError" = some none)
    {cL PL : Addr}
    {C_Reckoner : Addr}
    {f_Reckoner___init__ f_Reckoner_look_for : Addr}
    {od_Reckoner___init__ an_Reckoner___init__ od_Reckoner_look_for an_Reckoner_look_for : Option Addr}
    {sl_Reckoner___init__ sl_Reckoner_look_for : Array (Option Value)}
    {oc_Reckoner___init__ kV_Reckoner___init__ dc_Reckoner___init__ pm_Reckoner___init__ cd_Reckoner___init__ ct_Reckoner___init__ oc_Reckoner_look_for kV_Reckoner_look_for dc_Reckoner_look_for pm_Reckoner_look_for cd_Reckoner_look_for ct_Reckoner_look_for : Value}
    (a_Reckoner : PySem.W.nsIn K mainGlobals "Reckoner" = some (some (.ref C_Reckoner)))
    (a_Reckoner___init__ : PySem.W.findIn K (.ref C_Reckoner) "__init__" = some (some (.ref f_Reckoner___init__)))
    (i_Reckoner___init__ : PySem.W.isFn K (.ref f_Reckoner___init__) = true)
    (l_Reckoner___init__ : K.lookup f_Reckoner___init__ = some ⟨oc_Reckoner___init__, od_Reckoner___init__, .func (PySem.W.fnOf "__init__" "Reckoner.__init__" (defArgs s_Reckoner___init__) (defBody s_Reckoner___init__) (defScope s_Reckoner___init__) .none kV_Reckoner___init__ dc_Reckoner___init__ pm_Reckoner___init__ an_Reckoner___init__ cd_Reckoner___init__ ct_Reckoner___init__), sl_Reckoner___init__⟩)
    (c_Reckoner___init__ : PySem.W.codeIn K cd_Reckoner___init__ "Reckoner.__init__" = true)
    (k_Reckoner___init__ : PySem.W.keepIn K (.ref f_Reckoner___init__) = true)
    (a_Reckoner_look_for : PySem.W.findIn K (.ref C_Reckoner) "look_for" = some (some (.ref f_Reckoner_look_for)))
    (i_Reckoner_look_for : PySem.W.isFn K (.ref f_Reckoner_look_for) = true)
    (l_Reckoner_look_for : K.lookup f_Reckoner_look_for = some ⟨oc_Reckoner_look_for, od_Reckoner_look_for, .func (PySem.W.fnOf "look_for" "Reckoner.look_for" (defArgs s_Reckoner_look_for) (defBody s_Reckoner_look_for) (defScope s_Reckoner_look_for) .none kV_Reckoner_look_for dc_Reckoner_look_for pm_Reckoner_look_for an_Reckoner_look_for cd_Reckoner_look_for ct_Reckoner_look_for), sl_Reckoner_look_for⟩)
    (c_Reckoner_look_for : PySem.W.codeIn K cd_Reckoner_look_for "Reckoner.look_for" = true)
    (k_Reckoner_look_for : PySem.W.keepIn K (.ref f_Reckoner_look_for) = true)
    (pg_Reckoner : PySem.W.plainGet K C_Reckoner Str.empty = true)
    (hd_Reckoner : PySem.W.hasDictIn K C_Reckoner = true)
    (po_Reckoner : PySem.W.plainOver K C_Reckoner = true)
    (sa_Reckoner : PySem.W.findIn K (.ref C_Reckoner) "__setattr__" = some (some (.builtin "object.__setattr__")))
    (mk_Reckoner : PySem.W.makesIn K C_Reckoner = true)
    (k_Reckoner : PySem.W.keepIn K (.ref C_Reckoner) = true)
    (n_Reckoner_given : PySem.W.findIn K (.ref C_Reckoner) "given" = some none)
    (n_Reckoner_recipes : PySem.W.findIn K (.ref C_Reckoner) "recipes" = some none)
    (n_Reckoner_known : PySem.W.findIn K (.ref C_Reckoner) "known" = some none)
    (n_Reckoner_read_for : PySem.W.findIn K (.ref C_Reckoner) "read_for" = some none)
    (n_Reckoner_asked : PySem.W.findIn K (.ref C_Reckoner) "asked" = some none)
    (e_cd : cd_Reckoner_look_for = .ref cL)
    (h_tab : h.get? PL = some { cls := .none, data := .fields #[] })
    (h_nT : K.lookup PL = none)
    (h_cd : PySem.W.codeHdIn K cL PL = true)
    {C_MadeError C_NoName C_Ring : Addr}
    (a_MadeError : PySem.W.nsIn K mainGlobals "MadeError" = some (some (.ref C_MadeError)))
    (a_NoName : PySem.W.nsIn K mainGlobals "NoName" = some (some (.ref C_NoName)))
    (a_Ring : PySem.W.nsIn K mainGlobals "Ring" = some (some (.ref C_Ring)))
    (d_MadeError : PySem.W.hasDictIn K C_MadeError = true)
    (d_NoName : PySem.W.hasDictIn K C_NoName = true)
    (d_Ring : PySem.W.hasDictIn K C_Ring = true)
    (y_MadeError : PySem.W.typeIn K (.ref C_MadeError) = some (.type "type"))
    (y_NoName : PySem.W.typeIn K (.ref C_NoName) = some (.type "type"))
    (y_Ring : PySem.W.typeIn K (.ref C_Ring) = some (.type "type"))
    (b_MadeError : PySem.W.subIn K (.ref C_MadeError) (.type "BaseException") = some true)
    (q_hn : PySem.W.specialIn K (.builtin "object.__class__") "__get__" = some (some (.builtin "getset_descriptor.__get__")))
    (q_ht : PySem.W.takesIn K (.builtin "object.__class__") = some true)
    (uNoName_MadeError : PySem.W.subIn K (.ref C_NoName) (.ref C_MadeError) = some true)
    (uNoName_Ring : PySem.W.subIn K (.ref C_NoName) (.ref C_Ring) = some false)
    (wNoName_Ring : (C_NoName == C_Ring) = false)
    (uNoName_ValueError : PySem.W.subIn K (.ref C_NoName) (.type "ValueError") = some true)
    (b_NoName : PySem.W.subIn K (.ref C_NoName) (.type "BaseException") = some true)
    (hgNoName : PySem.W.findIn K (.ref C_NoName) "__getattribute__" = some (some (.builtin "BaseException.__getattribute__")))
    (hkNoName : PySem.W.findIn K (.ref C_NoName) "__getattr__" = some none)
    (haNoName : PySem.W.findIn K (.ref C_NoName) "__class__" = some (some (.builtin "object.__class__")))
    (hmNoName : PySem.W.mroIn K C_NoName (.type "object") = some true)
    (x_NoName : oexB K C_NoName = true)
    (sa_NoName : PySem.W.findIn K (.ref C_NoName) "__setattr__" = some (some (.builtin "object.__setattr__")))
    (k_NoName : PySem.W.keepIn K (.ref C_NoName) = true)
    {f_NoName___init__ : Addr} {od_NoName_i an_NoName_i : Option Addr} {sl_NoName_i : Array (Option Value)} {oc_NoName_i kV_NoName_i dc_NoName_i pm_NoName_i cd_NoName_i ct_NoName_i : Value}
    (i_NoName : PySem.W.findIn K (.ref C_NoName) "__init__" = some (some (.ref f_NoName___init__)))
    (t_NoName : PySem.W.typeIn K (.ref f_NoName___init__) = some (.type "function"))
    (n_NoName : PySem.W.findIn K (.ref C_NoName) "name" = some none)
    (l_NoName_i : K.lookup f_NoName___init__ = some ⟨oc_NoName_i, od_NoName_i, .func (PySem.W.fnOf "__init__" "NoName.__init__" (defArgs s_NoName___init__) (defBody s_NoName___init__) (defScope s_NoName___init__) .none kV_NoName_i dc_NoName_i pm_NoName_i an_NoName_i cd_NoName_i ct_NoName_i), sl_NoName_i⟩)
    (c_NoName_i : PySem.W.codeIn K cd_NoName_i "NoName.__init__" = true)
    (k_NoName_i : PySem.W.keepIn K (.ref f_NoName___init__) = true)
    (uRing_MadeError : PySem.W.subIn K (.ref C_Ring) (.ref C_MadeError) = some true)
    (uRing_NoName : PySem.W.subIn K (.ref C_Ring) (.ref C_NoName) = some false)
    (wRing_NoName : (C_Ring == C_NoName) = false)
    (uRing_ValueError : PySem.W.subIn K (.ref C_Ring) (.type "ValueError") = some true)
    (b_Ring : PySem.W.subIn K (.ref C_Ring) (.type "BaseException") = some true)
    (hgRing : PySem.W.findIn K (.ref C_Ring) "__getattribute__" = some (some (.builtin "BaseException.__getattribute__")))
    (hkRing : PySem.W.findIn K (.ref C_Ring) "__getattr__" = some none)
    (haRing : PySem.W.findIn K (.ref C_Ring) "__class__" = some (some (.builtin "object.__class__")))
    (hmRing : PySem.W.mroIn K C_Ring (.type "object") = some true)
    (x_Ring : oexB K C_Ring = true)
    (sa_Ring : PySem.W.findIn K (.ref C_Ring) "__setattr__" = some (some (.builtin "object.__setattr__")))
    (k_Ring : PySem.W.keepIn K (.ref C_Ring) = true)
    {f_Ring___init__ : Addr} {od_Ring_i an_Ring_i : Option Addr} {sl_Ring_i : Array (Option Value)} {oc_Ring_i kV_Ring_i dc_Ring_i pm_Ring_i cd_Ring_i ct_Ring_i : Value}
    (i_Ring : PySem.W.findIn K (.ref C_Ring) "__init__" = some (some (.ref f_Ring___init__)))
    (t_Ring : PySem.W.typeIn K (.ref f_Ring___init__) = some (.type "function"))
    (n_Ring : PySem.W.findIn K (.ref C_Ring) "ring" = some none)
    (l_Ring_i : K.lookup f_Ring___init__ = some ⟨oc_Ring_i, od_Ring_i, .func (PySem.W.fnOf "__init__" "Ring.__init__" (defArgs s_Ring___init__) (defBody s_Ring___init__) (defScope s_Ring___init__) .none kV_Ring_i dc_Ring_i pm_Ring_i an_Ring_i cd_Ring_i ct_Ring_i), sl_Ring_i⟩)
    (c_Ring_i : PySem.W.codeIn K cd_Ring_i "Ring.__init__" = true)
    (k_Ring_i : PySem.W.keepIn K (.ref f_Ring___init__) = true)
    {C_Going : Addr}
    {f_Going___init__ f_Going_look f_Going_two f_Going_worth : Addr}
    {od_Going___init__ an_Going___init__ od_Going_look an_Going_look od_Going_two an_Going_two od_Going_worth an_Going_worth : Option Addr}
    {sl_Going___init__ sl_Going_look sl_Going_two sl_Going_worth : Array (Option Value)}
    {oc_Going___init__ kV_Going___init__ dc_Going___init__ pm_Going___init__ cd_Going___init__ ct_Going___init__ oc_Going_look kV_Going_look dc_Going_look pm_Going_look cd_Going_look ct_Going_look oc_Going_two kV_Going_two dc_Going_two pm_Going_two cd_Going_two ct_Going_two oc_Going_worth kV_Going_worth dc_Going_worth pm_Going_worth cd_Going_worth ct_Going_worth : Value}
    (a_Going : PySem.W.nsIn K mainGlobals "Going" = some (some (.ref C_Going)))
    (a_Going___init__ : PySem.W.findIn K (.ref C_Going) "__init__" = some (some (.ref f_Going___init__)))
    (i_Going___init__ : PySem.W.isFn K (.ref f_Going___init__) = true)
    (l_Going___init__ : K.lookup f_Going___init__ = some ⟨oc_Going___init__, od_Going___init__, .func (PySem.W.fnOf "__init__" "Going.__init__" (defArgs s_Going___init__) (defBody s_Going___init__) (defScope s_Going___init__) .none kV_Going___init__ dc_Going___init__ pm_Going___init__ an_Going___init__ cd_Going___init__ ct_Going___init__), sl_Going___init__⟩)
    (c_Going___init__ : PySem.W.codeIn K cd_Going___init__ "Going.__init__" = true)
    (k_Going___init__ : PySem.W.keepIn K (.ref f_Going___init__) = true)
    (a_Going_look : PySem.W.findIn K (.ref C_Going) "look" = some (some (.ref f_Going_look)))
    (i_Going_look : PySem.W.isFn K (.ref f_Going_look) = true)
    (l_Going_look : K.lookup f_Going_look = some ⟨oc_Going_look, od_Going_look, .func (PySem.W.fnOf "look" "Going.look" (defArgs s_Going_look) (defBody s_Going_look) (defScope s_Going_look) .none kV_Going_look dc_Going_look pm_Going_look an_Going_look cd_Going_look ct_Going_look), sl_Going_look⟩)
    (c_Going_look : PySem.W.codeIn K cd_Going_look "Going.look" = true)
    (k_Going_look : PySem.W.keepIn K (.ref f_Going_look) = true)
    (a_Going_two : PySem.W.findIn K (.ref C_Going) "two" = some (some (.ref f_Going_two)))
    (i_Going_two : PySem.W.isFn K (.ref f_Going_two) = true)
    (l_Going_two : K.lookup f_Going_two = some ⟨oc_Going_two, od_Going_two, .func (PySem.W.fnOf "two" "Going.two" (defArgs s_Going_two) (defBody s_Going_two) (defScope s_Going_two) .none kV_Going_two dc_Going_two pm_Going_two an_Going_two cd_Going_two ct_Going_two), sl_Going_two⟩)
    (c_Going_two : PySem.W.codeIn K cd_Going_two "Going.two" = true)
    (k_Going_two : PySem.W.keepIn K (.ref f_Going_two) = true)
    (a_Going_worth : PySem.W.findIn K (.ref C_Going) "worth" = some (some (.ref f_Going_worth)))
    (i_Going_worth : PySem.W.isFn K (.ref f_Going_worth) = true)
    (l_Going_worth : K.lookup f_Going_worth = some ⟨oc_Going_worth, od_Going_worth, .func (PySem.W.fnOf "worth" "Going.worth" (defArgs s_Going_worth) (defBody s_Going_worth) (defScope s_Going_worth) .none kV_Going_worth dc_Going_worth pm_Going_worth an_Going_worth cd_Going_worth ct_Going_worth), sl_Going_worth⟩)
    (c_Going_worth : PySem.W.codeIn K cd_Going_worth "Going.worth" = true)
    (k_Going_worth : PySem.W.keepIn K (.ref f_Going_worth) = true)
    (pg_Going : PySem.W.plainGet K C_Going Str.empty = true)
    (hd_Going : PySem.W.hasDictIn K C_Going = true)
    (po_Going : PySem.W.plainOver K C_Going = true)
    (sa_Going : PySem.W.findIn K (.ref C_Going) "__setattr__" = some (some (.builtin "object.__setattr__")))
    (mk_Going : PySem.W.makesIn K C_Going = true)
    (k_Going : PySem.W.keepIn K (.ref C_Going) = true)
    (n_Going_reads : PySem.W.findIn K (.ref C_Going) "reads" = some none)
    (n_Going_had : PySem.W.findIn K (.ref C_Going) "had" = some none)
    (n_Going_lacking : PySem.W.findIn K (.ref C_Going) "lacking" = some none)
    {C_NoRead : Addr}
    (a_NoRead : PySem.W.nsIn K mainGlobals "NoRead" = some (some (.ref C_NoRead)))
    (x_NoRead : PySem.W.excIn K C_NoRead [.type "ValueError", .type "Exception", .type "BaseException", .type "object"] "ValueError.__new__" = true)
    (k_NoRead : PySem.W.keepIn K (.ref C_NoRead) = true)
    (b_NoRead : PySem.W.subIn K (.ref C_NoRead) (.type "BaseException") = some true)
    (t_NoRead : PySem.W.typeIn K (.ref C_NoRead) = some (.type "type"))
    (d_NoRead : PySem.W.hasDictIn K C_NoRead = true)
    (s_NoRead : PySem.W.subIn K (.ref C_NoRead) (.ref C_NoRead) = some true)
    (s_NoName : PySem.W.subIn K (.ref C_NoName) (.ref C_NoName) = some true)
    {f_TWOS : Addr} {d_TWOS : Option Addr} {it_TWOS : Array Value} {n_TWOS : Nat} {sl_TWOS : Array (Option Value)} {tk1 tk2 tk3 tk4 tk5 : Tok}
    (r_LETTERS : PySem.W.nsIn K mainGlobals "LETTERS" = some (some (.str "abcdefghijklmnopqrstuvwxyz" tk1)))
    (r_LONGEST : PySem.W.nsIn K mainGlobals "LONGEST" = some (some (.int 8 tk2)))
    (r_DEEPEST : PySem.W.nsIn K mainGlobals "DEEPEST" = some (some (.int 8 tk3)))
    (r_MOST : PySem.W.nsIn K mainGlobals "MOST" = some (some (.int 100 tk4)))
    (r_MOST_NAMES : PySem.W.nsIn K mainGlobals "MOST_NAMES" = some (some (.int 9 tk5)))
    (r_TWOS : PySem.W.nsIn K mainGlobals "TWOS" = some (some (.ref f_TWOS)))
    (l_TWOS : K.lookup f_TWOS = some ⟨.type "tuple", d_TWOS, .seq it_TWOS n_TWOS, sl_TWOS⟩)
    (v_TWOS : ∃ t1 t2 t3 t4 : Tok, it_TWOS = #[.str "plus" t1, .str "minus" t2, .str "times" t3, .str "most" t4])
    : LamX.LawAtS l w K CX0 (lvR 8 2 + 5) 63 "script" mg fa h := by
  have e := hfa.symm.trans (PySem.W.mg_of X G a_law)
  cases e
  have F_is_whole_recipes := fun_mk (st := s_is_whole_recipes) l_is_whole_recipes c_is_whole_recipes k_is_whole_recipes
  have D_is_whole_recipes : IsDefA K mg "is_whole_recipes" "is_whole" s_is_whole_recipes ["thing"] := ⟨f_is_whole_recipes, _, F_is_whole_recipes, PySem.W.mg_of X G a_is_whole_recipes, F_is_whole_recipes.binds (ps := ["thing"]) fun _ _ _ _ _ _ us hl => match us, hl with | [_], _ => rfl⟩
  have F_is_name := fun_mk (st := s_is_name) l_is_name c_is_name k_is_name
  have D_is_name : IsDef K mg "is_name" s_is_name ["thing"] := ⟨f_is_name, _, F_is_name, PySem.W.mg_of X G a_is_name, F_is_name.binds (ps := ["thing"]) fun _ _ _ _ _ _ us hl => match us, hl with | [_], _ => rfl⟩
  have F_are_names := fun_mk (st := s_are_names) l_are_names c_are_names k_are_names
  have D_are_names : IsDef K mg "are_names" s_are_names ["thing"] := ⟨f_are_names, _, F_are_names, PySem.W.mg_of X G a_are_names, F_are_names.binds (ps := ["thing"]) fun _ _ _ _ _ _ us hl => match us, hl with | [_], _ => rfl⟩
  have F_within := fun_mk (st := s_within) l_within c_within k_within
  have D_within : IsDef K mg "within" s_within ["thing"] := ⟨f_within, _, F_within, PySem.W.mg_of X G a_within, F_within.binds (ps := ["thing"]) fun _ _ _ _ _ _ us hl => match us, hl with | [_], _ => rfl⟩
  have F_is_recipe := fun_mk (st := s_is_recipe) l_is_recipe c_is_recipe k_is_recipe
  have D_is_recipe : IsDef K mg "is_recipe" s_is_recipe ["thing"] := ⟨f_is_recipe, _, F_is_recipe, PySem.W.mg_of X G a_is_recipe, F_is_recipe.binds (ps := ["thing"]) fun _ _ _ _ _ _ us hl => match us, hl with | [_], _ => rfl⟩
  have F_behind := fun_mk (st := s_behind) l_behind c_behind k_behind
  have D_behind : IsDef K mg "behind" s_behind ["r", "reads"] := ⟨f_behind, _, F_behind, PySem.W.mg_of X G a_behind, F_behind.binds (ps := ["r", "reads"]) fun _ _ _ _ _ _ us hl => match us, hl with | [_, _], _ => rfl⟩
  have F_is_whole_behind := fun_mk (st := s_is_whole_behind) l_is_whole_behind c_is_whole_behind k_is_whole_behind
  have D_is_whole_behind : IsDefA K mg "is_whole_behind" "is_whole" s_is_whole_behind ["thing"] := ⟨f_is_whole_behind, _, F_is_whole_behind, PySem.W.mg_of X G a_is_whole_behind, F_is_whole_behind.binds (ps := ["thing"]) fun _ _ _ _ _ _ us hl => match us, hl with | [_], _ => rfl⟩
  have F_is_read := fun_mk (st := s_is_read) l_is_read c_is_read k_is_read
  have D_is_read : IsDef K mg "is_read" s_is_read ["thing"] := ⟨f_is_read, _, F_is_read, PySem.W.mg_of X G a_is_read, F_is_read.binds (ps := ["thing"]) fun _ _ _ _ _ _ us hl => match us, hl with | [_], _ => rfl⟩
  have F_is_true_record := fun_mk (st := s_is_true_record) l_is_true_record c_is_true_record k_is_true_record
  have D_is_true_record : IsDef K mg "is_true_record" s_is_true_record ["thing"] := ⟨f_is_true_record, _, F_is_true_record, PySem.W.mg_of X G a_is_true_record, F_is_true_record.binds (ps := ["thing"]) fun _ _ _ _ _ _ us hl => match us, hl with | [_], _ => rfl⟩
  have F_put_together := fun_mk (st := s_put_together) l_put_together c_put_together k_put_together
  have D_put_together : IsDef K mg "put_together" s_put_together ["kind", "one", "other"] := ⟨f_put_together, _, F_put_together, PySem.W.mg_of X G a_put_together, F_put_together.binds (ps := ["kind", "one", "other"]) fun _ _ _ _ _ _ us hl => match us, hl with | [_, _, _], _ => rfl⟩
  have F_worth_by := fun_mk (st := s_worth_by) l_worth_by c_worth_by k_worth_by
  have D_worth_by : IsDef K mg "worth_by" s_worth_by ["recipe", "look"] := ⟨f_worth_by, _, F_worth_by, PySem.W.mg_of X G a_worth_by, F_worth_by.binds (ps := ["recipe", "look"]) fun _ _ _ _ _ _ us hl => match us, hl with | [_, _], _ => rfl⟩
  have F_fresh_build := fun_mk (st := s_fresh_build) l_fresh_build c_fresh_build k_fresh_build
  have D_fresh_build : IsDef K mg "fresh_build" s_fresh_build ["house", "wishes"] := ⟨f_fresh_build, _, F_fresh_build, PySem.W.mg_of X G a_fresh_build, F_fresh_build.binds (ps := ["house", "wishes"]) fun _ _ _ _ _ _ us hl => match us, hl with | [_, _], _ => rfl⟩
  have F_worth_of := fun_mk (st := s_worth_of) l_worth_of c_worth_of k_worth_of
  have D_worth_of : IsDef K mg "worth_of" s_worth_of ["house", "name"] := ⟨f_worth_of, _, F_worth_of, PySem.W.mg_of X G a_worth_of, F_worth_of.binds (ps := ["house", "name"]) fun _ _ _ _ _ _ us hl => match us, hl with | [_, _], _ => rfl⟩
  have F_reads_of := fun_mk (st := s_reads_of) l_reads_of c_reads_of k_reads_of
  have D_reads_of : IsDef K mg "reads_of" s_reads_of ["house", "name"] := ⟨f_reads_of, _, F_reads_of, PySem.W.mg_of X G a_reads_of, F_reads_of.binds (ps := ["house", "name"]) fun _ _ _ _ _ _ us hl => match us, hl with | [_, _], _ => rfl⟩
  have F__law_pool := fun_mk (st := s__law_pool) l__law_pool c__law_pool k__law_pool
  have D__law_pool : IsDef K mg "_law_pool" s__law_pool ["script", "k"] := ⟨f__law_pool, _, F__law_pool, PySem.W.mg_of X G a__law_pool, F__law_pool.binds (ps := ["script", "k"]) fun _ _ _ _ _ _ us hl => match us, hl with | [_, _], _ => rfl⟩
  have F__law_take := fun_mk (st := s__law_take) l__law_take c__law_take k__law_take
  have D__law_take : IsDef K mg "_law_take" s__law_take ["pool", "many"] := ⟨f__law_take, _, F__law_take, PySem.W.mg_of X G a__law_take, F__law_take.binds (ps := ["pool", "many"]) fun _ _ _ _ _ _ us hl => match us, hl with | [_, _], _ => rfl⟩
  have F__law_names := fun_mk (st := s__law_names) l__law_names c__law_names k__law_names
  have D__law_names : IsDef K mg "_law_names" s__law_names ["pool"] := ⟨f__law_names, _, F__law_names, PySem.W.mg_of X G a__law_names, F__law_names.binds (ps := ["pool"]) fun _ _ _ _ _ _ us hl => match us, hl with | [_], _ => rfl⟩
  have F__law_leaf := fun_mk (st := s__law_leaf) l__law_leaf c__law_leaf k__law_leaf
  have D__law_leaf : IsDef K mg "_law_leaf" s__law_leaf ["pool", "names", "most"] := ⟨f__law_leaf, _, F__law_leaf, PySem.W.mg_of X G a__law_leaf, F__law_leaf.binds (ps := ["pool", "names", "most"]) fun _ _ _ _ _ _ us hl => match us, hl with | [_, _, _], _ => rfl⟩
  have F__law_part := fun_mk (st := s__law_part) l__law_part c__law_part k__law_part
  have D__law_part : IsDef K mg "_law_part" s__law_part ["pool", "names", "deep", "most"] := ⟨f__law_part, _, F__law_part, PySem.W.mg_of X G a__law_part, F__law_part.binds (ps := ["pool", "names", "deep", "most"]) fun _ _ _ _ _ _ us hl => match us, hl with | [_, _, _, _], _ => rfl⟩
  have F__law_recipe := fun_mk (st := s__law_recipe) l__law_recipe c__law_recipe k__law_recipe
  have D__law_recipe : IsDef K mg "_law_recipe" s__law_recipe ["pool", "names", "most"] := ⟨f__law_recipe, _, F__law_recipe, PySem.W.mg_of X G a__law_recipe, F__law_recipe.binds (ps := ["pool", "names", "most"]) fun _ _ _ _ _ _ us hl => match us, hl with | [_, _, _], _ => rfl⟩
  have F__law_lacking := fun_mk (st := s__law_lacking) l__law_lacking c__law_lacking k__law_lacking
  have D__law_lacking : IsDef K mg "_law_lacking" s__law_lacking ["house", "name"] := ⟨f__law_lacking, _, F__law_lacking, PySem.W.mg_of X G a__law_lacking, F__law_lacking.binds (ps := ["house", "name"]) fun _ _ _ _ _ _ us hl => match us, hl with | [_, _], _ => rfl⟩
  have F__law_right := fun_mk (st := s__law_right) l__law_right c__law_right k__law_right
  have D__law_right : IsDef K mg "_law_right" s__law_right ["r", "numbers", "own"] := ⟨f__law_right, _, F__law_right, PySem.W.mg_of X G a__law_right, F__law_right.binds (ps := ["r", "numbers", "own"]) fun _ _ _ _ _ _ us hl => match us, hl with | [_, _, _], _ => rfl⟩
  have F__law_long := fun_mk (st := s__law_long) l__law_long c__law_long k__law_long
  have D__law_long : IsDef K mg "_law_long" s__law_long ["pool"] := ⟨f__law_long, _, F__law_long, PySem.W.mg_of X G a__law_long, F__law_long.binds (ps := ["pool"]) fun _ _ _ _ _ _ us hl => match us, hl with | [_], _ => rfl⟩
  have F_law := fun_mk (st := s_law) l_law c_law k_law
  have m_len := PySem.W.mg_none_of X G z_len
  have m_list := PySem.W.mg_none_of X G z_list
  have m_range := PySem.W.mg_none_of X G z_range
  have m_tuple := PySem.W.mg_none_of X G z_tuple
  have m_str := PySem.W.mg_none_of X G z_str
  have m_int := PySem.W.mg_none_of X G z_int
  have m_isinstance := PySem.W.mg_none_of X G z_isinstance
  have m_bool := PySem.W.mg_none_of X G z_bool
  have m_sum := PySem.W.mg_none_of X G z_sum
  have m_dict := PySem.W.mg_none_of X G z_dict
  have m_sorted := PySem.W.mg_none_of X G z_sorted
  have m_zip := PySem.W.mg_none_of X G z_zip
  have m_enumerate := PySem.W.mg_none_of X G z_enumerate
  have m_min := PySem.W.mg_none_of X G z_min
  have m_max := PySem.W.mg_none_of X G z_max
  have m_set := PySem.W.mg_none_of X G z_set
  have m_ValueError := PySem.W.mg_none_of X G z_ValueError
  have T : Txt K mg := ⟨m_len, m_list, m_range, m_tuple, m_str, m_int, m_isinstance, m_bool, m_sum, m_dict, m_sorted, m_zip, m_enumerate, m_min, m_max, m_set, m_ValueError⟩
  have R : RTxt K mg f_TWOS := ⟨⟨_, PySem.W.mg_of X G r_LETTERS⟩, ⟨_, PySem.W.mg_of X G r_LONGEST⟩, ⟨_, PySem.W.mg_of X G r_DEEPEST⟩, ⟨_, PySem.W.mg_of X G r_MOST⟩, ⟨_, PySem.W.mg_of X G r_MOST_NAMES⟩, PySem.W.mg_of X G r_TWOS, fun H => by
      obtain ⟨t1, t2, t3, t4, e⟩ := v_TWOS
      subst e
      exact .inr ⟨_, _, _, l_TWOS, rfl, rfl, le_line (Nat.le_of_ble_eq_true rfl), .cons ⟨_, rfl⟩ (.cons ⟨_, rfl⟩ (.cons ⟨_, rfl⟩ (.cons ⟨_, rfl⟩ .nil)))⟩⟩
  subst e_cd
  have F_Reckoner___init__ := fun_mk (st := s_Reckoner___init__) l_Reckoner___init__ c_Reckoner___init__ k_Reckoner___init__
  have B_Reckoner___init__ := F_Reckoner___init__.binds (ps := ["self", "house"]) fun _ _ _ _ _ _ us hl => match us, hl with | [_, _], _ => rfl
  have F_Reckoner_look_for := fun_mk (st := s_Reckoner_look_for) l_Reckoner_look_for c_Reckoner_look_for k_Reckoner_look_for
  have B_Reckoner_look_for := F_Reckoner_look_for.binds (ps := ["self", "name"]) fun _ _ _ _ _ _ us hl => match us, hl with | [_, _], _ => rfl
  have M_Reckoner_look_for : IsMet K C_Reckoner "look_for" "Reckoner.look_for" s_Reckoner_look_for ["self", "name"] := ⟨f_Reckoner_look_for, _, F_Reckoner_look_for, ⟨a_Reckoner_look_for, i_Reckoner_look_for, k_Reckoner_look_for⟩, B_Reckoner_look_for⟩
  have ZRk : RkT K mg C_Reckoner f_Reckoner___init__ := ⟨⟨pg_Reckoner, hd_Reckoner, po_Reckoner, sa_Reckoner⟩, n_Reckoner_given, n_Reckoner_recipes, n_Reckoner_known, n_Reckoner_read_for, n_Reckoner_asked, PySem.W.mg_of X G a_Reckoner, ⟨mk_Reckoner, a_Reckoner___init__, i_Reckoner___init__, k_Reckoner⟩⟩
  have Dm : IsMetC K C_Reckoner "look_for" "Reckoner.look_for" s_Reckoner_look_for ["self", "name"] cL := ⟨f_Reckoner_look_for, _, _, _, _, _, _, _, _, _, rfl, l_Reckoner_look_for, c_Reckoner_look_for, ⟨a_Reckoner_look_for, i_Reckoner_look_for, k_Reckoner_look_for⟩, B_Reckoner_look_for⟩
  have XfNoName : XfC K C_NoName := ⟨hgNoName, hkNoName, b_NoName, d_NoName⟩
  have ZNoName : OwnX K mg "NoName" "name" C_NoName f_NoName___init__ := ⟨⟨oexB_ok x_NoName, sa_NoName, b_NoName, y_NoName, k_NoName⟩, i_NoName, t_NoName, PySem.W.mg_of X G a_NoName, n_NoName, XfNoName⟩
  have F_NoName___init__ := fun_mk (st := s_NoName___init__) l_NoName_i c_NoName_i k_NoName_i
  have B_NoName___init__ := F_NoName___init__.binds (ps := ["self", "name"]) fun _ _ _ _ _ _ us hl => match us, hl with | [_, _], _ => rfl
  have XfRing : XfC K C_Ring := ⟨hgRing, hkRing, b_Ring, d_Ring⟩
  have ZRing : OwnX K mg "Ring" "ring" C_Ring f_Ring___init__ := ⟨⟨oexB_ok x_Ring, sa_Ring, b_Ring, y_Ring, k_Ring⟩, i_Ring, t_Ring, PySem.W.mg_of X G a_Ring, n_Ring, XfRing⟩
  have F_Ring___init__ := fun_mk (st := s_Ring___init__) l_Ring_i c_Ring_i k_Ring_i
  have B_Ring___init__ := F_Ring___init__.binds (ps := ["self", "ring"]) fun _ _ _ _ _ _ us hl => match us, hl with | [_, _], _ => rfl
  have ZM : PySem.W.exmOne K (.ref C_NoName) (.ref C_MadeError) = some true ∧ PySem.W.exmOne K (.ref C_Ring) (.ref C_MadeError) = some true := ⟨PySem.W.exm_ref b_MadeError d_MadeError y_MadeError uNoName_MadeError, PySem.W.exm_ref b_MadeError d_MadeError y_MadeError uRing_MadeError⟩
  have F_Going___init__ := fun_mk (st := s_Going___init__) l_Going___init__ c_Going___init__ k_Going___init__
  have B_Going___init__ := F_Going___init__.binds (ps := ["self", "reads"]) fun _ _ _ _ _ _ us hl => match us, hl with | [_, _], _ => rfl
  have F_Going_look := fun_mk (st := s_Going_look) l_Going_look c_Going_look k_Going_look
  have B_Going_look := F_Going_look.binds (ps := ["self", "name"]) fun _ _ _ _ _ _ us hl => match us, hl with | [_, _], _ => rfl
  have M_Going_look : IsMet K C_Going "look" "Going.look" s_Going_look ["self", "name"] := ⟨f_Going_look, _, F_Going_look, ⟨a_Going_look, i_Going_look, k_Going_look⟩, B_Going_look⟩
  have F_Going_two := fun_mk (st := s_Going_two) l_Going_two c_Going_two k_Going_two
  have B_Going_two := F_Going_two.binds (ps := ["self", "kind", "one", "r"]) fun _ _ _ _ _ _ us hl => match us, hl with | [_, _, _, _], _ => rfl
  have M_Going_two : IsMet K C_Going "two" "Going.two" s_Going_two ["self", "kind", "one", "r"] := ⟨f_Going_two, _, F_Going_two, ⟨a_Going_two, i_Going_two, k_Going_two⟩, B_Going_two⟩
  have F_Going_worth := fun_mk (st := s_Going_worth) l_Going_worth c_Going_worth k_Going_worth
  have B_Going_worth := F_Going_worth.binds (ps := ["self", "r"]) fun _ _ _ _ _ _ us hl => match us, hl with | [_, _], _ => rfl
  have M_Going_worth : IsMet K C_Going "worth" "Going.worth" s_Going_worth ["self", "r"] := ⟨f_Going_worth, _, F_Going_worth, ⟨a_Going_worth, i_Going_worth, k_Going_worth⟩, B_Going_worth⟩
  have ZG : GoT K mg C_Going f_Going___init__ := ⟨⟨pg_Going, hd_Going, po_Going, sa_Going⟩, n_Going_reads, n_Going_had, n_Going_lacking, PySem.W.mg_of X G a_Going, ⟨mk_Going, a_Going___init__, i_Going___init__, k_Going⟩⟩
  have XR : NoX K mg "NoRead" C_NoRead := ⟨x_NoRead, PySem.W.mg_of X G a_NoRead, k_NoRead, b_NoRead, t_NoRead⟩
  have hmR : PySem.W.exmOne K (.ref C_NoRead) (.ref C_NoRead) = some true := PySem.W.exm_ref b_NoRead d_NoRead t_NoRead s_NoRead
  have hmN : PySem.W.exmOne K (.ref C_NoName) (.ref C_NoName) = some true := PySem.W.exm_ref b_NoName d_NoName y_NoName s_NoName
  refine ⟨PySem.W.fnOf "law" "law" (defArgs s_law) (defBody s_law) (defScope s_law) .none kV_law dc_law pm_law an_law cd_law ct_law, [(cL, PL)], spLawT K [(PL, fun _ _ => nm_Reckoner_look_for_look)], fun p hp => ?_, fun p hp => ?_, fun p hp => ?_, fun s v => .of_eq rfl, fun H a ns hl _ hH hS => ?_, fun base _ _ hTB => ?_⟩
  · rw [List.mem_singleton.mp hp]; exact h_tab
  · rw [List.mem_singleton.mp hp]; exact h_nT
  · rw [List.mem_singleton.mp hp]; exact PySem.W.codeHd_of_K X h_cd
  · refine ⟨a, ns, rfl, hS, hl, fun p hp => ?_, fun _ => rfl⟩
    rw [List.mem_singleton.mp hp]
    exact NdefX.TabN.nil (hH _ (List.mem_singleton.mpr rfl))
  have TB := hTB _ (List.mem_singleton.mpr rfl)
  have HM : (PL, fun _ _ => nm_Reckoner_look_for_look) ∈ [((PL, fun _ _ => nm_Reckoner_look_for_look) : NdefX.NTab)] := List.mem_singleton.mpr rfl
  have HU : ∀ p ∈ [((PL, fun _ _ => nm_Reckoner_look_for_look) : NdefX.NTab)], p.1 = PL → p.2 = fun _ _ => nm_Reckoner_look_for_look := fun p hp _ => by rw [List.mem_singleton.mp hp]
  have W1 := ok_is_whole_recipes (P := l.prog) (w := w) (base := base) T D_is_whole_recipes
  have Wb := ok_is_whole_behind (P := l.prog) (w := w) (base := base) T D_is_whole_behind
  have W2 := ok_is_name (P := l.prog) (w := w) (base := base) T R D_is_name
  have W3 := ok_are_names T R D_are_names W2
  have W4 := ok_within T R D_within W1 W2 W3
  have W5 := ok_is_recipe T R D_is_recipe W4
  have G1 := ok_Going_init (P := l.prog) (w := w) (base := base) T ZG F_Going___init__
  have G2 := ok_Going_look (P := l.prog) (w := w) (base := base) T ZG XR M_Going_look
  have G3 := ok_Going_worth T ZG M_Going_worth M_Going_two G2 9
  have G4 := ok_behind T ZG XR D_behind G1 B_Going___init__ G3
  have I1 := ok_is_readR T D_is_read W5 Wb
  have I2 := ok_is_trueR T XR hmR D_is_true_record W5 Wb I1 G4
  have N1 := ok_NoName_init (P := l.prog) (w := w) (base := base) T ZNoName F_NoName___init__
  have N2 := ok_Ring_init (P := l.prog) (w := w) (base := base) T ZRing F_Ring___init__
  have W6 := ok_put_together (P := l.prog) (w := w) (base := base) T D_put_together
  have I3 := ok_Reckoner_init (P := l.prog) (w := w) (base := base) T ZRk F_Reckoner___init__
  have L1 := ok_look_for (dm := 8) T ZRk ZNoName ZRing N1 B_NoName___init__ N2 B_Ring___init__ TB HM HU Dm D_worth_by W6 2
  have LF := ok_fresh_build T ZRk D_fresh_build I3 B_Reckoner___init__ L1
  have LW := ok_worth_of T ZRk D_worth_of I3 B_Reckoner___init__ L1
  have LR := ok_reads_of T ZRk D_reads_of I3 B_Reckoner___init__ L1
  have A1 := ok__law_pool (P := l.prog) (w := w) (base := base) T D__law_pool
  have A2 := ok__law_take (P := l.prog) (w := w) (base := base) T D__law_take
  have A3 := ok__law_names T D__law_names A2
  have A4 := ok__law_leaf T D__law_leaf A2
  have A5 := ok__law_recipe T D__law_recipe A2 A4 (ok__law_part T D__law_part A2 A4 4)
  have A6 := ok__law_lacking T ZNoName hmN D__law_lacking LW
  have A7 := ok__law_right52 T D__law_right G4 A6 I2 LF LW LR
  have A8 := ok__law_long T D__law_long A2 G4 I2
  exact ok_law52 F_law T A1 A2 A3 A5 A8 A7
theorem walk {l : PySem.W.OpenLaw} {q : Program} {loose : List Str} {XP : (Str → Option Value) → Heap → Prop} {YP : World → Heap → Prop} {d : DefRec} {K : Params → PySem.W.Frag} (hn : l.most = some 63) (hdf : d.params.defaults = [])
    (hY : ∀ (w : World) (h : Heap), YP w h → (K w.params).In h)
    (F : ∀ (w : World) (mg : Str → Option Value) (fa : Addr) (h : Heap), YP w h → (K w.params).In h → h.Ns mainGlobals mg → mg d.name = some (.ref fa) → LamX.LawAtS l w (K w.params) CX0 (lvR 8 2 + 5) 63 "script" mg fa h) :
    PySem.W.WalkO q loose XP YP l.row.toRowW d [] (fun f vs => PySem.call f vs) :=
  LamX.walk_ofTs (n := 63) (k := (lvR 8 2 + 5)) (x := "script") (CX := fun _ => CX0) hn (by decide) hdf ⟨rfl, by decide, by decide⟩ hY F fun _ _ _ _ _ z => z
end Mad
open PySem PySem.W PyProof.Rows
set_option maxRecDepth 100000 in
set_option maxHeartbeats 0 in
theorem PySem.Challenge.cw_madeagain_k52_whole_behind_and_worths_holds : PySem.Challenge.rw_madeagain_k52_whole_behind_and_worths.Holds := by
  w_on; o_law; k_head; (case hw => w_witness2)
  k_fill
  refine Mad.walk (l := PySem.Challenge.rw_madeagain_k52_whole_behind_and_worths) rfl rfl (fun w h Y => PySem.W.km_in_of Y) ?F
  case F =>
    intro w mg fa h Y KX G hmg
    refine' Mad.all_mk KX G hmg ?a_is_whole_recipes ?l_is_whole_recipes ?c_is_whole_recipes ?k_is_whole_recipes ?a_is_name ?l_is_name ?c_is_name ?k_is_name ?a_are_names ?l_are_names ?c_are_names ?k_are_names ?a_within ?l_within ?c_within ?k_within ?a_is_recipe ?l_is_recipe ?c_is_recipe ?k_is_recipe ?a_behind ?l_behind ?c_behind ?k_behind ?a_is_whole_behind ?l_is_whole_behind ?c_is_whole_behind ?k_is_whole_behind ?a_is_read ?l_is_read ?c_is_read ?k_is_read ?a_is_true_record ?l_is_true_record ?c_is_true_record ?k_is_true_record ?a_put_together ?l_put_together ?c_put_together ?k_put_together ?a_worth_by ?l_worth_by ?c_worth_by ?k_worth_by ?a_fresh_build ?l_fresh_build ?c_fresh_build ?k_fresh_build ?a_worth_of ?l_worth_of ?c_worth_of ?k_worth_of ?a_reads_of ?l_reads_of ?c_reads_of ?k_reads_of ?a__law_pool ?l__law_pool ?c__law_pool ?k__law_pool ?a__law_take ?l__law_take ?c__law_take ?k__law_take ?a__law_names ?l__law_names ?c__law_names ?k__law_names ?a__law_leaf ?l__law_leaf ?c__law_leaf ?k__law_leaf ?a__law_part ?l__law_part ?c__law_part ?k__law_part ?a__law_recipe ?l__law_recipe ?c__law_recipe ?k__law_recipe ?a__law_lacking ?l__law_lacking ?c__law_lacking ?k__law_lacking ?a__law_right ?l__law_right ?c__law_right ?k__law_right ?a__law_long ?l__law_long ?c__law_long ?k__law_long ?a_law ?l_law ?c_law ?k_law ?z_len ?z_list ?z_range ?z_tuple ?z_str ?z_int ?z_isinstance ?z_bool ?z_sum ?z_dict ?z_sorted ?z_zip ?z_enumerate ?z_min ?z_max ?z_set ?z_ValueError ?a_Reckoner ?a_Reckoner___init__ ?i_Reckoner___init__ ?l_Reckoner___init__ ?c_Reckoner___init__ ?k_Reckoner___init__ ?a_Reckoner_look_for ?i_Reckoner_look_for ?l_Reckoner_look_for ?c_Reckoner_look_for ?k_Reckoner_look_for ?pg_Reckoner ?hd_Reckoner ?po_Reckoner ?sa_Reckoner ?mk_Reckoner ?k_Reckoner ?n_Reckoner_given ?n_Reckoner_recipes ?n_Reckoner_known ?n_Reckoner_read_for ?n_Reckoner_asked ?e_cd ?h_tab ?h_nT ?h_cd ?a_MadeError ?a_NoName ?a_Ring ?d_MadeError ?d_NoName ?d_Ring ?y_MadeError ?y_NoName ?y_Ring ?b_MadeError ?q_hn ?q_ht ?uNoName_MadeError ?uNoName_Ring ?wNoName_Ring ?uNoName_ValueError ?b_NoName ?hgNoName ?hkNoName ?haNoName ?hmNoName ?x_NoName ?sa_NoName ?k_NoName ?i_NoName ?t_NoName ?n_NoName ?l_NoName_i ?c_NoName_i ?k_NoName_i ?uRing_MadeError ?uRing_NoName ?wRing_NoName ?uRing_ValueError ?b_Ring ?hgRing ?hkRing ?haRing ?hmRing ?x_Ring ?sa_Ring ?k_Ring ?i_Ring ?t_Ring ?n_Ring ?l_Ring_i ?c_Ring_i ?k_Ring_i ?a_Going ?a_Going___init__ ?i_Going___init__ ?l_Going___init__ ?c_Going___init__ ?k_Going___init__ ?a_Going_look ?i_Going_look ?l_Going_look ?c_Going_look ?k_Going_look ?a_Going_two ?i_Going_two ?l_Going_two ?c_Going_two ?k_Going_two ?a_Going_worth ?i_Going_worth ?l_Going_worth ?c_Going_worth ?k_Going_worth ?pg_Going ?hd_Going ?po_Going ?sa_Going ?mk_Going ?k_Going ?n_Going_reads ?n_Going_had ?n_Going_lacking ?a_NoRead ?x_NoRead ?k_NoRead ?b_NoRead ?t_NoRead ?d_NoRead ?s_NoRead ?s_NoName ?r_LETTERS ?r_LONGEST ?r_DEEPEST ?r_MOST ?r_MOST_NAMES ?r_TWOS ?l_TWOS ?v_TWOS
    (case a_is_whole_recipes => k_is)
    (case l_is_whole_recipes => k_is)
    (case c_is_whole_recipes => k_is)
    (case k_is_whole_recipes => k_is)
    (case a_is_name => k_is)
    (case l_is_name => k_is)
    (case c_is_name => k_is)
    (case k_is_name => k_is)
    (case a_are_names => k_is)
    (case l_are_names => k_is)
    (case c_are_names => k_is)
    (case k_are_names => k_is)
    (case a_within => k_is)
    (case l_within => k_is)
    (case c_within => k_is)
    (case k_within => k_is)
    (case a_is_recipe => k_is)
    (case l_is_recipe => k_is)
    (case c_is_recipe => k_is)
    (case k_is_recipe => k_is)
    (case a_behind => k_is)
    (case l_behind => k_is)
    (case c_behind => k_is)
    (case k_behind => k_is)
    (case a_is_whole_behind => k_is)
    (case l_is_whole_behind => k_is)
    (case c_is_whole_behind => k_is)
    (case k_is_whole_behind => k_is)
    (case a_is_read => k_is)
    (case l_is_read => k_is)
    (case c_is_read => k_is)
    (case k_is_read => k_is)
    (case a_is_true_record => k_is)
    (case l_is_true_record => k_is)
    (case c_is_true_record => k_is)
    (case k_is_true_record => k_is)
    (case a_put_together => k_is)
    (case l_put_together => k_is)
    (case c_put_together => k_is)
    (case k_put_together => k_is)
    (case a_worth_by => k_is)
    (case l_worth_by => k_is)
    (case c_worth_by => k_is)
    (case k_worth_by => k_is)
    (case a_fresh_build => k_is)
    (case l_fresh_build => k_is)
    (case c_fresh_build => k_is)
    (case k_fresh_build => k_is)
    (case a_worth_of => k_is)
    (case l_worth_of => k_is)
    (case c_worth_of => k_is)
    (case k_worth_of => k_is)
    (case a_reads_of => k_is)
    (case l_reads_of => k_is)
    (case c_reads_of => k_is)
    (case k_reads_of => k_is)
    (case a__law_pool => k_is)
    (case l__law_pool => k_is)
    (case c__law_pool => k_is)
    (case k__law_pool => k_is)
    (case a__law_take => k_is)
    (case l__law_take => k_is)
    (case c__law_take => k_is)
    (case k__law_take => k_is)
    (case a__law_names => k_is)
    (case l__law_names => k_is)
    (case c__law_names => k_is)
    (case k__law_names => k_is)
    (case a__law_leaf => k_is)
    (case l__law_leaf => k_is)
    (case c__law_leaf => k_is)
    (case k__law_leaf => k_is)
    (case a__law_part => k_is)
    (case l__law_part => k_is)
    (case c__law_part => k_is)
    (case k__law_part => k_is)
    (case a__law_recipe => k_is)
    (case l__law_recipe => k_is)
    (case c__law_recipe => k_is)
    (case k__law_recipe => k_is)
    (case a__law_lacking => k_is)
    (case l__law_lacking => k_is)
    (case c__law_lacking => k_is)
    (case k__law_lacking => k_is)
    (case a__law_right => k_is)
    (case l__law_right => k_is)
    (case c__law_right => k_is)
    (case k__law_right => k_is)
    (case a__law_long => k_is)
    (case l__law_long => k_is)
    (case c__law_long => k_is)
    (case k__law_long => k_is)
    (case a_law => k_is)
    (case l_law => k_is)
    (case c_law => k_is)
    (case k_law => k_is)
    (case z_len => k_is)
    (case z_list => k_is)
    (case z_range => k_is)
    (case z_tuple => k_is)
    (case z_str => k_is)
    (case z_int => k_is)
    (case z_isinstance => k_is)
    (case z_bool => k_is)
    (case z_sum => k_is)
    (case z_dict => k_is)
    (case z_sorted => k_is)
    (case z_zip => k_is)
    (case z_enumerate => k_is)
    (case z_min => k_is)
    (case z_max => k_is)
    (case z_set => k_is)
    (case z_ValueError => k_is)
    (case a_Reckoner => k_is)
    (case a_Reckoner___init__ => k_is)
    (case i_Reckoner___init__ => k_is)
    (case l_Reckoner___init__ => k_is)
    (case c_Reckoner___init__ => k_is)
    (case k_Reckoner___init__ => k_is)
    (case a_Reckoner_look_for => k_is)
    (case i_Reckoner_look_for => k_is)
    (case l_Reckoner_look_for => k_is)
    (case c_Reckoner_look_for => k_is)
    (case k_Reckoner_look_for => k_is)
    (case pg_Reckoner => k_is)
    (case hd_Reckoner => k_is)
    (case po_Reckoner => k_is)
    (case sa_Reckoner => k_is)
    (case mk_Reckoner => k_is)
    (case k_Reckoner => k_is)
    (case n_Reckoner_given => k_is)
    (case n_Reckoner_recipes => k_is)
    (case n_Reckoner_known => k_is)
    (case n_Reckoner_read_for => k_is)
    (case n_Reckoner_asked => k_is)
    (case e_cd => rfl)
    (case h_tab => exact PySem.W.km_tabs_of Y _ List.mem_cons_self)
    (case h_nT => kernel_rfl)
    (case h_cd => kernel_rfl)
    (case a_MadeError => k_is)
    (case a_NoName => k_is)
    (case a_Ring => k_is)
    (case d_MadeError => k_is)
    (case d_NoName => k_is)
    (case d_Ring => k_is)
    (case y_MadeError => k_is)
    (case y_NoName => k_is)
    (case y_Ring => k_is)
    (case b_MadeError => k_is)
    (case q_hn => k_is)
    (case q_ht => k_is)
    (case uNoName_MadeError => k_is)
    (case uNoName_Ring => k_is)
    (case wNoName_Ring => first | rfl | decide)
    (case uNoName_ValueError => k_is)
    (case b_NoName => k_is)
    (case hgNoName => k_is)
    (case hkNoName => k_is)
    (case haNoName => k_is)
    (case hmNoName => k_is)
    (case x_NoName => kernel_rfl)
    (case sa_NoName => k_is)
    (case k_NoName => k_is)
    (case i_NoName => k_is)
    (case t_NoName => k_is)
    (case n_NoName => k_is)
    (case l_NoName_i => k_is)
    (case c_NoName_i => k_is)
    (case k_NoName_i => k_is)
    (case uRing_MadeError => k_is)
    (case uRing_NoName => k_is)
    (case wRing_NoName => first | rfl | decide)
    (case uRing_ValueError => k_is)
    (case b_Ring => k_is)
    (case hgRing => k_is)
    (case hkRing => k_is)
    (case haRing => k_is)
    (case hmRing => k_is)
    (case x_Ring => kernel_rfl)
    (case sa_Ring => k_is)
    (case k_Ring => k_is)
    (case i_Ring => k_is)
    (case t_Ring => k_is)
    (case n_Ring => k_is)
    (case l_Ring_i => k_is)
    (case c_Ring_i => k_is)
    (case k_Ring_i => k_is)
    (case a_Going => k_is)
    (case a_Going___init__ => k_is)
    (case i_Going___init__ => k_is)
    (case l_Going___init__ => k_is)
    (case c_Going___init__ => k_is)
    (case k_Going___init__ => k_is)
    (case a_Going_look => k_is)
    (case i_Going_look => k_is)
    (case l_Going_look => k_is)
    (case c_Going_look => k_is)
    (case k_Going_look => k_is)
    (case a_Going_two => k_is)
    (case i_Going_two => k_is)
    (case l_Going_two => k_is)
    (case c_Going_two => k_is)
    (case k_Going_two => k_is)
    (case a_Going_worth => k_is)
    (case i_Going_worth => k_is)
    (case l_Going_worth => k_is)
    (case c_Going_worth => k_is)
    (case k_Going_worth => k_is)
    (case pg_Going => k_is)
    (case hd_Going => k_is)
    (case po_Going => k_is)
    (case sa_Going => k_is)
    (case mk_Going => k_is)
    (case k_Going => k_is)
    (case n_Going_reads => k_is)
    (case n_Going_had => k_is)
    (case n_Going_lacking => k_is)
    (case a_NoRead => k_is)
    (case x_NoRead => k_exc)
    (case k_NoRead => k_is)
    (case b_NoRead => k_is)
    (case t_NoRead => k_is)
    (case d_NoRead => k_is)
    (case s_NoRead => k_is)
    (case s_NoName => k_is)
    (case r_LETTERS => k_is)
    (case r_LONGEST => k_is)
    (case r_DEEPEST => k_is)
    (case r_MOST => k_is)
    (case r_MOST_NAMES => k_is)
    (case r_TWOS => k_is)
    (case l_TWOS => k_is)
    (case v_TWOS => exact ⟨_, _, _, _, rfl⟩)
#print axioms PySem.Challenge.cw_madeagain_k52_whole_behind_and_worths_holds
