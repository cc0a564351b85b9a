import PyProof.Rows.All
import Wide.All
import OpenK.AllK
import Wide.FinOn
import HandS.ForMost
import HandS.Wide
import HandS.IsInst
import HandS.Codes
import HandS.More
import HandS.Style
import HandS.TupMul
import HandS.TupAny
import HandS.Dict
import HandS.Iter
import HandS.SortInts
import HandS.SortOrd
import KE.KEqSeq
import HandS.Exc
import HandS.ExcOwn
import HandS.WordsExc
import KE.IntTextLaws
import KE.IntTextText
import HandS.ExcValue
import HandS.TryOnly
import HandS.ExcIs
import PyProof.StrOps2
import HandS.Strs
import HandS.NoneIn
import HandS.ReplaceLit
import HandS.ReplaceList
import HandS.Zip
import HandS.Deep
import HandS.StrMore
import HandS.Walk
import HandS.RaiseMore
import HandS.Lambda
import HandS.Nested
import HandS.EndTab
import HandS.ExcInit
import HandS.ExcField
import HandS.SetKeys
import KE.KExcIs
import KE.KEqNest
import HandS.Sort
import PySem.Challenge.RW_madeagain_k32_papers_judged
set_option Elab.async false
set_option linter.all false
set_option maxRecDepth 100000
set_option maxHeartbeats 4000000
set_option pp.maxSteps 300
namespace Mad
open PySem PySem.Spec PyProof.Rows L2
def topS (i : Nat) : Stmt := PySem.Challenge.pw_madeagain_k32_papers_judged.main.body.getD i (.Pass ⟨0, 0, 0, 0⟩)
/-! ### short words over the layer -/
/-- the def x of the text stands in the module as st says -/
def IsDef (K : PySem.W.Frag) (mg : Str → Option Value) (x : Str) (st : Stmt) (ps : List Str) : Prop := ∃ (f : Addr) (fd : FuncData), Fun K x x st f fd ∧ mg x = some (.ref f) ∧ Binds K fd ps []
/-- the def x keeps the promise sp by at most k calls in one another -/
def Cal (P : Program) (w : World) (K : PySem.W.Frag) (mg : Str → Option Value) (base : Heap) (CX : CXT) (k : Nat) (x : Str) (ps : List Str) (sp : Sp) : Prop :=
  ∃ (f : Addr) (fd : FuncData), FnOk P w K mg base CX k f fd ps sp ∧ mg x = some (.ref f) ∧ PySem.W.keepIn K (.ref f) = true ∧ Binds K fd ps []
section
variable {P : Program} {w : World} {K : PySem.W.Frag} {mg : Str → Option Value} {base : Heap}
theorem Cal.mono {CX : CXT} {j k : Nat} {x : Str} {ps : List Str} {sp : Sp} (c : Cal P w K mg base CX j x ps sp) (h : j ≤ k) : Cal P w K mg base CX k x ps sp := by
  obtain ⟨f, fd, F, r⟩ := c
  exact ⟨f, fd, F.mono h, r⟩
theorem Cal.imp {CX : CXT} {k : Nat} {x : Str} {ps : List Str} {sp sp' : Sp} (c : Cal P w K mg base CX k x ps sp) (h : ∀ vs H Q E, sp' vs H Q E → sp vs H Q E) : Cal P w K mg base CX k x ps sp' := by
  obtain ⟨f, fd, F, r⟩ := c
  exact ⟨f, fd, F.imp h, r⟩
/-- of no depth none is asked -/
theorem cal_none {x : Str} {st : Stmt} {ps : List Str} {sp : Sp} {CX : CXT} {k : Nat} (D : IsDef K mg x st ps) (no : ∀ vs H Q E, ¬ sp vs H Q E) : Cal P w K mg base CX k x ps sp := by
  obtain ⟨f, fd, F, m, b⟩ := D
  exact ⟨f, fd, ⟨fun vs H Q E h => absurd h (no vs H Q E), fun A outer s H args us vs Q E _ _ _ _ h => absurd h (no vs H Q E)⟩, m, F.kp, b⟩
theorem IsDef.cal {x : Str} {st : Stmt} {N ps : List Str} {k : Nat} {sp : Sp} (D : IsDef K mg x st ps) (S : FnScope N ps (defScope st)) (len : ∀ vs H Q E, sp vs H Q E → vs.length = ps.length)
    (hbody : ∀ (f : Addr) (cdv : Value) (A : Around) (outer : List Env) (s : Shared) (H : Hp) (vs : List V) (Q : VK) (E : XK), Room k (A.deeper (envOfC x (defScope st) s.heap.objs.size f cdv)) → sp vs H Q E →
      ∃ t, PSs (cxOf CX0 P w K mg base N x (defScope st) f cdv A outer s H E).nox (defBody st) t ∧ t { nx := fun _ H' => Q .non H', rt := Q } (start N vs) H) : Cal P w K mg base CX0 (k + 1) x ps sp := by
  obtain ⟨f, fd, F, m, b⟩ := D
  exact ⟨f, fd, F.ok S len fun cdv A outer s H vs Q E => hbody f cdv A outer s H vs Q E, m, F.kp, b⟩
end
section
variable {X : Cx} {CX : CXT} {k : Nat} {ps : List Str} {sp : Sp} {E : XK} {x : Str} {p pos : Pos}
theorem pe_cal {e : Expr} {es : List Expr} {t : TA} (c : Cal X.prog X.w X.K X.mg X.base CX k x ps sp) (hr : Room k X.A) (hx : Passes CX X E) (ha : PA X (e :: es) t) (hg : Gl X x := by rfl)
    (hdb : (x == ("__debug__" : Str)) = false := by decide) (he : starEach (e :: es) X.env = (false, eval e X.env) :: starEach es X.env := by rfl) (hpl : (backTo pos (starEach es X.env)).any (·.1) = false := by rfl) :
    PE X (.Call (.Name x p) (e :: es) [] pos) (tCall sp [] E t) := by
  obtain ⟨f, fd, F, m, kp, b⟩ := c
  exact pe_call F hr hg m kp b .nil hx ha hdb he hpl
theorem pe_cal0 (c : Cal X.prog X.w X.K X.mg X.base CX k x ps sp) (hr : Room k X.A) (hx : Passes CX X E) (hg : Gl X x := by rfl) (hdb : (x == ("__debug__" : Str)) = false := by decide) :
    PE X (.Call (.Name x p) [] [] pos) (tCall sp [] E tNil) := by
  obtain ⟨f, fd, F, m, kp, b⟩ := c
  exact pe_call0 F hr hg m kp b .nil hx hdb
end
theorem le_line {n : Nat} (h : n ≤ 16777216) : n ≤ sizeLine := by rw [sizeLine_eq]; exact h
theorem lt_line {n : Nat} (h : n < 16777216) : n < sizeLine := by rw [sizeLine_eq]; exact h
theorem same_new {H : Hp} {p : Addr} (h : H p = none) (o : HO) : Same H (upd H p o) := fun b u q => by rw [upd_ne (ne_of_none q h)]; exact q
theorem same_upd {B H : Hp} {p : Addr} (s : Same B H) (h : B p = none) (o : HO) : Same B (upd H p o) := fun b u q => by
  have z : b ≠ p := fun e => by rw [e, h] at q; cases q
  rw [upd_ne z]; exact s _ _ q
theorem atI_at {α : Type} {xs : List α} {i : Int} {v : α} (h0 : 0 ≤ i) (h : xs[i.toNat]? = some v) : atI xs i = some v := by
  have e : i = ((i.toNat : Nat) : Int) := by omega
  rw [e]; exact atI_nat h
theorem ixN_at {n : Nat} {i : Int} (h0 : 0 ≤ i) (h : i < n) : ixN n i = some i.toNat := by
  unfold ixN
  rw [if_pos h0, if_pos h]
theorem int_at {ns : List Int} {i : Int} (h0 : 0 ≤ i) (h : i < ns.length) : ∃ v : Int, atI (ns.map V.int) i = some (.int v) := by
  have hk : i.toNat < ns.length := by omega
  exact ⟨ns[i.toNat], atI_at h0 (by rw [List.getElem?_map, List.getElem?_eq_getElem hk] <;> rfl)⟩
theorem if_true_eq {c : Bool} {A B : Prop} (h : c = true) (a : A) : if c = true then A else B := by rw [if_pos h]; exact a
theorem if_false_eq {c : Bool} {A B : Prop} (h : c = false) (b : B) : if c = true then A else B := by rw [h]; exact b
theorem not_true_eq {c : Bool} {A B : Prop} (h : c = true) (b : B) : if (!c) = true then A else B := by rw [h]; exact b
theorem not_false_eq {c : Bool} {A B : Prop} (h : c = false) (a : A) : if (!c) = true then A else B := by rw [h]; exact a
structure Txt (K : PySem.W.Frag) (mg : Str → Option Value) : Prop where
  b_len : mg "len" = none
  b_list : mg "list" = none
  b_range : mg "range" = none
  b_tuple : mg "tuple" = none
  b_str : mg "str" = none
  b_int : mg "int" = none
  b_isinstance : mg "isinstance" = none
  b_bool : mg "bool" = none
  b_sum : mg "sum" = none
  b_dict : mg "dict" = none
  b_sorted : mg "sorted" = none
  b_zip : mg "zip" = none
  b_enumerate : mg "enumerate" = none
  b_min : mg "min" = none
  b_max : mg "max" = none
  b_set : mg "set" = none
  b_ValueError : mg "ValueError" = none
/-! ### recipes as data -/
inductive Kd where
  | plus | minus | times | most
  deriving DecidableEq
def Kd.name : Kd → Str
  | .plus => "plus" | .minus => "minus" | .times => "times" | .most => "most"
inductive Rcp where
  | num (n : Int)
  | read (s : List Nat)
  | two (k : Kd) (a b : Rcp)
  | pick (a b c : Rcp)
  | choose (a : Rcp) (ns : List (List Nat))
def Rcp.dep : Rcp → Nat
  | .num _ => 1
  | .read _ => 1
  | .two _ a b => max a.dep b.dep + 1
  | .pick a b c => max a.dep (max b.dep c.dep) + 1
  | .choose a _ => a.dep + 1
def Rcp.siz : Rcp → Nat
  | .num _ => 1
  | .read _ => 1
  | .two _ a b => a.siz + b.siz + 1
  | .pick a b c => a.siz + b.siz + c.siz + 1
  | .choose a _ => a.siz + 1
/-- a name's signs -/
def Nm (s : List Nat) : Prop := 1 ≤ s.length ∧ s.length ≤ 8 ∧ ∀ c ∈ s, 97 ≤ c ∧ c ≤ 122
def Nms (ns : List (List Nat)) : Prop := 1 ≤ ns.length ∧ ns.length ≤ 9 ∧ ∀ s ∈ ns, Nm s
def Rcp.Good : Rcp → Prop
  | .num n => n.natAbs < 10 ^ 40
  | .read s => Nm s
  | .two _ a b => a.Good ∧ b.Good
  | .pick a b c => a.Good ∧ b.Good ∧ c.Good
  | .choose a ns => a.Good ∧ Nms ns
def txs (ns : List (List Nat)) : List V := (ns.map SX.S).map V.str
/-- the value v is the recipe r in H -/
def Rec (H : Hp) : Rcp → V → Prop
  | .num n, v => ∃ p, v = .ref p ∧ H p = some (.tup [.str "number", .int n])
  | .read s, v => ∃ p, v = .ref p ∧ H p = some (.tup [.str "read", .str (SX.S s)])
  | .two k a b, v => ∃ p x y, v = .ref p ∧ H p = some (.tup [.str k.name, x, y]) ∧ Rec H a x ∧ Rec H b y
  | .pick a b c, v => ∃ p x y z, v = .ref p ∧ H p = some (.tup [.str "pick", x, y, z]) ∧ Rec H a x ∧ Rec H b y ∧ Rec H c z
  | .choose a ns, v => ∃ p x q, v = .ref p ∧ H p = some (.tup [.str "choose", x, .ref q]) ∧ Rec H a x ∧ H q = some (.tup (txs ns))
/-- tuples stay -/
def Keep (H H' : Hp) : Prop := ∀ b xs, H b = some (.tup xs) → H' b = some (.tup xs)
theorem Keep.refl (H : Hp) : Keep H H := fun _ _ h => h
theorem Keep.trans {A B C : Hp} (h : Keep A B) (k : Keep B C) : Keep A C := fun b xs q => k b xs (h b xs q)
theorem same_keep {H H' : Hp} (s : Same H H') : Keep H H' := fun b xs q => s b _ q
theorem keep_lst {H : Hp} {l : Addr} {xs ys : List V} (h : H l = some (.lst xs)) : Keep H (upd H l (.lst ys)) := fun b zs q => by
  have z : b ≠ l := fun e => by rw [e, h] at q; cases q
  rw [upd_ne z]; exact q
theorem Rec.keep {H H' : Hp} (k : Keep H H') : ∀ {r : Rcp} {v : V}, Rec H r v → Rec H' r v
  | .num n, v, ⟨p, e, h⟩ => ⟨p, e, k _ _ h⟩
  | .read s, v, ⟨p, e, h⟩ => ⟨p, e, k _ _ h⟩
  | .two _ a b, v, ⟨p, x, y, e, h, ra, rb⟩ => ⟨p, x, y, e, k _ _ h, Rec.keep k ra, Rec.keep k rb⟩
  | .pick a b c, v, ⟨p, x, y, z, e, h, ra, rb, rc⟩ => ⟨p, x, y, z, e, k _ _ h, Rec.keep k ra, Rec.keep k rb, Rec.keep k rc⟩
  | .choose a ns, v, ⟨p, x, q, e, h, ra, hq⟩ => ⟨p, x, q, e, k _ _ h, Rec.keep k ra, k _ _ hq⟩
theorem Rec.same {H H' : Hp} (s : Same H H') {r : Rcp} {v : V} (h : Rec H r v) : Rec H' r v := h.keep (same_keep s)
theorem dep_pos : ∀ r : Rcp, 1 ≤ r.dep
  | .num _ => Nat.le_refl _
  | .read _ => Nat.le_refl _
  | .two _ _ _ => Nat.le_add_left _ _
  | .pick _ _ _ => Nat.le_add_left _ _
  | .choose _ _ => Nat.le_add_left _ _
theorem siz_pos : ∀ r : Rcp, 1 ≤ r.siz
  | .num _ => Nat.le_refl _
  | .read _ => Nat.le_refl _
  | .two _ _ _ => Nat.le_add_left _ _
  | .pick _ _ _ => Nat.le_add_left _ _
  | .choose _ _ => Nat.le_add_left _ _
theorem iteY {p A B : Prop} [Decidable p] (h : p) (a : A) : if decide p = true then A else B := by
  rw [if_pos (decide_eq_true h)]; exact a
theorem iteN {p A B : Prop} [Decidable p] (h : ¬p) (b : B) : if decide p = true then A else B := by
  rw [if_neg (fun z => h (of_decide_eq_true z))]; exact b
theorem txs_get {ns : List (List Nat)} {i : Nat} (h : i < ns.length) : (txs ns)[i]? = some (.str (SX.S ns[i])) := by
  unfold txs
  rw [List.getElem?_map, List.getElem?_map, List.getElem?_eq_getElem h]
  all_goals rfl
theorem txs_mem {ns : List (List Nat)} {x : V} (h : x ∈ txs ns) : ∃ s, s ∈ ns ∧ x = .str (SX.S s) := by
  obtain ⟨y, hy, rfl⟩ := List.mem_map.mp h
  obtain ⟨s, hs, rfl⟩ := List.mem_map.mp hy
  exact ⟨s, hs, rfl⟩
theorem txs_len (ns : List (List Nat)) : (txs ns).length = ns.length := by unfold txs; rw [List.length_map, List.length_map]
theorem txs_app (a b : List (List Nat)) : txs (a ++ b) = txs a ++ txs b := by unfold txs; rw [List.map_append, List.map_append]
/-- the signs, one by one -/
def ones (ss : List Nat) : List (List Nat) := ss.map fun c => [c]
theorem ones_flat (ss : List Nat) : (ones ss).flatten = ss := by
  induction ss with
  | nil => rfl
  | cons a r ih => show [a] ++ (ones r).flatten = _; rw [ih]; rfl
theorem ones_sum (ss : List Nat) : (((ones ss).map SX.S).map (·.length)).sum = ss.length := by
  induction ss with
  | nil => rfl
  | cons a r ih => show 1 + (((ones r).map SX.S).map (·.length)).sum = r.length + 1; rw [ih, Nat.add_comm]
theorem ones_len (ss : List Nat) : (ones ss).length = ss.length := List.length_map _
/-- the pick out of some things by a drawn number -/
theorem one_of {α : Type} {xs : List α} {v : Int} (h0 : 0 ≤ v) (h : v < xs.length) : ∃ x, x ∈ xs ∧ atI xs v = some x := by
  have hk : v.toNat < xs.length := by omega
  exact ⟨xs[v.toNat], List.getElem_mem hk, atI_at h0 (List.getElem?_eq_getElem hk)⟩
def letters : List Nat := [97, 98, 99, 100, 101, 102, 103, 104, 105, 106, 107, 108, 109, 110, 111, 112, 113, 114, 115, 116, 117, 118, 119, 120, 121, 122]
theorem letters_is : ("abcdefghijklmnopqrstuvwxyz" : Str) = SX.S letters := by decide +kernel
theorem letters_ok : ∀ c ∈ letters, 97 ≤ c ∧ c ≤ 122 := by decide
/-! ### rows of recipes -/
def Recs (H : Hp) : List Rcp → List V → Prop
  | [], [] => True
  | r :: rs, v :: vs => Rec H r v ∧ Recs H rs vs
  | _, _ => False
theorem Recs.keep {H H' : Hp} (k : Keep H H') : ∀ {rs : List Rcp} {vs : List V}, Recs H rs vs → Recs H' rs vs
  | [], [], _ => trivial
  | _ :: _, _ :: _, h => ⟨h.1.keep k, Recs.keep k h.2⟩
  | [], _ :: _, h => h.elim
  | _ :: _, [], h => h.elim
theorem Recs.len {H : Hp} : ∀ {rs : List Rcp} {vs : List V}, Recs H rs vs → vs.length = rs.length
  | [], [], _ => rfl
  | _ :: _, _ :: _, h => congrArg (· + 1) (Recs.len h.2)
  | [], _ :: _, h => h.elim
  | _ :: _, [], h => h.elim
theorem Recs.snoc {H : Hp} {r : Rcp} {v : V} (hr : Rec H r v) : ∀ {rs : List Rcp} {vs : List V}, Recs H rs vs → Recs H (rs ++ [r]) (vs ++ [v])
  | [], [], _ => ⟨hr, trivial⟩
  | _ :: _, _ :: _, h => ⟨h.1, Recs.snoc hr h.2⟩
  | [], _ :: _, h => h.elim
  | _ :: _, [], h => h.elim
theorem Recs.at {H : Hp} : ∀ {rs : List Rcp} {vs : List V} {i : Nat} {v : V}, Recs H rs vs → vs[i]? = some v → ∃ r, rs[i]? = some r ∧ Rec H r v
  | [], [], i, v, _, e => by simp at e
  | r :: _, _ :: _, 0, v, h, e => ⟨r, rfl, by cases e; exact h.1⟩
  | _ :: _, _ :: _, i + 1, v, h, e => Recs.at (i := i) h.2 (by simpa using e)
  | [], _ :: _, _, _, h, _ => h.elim
  | _ :: _, [], _, _, h, _ => h.elim
theorem Recs.get {H : Hp} {rs : List Rcp} {vs : List V} {i : Nat} (h : Recs H rs vs) (hi : i < rs.length) : ∃ v r, vs[i]? = some v ∧ rs[i]? = some r ∧ Rec H r v := by
  have hv : i < vs.length := by rw [h.len]; exact hi
  obtain ⟨r, e, hr⟩ := h.at (List.getElem?_eq_getElem hv)
  exact ⟨_, r, List.getElem?_eq_getElem hv, e, hr⟩
/-- a comprehension over a range with a step -/
theorem lcC {lo c : Int} {n : Nat} {g : TG} {tt : TT} {te : TE} {vs : List Nat} {σ : L2.St} {H1 : Hp} {D : Addr} {Qd : Hp → Prop} (Pv : Nat → Hp → Prop)
    (h0 : Pv 0 (upd H1 D (.lst [])))
    (hs : ∀ i H, i < n → Pv i H → g (.int (lo + (i : Nat) * c)) (wipe σ vs) H
      fun σ2 H2 => wipe σ2 vs = wipe σ vs ∧ tt σ2 H2
        fun b H3 => if b = true then te σ2 H3
          fun y H4 => ∃ acc, H4 D = some (.lst acc) ∧ acc.length < sizeLine ∧ Pv (i + 1) (upd H4 D (.lst (acc ++ [y])))
        else Pv (i + 1) H3)
    (hd : ∀ H, Pv n H → Qd H) :
    ∃ W : Nat → Nat → Hp → Prop, (∃ m, W 0 m (upd H1 D (.lst []))) ∧
      ∀ i m H, W i m H → ((Itc lo c n).stop i H ∧ Qd H) ∨ ((Itc lo c n).go i H ∧
        ∃ Nx : Hp → Prop, (∀ H', Nx H' → ∃ m', m' < m ∧ W (i + 1) m' H') ∧
          ∀ x H', (Itc lo c n).yld i H x H' → g x (wipe σ vs) H'
            fun σ2 H2 => wipe σ2 vs = wipe σ vs ∧ tt σ2 H2
              fun b H3 => if b = true then te σ2 H3
                fun y H4 => ∃ acc, H4 D = some (.lst acc) ∧ acc.length < sizeLine ∧ Nx (upd H4 D (.lst (acc ++ [y])))
              else Nx H3) := by
  refine ⟨fun i m H => m = n - i ∧ i ≤ n ∧ Pv i H, ⟨n, rfl, Nat.zero_le _, h0⟩, fun i m H w => ?_⟩
  obtain ⟨em, hi, p⟩ := w
  by_cases hlt : i < n
  · refine Or.inr ⟨hlt, Pv (i + 1), fun H' p' => ⟨n - (i + 1), by omega, rfl, hlt, p'⟩, fun x H' y => ?_⟩
    obtain ⟨e1, e2⟩ := y
    rw [e1, e2]
    exact hs i H hlt p
  · have e : i = n := by omega
    rw [e] at p
    exact Or.inl ⟨by show n ≤ i; omega, hd H p⟩
theorem cut_nat (xs : List V) {a b : Nat} (h : a ≤ b) : cutV xs (some (a : Int)) (some (b : Int)) = (xs.drop a).take (b - a) := by
  show (xs.drop (HT.sIx xs.length 0 (some (a : Int)))).take (HT.sIx xs.length xs.length (some (b : Int)) - HT.sIx xs.length 0 (some (a : Int))) = _
  rw [HT.sIx_nat, HT.sIx_nat]
  by_cases ha : a ≤ xs.length
  · rw [Nat.min_eq_left ha]
    by_cases hb : b ≤ xs.length
    · rw [Nat.min_eq_left hb]
    · rw [Nat.min_eq_right (by omega), List.take_of_length_le (by rw [List.length_drop]; omega), List.take_of_length_le (by rw [List.length_drop]; omega)]
  · have e1 : min a xs.length = xs.length := by omega
    rw [e1, List.drop_eq_nil_of_le (Nat.le_refl _), List.drop_eq_nil_of_le (by omega), List.take_nil, List.take_nil]
theorem cut_to (xs : List V) (b : Nat) : cutV xs none (some (b : Int)) = xs.take b := by
  show (xs.drop (HT.sIx xs.length 0 none)).take (HT.sIx xs.length xs.length (some (b : Int)) - HT.sIx xs.length 0 none) = _
  rw [HT.sIx_none, HT.sIx_nat, List.drop_zero, Nat.sub_zero]
  by_cases hb : b ≤ xs.length
  · rw [Nat.min_eq_left hb]
  · rw [Nat.min_eq_right (by omega), List.take_of_length_le (Nat.le_refl _), List.take_of_length_le (by omega)]
/-! ### any things as data -/
inductive Th where
  | non
  | bl (b : Bool)
  | int (i : Int)
  | str (s : List Nat)
  | tup (l : List Th)
  | lst (l : List Th)
  | dct
mutual
/-- the value stands for the thing in H -/
def Data (H : Hp) : Th → V → Prop
  | .non, v => v = .non
  | .bl b, v => v = .bl b
  | .int i, v => v = .int i
  | .str s, v => v = .str (SX.S s)
  | .tup l, v => ∃ p xs, v = .ref p ∧ H p = some (.tup xs) ∧ DataL H l xs
  | .lst l, v => ∃ p xs, v = .ref p ∧ H p = some (.lst xs) ∧ DataL H l xs
  | .dct, v => ∃ p kvs, v = .ref p ∧ H p = some (.dK kvs)
def DataL (H : Hp) : List Th → List V → Prop
  | [], xs => xs = []
  | t :: l, xs => ∃ x r, xs = x :: r ∧ Data H t x ∧ DataL H l r
end
mutual
theorem Data.same {H H' : Hp} (s : Same H H') : ∀ {t : Th} {v : V}, Data H t v → Data H' t v
  | .non, _, h => h
  | .bl _, _, h => h
  | .int _, _, h => h
  | .str _, _, h => h
  | .tup _, _, ⟨p, xs, e, hp, hl⟩ => ⟨p, xs, e, s _ _ hp, DataL.same s hl⟩
  | .lst _, _, ⟨p, xs, e, hp, hl⟩ => ⟨p, xs, e, s _ _ hp, DataL.same s hl⟩
  | .dct, _, ⟨p, kvs, e, hp⟩ => ⟨p, kvs, e, s _ _ hp⟩
theorem DataL.same {H H' : Hp} (s : Same H H') : ∀ {l : List Th} {xs : List V}, DataL H l xs → DataL H' l xs
  | [], _, h => h
  | _ :: _, _, ⟨x, r, e, h1, h2⟩ => ⟨x, r, e, Data.same s h1, DataL.same s h2⟩
end
theorem DataL.len {H : Hp} : ∀ {l : List Th} {xs : List V}, DataL H l xs → xs.length = l.length
  | [], _, h => by rw [show _ = [] from h]; rfl
  | _ :: _, _, ⟨x, r, e, _, h2⟩ => by rw [e, List.length_cons, DataL.len h2]; rfl
theorem DataL.at {H : Hp} : ∀ {l : List Th} {xs : List V} {i : Nat} {v : V}, DataL H l xs → xs[i]? = some v → ∃ t, l[i]? = some t ∧ Data H t v
  | [], _, i, v, h, e => by rw [show _ = [] from h] at e; simp at e
  | t :: _, _, 0, v, ⟨x, r, e1, h1, _⟩, e => by subst e1; cases e; exact ⟨t, rfl, h1⟩
  | _ :: _, _, i + 1, v, ⟨x, r, e1, _, h2⟩, e => by subst e1; exact DataL.at (i := i) h2 (by simpa using e)
theorem DataL.get {H : Hp} {l : List Th} {xs : List V} {i : Nat} {t : Th} (h : DataL H l xs) (e : l[i]? = some t) : ∃ v, xs[i]? = some v ∧ Data H t v := by
  have hi : i < xs.length := by
    rw [h.len]
    exact (List.getElem?_eq_some_iff.mp e).1
  obtain ⟨t', e', hd⟩ := h.at (List.getElem?_eq_getElem hi)
  rw [e] at e'
  cases e'
  exact ⟨_, List.getElem?_eq_getElem hi, hd⟩
theorem DataL.drop {H : Hp} : ∀ {l : List Th} {xs : List V} (n : Nat), DataL H l xs → DataL H (l.drop n) (xs.drop n)
  | _, _, 0, h => h
  | [], _, n + 1, h => by rw [show _ = [] from h]; exact rfl
  | _ :: _, _, n + 1, ⟨x, r, e, _, h2⟩ => by subst e; exact DataL.drop n h2
theorem DataL.take {H : Hp} : ∀ {l : List Th} {xs : List V} (n : Nat), DataL H l xs → DataL H (l.take n) (xs.take n)
  | _, _, 0, _ => rfl
  | [], _, n + 1, h => by rw [show _ = [] from h]; exact rfl
  | _ :: _, _, n + 1, ⟨x, r, e, h1, h2⟩ => by subst e; exact ⟨x, _, rfl, h1, DataL.take n h2⟩
theorem DataL.snoc {H : Hp} {t : Th} {v : V} (h : Data H t v) : ∀ {l : List Th} {xs : List V}, DataL H l xs → DataL H (l ++ [t]) (xs ++ [v])
  | [], _, e => by rw [show _ = [] from e]; exact ⟨v, [], rfl, h, rfl⟩
  | _ :: _, _, ⟨x, r, e, h1, h2⟩ => by subst e; exact ⟨x, _, rfl, h1, DataL.snoc h h2⟩
mutual
/-- without dicts -/
def Th.flat : Th → Bool
  | .dct => false
  | .tup l => Th.flatL l
  | .lst l => Th.flatL l
  | _ => true
def Th.flatL : List Th → Bool
  | [] => true
  | t :: l => t.flat && Th.flatL l
end
mutual
def Th.py : Th → PyData
  | .non => .none
  | .bl b => .bool b
  | .int i => .int i
  | .str s => .str (SX.S s)
  | .tup l => .tuple (Th.pyL l)
  | .lst l => .list (Th.pyL l)
  | .dct => .none
def Th.pyL : List Th → List PyData
  | [] => []
  | t :: l => t.py :: Th.pyL l
end
mutual
theorem Data.dp {K : PySem.W.Frag} {H : Hp} : ∀ {t : Th} {v : V}, t.flat = true → Data H t v → Dp K H v t.py
  | .non, _, _, h => by rw [show _ = V.non from h]; exact .non
  | .bl _, _, _, h => by rw [show _ = V.bl _ from h]; exact .bl _
  | .int _, _, _, h => by rw [show _ = V.int _ from h]; exact .int _
  | .str _, _, _, h => by rw [show _ = V.str _ from h]; exact .str _
  | .tup l, _, f, ⟨p, xs, e, hp, hl⟩ => by rw [e]; exact .tup (SqT.of hp) (DataL.dp f hl)
  | .lst l, _, f, ⟨p, xs, e, hp, hl⟩ => by rw [e]; exact .lst (SqL.of hp) (DataL.dp f hl)
theorem DataL.dp {K : PySem.W.Frag} {H : Hp} : ∀ {l : List Th} {xs : List V}, Th.flatL l = true → DataL H l xs → DpAll K H xs (Th.pyL l)
  | [], _, _, h => by rw [show _ = [] from h]; exact .nil
  | t :: l, _, f, ⟨x, r, e, h1, h2⟩ => by
    have f' : t.flat = true ∧ Th.flatL l = true := by
      have : (t.flat && Th.flatL l) = true := f
      exact Bool.and_eq_true_iff.mp this
    rw [e]
    exact .cons (Data.dp f'.1 h1) (DataL.dp f'.2 h2)
end
/-! ### what is a name, a recipe -/
def nmOk (s : List Nat) : Bool := decide (1 ≤ s.length) && decide (s.length ≤ 8) && s.all fun c => decide (97 ≤ c) && decide (c ≤ 122)
theorem nmOk_iff {s : List Nat} : nmOk s = true ↔ Nm s := by
  unfold nmOk Nm
  simp only [Bool.and_eq_true, decide_eq_true_eq, List.all_eq_true]
  exact ⟨fun ⟨⟨a, b⟩, c⟩ => ⟨a, b, c⟩, fun ⟨a, b, c⟩ => ⟨⟨a, b⟩, c⟩⟩
def Th.isNm : Th → Bool
  | .str s => nmOk s
  | _ => false
def Th.areNms : Th → Bool
  | .tup l => decide (1 ≤ l.length) && decide (l.length ≤ 9) && l.all Th.isNm
  | _ => false
def Th.isInt : Th → Bool
  | .int _ => true
  | _ => false
def w_number : List Nat := [110, 117, 109, 98, 101, 114]
def w_read : List Nat := [114, 101, 97, 100]
def w_pick : List Nat := [112, 105, 99, 107]
def w_choose : List Nat := [99, 104, 111, 111, 115, 101]
def w_plus : List Nat := [112, 108, 117, 115]
def w_minus : List Nat := [109, 105, 110, 117, 115]
def w_times : List Nat := [116, 105, 109, 101, 115]
def w_most : List Nat := [109, 111, 115, 116]
def twos : List (List Nat) := [w_plus, w_minus, w_times, w_most]
/-- the parts of a thing that has a recipe's form -/
def formParts (k : List Nat) (l : List Th) : Option (List Th) :=
  if k = w_number then (if l.length = 1 ∧ (l.headD .non).isInt = true then some [] else none)
  else if k = w_read then (if l.length = 1 ∧ (l.headD .non).isNm = true then some [] else none)
  else if k ∈ twos then (if l.length = 2 then some l else none)
  else if k = w_pick then (if l.length = 3 then some l else none)
  else if k = w_choose then (if l.length = 2 ∧ (l.getD 1 .non).areNms = true then some (l.take 1) else none)
  else none
def Th.parts : Th → Option (List Th)
  | .tup (.str k :: l) => formParts k l
  | _ => none
/-- all well formed, n deep at most -/
def Th.okay : Nat → Th → Bool
  | 0, _ => false
  | n + 1, t => match t.parts with
    | none => false
    | some ps => ps.all (Th.okay n)
def Th.count : Nat → Th → Nat
  | 0, _ => 1
  | n + 1, t => match t.parts with
    | none => 1
    | some ps => 1 + (ps.map (Th.count n)).sum
def Th.isRcp (t : Th) : Bool := t.okay 8 && decide (t.count 8 ≤ 100)
theorem count_pos : ∀ (n : Nat) (t : Th), 1 ≤ t.count n
  | 0, _ => Nat.le_refl _
  | n + 1, t => by
    unfold Th.count
    cases t.parts with
    | none => exact Nat.le_refl _
    | some ps => exact Nat.le_add_right _ _
theorem parts_tup {t : Th} {ps : List Th} (h : t.parts = some ps) : ∃ k l, t = .tup (.str k :: l) := by
  unfold Th.parts at h
  split at h
  · exact ⟨_, _, rfl⟩
  · cases h
/-- what the walk may meet: texts of ASCII signs, not too long; names without dicts -/
def tameS (s : List Nat) : Bool := decide (s.length ≤ 1000000) && s.all fun c => decide (c < 128)
def namesTame : List Th → Bool
  | [.str k, _, .tup m] => !decide (k = w_choose) || (Th.flatL m && SeqAt.shaped (.list (Th.pyL m)))
  | _ => true
mutual
def Th.tame : Th → Bool
  | .str s => tameS s
  | .tup l => Th.tameL l && decide (l.length ≤ 1000000) && namesTame l
  | _ => true
def Th.tameL : List Th → Bool
  | [] => true
  | t :: l => t.tame && Th.tameL l
end
theorem tameL_mem : ∀ {l : List Th}, Th.tameL l = true → ∀ t ∈ l, t.tame = true
  | [], _, t, h => by cases h
  | a :: l, f, t, h => by
    have f' : (a.tame && Th.tameL l) = true := f
    rw [Bool.and_eq_true] at f'
    rcases List.mem_cons.mp h with h | h
    · rw [h]; exact f'.1
    · exact tameL_mem f'.2 t h
theorem flatL_mem : ∀ {l : List Th}, Th.flatL l = true → ∀ t ∈ l, t.flat = true
  | [], _, t, h => by cases h
  | a :: l, f, t, h => by
    have f' : (a.flat && Th.flatL l) = true := f
    rw [Bool.and_eq_true] at f'
    rcases List.mem_cons.mp h with h | h
    · rw [h]; exact f'.1
    · exact flatL_mem f'.2 t h
theorem flatL_filter (p : Th → Bool) : ∀ {l : List Th}, Th.flatL l = true → Th.flatL (l.filter p) = true
  | [], _ => rfl
  | a :: l, f => by
    have f' : (a.flat && Th.flatL l) = true := f
    rw [Bool.and_eq_true] at f'
    rw [List.filter_cons]
    split
    · show (a.flat && Th.flatL (l.filter p)) = true
      rw [f'.1, flatL_filter p f'.2]; rfl
    · exact flatL_filter p f'.2
theorem shaped_parts {ds : List PyData} : SeqAt.shaped (.list ds) = true ↔ PyData.canLayAll0 ds = true ∧ PyData.depthAll ds + 1 ≤ 64 := by
  show (PyData.canLayAll0 ds && decide (PyData.depthAll ds + 1 ≤ 64)) = true ↔ _
  rw [Bool.and_eq_true, decide_eq_true_eq]
theorem py_filter (p : Th → Bool) : ∀ (l : List Th), PyData.canLayAll0 (Th.pyL l) = true → PyData.canLayAll0 (Th.pyL (l.filter p)) = true ∧ PyData.depthAll (Th.pyL (l.filter p)) ≤ PyData.depthAll (Th.pyL l)
  | [], _ => ⟨rfl, Nat.le_refl _⟩
  | a :: l, f => by
    have f' : (a.py.canLay0 && PyData.canLayAll0 (Th.pyL l)) = true := f
    rw [Bool.and_eq_true] at f'
    have ih := py_filter p l f'.2
    rw [List.filter_cons]
    split
    · refine ⟨?_, ?_⟩
      · show (a.py.canLay0 && PyData.canLayAll0 (Th.pyL (l.filter p))) = true
        rw [f'.1, ih.1]; rfl
      · show max a.py.depth (PyData.depthAll (Th.pyL (l.filter p))) ≤ max a.py.depth (PyData.depthAll (Th.pyL l))
        omega
    · refine ⟨ih.1, ?_⟩
      show _ ≤ max a.py.depth (PyData.depthAll (Th.pyL l))
      omega
theorem shaped_filter (p : Th → Bool) {l : List Th} (h : SeqAt.shaped (.list (Th.pyL l)) = true) : SeqAt.shaped (.list (Th.pyL (l.filter p))) = true := by
  rw [shaped_parts] at h ⊢
  have := py_filter p l h.1
  exact ⟨this.1, by omega⟩
def Th.tyName : Th → String
  | .non => "NoneType" | .bl _ => "bool" | .int _ => "int" | .str _ => "str" | .tup _ => "tuple" | .lst _ => "list" | .dct => "dict"
theorem Data.ty {K : PySem.W.Frag} {H : Hp} : ∀ {t : Th} {v : V}, Data H t v → TyX K H v (.type t.tyName)
  | .non, _, h => by rw [show _ = V.non from h]; exact .base .non
  | .bl _, _, h => by rw [show _ = V.bl _ from h]; exact .base (.bl _)
  | .int _, _, h => by rw [show _ = V.int _ from h]; exact .base (.int _)
  | .str _, _, h => by rw [show _ = V.str _ from h]; exact .base (.str _)
  | .tup l, _, ⟨p, xs, e, hp, hl⟩ => by rw [e]; exact .base (.tup hp)
  | .lst l, _, ⟨p, xs, e, hp, hl⟩ => by rw [e]; exact .base (.lst hp)
  | .dct, _, ⟨p, kvs, e, hp⟩ => by rw [e]; exact .base (.dK hp)
def Th.isTup : Th → Bool
  | .tup _ => true
  | _ => false
def Th.isStr : Th → Bool
  | .str _ => true
  | _ => false
def Th.isBl : Th → Bool
  | .bl _ => true
  | _ => false
def Th.isIntB : Th → Bool
  | .bl _ => true
  | .int _ => true
  | _ => false
theorem kit_tup {K : PySem.W.Frag} : ∀ t : Th, PySem.W.kitOne K (.type t.tyName) (.type "tuple") = some t.isTup
  | .non => kit_ty (show kitB "NoneType" "tuple" = some false by decide +kernel)
  | .bl _ => kit_ty (show kitB "bool" "tuple" = some false by decide +kernel)
  | .int _ => kit_ty (show kitB "int" "tuple" = some false by decide +kernel)
  | .str _ => kit_ty (show kitB "str" "tuple" = some false by decide +kernel)
  | .tup _ => kit_ty (show kitB "tuple" "tuple" = some true by decide +kernel)
  | .lst _ => kit_ty (show kitB "list" "tuple" = some false by decide +kernel)
  | .dct => kit_ty (show kitB "dict" "tuple" = some false by decide +kernel)
theorem kit_str {K : PySem.W.Frag} : ∀ t : Th, PySem.W.kitOne K (.type t.tyName) (.type "str") = some t.isStr
  | .non => kit_ty (show kitB "NoneType" "str" = some false by decide +kernel)
  | .bl _ => kit_ty (show kitB "bool" "str" = some false by decide +kernel)
  | .int _ => kit_ty (show kitB "int" "str" = some false by decide +kernel)
  | .str _ => kit_ty (show kitB "str" "str" = some true by decide +kernel)
  | .tup _ => kit_ty (show kitB "tuple" "str" = some false by decide +kernel)
  | .lst _ => kit_ty (show kitB "list" "str" = some false by decide +kernel)
  | .dct => kit_ty (show kitB "dict" "str" = some false by decide +kernel)
theorem kit_int {K : PySem.W.Frag} : ∀ t : Th, PySem.W.kitOne K (.type t.tyName) (.type "int") = some t.isIntB
  | .non => kit_ty (show kitB "NoneType" "int" = some false by decide +kernel)
  | .bl _ => kit_ty (show kitB "bool" "int" = some true by decide +kernel)
  | .int _ => kit_ty (show kitB "int" "int" = some true by decide +kernel)
  | .str _ => kit_ty (show kitB "str" "int" = some false by decide +kernel)
  | .tup _ => kit_ty (show kitB "tuple" "int" = some false by decide +kernel)
  | .lst _ => kit_ty (show kitB "list" "int" = some false by decide +kernel)
  | .dct => kit_ty (show kitB "dict" "int" = some false by decide +kernel)
theorem kit_bl {K : PySem.W.Frag} : ∀ t : Th, PySem.W.kitOne K (.type t.tyName) (.type "bool") = some t.isBl
  | .non => kit_ty (show kitB "NoneType" "bool" = some false by decide +kernel)
  | .bl _ => kit_ty (show kitB "bool" "bool" = some true by decide +kernel)
  | .int _ => kit_ty (show kitB "int" "bool" = some false by decide +kernel)
  | .str _ => kit_ty (show kitB "str" "bool" = some false by decide +kernel)
  | .tup _ => kit_ty (show kitB "tuple" "bool" = some false by decide +kernel)
  | .lst _ => kit_ty (show kitB "list" "bool" = some false by decide +kernel)
  | .dct => kit_ty (show kitB "dict" "bool" = some false by decide +kernel)
theorem isInt_is (t : Th) : (t.isIntB && !t.isBl) = t.isInt := by cases t <;> rfl
/-- a comprehension over a text -/
theorem lcS {z : Str} {g : TG} {tt : TT} {te : TE} {vs : List Nat} {σ : L2.St} {H1 : Hp} {D : Addr} {Qd : Hp → Prop} (Pv : Nat → Hp → Prop)
    (h0 : Pv 0 (upd H1 D (.lst [])))
    (hs : ∀ i c H, z.cps[i]? = some c → Pv i H → g (.str ⟨#[c]⟩) (wipe σ vs) H
      fun σ2 H2 => wipe σ2 vs = wipe σ vs ∧ tt σ2 H2
        fun b H3 => if b = true then te σ2 H3
          fun y H4 => ∃ acc, H4 D = some (.lst acc) ∧ acc.length < sizeLine ∧ Pv (i + 1) (upd H4 D (.lst (acc ++ [y])))
        else Pv (i + 1) H3)
    (hd : ∀ H, Pv z.cps.size H → Qd H) :
    ∃ W : Nat → Nat → Hp → Prop, (∃ m, W 0 m (upd H1 D (.lst []))) ∧
      ∀ i m H, W i m H → ((Its z).stop i H ∧ Qd H) ∨ ((Its z).go i H ∧
        ∃ Nx : Hp → Prop, (∀ H', Nx H' → ∃ m', m' < m ∧ W (i + 1) m' H') ∧
          ∀ x H', (Its z).yld i H x H' → g x (wipe σ vs) H'
            fun σ2 H2 => wipe σ2 vs = wipe σ vs ∧ tt σ2 H2
              fun b H3 => if b = true then te σ2 H3
                fun y H4 => ∃ acc, H4 D = some (.lst acc) ∧ acc.length < sizeLine ∧ Nx (upd H4 D (.lst (acc ++ [y])))
              else Nx H3) := by
  refine ⟨fun i m H => m = z.cps.size - i ∧ i ≤ z.cps.size ∧ Pv i H, ⟨z.cps.size, rfl, Nat.zero_le _, h0⟩, fun i m H w => ?_⟩
  obtain ⟨em, hi, p⟩ := w
  by_cases hlt : i < z.cps.size
  · refine Or.inr ⟨hlt, Pv (i + 1), fun H' p' => ⟨z.cps.size - (i + 1), by omega, rfl, hlt, p'⟩, fun x H' y => ?_⟩
    obtain ⟨e1, c, e2, e3⟩ := y
    rw [e1, e3]
    exact hs i c H e2 p
  · have e : i = z.cps.size := by omega
    rw [e] at p
    exact Or.inl ⟨by show z.cps.size ≤ i; omega, hd H p⟩
/-- a list of data against a new empty one -/
theorem eqv_nil (l : List Th) : PyData.eqv (.list (Th.pyL l)) (.list []) = l.isEmpty := by cases l <;> rfl
theorem kw {k : List Nat} {w : List Nat} {lit : Str} (h : lit = SX.S w) : V.str (SX.S k) = V.str lit ↔ k = w := by
  rw [h]
  exact ⟨fun e => SX.S_inj (by cases e; rfl), fun e => by rw [e]⟩
theorem q_number : ("number" : Str) = SX.S w_number := by decide +kernel
theorem q_read : ("read" : Str) = SX.S w_read := by decide +kernel
theorem q_pick : ("pick" : Str) = SX.S w_pick := by decide +kernel
theorem q_choose : ("choose" : Str) = SX.S w_choose := by decide +kernel
theorem q_plus : ("plus" : Str) = SX.S w_plus := by decide +kernel
theorem q_minus : ("minus" : Str) = SX.S w_minus := by decide +kernel
theorem q_times : ("times" : Str) = SX.S w_times := by decide +kernel
theorem q_most : ("most" : Str) = SX.S w_most := by decide +kernel
theorem in_twos (k : List Nat) : inV (.str (SX.S k)) [.str "plus", .str "minus", .str "times", .str "most"] = decide (k ∈ twos) := by
  rw [q_plus, q_minus, q_times, q_most]
  have e : ∀ w : List Nat, (SX.S w == SX.S k) = decide (k = w) := fun w => by
    rw [SX.S_beq_eq]
    exact decide_eq_decide.mpr ⟨Eq.symm, Eq.symm⟩
  show ((SX.S w_plus == SX.S k) || ((SX.S w_minus == SX.S k) || ((SX.S w_times == SX.S k) || ((SX.S w_most == SX.S k) || false)))) = _
  rw [e, e, e, e]
  unfold twos
  simp only [List.mem_cons, List.not_mem_nil, or_false]
  simp [Bool.decide_or]
theorem num_parts (k : List Nat) (h : k = w_number) (t1 : Th) : (t1.isInt = true → formParts k [t1] = some []) ∧ (t1.isInt = false → formParts k [t1] = none) := by
  unfold formParts
  rw [if_pos h]
  exact ⟨fun z => if_pos ⟨rfl, z⟩, fun z => if_neg fun y => by rw [show ([t1] : List Th).headD .non = t1 from rfl, z] at y; cases y.2⟩
theorem read_parts (k : List Nat) (h1 : k ≠ w_number) (h : k = w_read) (t1 : Th) : (t1.isNm = true → formParts k [t1] = some []) ∧ (t1.isNm = false → formParts k [t1] = none) := by
  unfold formParts
  rw [if_neg h1, if_pos h]
  exact ⟨fun z => if_pos ⟨rfl, z⟩, fun z => if_neg fun y => by rw [show ([t1] : List Th).headD .non = t1 from rfl, z] at y; cases y.2⟩
theorem one_none (k : List Nat) (h1 : k ≠ w_number) (h2 : k ≠ w_read) (t1 : Th) : formParts k [t1] = none := by
  unfold formParts
  rw [if_neg h1, if_neg h2]
  simp
theorem twos_parts (k : List Nat) (h : k ∈ twos) (t1 t2 : Th) : formParts k [t1, t2] = some [t1, t2] := by
  have n1 : k ≠ w_number := fun z => by rw [z] at h; revert h; decide
  have n2 : k ≠ w_read := fun z => by rw [z] at h; revert h; decide
  unfold formParts
  rw [if_neg n1, if_neg n2, if_pos h]
  rfl
theorem choose_parts (k : List Nat) (h : k = w_choose) (t1 t2 : Th) : (t2.areNms = true → formParts k [t1, t2] = some [t1]) ∧ (t2.areNms = false → formParts k [t1, t2] = none) := by
  have n1 : k ≠ w_number := by rw [h]; decide
  have n2 : k ≠ w_read := by rw [h]; decide
  have n3 : ¬ k ∈ twos := by rw [h]; decide
  have n4 : k ≠ w_pick := by rw [h]; decide
  unfold formParts
  rw [if_neg n1, if_neg n2, if_neg n3, if_neg n4, if_pos h]
  exact ⟨fun z => if_pos ⟨rfl, z⟩, fun z => if_neg fun y => by rw [show ([t1, t2] : List Th).getD 1 .non = t2 from rfl, z] at y; cases y.2⟩
theorem two_none (k : List Nat) (h1 : ¬ k ∈ twos) (h2 : k ≠ w_choose) (t1 t2 : Th) : formParts k [t1, t2] = none := by
  unfold formParts
  rw [if_neg h1, if_neg h2]
  simp
theorem pick_parts (k : List Nat) (h : k = w_pick) (t1 t2 t3 : Th) : formParts k [t1, t2, t3] = some [t1, t2, t3] := by
  have n1 : k ≠ w_number := by rw [h]; decide
  have n2 : k ≠ w_read := by rw [h]; decide
  have n3 : ¬ k ∈ twos := by rw [h]; decide
  unfold formParts
  rw [if_neg n1, if_neg n2, if_neg n3, if_pos h]
  rfl
theorem three_none (k : List Nat) (h1 : k ≠ w_pick) (t1 t2 t3 : Th) : formParts k [t1, t2, t3] = none := by
  unfold formParts
  rw [if_neg h1]
  simp
/-! ### recipes as things -/
def Kd.word : Kd → List Nat
  | .plus => w_plus | .minus => w_minus | .times => w_times | .most => w_most
theorem kd_word (k : Kd) : k.name = SX.S k.word := by cases k <;> decide +kernel
theorem kd_twos (k : Kd) : k.word ∈ twos := by cases k <;> decide
def nmsTh (ns : List (List Nat)) : List Th := ns.map Th.str
def Rcp.tail : Rcp → List Th × List Nat
  | .num n => ([.int n], w_number)
  | .read s => ([.str s], w_read)
  | _ => ([], [])
def Rcp.th : Rcp → Th
  | .num n => .tup [.str w_number, .int n]
  | .read s => .tup [.str w_read, .str s]
  | .two k a b => .tup [.str k.word, a.th, b.th]
  | .pick a b c => .tup [.str w_pick, a.th, b.th, c.th]
  | .choose a ns => .tup [.str w_choose, a.th, .tup (nmsTh ns)]
theorem nms_data (H : Hp) : ∀ ns : List (List Nat), DataL H (nmsTh ns) (txs ns)
  | [] => rfl
  | s :: ns => ⟨_, _, rfl, rfl, nms_data H ns⟩
theorem Rec.data {H : Hp} : ∀ {r : Rcp} {v : V}, Rec H r v → Data H r.th v
  | .num n, v, ⟨p, e, h⟩ => ⟨p, _, e, h, _, _, rfl, congrArg V.str q_number, _, _, rfl, rfl, rfl⟩
  | .read s, v, ⟨p, e, h⟩ => ⟨p, _, e, h, _, _, rfl, congrArg V.str q_read, _, _, rfl, rfl, rfl⟩
  | .two k a b, v, ⟨p, x, y, e, h, ra, rb⟩ => ⟨p, _, e, h, _, _, rfl, congrArg V.str (kd_word k), _, _, rfl, ra.data, _, _, rfl, rb.data, rfl⟩
  | .pick a b c, v, ⟨p, x, y, z, e, h, ra, rb, rc⟩ => ⟨p, _, e, h, _, _, rfl, congrArg V.str q_pick, _, _, rfl, ra.data, _, _, rfl, rb.data, _, _, rfl, rc.data, rfl⟩
  | .choose a ns, v, ⟨p, x, q, e, h, ra, hq⟩ => ⟨p, _, e, h, _, _, rfl, congrArg V.str q_choose, _, _, rfl, ra.data, _, _, rfl, ⟨q, _, rfl, hq, nms_data H ns⟩, rfl⟩
theorem Nm.tame {s : List Nat} (h : Nm s) : tameS s = true := by
  unfold tameS
  rw [Bool.and_eq_true, decide_eq_true_eq, List.all_eq_true]
  refine ⟨by have := h.2.1; omega, fun c hc => decide_eq_true ?_⟩
  have := h.2.2 c hc
  omega
theorem Nms.flat : ∀ {ns : List (List Nat)}, Th.flatL (nmsTh ns) = true
  | [] => rfl
  | s :: ns => by show (true && Th.flatL (nmsTh ns)) = true; rw [Nms.flat]; rfl
theorem nms_py : ∀ {ns : List (List Nat)}, (∀ s ∈ ns, Nm s) → PyData.canLayAll0 (Th.pyL (nmsTh ns)) = true ∧ PyData.depthAll (Th.pyL (nmsTh ns)) = 0
  | [], _ => ⟨rfl, rfl⟩
  | s :: ns, h => by
    have ih := nms_py (ns := ns) fun x hx => h x (List.mem_cons_of_mem _ hx)
    refine ⟨?_, ?_⟩
    · show ((SX.S s).cps.all (· < 0x110000) && PyData.canLayAll0 (Th.pyL (nmsTh ns))) = true
      rw [ih.1, Bool.and_true]
      have hs := (h s (List.mem_cons_self ..)).2.2
      rw [← Array.all_toList, List.all_eq_true]
      intro c hc
      have := hs c hc
      exact decide_eq_true (by omega)
    · show max 0 (PyData.depthAll (Th.pyL (nmsTh ns))) = 0
      rw [ih.2]
      rfl
theorem Nms.shaped {ns : List (List Nat)} (h : ∀ s ∈ ns, Nm s) : SeqAt.shaped (.list (Th.pyL (nmsTh ns))) = true := by
  rw [shaped_parts, (nms_py h).1, (nms_py h).2]
  exact ⟨rfl, by decide⟩
theorem nms_tame : ∀ {ns : List (List Nat)}, (∀ s ∈ ns, Nm s) → Th.tameL (nmsTh ns) = true
  | [], _ => rfl
  | s :: ns, h => by
    show (tameS s && Th.tameL (nmsTh ns)) = true
    rw [(h s (List.mem_cons_self ..)).tame, nms_tame fun x hx => h x (List.mem_cons_of_mem _ hx)]
    rfl
theorem tame_tup {l : List Th} (h : Th.tameL l = true) (hl : l.length ≤ 1000000) (hn : namesTame l = true) : (Th.tup l).tame = true := by
  show (Th.tameL l && decide (l.length ≤ 1000000) && namesTame l) = true
  rw [h, hn, decide_eq_true hl]
  rfl
theorem namesTame3 {k : List Nat} (hk : k ≠ w_choose) (a b : Th) : namesTame [.str k, a, b] = true := by
  cases b with
  | tup m => show (!decide (k = w_choose) || _) = true; rw [decide_eq_false hk]; rfl
  | _ => rfl
theorem namesTame4 (a b c d : Th) (r : List Th) : namesTame (a :: b :: c :: d :: r) = true := by cases a <;> cases c <;> rfl
theorem namesTame2 (a b : Th) : namesTame [a, b] = true := by cases a <;> rfl
theorem namesTameC {k : List Nat} {m : List Th} (a : Th) (h1 : Th.flatL m = true) (h2 : SeqAt.shaped (.list (Th.pyL m)) = true) : namesTame [.str k, a, .tup m] = true := by
  show (!decide (k = w_choose) || (Th.flatL m && SeqAt.shaped (.list (Th.pyL m)))) = true
  rw [h1, h2]; simp
theorem kd_nochoose (k : Kd) : k.word ≠ w_choose := by cases k <;> decide
theorem nms_names_tame {ns : List (List Nat)} (h : Nms ns) : (Th.tup (nmsTh ns)).tame = true := by
  refine tame_tup (nms_tame h.2.2) ?_ ?_
  · unfold nmsTh; rw [List.length_map]; have := h.2.1; omega
  · match ns with
    | [] => rfl
    | [a] => rfl
    | [a, b] => rfl
    | [a, b, c] => rfl
    | a :: b :: c :: d :: r => rfl
theorem Rcp.tame : ∀ {r : Rcp}, r.Good → r.th.tame = true
  | .num n, _ => tame_tup (by show (tameS w_number && (true && true)) = true; decide) (Nat.le_of_ble_eq_true rfl) rfl
  | .read s, h => tame_tup (by show (tameS w_read && (tameS s && true)) = true; rw [Nm.tame h]; decide) (Nat.le_of_ble_eq_true rfl) rfl
  | .two k a b, h => by
    refine tame_tup ?_ (Nat.le_of_ble_eq_true rfl) (namesTame3 (kd_nochoose k) _ _)
    show (tameS k.word && (a.th.tame && (b.th.tame && true))) = true
    rw [Rcp.tame h.1, Rcp.tame h.2]
    cases k <;> decide
  | .pick a b c, h => by
    refine tame_tup ?_ (Nat.le_of_ble_eq_true rfl) (namesTame4 _ _ _ _ _)
    show (tameS w_pick && (a.th.tame && (b.th.tame && (c.th.tame && true)))) = true
    rw [Rcp.tame h.1, Rcp.tame h.2.1, Rcp.tame h.2.2]
    decide
  | .choose a ns, h => by
    refine tame_tup ?_ (Nat.le_of_ble_eq_true rfl) (namesTameC _ Nms.flat (Nms.shaped h.2.2.2))
    show (tameS w_choose && (a.th.tame && ((Th.tup (nmsTh ns)).tame && true))) = true
    rw [Rcp.tame h.1, nms_names_tame h.2]
    decide
theorem nms_are {ns : List (List Nat)} (h : Nms ns) : (Th.tup (nmsTh ns)).areNms = true := by
  show (decide (1 ≤ (nmsTh ns).length) && decide ((nmsTh ns).length ≤ 9) && (nmsTh ns).all Th.isNm) = true
  have hl : (nmsTh ns).length = ns.length := List.length_map _
  rw [hl, decide_eq_true h.1, decide_eq_true h.2.1]
  show (nmsTh ns).all Th.isNm = true
  rw [List.all_eq_true]
  intro t ht
  obtain ⟨s, hs, rfl⟩ := List.mem_map.mp ht
  exact nmOk_iff.mpr (h.2.2 s hs)
def Rcp.subs : Rcp → List Rcp
  | .num _ => []
  | .read _ => []
  | .two _ a b => [a, b]
  | .pick a b c => [a, b, c]
  | .choose a _ => [a]
theorem Rcp.parts_th : ∀ {r : Rcp}, r.Good → r.th.parts = some (r.subs.map Rcp.th)
  | .num n, _ => (num_parts _ rfl _).1 rfl
  | .read s, h => (read_parts _ (by decide) rfl _).1 (nmOk_iff.mpr h)
  | .two k a b, _ => twos_parts _ (kd_twos k) _ _
  | .pick a b c, _ => pick_parts _ rfl _ _ _
  | .choose a ns, h => (choose_parts _ rfl _ _).1 (nms_are h.2)
theorem Rcp.subs_good : ∀ {r : Rcp}, r.Good → ∀ x ∈ r.subs, x.Good ∧ x.dep + 1 ≤ r.dep
  | .num n, _, x, hx => by cases hx
  | .read s, h, x, hx => by cases hx
  | .two k a b, h, x, hx => by
    have e : (Rcp.two k a b).dep = max a.dep b.dep + 1 := rfl
    simp only [Rcp.subs, List.mem_cons, List.not_mem_nil, or_false] at hx
    rcases hx with rfl | rfl
    · exact ⟨h.1, by omega⟩
    · exact ⟨h.2, by omega⟩
  | .pick a b c, h, x, hx => by
    have e : (Rcp.pick a b c).dep = max a.dep (max b.dep c.dep) + 1 := rfl
    simp only [Rcp.subs, List.mem_cons, List.not_mem_nil, or_false] at hx
    rcases hx with rfl | rfl | rfl
    · exact ⟨h.1, by omega⟩
    · exact ⟨h.2.1, by omega⟩
    · exact ⟨h.2.2, by omega⟩
  | .choose a ns, h, x, hx => by
    have e : (Rcp.choose a ns).dep = a.dep + 1 := rfl
    rw [List.mem_singleton.mp hx]
    exact ⟨h.1, by omega⟩
theorem Rcp.siz_subs : ∀ r : Rcp, r.siz = 1 + (r.subs.map Rcp.siz).sum
  | .num _ => rfl
  | .read _ => rfl
  | .two _ a b => by show a.siz + b.siz + 1 = 1 + (a.siz + (b.siz + 0)); omega
  | .pick a b c => by show a.siz + b.siz + c.siz + 1 = 1 + (a.siz + (b.siz + (c.siz + 0))); omega
  | .choose a _ => by show a.siz + 1 = 1 + (a.siz + 0); omega
theorem Rcp.okay : ∀ (n : Nat) {r : Rcp}, r.Good → r.dep ≤ n → r.th.okay n = true ∧ r.th.count n = r.siz
  | 0, r, _, h => by have := dep_pos r; omega
  | n + 1, r, hg, h => by
    have hp := r.parts_th hg
    have hs := r.subs_good hg
    refine ⟨?_, ?_⟩
    · show (match r.th.parts with | none => false | some ps => ps.all (Th.okay n)) = true
      rw [hp]
      show (r.subs.map Rcp.th).all (Th.okay n) = true
      rw [List.all_map, List.all_eq_true]
      intro x hx
      exact (Rcp.okay n (hs x hx).1 (by have := (hs x hx).2; omega)).1
    · show (match r.th.parts with | none => 1 | some ps => 1 + (ps.map (Th.count n)).sum) = r.siz
      rw [hp, Rcp.siz_subs r]
      show 1 + ((r.subs.map Rcp.th).map (Th.count n)).sum = _
      rw [List.map_map]
      congr 2
      exact List.map_congr_left fun x hx => (Rcp.okay n (hs x hx).1 (by have := (hs x hx).2; omega)).2
theorem Rcp.isRcp {r : Rcp} (hg : r.Good) (hd : r.dep ≤ 8) (hs : r.siz ≤ 100) : r.th.isRcp = true := by
  unfold Th.isRcp
  rw [(Rcp.okay 8 hg hd).1, (Rcp.okay 8 hg hd).2, decide_eq_true hs]
  rfl
theorem Rcp.flat : ∀ r : Rcp, r.th.flat = true
  | .num _ => rfl
  | .read _ => rfl
  | .two _ a b => by
    show (true && (a.th.flat && (b.th.flat && true))) = true
    rw [Rcp.flat a, Rcp.flat b]; rfl
  | .pick a b c => by
    show (true && (a.th.flat && (b.th.flat && (c.th.flat && true)))) = true
    rw [Rcp.flat a, Rcp.flat b, Rcp.flat c]; rfl
  | .choose a ns => by
    show (true && (a.th.flat && (Th.flatL (nmsTh ns) && true))) = true
    rw [Rcp.flat a, Nms.flat]; rfl
theorem nm_lay {s : List Nat} (h : Nm s) : (PyData.str (SX.S s)).canLay0 = true := by
  have := (nms_py (ns := [s]) fun x hx => by rw [List.mem_singleton.mp hx]; exact h).1
  have z : ((PyData.str (SX.S s)).canLay0 && true) = true := this
  rw [Bool.and_true] at z
  exact z
theorem str_lay {s : List Nat} (h : ∀ c ∈ s, c < 128) : (PyData.str (SX.S s)).canLay0 = true := by
  show (SX.S s).cps.all (· < 0x110000) = true
  rw [← Array.all_toList, List.all_eq_true]
  intro c hc
  have := h c hc
  exact decide_eq_true (by omega)
theorem Rcp.lays : ∀ {r : Rcp}, r.Good → r.th.py.canLay0 = true ∧ r.th.py.depth ≤ r.dep
  | .num n, _ => ⟨by show ((PyData.str (SX.S w_number)).canLay0 && ((PyData.int n).canLay0 && true)) = true; rw [str_lay (by decide)]; rfl, by show max 0 (max 0 0) + 1 ≤ 1; decide⟩
  | .read s, h => ⟨by show ((PyData.str (SX.S w_read)).canLay0 && ((PyData.str (SX.S s)).canLay0 && true)) = true; rw [nm_lay h, str_lay (s := w_read) (by decide)]; rfl, by show max 0 (max 0 0) + 1 ≤ 1; decide⟩
  | .two k a b, h => by
    have h1 := Rcp.lays h.1
    have h2 := Rcp.lays h.2
    refine ⟨?_, ?_⟩
    · show ((PyData.str (SX.S k.word)).canLay0 && (a.th.py.canLay0 && (b.th.py.canLay0 && true))) = true
      rw [h1.1, h2.1, str_lay (s := k.word) (by cases k <;> decide)]
      rfl
    · show max 0 (max a.th.py.depth (max b.th.py.depth 0)) + 1 ≤ max a.dep b.dep + 1
      omega
  | .pick a b c, h => by
    have h1 := Rcp.lays h.1
    have h2 := Rcp.lays h.2.1
    have h3 := Rcp.lays h.2.2
    refine ⟨?_, ?_⟩
    · show ((PyData.str (SX.S w_pick)).canLay0 && (a.th.py.canLay0 && (b.th.py.canLay0 && (c.th.py.canLay0 && true)))) = true
      rw [h1.1, h2.1, h3.1, str_lay (s := w_pick) (by decide)]
      rfl
    · show max 0 (max a.th.py.depth (max b.th.py.depth (max c.th.py.depth 0))) + 1 ≤ max a.dep (max b.dep c.dep) + 1
      omega
  | .choose a ns, h => by
    have h1 := Rcp.lays h.1
    have h2 := nms_py h.2.2.2
    have h3 := dep_pos a
    refine ⟨?_, ?_⟩
    · show ((PyData.str (SX.S w_choose)).canLay0 && (a.th.py.canLay0 && (PyData.canLayAll0 (Th.pyL (nmsTh ns)) && true))) = true
      rw [h1.1, h2.1, str_lay (s := w_choose) (by decide)]
      rfl
    · show max 0 (max a.th.py.depth (max (PyData.depthAll (Th.pyL (nmsTh ns)) + 1) 0)) + 1 ≤ a.dep + 1
      rw [h2.2]
      omega
theorem Rcp.shaped {r : Rcp} (hg : r.Good) (hd : r.dep ≤ 60) : SeqAt.shaped r.th.py = true := by
  have h := Rcp.lays hg
  show (r.th.py.canLay0 && decide (r.th.py.depth ≤ 64)) = true
  rw [h.1, decide_eq_true (by omega)]
  rfl
theorem Rcp.eqv {r : Rcp} (hg : r.Good) : PyData.eqv r.th.py r.th.py = true := SeqAt.eqv_refl _ (Rcp.lays hg).1
/-! ### rows of pairs -/
/-- rows of a name and a number each -/
def Prs (H : Hp) : List (List Nat × Int) → List V → Prop
  | [], [] => True
  | p :: ps, v :: vs => (∃ t, v = .ref t ∧ H t = some (.tup [.str (SX.S p.1), .int p.2])) ∧ Prs H ps vs
  | _, _ => False
theorem Prs.same {H H' : Hp} (k : Same H H') : ∀ {ps : List (List Nat × Int)} {vs : List V}, Prs H ps vs → Prs H' ps vs
  | [], [], _ => trivial
  | _ :: _, _ :: _, ⟨⟨t, e, ht⟩, h⟩ => ⟨⟨t, e, k _ _ ht⟩, Prs.same k h⟩
  | [], _ :: _, h => h.elim
  | _ :: _, [], h => h.elim
theorem Prs.keep {H H' : Hp} (k : Keep H H') : ∀ {ps : List (List Nat × Int)} {vs : List V}, Prs H ps vs → Prs H' ps vs
  | [], [], _ => trivial
  | _ :: _, _ :: _, ⟨⟨t, e, ht⟩, h⟩ => ⟨⟨t, e, k _ _ ht⟩, Prs.keep k h⟩
  | [], _ :: _, h => h.elim
  | _ :: _, [], h => h.elim
theorem Prs.len {H : Hp} : ∀ {ps : List (List Nat × Int)} {vs : List V}, Prs H ps vs → vs.length = ps.length
  | [], [], _ => rfl
  | _ :: _, _ :: _, h => congrArg (· + 1) (Prs.len h.2)
  | [], _ :: _, h => h.elim
  | _ :: _, [], h => h.elim
theorem Prs.at {H : Hp} : ∀ {ps : List (List Nat × Int)} {vs : List V} {i : Nat} {v : V}, Prs H ps vs → vs[i]? = some v → ∃ p t, ps[i]? = some p ∧ v = .ref t ∧ H t = some (.tup [.str (SX.S p.1), .int p.2])
  | [], [], i, v, _, e => by simp at e
  | p :: _, _ :: _, 0, v, h, e => by
    obtain ⟨⟨t, e1, ht⟩, _⟩ := h
    exact ⟨p, t, rfl, (Option.some.inj e).symm.trans e1, ht⟩
  | _ :: _, _ :: _, i + 1, v, h, e => Prs.at (i := i) h.2 (by simpa using e)
  | [], _ :: _, _, _, h, _ => h.elim
  | _ :: _, [], _, _, h, _ => h.elim
theorem Prs.snoc {H : Hp} {p : List Nat × Int} {t : Addr} (ht : H t = some (.tup [.str (SX.S p.1), .int p.2])) : ∀ {ps : List (List Nat × Int)} {vs : List V}, Prs H ps vs → Prs H (ps ++ [p]) (vs ++ [.ref t])
  | [], [], _ => ⟨⟨t, rfl, ht⟩, trivial⟩
  | _ :: _, _ :: _, h => ⟨h.1, Prs.snoc ht h.2⟩
  | [], _ :: _, h => h.elim
  | _ :: _, [], h => h.elim
theorem Prs.drop {H : Hp} : ∀ (n : Nat) {ps : List (List Nat × Int)} {vs : List V}, Prs H ps vs → Prs H (ps.drop n) (vs.drop n)
  | 0, _, _, h => h
  | _ + 1, [], [], h => h
  | n + 1, _ :: _, _ :: _, h => Prs.drop n h.2
  | _ + 1, [], _ :: _, h => h.elim
  | _ + 1, _ :: _, [], h => h.elim
theorem Prs.take {H : Hp} : ∀ (n : Nat) {ps : List (List Nat × Int)} {vs : List V}, Prs H ps vs → Prs H (ps.take n) (vs.take n)
  | 0, _, _, _ => trivial
  | _ + 1, [], [], h => h
  | n + 1, _ :: _, _ :: _, h => ⟨h.1, Prs.take n h.2⟩
  | _ + 1, [], _ :: _, h => h.elim
  | _ + 1, _ :: _, [], h => h.elim
/-! ### a recipe gone through with the numbers read: plain facts -/
abbrev Pr := List Nat × Int
inductive Res where
  | ok (v : Int) (n : Nat)
  | lack (s : List Nat)
  | bad
inductive Out where
  | read (s : List Nat)
  | worth (v : Int)
  | none
def Kd.ap : Kd → Int → Int → Int
  | .plus, a, b => a + b
  | .minus, a, b => a - b
  | .times, a, b => a * b
  | .most, a, b => if b > a then b else a
def seen (l : List Pr) (s : List Nat) : Option Int := (l.find? fun p => decide (p.1 = s)).map (·.2)
def lookG (rd : List Pr) (n : Nat) (s : List Nat) : Res :=
  match seen (rd.take n) s with
  | some v => .ok v n
  | none => match rd[n]? with
    | none => .lack s
    | some p => if p.1 = s then .ok p.2 (n + 1) else .bad
def Res.bind (r : Res) (f : Int → Nat → Res) : Res := match r with
  | .ok v n => f v n
  | .lack s => .lack s
  | .bad => .bad
def nthN (ns : List (List Nat)) (x : Int) : List Nat := ns.getD (x % (ns.length : Int)).toNat []
def go (rd : List Pr) : Rcp → Nat → Res
  | .num v, n => .ok v n
  | .read s, n => lookG rd n s
  | .two k a b, n => (go rd a n).bind fun x m => (go rd b m).bind fun y l => .ok (k.ap x y) l
  | .pick a b c, n => (go rd a n).bind fun x m => if x > 0 then go rd b m else go rd c m
  | .choose a ns, n => (go rd a n).bind fun x m => lookG rd m (nthN ns x)
def outOf (rd : List Pr) (r : Rcp) : Out := match go rd r 0 with
  | .ok v n => if n < rd.length then .none else .worth v
  | .lack s => .read s
  | .bad => .none
/-- names fine, numbers below 2 ^ 400 -/
def Rcp.Nb : Rcp → Prop
  | .num v => v.natAbs < 2 ^ 400
  | .read s => Nm s
  | .two _ a b => a.Nb ∧ b.Nb
  | .pick a b c => a.Nb ∧ b.Nb ∧ c.Nb
  | .choose a ns => a.Nb ∧ Nms ns
theorem nth_mem {ns : List (List Nat)} (h : 1 ≤ ns.length) (x : Int) : ∃ i : Nat, x % (ns.length : Int) = (i : Int) ∧ ns[i]? = some (nthN ns x) := by
  have h0 : 0 ≤ x % (ns.length : Int) := Int.emod_nonneg _ (by omega)
  have h1 : x % (ns.length : Int) < ns.length := Int.emod_lt_of_pos _ (by omega)
  refine ⟨(x % (ns.length : Int)).toNat, by omega, ?_⟩
  have hi : (x % (ns.length : Int)).toNat < ns.length := by omega
  unfold nthN
  rw [List.getD_eq_getElem?_getD, List.getElem?_eq_getElem hi]
  rfl
theorem seen_mem {l : List Pr} {s : List Nat} {v : Int} (h : seen l s = some v) : (s, v) ∈ l := by
  unfold seen at h
  cases e : l.find? fun p => decide (p.1 = s) with
  | none => rw [e] at h; cases h
  | some p =>
    rw [e] at h
    have h1 := List.mem_of_find?_eq_some e
    have h2 : p.1 = s := by
      have := List.find?_some e
      exact of_decide_eq_true this
    have h3 : p.2 = v := Option.some.inj h
    rw [← h2, ← h3]
    exact h1
theorem seen_none {l : List Pr} {s : List Nat} (h : seen l s = none) : ¬ s ∈ l.map (·.1) := fun z => by
  obtain ⟨p, hp, e⟩ := List.mem_map.mp z
  unfold seen at h
  rw [Option.map_eq_none_iff, List.find?_eq_none] at h
  exact h p hp (decide_eq_true e)
theorem seen_not {l : List Pr} {s : List Nat} (h : ¬ s ∈ l.map (·.1)) : seen l s = none := by
  unfold seen
  rw [Option.map_eq_none_iff, List.find?_eq_none]
  exact fun p hp e => h (List.mem_map.mpr ⟨p, hp, of_decide_eq_true e⟩)
theorem seen_cons (p : Pr) (l : List Pr) (s : List Nat) : seen (p :: l) s = if p.1 = s then some p.2 else seen l s := by
  unfold seen
  rw [List.find?_cons]
  by_cases c : p.1 = s
  · rw [if_pos c, decide_eq_true c]
    rfl
  · rw [if_neg c, decide_eq_false c]
theorem lookG_seen {rd : List Pr} {n : Nat} {s : List Nat} {v : Int} (e : seen (rd.take n) s = some v) : lookG rd n s = .ok v n := by unfold lookG; rw [e]
theorem lookG_last {rd : List Pr} {n : Nat} {s : List Nat} (e : seen (rd.take n) s = none) (e2 : rd[n]? = none) : lookG rd n s = .lack s := by unfold lookG; rw [e, e2]
theorem lookG_right {rd : List Pr} {n : Nat} {s : List Nat} {p : Pr} (e : seen (rd.take n) s = none) (e2 : rd[n]? = some p) (c : p.1 = s) : lookG rd n s = .ok p.2 (n + 1) := by unfold lookG; rw [e, e2]; exact if_pos c
theorem lookG_bad {rd : List Pr} {n : Nat} {s : List Nat} {p : Pr} (e : seen (rd.take n) s = none) (e2 : rd[n]? = some p) (c : ¬ p.1 = s) : lookG rd n s = .bad := by unfold lookG; rw [e, e2]; exact if_neg c
/-! #### the walk goes ahead, and no number grows too great -/
theorem lookG_ok {rd : List Pr} {n m : Nat} {s : List Nat} {v : Int} (hn : n ≤ rd.length) (h : lookG rd n s = .ok v m) : n ≤ m ∧ m ≤ rd.length ∧ (s, v) ∈ rd := by
  unfold lookG at h
  cases e : seen (rd.take n) s with
  | some w =>
    rw [e] at h
    cases h
    exact ⟨Nat.le_refl _, hn, List.mem_of_mem_take (seen_mem e)⟩
  | none =>
    rw [e] at h
    cases e2 : rd[n]? with
    | none => rw [e2] at h; cases h
    | some p =>
      rw [e2] at h
      by_cases c : p.1 = s
      · have h' : Res.ok p.2 (n + 1) = .ok v m := by have := h; simp only [if_pos c] at this; exact this
        cases h'
        have := (List.getElem?_eq_some_iff.mp e2).1
        exact ⟨Nat.le_succ _, this, by rw [← c]; exact List.mem_of_getElem? e2⟩
      · simp only [if_neg c] at h
        cases h
theorem bind_ok {r : Res} {f : Int → Nat → Res} {v : Int} {m : Nat} (h : r.bind f = .ok v m) : ∃ x l, r = .ok x l ∧ f x l = .ok v m := by
  cases r with
  | ok x l => exact ⟨x, l, rfl, h⟩
  | lack s => cases h
  | bad => cases h
theorem ap_small {k : Kd} {x y : Int} {e : Nat} (h1 : 1 ≤ e) (hx : x.natAbs < 2 ^ e) (hy : y.natAbs < 2 ^ e) : (k.ap x y).natAbs < 2 ^ (e + e) := by
  have hs : 2 ^ e + 2 ^ e ≤ 2 ^ (e + e) := by
    have h2 : 2 ^ e * 2 ≤ 2 ^ e * 2 ^ e := Nat.mul_le_mul_left _ (by
      have := Nat.pow_le_pow_right (show 0 < 2 by decide) h1
      simpa using this)
    rw [Nat.pow_add]
    omega
  cases k with
  | plus => show (x + y).natAbs < _; omega
  | minus => show (x - y).natAbs < _; omega
  | times =>
    show (x * y).natAbs < _
    rw [Int.natAbs_mul, Nat.pow_add]
    exact Nat.mul_lt_mul'' hx hy
  | most =>
    show (if y > x then y else x).natAbs < _
    split <;> omega
theorem go_ok {rd : List Pr} (hrd : ∀ p ∈ rd, p.2.natAbs < 2 ^ 400) : ∀ {r : Rcp} {n m : Nat} {v : Int}, r.Nb → n ≤ rd.length → go rd r n = .ok v m → n ≤ m ∧ m ≤ rd.length ∧ v.natAbs < 2 ^ (400 * 2 ^ r.dep)
  | .num w, n, m, v, hb, hn, h => by
    cases h
    exact ⟨Nat.le_refl _, hn, Nat.lt_of_lt_of_le hb (Nat.pow_le_pow_right (by decide) (by show 400 ≤ 400 * 2 ^ 1; decide))⟩
  | .read s, n, m, v, hb, hn, h => by
    obtain ⟨h1, h2, h3⟩ := lookG_ok hn h
    exact ⟨h1, h2, Nat.lt_of_lt_of_le (hrd _ h3) (Nat.pow_le_pow_right (by decide) (by show 400 ≤ 400 * 2 ^ 1; decide))⟩
  | .two k a b, n, m, v, hb, hn, h => by
    obtain ⟨x, l, ha, h2⟩ := bind_ok h
    obtain ⟨y, l2, hbb, h3⟩ := bind_ok h2
    cases h3
    obtain ⟨a1, a2, a3⟩ := go_ok hrd hb.1 hn ha
    obtain ⟨b1, b2, b3⟩ := go_ok hrd hb.2 a2 hbb
    have hx : x.natAbs < 2 ^ (400 * 2 ^ max a.dep b.dep) := Nat.lt_of_lt_of_le a3 (Nat.pow_le_pow_right (by decide) (Nat.mul_le_mul_left _ (Nat.pow_le_pow_right (by decide) (Nat.le_max_left ..))))
    have hy : y.natAbs < 2 ^ (400 * 2 ^ max a.dep b.dep) := Nat.lt_of_lt_of_le b3 (Nat.pow_le_pow_right (by decide) (Nat.mul_le_mul_left _ (Nat.pow_le_pow_right (by decide) (Nat.le_max_right ..))))
    have hp : 1 ≤ 2 ^ max a.dep b.dep := Nat.one_le_two_pow
    have := ap_small (k := k) (by omega) hx hy
    refine ⟨Nat.le_trans a1 b1, b2, ?_⟩
    show _ < 2 ^ (400 * 2 ^ (max a.dep b.dep + 1))
    rw [show 400 * 2 ^ (max a.dep b.dep + 1) = 400 * 2 ^ max a.dep b.dep + 400 * 2 ^ max a.dep b.dep by rw [Nat.pow_succ]; omega]
    exact this
  | .pick a b c, n, m, v, hb, hn, h => by
    obtain ⟨x, l, ha, h2⟩ := bind_ok h
    obtain ⟨a1, a2, a3⟩ := go_ok hrd hb.1 hn ha
    have mono : ∀ d, d ≤ (Rcp.pick a b c).dep → ∀ z : Int, z.natAbs < 2 ^ (400 * 2 ^ d) → z.natAbs < 2 ^ (400 * 2 ^ (Rcp.pick a b c).dep) := fun d hd z hz => Nat.lt_of_lt_of_le hz (Nat.pow_le_pow_right (by decide) (Nat.mul_le_mul_left _ (Nat.pow_le_pow_right (by decide) hd)))
    have e : (Rcp.pick a b c).dep = max a.dep (max b.dep c.dep) + 1 := rfl
    by_cases hx : x > 0
    · simp only [if_pos hx] at h2
      obtain ⟨b1, b2, b3⟩ := go_ok hrd hb.2.1 a2 h2
      exact ⟨Nat.le_trans a1 b1, b2, mono b.dep (by omega) _ b3⟩
    · simp only [if_neg hx] at h2
      obtain ⟨b1, b2, b3⟩ := go_ok hrd hb.2.2 a2 h2
      exact ⟨Nat.le_trans a1 b1, b2, mono c.dep (by omega) _ b3⟩
  | .choose a ns, n, m, v, hb, hn, h => by
    obtain ⟨x, l, ha, h2⟩ := bind_ok h
    obtain ⟨a1, a2, a3⟩ := go_ok hrd hb.1 hn ha
    obtain ⟨h4, h5, h6⟩ := lookG_ok a2 h2
    have hp : 1 ≤ 2 ^ (Rcp.choose a ns).dep := Nat.one_le_two_pow
    exact ⟨Nat.le_trans a1 h4, h5, Nat.lt_of_lt_of_le (hrd _ h6) (Nat.pow_le_pow_right (by decide) (by omega))⟩
/-! #### one more read behind the reads that were all looked for -/
theorem lookG_lack {rd : List Pr} {n : Nat} {s t : List Nat} (hn : n ≤ rd.length) (h : lookG rd n s = .lack t) : n = rd.length ∧ s = t ∧ seen rd s = none := by
  unfold lookG at h
  cases e : seen (rd.take n) s with
  | some w => rw [e] at h; cases h
  | none =>
    rw [e] at h
    cases e2 : rd[n]? with
    | none =>
      rw [e2] at h
      cases h
      have hl := List.getElem?_eq_none_iff.mp e2
      have : n = rd.length := by omega
      rw [this, List.take_length] at e
      exact ⟨this, rfl, e⟩
    | some p =>
      rw [e2] at h
      by_cases c : p.1 = s
      · simp only [if_pos c] at h; cases h
      · simp only [if_neg c] at h; cases h
theorem lookG_more {rd : List Pr} {n m : Nat} {s : List Nat} {v : Int} (q : Pr) (hn : n ≤ rd.length) (h : lookG rd n s = .ok v m) : lookG (rd ++ [q]) n s = .ok v m := by
  unfold lookG at h ⊢
  rw [List.take_append_of_le_length hn]
  cases e : seen (rd.take n) s with
  | some w => rw [e] at h; exact h
  | none =>
    rw [e] at h
    cases e2 : rd[n]? with
    | none => rw [e2] at h; cases h
    | some p =>
      rw [e2] at h
      have hl := (List.getElem?_eq_some_iff.mp e2).1
      rw [List.getElem?_append_left hl, e2]
      exact h
/-- with all reads gone, nothing is bad -/
theorem lookG_end {rd : List Pr} {s : List Nat} : (∃ v, lookG rd rd.length s = .ok v rd.length) ∨ lookG rd rd.length s = .lack s := by
  unfold lookG
  rw [List.take_length]
  cases e : seen rd s with
  | some w => exact .inl ⟨w, rfl⟩
  | none =>
    rw [List.getElem?_eq_none (Nat.le_refl _)]
    exact .inr rfl
theorem go_end {rd : List Pr} : ∀ {r : Rcp}, (∃ v, go rd r rd.length = .ok v rd.length) ∨ ∃ s, go rd r rd.length = .lack s
  | .num v => .inl ⟨v, rfl⟩
  | .read s => lookG_end.elim .inl fun h => .inr ⟨s, h⟩
  | .two k a b => by
    rcases go_end (rd := rd) (r := a) with ⟨x, hx⟩ | ⟨s, hs⟩
    · rcases go_end (rd := rd) (r := b) with ⟨y, hy⟩ | ⟨s, hs⟩
      · exact .inl ⟨k.ap x y, by unfold go; rw [hx]; show (go rd b rd.length).bind _ = _; rw [hy]; rfl⟩
      · exact .inr ⟨s, by unfold go; rw [hx]; show (go rd b rd.length).bind _ = _; rw [hs]; rfl⟩
    · exact .inr ⟨s, by unfold go; rw [hs]; rfl⟩
  | .pick a b c => by
    rcases go_end (rd := rd) (r := a) with ⟨x, hx⟩ | ⟨s, hs⟩
    · by_cases c0 : x > 0
      · rcases go_end (rd := rd) (r := b) with ⟨y, hy⟩ | ⟨s, hs⟩
        · exact .inl ⟨y, by unfold go; rw [hx]; show (if x > 0 then _ else _) = _; rw [if_pos c0, hy]⟩
        · exact .inr ⟨s, by unfold go; rw [hx]; show (if x > 0 then _ else _) = _; rw [if_pos c0, hs]⟩
      · rcases go_end (rd := rd) (r := c) with ⟨y, hy⟩ | ⟨s, hs⟩
        · exact .inl ⟨y, by unfold go; rw [hx]; show (if x > 0 then _ else _) = _; rw [if_neg c0, hy]⟩
        · exact .inr ⟨s, by unfold go; rw [hx]; show (if x > 0 then _ else _) = _; rw [if_neg c0, hs]⟩
    · exact .inr ⟨s, by unfold go; rw [hs]; rfl⟩
  | .choose a ns => by
    rcases go_end (rd := rd) (r := a) with ⟨x, hx⟩ | ⟨s, hs⟩
    · rcases lookG_end (rd := rd) (s := nthN ns x) with ⟨v, hv⟩ | hl
      · exact .inl ⟨v, by unfold go; rw [hx]; exact hv⟩
      · exact .inr ⟨_, by unfold go; rw [hx]; exact hl⟩
    · exact .inr ⟨s, by unfold go; rw [hs]; rfl⟩
theorem go_more {rd : List Pr} (q : Pr) : ∀ {r : Rcp} {n m : Nat} {v : Int}, n ≤ rd.length → go rd r n = .ok v m → go (rd ++ [q]) r n = .ok v m ∧ m ≤ rd.length
  | .num w, n, m, v, hn, h => by cases h; exact ⟨rfl, hn⟩
  | .read s, n, m, v, hn, h => ⟨lookG_more q hn h, (lookG_ok hn h).2.1⟩
  | .two k a b, n, m, v, hn, h => by
    obtain ⟨x, l, ha, h2⟩ := bind_ok h
    obtain ⟨y, l2, hb, h3⟩ := bind_ok h2
    cases h3
    obtain ⟨a1, a2⟩ := go_more q hn ha
    obtain ⟨b1, b2⟩ := go_more q a2 hb
    refine ⟨?_, b2⟩
    unfold go
    rw [a1]
    show (go (rd ++ [q]) b l).bind _ = _
    rw [b1]
    rfl
  | .pick a b c, n, m, v, hn, h => by
    obtain ⟨x, l, ha, h2⟩ := bind_ok h
    obtain ⟨a1, a2⟩ := go_more q hn ha
    unfold go
    rw [a1]
    show (if x > 0 then _ else _) = _ ∧ _
    by_cases c0 : x > 0
    · simp only [if_pos c0] at h2
      rw [if_pos c0]
      exact go_more q a2 h2
    · simp only [if_neg c0] at h2
      rw [if_neg c0]
      exact go_more q a2 h2
  | .choose a ns, n, m, v, hn, h => by
    obtain ⟨x, l, ha, h2⟩ := bind_ok h
    obtain ⟨a1, a2⟩ := go_more q hn ha
    unfold go
    rw [a1]
    exact ⟨lookG_more q a2 h2, (lookG_ok a2 h2).2.1⟩
theorem bind_lack {r : Res} {f : Int → Nat → Res} {s : List Nat} (h : r.bind f = .lack s) : r = .lack s ∨ ∃ x l, r = .ok x l ∧ f x l = .lack s := by
  cases r with
  | ok x l => exact .inr ⟨x, l, rfl, h⟩
  | lack s' => exact .inl h
  | bad => cases h
/-- where s lacked: with s read it comes to the end of the reads, or lacks another one -/
def Fine (rd : List Pr) (r : Res) : Prop := (∃ v, r = .ok v rd.length) ∨ ∃ s, r = .lack s
theorem look_next {rd : List Pr} {n : Nat} {s t : List Nat} (w : Int) (hn : n ≤ rd.length) (h : lookG rd n t = .lack s) : lookG (rd ++ [(s, w)]) n t = .ok w (rd ++ [(s, w)]).length := by
  obtain ⟨rfl, rfl, e⟩ := lookG_lack hn h
  unfold lookG
  rw [List.take_append_of_le_length (Nat.le_refl _), List.take_length, e, List.getElem?_append_right (Nat.le_refl _), Nat.sub_self]
  show (if t = t then Res.ok w (rd.length + 1) else .bad) = _
  rw [if_pos rfl, List.length_append]
  rfl
theorem go_next {rd : List Pr} {s : List Nat} (w : Int) : ∀ {r : Rcp} {n : Nat}, n ≤ rd.length → go rd r n = .lack s → Fine (rd ++ [(s, w)]) (go (rd ++ [(s, w)]) r n)
  | .num v, n, hn, h => by cases h
  | .read t, n, hn, h => .inl ⟨w, look_next w hn h⟩
  | .two k a b, n, hn, h => by
    rcases bind_lack h with ha | ⟨x, l, ha, h2⟩
    · rcases go_next w hn ha with ⟨v, hv⟩ | ⟨t, ht⟩
      · unfold go
        rw [hv]
        show Fine _ ((go (rd ++ [(s, w)]) b (rd ++ [(s, w)]).length).bind _)
        rcases go_end (rd := rd ++ [(s, w)]) (r := b) with ⟨y, hy⟩ | ⟨t, ht⟩
        · rw [hy]; exact .inl ⟨_, rfl⟩
        · rw [ht]; exact .inr ⟨_, rfl⟩
      · unfold go
        rw [ht]
        exact .inr ⟨_, rfl⟩
    · obtain ⟨a1, a2⟩ := go_more (s, w) hn ha
      unfold go
      rw [a1]
      show Fine _ ((go (rd ++ [(s, w)]) b l).bind _)
      rcases bind_lack h2 with hb | ⟨y, l2, hb, h3⟩
      · rcases go_next w a2 hb with ⟨v, hv⟩ | ⟨t, ht⟩
        · rw [hv]; exact .inl ⟨_, rfl⟩
        · rw [ht]; exact .inr ⟨_, rfl⟩
      · cases h3
  | .pick a b c, n, hn, h => by
    rcases bind_lack h with ha | ⟨x, l, ha, h2⟩
    · rcases go_next w hn ha with ⟨v, hv⟩ | ⟨t, ht⟩
      · unfold go
        rw [hv]
        show Fine _ (if v > 0 then go _ b _ else go _ c _)
        split
        · exact go_end
        · exact go_end
      · unfold go
        rw [ht]
        exact .inr ⟨_, rfl⟩
    · obtain ⟨a1, a2⟩ := go_more (s, w) hn ha
      unfold go
      rw [a1]
      show Fine _ (if x > 0 then go _ b _ else go _ c _)
      by_cases c0 : x > 0
      · simp only [if_pos c0] at h2
        rw [if_pos c0]
        exact go_next w a2 h2
      · simp only [if_neg c0] at h2
        rw [if_neg c0]
        exact go_next w a2 h2
  | .choose a ns, n, hn, h => by
    rcases bind_lack h with ha | ⟨x, l, ha, h2⟩
    · rcases go_next w hn ha with ⟨v, hv⟩ | ⟨t, ht⟩
      · unfold go
        rw [hv]
        exact lookG_end.elim .inl fun h => .inr ⟨_, h⟩
      · unfold go
        rw [ht]
        exact .inr ⟨_, rfl⟩
    · obtain ⟨a1, a2⟩ := go_more (s, w) hn ha
      unfold go
      rw [a1]
      exact .inl ⟨w, look_next w a2 h2⟩
/-- the names that a recipe may look for -/
def Rcp.nms : Rcp → List (List Nat)
  | .num _ => []
  | .read s => [s]
  | .two _ a b => a.nms ++ b.nms
  | .pick a b c => a.nms ++ (b.nms ++ c.nms)
  | .choose a ns => a.nms ++ ns
theorem go_name {rd : List Pr} {s : List Nat} : ∀ {r : Rcp} {n : Nat}, r.Nb → n ≤ rd.length → go rd r n = .lack s → s ∈ r.nms ∧ seen rd s = none
  | .num v, n, hb, hn, h => by cases h
  | .read t, n, hb, hn, h => by
    obtain ⟨_, e, e2⟩ := lookG_lack hn h
    exact ⟨by rw [← e]; exact List.mem_singleton.mpr rfl, by rw [← e]; exact e2⟩
  | .two k a b, n, hb, hn, h => by
    rcases bind_lack h with ha | ⟨x, l, ha, h2⟩
    · obtain ⟨h1, h2⟩ := go_name hb.1 hn ha
      exact ⟨List.mem_append_left _ h1, h2⟩
    · rcases bind_lack h2 with hbb | ⟨y, l2, hbb, h3⟩
      · obtain ⟨h1, h2⟩ := go_name hb.2 (go_more (s, 0) hn ha).2 hbb
        exact ⟨List.mem_append_right _ h1, h2⟩
      · cases h3
  | .pick a b c, n, hb, hn, h => by
    rcases bind_lack h with ha | ⟨x, l, ha, h2⟩
    · obtain ⟨h1, h2⟩ := go_name hb.1 hn ha
      exact ⟨List.mem_append_left _ h1, h2⟩
    · have hl := (go_more (s, 0) hn ha).2
      by_cases c0 : x > 0
      · simp only [if_pos c0] at h2
        obtain ⟨h1, h2⟩ := go_name hb.2.1 hl h2
        exact ⟨List.mem_append_right _ (List.mem_append_left _ h1), h2⟩
      · simp only [if_neg c0] at h2
        obtain ⟨h1, h2⟩ := go_name hb.2.2 hl h2
        exact ⟨List.mem_append_right _ (List.mem_append_right _ h1), h2⟩
  | .choose a ns, n, hb, hn, h => by
    rcases bind_lack h with ha | ⟨x, l, ha, h2⟩
    · obtain ⟨h1, h2⟩ := go_name hb.1 hn ha
      exact ⟨List.mem_append_left _ h1, h2⟩
    · obtain ⟨_, e, e2⟩ := lookG_lack (go_more (s, 0) hn ha).2 h2
      obtain ⟨i, _, hi⟩ := nth_mem hb.2.1 x
      exact ⟨List.mem_append_right _ (by rw [← e]; exact List.mem_of_getElem? hi), by rw [← e]; exact e2⟩
theorem nms_ok : ∀ {r : Rcp}, r.Nb → ∀ s ∈ r.nms, Nm s
  | .num _, _, s, h => nomatch h
  | .read t, hb, s, h => by rw [List.mem_singleton.mp h]; exact hb
  | .two _ a b, hb, s, h => (List.mem_append.mp h).elim (nms_ok hb.1 s) (nms_ok hb.2 s)
  | .pick a b c, hb, s, h => (List.mem_append.mp h).elim (nms_ok hb.1 s) fun h => (List.mem_append.mp h).elim (nms_ok hb.2.1 s) (nms_ok hb.2.2 s)
  | .choose a ns, hb, s, h => (List.mem_append.mp h).elim (nms_ok hb.1 s) (hb.2.2.2 s)
/-! ### rows of pairs as data -/
def pairTh (p : List Nat × Int) : Th := .tup [.str p.1, .int p.2]
theorem Prs.data {H : Hp} : ∀ {ps : List (List Nat × Int)} {vs : List V}, Prs H ps vs → DataL H (ps.map pairTh) vs
  | [], [], _ => rfl
  | _ :: _, _ :: _, ⟨⟨t, e, ht⟩, h⟩ => ⟨_, _, rfl, ⟨t, _, e, ht, _, _, rfl, rfl, _, _, rfl, rfl, rfl⟩, Prs.data h⟩
  | [], _ :: _, h => h.elim
  | _ :: _, [], h => h.elim
theorem prs_flat : ∀ ps : List (List Nat × Int), Th.flatL (ps.map pairTh) = true
  | [] => rfl
  | p :: ps => by
    show ((pairTh p).flat && Th.flatL (ps.map pairTh)) = true
    rw [prs_flat ps]
    rfl
theorem prs_lay : ∀ {ps : List (List Nat × Int)}, (∀ p ∈ ps, Nm p.1) → PyData.canLayAll0 (Th.pyL (ps.map pairTh)) = true ∧ PyData.depthAll (Th.pyL (ps.map pairTh)) ≤ 1
  | [], _ => ⟨rfl, Nat.zero_le _⟩
  | p :: ps, h => by
    obtain ⟨h1, h2⟩ := prs_lay fun q hq => h q (List.mem_cons_of_mem _ hq)
    have h3 := nm_lay (h p (List.mem_cons_self ..))
    refine ⟨?_, ?_⟩
    · show (((PyData.str (SX.S p.1)).canLay0 && ((PyData.int p.2).canLay0 && true)) && PyData.canLayAll0 (Th.pyL (ps.map pairTh))) = true
      rw [h1, h3]
      rfl
    · show max (max 0 (max 0 0) + 1) (PyData.depthAll (Th.pyL (ps.map pairTh))) ≤ 1
      omega
theorem prs_shaped {ps : List (List Nat × Int)} (h : ∀ p ∈ ps, Nm p.1) : SeqAt.shaped (.list (Th.pyL (ps.map pairTh))) = true := by
  obtain ⟨h1, h2⟩ := prs_lay h
  show (PyData.canLayAll0 (Th.pyL (ps.map pairTh)) && decide (PyData.depthAll (Th.pyL (ps.map pairTh)) + 1 ≤ 64)) = true
  rw [h1, decide_eq_true (by omega)]
  rfl
/-- names and numbers as a dict holds them -/
def kT (s : Str) : Key := Sum.inr s
def numsK (ps : List (List Nat × Int)) : List (Key × V) := ps.map fun p => (kT (SX.S p.1), .int p.2)
theorem kS_inj {a b : List Nat} (h : kT (SX.S a) = kT (SX.S b)) : a = b := by
  have e2 : SX.S a = SX.S b := Sum.inr.inj h
  exact beq_iff_eq.mp (by rw [← SX.S_beq]; exact beq_iff_eq.mpr e2)
theorem sne {a b : Str} (h : decide (a = b) = false) : ¬ V.str a = V.str b := fun z => (of_decide_eq_false h) (V.str.inj z)
theorem strS_inj {a b : List Nat} (h : V.str (SX.S a) = V.str (SX.S b)) : a = b := beq_iff_eq.mp (by rw [← SX.S_beq]; exact beq_iff_eq.mpr (V.str.inj h))
end Mad
/-! ### try .. except X as n, where the caught error is tracked behind the suite -/
namespace L2
open PySem PySem.Spec PyProof.Rows
def EzO (cls : Value) (d : Option Addr) (a : Addr) : HO := .ext fun h =>
  ∃ (oe : Obj) (vs : Array Value), h.get? a = some oe ∧ Zc cls d oe ∧
    oe.data = .fields vs
theorem ezO_ok {P : Program} {w : World} {H : Hp} {h : Heap} {a : Addr} {cls : Value} {d : Option Addr} {oe : Obj} {vs : Array Value}
    (e : h.get? a = some oe) (z : Zc cls d oe) (k : oe.data = .fields vs) : ObjOk P w H h a (EzO cls d a) :=
  ⟨⟨oe, vs, e, z, k⟩, ⟨oe, e⟩, fun _ _ y r => by
    obtain ⟨o, v, q, t⟩ := y
    exact ⟨o, v, r o q, t⟩⟩
section
variable {X : Cx} {pins : List (Addr × Obj)} {σ : St} {H : Hp} {B : Heap} {sI s' : Shared}
theorem Inv.landedT {a : Addr} {o : HO} (I : Inv X pins σ H sI) (nb : ∀ b u, sI.heap.get? b = some u → b ∉ frs X.stack → B.get? b = some u)
    (st : B.StaysIn s'.heap) (up : sI.heap.UpToSlots s'.heap) (os : s'.os = sI.os) (ag : AllBare s'.gens)
    (n0 : sI.heap.get? a = none) (na : H a = none) (new : ObjOk X.prog X.w (upd H a o) s'.heap a o) : Inv X pins σ (upd H a o) s' := by
  have nf : ∀ b ∈ frs X.stack, ∀ u, sI.heap.get? b = some u → ∃ sl, s'.heap.get? b = some { u with slots := sl } := by
    intro b hb u e
    obtain ⟨_, u', e', hd⟩ := I.stack.mem hb
    rw [e] at e'
    cases e'
    exact up b u e hd
  have U : Un (frs X.stack) [] H (upd H a o) sI.heap s'.heap := by
    refine ⟨fun b u e _ hb _ => st b u (nb b u e hb), fun b u e _ hb _ => nf b hb u e, fun b u e n _ => ?_, fun b u e _ => ?_, fun b xs q => ?_, fun b u xs q => ?_, fun b ps q => ?_⟩
    · have z : b ≠ a := fun z => by rw [z, n0] at e; cases e
      rw [upd_ne z]
      exact n
    · by_cases hb : b ∈ frs X.stack
      · obtain ⟨sl, q⟩ := nf b hb u e
        exact ⟨_, q⟩
      · exact ⟨u, st b u (nb b u e hb)⟩
    · rw [upd_ne (ne_of_none q na)]
      exact q
    · rw [upd_ne (ne_of_none q na)]
      exact q
    · exact ⟨#[], by rw [upd_ne (ne_of_none q na), q]; simp⟩
  have J := I.call (ch := []) (h' := s'.heap) (g' := s'.gens) (t' := s'.toks) (d' := s'.drawn) U
    (HOk.laidN ((I.inGround nb).kept st) (fun _ _ h => h) na new) ag (fun _ z => nomatch z)
  obtain ⟨a1, a2, a3, a4, a5⟩ := s'
  have e5 : a5 = sI.os := os
  subst e5
  exact J
theorem Inv.suiteN {s : Shared} (I : Inv X pins σ H s) (a : Addr) : Inv (X.suite a (X.pn ++ pins)) [] σ H s :=
  ⟨I.ok.suite _ _, I.os, I.bare, I.base, I.loc,
    I.cell, I.free, I.freeC,
    fun p hp => I.pin p (by rw [List.append_nil] at hp; exact hp), I.hok, I.len⟩
theorem Inv.unsuiteN {s : Shared} {a : Addr} (I : Inv (X.suite a (X.pn ++ pins)) [] σ H s) (ok : X.Ok) : Inv X pins σ H s :=
  ⟨ok, I.os, I.bare, I.base, I.loc,
    I.cell, I.free, I.freeC,
    fun p hp => I.pin p (List.mem_append_left _ hp), I.hok, I.len⟩
end
/-- what the clause wishes of an error of the body: slot i is n's; the error is tracked from here on -/
def wKeep (K : PySem.W.Frag) (c : Value) (i : Nat) (ts : Addr → Value → Option Addr → TS) (Wout : WX) (D : Ends) : WX := fun cls d σ H =>
  ∃ b, PySem.W.exmOne K cls c = some b ∧
    (b = true → ∀ a, H a = none → ts a cls d
      { nx := fun σ2 H2 => D.nx (σ2.set i none) H2, rt := D.rt, bk := fun σ2 H2 => D.bk (σ2.set i none) H2, ct := fun σ2 H2 => D.ct (σ2.set i none) H2 }
      (σ.set i (some (.ref a))) (upd H a (EzO cls d a))) ∧
    (b = false → Wout cls d σ H)
section
variable {X : Cx} {x n : Str} {c : Value} {i : Nat} {body suite : List Stmt} {b₀ : Stmt} {np pos pos' : Pos} {tb : WX → TS} {ts : Addr → Value → Option Addr → TS} {Wout : WX}
theorem ps_try_keep (hs : X.stack = X.env :: X.outer) (hf : X.env.frame = some X.env.locals) (hN : X.N.Nodup)
    (hi : X.N[i]? = some n) (hln : X.env.kindOf n = some .local) (hc : Names X x c) (tk : Takes X Wout)
    (hb : ∀ (W : WX) (pn : List (Addr × Obj)) (xe : Value → Shared → Prop), Takes (X.tr pn xe) W →
      PassesOwn (model X.prog X.w) X.A X.env xe → PSs (X.tr pn xe) body (tb W))
    (hsu : ∀ (a : Addr) (cls : Value) (d : Option Addr) (pn : List (Addr × Obj)),
      PSs (X.suite a pn) (b₀ :: suite) (ts a cls d)) :
    PS X (.Try body [.ExceptHandler (some (.Name x np)) (some n) (b₀ :: suite) pos'] [] [] pos)
      (fun D σ H => tb (wKeep X.K c i ts Wout D) D σ H) := by
  refine ⟨fun pins s σ H D I h => ?_⟩
  have okX := I.ok
  have hfr : X.A.frames = some (X.env :: X.outer) := by
    rw [okX.frames, hs]
  have hlc : Loc X.env.scope n := .inl hln
  refine wpAny_Try_except ?_
  refine wpAny_mono
    ((hb (wKeep X.K c i ts Wout D) (X.pn ++ pins)
      (fun e t1 => wpAny (model X.prog X.w) X.A (noteFrame e X.env)
        (fun _ t2 => wpAny (model X.prog X.w) X.A (setFlight e none)
          (fun _ t3 => wpAny (model X.prog X.w) X.A (handleBy e X.env [.ExceptHandler (some (.Name x np)) (some n) (b₀ :: suite) pos']) (SP X pins D) X.xe t3)
          X.xe t2)
        X.xe t1)
      (fun u t xx => ?_) PassesOwn.looking).run [] s σ H D (I.toTry _) h)
    (fun f s1 hsp => ?_) (fun e s1 he => he)
  · obtain ⟨a, B, sI, pn2, σ2, H2, cls, d, rfl, J0, nb, up, sky, na, os, ag, b, hb1, hyes, hno⟩ := xx
    have J : Inv X pins σ2 H2 sI := J0.ofTry okX
    have sky2 : Sky B (X.env :: X.outer) a (Zc cls d) X.env.locals t.heap := by
      rw [← hs]
      exact sky
    show wpAny (model X.prog X.w) X.A (noteFrame (.ref a) X.env) _ _ _
    refine Sky.land Zc.steady hfr hf sky2 fun h3 fl3 up3 => ?_
    have J3 : Inv X pins σ2 H2 { t with heap := h3 } :=
      J.landed nb fl3.1 (up.trans up3) os ag
    obtain ⟨oe3, vs3, he3, hz3, hd3⟩ := fl3.there
    have nfr : a ∉ frs (X.env :: X.outer) := fun hm => by
      obtain ⟨_, o', e', hnf⟩ := fl3.2.2.1.mem hm
      rw [he3] at e'
      cases e'
      exact hnf _ hd3
    have n0 : sI.heap.get? a = none := by
      cases q : sI.heap.get? a with
      | none => rfl
      | some u =>
        have z := nb a u q (by rw [hs]; exact nfr)
        rw [fl3.2.1] at z
        cases z
    have S3 := J3.suiteN a
    refine wpAny_handleBy_cons (codeAny_handlers_test ?_) (by intro q; cases q)
    have LT : PySem.W.Looks (model X.prog X.w) h3 (typeOf (.ref a)) cls := fun A Q E s k q =>
      wpAny_typeOf_ref (k _ _ he3) (by rw [hz3.1]; exact q)
    have LM := PySem.W.exm_one (M := model X.prog X.w) (J3.kIn) LT hb1
    have test : ∀ {Q : Value → Shared → Prop} {E : Value → Shared → Prop}, Q c { t with heap := h3 } →
        wpAny (model X.prog X.w) (X.A.mark (some (.ref a))) (eval (.Name x np) X.env) Q E { t with heap := h3 } := by
      intro Q E q
      obtain ⟨hg, hdbg, hm | ⟨hm, hv, hnn⟩⟩ := hc
      · exact ld_glob (X := X.suite a (X.pn ++ pins)) S3 hg hm q hdbg
      · exact ld_blt (X := X.suite a (X.pn ++ pins)) S3 hg hm hv q hnn hdbg
    refine test (LM.here ?_)
    cases b with
    | true =>
      refine codeAny_handlers_suite_as ?_
      refine HandSPX.lands_againZ fl3 fun h4 fl4 up4 => ?_
      obtain ⟨oe4, vs4, he4, hz4, hd4⟩ := fl4.there
      have J4 : Inv X pins σ2 (upd H2 a (EzO cls d a)) { t with heap := h4 } :=
        J.landedT nb fl4.1 ((up.trans up3).trans up4) os ag n0 na (ezO_ok he4 hz4 hd4)
      have S4 := J4.suiteN a
      refine store_ok (X := X.suite a (X.pn ++ pins)) (v := .ref a) S4 hN hi hlc rfl (fun s5 S5 => ?_) (.inr hln)
      refine wpAny_mono ((hsu a cls d (X.pn ++ pins)).run [] s5 _ _ _ S5 (hyes rfl a na)) (fun f s6 hsp => ?_) (fun _ _ z => False.elim z)
      have fin : ∀ {σ6 : St} {H6 : Hp} {Q : Shared → Prop}, Inv (X.suite a (X.pn ++ pins)) [] σ6 H6 s6 →
          (∀ s7, Inv X pins (σ6.set i none) H6 s7 → Q s7) →
          wpAny (model X.prog X.w) X.A (do bindName X.env n .none; unbindBehindTheSuite X.env n pos') (fun _ s7 => Q s7) X.xe s6 := by
        intro σ6 H6 Q S6 hq
        exact gone_ok (S6.unsuiteN okX) hN hi hln hq
      cases f with
      | ret u =>
        obtain ⟨v6, σ6, H6, S6, r6, q6⟩ := hsp
        exact fin S6 fun s7 J7 => ⟨_, _, _, J7, r6, q6⟩
      | next =>
        obtain ⟨σ6, H6, S6, q6⟩ := hsp
        exact fin S6 fun s7 J7 => ⟨_, _, J7, q6⟩
      | brk =>
        obtain ⟨σ6, H6, S6, q6⟩ := hsp
        exact fin S6 fun s7 J7 => ⟨_, _, J7, q6⟩
      | cont =>
        obtain ⟨σ6, H6, S6, q6⟩ := hsp
        exact fin S6 fun s7 J7 => ⟨_, _, J7, q6⟩
    | false =>
      show wpAny _ X.A (handleBy (.ref a) X.env []) _ _ _
      refine wpAny_handleBy_nil ?_
      obtain ⟨k1, k2, k3, oe, vs, T, oT, ts', he, hz, hd, h1, hr⟩ := id fl3
      unfold PySem.passOn
      refine wpAny_bind (wpAny_field he hd h1 ?_)
      rw [if_neg (show ¬ ((Value.ref T == Value.none) = true) from by simp)]
      have fin : wpAny (model X.prog X.w) X.A (setFlight (.ref a) X.env.frame)
          (fun _ t4 => wpAny (model X.prog X.w) X.A (throw (.ref a) : Sem Flow) (SP X pins D) X.xe t4) X.xe { t with heap := h3 } := by
        rw [hf]
        refine HandSPX.setFlight_upZ fl3 fun h4 hh4 up4 => wpAny_throw (tk _ _ ?_)
        exact ⟨a, B, sI, pins, σ2, H2, cls, d, rfl, J, nb,
          (up.trans up3).trans up4, .inr (.inr (by rw [hs]; exact hh4)), na, os, ag, hno rfl⟩
      first
        | exact wpAny_bind (wpAny_pure (wpAny_bind fin))
        | exact wpAny_bind fin
  · cases f with
    | next =>
      obtain ⟨σ2, H2, J2, q⟩ := hsp
      exact wpAny_execs_nil ⟨σ2, H2, J2.ofTry okX, q⟩
    | brk =>
      obtain ⟨σ2, H2, J2, q⟩ := hsp
      exact ⟨σ2, H2, J2.ofTry okX, q⟩
    | cont =>
      obtain ⟨σ2, H2, J2, q⟩ := hsp
      exact ⟨σ2, H2, J2.ofTry okX, q⟩
    | ret u =>
      obtain ⟨v, σ2, H2, J2, r, q⟩ := hsp
      exact ⟨v, σ2, H2, J2.ofTry okX, r, q⟩
end
/-- the object of a tracked error -/
theorem ezO_inst {X : Cx} {pins : List (Addr × Obj)} {σ : St} {H : Hp} {s : Shared} {a D : Addr} (I : Inv X pins σ H s) (h : H a = some (EzO (.ref D) none a)) :
    ∃ oe, PySem.W.InstAt s.heap a oe D none := by
  obtain ⟨⟨oe, vs, he, hz, hd⟩, _⟩ := (show ObjOk X.prog X.w H s.heap a (EzO (.ref D) none a) from I.hok a _ h)
  obtain ⟨oc, od, oda, osl⟩ := oe
  obtain ⟨h1, h2⟩ := hz
  dsimp only at h1 h2 hd
  subst h1 h2 hd
  exact ⟨_, he, rfl, rfl, trivial⟩
/-- isinstance(e, T), e a tracked error -/
def rIsX (K : PySem.W.Frag) : List V → Hp → VK → Prop := fun xs H Q => ∃ (a D : Addr) (c : V) (cv : Value) (b : Bool),
  xs = [.ref a, c] ∧ H a = some (EzO (.ref D) none a) ∧ ExcC K D ∧ ClsV c cv ∧
  PySem.W.kitOne K (.ref D) cv = some b ∧ Q (.bl b) H
/-- isinstance(e, (T1, T2)) -/
def rIsXT (K : PySem.W.Frag) : List V → Hp → VK → Prop := fun xs H Q => ∃ (a D tp : Addr) (cs : List V) (us : List Value) (b : Bool),
  xs = [.ref a, .ref tp] ∧ H tp = some (.tup cs) ∧ Paired ClsV cs us ∧ H a = some (EzO (.ref D) none a) ∧ ExcC K D ∧
  PySem.W.kitAny K (.ref D) us = some b ∧ Q (.bl b) H
section
variable {X : Cx}
theorem call_isX : CallR X (.builtin "isinstance") (rIsX X.K) := by
  intro pins s σ H xs us Q I r h
  obtain ⟨a, D, c, cv, b, rfl, hH, C, k, e, q⟩ := h
  obtain ⟨u1, u2, rfl, r1, r2⟩ := vals2 r
  have e2 := k.eq r2
  subst e2
  cases r1
  obtain ⟨oe, J⟩ := ezO_inst I hH
  exact PySem.W.kia_one (PySem.W.handS_kitx_exc C.hg C.hk C.hs C.hd C.ha C.hn C.ht C.hm) I.kIn J e (fun z => nomatch z)
    fun tk => ⟨.bl b, H, I.tok tk, rfl, q⟩
theorem call_isXT : CallR X (.builtin "isinstance") (rIsXT X.K) := by
  intro pins s σ H xs us Q I r h
  obtain ⟨a, D, tp, cs, ws, b, rfl, hT, k, hH, C, e, q⟩ := h
  obtain ⟨u1, u2, rfl, r1, r2⟩ := vals2 r
  cases r1
  cases (show u2 = Value.ref tp from r2)
  obtain ⟨oe, J⟩ := ezO_inst I hH
  obtain ⟨_, its, rv, o, h1, h2, n, h3⟩ := (show ObjOk X.prog X.w H s.heap tp (.tup cs) from I.hok tp _ hT)
  have e3 := ClsV.all k rv
  subst e3
  obtain ⟨oc, od, dt, sl⟩ := o
  simp only at h2 h3
  subst h2 h3
  exact PySem.W.kia_tup (PySem.W.handS_kitx_exc C.hg C.hk C.hs C.hd C.ha C.hn C.ht C.hm) I.kIn J h1 e (fun z => nomatch z)
    fun tk => ⟨.bl b, H, I.tok tk, rfl, q⟩
end
end L2
namespace Mad
open PySem PySem.Spec PyProof.Rows L2
/-! ### defs that raise, an own error class without a word of its own -/
theorem IsDef.calX2 {P : Program} {w : World} {K : PySem.W.Frag} {mg : Str → Option Value} {base : Heap} {x : Str} {st : Stmt} {N ps : List Str} {k : Nat} {sp : Sp} (D : IsDef K mg x st ps) (S : FnScope N ps (defScope st)) (len : ∀ vs H Q E, sp vs H Q E → vs.length = ps.length)
    (hbody : ∀ (f : Addr) (cdv : Value) (A : Around) (outer : List Env) (s : Shared) (H : Hp) (vs : List V) (Q : VK) (E : XK), Room k (A.deeper (envOfC x (defScope st) s.heap.objs.size f cdv)) → sp vs H Q E →
      ∃ t, PSs (cxOf (L2.CX P w) P w K mg base N x (defScope st) f cdv A outer s H E) (defBody st) t ∧ t { nx := fun _ H' => Q .non H', rt := Q } (start N vs) H) : Cal P w K mg base (L2.CX P w) (k + 1) x ps sp := by
  obtain ⟨f, fd, F, m, b⟩ := D
  exact ⟨f, fd, F.okX S len fun cdv A outer s H vs Q E => hbody f cdv A outer s H vs Q E, m, F.kp, b⟩
structure NoX (K : PySem.W.Frag) (mg : Str → Option Value) (n : Str) (C : Addr) : Prop where
  x : PySem.W.excIn K C [.type "ValueError", .type "Exception", .type "BaseException", .type "object"] "ValueError.__new__" = true
  g : mg n = some (.ref C)
  k : PySem.W.keepIn K (.ref C) = true
  b : PySem.W.subIn K (.ref C) (.type "BaseException") = some true
  t : PySem.W.typeIn K (.ref C) = some (.type "type")
theorem call_isXK {X : Cx} {K : PySem.W.Frag} (h : X.K = K) : CallR X (.builtin "isinstance") (rIsX K) := by
  subst h
  exact call_isX
/-! ### own classes: methods by their promises -/
/-- the method m of the class at C stands in the text as st says -/
def IsMet (K : PySem.W.Frag) (C : Addr) (m nm : Str) (st : Stmt) (ps : List Str) : Prop := ∃ (f : Addr) (fd : FuncData), Fun K m nm st f fd ∧ Meth K C m f ∧ Binds K fd ps []
def Met (P : Program) (w : World) (K : PySem.W.Frag) (mg : Str → Option Value) (base : Heap) (CX : CXT) (k : Nat) (C : Addr) (m : Str) (ps : List Str) (sp : Sp) : Prop := ∃ (f : Addr) (fd : FuncData), FnOk P w K mg base CX k f fd ps sp ∧ Meth K C m f ∧ Binds K fd ps []
section
variable {P : Program} {w : World} {K : PySem.W.Frag} {mg : Str → Option Value} {base : Heap} {C : Addr}
theorem Met.mono {CX : CXT} {j k : Nat} {m : Str} {ps : List Str} {sp : Sp} (c : Met P w K mg base CX j C m ps sp) (h : j ≤ k) : Met P w K mg base CX k C m ps sp := by
  obtain ⟨f, fd, F, r⟩ := c
  exact ⟨f, fd, F.mono h, r⟩
theorem met_none {m nm : Str} {st : Stmt} {ps : List Str} {sp : Sp} {CX : CXT} {k : Nat} (D : IsMet K C m nm st ps) (no : ∀ vs H Q E, ¬ sp vs H Q E) : Met P w K mg base CX k C m ps sp := by
  obtain ⟨f, fd, F, m, b⟩ := D
  exact ⟨f, fd, ⟨fun vs H Q E h => absurd h (no vs H Q E), fun A outer s H args us vs Q E _ _ _ _ h => absurd h (no vs H Q E)⟩, m, b⟩
theorem IsMet.met {m nm : Str} {st : Stmt} {N ps : List Str} {k : Nat} {sp : Sp} (D : IsMet K C m nm st ps) (S : FnScope N ps (defScope st)) (len : ∀ vs H Q E, sp vs H Q E → vs.length = ps.length)
    (hbody : ∀ (f : Addr) (cdv : Value) (A : Around) (outer : List Env) (s : Shared) (H : Hp) (vs : List V) (Q : VK) (E : XK), Room k (A.deeper (envOfC nm (defScope st) s.heap.objs.size f cdv)) → sp vs H Q E →
      ∃ t, PSs (cxOf CX0 P w K mg base N nm (defScope st) f cdv A outer s H E).nox (defBody st) t ∧ t { nx := fun _ H' => Q .non H', rt := Q } (start N vs) H) : Met P w K mg base CX0 (k + 1) C m ps sp := by
  obtain ⟨f, fd, F, m, b⟩ := D
  exact ⟨f, fd, F.ok S len fun cdv A outer s H vs Q E => hbody f cdv A outer s H vs Q E, m, b⟩
theorem IsMet.metX {m nm : Str} {st : Stmt} {N ps : List Str} {k : Nat} {sp : Sp} (D : IsMet K C m nm st ps) (S : FnScope N ps (defScope st)) (len : ∀ vs H Q E, sp vs H Q E → vs.length = ps.length)
    (hbody : ∀ (f : Addr) (cdv : Value) (A : Around) (outer : List Env) (s : Shared) (H : Hp) (vs : List V) (Q : VK) (E : XK), Room k (A.deeper (envOfC nm (defScope st) s.heap.objs.size f cdv)) → sp vs H Q E →
      ∃ t, PSs (cxOf (L2.CX P w) P w K mg base N nm (defScope st) f cdv A outer s H E) (defBody st) t ∧ t { nx := fun _ H' => Q .non H', rt := Q } (start N vs) H) : Met P w K mg base (L2.CX P w) (k + 1) C m ps sp := by
  obtain ⟨f, fd, F, m, b⟩ := D
  exact ⟨f, fd, F.okX S len fun cdv A outer s H vs Q E => hbody f cdv A outer s H vs Q E, m, b⟩
end
/-! ### functions made within a def and handed on: their cells as the callee finds them -/
open LamX NdefX
theorem cellsAt_un {fs : List Addr} {cl : List (Str × Addr)} {fr : List Str} {ws : List (Option V)} {h h' : Heap} {H H' : Hp} (C : CellsAt cl fr ws h H) (U : Un fs [] H H' h h') : CellsAt cl fr ws h' H' := by
  have kp : ∀ y c, cl.lookup y = some c → ∀ v, h.IsCell c v → h'.IsCell c v := fun y c e v ⟨o, ho, hd⟩ => by
    obtain ⟨sl, q⟩ := U.any ho (C.all y c e).1 (by simp)
    exact ⟨_, q, hd⟩
  refine ⟨C.len, fun y c e => ?_, C.inj, fun i y e => ?_⟩
  · obtain ⟨n, v, z⟩ := C.all y c e
    refine ⟨?_, v, kp y c e v z⟩
    obtain ⟨o, ho, _⟩ := z
    exact U.free c o ho n (by simp)
  · obtain ⟨c, hc, hv⟩ := C.has i y e
    refine ⟨c, hc, fun v ev => ?_⟩
    obtain ⟨u, r, z⟩ := hv v ev
    exact ⟨u, r, kp y c hc _ z⟩
/-- the def x, handed a function whose cells are told beside, keeps the promise sp -/
structure CalC (P : Program) (w : World) (K : PySem.W.Frag) (mg : Str → Option Value) (base : Heap) (CX : CXT) (k : Nat) (x : Str) (ps : List Str) (cl : List (Str × Addr)) (fr : List Str) (ws : List (Option V)) (sp : Sp) : Prop where
  ex : ∃ (f : Addr), mg x = some (.ref f) ∧ PySem.W.keepIn K (.ref f) = true
  len : ∀ vs H Q E, sp vs H Q E → vs.length = ps.length
  run : ∀ (f : Addr), mg x = some (.ref f) → ∀ (A : Around) (outer : List Env) (s : Shared) (H : Hp) (us : List Value) (vs : List V) (Q : VK) (E : XK), Room k A → Env0 P w K mg base A outer s H → CellsAt cl fr ws s.heap H → Vals vs us → sp vs H Q E →
    codeAny (model P w) A (.call (.ref f) ⟨us, []⟩) (CR CX outer P w H s Q E) s
section
variable {P : Program} {w : World} {K : PySem.W.Frag} {mg : Str → Option Value} {base : Heap} {cl : List (Str × Addr)} {fr : List Str} {ws : List (Option V)}
theorem CalC.mono {CX : CXT} {j k : Nat} {x : Str} {ps : List Str} {sp : Sp} (c : CalC P w K mg base CX j x ps cl fr ws sp) (h : j ≤ k) : CalC P w K mg base CX k x ps cl fr ws sp :=
  ⟨c.ex, c.len, fun f m A outer s H us vs Q E hr => c.run f m A outer s H us vs Q E (hr.mono h)⟩
theorem calC_none {x : Str} {st : Stmt} {ps : List Str} {sp : Sp} {CX : CXT} {k : Nat} (D : IsDef K mg x st ps) (no : ∀ vs H Q E, ¬ sp vs H Q E) : CalC P w K mg base CX k x ps cl fr ws sp := by
  obtain ⟨f, fd, F, m, b⟩ := D
  exact ⟨⟨f, m, F.kp⟩, fun vs H Q E h => absurd h (no vs H Q E), fun f m A outer s H us vs Q E _ _ _ _ h => absurd h (no vs H Q E)⟩
theorem calC_any {ι : Sort _} {x : Str} {st : Stmt} {ps : List Str} {sp : ι → Sp} {CX : CXT} {k : Nat} (D : IsDef K mg x st ps) (h : ∀ i, CalC P w K mg base CX k x ps cl fr ws (sp i)) : CalC P w K mg base CX k x ps cl fr ws (fun vs H Q E => ∃ i, sp i vs H Q E) := by
  obtain ⟨f, fd, F, m, b⟩ := D
  exact ⟨⟨f, m, F.kp⟩, fun vs H Q E ⟨i, q⟩ => (h i).len vs H Q E q, fun f m A outer s H us vs Q E hr e0 C r ⟨i, q⟩ => (h i).run f m A outer s H us vs Q E hr e0 C r q⟩
theorem IsDef.calC {x : Str} {st : Stmt} {N ps : List Str} {k : Nat} {sp : Sp} (D : IsDef K mg x st ps) (S : FnScope N ps (defScope st)) (len : ∀ vs H Q E, sp vs H Q E → vs.length = ps.length)
    (hbody : ∀ (f : Addr) (cdv : Value) (A : Around) (outer : List Env) (s : Shared) (H : Hp) (vs : List V) (Q : VK) (E : XK), Room k (A.deeper (envOfC x (defScope st) s.heap.objs.size f cdv)) → CellsAt cl fr ws s.heap H → sp vs H Q E →
      ∃ t, PSs (cxOf (L2.CX P w) P w K mg base N x (defScope st) f cdv A outer s H E) (defBody st) t ∧ t { nx := fun _ H' => Q .non H', rt := Q } (start N vs) H) : CalC P w K mg base (L2.CX P w) (k + 1) x ps cl fr ws sp := by
  obtain ⟨f, fd, F, m, b⟩ := D
  refine ⟨⟨f, m, F.kp⟩, len, fun f' m' A outer s H us vs Q E hr e0 C r hsp => ?_⟩
  have ef : f' = f := Value.ref.inj (Option.some.inj (m'.symm.trans m))
  subst ef
  obtain ⟨oc, od, kV, doc, pm, an, cdv, ct, osl, rfl, lk, hcd⟩ := F.ex
  have KX : K.In s.heap := e0.mod.kin.keeps fun b o e => (e0.bs b o e).1
  have hl := len _ _ _ _ hsp
  have hb := b s us KX (by rw [List.append_nil, ← r.length]; exact hl)
  rw [List.append_nil] at hb
  exact run_ofS lk hcd S hr e0 hb r hl fun hr' => hbody f' cdv A outer s H vs Q E hr' C hsp
/-- a method whose code object is known -/
def IsMetC (K : PySem.W.Frag) (C : Addr) (m nm : Str) (st : Stmt) (ps : List Str) (c : Addr) : Prop := ∃ (f : Addr) (fd : FuncData) (oc : Value) (od : Option Addr) (kV doc pm : Value) (an : Option Addr) (ct : Value) (osl : Array (Option Value)),
    fd = PySem.W.fnOf m nm (defArgs st) (defBody st) (defScope st) .none kV doc pm an (.ref c) ct ∧ K.lookup f = some ⟨oc, od, .func fd, osl⟩ ∧ PySem.W.codeIn K (.ref c) nm = true ∧ Meth K C m f ∧ Binds K fd ps []
theorem IsMetC.metX {C c : Addr} {m nm : Str} {st : Stmt} {N ps : List Str} {k : Nat} {sp : Sp} (D : IsMetC K C m nm st ps c) (S : FnScope N ps (defScope st)) (len : ∀ vs H Q E, sp vs H Q E → vs.length = ps.length)
    (hbody : ∀ (f : Addr) (A : Around) (outer : List Env) (s : Shared) (H : Hp) (vs : List V) (Q : VK) (E : XK), Room k (A.deeper (envOfC nm (defScope st) s.heap.objs.size f (.ref c))) → sp vs H Q E →
      ∃ t, PSs (cxOf (L2.CX P w) P w K mg base N nm (defScope st) f (.ref c) A outer s H E) (defBody st) t ∧ t { nx := fun _ H' => Q .non H', rt := Q } (start N vs) H) : Met P w K mg base (L2.CX P w) (k + 1) C m ps sp := by
  obtain ⟨f, fd, oc, od, kV, doc, pm, an, ct, osl, rfl, lk, hcd, M, b⟩ := D
  exact ⟨f, _, fn_of lk hcd S len fun A outer s H vs Q E hr hsp => hbody f A outer s H vs Q E hr hsp, M, b⟩
theorem IsMetC.none {C c : Addr} {m nm : Str} {st : Stmt} {ps : List Str} {k : Nat} {sp : Sp} {CX : CXT} (D : IsMetC K C m nm st ps c) (no : ∀ vs H Q E, ¬ sp vs H Q E) : Met P w K mg base CX k C m ps sp := by
  obtain ⟨f, fd, oc, od, kV, doc, pm, an, ct, osl, rfl, lk, hcd, M, b⟩ := D
  exact ⟨f, _, ⟨fun vs H Q E h => absurd h (no vs H Q E), fun A outer s H args us vs Q E _ _ _ _ h => absurd h (no vs H Q E)⟩, M, b⟩
end
section
variable {X : Cx} {CX : CXT} {k j i : Nat} {ps fr : List Str} {cl : List (Str × Addr)} {ws : List (Option V)} {sp : Sp} {E : XK} {x : Str} {p pos : Pos} {e : Expr} {es : List Expr} {t : TA}
theorem cells_now {pins : List (Addr × Obj)} {σ : L2.St} {H : Hp} {s : Shared} (hex : X.ex = []) (C : CellsAt cl fr ws X.s_0.heap X.H_0) (I : Inv X pins σ H s) : CellsAt cl fr ws s.heap H := by
  have U := I.base
  rw [hex] at U
  exact cellsAt_un C U
theorem run_fnC {pins : List (Addr × Obj)} {σ : L2.St} {H : Hp} {s : Shared} {Q : VK} {f : Addr} {us : List Value} {vs : List V} (F : CalC X.prog X.w X.K X.mg X.base CX k x ps cl fr ws sp) (hm : X.mg x = some (.ref f)) (hr : Room k X.A) (hx : Passes CX X E)
    (I : Inv X pins σ H s) (C : CellsAt cl fr ws s.heap H) (r : Vals vs us) (h : sp vs H Q E) : wpAny (model X.prog X.w) X.A (call (.ref f) us) (EP X pins σ Q) X.xe s := by
  refine wpAny_call (codeAny_mono (F.run f hm X.A X.stack s H us vs Q E hr I.env0 C r h) fun r s' hq => ?_)
  cases r with
  | error e => exact hx pins σ H s e s' I hq
  | ok fl =>
    cases fl with
    | ret u => exact I.after hq
    | next => exact False.elim hq
    | brk => exact False.elim hq
    | cont => exact False.elim hq
/-- f(.., g) within a def that was handed g -/
theorem pe_callC (c : CalC X.prog X.w X.K X.mg X.base CX k x ps cl fr ws sp) (hex : X.ex = []) (C : CellsAt cl fr ws X.s_0.heap X.H_0) (hr : Room k X.A) (hx : Passes CX X E) (ha : PA X (e :: es) t) (hg : Gl X x := by rfl)
    (hdb : (x == ("__debug__" : Str)) = false := by decide) (he : starEach (e :: es) X.env = (false, eval e X.env) :: starEach es X.env := by rfl) (hpl : (backTo pos (starEach es X.env)).any (·.1) = false := by rfl) :
    PE X (.Call (.Name x p) (e :: es) [] pos) (tCall sp [] E t) := by
  obtain ⟨f, hm, hk⟩ := c.ex
  refine ⟨fun pins s σ H Q I h => ?_⟩
  refine wpAny_Call_Name_kw (ld_glob I hg hm ?_ hdb)
  refine PySem.W.callWith_K (h₀ := X.base) I.ok.mod.kin hk (thn (ha.run pos pins s σ H _ I h) fun us s1 ⟨vs, H1, I1, r, q⟩ => ⟨I1.kIn, ?_⟩) he hpl
  have q : sp (vs ++ []) H1 Q E := q
  rw [List.append_nil] at q
  exact run_fnC c hm hr hx I1 (cells_now hex C I1) r q
/-- the same within the def that makes g: its cells are this frame's -/
def tCallM (js : List Nat) (sp : List (Option V) → Sp) (E : XK) (t : TA) : TE := fun σ H Q => t σ H fun vs H1 => sp (js.map (slotAt σ)) vs H1 Q E
theorem pe_callM {js : List Nat} {sp : List (Option V) → Sp} (c : ∀ ws, CalC X.prog X.w X.K X.mg X.base CX k x ps cl fr ws (sp ws)) (cp : X.Ok → Caps X cl fr js) (hr : Room k X.A) (hx : Passes CX X E) (ha : PA X (e :: es) t) (hg : Gl X x := by rfl)
    (hdb : (x == ("__debug__" : Str)) = false := by decide) (he : starEach (e :: es) X.env = (false, eval e X.env) :: starEach es X.env := by rfl) (hpl : (backTo pos (starEach es X.env)).any (·.1) = false := by rfl) :
    PE X (.Call (.Name x p) (e :: es) [] pos) (tCallM js sp E t) := by
  refine ⟨fun pins s σ H Q I h => ?_⟩
  obtain ⟨f, hm, hk⟩ := (c (js.map (slotAt σ))).ex
  refine wpAny_Call_Name_kw (ld_glob I hg hm ?_ hdb)
  refine PySem.W.callWith_K (h₀ := X.base) I.ok.mod.kin hk (thn (ha.run pos pins s σ H _ I h) fun us s1 ⟨vs, H1, I1, r, q⟩ => ⟨I1.kIn, ?_⟩) he hpl
  exact run_fnC (c _) hm hr hx I1 (cells_of I1 (cp I1.ok)) r q
/-- g(..), g handed in -/
def tCallV (i : Nat) (f : Addr) (F : NF) (ws : List (Option V)) (sp : List (Option V) → Sp) (E : XK) (t : TA) : TE := fun σ H Q => σ[i]? = some (some (.ref f)) ∧ H f = some (FnO f F) ∧
  t σ H fun vs H1 => H1 f = some (FnO f F) ∧ H1 F.c = some (CodeO F.c F.qual) ∧ sp ws vs H1 Q E
theorem pe_callV {f : Addr} {F : NF} {sp : List (Option V) → Sp} (Fn : NOk X.prog X.w X.K X.mg X.base CX k f F ps fr sp) (hex : X.ex = []) (C : CellsAt F.cl fr ws X.s_0.heap X.H_0) (hr : Room j X.A) (hk : k ≤ j) (hx : Passes CX X E) (ha : PA X (e :: es) t)
    (hN : X.N[i]? = some x := by rfl) (hv : Vis X.env.scope x := by first | exact Or.inl rfl | exact Or.inr (Or.inl rfl) | exact Or.inr (Or.inr rfl))
    (hd : (x == ("__debug__" : Str)) = false := by decide) (hcd : (x == ("__classdict__" : Str)) = false := by decide)
    (he : starEach (e :: es) X.env = (false, eval e X.env) :: starEach es X.env := by rfl) (hpl : (backTo pos (starEach es X.env)).any (·.1) = false := by rfl) :
    PE X (.Call (.Name x p) (e :: es) [] pos) (tCallV i f F ws sp E t) := by
  refine ⟨fun pins s σ H Q I h => ?_⟩
  obtain ⟨hs, hf, ht⟩ := h
  refine wpAny_Call_Name_kw (thn ((pe_var (pos := p) hN hv hd hcd).run pins s σ H (fun v H1 => v = .ref f ∧ H1 = H) I ⟨.ref f, hs, rfl, rfl⟩) fun u s1 ⟨v, H1, I1, r1, q1⟩ => ?_)
  obtain ⟨ev, eH⟩ := q1
  subst ev
  rw [eH] at I1
  obtain rfl : u = Value.ref f := r1
  refine PySem.W.callWith_F (first := []) (fnAt_of I1 hf) (thn (ha.run pos pins s1 σ H _ I1 ht) fun us s2 ⟨vs, H2, I2, r, h1, h2, q⟩ => ⟨fnAt_of I2 h1, ?_⟩) he hpl
  show wpAny _ _ (call (.ref f) us) _ _ _
  refine wpAny_call (codeAny_mono (Fn.run X.A X.stack s2 H2 us vs _ Q E (hr.mono hk) I2.env0 h1 h2 (cells_now hex C I2) r q) fun r s' hq => ?_)
  cases r with
  | error e => exact hx pins σ H2 s2 e s' I2 hq
  | ok fl =>
    cases fl with
    | ret u => exact I2.after hq
    | next => exact False.elim hq
    | brk => exact False.elim hq
    | cont => exact False.elim hq
/-- o.f, .. = e -/
def gFld (K : PySem.W.Frag) (f : Str) (ta : TE) : TG := fun y σ H Q => ta σ H fun x H1 => ∃ a C dx fs, x = .ref a ∧ H1 a = some (.ins C dx fs) ∧ Cls K C ∧ NoAttr K C f ∧ fs.length < 1000 ∧ Q σ (upd H1 a (.ins C dx (putF f y fs)))
theorem pg_fld {o : Expr} {ta : TE} {f : Str} (ho : PE X o ta) (ha : ∀ v, assign (.Attribute o f pos) X.env v = (do
      let ov ← holding [v] (eval o X.env)
      standAt pos.atName
      holding [v, ov] (setAttr ov f v)
      release [v, ov] []) := by intro _; rfl) : PG X (.Attribute o f pos) (gFld X.K f ta) := by
  refine ⟨fun pins s σ H v u Q I r h => ?_⟩
  rw [ha]
  refine wpAny_bind (wpAny_holding (thn (ho.run pins s σ H _ I h) fun ov s1 ⟨x, H1, I1, r1, a, C, dx, fs, ex, ea, c, n, l, q⟩ => ?_))
  subst ex
  obtain rfl : ov = Value.ref a := r1
  refine wpAny_bind (wpAny_standAt (wpAny_bind (wpAny_holding (setattr_ok I1 ea c n l r fun s2 I2 => ?_))))
  exact wpAny_release ⟨σ, _, I2, q⟩
/-- the field n of a tracked error -/
def tXk (K : PySem.W.Frag) (n : Str) (te : TE) : TE := fun σ H Q => te σ H fun x H1 => ∃ (a C dd : Addr) (fs : List (Str × V)) (v : V), x = .ref a ∧ H1 a = some (EzO (.ref C) (some dd) a) ∧ XfC K C ∧ PySem.W.findIn K (.ref C) n = some none ∧ H1 dd = some (.xd fs) ∧ fs.lookup n = some v ∧ Q v H1
theorem pe_xk {n : Str} {te : TE} (he : PE X e te) (hb : attributeBase e n X.env (eval e X.env) = eval e X.env := by rfl) : PE X (.Attribute e n pos) (tXk X.K n te) := by
  refine ⟨fun pins s σ H Q I h => ?_⟩
  refine attr_of hb (thn (he.run pins s σ H _ I h) fun u s1 hh => ?_)
  obtain ⟨x, H1, I1, rx, a, C, dd, fs, v, ex, ha, T, hno, ea, l, q⟩ := hh
  subst ex
  obtain rfl : u = Value.ref a := rx
  obtain ⟨⟨oe, vs, hoe, hz, hd⟩, _⟩ := (show ObjOk X.prog X.w H1 s1.heap a (EzO (.ref C) (some dd) a) from I1.hok a _ ha)
  have hx : ObjOk X.prog X.w H1 s1.heap dd (.xd fs) := I1.hok dd _ ea
  obtain ⟨mA, hns, hr⟩ := hx
  obtain ⟨od, ho, hl⟩ := lookIn_ns hns
  obtain ⟨u, hu, ru⟩ := RelO.some_of (v := v) (o := mA n) (by rw [← l]; exact hr n)
  have J : PySem.W.InstAt s1.heap a oe C (some od) := ⟨hoe, hz.1, by unfold PySem.W.notCls; rw [hd] <;> rfl, by rw [hz.2]; exact ho⟩
  exact HandSPX.exc_get I1.kIn J T.ga T.gg T.exC (PySem.W.findObj_own T.hdC hno rfl (by rw [hl, hu])) (handed_of ru) ⟨v, H1, I1.tok _, ru, q⟩
/-- isinstance(e, T), e a tracked error with or without a dict of its own -/
def XdAt (H : Hp) (d : Option Addr) : Prop := match d with
  | none => True
  | some dd => ∃ fs, H dd = some (.xd fs)
def rIsXd (K : PySem.W.Frag) : List V → Hp → VK → Prop := fun xs H Q => ∃ (a D : Addr) (d : Option Addr) (c : V) (cv : Value) (b : Bool),
  xs = [.ref a, c] ∧ H a = some (EzO (.ref D) d a) ∧ XdAt H d ∧ ExcC K D ∧ ClsV c cv ∧ PySem.W.kitOne K (.ref D) cv = some b ∧ Q (.bl b) H
theorem ezO_instd {pins : List (Addr × Obj)} {σ : L2.St} {H : Hp} {s : Shared} {a D : Addr} {d : Option Addr} (I : Inv X pins σ H s) (h : H a = some (EzO (.ref D) d a)) (hd : XdAt H d) : ∃ oe od, PySem.W.InstAt s.heap a oe D od := by
  cases d with
  | none =>
    obtain ⟨oe, J⟩ := ezO_inst I h
    exact ⟨oe, none, J⟩
  | some dd =>
    obtain ⟨fs, ea⟩ := hd
    obtain ⟨⟨oe, vs, hoe, hz, hd⟩, _⟩ := (show ObjOk X.prog X.w H s.heap a (EzO (.ref D) (some dd) a) from I.hok a _ h)
    have hx : ObjOk X.prog X.w H s.heap dd (.xd fs) := I.hok dd _ ea
    obtain ⟨mA, hns, hr⟩ := hx
    obtain ⟨od, ho, hl⟩ := lookIn_ns hns
    exact ⟨oe, some od, hoe, hz.1, by unfold PySem.W.notCls; rw [hd] <;> rfl, by rw [hz.2]; exact ho⟩
theorem call_isXd : CallR X (.builtin "isinstance") (rIsXd X.K) := by
  intro pins s σ H xs us Q I r h
  obtain ⟨a, D, d, c, cv, b, rfl, hH, hd, C, k, e, q⟩ := h
  obtain ⟨u1, u2, rfl, r1, r2⟩ := vals2 r
  have e2 := k.eq r2
  subst e2
  cases r1
  obtain ⟨oe, od, J⟩ := ezO_instd I hH hd
  have hcl : (PySem.W.clsIn X.K D).isSome = true := by obtain ⟨cd, hc, _⟩ := PySem.W.any_some C.hd; rw [hc]; rfl
  exact PySem.W.kia_one (PySem.W.kitx_exc hcl C.hg C.hk C.hs C.ha C.hn C.ht C.hm) I.kIn J e (fun z => nomatch z)
    fun tk => ⟨.bl b, H, I.tok tk, rfl, q⟩
theorem call_isXdK {K : PySem.W.Frag} (h : X.K = K) : CallR X (.builtin "isinstance") (rIsXd K) := by
  subst h
  exact call_isXd
end
/-! ### dicts of names and numbers -/
theorem val_seen (s : List Nat) : ∀ l : List Pr, valV (numsK l) (kT (SX.S s)) = (seen l s).map V.int
  | [] => rfl
  | p :: l => by
    rw [seen_cons]
    by_cases c : p.1 = s
    · rw [show numsK (p :: l) = (kT (SX.S p.1), V.int p.2) :: numsK l from rfl, valV_pos (by rw [c]), if_pos c]
      rfl
    · rw [show numsK (p :: l) = (kT (SX.S p.1), V.int p.2) :: numsK l from rfl, valV_neg (fun z => c (kS_inj z)), val_seen s l, if_neg c]
theorem nums_put {l : List Pr} {s : List Nat} {v : Int} (h : seen l s = none) : putK (numsK l) (kT (SX.S s)) (.int v) = numsK (l ++ [(s, v)]) := by
  rw [putK_new _ (by rw [val_seen, h]; rfl)]
  unfold numsK
  rw [List.map_append]
  rfl
theorem numsK_len (l : List Pr) : (numsK l).length = l.length := by unfold numsK; rw [List.length_map]
/-! ### worth_by: a recipe's worth by what a handed function tells of names -/
open LamX NdefX
inductive XErr where
  | noName (s : List Nat)
  | ring (l : List (List Nat))
inductive OutR (S : Type) where
  | ok (v : Int) (s : S)
  | err (e : XErr)
def OutR.bind {S : Type} (r : OutR S) (f : Int → S → OutR S) : OutR S := match r with
  | .ok v s => f v s
  | .err e => .err e
theorem OutR.bind_ok {S : Type} {r : OutR S} {f : Int → S → OutR S} {v : Int} {s : S} (h : r.bind f = .ok v s) : ∃ x t, r = .ok x t ∧ f x t = .ok v s := by
  cases r with
  | ok x t => exact ⟨x, t, rfl, h⟩
  | err e => cases h
/-- a recipe gone through, each name's worth by lk -/
def wk {S : Type} (lk : S → List Nat → OutR S) : Rcp → S → OutR S
  | .num v, s => .ok v s
  | .read t, s => lk s t
  | .two k a b, s => (wk lk a s).bind fun x s1 => (wk lk b s1).bind fun y s2 => .ok (k.ap x y) s2
  | .pick a b c, s => (wk lk a s).bind fun x s1 => if x > 0 then wk lk b s1 else wk lk c s1
  | .choose a ns, s => (wk lk a s).bind fun x s1 => lk s1 (nthN ns x)
/-- names fine -/
def Rcp.Wn : Rcp → Prop
  | .num _ => True
  | .read s => Nm s
  | .two _ a b => a.Wn ∧ b.Wn
  | .pick a b c => a.Wn ∧ b.Wn ∧ c.Wn
  | .choose a ns => a.Wn ∧ Nms ns
theorem good_wn : ∀ {r : Rcp}, r.Good → r.Wn
  | .num _, _ => trivial
  | .read _, h => h
  | .two _ _ _, h => ⟨good_wn h.1, good_wn h.2⟩
  | .pick _ _ _, h => ⟨good_wn h.1, good_wn h.2.1, good_wn h.2.2⟩
  | .choose _ _, h => ⟨good_wn h.1, h.2⟩
/-- a bound of the bits of what a recipe comes to, the reads below 2 ^ b -/
def Rcp.bits (b : Nat) : Rcp → Nat
  | .num n => n.natAbs.log2 + 1
  | .read _ => b
  | .two .times x y => x.bits b + y.bits b
  | .two .most x y => max (x.bits b) (y.bits b)
  | .two _ x y => max (x.bits b) (y.bits b) + 1
  | .pick x y z => max (x.bits b) (max (y.bits b) (z.bits b))
  | .choose x _ => max (x.bits b) b
theorem bits_pos {b : Nat} (hb : 0 < b) : ∀ r : Rcp, 0 < r.bits b
  | .num _ => Nat.succ_pos _
  | .read _ => hb
  | .two k x y => by
    have hx := bits_pos hb x
    have hy := bits_pos hb y
    cases k <;> simp only [Rcp.bits] <;> omega
  | .pick x y z => by
    have hx := bits_pos hb x
    simp only [Rcp.bits]; omega
  | .choose x _ => by simp only [Rcp.bits]; omega
theorem bits_sub {b : Nat} {k : Kd} {x y : Rcp} : x.bits b ≤ (Rcp.two k x y).bits b ∧ y.bits b ≤ (Rcp.two k x y).bits b := by
  cases k <;> simp only [Rcp.bits] <;> omega
theorem pow_mono {a b n : Nat} (h : n < 2 ^ a) (le : a ≤ b) : n < 2 ^ b := Nat.lt_of_lt_of_le h (Nat.pow_le_pow_right (by decide) le)
theorem max_small {x y : Int} {b : Nat} (hx : x.natAbs < 2 ^ b) (hy : y.natAbs < 2 ^ b) : (if y > x then y else x).natAbs < 2 ^ b := by split <;> assumption
theorem ap_bits {b : Nat} {k : Kd} {x y : Rcp} {v w : Int} (hx : v.natAbs < 2 ^ x.bits b) (hy : w.natAbs < 2 ^ y.bits b) : (k.ap v w).natAbs < 2 ^ (Rcp.two k x y).bits b := by
  have hx' := pow_mono hx (Nat.le_max_left _ (y.bits b))
  have hy' := pow_mono hy (Nat.le_max_right (x.bits b) _)
  cases k with
  | plus =>
    show (v + w).natAbs < 2 ^ (max (x.bits b) (y.bits b) + 1)
    rw [Nat.pow_succ]
    omega
  | minus =>
    show (v - w).natAbs < 2 ^ (max (x.bits b) (y.bits b) + 1)
    rw [Nat.pow_succ]
    omega
  | times =>
    show (v * w).natAbs < 2 ^ (x.bits b + y.bits b)
    rw [Int.natAbs_mul, Nat.pow_add]
    exact Nat.mul_lt_mul'' hx hy
  | most => exact max_small hx' hy'
/-- what a recipe comes to, the worths of names by f: no memory -/
def Rcp.Ev (f : List Nat → Int → Prop) : Rcp → Int → Prop
  | .num n, v => v = n
  | .read t, v => f t v
  | .two k x y, v => ∃ a c, x.Ev f a ∧ y.Ev f c ∧ v = k.ap a c
  | .pick x y z, v => ∃ a, x.Ev f a ∧ ((a > 0 → y.Ev f v) ∧ (¬ a > 0 → z.Ev f v))
  | .choose x ns, v => ∃ a, x.Ev f a ∧ f (nthN ns a) v
/-- no product on the way is too great for the machine -/
def Rcp.Fit (f : List Nat → Int → Prop) : Rcp → Prop
  | .num _ => True
  | .read _ => True
  | .two k x y => x.Fit f ∧ ∀ a, x.Ev f a → y.Fit f ∧ ∀ c, y.Ev f c → k = .times → CMulW a c
  | .pick x y z => x.Fit f ∧ ∀ a, x.Ev f a → ((a > 0 → y.Fit f) ∧ (¬ a > 0 → z.Fit f))
  | .choose x _ => x.Fit f
theorem Rcp.Ev.mono {f g : List Nat → Int → Prop} (hg : ∀ t x, f t x → g t x) : ∀ {r : Rcp} {v : Int}, r.Ev f v → r.Ev g v
  | .num _, v, h => h
  | .read t, v, h => hg t v h
  | .two _ _ _, v, ⟨a, c, h1, h2, e⟩ => ⟨a, c, h1.mono hg, h2.mono hg, e⟩
  | .pick _ _ _, v, ⟨a, h1, h2, h3⟩ => ⟨a, h1.mono hg, fun c => (h2 c).mono hg, fun c => (h3 c).mono hg⟩
  | .choose _ _, v, ⟨a, h1, h2⟩ => ⟨a, h1.mono hg, hg _ _ h2⟩
theorem Rcp.Fit.mono {f g : List Nat → Int → Prop} (hg : ∀ t x, f t x → g t x) : ∀ {r : Rcp}, r.Fit g → r.Fit f
  | .num _, _ => trivial
  | .read _, _ => trivial
  | .two _ _ _, ⟨h1, h2⟩ => ⟨h1.mono hg, fun a ha => ⟨(h2 a (ha.mono hg)).1.mono hg, fun c hc => (h2 a (ha.mono hg)).2 c (hc.mono hg)⟩⟩
  | .pick _ _ _, ⟨h1, h2⟩ => ⟨h1.mono hg, fun a ha => ⟨fun c => ((h2 a (ha.mono hg)).1 c).mono hg, fun c => ((h2 a (ha.mono hg)).2 c).mono hg⟩⟩
  | .choose x _, h => Fit.mono (r := x) hg h
theorem Rcp.Ev.small {f : List Nat → Int → Prop} {b : Nat} (hf : ∀ t v, f t v → v.natAbs < 2 ^ b) : ∀ {r : Rcp} {v : Int}, r.Ev f v → v.natAbs < 2 ^ r.bits b
  | .num n, v, h => by
    rw [show v = n from h]
    exact Nat.lt_log2_self
  | .read t, v, h => hf t v h
  | .two k x y, v, h => by
    obtain ⟨a, c, h1, h2, rfl⟩ := h
    exact ap_bits (h1.small hf) (h2.small hf)
  | .pick x y z, v, h => by
    obtain ⟨a, h1, h2, h3⟩ := h
    by_cases c : a > 0
    · exact pow_mono ((h2 c).small hf) (by simp only [Rcp.bits]; omega)
    · exact pow_mono ((h3 c).small hf) (by simp only [Rcp.bits]; omega)
  | .choose x ns, v, h => by
    obtain ⟨a, h1, h2⟩ := h
    exact pow_mono (hf _ _ h2) (by simp only [Rcp.bits]; omega)
theorem Rcp.Fit.of_bits {f : List Nat → Int → Prop} {b : Nat} (hb : 0 < b) (hf : ∀ t v, f t v → v.natAbs < 2 ^ b) : ∀ {r : Rcp}, r.bits b ≤ 1000000 → r.Fit f
  | .num _, _ => trivial
  | .read _, _ => trivial
  | .two k x y, h => by
    have hs := bits_sub (b := b) (k := k) (x := x) (y := y)
    refine ⟨Fit.of_bits hb hf (by omega), fun a ha => ⟨Fit.of_bits hb hf (by omega), fun c hc e => ?_⟩⟩
    subst e
    exact wide_mul (ha.small hf) (hc.small hf) (bits_pos hb x) (bits_pos hb y) h
  | .pick x y z, h => by
    have e : (Rcp.pick x y z).bits b = max (x.bits b) (max (y.bits b) (z.bits b)) := rfl
    exact ⟨Fit.of_bits hb hf (by omega), fun a _ => ⟨fun _ => Fit.of_bits hb hf (by omega), fun _ => Fit.of_bits hb hf (by omega)⟩⟩
  | .choose x ns, h => by
    have e : (Rcp.choose x ns).bits b = max (x.bits b) b := rfl
    exact Fit.of_bits (r := x) hb hf (by omega)
section
variable {S : Type} {lk : S → List Nat → OutR S} {J : S → Prop} {f : List Nat → Int → Prop}
/-- what a look keeps -/
def LkOk (lk : S → List Nat → OutR S) (J : S → Prop) (f : List Nat → Int → Prop) : Prop := ∀ s t v s', J s → Nm t → lk s t = .ok v s' → J s' ∧ f t v
theorem wk_ok (hlk : LkOk lk J f) : ∀ {r : Rcp} {s s' : S} {v : Int}, r.Wn → J s → wk lk r s = .ok v s' → J s' ∧ r.Ev f v
  | .num n, s, s', v, _, hj, h => by
    cases h
    exact ⟨hj, rfl⟩
  | .read t, s, s', v, hw, hj, h => hlk s t v s' hj hw h
  | .two k x y, s, s', v, hw, hj, h => by
    obtain ⟨a, s1, h1, h2⟩ := OutR.bind_ok h
    obtain ⟨c, s2, h3, h4⟩ := OutR.bind_ok h2
    cases h4
    obtain ⟨j1, b1⟩ := wk_ok hlk hw.1 hj h1
    obtain ⟨j2, b2⟩ := wk_ok hlk hw.2 j1 h3
    exact ⟨j2, a, c, b1, b2, rfl⟩
  | .pick x y z, s, s', v, hw, hj, h => by
    obtain ⟨a, s1, h1, h2⟩ := OutR.bind_ok h
    obtain ⟨j1, b1⟩ := wk_ok hlk hw.1 hj h1
    by_cases c : a > 0
    · simp only [if_pos c] at h2
      obtain ⟨j2, b2⟩ := wk_ok hlk hw.2.1 j1 h2
      exact ⟨j2, a, b1, fun _ => b2, fun n => absurd c n⟩
    · simp only [if_neg c] at h2
      obtain ⟨j2, b2⟩ := wk_ok hlk hw.2.2 j1 h2
      exact ⟨j2, a, b1, fun n => absurd n c, fun _ => b2⟩
  | .choose x ns, s, s', v, hw, hj, h => by
    obtain ⟨a, s1, h1, h2⟩ := OutR.bind_ok h
    obtain ⟨j1, b1⟩ := wk_ok hlk hw.1 hj h1
    obtain ⟨i, _, hi⟩ := nth_mem hw.2.1 a
    obtain ⟨j2, b2⟩ := hlk s1 _ v s' j1 (hw.2.2.2 _ (List.mem_of_getElem? hi)) h2
    exact ⟨j2, a, b1, b2⟩
end
/-- how the memory changes while names are looked for: what is not the reckoner's stays -/
structure FrOk {S : Type} (At : S → Hp → Prop) (Fr : Hp → Hp → Prop) : Prop where
  refl : ∀ H, Fr H H
  trans : ∀ {A B C}, Fr A B → Fr B C → Fr A C
  keep : ∀ {s H H'}, At s H → Fr H H' → Keep H H'
  ext : ∀ {s H H' b phi}, At s H → Fr H H' → H b = some (.ext phi) → H' b = some (.ext phi)
def TellW {S : Type} (At : S → Hp → Prop) (Fr : Hp → Hp → Prop) (Er : XErr → XK → Hp → Prop) (Q : VK) (E : XK) (H : Hp) : OutR S → Prop
  | .ok v s => ∀ H', Fr H H' → At s H' → Q (.int v) H'
  | .err x => ∀ H', Fr H H' → Er x E H'
theorem TellW.from {S : Type} {At : S → Hp → Prop} {Fr : Hp → Hp → Prop} {Er : XErr → XK → Hp → Prop} {Q : VK} {E : XK} {H H1 : Hp} {o : OutR S} (F : FrOk At Fr) (h : TellW At Fr Er Q E H o) (f : Fr H H1) : TellW At Fr Er Q E H1 o := by
  cases o with
  | ok v s => exact fun H' g a => h H' (F.trans f g) a
  | err x => exact fun H' g => h H' (F.trans f g)
/-- the promise of the handed function -/
def spLk {S : Type} (At : S → Hp → Prop) (Fr : Hp → Hp → Prop) (Er : XErr → XK → Hp → Prop) (J : S → Prop) (lk : S → List Nat → OutR S) (WS : List (Option V)) : List (Option V) → Sp := fun ws vs H Q E => ws = WS ∧ ∃ (t : List Nat) (s : S), vs = [.str (SX.S t)] ∧ At s H ∧ J s ∧ Nm t ∧ TellW At Fr Er Q E H (lk s t)
def spWB {S : Type} (At : S → Hp → Prop) (Fr : Hp → Hp → Prop) (Er : XErr → XK → Hp → Prop) (J : S → Prop) (lk : S → List Nat → OutR S) (f : Addr) (F : NF) (g : List Nat → Int → Prop) (j : Nat) : Sp := fun vs H Q E => ∃ (v : V) (r : Rcp) (s : S), vs = [v, .ref f] ∧ Rec H r v ∧ r.Wn ∧ r.dep ≤ j ∧ r.Fit g ∧ At s H ∧ J s ∧
  H f = some (FnO f F) ∧ H F.c = some (CodeO F.c F.qual) ∧ TellW At Fr Er Q E H (wk lk r s)
def spPut : Sp := fun vs H Q _ => ∃ (k : Kd) (x y : Int), vs = [.str k.name, .int x, .int y] ∧ (k = .times → CMulW x y) ∧ Q (.int (k.ap x y)) H
theorem dep1 {k : Kd} {a b : Rcp} {j : Nat} (h : (Rcp.two k a b).dep ≤ j + 1) : a.dep ≤ j ∧ b.dep ≤ j := by
  have e : (Rcp.two k a b).dep = max a.dep b.dep + 1 := rfl
  omega
section
variable {P : Program} {w : World} {K : PySem.W.Frag} {mg : Str → Option Value} {base : Heap}
end
/-! ### the reckoner: plain facts -/
theorem sub_lenR {α : Type} [DecidableEq α] : ∀ {l m : List α}, l.Nodup → (∀ x ∈ l, x ∈ m) → l.length ≤ m.length
  | [], _, _, _ => Nat.zero_le _
  | a :: l, m, nd, h => by
    obtain ⟨h1, h2⟩ := List.nodup_cons.mp nd
    have ha := h a (List.mem_cons_self ..)
    have := sub_lenR (m := m.erase a) h2 fun x hx => (List.mem_erase_of_ne (fun e => h1 (by rw [← e]; exact hx))).mpr (h x (List.mem_cons_of_mem _ hx))
    rw [List.length_erase_of_mem ha] at this
    have : 0 < m.length := List.length_pos_of_mem ha
    show l.length + 1 ≤ m.length
    omega
abbrev RcpNm := List Nat × Rcp
structure House where
  given : List Pr
  recs : List RcpNm
def rcpOf (l : List RcpNm) (s : List Nat) : Option Rcp := (l.find? fun p => decide (p.1 = s)).map (·.2)
/-- worths known, what was read for them, what is being looked for -/
structure RkS where
  known : List Pr
  read : List (List Nat × List Pr)
  asked : List (List Nat)
/-- a key's worth put down, where it stood or behind -/
def putA {α : Type} (l : List (List Nat × α)) (s : List Nat) (v : α) : List (List Nat × α) := if (l.any fun p => decide (p.1 = s)) = true then l.map (fun p => if p.1 = s then (p.1, v) else p) else l ++ [(s, v)]
def setd (own : List Pr) (t : List Nat) (v : Int) : List Pr := match seen own t with
  | some _ => own
  | none => putA own t v
def lkOwn (lk : RkS → List Nat → OutR RkS) (p : RkS × List Pr) (t : List Nat) : OutR (RkS × List Pr) := match lk p.1 t with
  | .ok v s => .ok v (s, setd p.2 t v)
  | .err e => .err e
def lkR (h : House) : Nat → RkS → List Nat → OutR RkS
  | 0, _, _ => .err (.ring [])
  | n + 1, s, t => match seen s.known t with
    | some v => .ok v s
    | none => match seen h.given t with
      | some v => .ok v { s with known := putA s.known t v }
      | none => match rcpOf h.recs t with
        | none => .err (.noName t)
        | some r => if t ∈ s.asked then .err (.ring (s.asked.drop (s.asked.idxOf t) ++ [t])) else
          match wk (lkOwn (lkR h n)) r ({ s with asked := s.asked ++ [t] }, []) with
          | .ok v p => .ok v { known := putA p.1.known t v, read := putA p.1.read t p.2, asked := p.1.asked.dropLast }
          | .err e => .err e
theorem putA_new {α : Type} {l : List (List Nat × α)} {s : List Nat} (v : α) (h : ¬ s ∈ l.map (·.1)) : putA l s v = l ++ [(s, v)] := by
  unfold putA
  rw [if_neg]
  intro z
  obtain ⟨p, hp, e⟩ := List.any_eq_true.mp z
  exact h (List.mem_map.mpr ⟨p, hp, of_decide_eq_true e⟩)
theorem putA_keys {α : Type} (l : List (List Nat × α)) (s : List Nat) (v : α) : (putA l s v).map (·.1) = if s ∈ l.map (·.1) then l.map (·.1) else l.map (·.1) ++ [s] := by
  unfold putA
  by_cases h : s ∈ l.map (·.1)
  · rw [if_pos h, if_pos]
    · rw [List.map_map]
      refine List.map_congr_left fun p _ => ?_
      show (if p.1 = s then (p.1, v) else p).1 = p.1
      split <;> rfl
    · obtain ⟨p, hp, e⟩ := List.mem_map.mp h
      exact List.any_eq_true.mpr ⟨p, hp, decide_eq_true e⟩
  · rw [if_neg h, if_neg, List.map_append]
    · rfl
    · intro z
      obtain ⟨p, hp, e⟩ := List.any_eq_true.mp z
      exact h (List.mem_map.mpr ⟨p, hp, of_decide_eq_true e⟩)
theorem putA_len {α : Type} (l : List (List Nat × α)) (s : List Nat) (v : α) : (putA l s v).length = if s ∈ l.map (·.1) then l.length else l.length + 1 := by
  have := congrArg List.length (putA_keys l s v)
  rw [List.length_map] at this
  rw [this]
  split
  · rw [List.length_map]
  · rw [List.length_append, List.length_map]; rfl
theorem mem_putA {α : Type} {l : List (List Nat × α)} {s : List Nat} {v : α} {p : List Nat × α} (h : p ∈ putA l s v) : p = (s, v) ∨ p ∈ l := by
  unfold putA at h
  split at h
  · obtain ⟨q, hq, e⟩ := List.mem_map.mp h
    by_cases c : q.1 = s
    · rw [if_pos c] at e
      exact .inl (by rw [← e, c])
    · rw [if_neg c] at e
      exact .inr (e ▸ hq)
  · exact (List.mem_append.mp h).elim .inr fun h => .inl (List.mem_singleton.mp h)
theorem rcpOf_mem {l : List RcpNm} {s : List Nat} {r : Rcp} (h : rcpOf l s = some r) : (s, r) ∈ l := by
  unfold rcpOf at h
  cases e : l.find? fun p => decide (p.1 = s) with
  | none => rw [e] at h; cases h
  | some p =>
    rw [e] at h
    have h1 := List.mem_of_find?_eq_some e
    have h2 : p.1 = s := by
      have := List.find?_some e
      exact of_decide_eq_true this
    have h3 : p.2 = r := Option.some.inj h
    rw [← h2, ← h3]
    exact h1
/-! #### growth: how great the worths become -/
theorem bits_mono {a b : Nat} (h : a ≤ b) : ∀ r : Rcp, r.bits a ≤ r.bits b
  | .num _ => Nat.le_refl _
  | .read _ => h
  | .two k x y => by
    have hx := bits_mono h x
    have hy := bits_mono h y
    cases k <;> simp only [Rcp.bits] <;> omega
  | .pick x y z => by
    have hx := bits_mono h x
    have hy := bits_mono h y
    have hz := bits_mono h z
    simp only [Rcp.bits]; omega
  | .choose x _ => by
    have hx := bits_mono h x
    simp only [Rcp.bits]; omega
theorem putA_nd {α : Type} {l : List (List Nat × α)} {s : List Nat} {v : α} (h : (l.map (·.1)).Nodup) : ((putA l s v).map (·.1)).Nodup := by
  rw [putA_keys]
  split
  · exact h
  · rename_i c
    exact List.nodup_append.mpr ⟨h, List.nodup_cons.mpr ⟨(fun z => nomatch z), List.nodup_nil⟩, fun a ha b hb e => c (by rw [List.mem_singleton.mp hb] at e; rw [← e]; exact ha)⟩
theorem putA_mem {α : Type} {l : List (List Nat × α)} {s u : List Nat} {v : α} : u ∈ (putA l s v).map (·.1) ↔ u ∈ l.map (·.1) ∨ u = s := by
  rw [putA_keys]
  split
  · rename_i c
    exact ⟨.inl, fun h => h.elim id fun e => by rw [e]; exact c⟩
  · rw [List.mem_append, List.mem_singleton]
theorem mem_setd {own : List Pr} {t : List Nat} {v : Int} {q : Pr} (h : q ∈ setd own t v) : q = (t, v) ∨ q ∈ own := by
  unfold setd at h
  split at h
  · exact .inr h
  · exact mem_putA h
/-! ### worths by themselves: no memory of what was asked -/
theorem bind_okI {S : Type} {r : OutR S} {f : Int → S → OutR S} {x : Int} {s : S} (h : r = .ok x s) : r.bind f = f x s := by rw [h]; rfl
def dnL (f : List Nat → Option Int) (o : List Pr) (t : List Nat) : OutR (List Pr) := match f t with
  | some v => .ok v (setd o t v)
  | none => .err (.noName t)
def val (h : House) : Nat → List Nat → Option Int
  | 0, _ => none
  | n + 1, t => match seen h.given t with
    | some v => some v
    | none => match rcpOf h.recs t with
      | none => none
      | some r => match wk (dnL (val h n)) r [] with
        | .ok v _ => some v
        | .err _ => none
theorem dnL_ok {f : List Nat → Option Int} {o o' : List Pr} {t : List Nat} {v : Int} (h : dnL f o t = .ok v o') : f t = some v ∧ o' = setd o t v := by
  unfold dnL at h
  cases e : f t with
  | none => rw [e] at h; cases h
  | some x => rw [e] at h; cases h; exact ⟨rfl, rfl⟩
theorem dnL_some {f : List Nat → Option Int} {t : List Nat} {v : Int} (h : f t = some v) (o : List Pr) : dnL f o t = .ok v (setd o t v) := by unfold dnL; rw [h]
theorem seen_key {l : List Pr} {t : List Nat} {v : Int} (h : seen l t = some v) : t ∈ l.map (·.1) := List.mem_map.mpr ⟨_, seen_mem h, rfl⟩
theorem setd_keys {o : List Pr} {t u : List Nat} {v : Int} : u ∈ (setd o t v).map (·.1) ↔ u ∈ o.map (·.1) ∨ u = t := by
  unfold setd
  cases e : seen o t with
  | some x => exact ⟨.inl, fun h => h.elim id fun e2 => by rw [e2]; exact seen_key e⟩
  | none => exact putA_mem
/-- what is read grows; only what is read matters -/
theorem wk_agree {f : List Nat → Option Int} : ∀ {r : Rcp} {o o' : List Pr} {v : Int}, wk (dnL f) r o = .ok v o' → (∀ u ∈ o.map (·.1), u ∈ o'.map (·.1)) ∧ ∀ g : List Nat → Option Int, (∀ t x, f t = some x → t ∈ o'.map (·.1) → g t = some x) → wk (dnL g) r o = .ok v o' := by
  have look : ∀ {t : List Nat} {o o' : List Pr} {v : Int}, dnL f o t = .ok v o' → (∀ u ∈ o.map (·.1), u ∈ o'.map (·.1)) ∧ ∀ g : List Nat → Option Int, (∀ t x, f t = some x → t ∈ o'.map (·.1) → g t = some x) → dnL g o t = .ok v o' := by
    intro t o o' v h
    obtain ⟨e, rfl⟩ := dnL_ok h
    exact ⟨fun u hu => setd_keys.mpr (.inl hu), fun g hg => dnL_some (hg t v e (setd_keys.mpr (.inr rfl))) o⟩
  intro r
  induction r with
  | num n => intro o o' v h; cases h; exact ⟨fun _ h => h, fun g _ => rfl⟩
  | read t => exact fun h => look h
  | two k a b ia ib =>
    intro o o' v h
    obtain ⟨x, o1, h1, h2⟩ := OutR.bind_ok h
    obtain ⟨y, o2, h3, h4⟩ := OutR.bind_ok h2
    cases h4
    obtain ⟨k1, g1⟩ := ia h1
    obtain ⟨k2, g2⟩ := ib h3
    exact ⟨fun u hu => k2 u (k1 u hu), fun g hg => by
      show (wk (dnL g) a o).bind _ = _
      rw [bind_okI (g1 g fun t x e ht => hg t x e (k2 t ht)), bind_okI (g2 g hg)]⟩
  | pick a b c ia ib ic =>
    intro o o' v h
    obtain ⟨x, o1, h1, h2⟩ := OutR.bind_ok h
    obtain ⟨k1, g1⟩ := ia h1
    by_cases z : x > 0
    · simp only [if_pos z] at h2
      obtain ⟨k2, g2⟩ := ib h2
      exact ⟨fun u hu => k2 u (k1 u hu), fun g hg => by
        show (wk (dnL g) a o).bind _ = _
        rw [bind_okI (g1 g fun t x e ht => hg t x e (k2 t ht)), if_pos z, g2 g hg]⟩
    · simp only [if_neg z] at h2
      obtain ⟨k2, g2⟩ := ic h2
      exact ⟨fun u hu => k2 u (k1 u hu), fun g hg => by
        show (wk (dnL g) a o).bind _ = _
        rw [bind_okI (g1 g fun t x e ht => hg t x e (k2 t ht)), if_neg z, g2 g hg]⟩
  | choose a ns ia =>
    intro o o' v h
    obtain ⟨x, o1, h1, h2⟩ := OutR.bind_ok h
    obtain ⟨k1, g1⟩ := ia h1
    obtain ⟨k2, g2⟩ := look h2
    exact ⟨fun u hu => k2 u (k1 u hu), fun g hg => by
      show (wk (dnL g) a o).bind _ = _
      rw [bind_okI (g1 g fun t x e ht => hg t x e (k2 t ht)), g2 g hg]⟩
theorem wk_mono {f g : List Nat → Option Int} (hg : ∀ t x, f t = some x → g t = some x) {r : Rcp} {o o' : List Pr} {v : Int} (h : wk (dnL f) r o = .ok v o') : wk (dnL g) r o = .ok v o' := (wk_agree h).2 g fun t x e _ => hg t x e
/-- what is read was told by f -/
theorem wk_told {f : List Nat → Option Int} : ∀ {r : Rcp} {o o' : List Pr} {v : Int}, (∀ p ∈ o, f p.1 = some p.2) → wk (dnL f) r o = .ok v o' → ∀ p ∈ o', f p.1 = some p.2 := by
  have look : ∀ {t : List Nat} {o o' : List Pr} {v : Int}, (∀ p ∈ o, f p.1 = some p.2) → dnL f o t = .ok v o' → ∀ p ∈ o', f p.1 = some p.2 := by
    intro t o o' v ho h p hp
    obtain ⟨e, rfl⟩ := dnL_ok h
    rcases mem_setd hp with rfl | hp
    · exact e
    · exact ho p hp
  intro r
  induction r with
  | num n => intro o o' v ho h; cases h; exact ho
  | read t => exact fun ho h => look ho h
  | two k a b ia ib =>
    intro o o' v ho h
    obtain ⟨x, o1, h1, h2⟩ := OutR.bind_ok h
    obtain ⟨y, o2, h3, h4⟩ := OutR.bind_ok h2
    cases h4
    exact ib (ia ho h1) h3
  | pick a b c ia ib ic =>
    intro o o' v ho h
    obtain ⟨x, o1, h1, h2⟩ := OutR.bind_ok h
    by_cases z : x > 0
    · simp only [if_pos z] at h2
      exact ib (ia ho h1) h2
    · simp only [if_neg z] at h2
      exact ic (ia ho h1) h2
  | choose a ns ia =>
    intro o o' v ho h
    obtain ⟨x, o1, h1, h2⟩ := OutR.bind_ok h
    exact look (ia ho h1) h2
theorem setd_nd {o : List Pr} {t : List Nat} {v : Int} (h : (o.map (·.1)).Nodup) : ((setd o t v).map (·.1)).Nodup := by
  unfold setd
  cases e : seen o t with
  | some x => exact h
  | none => exact putA_nd h
theorem wk_nd {f : List Nat → Option Int} : ∀ {r : Rcp} {o o' : List Pr} {v : Int}, (o.map (·.1)).Nodup → wk (dnL f) r o = .ok v o' → (o'.map (·.1)).Nodup := by
  have look : ∀ {t : List Nat} {o o' : List Pr} {v : Int}, (o.map (·.1)).Nodup → dnL f o t = .ok v o' → (o'.map (·.1)).Nodup := by
    intro t o o' v ho h
    obtain ⟨e, rfl⟩ := dnL_ok h
    exact setd_nd ho
  intro r
  induction r with
  | num n => intro o o' v ho h; cases h; exact ho
  | read t => exact fun ho h => look ho h
  | two k a b ia ib =>
    intro o o' v ho h
    obtain ⟨x, o1, h1, h2⟩ := OutR.bind_ok h
    obtain ⟨y, o2, h3, h4⟩ := OutR.bind_ok h2
    cases h4
    exact ib (ia ho h1) h3
  | pick a b c ia ib ic =>
    intro o o' v ho h
    obtain ⟨x, o1, h1, h2⟩ := OutR.bind_ok h
    by_cases z : x > 0
    · simp only [if_pos z] at h2
      exact ib (ia ho h1) h2
    · simp only [if_neg z] at h2
      exact ic (ia ho h1) h2
  | choose a ns ia =>
    intro o o' v ho h
    obtain ⟨x, o1, h1, h2⟩ := OutR.bind_ok h
    exact look (ia ho h1) h2
theorem val_succ {h : House} {n : Nat} {t : List Nat} : val h (n + 1) t = match seen h.given t with
    | some v => some v
    | none => match rcpOf h.recs t with
      | none => none
      | some r => match wk (dnL (val h n)) r [] with
        | .ok v _ => some v
        | .err _ => none := rfl
theorem val_mono {h : House} : ∀ {n : Nat} {t : List Nat} {v : Int}, val h n t = some v → val h (n + 1) t = some v
  | 0, t, v, e => by cases e
  | n + 1, t, v, e => by
    rw [val_succ] at e ⊢
    cases e1 : seen h.given t with
    | some x => rw [e1] at e; exact e
    | none =>
      rw [e1] at e
      cases e2 : rcpOf h.recs t with
      | none => rw [e2] at e; cases e
      | some r =>
        rw [e2] at e
        cases e3 : wk (dnL (val h n)) r [] with
        | err x => simp only [e3] at e; cases e
        | ok w o =>
          simp only [e3] at e
          simp only [wk_mono (fun t x e => val_mono e) e3]
          exact e
theorem val_le {h : House} {t : List Nat} {v : Int} {n m : Nat} (le : n ≤ m) (e : val h n t = some v) : val h m t = some v := by
  induction le with
  | refl => exact e
  | step _ ih => exact val_mono ih
def Val (h : House) (t : List Nat) (v : Int) : Prop := ∃ n, val h n t = some v
theorem Val.det {h : House} {t : List Nat} {v w : Int} (a : Val h t v) (b : Val h t w) : v = w := by
  obtain ⟨n, a⟩ := a
  obtain ⟨m, b⟩ := b
  have := (val_le (Nat.le_max_left n m) a).symm.trans (val_le (Nat.le_max_right n m) b)
  exact Option.some.inj this
def Rds (h : House) (t : List Nat) (own : List Pr) : Prop := seen h.given t = none ∧ ∃ r n v, rcpOf h.recs t = some r ∧ wk (dnL (val h n)) r [] = .ok v own
theorem Rds.det {h : House} {t : List Nat} {v w : List Pr} (a : Rds h t v) (b : Rds h t w) : v = w := by
  obtain ⟨_, r, n, x, e1, a⟩ := a
  obtain ⟨_, r2, m, y, e2, b⟩ := b
  obtain rfl : r = r2 := Option.some.inj (e1.symm.trans e2)
  have := (wk_mono (fun _ _ e => val_le (Nat.le_max_left n m) e) a).symm.trans (wk_mono (fun _ _ e => val_le (Nat.le_max_right n m) e) b)
  cases this
  rfl
theorem Rds.val {h : House} {t : List Nat} {own : List Pr} (a : Rds h t own) : ∀ p ∈ own, Val h p.1 p.2 := by
  obtain ⟨_, r, n, x, e1, a⟩ := a
  exact fun p hp => ⟨n, wk_told (fun p (h : p ∈ ([] : List Pr)) => nomatch h) a p hp⟩
theorem Rds.nd {h : House} {t : List Nat} {own : List Pr} (a : Rds h t own) : (own.map (·.1)).Nodup := by
  obtain ⟨_, r, n, x, e1, a⟩ := a
  exact wk_nd (o := []) List.nodup_nil a
theorem Val.given {h : House} {t : List Nat} {v : Int} (e : seen h.given t = some v) : Val h t v := ⟨1, by rw [val_succ, e]⟩
theorem Val.work {h : House} {t : List Nat} {v : Int} {r : Rcp} {n : Nat} {own : List Pr} (e : seen h.given t = none) (e2 : rcpOf h.recs t = some r) (e3 : wk (dnL (val h n)) r [] = .ok v own) : Val h t v := ⟨n + 1, by rw [val_succ, e, e2]; simp only [e3]⟩
/-- a name with a worth is given, or worked with what it reads -/
theorem Val.rds {h : House} {t : List Nat} {v : Int} (a : Val h t v) (e : seen h.given t = none) : ∃ own, Rds h t own ∧ ∃ r n, rcpOf h.recs t = some r ∧ wk (dnL (val h n)) r [] = .ok v own := by
  obtain ⟨n, a⟩ := a
  cases n with
  | zero => cases a
  | succ n =>
    rw [val_succ, e] at a
    cases e2 : rcpOf h.recs t with
    | none => rw [e2] at a; cases a
    | some r =>
      rw [e2] at a
      cases e3 : wk (dnL (val h n)) r [] with
      | err x => simp only [e3] at a; cases a
      | ok w o =>
        simp only [e3] at a
        cases a
        exact ⟨o, ⟨e, r, n, v, e2, e3⟩, r, n, rfl, e3⟩
theorem Ev_wk {h : House} : ∀ {r : Rcp} {v : Int}, r.Ev (Val h) v → ∀ o, ∃ n o', wk (dnL (val h n)) r o = .ok v o'
  | .num n, v, e, o => ⟨0, o, by rw [show v = n from e]; rfl⟩
  | .read t, v, ⟨n, e⟩, o => ⟨n, _, dnL_some e o⟩
  | .two k x y, v, ⟨a, c, h1, h2, e⟩, o => by
    obtain ⟨n1, o1, g1⟩ := Ev_wk h1 o
    obtain ⟨n2, o2, g2⟩ := Ev_wk h2 o1
    refine ⟨max n1 n2, o2, ?_⟩
    show (wk (dnL _) x o).bind _ = _
    rw [bind_okI (wk_mono (fun _ _ e => val_le (Nat.le_max_left _ _) e) g1), bind_okI (wk_mono (fun _ _ e => val_le (Nat.le_max_right _ _) e) g2), e]
  | .pick x y z, v, ⟨a, h1, h2, h3⟩, o => by
    obtain ⟨n1, o1, g1⟩ := Ev_wk h1 o
    by_cases c : a > 0
    · obtain ⟨n2, o2, g2⟩ := Ev_wk (h2 c) o1
      refine ⟨max n1 n2, o2, ?_⟩
      show (wk (dnL _) x o).bind _ = _
      rw [bind_okI (wk_mono (fun _ _ e => val_le (Nat.le_max_left _ _) e) g1), if_pos c, wk_mono (fun _ _ e => val_le (Nat.le_max_right _ _) e) g2]
    · obtain ⟨n2, o2, g2⟩ := Ev_wk (h3 c) o1
      refine ⟨max n1 n2, o2, ?_⟩
      show (wk (dnL _) x o).bind _ = _
      rw [bind_okI (wk_mono (fun _ _ e => val_le (Nat.le_max_left _ _) e) g1), if_neg c, wk_mono (fun _ _ e => val_le (Nat.le_max_right _ _) e) g2]
  | .choose x ns, v, ⟨a, h1, n2, e⟩, o => by
    obtain ⟨n1, o1, g1⟩ := Ev_wk h1 o
    refine ⟨max n1 n2, setd o1 (nthN ns a) v, ?_⟩
    show (wk (dnL _) x o).bind _ = _
    rw [bind_okI (wk_mono (fun _ _ e => val_le (Nat.le_max_left _ _) e) g1), dnL_some (val_le (Nat.le_max_right _ _) e) o1]
theorem wk_ev {f : List Nat → Option Int} : ∀ {r : Rcp} {o o' : List Pr} {v : Int}, wk (dnL f) r o = .ok v o' → r.Ev (fun t x => f t = some x ∧ t ∈ o'.map (·.1)) v := by
  have look : ∀ {t : List Nat} {o o' : List Pr} {v : Int}, dnL f o t = .ok v o' → f t = some v ∧ t ∈ o'.map (·.1) := by
    intro t o o' v h
    obtain ⟨e, rfl⟩ := dnL_ok h
    exact ⟨e, setd_keys.mpr (.inr rfl)⟩
  intro r
  induction r with
  | num n => intro o o' v h; cases h; rfl
  | read t => exact fun h => look h
  | two k a b ia ib =>
    intro o o' v h
    obtain ⟨x, o1, h1, h2⟩ := OutR.bind_ok h
    obtain ⟨y, o2, h3, h4⟩ := OutR.bind_ok h2
    cases h4
    have k2 := (wk_agree h3).1
    exact ⟨x, y, (ia h1).mono fun t x e => ⟨e.1, k2 t e.2⟩, ib h3, rfl⟩
  | pick a b c ia ib ic =>
    intro o o' v h
    obtain ⟨x, o1, h1, h2⟩ := OutR.bind_ok h
    by_cases z : x > 0
    · simp only [if_pos z] at h2
      have k2 := (wk_agree h2).1
      exact ⟨x, (ia h1).mono fun t x e => ⟨e.1, k2 t e.2⟩, fun _ => ib h2, fun n => absurd z n⟩
    · simp only [if_neg z] at h2
      have k2 := (wk_agree h2).1
      exact ⟨x, (ia h1).mono fun t x e => ⟨e.1, k2 t e.2⟩, fun n => absurd n z, fun _ => ic h2⟩
  | choose a ns ia =>
    intro o o' v h
    obtain ⟨x, o1, h1, h2⟩ := OutR.bind_ok h
    obtain ⟨e, rfl⟩ := dnL_ok h2
    exact ⟨x, (ia h1).mono fun t x e => ⟨e.1, setd_keys.mpr (.inl e.2)⟩, e, setd_keys.mpr (.inr rfl)⟩
theorem Val.work_ev {h : House} {t : List Nat} {v : Int} {r : Rcp} (e : seen h.given t = none) (e2 : rcpOf h.recs t = some r) (e3 : r.Ev (Val h) v) : Val h t v := by
  obtain ⟨n, o, g⟩ := Ev_wk e3 []
  exact .work e e2 g
/-- a house of good names and recipes -/
structure HouseN (dm : Nat) (h : House) (beta : Nat → Nat) : Prop where
  rcp : ∀ p ∈ h.recs, Nm p.1 ∧ p.2.Wn ∧ p.2.dep ≤ dm
  gvn : ∀ p ∈ h.given, Nm p.1
/-- no product on the way is too great for the machine -/
structure HouseOk (dm : Nat) (h : House) (beta : Nat → Nat) : Prop where
  n : HouseN dm h beta
  fit : ∀ p ∈ h.recs, seen h.given p.1 = none → p.2.Fit (Val h)
theorem HouseOk.rcp {dm : Nat} {h : House} {beta : Nat → Nat} (H : HouseOk dm h beta) : ∀ p ∈ h.recs, Nm p.1 ∧ p.2.Wn ∧ p.2.dep ≤ dm := H.n.rcp
def emptyS : RkS := ⟨[], [], []⟩
structure RkOk (h : House) (beta : Nat → Nat) (s : RkS) : Prop where
  nd : (s.asked ++ s.read.map (·.1)).Nodup
  sub : ∀ t ∈ s.asked ++ s.read.map (·.1), t ∈ h.recs.map (·.1)
  val : ∀ p ∈ s.known, Nm p.1 ∧ Val h p.1 p.2
  rds : ∀ p ∈ s.read, ∀ q ∈ p.2, Nm q.1
  kn : ∀ t ∈ s.read.map (·.1), t ∈ s.known.map (·.1)
  kd : (s.known.map (·.1)).Nodup
  ks : ∀ t ∈ s.known.map (·.1), t ∈ h.given.map (·.1) ++ h.recs.map (·.1)
theorem RkOk.len {h : House} {beta : Nat → Nat} {s : RkS} (o : RkOk h beta s) : s.asked.length + s.read.length ≤ h.recs.length := by
  have := sub_lenR o.nd o.sub
  rw [List.length_append, List.length_map, List.length_map] at this
  exact this
theorem RkOk.klen {h : House} {beta : Nat → Nat} {s : RkS} (o : RkOk h beta s) : s.known.length ≤ h.given.length + h.recs.length := by
  have := sub_lenR o.kd o.ks
  rw [List.length_append, List.length_map, List.length_map, List.length_map] at this
  exact this
/-- what one look for t does to a state -/
structure Step (h : House) (beta : Nat → Nat) (s : RkS) (t : List Nat) (v : Int) (s' : RkS) : Prop where
  ok : RkOk h beta s'
  mono : ∀ u ∈ s.known.map (·.1), u ∈ s'.known.map (·.1)
  got : t ∈ s'.known.map (·.1)
  asked : s'.asked = s.asked
  le : s.read.length ≤ s'.read.length
  worth : Val h t v
/-- what a recipe has read so far -/
structure OwnOk (beta : Nat → Nat) (s : RkS) (own : List Pr) : Prop where
  nd : (own.map (·.1)).Nodup
  kn : ∀ u ∈ own.map (·.1), u ∈ s.known.map (·.1)
  sm : ∀ q ∈ own, Nm q.1
theorem OwnOk.nil (beta : Nat → Nat) (s : RkS) : OwnOk beta s [] := ⟨List.nodup_nil, (fun _ h => nomatch h), fun _ h => nomatch h⟩
theorem OwnOk.len {h : House} {beta : Nat → Nat} {s : RkS} {own : List Pr} (o : OwnOk beta s own) (k : RkOk h beta s) : own.length ≤ h.given.length + h.recs.length := by
  have := sub_lenR o.nd o.kn
  rw [List.length_map, List.length_map] at this
  exact Nat.le_trans this k.klen
theorem seen_at {l : List Pr} (nd : (l.map (·.1)).Nodup) {i : Nat} {p : Pr} (h : l[i]? = some p) : seen l p.1 = some p.2 := by
  induction l generalizing i with
  | nil => simp at h
  | cons a l ih =>
    obtain ⟨n1, n2⟩ := List.nodup_cons.mp nd
    rw [seen_cons]
    cases i with
    | zero =>
      have : a = p := by simpa using h
      rw [if_pos (by rw [this]), this]
    | succ i =>
      have h' : l[i]? = some p := by simpa using h
      rw [if_neg (fun e => n1 (by show a.1 ∈ _; rw [e]; exact List.mem_map.mpr ⟨p, List.mem_of_getElem? h', rfl⟩)), ih n2 h']
theorem OwnOk.seen_at {beta : Nat → Nat} {s : RkS} {own : List Pr} (o : OwnOk beta s own) {i : Nat} {p : Pr} (h : own[i]? = some p) : seen own p.1 = some p.2 := Mad.seen_at o.nd h
theorem OwnOk.look {h : House} {beta : Nat → Nat} {s s' : RkS} {own : List Pr} {t : List Nat} {v : Int} (o : OwnOk beta s own) (ht : Nm t) (st : Step h beta s t v s') : OwnOk beta s' (setd own t v) := by
  have old : OwnOk beta s' own := ⟨o.nd, fun u hu => st.mono u (o.kn u hu), o.sm⟩
  unfold setd
  split
  · exact old
  · refine ⟨putA_nd old.nd, fun u hu => ?_, fun q hq => ?_⟩
    · rcases putA_mem.mp hu with hu | rfl
      · exact old.kn u hu
      · exact st.got
    · rcases mem_putA hq with rfl | hq
      · exact ht
      · exact old.sm q hq
theorem wk_step {h : House} {beta : Nat → Nat} {lk : RkS → List Nat → OutR RkS} {A : List (List Nat)} (hlk : ∀ s t v s', RkOk h beta s → s.asked = A → Nm t → lk s t = .ok v s' → Step h beta s t v s') :
    ∀ {r : Rcp} {p p' : RkS × List Pr} {v : Int}, r.Wn → RkOk h beta p.1 → p.1.asked = A → OwnOk beta p.1 p.2 → wk (lkOwn lk) r p = .ok v p' →
      RkOk h beta p'.1 ∧ p'.1.asked = A ∧ (p.1.read.length ≤ p'.1.read.length ∧ ∀ u ∈ p.1.known.map (·.1), u ∈ p'.1.known.map (·.1)) ∧ OwnOk beta p'.1 p'.2 ∧ r.Ev (Val h) v := by
  have look : ∀ {t : List Nat} {p p' : RkS × List Pr} {v : Int}, Nm t → RkOk h beta p.1 → p.1.asked = A → OwnOk beta p.1 p.2 → lkOwn lk p t = .ok v p' →
      RkOk h beta p'.1 ∧ p'.1.asked = A ∧ (p.1.read.length ≤ p'.1.read.length ∧ ∀ u ∈ p.1.known.map (·.1), u ∈ p'.1.known.map (·.1)) ∧ OwnOk beta p'.1 p'.2 ∧ Val h t v := by
    intro t p p' v ht ho ha hq e
    unfold lkOwn at e
    cases e1 : lk p.1 t with
    | err x => rw [e1] at e; cases e
    | ok w s =>
      rw [e1] at e
      cases e
      have st := hlk p.1 t v s ho ha ht e1
      exact ⟨st.ok, st.asked.trans ha, ⟨st.le, st.mono⟩, hq.look ht st, st.worth⟩
  intro r
  induction r with
  | num n =>
    intro p p' v _ ho ha hq e
    cases e
    exact ⟨ho, ha, ⟨Nat.le_refl _, fun _ h => h⟩, hq, rfl⟩
  | read t => exact fun hw ho ha hq e => look hw ho ha hq e
  | two k x y ix iy =>
    intro p p' v hw ho ha hq e
    obtain ⟨a, p1, h1, h2⟩ := OutR.bind_ok e
    obtain ⟨c, p2, h3, h4⟩ := OutR.bind_ok h2
    cases h4
    obtain ⟨o1, a1, l1, q1, b1⟩ := ix hw.1 ho ha hq h1
    obtain ⟨o2, a2, l2, q2, b2⟩ := iy hw.2 o1 a1 q1 h3
    exact ⟨o2, a2, ⟨Nat.le_trans l1.1 l2.1, fun u hu => l2.2 u (l1.2 u hu)⟩, q2, a, c, b1, b2, rfl⟩
  | pick x y z ix iy iz =>
    intro p p' v hw ho ha hq e
    obtain ⟨a, p1, h1, h2⟩ := OutR.bind_ok e
    obtain ⟨o1, a1, l1, q1, b1⟩ := ix hw.1 ho ha hq h1
    by_cases c : a > 0
    · simp only [if_pos c] at h2
      obtain ⟨o2, a2, l2, q2, b2⟩ := iy hw.2.1 o1 a1 q1 h2
      exact ⟨o2, a2, ⟨Nat.le_trans l1.1 l2.1, fun u hu => l2.2 u (l1.2 u hu)⟩, q2, a, b1, fun _ => b2, fun n => absurd c n⟩
    · simp only [if_neg c] at h2
      obtain ⟨o2, a2, l2, q2, b2⟩ := iz hw.2.2 o1 a1 q1 h2
      exact ⟨o2, a2, ⟨Nat.le_trans l1.1 l2.1, fun u hu => l2.2 u (l1.2 u hu)⟩, q2, a, b1, fun n => absurd n c, fun _ => b2⟩
  | choose x ns ix =>
    intro p p' v hw ho ha hq e
    obtain ⟨a, p1, h1, h2⟩ := OutR.bind_ok e
    obtain ⟨o1, a1, l1, q1, b1⟩ := ix hw.1 ho ha hq h1
    obtain ⟨i, _, hi⟩ := nth_mem hw.2.1 a
    obtain ⟨o2, a2, l2, q2, b2⟩ := look (hw.2.2.2 _ (List.mem_of_getElem? hi)) o1 a1 q1 h2
    exact ⟨o2, a2, ⟨Nat.le_trans l1.1 l2.1, fun u hu => l2.2 u (l1.2 u hu)⟩, q2, a, b1, b2⟩
theorem RkOk.ask {h : House} {beta : Nat → Nat} {s : RkS} (ho : RkOk h beta s) {t : List Nat} {r : Rcp} (e3 : rcpOf h.recs t = some r) (e1 : seen s.known t = none) (c : ¬ t ∈ s.asked) : RkOk h beta { s with asked := s.asked ++ [t] } ∧ ¬ t ∈ s.read.map (·.1) := by
  have ct : ¬ t ∈ s.read.map (·.1) := fun z => seen_none e1 (ho.kn t z)
  refine ⟨⟨?_, fun u hu => ?_, ho.val, ho.rds, ho.kn, ho.kd, ho.ks⟩, ct⟩
  · show ((s.asked ++ [t]) ++ s.read.map (·.1)).Nodup
    have : ((s.asked ++ [t]) ++ s.read.map (·.1)).Perm (t :: (s.asked ++ s.read.map (·.1))) := by
      rw [List.append_assoc]
      exact List.perm_middle
    exact this.nodup_iff.mpr (List.nodup_cons.mpr ⟨fun z => (List.mem_append.mp z).elim c ct, ho.nd⟩)
  · have hu : u ∈ (s.asked ++ [t]) ++ s.read.map (·.1) := hu
    rcases List.mem_append.mp hu with hu | hu
    · rcases List.mem_append.mp hu with hu | hu
      · exact ho.sub u (List.mem_append_left _ hu)
      · rw [List.mem_singleton.mp hu]
        exact List.mem_map.mpr ⟨_, rcpOf_mem e3, rfl⟩
    · exact ho.sub u (List.mem_append_right _ hu)
/-- behind the work of t: it is settled -/
theorem RkOk.done {dm : Nat} {h : House} {beta : Nat → Nat} (H : HouseN dm h beta) {A : List (List Nat)} {s : RkS} (ho : RkOk h beta s) {t : List Nat} {r : Rcp} {own : List Pr} {v : Int} (e3 : rcpOf h.recs t = some r) (ha : s.asked = A ++ [t]) (hq : OwnOk beta s own) (e2 : seen h.given t = none) (hv : r.Ev (Val h) v) :
    (putA s.read t own).length = s.read.length + 1 ∧ RkOk h beta ⟨putA s.known t v, putA s.read t own, s.asked.dropLast⟩ ∧ Val h t v := by
  have hmem := rcpOf_mem e3
  have nd := ho.nd
  rw [ha] at nd
  have ct : ¬ t ∈ s.read.map (·.1) := fun z => (List.nodup_append.mp nd).2.2 t (List.mem_append_right _ (List.mem_singleton.mpr rfl)) t z rfl
  have hl : (putA s.read t own).length = s.read.length + 1 := by rw [putA_len, if_neg ct]
  have hv2 : Val h t v := .work_ev e2 e3 hv
  refine ⟨hl, ⟨?_, fun u hu => ?_, fun p hp => ?_, fun p hp q hq' => ?_, fun u hu => ?_, putA_nd ho.kd, fun u hu => ?_⟩, hv2⟩
  · show (s.asked.dropLast ++ (putA s.read t own).map (·.1)).Nodup
    rw [ha, List.dropLast_concat, putA_keys, if_neg ct, ← List.append_assoc]
    have : ((A ++ s.read.map (·.1)) ++ [t]).Perm ((A ++ [t]) ++ s.read.map (·.1)) := by
      rw [List.append_assoc, List.append_assoc]
      exact List.Perm.append_left _ List.perm_append_comm
    exact this.nodup_iff.mpr nd
  · have hu : u ∈ s.asked.dropLast ++ (putA s.read t own).map (·.1) := hu
    rw [ha, List.dropLast_concat, putA_keys, if_neg ct] at hu
    have sub := ho.sub
    rw [ha] at sub
    rcases List.mem_append.mp hu with hu | hu
    · exact sub u (List.mem_append_left _ (List.mem_append_left _ hu))
    · rcases List.mem_append.mp hu with hu | hu
      · exact sub u (List.mem_append_right _ hu)
      · exact sub u (List.mem_append_left _ (List.mem_append_right _ hu))
  · rcases mem_putA hp with rfl | hp
    · exact ⟨(H.rcp _ hmem).1, hv2⟩
    · exact ho.val p hp
  · rcases mem_putA hp with rfl | hp
    · exact hq.sm q hq'
    · exact ho.rds p hp q hq'
  · have hu : u ∈ (putA s.read t own).map (·.1) := hu
    show u ∈ (putA s.known t v).map (·.1)
    rcases putA_mem.mp hu with hu | hu
    · exact putA_mem.mpr (.inl (ho.kn u hu))
    · exact putA_mem.mpr (.inr hu)
  · rcases putA_mem.mp hu with hu | rfl
    · exact ho.ks u hu
    · exact List.mem_append_right _ (List.mem_map.mpr ⟨_, hmem, rfl⟩)
theorem lkR_step {dm : Nat} {h : House} {beta : Nat → Nat} (H : HouseN dm h beta) : ∀ (n : Nat) (s : RkS) (t : List Nat) (v : Int) (s' : RkS), RkOk h beta s → Nm t → lkR h n s t = .ok v s' → Step h beta s t v s'
  | 0, s, t, v, s', _, _, e => by cases e
  | n + 1, s, t, v, s', ho, ht, e => by
    unfold lkR at e
    cases e1 : seen s.known t with
    | some x =>
      rw [e1] at e
      cases e
      exact ⟨ho, fun _ h => h, List.mem_map.mpr ⟨_, seen_mem e1, rfl⟩, rfl, Nat.le_refl _, (ho.val _ (seen_mem e1)).2⟩
    | none =>
      rw [e1] at e
      cases e2 : seen h.given t with
      | some x =>
        rw [e2] at e
        cases e
        have hx : Val h t v := .given e2
        refine ⟨⟨ho.nd, ho.sub, fun p hp => ?_, ho.rds, fun u hu => putA_mem.mpr (.inl (ho.kn u hu)), putA_nd ho.kd, fun u hu => ?_⟩, fun u hu => putA_mem.mpr (.inl hu), putA_mem.mpr (.inr rfl), rfl, Nat.le_refl _, hx⟩
        · rcases mem_putA hp with rfl | hp
          · exact ⟨ht, hx⟩
          · exact ho.val p hp
        · rcases putA_mem.mp hu with hu | rfl
          · exact ho.ks u hu
          · exact List.mem_append_left _ (List.mem_map.mpr ⟨_, seen_mem e2, rfl⟩)
      | none =>
        rw [e2] at e
        cases e3 : rcpOf h.recs t with
        | none => rw [e3] at e; cases e
        | some r =>
          rw [e3] at e
          by_cases c : t ∈ s.asked
          · simp only [if_pos c] at e
            cases e
          · simp only [if_neg c] at e
            cases e4 : wk (lkOwn (lkR h n)) r ({ s with asked := s.asked ++ [t] }, []) with
            | err x => rw [e4] at e; cases e
            | ok w p =>
              rw [e4] at e
              cases e
              obtain ⟨ho1, ct⟩ := ho.ask e3 e1 c
              obtain ⟨o2, a2, l2, q2, b2⟩ := wk_step (A := s.asked ++ [t]) (fun s t v s' o _ ht e => lkR_step H n s t v s' o ht e) (H.rcp _ (rcpOf_mem e3)).2.1 (p := ({ s with asked := s.asked ++ [t] }, [])) ho1 rfl (OwnOk.nil _ _) e4
              obtain ⟨d1, d2, d3⟩ := o2.done H e3 a2 q2 e2 b2
              refine ⟨d2, fun u hu => putA_mem.mpr (.inl (l2.2 u hu)), putA_mem.mpr (.inr rfl), ?_, ?_, d3⟩
              · show p.1.asked.dropLast = s.asked
                rw [a2, List.dropLast_concat]
              · show s.read.length ≤ (putA p.1.read t p.2).length
                rw [d1]
                exact Nat.le_succ_of_le l2.1
theorem emptyOk (h : House) (beta : Nat → Nat) : RkOk h beta emptyS := ⟨List.nodup_nil, (fun _ h => nomatch h), (fun _ h => nomatch h), (fun _ h => nomatch h), (fun _ h => nomatch h), List.nodup_nil, fun _ h => nomatch h⟩
/-! ### what the reckoner knows is so; houses whose worths are not too great -/
/-! #### what the reckoner knows is so -/
structure Coh (h : House) (s : RkS) : Prop where
  kn : ∀ p ∈ s.known, Val h p.1 p.2
  rd : ∀ p ∈ s.read, Rds h p.1 p.2
  kr : ∀ u ∈ s.known.map (·.1), u ∈ h.given.map (·.1) ∨ u ∈ s.read.map (·.1)
theorem Coh.empty (h : House) : Coh h emptyS := ⟨(fun _ h => nomatch h), (fun _ h => nomatch h), fun _ h => nomatch h⟩
theorem lkOwn_ok {lk : RkS → List Nat → OutR RkS} {p p' : RkS × List Pr} {t : List Nat} {v : Int} (e : lkOwn lk p t = .ok v p') : lk p.1 t = .ok v p'.1 ∧ p'.2 = setd p.2 t v := by
  unfold lkOwn at e
  cases e1 : lk p.1 t with
  | err x => rw [e1] at e; cases e
  | ok w s => rw [e1] at e; cases e; exact ⟨rfl, rfl⟩
theorem wk_sound {h : House} {lk : RkS → List Nat → OutR RkS} (hlk : ∀ s t v s', Coh h s → lk s t = .ok v s' → Val h t v ∧ Coh h s') :
    ∀ {r : Rcp} {p p' : RkS × List Pr} {v : Int}, Coh h p.1 → wk (lkOwn lk) r p = .ok v p' → Coh h p'.1 ∧ ∃ m, wk (dnL (val h m)) r p.2 = .ok v p'.2 := by
  have look : ∀ {t : List Nat} {p p' : RkS × List Pr} {v : Int}, Coh h p.1 → lkOwn lk p t = .ok v p' → Coh h p'.1 ∧ ∃ m, dnL (val h m) p.2 t = .ok v p'.2 := by
    intro t p p' v c e
    obtain ⟨e1, e2⟩ := lkOwn_ok e
    obtain ⟨⟨m, hm⟩, c'⟩ := hlk _ _ _ _ c e1
    exact ⟨c', m, by rw [e2]; exact dnL_some hm _⟩
  have two : ∀ {r1 : Rcp} {o o1 : List Pr} {x : Int} {m k : Nat}, wk (dnL (val h m)) r1 o = .ok x o1 → m ≤ k → wk (dnL (val h k)) r1 o = .ok x o1 := fun e le => wk_mono (fun _ _ e => val_le le e) e
  intro r
  induction r with
  | num n => intro p p' v c e; cases e; exact ⟨c, 0, rfl⟩
  | read t => exact fun c e => look c e
  | two k a b ia ib =>
    intro p p' v c e
    obtain ⟨x, o1, h1, h2⟩ := OutR.bind_ok e
    obtain ⟨y, o2, h3, h4⟩ := OutR.bind_ok h2
    cases h4
    obtain ⟨c1, m1, g1⟩ := ia c h1
    obtain ⟨c2, m2, g2⟩ := ib c1 h3
    refine ⟨c2, max m1 m2, ?_⟩
    show (wk (dnL _) a p.2).bind _ = _
    rw [bind_okI (two g1 (Nat.le_max_left _ _)), bind_okI (two g2 (Nat.le_max_right _ _))]
  | pick a b d ia ib id =>
    intro p p' v c e
    obtain ⟨x, o1, h1, h2⟩ := OutR.bind_ok e
    obtain ⟨c1, m1, g1⟩ := ia c h1
    by_cases z : x > 0
    · simp only [if_pos z] at h2
      obtain ⟨c2, m2, g2⟩ := ib c1 h2
      refine ⟨c2, max m1 m2, ?_⟩
      show (wk (dnL _) a p.2).bind _ = _
      rw [bind_okI (two g1 (Nat.le_max_left _ _)), if_pos z, two g2 (Nat.le_max_right _ _)]
    · simp only [if_neg z] at h2
      obtain ⟨c2, m2, g2⟩ := id c1 h2
      refine ⟨c2, max m1 m2, ?_⟩
      show (wk (dnL _) a p.2).bind _ = _
      rw [bind_okI (two g1 (Nat.le_max_left _ _)), if_neg z, two g2 (Nat.le_max_right _ _)]
  | choose a ns ia =>
    intro p p' v c e
    obtain ⟨x, o1, h1, h2⟩ := OutR.bind_ok e
    obtain ⟨c1, m1, g1⟩ := ia c h1
    obtain ⟨c2, m2, g2⟩ := look c1 h2
    obtain ⟨g3, g4⟩ := dnL_ok g2
    refine ⟨c2, max m1 m2, ?_⟩
    show (wk (dnL _) a p.2).bind _ = _
    rw [bind_okI (two g1 (Nat.le_max_left _ _)), g4]
    exact dnL_some (val_le (Nat.le_max_right _ _) g3) _
theorem lkR_sound {h : House} : ∀ (n : Nat) (s : RkS) (t : List Nat) (v : Int) (s' : RkS), Coh h s → lkR h n s t = .ok v s' → Val h t v ∧ Coh h s'
  | 0, s, t, v, s', _, e => by cases e
  | n + 1, s, t, v, s', c, e => by
    unfold lkR at e
    cases e1 : seen s.known t with
    | some x =>
      rw [e1] at e
      cases e
      exact ⟨c.kn _ (seen_mem e1), c⟩
    | none =>
      rw [e1] at e
      cases e2 : seen h.given t with
      | some x =>
        rw [e2] at e
        cases e
        refine ⟨.given e2, ⟨fun p hp => ?_, c.rd, fun u hu => ?_⟩⟩
        · rcases mem_putA hp with rfl | hp
          · exact .given e2
          · exact c.kn p hp
        · rcases putA_mem.mp hu with hu | rfl
          · exact c.kr u hu
          · exact .inl (seen_key e2)
      | none =>
        rw [e2] at e
        cases e3 : rcpOf h.recs t with
        | none => rw [e3] at e; cases e
        | some r =>
          rw [e3] at e
          by_cases z : t ∈ s.asked
          · simp only [if_pos z] at e
            cases e
          · simp only [if_neg z] at e
            cases e4 : wk (lkOwn (lkR h n)) r ({ s with asked := s.asked ++ [t] }, []) with
            | err x => rw [e4] at e; cases e
            | ok w p =>
              rw [e4] at e
              cases e
              have c0 : Coh h { s with asked := s.asked ++ [t] } := ⟨c.kn, c.rd, c.kr⟩
              obtain ⟨c1, m, g⟩ := wk_sound (fun s t v s' => lkR_sound n s t v s') (p := ({ s with asked := s.asked ++ [t] }, [])) c0 e4
              have vt : Val h t v := .work e2 e3 g
              refine ⟨vt, ⟨fun q hq => ?_, fun q hq => ?_, fun u hu => ?_⟩⟩
              · rcases mem_putA hq with rfl | hq
                · exact vt
                · exact c1.kn q hq
              · rcases mem_putA hq with rfl | hq
                · exact ⟨e2, r, m, v, e3, g⟩
                · exact c1.rd q hq
              · rcases putA_mem.mp hu with hu | rfl
                · exact (c1.kr u hu).imp id fun h => putA_mem.mpr (.inl h)
                · exact .inr (putA_mem.mpr (.inr rfl))
/-! #### what has a worth is told -/
theorem wk_total {h : House} {beta : Nat → Nat} {lk : RkS → List Nat → OutR RkS} {k : Nat} {A : List (List Nat)} (hlk : ∀ s t v, RkOk h beta s → Coh h s → s.asked = A → Nm t → val h k t = some v → ∃ s', lk s t = .ok v s' ∧ RkOk h beta s' ∧ Coh h s' ∧ s'.asked = A) :
    ∀ {r : Rcp} {p : RkS × List Pr} {v : Int} {o' : List Pr}, r.Wn → RkOk h beta p.1 → Coh h p.1 → p.1.asked = A → wk (dnL (val h k)) r p.2 = .ok v o' → ∃ s', wk (lkOwn lk) r p = .ok v (s', o') ∧ RkOk h beta s' ∧ Coh h s' ∧ s'.asked = A := by
  have look : ∀ {t : List Nat} {p : RkS × List Pr} {v : Int} {o' : List Pr}, Nm t → RkOk h beta p.1 → Coh h p.1 → p.1.asked = A → dnL (val h k) p.2 t = .ok v o' → ∃ s', lkOwn lk p t = .ok v (s', o') ∧ RkOk h beta s' ∧ Coh h s' ∧ s'.asked = A := by
    intro t p v o' ht o c a e
    obtain ⟨e1, rfl⟩ := dnL_ok e
    obtain ⟨s', g, r1⟩ := hlk _ t v o c a ht e1
    exact ⟨s', by unfold lkOwn; rw [g], r1⟩
  intro r
  induction r with
  | num n => intro p v o' _ o c a e; cases e; exact ⟨p.1, rfl, o, c, a⟩
  | read t => exact fun w o c a e => look w o c a e
  | two kd a b ia ib =>
    intro p v o' w o c ha e
    obtain ⟨x, o1, h1, h2⟩ := OutR.bind_ok e
    obtain ⟨y, o2, h3, h4⟩ := OutR.bind_ok h2
    cases h4
    obtain ⟨s1, g1, q1, c1, a1⟩ := ia w.1 o c ha h1
    obtain ⟨s2, g2, q2, c2, a2⟩ := ib (p := (s1, o1)) w.2 q1 c1 a1 h3
    refine ⟨s2, ?_, q2, c2, a2⟩
    show (wk (lkOwn lk) a p).bind _ = _
    rw [bind_okI g1, bind_okI g2]
  | pick a b d ia ib id =>
    intro p v o' w o c ha e
    obtain ⟨x, o1, h1, h2⟩ := OutR.bind_ok e
    obtain ⟨s1, g1, q1, c1, a1⟩ := ia w.1 o c ha h1
    by_cases z : x > 0
    · simp only [if_pos z] at h2
      obtain ⟨s2, g2, q2, c2, a2⟩ := ib (p := (s1, o1)) w.2.1 q1 c1 a1 h2
      refine ⟨s2, ?_, q2, c2, a2⟩
      show (wk (lkOwn lk) a p).bind _ = _
      rw [bind_okI g1, if_pos z, g2]
    · simp only [if_neg z] at h2
      obtain ⟨s2, g2, q2, c2, a2⟩ := id (p := (s1, o1)) w.2.2 q1 c1 a1 h2
      refine ⟨s2, ?_, q2, c2, a2⟩
      show (wk (lkOwn lk) a p).bind _ = _
      rw [bind_okI g1, if_neg z, g2]
  | choose a ns ia =>
    intro p v o' w o c ha e
    obtain ⟨x, o1, h1, h2⟩ := OutR.bind_ok e
    obtain ⟨s1, g1, q1, c1, a1⟩ := ia w.1 o c ha h1
    obtain ⟨i, _, hi⟩ := nth_mem w.2.1 x
    obtain ⟨s2, g2, q2, c2, a2⟩ := look (p := (s1, o1)) (w.2.2.2 _ (List.mem_of_getElem? hi)) q1 c1 a1 h2
    refine ⟨s2, ?_, q2, c2, a2⟩
    show (wk (lkOwn lk) a p).bind _ = _
    rw [bind_okI g1, g2]
/-- the least depth at which a worth is found -/
theorem val_least {h : House} {t : List Nat} {v : Int} : ∀ {m : Nat}, val h m t = some v → ∃ k, k + 1 ≤ m ∧ val h (k + 1) t = some v ∧ val h k t = none
  | 0, e => by cases e
  | m + 1, e => by
    cases e1 : val h m t with
    | none => exact ⟨m, Nat.le_refl _, e, e1⟩
    | some w =>
      obtain rfl : w = v := Option.some.inj ((val_mono e1).symm.trans e)
      obtain ⟨k, h1, h2⟩ := val_least e1
      exact ⟨k, by omega, h2⟩
theorem val_none_le {h : House} {t : List Nat} {k m : Nat} (le : k ≤ m) (e : val h m t = none) : val h k t = none := by
  cases e1 : val h k t with
  | none => rfl
  | some v => rw [val_le le e1] at e; cases e
theorem lkR_total {dm : Nat} {h : House} {beta : Nat → Nat} (HH : HouseN dm h beta) : ∀ (n : Nat) (s : RkS) (t : List Nat) (m : Nat) (v : Int), RkOk h beta s → Coh h s → Nm t → val h m t = some v → (∀ a ∈ s.asked, val h m a = none) → h.recs.length + 1 ≤ s.asked.length + n → ∃ s', lkR h n s t = .ok v s'
  | 0, s, t, m, v, o, c, ht, e, ha, hn => by
    have := o.len
    omega
  | n + 1, s, t, m, v, o, c, ht, e, ha, hn => by
    obtain ⟨k, hk, ek, nk⟩ := val_least e
    unfold lkR
    cases e1 : seen s.known t with
    | some x =>
      obtain rfl : x = v := (c.kn _ (seen_mem e1)).det ⟨m, e⟩
      exact ⟨s, rfl⟩
    | none =>
      have ek' := ek
      rw [val_succ] at ek'
      cases e2 : seen h.given t with
      | some x =>
        rw [e2] at ek'
        cases ek'
        exact ⟨_, rfl⟩
      | none =>
        rw [e2] at ek'
        cases e3 : rcpOf h.recs t with
        | none => rw [e3] at ek'; cases ek'
        | some r =>
          rw [e3] at ek'
          have z : ¬ t ∈ s.asked := fun z => by rw [ha t z] at e; cases e
          simp only [if_neg z]
          cases e4 : wk (dnL (val h k)) r [] with
          | err x => simp only [e4] at ek'; cases ek'
          | ok w own =>
            simp only [e4] at ek'
            cases ek'
            obtain ⟨o1, ct⟩ := o.ask e3 e1 z
            have c0 : Coh h { s with asked := s.asked ++ [t] } := ⟨c.kn, c.rd, c.kr⟩
            have wn := (HH.rcp _ (rcpOf_mem e3)).2.1
            obtain ⟨s2, g2, _⟩ := wk_total (lk := lkR h n) (k := k) (A := s.asked ++ [t]) (beta := beta) (fun s1 u x q1 d1 a1 hu eu => by
              obtain ⟨s', g⟩ := lkR_total HH n s1 u k x q1 d1 hu eu (fun a hm => by
                rw [a1] at hm
                rcases List.mem_append.mp hm with hm | hm
                · exact val_none_le (by omega) (ha a hm)
                · rw [List.mem_singleton.mp hm]; exact nk) (by rw [a1, List.length_append]; simp only [List.length_cons, List.length_nil]; omega)
              have st := lkR_step HH n s1 u x s' q1 hu g
              exact ⟨s', g, st.ok, (lkR_sound n s1 u x s' d1 g).2, st.asked.trans a1⟩) (p := ({ s with asked := s.asked ++ [t] }, [])) wn o1 c0 rfl e4
            rw [g2]
            exact ⟨_, rfl⟩
/-! #### houses whose worths grow by how many are worked -/
structure HouseB (dm : Nat) (h : House) (beta : Nat → Nat) : Prop where
  rcp : ∀ p ∈ h.recs, Nm p.1 ∧ p.2.Wn ∧ p.2.dep ≤ dm ∧ ∀ c, c + 1 ≤ h.recs.length → p.2.bits (beta c) ≤ beta (c + 1)
  gvn : ∀ p ∈ h.given, Nm p.1 ∧ p.2.natAbs < 2 ^ beta 0
  mono : ∀ c d, c ≤ d → beta c ≤ beta d
  pos : 0 < beta 0
  top : ∀ p ∈ h.recs, p.2.bits (beta h.recs.length) ≤ 1000000
structure RkB (beta : Nat → Nat) (s : RkS) : Prop where
  val : ∀ p ∈ s.known, p.2.natAbs < 2 ^ beta s.read.length
theorem HouseB.n {dm : Nat} {h : House} {beta : Nat → Nat} (H : HouseB dm h beta) : HouseN dm h beta := ⟨fun p hp => ⟨(H.rcp p hp).1, (H.rcp p hp).2.1, (H.rcp p hp).2.2.1⟩, fun p hp => (H.gvn p hp).1⟩
theorem wk_stepB {dm : Nat} {h : House} {beta : Nat → Nat} (H : HouseB dm h beta) {lk : RkS → List Nat → OutR RkS} {A : List (List Nat)} (hlk : ∀ s t v s', RkOk h beta s → RkB beta s → s.asked = A → Nm t → lk s t = .ok v s' → Step h beta s t v s' ∧ RkB beta s' ∧ v.natAbs < 2 ^ beta s'.read.length) :
    ∀ {r : Rcp} {p p' : RkS × List Pr} {v : Int}, r.Wn → RkOk h beta p.1 → RkB beta p.1 → p.1.asked = A → wk (lkOwn lk) r p = .ok v p' →
      RkOk h beta p'.1 ∧ RkB beta p'.1 ∧ p'.1.asked = A ∧ p.1.read.length ≤ p'.1.read.length ∧ v.natAbs < 2 ^ r.bits (beta p'.1.read.length) := by
  have look : ∀ {t : List Nat} {p p' : RkS × List Pr} {v : Int}, Nm t → RkOk h beta p.1 → RkB beta p.1 → p.1.asked = A → lkOwn lk p t = .ok v p' →
      RkOk h beta p'.1 ∧ RkB beta p'.1 ∧ p'.1.asked = A ∧ p.1.read.length ≤ p'.1.read.length ∧ v.natAbs < 2 ^ beta p'.1.read.length := by
    intro t p p' v ht ho hb ha e
    obtain ⟨e1, _⟩ := lkOwn_ok e
    obtain ⟨st, b, sm⟩ := hlk _ _ _ _ ho hb ha ht e1
    exact ⟨st.ok, b, st.asked.trans ha, st.le, sm⟩
  intro r
  induction r with
  | num n =>
    intro p p' v _ ho hb ha e
    cases e
    exact ⟨ho, hb, ha, Nat.le_refl _, Nat.lt_log2_self⟩
  | read t => exact fun hw ho hb ha e => look hw ho hb ha e
  | two k x y ix iy =>
    intro p p' v hw ho hb ha e
    obtain ⟨a, p1, h1, h2⟩ := OutR.bind_ok e
    obtain ⟨c, p2, h3, h4⟩ := OutR.bind_ok h2
    cases h4
    obtain ⟨o1, q1, a1, l1, b1⟩ := ix hw.1 ho hb ha h1
    obtain ⟨o2, q2, a2, l2, b2⟩ := iy hw.2 o1 q1 a1 h3
    exact ⟨o2, q2, a2, Nat.le_trans l1 l2, ap_bits (pow_mono b1 (bits_mono (H.mono _ _ l2) x)) b2⟩
  | pick x y z ix iy iz =>
    intro p p' v hw ho hb ha e
    obtain ⟨a, p1, h1, h2⟩ := OutR.bind_ok e
    obtain ⟨o1, q1, a1, l1, b1⟩ := ix hw.1 ho hb ha h1
    by_cases c : a > 0
    · simp only [if_pos c] at h2
      obtain ⟨o2, q2, a2, l2, b2⟩ := iy hw.2.1 o1 q1 a1 h2
      exact ⟨o2, q2, a2, Nat.le_trans l1 l2, pow_mono b2 (by simp only [Rcp.bits]; omega)⟩
    · simp only [if_neg c] at h2
      obtain ⟨o2, q2, a2, l2, b2⟩ := iz hw.2.2 o1 q1 a1 h2
      exact ⟨o2, q2, a2, Nat.le_trans l1 l2, pow_mono b2 (by simp only [Rcp.bits]; omega)⟩
  | choose x ns ix =>
    intro p p' v hw ho hb ha e
    obtain ⟨a, p1, h1, h2⟩ := OutR.bind_ok e
    obtain ⟨o1, q1, a1, l1, b1⟩ := ix hw.1 ho hb ha h1
    obtain ⟨i, _, hi⟩ := nth_mem hw.2.1 a
    obtain ⟨o2, q2, a2, l2, b2⟩ := look (p := p1) (hw.2.2.2 _ (List.mem_of_getElem? hi)) o1 q1 a1 h2
    exact ⟨o2, q2, a2, Nat.le_trans l1 l2, pow_mono b2 (by simp only [Rcp.bits]; omega)⟩
theorem lkR_stepB {dm : Nat} {h : House} {beta : Nat → Nat} (H : HouseB dm h beta) : ∀ (n : Nat) (s : RkS) (t : List Nat) (v : Int) (s' : RkS), RkOk h beta s → RkB beta s → Nm t → lkR h n s t = .ok v s' → RkB beta s' ∧ v.natAbs < 2 ^ beta s'.read.length
  | 0, s, t, v, s', _, _, _, e => by cases e
  | n + 1, s, t, v, s', ho, hb, ht, e => by
    unfold lkR at e
    cases e1 : seen s.known t with
    | some x =>
      rw [e1] at e
      cases e
      exact ⟨hb, hb.val _ (seen_mem e1)⟩
    | none =>
      rw [e1] at e
      cases e2 : seen h.given t with
      | some x =>
        rw [e2] at e
        cases e
        have hx := pow_mono (H.gvn _ (seen_mem e2)).2 (H.mono _ _ (Nat.zero_le s.read.length))
        refine ⟨⟨fun p hp => ?_⟩, hx⟩
        rcases mem_putA hp with rfl | hp
        · exact hx
        · exact hb.val p hp
      | none =>
        rw [e2] at e
        cases e3 : rcpOf h.recs t with
        | none => rw [e3] at e; cases e
        | some r =>
          rw [e3] at e
          by_cases c : t ∈ s.asked
          · simp only [if_pos c] at e
            cases e
          · simp only [if_neg c] at e
            cases e4 : wk (lkOwn (lkR h n)) r ({ s with asked := s.asked ++ [t] }, []) with
            | err x => rw [e4] at e; cases e
            | ok w p =>
              rw [e4] at e
              cases e
              have hmem := rcpOf_mem e3
              obtain ⟨ho1, _⟩ := ho.ask e3 e1 c
              obtain ⟨o2, q2, a2, l2, b2⟩ := wk_stepB H (A := s.asked ++ [t]) (fun s t v s' o b _ ht e => ⟨lkR_step H.n n s t v s' o ht e, lkR_stepB H n s t v s' o b ht e⟩) (H.rcp _ hmem).2.1 (p := ({ s with asked := s.asked ++ [t] }, [])) ho1 ⟨hb.val⟩ rfl e4
              have nd := o2.nd
              rw [a2] at nd
              have ct : ¬ t ∈ p.1.read.map (·.1) := fun z => (List.nodup_append.mp nd).2.2 t (List.mem_append_right _ (List.mem_singleton.mpr rfl)) t z rfl
              have hl : (putA p.1.read t p.2).length = p.1.read.length + 1 := by rw [putA_len, if_neg ct]
              have hc : p.1.read.length + 1 ≤ h.recs.length := by
                have := o2.len
                rw [a2, List.length_append] at this
                simp only [List.length_cons, List.length_nil] at this
                omega
              have hv2 : v.natAbs < 2 ^ beta (p.1.read.length + 1) := pow_mono b2 ((H.rcp _ hmem).2.2.2 _ hc)
              refine ⟨⟨fun q hq => ?_⟩, by show v.natAbs < 2 ^ beta (putA p.1.read t p.2).length; rw [hl]; exact hv2⟩
              show q.2.natAbs < 2 ^ beta (putA p.1.read t p.2).length
              rw [hl]
              rcases mem_putA hq with rfl | hq
              · exact hv2
              · exact pow_mono (q2.val q hq) (H.mono _ _ (Nat.le_succ _))
theorem HouseB.small {dm : Nat} {h : House} {beta : Nat → Nat} (H : HouseB dm h beta) {t : List Nat} {v : Int} (ht : Nm t) (hv : Val h t v) : v.natAbs < 2 ^ beta h.recs.length := by
  obtain ⟨m, hm⟩ := hv
  obtain ⟨s, e⟩ := lkR_total H.n (h.recs.length + 1) emptyS t m v (emptyOk h beta) (Coh.empty h) ht hm (fun a ha => nomatch ha) (by show _ ≤ 0 + _; omega)
  have st := lkR_step H.n _ _ _ _ _ (emptyOk h beta) ht e
  have := st.ok.len
  exact pow_mono (lkR_stepB H _ _ _ _ _ (emptyOk h beta) ⟨fun _ h => nomatch h⟩ ht e).2 (H.mono _ _ (by omega))
theorem Rcp.Ev.nm {f : List Nat → Int → Prop} : ∀ {r : Rcp} {v : Int}, r.Wn → r.Ev f v → r.Ev (fun t x => Nm t ∧ f t x) v
  | .num _, v, _, h => h
  | .read _, v, w, h => ⟨w, h⟩
  | .two _ _ _, v, w, ⟨a, c, h1, h2, e⟩ => ⟨a, c, h1.nm w.1, h2.nm w.2, e⟩
  | .pick _ _ _, v, w, ⟨a, h1, h2, h3⟩ => ⟨a, h1.nm w.1, fun c => (h2 c).nm w.2.1, fun c => (h3 c).nm w.2.2⟩
  | .choose _ _, v, w, ⟨a, h1, h2⟩ => ⟨a, h1.nm w.1, by obtain ⟨i, _, hi⟩ := nth_mem w.2.1 a; exact w.2.2.2 _ (List.mem_of_getElem? hi), h2⟩
theorem Rcp.Fit.nm {f : List Nat → Int → Prop} : ∀ {r : Rcp}, r.Wn → r.Fit (fun t x => Nm t ∧ f t x) → r.Fit f
  | .num _, _, _ => trivial
  | .read _, _, _ => trivial
  | .two _ _ _, w, ⟨h1, h2⟩ => ⟨h1.nm w.1, fun a ha => ⟨(h2 a (ha.nm w.1)).1.nm w.2, fun c hc => (h2 a (ha.nm w.1)).2 c (hc.nm w.2)⟩⟩
  | .pick _ _ _, w, ⟨h1, h2⟩ => ⟨h1.nm w.1, fun a ha => ⟨fun c => ((h2 a (ha.nm w.1)).1 c).nm w.2.1, fun c => ((h2 a (ha.nm w.1)).2 c).nm w.2.2⟩⟩
  | .choose x _, w, h => Fit.nm (r := x) w.1 h
theorem HouseB.ok {dm : Nat} {h : House} {beta : Nat → Nat} (H : HouseB dm h beta) : HouseOk dm h beta := ⟨H.n, fun p hp _ => Rcp.Fit.nm (H.rcp p hp).2.1 (Rcp.Fit.of_bits (Nat.lt_of_lt_of_le H.pos (H.mono _ _ (Nat.zero_le _))) (fun t v ⟨ht, hv⟩ => H.small ht hv) (H.top p hp))⟩
/-! ### own errors with a field -/
theorem hu65 {k : Nat} {A : Around} (r : Room k A) : A.units + 65 < cLine := by have := r.un; omega
structure OwnX (K : PySem.W.Frag) (mg : Str → Option Value) (n f : Str) (C fI : Addr) : Prop where
  oex : OexC K C
  iC : PySem.W.findIn K (.ref C) "__init__" = some (some (.ref fI))
  tI : PySem.W.typeIn K (.ref fI) = some (.type "function")
  g : mg n = some (.ref C)
  no : PySem.W.findIn K (.ref C) f = some none
  xf : XfC K C
def spNNI (C : Addr) : Sp := fun vs H Q _ => ∃ (a : Addr) (v : V), vs = [.ref a, v] ∧ H a = some (exo a C none) ∧ ∀ dx, H dx = none → dx ≠ a → Q .non (upd (upd H dx (exd dx [(("name" : Str), v)])) a (exo a C (some dx)))
def spRgI (C : Addr) : Sp := fun vs H Q _ => ∃ (a L : Addr) (xs : List V), vs = [.ref a, .ref L] ∧ H a = some (exo a C none) ∧ H L = some (.lst xs) ∧ ∀ M dx, H M = none → M ≠ a → dx ≠ M → H dx = none → dx ≠ a →
  Q .non (upd (upd (upd H M (.lst xs)) dx (exd dx [(("ring" : Str), .ref M)])) a (exo a C (some dx)))
/-- what is due where an error of the reckoning flies -/
def ErK (CN CR : Addr) (x : XErr) (E : XK) (H : Hp) : Prop := match x with
  | .noName s => ∀ d G, Same H G → H d = none → G d = some (.xd [(("name" : Str), .str (SX.S s))]) → E (.ref CN) (some d) G
  | .ring l => ∀ d L G, Same H G → H d = none → H L = none → G d = some (.xd [(("ring" : Str), .ref L)]) → G L = some (.lst (txs l)) → E (.ref CR) (some d) G
theorem flown {H : Hp} {a dx : Addr} {u v w : HO} (h1 : H a = none) (h2 : H dx = none) : Same H (upd (del (upd (upd H dx u) a v) a) dx w) := fun b o e => by
  rw [upd_ne (ne_of_none e h2), del_ne (ne_of_none e h1), upd_ne (ne_of_none e h1), upd_ne (ne_of_none e h2)]
  exact e
section
variable {P : Program} {w : World} {K : PySem.W.Frag} {mg : Str → Option Value} {base : Heap} {C fI : Addr}
end
/-! ### names in lists; dicts by names -/
theorem strV_eq (a b : List Nat) : eqV (.str (SX.S a)) (.str (SX.S b)) = decide (a = b) := by
  show (SX.S a == SX.S b) = _
  rw [SX.S_beq]
  by_cases c : a = b
  · rw [c, beq_self_eq_true, decide_eq_true rfl]
  · rw [beq_eq_false_iff_ne.mpr c, decide_eq_false c]
theorem in_txs (t : List Nat) (ns : List (List Nat)) : inV (.str (SX.S t)) (txs ns) = decide (t ∈ ns) := by
  induction ns with
  | nil => rfl
  | cons a r ih =>
    show (eqV (.str (SX.S a)) (.str (SX.S t)) || inV (.str (SX.S t)) (txs r)) = _
    rw [ih, strV_eq]
    by_cases c : a = t
    · rw [decide_eq_true c, Bool.true_or, decide_eq_true (by rw [c]; exact List.mem_cons_self ..)]
    · rw [decide_eq_false c, Bool.false_or]
      by_cases d : t ∈ r
      · rw [decide_eq_true d, decide_eq_true (List.mem_cons_of_mem _ d)]
      · rw [decide_eq_false d, decide_eq_false (fun z => (List.mem_cons.mp z).elim (fun e => c e.symm) d)]
theorem txs_flat (ns : List (List Nat)) : (txs ns).all flatV = true := List.all_eq_true.mpr fun x hx => by
  obtain ⟨s, _, rfl⟩ := txs_mem hx
  rfl
theorem txs_drop (ns : List (List Nat)) (k : Nat) : (txs ns).drop k = txs (ns.drop k) := by unfold txs; rw [List.map_drop, List.map_drop]
theorem cutV_from (xs : List V) (a : Nat) : cutV xs (some (a : Int)) none = xs.drop a := by
  show (xs.drop (HT.sIx xs.length 0 (some (a : Int)))).take (HT.sIx xs.length xs.length none - HT.sIx xs.length 0 (some (a : Int))) = _
  rw [HT.sIx_none, HT.sIx_nat]
  by_cases ha : a ≤ xs.length
  · rw [Nat.min_eq_left ha, List.take_of_length_le (by rw [List.length_drop]; omega)]
  · rw [Nat.min_eq_right (by omega), List.drop_eq_nil_of_le (Nat.le_refl _), List.drop_eq_nil_of_le (by omega), List.take_nil]
/-- the first place of a name -/
theorem first_at {t : List Nat} : ∀ {ns : List (List Nat)}, t ∈ ns → ns[ns.idxOf t]? = some t ∧ ∀ m s, m < ns.idxOf t → ns[m]? = some s → ¬ s = t
  | [], h => nomatch h
  | a :: r, h => by
    rw [List.idxOf_cons]
    by_cases c : a = t
    · rw [c, beq_self_eq_true, cond_true]
      exact ⟨rfl, fun m s hm => absurd hm (Nat.not_lt_zero _)⟩
    · rw [beq_eq_false_iff_ne.mpr c, cond_false]
      have hr : t ∈ r := (List.mem_cons.mp h).elim (fun e => absurd e.symm c) id
      obtain ⟨h1, h2⟩ := first_at hr
      refine ⟨by simpa using h1, fun m s hm e => ?_⟩
      cases m with
      | zero =>
        have : a = s := by simpa using e
        rw [← this]
        exact c
      | succ m => exact h2 m s (by omega) (by simpa using e)
/-- a dict's pairs stand for pairs of a name and a thing -/
def KvR {α : Type} (R : α → V → Prop) : List (List Nat × α) → List (Key × V) → Prop
  | [], [] => True
  | p :: l, q :: m => q.1 = kT (SX.S p.1) ∧ R p.2 q.2 ∧ KvR R l m
  | _, _ => False
section
variable {α : Type} {R R' : α → V → Prop}
theorem KvR.imp (h : ∀ a v, R a v → R' a v) : ∀ {l : List (List Nat × α)} {m : List (Key × V)}, KvR R l m → KvR R' l m
  | [], [], _ => trivial
  | _ :: _, _ :: _, ⟨a, b, c⟩ => ⟨a, h _ _ b, KvR.imp h c⟩
  | [], _ :: _, h => h.elim
  | _ :: _, [], h => h.elim
theorem KvR.len : ∀ {l : List (List Nat × α)} {m : List (Key × V)}, KvR R l m → m.length = l.length
  | [], [], _ => rfl
  | _ :: _, _ :: _, ⟨_, _, c⟩ => congrArg (· + 1) (KvR.len c)
  | [], _ :: _, h => h.elim
  | _ :: _, [], h => h.elim
theorem KvR.snoc {t : List Nat} {a : α} {v : V} (r : R a v) : ∀ {l : List (List Nat × α)} {m : List (Key × V)}, KvR R l m → KvR R (l ++ [(t, a)]) (m ++ [(kT (SX.S t), v)])
  | [], [], _ => ⟨rfl, r, trivial⟩
  | _ :: _, _ :: _, ⟨x, y, z⟩ => ⟨x, y, KvR.snoc r z⟩
  | [], _ :: _, h => h.elim
  | _ :: _, [], h => h.elim
theorem KvR.any {t : List Nat} : ∀ {l : List (List Nat × α)} {m : List (Key × V)}, KvR R l m → (m.any fun kv => decide (kv.1 = kT (SX.S t))) = (l.any fun p => decide (p.1 = t))
  | [], [], _ => rfl
  | p :: l, q :: m, ⟨x, _, z⟩ => by
    show (decide (q.1 = kT (SX.S t)) || m.any _) = (decide (p.1 = t) || l.any _)
    rw [KvR.any z, x]
    by_cases c : p.1 = t
    · rw [c, decide_eq_true rfl, decide_eq_true rfl]
    · rw [decide_eq_false c, decide_eq_false fun e => c (kS_inj e)]
  | [], _ :: _, h => h.elim
  | _ :: _, [], h => h.elim
theorem KvR.put {t : List Nat} {a : α} {v : V} (r : R a v) {l : List (List Nat × α)} {m : List (Key × V)} (h : KvR R l m) : KvR R (putA l t a) (putK m (kT (SX.S t)) v) := by
  unfold putA putK
  rw [h.any]
  split
  · have key : ∀ {l : List (List Nat × α)} {m : List (Key × V)}, KvR R l m → KvR R (l.map fun p => if p.1 = t then (p.1, a) else p) (m.map fun kv => if kv.1 = kT (SX.S t) then (kv.1, v) else kv) := by
      intro l
      induction l with
      | nil =>
        intro m h
        cases m with
        | nil => trivial
        | cons _ _ => exact h.elim
      | cons p l ih =>
        intro m h
        cases m with
        | nil => exact h.elim
        | cons q m =>
          obtain ⟨x, y, z⟩ := h
          rw [List.map_cons, List.map_cons]
          by_cases c : p.1 = t
          · rw [if_pos c, if_pos (by rw [x, c])]
            exact ⟨x, r, ih z⟩
          · rw [if_neg c, if_neg (by rw [x]; exact fun e => c (kS_inj e))]
            exact ⟨x, y, ih z⟩
    exact key h
  · exact h.snoc r
def getA (l : List (List Nat × α)) (t : List Nat) : Option α := (l.find? fun p => decide (p.1 = t)).map (·.2)
theorem getA_cons (p : List Nat × α) (l : List (List Nat × α)) (t : List Nat) : getA (p :: l) t = if p.1 = t then some p.2 else getA l t := by
  unfold getA
  rw [List.find?_cons]
  by_cases c : p.1 = t
  · rw [if_pos c, decide_eq_true c]
    rfl
  · rw [if_neg c, decide_eq_false c]
theorem KvR.get {t : List Nat} : ∀ {l : List (List Nat × α)} {m : List (Key × V)}, KvR R l m → (getA l t = none ∧ valV m (kT (SX.S t)) = none) ∨ ∃ a v, getA l t = some a ∧ valV m (kT (SX.S t)) = some v ∧ R a v
  | [], [], _ => .inl ⟨rfl, rfl⟩
  | p :: l, q :: m, ⟨x, y, z⟩ => by
    rw [getA_cons]
    by_cases c : p.1 = t
    · rw [if_pos c, valV_pos (by rw [x, c])]
      exact .inr ⟨_, _, rfl, rfl, y⟩
    · rw [if_neg c, valV_neg (by rw [x]; exact fun e => c (kS_inj e))]
      exact KvR.get z
  | [], _ :: _, h => h.elim
  | _ :: _, [], h => h.elim
theorem KvR.at {l : List (List Nat × α)} {m : List (Key × V)} {i : Nat} {k : Key} {v : V} (h : KvR R l m) (e : m[i]? = some (k, v)) : ∃ p, l[i]? = some p ∧ k = kT (SX.S p.1) ∧ R p.2 v := by
  induction l generalizing m i with
  | nil =>
    cases m with
    | nil => simp at e
    | cons _ _ => exact h.elim
  | cons p l ih =>
    cases m with
    | nil => exact h.elim
    | cons q m =>
      obtain ⟨x, y, z⟩ := h
      cases i with
      | zero =>
        have e' : q = (k, v) := by simpa using e
        rw [e'] at x y
        exact ⟨p, rfl, x, y⟩
      | succ i => exact ih z (by simpa using e)
end
theorem kvR_keys {α : Type} {R : α → V → Prop} : ∀ {l : List (List Nat × α)} {m : List (Key × V)}, KvR R l m → m.map (fun kv => kV kv.1) = txs (l.map (·.1))
  | [], [], _ => rfl
  | p :: l, q :: m, ⟨x, _, z⟩ => by
    show kV q.1 :: m.map _ = .str (SX.S p.1) :: txs (l.map (·.1))
    rw [kvR_keys z, x]
    rfl
  | [], _ :: _, h => h.elim
  | _ :: _, [], h => h.elim
theorem numsR (l : List Pr) : KvR (fun (x : Int) v => v = .int x) l (numsK l) := by
  induction l with
  | nil => trivial
  | cons p l ih => exact ⟨rfl, rfl, ih⟩
theorem numsR_eq : ∀ {l : List Pr} {m : List (Key × V)}, KvR (fun (x : Int) v => v = .int x) l m → m = numsK l
  | [], [], _ => rfl
  | p :: l, q :: m, ⟨x, y, z⟩ => by
    rw [numsR_eq z]
    show q :: numsK l = (kT (SX.S p.1), V.int p.2) :: numsK l
    rw [← x, ← y]
  | [], _ :: _, h => h.elim
  | _ :: _, [], h => h.elim
theorem nums_putA (l : List Pr) (t : List Nat) (v : Int) : putK (numsK l) (kT (SX.S t)) (.int v) = numsK (putA l t v) := numsR_eq (KvR.put (R := fun (x : Int) v => v = .int x) (a := v) rfl (numsR l))
theorem seen_put {l : List Pr} {t u : List Nat} {v : Int} : seen (putA l t v) u = if t = u then some v else seen l u := by
  have none_of : ∀ {l : List Pr}, ¬ (l.any fun p => decide (p.1 = t)) = true → seen l t = none := fun {l} h => by
    unfold seen
    rw [List.find?_eq_none.mpr fun p hp c => h (List.any_eq_true.mpr ⟨p, hp, c⟩)]
    rfl
  unfold putA
  by_cases c : (l.any fun p => decide (p.1 = t)) = true
  · rw [if_pos c]
    induction l with
    | nil => simp at c
    | cons p l ih =>
      rw [List.map_cons, seen_cons, seen_cons]
      by_cases h1 : p.1 = t
      · rw [if_pos h1]
        by_cases h2 : t = u
        · rw [if_pos (by rw [h1, h2]), if_pos h2]
        · rw [if_neg (by rw [h1]; exact h2), if_neg h2, if_neg (by rw [h1]; exact h2)]
          by_cases c2 : (l.any fun p => decide (p.1 = t)) = true
          · rw [ih c2, if_neg h2]
          · have e : l.map (fun p => if p.1 = t then (p.1, v) else p) = l := by
              have key : ∀ p ∈ l, (if p.1 = t then (p.1, v) else p) = p := fun p hp => if_neg fun z => c2 (List.any_eq_true.mpr ⟨p, hp, decide_eq_true z⟩)
              exact (List.map_congr_left key).trans (List.map_id' l)
            rw [e]
      · rw [if_neg h1]
        have c2 : (l.any fun p => decide (p.1 = t)) = true := by
          rw [List.any_cons, decide_eq_false h1, Bool.false_or] at c
          exact c
        by_cases h2 : p.1 = u
        · rw [if_pos h2, if_pos h2, if_neg (fun z => h1 (by rw [h2, z]))]
        · rw [if_neg h2, if_neg h2, ih c2]
  · rw [if_neg c]
    have app : ∀ {l : List Pr} {q : Pr}, seen (l ++ [q]) u = match seen l u with | some x => some x | none => if q.1 = u then some q.2 else none := by
      intro l q
      induction l with
      | nil =>
        rw [List.nil_append, seen_cons]
        rfl
      | cons p l ih =>
        rw [List.cons_append, seen_cons, seen_cons, ih]
        by_cases h : p.1 = u
        · rw [if_pos h, if_pos h]
        · rw [if_neg h, if_neg h]
    rw [app]
    by_cases h2 : t = u
    · subst h2
      rw [none_of c, if_pos rfl]
    · simp only [if_neg h2]
      cases seen l u <;> rfl
/-- looks for one name after another -/
def lkAll (h : House) (n : Nat) : RkS → List (List Nat) → OutR RkS
  | s, [] => .ok 0 s
  | s, t :: ts => match lkR h n s t with
    | .ok _ s' => lkAll h n s' ts
    | .err e => .err e
theorem lkAll_snoc {h : House} {n : Nat} {t : List Nat} : ∀ {ts : List (List Nat)} {s s' : RkS} {v : Int}, lkAll h n s ts = .ok v s' → lkAll h n s (ts ++ [t]) = match lkR h n s' t with
    | .ok _ s2 => .ok 0 s2
    | .err e => .err e
  | [], s, s', v, e => by
    cases e
    rfl
  | u :: ts, s, s', v, e => by
    unfold lkAll at e
    show (match lkR h n s u with | .ok _ s' => lkAll h n s' (ts ++ [t]) | .err e => .err e) = _
    cases e1 : lkR h n s u with
    | err x => rw [e1] at e; cases e
    | ok w s1 =>
      rw [e1] at e
      exact lkAll_snoc e
theorem lkAll_err {h : House} {n : Nat} {x : XErr} {us : List (List Nat)} : ∀ {ts : List (List Nat)} {s : RkS}, lkAll h n s ts = .err x → lkAll h n s (ts ++ us) = .err x
  | [], s, e => by cases e
  | u :: ts, s, e => by
    unfold lkAll at e
    show (match lkR h n s u with | .ok _ s' => lkAll h n s' (ts ++ us) | .err e => .err e) = _
    cases e1 : lkR h n s u with
    | err y => rw [e1] at e; exact e
    | ok w s1 =>
      rw [e1] at e
      exact lkAll_err e
theorem KvR.mem {α : Type} {R : α → V → Prop} : ∀ {l : List (List Nat × α)} {m : List (Key × V)}, KvR R l m → ∀ q ∈ m, ∃ a, R a q.2
  | [], [], _, _, h => nomatch h
  | p :: l, q :: m, ⟨_, y, z⟩, r, hr => by
    rcases List.mem_cons.mp hr with rfl | hr
    · exact ⟨_, y⟩
    · exact KvR.mem z r hr
  | [], _ :: _, h, _, _ => h.elim
  | _ :: _, [], h, _, _ => h.elim
/-! ### the class Reckoner walked -/
open LamX NdefX
structure RkT (K : PySem.W.Frag) (mg : Str → Option Value) (C fI : Addr) : Prop where
  cl : Cls K C
  nG : NoAttr K C "given"
  nR : NoAttr K C "recipes"
  nK : NoAttr K C "known"
  nF : NoAttr K C "read_for"
  nA : NoAttr K C "asked"
  g : mg "Reckoner" = some (.ref C)
  mkI : Mk K C fI
/-- all but the tables and the things of S stay; the tables of Tb are tables still -/
def FrS (Tb : List NTab) (S : List Addr) (H H' : Hp) : Prop := (∀ x u, x ∉ S → (∀ ps, u ≠ .tbl ps) → H x = some u → H' x = some u) ∧ (∀ b, H' b = none → H b = none) ∧ (TabsN Tb H → TabsN Tb H')
section
variable {Tb : List NTab}
theorem FrS.refl (S : List Addr) (H : Hp) : FrS Tb S H H := ⟨fun _ _ _ _ h => h, fun _ h => h, fun h => h⟩
theorem FrS.trans {S : List Addr} {A B C : Hp} (f : FrS Tb S A B) (g : FrS Tb S B C) : FrS Tb S A C := ⟨fun x u n t h => g.1 x u n t (f.1 x u n t h), fun b h => f.2.1 b (g.2.1 b h), fun h => g.2.2 (f.2.2 h)⟩
theorem FrS.of {S : List Addr} {A B : Hp} (s : Same A B) : FrS Tb S A B := ⟨fun x u _ _ h => s x u h, fun b h => s.free h, fun t => t.ext s⟩
theorem FrS.mono {S S' : List Addr} {A B : Hp} (f : FrS Tb S A B) (h : ∀ x ∈ S, x ∈ S') : FrS Tb S' A B := ⟨fun x u n t e => f.1 x u (fun m => n (h x m)) t e, f.2⟩
/-- a dict or a list -/
def DL (H : Hp) (a : Addr) : Prop := (∃ kvs, H a = some (.dK kvs)) ∨ ∃ xs, H a = some (.lst xs)
theorem DL.tab {H : Hp} {a : Addr} {o : HO} (d : DL H a) (t : TabsN Tb H) : TabsN Tb (upd H a o) := fun p hp => by
  obtain ⟨ps, t1, t2, t3⟩ := t p hp
  refine ⟨ps, ?_, t2, fun pos cv hc => ?_⟩
  · rw [upd_ne (fun z => by rcases d with ⟨_, d⟩ | ⟨_, d⟩ <;> rw [z, d] at t1 <;> cases t1)]
    exact t1
  · obtain ⟨c, e1, e2⟩ := t3 pos cv hc
    refine ⟨c, e1, ?_⟩
    rw [upd_ne (fun z => by rcases d with ⟨_, d⟩ | ⟨_, d⟩ <;> rw [z, d] at e2 <;> cases e2)]
    exact e2
theorem FrS.upd {S : List Addr} {H : Hp} {a : Addr} {o : HO} (h : a ∈ S) (d : DL H a) : FrS Tb S H (upd H a o) := ⟨fun x u n _ e => by rw [upd_ne (fun z => n (by rw [z]; exact h))]; exact e, fun b h' => by
  unfold L2.upd at h'
  split at h'
  · cases h'
  · exact h', d.tab⟩
theorem FrS.ext {S : List Addr} {H H' : Hp} (e : ExtN H H') (n : ∀ b, H' b = none → H b = none) (t : TabsN Tb H') : FrS Tb S H H' := ⟨fun x u _ t h => e x u h t, n, fun _ => t⟩
end
theorem Rd.mp {H H' : Hp} {a : Addr} {k : List (Key × V)} (h : ∀ o, H a = some o → (∀ ps, o ≠ .tbl ps) → H' a = some o) (r : Rd H a (.dK k)) : Rd H' a (.dK k) := r.imp (fun e => h _ e (fun _ z => by cases z)) fun ⟨o, e⟩ => ⟨o, h _ e (fun _ z => by cases z)⟩
theorem DGet.rd {H : Hp} {a : Addr} {k : Key} {kvs : List (Key × V)} (r : Rd H a (.dK kvs)) : DGet H a (kV k) (valV kvs k) := .inl ⟨_, k, r, rfl, rfl⟩
/-- where a reckoner stands -/
structure RkA where
  R : Addr
  gD : Addr
  rD : Addr
  kD : Addr
  fD : Addr
  aL : Addr
  B : Hp
def RkA.own (A : RkA) : List Addr := [A.kD, A.fD, A.aL]
def RdsV (H : Hp) (aL : Addr) (B : Hp) (rd : List Pr) (v : V) : Prop := ∃ L xs, v = .ref L ∧ L ≠ aL ∧ B L = none ∧ H L = some (.lst xs) ∧ Prs H rd xs
structure RkAt (C : Addr) (Tb : List NTab) (A : RkA) (h : House) (s : RkS) (H : Hp) : Prop where
  ins : ∃ dx fs, H A.R = some (.ins C dx fs) ∧ fs.lookup ("given" : Str) = some (.ref A.gD) ∧ fs.lookup ("recipes" : Str) = some (.ref A.rD) ∧ fs.lookup ("known" : Str) = some (.ref A.kD) ∧ fs.lookup ("read_for" : Str) = some (.ref A.fD) ∧ fs.lookup ("asked" : Str) = some (.ref A.aL) ∧ fs.lookup ("look_for" : Str) = none
  gv : H A.gD = some (.dK (numsK h.given))
  rc : ∃ kvs, Rd H A.rD (.dK kvs) ∧ KvR (Rec H) h.recs kvs
  kn : H A.kD = some (.dK (numsK s.known))
  rd : ∃ kvs, H A.fD = some (.dK kvs) ∧ KvR (RdsV H A.aL A.B) s.read kvs
  ask : H A.aL = some (.lst (txs s.asked))
  tab : TabsN Tb H
  bas : ∀ b, H b = none → A.B b = none
  ne : A.kD ≠ A.fD ∧ A.gD ≠ A.kD ∧ A.gD ≠ A.fD ∧ A.rD ≠ A.kD ∧ A.rD ≠ A.fD
  rn : ∀ kvs, H A.fD = some (.dK kvs) → (kvs.map (·.2)).Nodup
theorem FrS.keep {Tb : List NTab} {S : List Addr} {H H' : Hp} (f : FrS Tb S H H') (hS : ∀ x ∈ S, ∀ xs, H x ≠ some (.tup xs)) : Keep H H' := fun b ys e => f.1 b _ (fun m => hS b m ys e) (fun ps z => by cases z) e
theorem RdsV.fr {Tb : List NTab} {S : List Addr} {H H' : Hp} {aL : Addr} {B : Hp} {rd : List Pr} {v : V} (f : FrS Tb S H H') (k : Keep H H') (hl : ∀ L xs, H L = some (.lst xs) → L ≠ aL → L ∉ S) (h : RdsV H aL B rd v) : RdsV H' aL B rd v := by
  obtain ⟨L, xs, e, n, nb, hL, hP⟩ := h
  exact ⟨L, xs, e, n, nb, f.1 L _ (hl L xs hL n) (fun ps z => by cases z) hL, hP.keep k⟩
theorem RkAt.fr {C : Addr} {Tb : List NTab} {A : RkA} {h : House} {s : RkS} {S : List Addr} {H H' : Hp} (a : RkAt C Tb A h s H) (f : FrS Tb S H H') (hS : ∀ x ∈ S, (∀ xs, H x ≠ some (.tup xs)) ∧ x ≠ A.R ∧ x ≠ A.gD ∧ x ≠ A.rD ∧ x ≠ A.kD ∧ x ≠ A.fD ∧ x ≠ A.aL ∧ ∀ xs, H x ≠ some (.lst xs)) : RkAt C Tb A h s H' := by
  have st : ∀ {x : Addr} {u : HO}, x ∉ S → (∀ ps, u ≠ .tbl ps) → H x = some u → H' x = some u := fun n t e => f.1 _ _ n t e
  have k := f.keep fun x hx => (hS x hx).1
  obtain ⟨dx, fs, h1, h2⟩ := a.ins
  obtain ⟨kvs, h3, h4⟩ := a.rc
  obtain ⟨kvs2, h5, h6⟩ := a.rd
  refine ⟨⟨dx, fs, st (fun m => (hS _ m).2.1 rfl) (fun _ z => by cases z) h1, h2⟩, st (fun m => (hS _ m).2.2.1 rfl) (fun _ z => by cases z) a.gv, ⟨kvs, Rd.mp (fun o e t => st (fun m => (hS _ m).2.2.2.1 rfl) t e) h3, h4.imp fun r v q => q.keep k⟩, st (fun m => (hS _ m).2.2.2.2.1 rfl) (fun _ z => by cases z) a.kn,
    ⟨kvs2, st (fun m => (hS _ m).2.2.2.2.2.1 rfl) (fun _ z => by cases z) h5, h6.imp fun r v q => q.fr f k fun L xs e _ m => (hS _ m).2.2.2.2.2.2.2 xs e⟩, st (fun m => (hS _ m).2.2.2.2.2.2.1 rfl) (fun _ z => by cases z) a.ask, f.2.2 a.tab, (fun b e => a.bas b (f.2.1 b e)), a.ne, fun kvs e => by
      rw [st (fun m => (hS _ m).2.2.2.2.2.1 rfl) (fun _ z => by cases z) h5] at e
      cases e
      exact a.rn _ h5⟩
theorem RkAt.same {C : Addr} {Tb : List NTab} {A : RkA} {h : House} {s : RkS} {H H' : Hp} (a : RkAt C Tb A h s H) (sm : Same H H') : RkAt C Tb A h s H' := a.fr (S := []) (FrS.of sm) (fun _ h => nomatch h)
/-- a dict of its own is no part of it -/
theorem RkAt.ownD {C : Addr} {Tb : List NTab} {A : RkA} {h : House} {s : RkS} {H H' : Hp} {D : Addr} {kvs : List (Key × V)} (a : RkAt C Tb A h s H) (f : FrS Tb [D] H H') (hD : H D = some (.dK kvs)) (n1 : D ≠ A.gD) (n2 : D ≠ A.rD) (n3 : D ≠ A.kD) (n4 : D ≠ A.fD) : RkAt C Tb A h s H'   := a.fr f fun x hx => by
  rw [List.mem_singleton.mp hx]
  obtain ⟨dx, fs, h1, _⟩ := a.ins
  refine ⟨fun xs e => (by rw [hD] at e; cases e), fun z => (by rw [z, h1] at hD; cases hD), n1, n2, n3, n4, fun z => (by rw [z, a.ask] at hD; cases hD), fun xs e => (by rw [hD] at e; cases e)⟩
theorem RkAt.keepOwn {C : Addr} {Tb : List NTab} {A : RkA} {h : House} {s : RkS} {H H' : Hp} (a : RkAt C Tb A h s H) (f : FrS Tb A.own H H') : Keep H H' := f.keep fun x hx xs e => by
  obtain ⟨kvs, h5, _⟩ := a.rd
  rcases List.mem_cons.mp hx with rfl | hx
  · rw [a.kn] at e; cases e
  rcases List.mem_cons.mp hx with rfl | hx
  · rw [h5] at e; cases e
  rw [List.mem_singleton.mp hx, a.ask] at e
  cases e
theorem RkAt.extOwn {C : Addr} {Tb : List NTab} {A : RkA} {h : House} {s : RkS} {H H' : Hp} {b : Addr} {phi : Heap → Prop} (a : RkAt C Tb A h s H) (f : FrS Tb A.own H H') (e : H b = some (.ext phi)) : H' b = some (.ext phi) := f.1 b _ (fun hx => by
  obtain ⟨kvs, h5, _⟩ := a.rd
  rcases List.mem_cons.mp hx with rfl | hx
  · rw [a.kn] at e; cases e
  rcases List.mem_cons.mp hx with rfl | hx
  · rw [h5] at e; cases e
  rw [List.mem_singleton.mp hx, a.ask] at e
  cases e) (fun ps z => by cases z) e
/-- a worth known more -/
theorem RkAt.known {C : Addr} {Tb : List NTab} {A : RkA} {h : House} {s : RkS} {H : Hp} (a : RkAt C Tb A h s H) (t : List Nat) (v : Int) : RkAt C Tb A h { s with known := putA s.known t v } (upd H A.kD (.dK (numsK (putA s.known t v)))) := by
  obtain ⟨n1, n2, n3, n4, n5⟩ := a.ne
  obtain ⟨dx, fs, h1, h2⟩ := a.ins
  obtain ⟨kvs, h3, h4⟩ := a.rc
  obtain ⟨kvs2, h5, h6⟩ := a.rd
  have f : FrS Tb [A.kD] H (upd H A.kD (.dK (numsK (putA s.known t v)))) := FrS.upd (List.mem_singleton.mpr rfl) (.inl ⟨_, a.kn⟩)
  have k : Keep H (upd H A.kD (.dK (numsK (putA s.known t v)))) := f.keep fun x hx xs e => by rw [List.mem_singleton.mp hx, a.kn] at e; cases e
  refine ⟨⟨dx, fs, ?_, h2⟩, ?_, ⟨kvs, ?_, h4.imp fun r v q => q.keep k⟩, upd_same, ⟨kvs2, ?_, h6.imp fun r v q => q.fr f k fun L xs e _ m => by rw [List.mem_singleton.mp m, a.kn] at e; cases e⟩, ?_, f.2.2 a.tab, (fun b e => a.bas b (f.2.1 b e)), a.ne, fun kvs e => a.rn kvs (by rw [upd_ne n1.symm] at e; exact e)⟩
  · rw [upd_ne (fun z => by rw [z, a.kn] at h1; cases h1)]; exact h1
  · rw [upd_ne n2]; exact a.gv
  · exact Rd.mp (fun o e _ => by rw [upd_ne n4]; exact e) h3
  · rw [upd_ne n1.symm]; exact h5
  · rw [upd_ne (fun z => by have := a.ask; rw [z, a.kn] at this; cases this)]; exact a.ask
/-- other names asked -/
theorem RkAt.asking {C : Addr} {Tb : List NTab} {A : RkA} {h : House} {s : RkS} {H : Hp} (a : RkAt C Tb A h s H) (ns : List (List Nat)) : RkAt C Tb A h { s with asked := ns } (upd H A.aL (.lst (txs ns))) := by
  obtain ⟨dx, fs, h1, h2⟩ := a.ins
  obtain ⟨kvs, h3, h4⟩ := a.rc
  obtain ⟨kvs2, h5, h6⟩ := a.rd
  have f : FrS Tb [A.aL] H (upd H A.aL (.lst (txs ns))) := FrS.upd (List.mem_singleton.mpr rfl) (.inr ⟨_, a.ask⟩)
  have k : Keep H (upd H A.aL (.lst (txs ns))) := keep_lst a.ask
  refine ⟨⟨dx, fs, ?_, h2⟩, ?_, ⟨kvs, ?_, h4.imp fun r v q => q.keep k⟩, ?_, ⟨kvs2, ?_, h6.imp fun r v q => q.fr f k fun L xs e n m => n (List.mem_singleton.mp m)⟩, upd_same, f.2.2 a.tab, (fun b e => a.bas b (f.2.1 b e)), a.ne, fun kvs e => a.rn kvs (by rw [upd_ne (fun z => by rw [z, a.ask] at h5; cases h5)] at e; exact e)⟩
  · rw [upd_ne (fun z => by rw [z, a.ask] at h1; cases h1)]; exact h1
  · rw [upd_ne (fun z => by have := a.gv; rw [z, a.ask] at this; cases this)]; exact a.gv
  · exact Rd.mp (fun o e _ => by rw [upd_ne (fun z => by rcases h3 with h3 | ⟨_, h3⟩ <;> (rw [z, a.ask] at h3; cases h3))]; exact e) h3
  · rw [upd_ne (fun z => by have := a.kn; rw [z, a.ask] at this; cases this)]; exact a.kn
  · rw [upd_ne (fun z => by rw [z, a.ask] at h5; cases h5)]; exact h5
/-- reads put down -/
theorem RkAt.reads {C : Addr} {Tb : List NTab} {A : RkA} {h : House} {s : RkS} {H : Hp} (a : RkAt C Tb A h s H) {kvs2 : List (Key × V)} (h5 : H A.fD = some (.dK kvs2)) (h6 : KvR (RdsV H A.aL A.B) s.read kvs2) (t : List Nat) {own : List Pr} {v : V} (hv : RdsV H A.aL A.B own v) (hnew : ∀ q ∈ kvs2, q.2 ≠ v) (hnt : ¬ t ∈ s.read.map (·.1)) : RkAt C Tb A h { s with read := putA s.read t own } (upd H A.fD (.dK (putK kvs2 (kT (SX.S t)) v))) := by
  obtain ⟨n1, n2, n3, n4, n5⟩ := a.ne
  obtain ⟨dx, fs, h1, h2⟩ := a.ins
  obtain ⟨kvs, h3, h4⟩ := a.rc
  have f : FrS Tb [A.fD] H (upd H A.fD (.dK (putK kvs2 (kT (SX.S t)) v))) := FrS.upd (List.mem_singleton.mpr rfl) (.inl ⟨_, h5⟩)
  have k : Keep H (upd H A.fD (.dK (putK kvs2 (kT (SX.S t)) v))) := f.keep fun x hx xs e => by rw [List.mem_singleton.mp hx, h5] at e; cases e
  have up : ∀ r v, RdsV H A.aL A.B r v → RdsV (upd H A.fD (.dK (putK kvs2 (kT (SX.S t)) v))) A.aL A.B r v := fun r v q => by
    have f : FrS Tb [A.fD] H (upd H A.fD (.dK (putK kvs2 (kT (SX.S t)) v))) := FrS.upd (List.mem_singleton.mpr rfl) (.inl ⟨_, h5⟩)
    exact q.fr f (f.keep fun x hx xs e => by rw [List.mem_singleton.mp hx, h5] at e; cases e) fun L xs e n m => by rw [List.mem_singleton.mp m, h5] at e; cases e
  refine ⟨⟨dx, fs, ?_, h2⟩, ?_, ⟨kvs, ?_, h4.imp fun r v q => q.keep k⟩, ?_, ⟨_, upd_same, (KvR.put hv h6).imp fun r x q => ?_⟩, ?_, f.2.2 a.tab, (fun b e => a.bas b (f.2.1 b e)), a.ne, fun kvs e => ?_⟩
  · rw [upd_ne (fun z => by rw [z, h5] at h1; cases h1)]; exact h1
  · rw [upd_ne n3]; exact a.gv
  · exact Rd.mp (fun o e _ => by rw [upd_ne n5]; exact e) h3
  · rw [upd_ne n1]; exact a.kn
  · exact q.fr f k fun L xs e n m => by rw [List.mem_singleton.mp m, h5] at e; cases e
  · rw [upd_ne (fun z => by have := a.ask; rw [z, h5] at this; cases this)]; exact a.ask
  · rw [upd_same] at e
    cases e
    unfold putK
    rw [if_neg (by
      rw [h6.any]
      intro z
      obtain ⟨p, hp, e2⟩ := List.any_eq_true.mp z
      exact hnt (List.mem_map.mpr ⟨p, hp, of_decide_eq_true e2⟩)), List.map_append]
    refine List.nodup_append.mpr ⟨a.rn _ h5, List.nodup_cons.mpr ⟨(fun z => nomatch z), List.nodup_nil⟩, fun x hx y hy e2 => ?_⟩
    obtain ⟨q2, hq2, rfl⟩ := List.mem_map.mp hx
    rw [List.mem_singleton.mp hy] at e2
    exact hnew q2 hq2 e2
def lvR (dm n : Nat) : Nat := n * (dm + 2) + 1
/-- look_for's promise, by n names in one another -/
def spLF (C CN CR : Addr) (Tb : List NTab) (dm n : Nat) : Sp := fun vs H Q E => ∃ (A : RkA) (h : House) (beta : Nat → Nat) (s : RkS) (t : List Nat), vs = [.ref A.R, .str (SX.S t)] ∧ HouseOk dm h beta ∧ h.given.length + h.recs.length ≤ 100000 ∧ RkAt C Tb A h s H ∧ RkOk h beta s ∧ h.recs.length + 1 ≤ s.asked.length + n ∧ Nm t ∧
  TellW (fun s' H' => RkAt C Tb A h s' H') (FrS Tb A.own) (ErK CN CR) Q E H (lkR h n s t)
/-! ### look_for -/
open LamX NdefX
def At2 (C : Addr) (Tb : List NTab) (A : RkA) (h : House) (D : Addr) : RkS × List Pr → Hp → Prop := fun p H => RkAt C Tb A h p.1 H ∧ H D = some (.dK (numsK p.2)) ∧ D ≠ A.gD ∧ D ≠ A.rD ∧ D ≠ A.kD ∧ D ≠ A.fD
def J2 (h : House) (beta : Nat → Nat) (B : List (List Nat)) : RkS × List Pr → Prop := fun p => RkOk h beta p.1 ∧ p.1.asked = B ∧ OwnOk beta p.1 p.2
theorem At2.not {C : Addr} {Tb : List NTab} {A : RkA} {h : House} {D : Addr} {p : RkS × List Pr} {H : Hp} (a : At2 C Tb A h D p H) {x : Addr} (hx : x ∈ D :: A.own) : (∃ kvs, H x = some (.dK kvs)) ∨ ∃ xs, H x = some (.lst xs) := by
  obtain ⟨kvs, h5, _⟩ := a.1.rd
  rcases List.mem_cons.mp hx with rfl | hx
  · exact .inl ⟨_, a.2.1⟩
  rcases List.mem_cons.mp hx with rfl | hx
  · exact .inl ⟨_, a.1.kn⟩
  rcases List.mem_cons.mp hx with rfl | hx
  · exact .inl ⟨_, h5⟩
  rw [List.mem_singleton.mp hx]
  exact .inr ⟨_, a.1.ask⟩
theorem frOk2 (C : Addr) (Tb : List NTab) (A : RkA) (h : House) (D : Addr) : FrOk (At2 C Tb A h D) (FrS Tb (D :: A.own)) where
  refl := FrS.refl _
  trans := FrS.trans
  keep := fun a f => f.keep fun x hx xs e => by
    rcases a.not hx with ⟨_, z⟩ | ⟨_, z⟩ <;> rw [z] at e <;> cases e
  ext := fun a f e => f.1 _ _ (fun hx => by rcases a.not hx with ⟨_, z⟩ | ⟨_, z⟩ <;> rw [z] at e <;> cases e) (fun ps z => by cases z) e
/-! ### look_for walked -/
open LamX NdefX
theorem flown2 {H : Hp} {a dx : Addr} {x u v w : HO} (h1 : H a = none) (h2 : H dx = none) : Same H (upd (del (upd (upd (upd H a x) dx u) a v) a) dx w) := fun b o e => by
  rw [upd_ne (ne_of_none e h2), del_ne (ne_of_none e h1), upd_ne (ne_of_none e h1), upd_ne (ne_of_none e h2), upd_ne (ne_of_none e h1)]
  exact e
theorem FrS.drop {Tb : List NTab} {D : Addr} {S : List Addr} {H H' : Hp} (f : FrS Tb (D :: S) H H') (n : H D = none) : FrS Tb S H H' := ⟨fun x u m t e => f.1 x u (fun z => (List.mem_cons.mp z).elim (fun z => by rw [z, n] at e; cases e) m) t e, f.2⟩
theorem txs_snoc (ns : List (List Nat)) (t : List Nat) : txs ns ++ [.str (SX.S t)] = txs (ns ++ [t]) := by rw [txs_app]; rfl
theorem txs_pop (ns : List (List Nat)) (t : List Nat) : (txs (ns ++ [t])).dropLast = txs ns ∧ (txs (ns ++ [t]))[(txs (ns ++ [t])).length - 1]? = some (.str (SX.S t)) := by
  rw [← txs_snoc]
  refine ⟨List.dropLast_concat, ?_⟩
  rw [List.length_append, List.getElem?_append_right (by simp)]
  simp
theorem rcp_seen (l : List RcpNm) (t : List Nat) : getA l t = rcpOf l t := rfl
/-! ### a reckoner made; worth_of, reads_of -/
open LamX NdefX
theorem putF_le (f : Str) (v : V) : ∀ fs : List (Str × V), (putF f v fs).length ≤ fs.length + 1
  | [] => Nat.le_refl _
  | (g, y) :: r => by
    unfold putF
    by_cases c : g = f
    · rw [if_pos c]
      exact Nat.le_succ _
    · rw [if_neg c]
      exact Nat.succ_le_succ (putF_le f v r)
/-- what __init__ leaves -/
def spRkI (C : Addr) : Sp := fun vs H Q _ => ∃ (R dx p gD rD : Addr), vs = [.ref R, .ref p] ∧ H R = some (.ins C dx []) ∧ H p = some (.tup [.ref gD, .ref rD]) ∧
  ∀ (kD fD aL : Addr) (H' : Hp), H kD = none → H fD = none → H aL = none → kD ≠ fD → (∃ fs, H' R = some (.ins C dx fs) ∧ fs.lookup ("given" : Str) = some (.ref gD) ∧ fs.lookup ("recipes" : Str) = some (.ref rD) ∧ fs.lookup ("known" : Str) = some (.ref kD) ∧ fs.lookup ("read_for" : Str) = some (.ref fD) ∧ fs.lookup ("asked" : Str) = some (.ref aL) ∧ fs.lookup ("look_for" : Str) = none) →
    H' kD = some (.dK []) → H' fD = some (.dK []) → H' aL = some (.lst []) → (∀ b o, b ≠ R → H b = some o → H' b = some o) → Q .non H'
/-- a house stands at v -/
def HouseAt (H : Hp) (h : House) (v : V) : Prop := ∃ (p gD rD : Addr) (kvs : List (Key × V)), v = .ref p ∧ H p = some (.tup [.ref gD, .ref rD]) ∧ H gD = some (.dK (numsK h.given)) ∧ Rd H rD (.dK kvs) ∧ KvR (Rec H) h.recs kvs
theorem HouseAt.same {H H' : Hp} {h : House} {v : V} (a : HouseAt H h v) (s : Same H H') : HouseAt H' h v := by
  obtain ⟨p, gD, rD, kvs, e, h1, h2, h3, h4⟩ := a
  exact ⟨p, gD, rD, kvs, e, s _ _ h1, s _ _ h2, Rd.mp (fun _ e _ => s _ _ e) h3, h4.imp fun r v q => q.same s⟩
/-- what worth_of tells: the worth, or the error flies -/
def TellO2 (Tb : List NTab) (CN CR : Addr) (Q : VK) (E : XK) (H : Hp) (o : OutR RkS) (R : RkS → Int → V → Hp → Prop) : Prop := match o with
  | .ok v s => ∀ x H', FrS Tb [] H H' → R s v x H' → Q x H'
  | .err e => ∀ H', FrS Tb [] H H' → ErK CN CR e E H'
def spWorthOf (CN CR : Addr) (Tb : List NTab) (dm n : Nat) : Sp := fun vs H Q E => ∃ (v : V) (h : House) (beta : Nat → Nat) (t : List Nat), vs = [v, .str (SX.S t)] ∧ HouseOk dm h beta ∧ h.given.length + h.recs.length ≤ 100000 ∧ h.recs.length + 1 ≤ n ∧ HouseAt H h v ∧ TabsN Tb H ∧ Nm t ∧
  TellO2 Tb CN CR Q E H (lkR h n emptyS t) fun _ v x _ => x = .int v
/-- the reads put down for t, [] of a given one -/
def readsFor (s : RkS) (t : List Nat) : List Pr := (getA s.read t).getD []
def spReadsOf (CN CR : Addr) (Tb : List NTab) (dm n : Nat) : Sp := fun vs H Q E => ∃ (v : V) (h : House) (beta : Nat → Nat) (t : List Nat), vs = [v, .str (SX.S t)] ∧ HouseOk dm h beta ∧ h.given.length + h.recs.length ≤ 100000 ∧ h.recs.length + 1 ≤ n ∧ HouseAt H h v ∧ TabsN Tb H ∧ Nm t ∧
  TellO2 Tb CN CR Q E H (lkR h n emptyS t) fun s _ x H' => ∃ L xs, x = .ref L ∧ H L = none ∧ H' L = some (.lst xs) ∧ Prs H' (readsFor s t) xs
section
variable {P : Program} {w : World} {K : PySem.W.Frag} {mg : Str → Option Value} {base : Heap} {C fI CN CR : Addr} {Tb : List NTab}
theorem rd_ne {H : Hp} {a b : Addr} {u : HO} (r : Rd H a u) (n : H b = none) : a ≠ b := fun z => by rcases r with r | ⟨_, r⟩ <;> (rw [z, n] at r; cases r)
theorem rk_made {C R dx gD rD kD fD aL p : Addr} {Tb : List NTab} {h : House} {H H1 : Hp} {kvs : List (Key × V)} (nR : H R = none) (ndx : H dx = none) (hp : H p = some (.tup [.ref gD, .ref rD])) (hg : H gD = some (.dK (numsK h.given))) (hrd : Rd H rD (.dK kvs)) (hrr : KvR (Rec H) h.recs kvs) (hT : TabsN Tb H)
    (nk : upd (upd H dx (.own R)) R (.ins C dx []) kD = none) (nf : upd (upd H dx (.own R)) R (.ins C dx []) fD = none) (na : upd (upd H dx (.own R)) R (.ins C dx []) aL = none) (nkf : kD ≠ fD)
    (hfs : ∃ fs, H1 R = some (.ins C dx fs) ∧ fs.lookup ("given" : Str) = some (.ref gD) ∧ fs.lookup ("recipes" : Str) = some (.ref rD) ∧ fs.lookup ("known" : Str) = some (.ref kD) ∧ fs.lookup ("read_for" : Str) = some (.ref fD) ∧ fs.lookup ("asked" : Str) = some (.ref aL) ∧ fs.lookup ("look_for" : Str) = none)
    (hk : H1 kD = some (.dK [])) (hf : H1 fD = some (.dK [])) (ha : H1 aL = some (.lst [])) (hs : ∀ b o, b ≠ R → upd (upd H dx (.own R)) R (.ins C dx []) b = some o → H1 b = some o) :
    RkAt C Tb ⟨R, gD, rD, kD, fD, aL, H⟩ h emptyS H1 ∧ Same H H1 ∧ H kD = none ∧ H fD = none ∧ H aL = none := by
  have sm : Same H H1 := fun b o e => hs b o (ne_of_none e nR) (by rw [upd_ne (ne_of_none e nR), upd_ne (ne_of_none e ndx)]; exact e)
  have fr : ∀ {x}, upd (upd H dx (.own R)) R (.ins C dx []) x = none → H x = none := fun {x} e => by
    have n1 : x ≠ R := fun z => by rw [z, upd_same] at e; cases e
    rw [upd_ne n1] at e
    have n2 : x ≠ dx := fun z => by rw [z, upd_same] at e; cases e
    rwa [upd_ne n2] at e
  obtain ⟨fs, h1, h2⟩ := hfs
  refine ⟨⟨⟨dx, fs, h1, h2⟩, sm _ _ hg, ⟨kvs, Rd.mp (fun _ e _ => sm _ _ e) hrd, hrr.imp fun r v q => q.same sm⟩, hk, ⟨[], hf, trivial⟩, ha, hT.ext sm, (fun b e => sm.free e), ⟨nkf, ?_, ?_, ?_, ?_⟩, fun kvs e => by rw [hf] at e; cases e; exact List.nodup_nil⟩, sm, fr nk, fr nf, fr na⟩
  · exact ne_of_none hg (fr nk)
  · exact ne_of_none hg (fr nf)
  · exact rd_ne hrd (fr nk)
  · exact rd_ne hrd (fr nf)
/-- what a new reckoner works changes nothing that stood ahead of it -/
theorem FrS.news {Tb : List NTab} {A : RkA} {H H' : Hp} (f : FrS Tb A.own H H') {B : Hp} (s : Same B H) (n1 : B A.kD = none) (n2 : B A.fD = none) (n3 : B A.aL = none) : FrS Tb [] B H' :=
  ⟨fun x u _ t e => f.1 x u (fun hx => by
    rcases List.mem_cons.mp hx with rfl | hx
    · rw [n1] at e; cases e
    rcases List.mem_cons.mp hx with rfl | hx
    · rw [n2] at e; cases e
    rw [List.mem_singleton.mp hx, n3] at e
    cases e) t (s _ _ e), fun b e => s.free (f.2.1 b e), fun t => f.2.2 (t.ext s)⟩
end
/-! ### frames with tables, further -/
open LamX NdefX
section
variable {Tb : List NTab}
theorem FrS.seq {K : PySem.W.Frag} {S : List Addr} {H H' : Hp} {a : Addr} {xs : List V} (f : FrS Tb S H H') (n : a ∉ S) (h : SqL K H a xs) : SqL K H' a xs := h.imp (fun r => r.imp (fun r => f.1 _ _ n (fun _ z => nomatch z) r) fun ⟨o, r⟩ => ⟨o, f.1 _ _ n (fun _ z => nomatch z) r⟩) id
theorem FrS.dropAll {S : List Addr} {H H' : Hp} (f : FrS Tb S H H') (h : ∀ x ∈ S, H x = none) : FrS Tb [] H H' := ⟨fun x u _ t e => f.1 x u (fun m => by rw [h x m] at e; cases e) t e, f.2⟩
theorem FrS.dict1 {H H' : Hp} {p : Addr} {k : List (Key × V)} (h1 : H p = some (.dK k)) (h2 : ∀ b u, b ≠ p → H b = some u → H' b = some u) (h3 : ∀ b, H' b = none → H b = none) : FrS Tb [p] H H' :=
  ⟨fun x u n _ e => h2 x u (fun z => n (by rw [z]; exact List.mem_singleton.mpr rfl)) e, h3, fun t q hq => by
    obtain ⟨ps, t1, t2, t3⟩ := t q hq
    refine ⟨ps, h2 _ _ (fun z => by rw [z, h1] at t1; cases t1) t1, t2, fun pos cv hc => ?_⟩
    obtain ⟨c, e1, e2⟩ := t3 pos cv hc
    exact ⟨c, e1, h2 _ _ (fun z => by rw [z, h1] at e2; cases e2) e2⟩⟩
end
theorem FrS.trans' {Tb : List NTab} {R p : Addr} {A B C : Hp} {k : List (Key × V)} {o : HO} (f : FrS Tb [] A B) (g : FrS Tb [p] B C) (h : C R = some (.dK k)) : FrS Tb [R, p] A (L2.upd C R o) :=
  (FrS.mono f (fun _ h => nomatch h)).trans ((g.mono fun _ h => List.mem_cons_of_mem _ h).trans (FrS.upd List.mem_cons_self (.inl ⟨_, h⟩)))
/-! ### reckoners at rest -/
/-! #### in which order the records come, and where what is known comes from -/
structure Ord (h : House) (s : RkS) : Prop where
  at_ : ∀ i p, s.read[i]? = some p → ∀ u ∈ p.2.map (·.1), u ∈ h.given.map (·.1) ∨ u ∈ (s.read.take i).map (·.1)
  kno : ∀ p ∈ s.read, ∀ u ∈ p.2.map (·.1), u ∈ s.known.map (·.1)
/-- what one look adds -/
structure Grow (s s' : RkS) (t : List (List Nat)) : Prop where
  pre : ∃ l, s'.read = s.read ++ l
  src : ∀ u ∈ s'.known.map (·.1), u ∈ s.known.map (·.1) ∨ u ∈ t ∨ ∃ p ∈ s'.read, u ∈ p.2.map (·.1)
theorem Grow.refl (s : RkS) (t : List (List Nat)) : Grow s s t := ⟨⟨[], (List.append_nil _).symm⟩, fun _ h => .inl h⟩
theorem Grow.trans {s s1 s2 : RkS} {t t1 t2 : List (List Nat)} (f : Grow s s1 t1) (g : Grow s1 s2 t2) (h1 : ∀ u ∈ t1, u ∈ t) (h2 : ∀ u ∈ t2, u ∈ t) : Grow s s2 t := by
  obtain ⟨l1, e1⟩ := f.pre
  obtain ⟨l2, e2⟩ := g.pre
  refine ⟨⟨l1 ++ l2, by rw [e2, e1, List.append_assoc]⟩, fun u hu => ?_⟩
  rcases g.src u hu with hu | hu | hu
  · rcases f.src u hu with hu | hu | ⟨p, hp, hu⟩
    · exact .inl hu
    · exact .inr (.inl (h1 u hu))
    · exact .inr (.inr ⟨p, by rw [e2]; exact List.mem_append_left _ hp, hu⟩)
  · exact .inr (.inl (h2 u hu))
  · exact .inr (.inr hu)
theorem wk_grow {dm : Nat} {h : House} {beta : Nat → Nat} (HH : HouseN dm h beta) {lk : RkS → List Nat → OutR RkS} {A : List (List Nat)}
    (hlk : ∀ s t v s', RkOk h beta s → Coh h s → Ord h s → s.asked = A → Nm t → lk s t = .ok v s' → Step h beta s t v s' ∧ Coh h s' ∧ Ord h s' ∧ Grow s s' [t]) :
    ∀ {r : Rcp} {p p' : RkS × List Pr} {v : Int}, r.Wn → RkOk h beta p.1 → Coh h p.1 → Ord h p.1 → p.1.asked = A → wk (lkOwn lk) r p = .ok v p' → RkOk h beta p'.1 ∧ Coh h p'.1 ∧ Ord h p'.1 ∧ p'.1.asked = A ∧ Grow p.1 p'.1 (p'.2.map (·.1)) ∧ ∀ u ∈ p.2.map (·.1), u ∈ p'.2.map (·.1) := by
  have look : ∀ {t : List Nat} {p p' : RkS × List Pr} {v : Int}, Nm t → RkOk h beta p.1 → Coh h p.1 → Ord h p.1 → p.1.asked = A → lkOwn lk p t = .ok v p' → RkOk h beta p'.1 ∧ Coh h p'.1 ∧ Ord h p'.1 ∧ p'.1.asked = A ∧ Grow p.1 p'.1 (p'.2.map (·.1)) ∧ ∀ u ∈ p.2.map (·.1), u ∈ p'.2.map (·.1) := by
    intro t p p' v ht o c od a e
    obtain ⟨e1, e2⟩ := lkOwn_ok e
    obtain ⟨st, c1, o1, g1⟩ := hlk _ _ _ _ o c od a ht e1
    rw [e2]
    exact ⟨st.ok, c1, o1, st.asked.trans a, g1.trans (Grow.refl _ _) (fun u hu => by rw [List.mem_singleton.mp hu]; exact setd_keys.mpr (.inr rfl)) (fun _ h => h), fun u hu => setd_keys.mpr (.inl hu)⟩
  intro r
  induction r with
  | num n => intro p p' v _ o c od a e; cases e; exact ⟨o, c, od, a, Grow.refl _ _, fun _ h => h⟩
  | read t => exact fun w o c od a e => look w o c od a e
  | two kd a b ia ib =>
    intro p p' v w o c od ha e
    obtain ⟨x, p1, h1, h2⟩ := OutR.bind_ok e
    obtain ⟨y, p2, h3, h4⟩ := OutR.bind_ok h2
    cases h4
    obtain ⟨o1, c1, d1, a1, g1, k1⟩ := ia w.1 o c od ha h1
    obtain ⟨o2, c2, d2, a2, g2, k2⟩ := ib w.2 o1 c1 d1 a1 h3
    exact ⟨o2, c2, d2, a2, g1.trans g2 k2 (fun _ h => h), fun u hu => k2 u (k1 u hu)⟩
  | pick a b d ia ib id =>
    intro p p' v w o c od ha e
    obtain ⟨x, p1, h1, h2⟩ := OutR.bind_ok e
    obtain ⟨o1, c1, d1, a1, g1, k1⟩ := ia w.1 o c od ha h1
    by_cases z : x > 0
    · simp only [if_pos z] at h2
      obtain ⟨o2, c2, d2, a2, g2, k2⟩ := ib w.2.1 o1 c1 d1 a1 h2
      exact ⟨o2, c2, d2, a2, g1.trans g2 k2 (fun _ h => h), fun u hu => k2 u (k1 u hu)⟩
    · simp only [if_neg z] at h2
      obtain ⟨o2, c2, d2, a2, g2, k2⟩ := id w.2.2 o1 c1 d1 a1 h2
      exact ⟨o2, c2, d2, a2, g1.trans g2 k2 (fun _ h => h), fun u hu => k2 u (k1 u hu)⟩
  | choose a ns ia =>
    intro p p' v w o c od ha e
    obtain ⟨x, p1, h1, h2⟩ := OutR.bind_ok e
    obtain ⟨o1, c1, d1, a1, g1, k1⟩ := ia w.1 o c od ha h1
    obtain ⟨i, _, hi⟩ := nth_mem w.2.1 x
    obtain ⟨o2, c2, d2, a2, g2, k2⟩ := look (w.2.2.2 _ (List.mem_of_getElem? hi)) o1 c1 d1 a1 h2
    exact ⟨o2, c2, d2, a2, g1.trans g2 k2 (fun _ h => h), fun u hu => k2 u (k1 u hu)⟩
theorem lkR_grow {dm : Nat} {h : House} {beta : Nat → Nat} (HH : HouseN dm h beta) : ∀ (n : Nat) (s : RkS) (t : List Nat) (v : Int) (s' : RkS), RkOk h beta s → Coh h s → Ord h s → Nm t → lkR h n s t = .ok v s' → Ord h s' ∧ Grow s s' [t]
  | 0, s, t, v, s', _, _, _, _, e => by cases e
  | n + 1, s, t, v, s', o, c, od, ht, e => by
    have e0 := e
    unfold lkR at e
    cases e1 : seen s.known t with
    | some x =>
      rw [e1] at e
      cases e
      exact ⟨od, Grow.refl _ _⟩
    | none =>
      rw [e1] at e
      cases e2 : seen h.given t with
      | some x =>
        rw [e2] at e
        cases e
        refine ⟨⟨od.at_, fun p hp u hu => putA_mem.mpr (.inl (od.kno p hp u hu))⟩, ⟨[], (List.append_nil _).symm⟩, fun u hu => ?_⟩
        rcases putA_mem.mp hu with hu | rfl
        · exact .inl hu
        · exact .inr (.inl (List.mem_singleton.mpr rfl))
      | none =>
        rw [e2] at e
        cases e3 : rcpOf h.recs t with
        | none => rw [e3] at e; cases e
        | some r =>
          rw [e3] at e
          by_cases z : t ∈ s.asked
          · simp only [if_pos z] at e
            cases e
          · simp only [if_neg z] at e
            cases e4 : wk (lkOwn (lkR h n)) r ({ s with asked := s.asked ++ [t] }, []) with
            | err x => rw [e4] at e; cases e
            | ok w p =>
              rw [e4] at e
              cases e
              obtain ⟨o1, _⟩ := o.ask e3 e1 z
              have c0 : Coh h { s with asked := s.asked ++ [t] } := ⟨c.kn, c.rd, c.kr⟩
              have wn := (HH.rcp _ (rcpOf_mem e3)).2.1
              obtain ⟨o2, c2, d2, a2, g2, _⟩ := wk_grow HH (lk := lkR h n) (A := s.asked ++ [t]) (fun s1 u x s2 q1 b1 d1 a1 hu eu => by
                obtain ⟨x1, x2⟩ := lkR_grow HH n s1 u x s2 q1 b1 d1 hu eu
                exact ⟨lkR_step HH n s1 u x s2 q1 hu eu, (lkR_sound n s1 u x s2 b1 eu).2, x1, x2⟩) (p := ({ s with asked := s.asked ++ [t] }, [])) wn o1 c0 ⟨od.at_, od.kno⟩ rfl e4
              obtain ⟨_, _, _, q2, _⟩ := wk_step (lk := lkR h n) (A := s.asked ++ [t]) (fun s1 u x s2 q1 a1 hu eu => lkR_step HH n s1 u x s2 q1 hu eu) (p := ({ s with asked := s.asked ++ [t] }, [])) wn o1 rfl (OwnOk.nil _ _) e4
              have ct : ¬ t ∈ p.1.read.map (·.1) := fun z2 => (List.nodup_append.mp o2.nd).2.2 t (by rw [a2]; exact List.mem_append_right _ (List.mem_singleton.mpr rfl)) t z2 rfl
              have er : putA p.1.read t p.2 = p.1.read ++ [(t, p.2)] := putA_new _ ct
              obtain ⟨l, el⟩ := g2.pre
              refine ⟨⟨fun i q hq u hu => ?_, fun q hq u hu => ?_⟩, ⟨l ++ [(t, p.2)], ?_⟩, fun u hu => ?_⟩
              · have hq : (putA p.1.read t p.2)[i]? = some q := hq
                show _ ∨ u ∈ ((putA p.1.read t p.2).take i).map (·.1)
                rw [er] at hq ⊢
                by_cases hi : i < p.1.read.length
                · rw [List.getElem?_append_left hi] at hq
                  rw [List.take_append_of_le_length (Nat.le_of_lt hi)]
                  exact d2.at_ i q hq u hu
                · have : i = p.1.read.length := by
                    have := (List.getElem?_eq_some_iff.mp hq).1
                    rw [List.length_append] at this
                    simp only [List.length_cons, List.length_nil] at this
                    omega
                  subst this
                  rw [List.getElem?_append_right (Nat.le_refl _), Nat.sub_self] at hq
                  cases hq
                  rw [List.take_append_of_le_length (Nat.le_refl _), List.take_length]
                  exact c2.kr u (q2.kn u hu)
              · have hq : q ∈ putA p.1.read t p.2 := hq
                refine putA_mem.mpr (.inl ?_)
                rcases mem_putA hq with rfl | hq
                · exact q2.kn u hu
                · exact d2.kno q hq u hu
              · show putA p.1.read t p.2 = _
                rw [er, el, List.append_assoc]
              · show _ ∨ _ ∨ ∃ q ∈ putA p.1.read t p.2, _
                rw [er]
                rcases putA_mem.mp hu with hu | rfl
                · rcases g2.src u hu with hu | hu | ⟨q, hq, hu⟩
                  · exact .inl hu
                  · exact .inr (.inr ⟨(t, p.2), List.mem_append_right _ (List.mem_singleton.mpr rfl), hu⟩)
                  · exact .inr (.inr ⟨q, List.mem_append_left _ hq, hu⟩)
                · exact .inr (.inl (List.mem_singleton.mpr rfl))
/-- a reckoner at rest -/
structure Rest (h : House) (beta : Nat → Nat) (s : RkS) : Prop where
  ok : RkOk h beta s
  coh : Coh h s
  ord : Ord h s
  no : s.asked = []
theorem Rest.empty (h : House) (beta : Nat → Nat) : Rest h beta emptyS := ⟨emptyOk h beta, Coh.empty h, ⟨fun i p e => by simp [emptyS] at e, fun p hp => by simp [emptyS] at hp⟩, rfl⟩
theorem Rest.look {dm : Nat} {h : House} {beta : Nat → Nat} (HH : HouseOk dm h beta) {n : Nat} {s s' : RkS} {t : List Nat} {v : Int} (r : Rest h beta s) (ht : Nm t) (e : lkR h n s t = .ok v s') : Rest h beta s' ∧ Val h t v ∧ Grow s s' [t] ∧ t ∈ s'.known.map (·.1) ∧ ∀ u ∈ s.known.map (·.1), u ∈ s'.known.map (·.1) := by
  have st := lkR_step HH.n n s t v s' r.ok ht e
  obtain ⟨v1, c1⟩ := lkR_sound n s t v s' r.coh e
  obtain ⟨o1, g1⟩ := lkR_grow HH.n n s t v s' r.ok r.coh r.ord ht e
  exact ⟨⟨st.ok, c1, o1, st.asked.trans r.no⟩, v1, g1, st.got, st.mono⟩
theorem Rest.told {dm : Nat} {h : House} {beta : Nat → Nat} (HH : HouseOk dm h beta) {n : Nat} {s : RkS} {t : List Nat} {v : Int} (r : Rest h beta s) (ht : Nm t) (hv : Val h t v) (hn : h.recs.length + 1 ≤ n) : ∃ s', lkR h n s t = .ok v s' := by
  obtain ⟨m, hm⟩ := hv
  exact lkR_total HH.n n s t m v r.ok r.coh ht hm (fun a ha => by rw [r.no] at ha; cases ha) (by rw [r.no]; simpa using hn)
/-- the worth alone is told just where there is one -/
theorem alone_ok {dm : Nat} {h : House} {beta : Nat → Nat} (HH : HouseOk dm h beta) {n : Nat} {t : List Nat} {v : Int} (ht : Nm t) (hn : h.recs.length + 1 ≤ n) : (∃ s, lkR h n emptyS t = .ok v s) ↔ Val h t v :=
  ⟨fun ⟨_, e⟩ => ((Rest.empty h beta).look HH ht e).2.1, fun hv => (Rest.empty h beta).told HH ht hv hn⟩
/-- its reads -/
theorem alone_reads {dm : Nat} {h : House} {beta : Nat → Nat} (HH : HouseOk dm h beta) {n : Nat} {t : List Nat} {v : Int} {s : RkS} (ht : Nm t) (e : lkR h n emptyS t = .ok v s) : (seen h.given t = none ∧ Rds h t (readsFor s t)) ∨ (∃ x, seen h.given t = some x) ∧ readsFor s t = [] := by
  obtain ⟨r, hv, g, got, _⟩ := (Rest.empty h beta).look HH ht e
  have hr : ∀ own, getA s.read t = some own → Rds h t own := fun own e1 => by
    unfold getA at e1
    cases e2 : s.read.find? fun p => decide (p.1 = t) with
    | none => rw [e2] at e1; cases e1
    | some p =>
      rw [e2] at e1
      cases e1
      have := r.coh.rd p (List.mem_of_find?_eq_some e2)
      have h2 : p.1 = t := by
        have := List.find?_some e2
        exact of_decide_eq_true this
      rw [h2] at this
      exact this
  cases e1 : seen h.given t with
  | some x =>
    refine .inr ⟨⟨x, rfl⟩, ?_⟩
    unfold readsFor
    cases e2 : getA s.read t with
    | none => rfl
    | some own => have := (hr own e2).1; rw [e1] at this; cases this
  | none =>
    refine .inl ⟨rfl, ?_⟩
    have : t ∈ s.read.map (·.1) := (r.coh.kr t got).resolve_left fun z => by
      obtain ⟨p, hp, e3⟩ := List.mem_map.mp z
      unfold seen at e1
      rw [Option.map_eq_none_iff, List.find?_eq_none] at e1
      exact e1 p hp (decide_eq_true e3)
    unfold readsFor
    cases e2 : getA s.read t with
    | some own => exact hr own e2
    | none =>
      unfold getA at e2
      rw [Option.map_eq_none_iff, List.find?_eq_none] at e2
      obtain ⟨p, hp, e3⟩ := List.mem_map.mp this
      exact absurd (decide_eq_true e3) (e2 p hp)
end Mad
/-! ### tuples, lists made: what is told is a heap that keeps all -/
namespace L2
open PySem PySem.Spec PyProof.Rows
/-! one step of a walk, with the slots told anew -/
theorem in_name {i : Nat} {v : V} {σ σ' : St} {H : Hp} {Q : St → Hp → Prop} (e : σ.set i (some v) = σ') (h : Q σ' H) : gName i v σ H Q := by
  subst e
  exact h
theorem in_nx {nx bk ct : St → Hp → Prop} {rt : VK} {σ : St} {H : Hp} (h : nx σ H) : Ends.nx (Ends.mk nx rt bk ct) σ H := h
theorem in_seq {t u : TS} {D : Ends} {σ : St} {H : Hp} (h : t { D with nx := u D } σ H) : tSeq t u D σ H := h
theorem in_asg {te : TE} {g : TG} {D : Ends} {σ : St} {H : Hp} (h : te σ H fun x H1 => g x σ H1 D.nx) : tAsg te g D σ H := h
def SameU (A B : Hp) : Prop := ∀ b u, A b = some u → B b = some u
def tTupA (t : TA) : TE := fun σ H Q => t σ H fun xs H1 => xs.length ≤ sizeLine ∧ ∀ p H2, H1 p = none → SameU H1 H2 → H2 p = some (.tup xs) → Q (.ref p) H2
def tLstA (t : TA) : TE := fun σ H Q => t σ H fun xs H1 => xs.length ≤ sizeLine ∧ ∀ p H2, H1 p = none → SameU H1 H2 → H2 p = some (.lst xs) → Q (.ref p) H2
theorem sameU_new {H : Hp} {p : Addr} (h : H p = none) (o : HO) : SameU H (upd H p o) := fun b u q => by rw [upd_ne (ne_of_none q h)]; exact q
section
variable {X : Cx} {es : List Expr} {t : TA} {pos : Pos}
theorem pe_tupA {x1} (h : PA X es t) : PE X (.Tuple es x1 pos) (tTupA t) := by
  refine ⟨fun pins s σ H Q I hq => ?_⟩
  refine wpAny_Tuple_spliced (thn (h.run pos pins s σ H _ I hq) fun us s1 ⟨xs, H1, I1, r, z, q⟩ => ⟨by rw [← r.length]; exact z, ?_⟩)
  have hf : H1 s1.heap.objs.size = none := I1.hok.fresh (Nat.le_refl _)
  refine ⟨.ref s1.heap.objs.size, upd H1 s1.heap.objs.size (.tup xs), I1.laid (t' := s1.toks) (fun b u e => Heap.get?_push_of_some _ e) (Nat.le_refl _) ?_, rfl, q _ _ hf (sameU_new hf _) upd_same⟩
  exact ⟨z, us, r, ⟨_, Heap.get?_push_size _ rfl, rfl, _, rfl⟩⟩
theorem pe_lstA (h : PA X es t) : PE X (.List es pos) (tLstA t) := by
  refine ⟨fun pins s σ H Q I hq => ?_⟩
  refine wpAny_List_spliced (thn (h.run pos pins s σ H _ I hq) fun us s1 ⟨xs, H1, I1, r, z, q⟩ => ⟨by rw [← r.length]; exact z, ?_⟩)
  have hf : H1 s1.heap.objs.size = none := I1.hok.fresh (Nat.le_refl _)
  refine ⟨.ref s1.heap.objs.size, upd H1 s1.heap.objs.size (.lst xs), I1.laid (t' := s1.toks) (fun b u e => Heap.get?_push_of_some _ e) (Nat.le_refl _) ?_, rfl, q _ _ hf (sameU_new hf _) upd_same⟩
  exact ⟨z, us, 0, r, Heap.get?_push_size _ rfl⟩
def rCatU : R2 := fun x y H Q => ∃ l b xs zs, x = .ref l ∧ y = .ref b ∧ H l = some (.lst xs) ∧ H b = some (.lst zs) ∧ xs.length + zs.length ≤ sizeLine ∧ ∀ p H2, H p = none → SameU H H2 → H2 p = some (.lst (xs ++ zs)) → Q (.ref p) H2
theorem op_catU : OpR X (binaryOp .Add) rCatU := by
  intro pins s σ H x y v u Q I rx ry h
  obtain ⟨l, b, xs, zs, e1, e2, h1, h2, h3, q⟩ := h
  exact op_cat pins s σ H x y v u Q I rx ry ⟨l, b, xs, zs, e1, e2, h1, h2, h3, fun p np => q p _ np (sameU_new np _) upd_same⟩
end
end L2
namespace Mad
open PySem PySem.Spec PyProof.Rows L2
end Mad
/-! ### sorted of texts, any number of them: over the library's sort by any order -/
namespace MadSort
open PySem PyProof.Rows Srt SrtO
section
variable {prog : Program} {w : World} {A : Around} {s : Shared}
def tx : Value → List Nat
  | .str x _ => x.cps.toList
  | _ => []
def ltT (v u : Value) : Bool := decide (tx v < tx u)
theorem swoT : Swo ltT := by
  refine ⟨fun x y h => ?_, fun x y z h1 h2 => ?_⟩
  · have a : tx x < tx y := of_decide_eq_true h
    exact decide_eq_false (List.lt_asymm a)
  · have a : ¬ tx y < tx x := of_decide_eq_false h1
    have b : ¬ tx z < tx y := of_decide_eq_false h2
    exact decide_eq_false (List.not_lt.mpr (List.le_trans (List.not_lt.mp a) (List.not_lt.mp b)))
theorem memT : ∀ {vs : List Value} {ss : List Str}, StrsAre vs ss → ∀ v ∈ vs, ∃ x t, v = Value.str x t
  | _, _, .nil, v, h => by cases h
  | _, _, .cons y t r, v, h => by
    rcases List.mem_cons.mp h with e | e
    · exact ⟨y, t, e⟩
    · exact memT r v e
def ofTx (v : Value) : Str := ⟨(tx v).toArray⟩
theorem areT : ∀ {vs : List Value}, (∀ v ∈ vs, ∃ x t, v = Value.str x t) → StrsAre vs (vs.map ofTx)
  | [], _ => .nil
  | v :: vs, h => by
    obtain ⟨x, t, e⟩ := h v (List.mem_cons_self ..)
    subst e
    have ih := areT fun u hu => h u (List.mem_cons_of_mem _ hu)
    have ex : ofTx (Value.str x t) = x := by
      show (⟨x.cps.toList.toArray⟩ : Str) = x
      cases x; simp
    rw [List.map_cons, ex]
    exact .cons x t ih
theorem backT : ∀ {vs : List Value} {ss : List Str}, StrsAre vs ss → vs.map ofTx = ss
  | _, _, .nil => rfl
  | _, _, .cons y t r => by
    have ex : ofTx (Value.str y t) = y := by
      show (⟨y.cps.toList.toArray⟩ : Str) = y
      cases y; simp
    rw [List.map_cons, ex, backT r]
theorem sortableT {a : Addr} {vs : List Value} {ss : List Str} (hS : StrsAre vs ss) (h2 : 2 ≤ vs.length) : SortableO prog w A s a vs ltT := by
  intro h' _
  refine ⟨oneType', fun Q E hq => ?_, fun p q hp hq => ?_⟩
  · cases vs with
    | nil => simp at h2
    | cons v1 r =>
      cases r with
      | nil => simp at h2
      | cons v2 r =>
        rw [keyKind_strs hS]
        exact wpAny_pure hq
  · obtain ⟨x, t, e⟩ := memT hS _ hp
    obtain ⟨y, u, e'⟩ := memT hS _ hq
    show wpAny (model prog w) A (keyLt' oneType' p.1 q.1) (fun r s' => s' = _ ∧ r = ltT p.1 q.1) (fun _ _ => False) _
    rw [e, e', keyLt'_oneType]
    exact oneLt_str ⟨rfl, rfl⟩
theorem outT {vs out : List Value} {ss : List Str} (hS : StrsAre vs ss) (h1 : Srtd ltT out) (h2 : Stb ltT out vs) : StrsAre out (out.map ofTx) ∧ (out.map ofTx).Perm ss ∧ (out.map ofTx).Pairwise (fun x y => ¬ y.cps.toList < x.cps.toList) := by
  refine ⟨areT fun v hv => memT hS v (h2.perm.mem_iff.mp hv), ?_, ?_⟩
  · have z := h2.perm.map ofTx
    rwa [backT hS] at z
  · refine List.pairwise_map.mpr (h1.imp fun {x y} h => ?_)
    have z : ¬ tx y < tx x := of_decide_eq_false h
    show ¬ ((tx y).toArray.toList < (tx x).toArray.toList)
    simpa using z
end
end MadSort
namespace Mad
open PySem PySem.Spec PyProof.Rows L2
/-- texts in order -/
def Rising (ys : List (List Nat)) : Prop := ys.Pairwise fun x y => ¬ y < x
def rSortT (K : PySem.W.Frag) : List V → Hp → VK → Prop := fun vs H Q => ∃ (a : Addr) (ns : List (List Nat)), vs = [V.ref a] ∧ SqL K H a (txs ns) ∧
  ∀ (ys : List (List Nat)) (p : Addr), ys.Perm ns → Rising ys → H p = none → Q (.ref p) (upd H p (.lst (txs ys)))
/-- a dict of names -/
def nmKeys (kvs : List (Key × V)) (ns : List (List Nat)) : Prop := kvs.map (·.1) = ns.map fun s => Sum.inr (SX.S s)
def rSortTD (_ : PySem.W.Frag) : List V → Hp → VK → Prop := fun vs H Q => ∃ (a : Addr) (kvs : List (Key × V)) (ns : List (List Nat)), vs = [V.ref a] ∧ H a = some (.dK kvs) ∧ nmKeys kvs ns ∧
  ∀ (ys : List (List Nat)) (p : Addr), ys.Perm ns → Rising ys → H p = none → Q (.ref p) (upd H p (.lst (txs ys)))
theorem strs_back {ys : List Str} {ns : List (List Nat)} (hp : ys.Perm (ns.map SX.S)) (hs : ys.Pairwise fun x y => ¬ y.cps.toList < x.cps.toList) : ∃ zs : List (List Nat), ys = zs.map SX.S ∧ zs.Perm ns ∧ Rising zs := by
  refine ⟨ys.map (fun y => y.cps.toList), ?_, ?_, ?_⟩
  · rw [List.map_map]
    have : (SX.S ∘ fun y : Str => y.cps.toList) = id := by funext y; exact SX.S_tl y
    rw [this, List.map_id]
  · have z := hp.map (fun y : Str => y.cps.toList)
    rw [List.map_map] at z
    have : ((fun y : Str => y.cps.toList) ∘ SX.S) = id := by funext s; rfl
    rwa [this, List.map_id] at z
  · exact List.pairwise_map.mpr hs
section
variable {X : Cx}
theorem cr_sortT : CallR X (.builtin "sorted") (rSortT X.K) := by
  intro pins s σ H vs us Q I r h
  obtain ⟨a, ns, rfl, hs, q⟩ := h
  obtain ⟨its, rv, hl, hz⟩ := I.list hs
  rw [Vals.ref1 r]
  have hi := Vals.strs (xs := ns.map SX.S) rv
  have hlen0 := rv.length
  refine SrtO.sorted_ord MadSort.swoT hl.isList (by rw [← rv.length]; exact hz) (fun h2 h₁ a' _ _ => MadSort.sortableT hi h2) fun out h1 h2 => ?_
  obtain ⟨k1, k2, k3⟩ := MadSort.outT hi h1 h2
  obtain ⟨ep, he'⟩ := PyProof.Rows.sortedAll_at s.heap its out.toArray
  obtain ⟨zs, ez, zp, zr⟩ := strs_back k2 k3
  rw [ez] at k1
  have hlen : (txs zs).length ≤ sizeLine := by
    rw [txs_len, zp.length_eq]
    rw [txs_len] at hz
    exact hz
  exact ⟨.ref _, upd H (s.heap.objs.size + 1) (.lst (txs zs)), I.laid (t' := s.toks) (fun _ _ => PyProof.Rows.sortedAll_old) (Nat.le_succ _) ⟨hlen, out, ep, vals_of_strs k1, he'⟩, rfl, q zs _ zp zr (I.hok.fresh (Nat.le_succ _))⟩
theorem cr_sortTD (hcalm : X.calm = true) : CallR X (.builtin "sorted") (rSortTD X.K) := by
  intro pins s σ H xs us Q I r h
  obtain ⟨a, kvs, ns, ex, hd0, hk0, q⟩ := h
  subst ex
  obtain ⟨u, eu, rx⟩ := vals1 r
  subst eu
  cases rx
  have hd : Rd H a (.dK kvs) := .inl hd0
  obtain ⟨z, lo, vs, rel, dd⟩ := dk_rd I.hok hd
  obtain ⟨ep, hat⟩ := dd.dictAt
  have hkeys : vs.map (·.1) = (ns.map SX.S).map Sum.inr := by
    rw [rel.keys.symm, hk0, List.map_map]
    rfl
  have hl : vs.length = ns.length := by
    have e := congrArg List.length hkeys
    simpa using e
  have hkl : kvs.length = ns.length := by
    have e := congrArg List.length hk0
    simpa using e
  have h16 : vs.length ≤ sizeLine := by rw [hl, ← hkl]; exact z
  refine Calls.call_function_entry PyProof.Rows.kind_sorted PyProof.Rows.plain_sorted PyProof.Rows.entry_sorted (PyProof.Rows.args_sorted1 _) ?_
  unfold Builtin.«sorted»
  refine wpAny_bind (m := checkCount "sorted" 1 1 _) (wpAny_pure ?_)
  refine wpAny_bind ?_
  refine PySem.W.kdu_collect (A := X.A.in1) (PySem.W.kdl_dict (knd := mixKind X.prog X.w) (kvs := vs) (ep := ep) lo) (I.ok.hd hcalm) hat h16 fun h' tk acc hk hacc => ?_
  have hal : acc.toList.length = (ns.map SX.S).length := by
    rw [Array.length_toList, hacc.1, hl, List.length_map]
  have hS : StrsAre acc.toList (ns.map SX.S) := by
    refine strs_at hal fun j v e => ?_
    obtain ⟨k, x, e1, e2⟩ := hacc.2 j v (by rw [← Array.getElem?_toList]; exact e)
    have e3 : (vs.map (·.1))[j]? = some k := by
      rw [List.getElem?_map, e1]
      rfl
    rw [hkeys, List.getElem?_map] at e3
    cases e4 : (ns.map SX.S)[j]? with
    | none => rw [e4] at e3; cases e3
    | some y =>
      rw [e4] at e3
      have e5 : Sum.inr y = k := Option.some.inj e3
      subst e5
      obtain ⟨t, ev⟩ := Value.isStrOf_shape (x := y) (v := v) e2
      exact ⟨y, t, rfl, ev⟩
  have I1 : Inv X pins σ H { s with heap := h', toks := tk } := I.kept hk
  have hz2 : acc.toList.length ≤ sizeLine := by rw [hal, List.length_map, ← hkl]; exact z
  refine wpAny_bind (wpAny_newList ?_ hz2)
  have hoL : (h'.push (seqObj "list" acc.toList.toArray 0)).get? h'.objs.size = some (seqObj "list" acc.toList.toArray 0) := Heap.get?_push_size _ rfl
  show wpAny _ _ _ _ _ { s with heap := h'.push (seqObj "list" acc.toList.toArray 0), toks := tk }
  refine wpAny_bind (wpAny_holding (wpAny_call_entry PyProof.Rows.slot_list_sort ⟨_, hoL, rfl⟩ PyProof.Rows.entry_list_sort ?_ (PyProof.Rows.args_list_sort _)))
  refine SrtO.list_sort_ord MadSort.swoT hoL hz2 (fun h2 => MadSort.sortableT hS h2) fun out h1 h2 => ⟨_, rfl, ?_⟩
  obtain ⟨k1, k2, k3⟩ := MadSort.outT hS h1 h2
  obtain ⟨zs, ez, zp, zr⟩ := strs_back k2 k3
  rw [ez] at k1
  obtain ⟨e', he'⟩ := PyProof.Rows.sortedHeap_at (vs := acc.toList) (out := out.toArray) hoL
  have hlen : (txs zs).length ≤ sizeLine := by
    rw [txs_len, zp.length_eq, ← hkl]
    exact z
  refine wpAny_pure ⟨_, rfl, .ref h'.objs.size, upd H h'.objs.size (.lst (txs zs)), I1.laid (t' := tk) (fun b u e => ?_) (Nat.le_refl _) ?_, rfl, q zs _ zp zr (I1.hok.fresh (Nat.le_refl _))⟩
  · have hb : b < h'.objs.size := Heap.lt_size e
    rw [PyProof.Rows.sortedHeap_old (Nat.ne_of_lt hb) (by rw [size_push']; exact Nat.lt_succ_of_lt hb)]
    exact Heap.get?_push_of_some _ e
  · exact ⟨hlen, out, e', vals_of_strs k1, he'⟩
end
/-- xs.extend(t), t a tuple -/
def rExtendT : V → List V → Hp → VK → Prop := fun x vs H Q => ∃ l b xs zs, x = .ref l ∧ vs = [.ref b] ∧ H l = some (.lst xs) ∧ H b = some (.tup zs) ∧ xs.length + zs.length ≤ sizeLine ∧ Q .non (upd H l (.lst (xs ++ zs)))
theorem list_extend_by_tuple (l : Addr) (items : Array Value) (n : Nat) (b : Addr) (items2 : Array Value) (n2 : Nat) (dd : Option Addr) (sl : Array (Option Value))
    (hs0 : ¬(!items.isEmpty && Builtin.List.listTooLong (items.size + items2.size)) = true)
    (hs1 : items.size ≤ sizeLine)
    (hs2 : items.size + items2.size ≤ sizeLine + 1) :
    Meets (Builtin.«list.extend» ⟨[.ref l, .ref b], []⟩) (fun _ R s =>
      s.heap.get? l = some { cls := .type "list", dict := none, data := .seq items n, slots := #[] } ∧
      s.heap.get? b = some { cls := .type "tuple", dict := dd, data := .seq items2 n2, slots := sl } ∧
      R (.ok (.ret Value.none)) { s with heap := s.heap.update l (Obj.mapSeq fun x => x ++ items2), toks := s.toks }) :=
  .of_wp fun prog w A R s h => by
    obtain ⟨hp, g, d, tk, os⟩ := s
    obtain ⟨hl, hb, h⟩ := h
    have f1 := AutoSeq1.idx_int
    have f2 := AutoSeq1.sub_tuple_tuple
    have f3 := AutoSeq1.sub_list_list
    have f4 := AutoSeq1.sub_tuple_list
    have f5 := AutoSeq1.sub_list_tuple
    have hz' : (items ++ items2).size ≤ sizeLine + 1 := by rw [Array.size_append]; exact hs2
    wp_walk using (wpAny_updateSeq hl rfl (hz := hs1) (_hz' := hz')), wpAny_loadPart' hl, wpAny_loadPart' hb
    exact ⟨_, rfl, h⟩
section
variable {X : Cx}
theorem mt_extendT : MtM X "list.extend" rExtendT := by
  intro pins s σ H x vs v us Q I rx rv h
  obtain ⟨l, b, xs, zs, rfl, rfl, hH, hB, hz, q⟩ := h
  cases rx
  obtain ⟨u, rfl, ru⟩ := rv.one
  cases ru
  obtain ⟨z, its, n, r, hl, e⟩ := I.lstM hH
  obtain ⟨its2, r2, ⟨⟨cls, dd, data, sl⟩, ho, hc, n2, hd⟩, hs2⟩ := I.tuple (SqT.of (K := X.K) hB)
  simp only at hc hd
  subst hc hd
  have hl2 : its2.length = zs.length := r2.length.symm
  have hsz : its.toArray.size + its2.toArray.size ≤ sizeLine := by rw [List.size_toArray, List.size_toArray]; omega
  have hlong : ¬ (!its.toArray.isEmpty && Builtin.List.listTooLong (its.toArray.size + its2.toArray.size)) = true := by
    rw [notLongL hsz, Bool.and_false]; exact Bool.false_ne_true
  refine call_meets F.slot_list_extend ⟨_, e, rfl⟩ F.entry_list_extend (F.args_list_extend_2 _ _)
    (list_extend_by_tuple l its.toArray n b its2.toArray n2 dd sl hlong (by rw [List.size_toArray]; omega) (by omega)) ⟨e, ho, ?_⟩
  refine ⟨.non, _, I.lset (its' := its ++ its2) hH e (by simp) (r.append r2) ?_, rfl, q⟩
  rw [List.length_append]; omega
end
/-! ### the names of a recipe -/
def Rcp.all : Rcp → List (List Nat)
  | .num _ => []
  | .read s => [s]
  | .two _ a b => a.all ++ b.all
  | .pick a b c => a.all ++ (b.all ++ c.all)
  | .choose a ns => a.all ++ ns
/-- those of its own -/
def Rcp.own : Rcp → List (List Nat)
  | .read s => [s]
  | .choose _ ns => ns
  | _ => []
theorem all_good : ∀ {r : Rcp}, r.Good → ∀ s ∈ r.all, Nm s
  | .num _, _, s, h => by cases h
  | .read _, hg, s, h => by rw [List.mem_singleton.mp h]; exact hg
  | .two _ a b, hg, s, h => by
    rcases List.mem_append.mp h with h | h
    · exact all_good hg.1 s h
    · exact all_good hg.2 s h
  | .pick a b c, hg, s, h => by
    rcases List.mem_append.mp h with h | h
    · exact all_good hg.1 s h
    rcases List.mem_append.mp h with h | h
    · exact all_good hg.2.1 s h
    · exact all_good hg.2.2 s h
  | .choose a ns, hg, s, h => by
    rcases List.mem_append.mp h with h | h
    · exact all_good hg.1 s h
    · exact hg.2.2.2 s h
theorem all_len : ∀ {r : Rcp}, r.Good → r.all.length ≤ 9 * r.siz
  | .num _, _ => Nat.zero_le _
  | .read _, _ => (by decide : 1 ≤ 9 * 1)
  | .two _ a b, hg => by
    have h1 := all_len hg.1
    have h2 := all_len hg.2
    show (a.all ++ b.all).length ≤ 9 * (a.siz + b.siz + 1)
    rw [List.length_append]; omega
  | .pick a b c, hg => by
    have h1 := all_len hg.1
    have h2 := all_len hg.2.1
    have h3 := all_len hg.2.2
    show (a.all ++ (b.all ++ c.all)).length ≤ 9 * (a.siz + b.siz + c.siz + 1)
    rw [List.length_append, List.length_append]; omega
  | .choose a ns, hg => by
    have h1 := all_len hg.1
    have h2 := hg.2.2.1
    show (a.all ++ ns).length ≤ 9 * (a.siz + 1)
    rw [List.length_append]; omega
theorem own_len {r : Rcp} (hg : r.Good) : r.own.length ≤ 9 := by
  cases r with
  | choose a ns => exact hg.2.2.1
  | read s => exact (by decide : 1 ≤ 9)
  | _ => exact Nat.zero_le _
theorem own_good {r : Rcp} (hg : r.Good) : ∀ s ∈ r.own, Nm s := by
  cases r with
  | choose a ns => exact hg.2.2.2
  | read s => intro z hz; rw [List.mem_singleton.mp hz]; exact hg
  | _ => intro z hz; cases hz
theorem mem_all (r : Rcp) (s : List Nat) : s ∈ r.all ↔ s ∈ r.own ∨ ∃ x ∈ r.subs, s ∈ x.all := by
  cases r with
  | num n => simp [Rcp.all, Rcp.own, Rcp.subs]
  | read z => simp [Rcp.all, Rcp.own, Rcp.subs]
  | two k a b => simp [Rcp.all, Rcp.own, Rcp.subs]
  | pick a b c => simp [Rcp.all, Rcp.own, Rcp.subs]
  | choose a ns => simp [Rcp.all, Rcp.own, Rcp.subs]; exact Or.comm
/-- texts, each behind the one before -/
def SI (ys : List (List Nat)) : Prop := ys.Pairwise fun x y => x < y
theorem lt_tri {x y : List Nat} (h1 : ¬ x < y) (h2 : ¬ y < x) : x = y := List.le_antisymm (List.not_lt.mp h2) (List.not_lt.mp h1)
theorem si_of : ∀ {ys : List (List Nat)}, Rising ys → ys.Nodup → SI ys
  | [], _, _ => List.Pairwise.nil
  | y :: ys, h, n => by
    obtain ⟨h1, h2⟩ := List.pairwise_cons.mp h
    obtain ⟨n1, n2⟩ := List.nodup_cons.mp n
    refine List.pairwise_cons.mpr ⟨fun z hz => Decidable.byContradiction fun q => ?_, si_of h2 n2⟩
    have := lt_tri q (h1 z hz)
    rw [this] at n1
    exact n1 hz
theorem si_ext : ∀ {xs ys : List (List Nat)}, SI xs → SI ys → (∀ s, s ∈ xs ↔ s ∈ ys) → xs = ys
  | [], [], _, _, _ => rfl
  | [], y :: ys, _, _, h => by have := (h y).mpr (List.mem_cons_self ..); cases this
  | x :: xs, [], _, _, h => by have := (h x).mp (List.mem_cons_self ..); cases this
  | x :: xs, y :: ys, hx, hy, h => by
    obtain ⟨x1, x2⟩ := List.pairwise_cons.mp hx
    obtain ⟨y1, y2⟩ := List.pairwise_cons.mp hy
    have e : x = y := by
      rcases List.mem_cons.mp ((h x).mp (List.mem_cons_self ..)) with e | m
      · exact e
      rcases List.mem_cons.mp ((h y).mpr (List.mem_cons_self ..)) with e | m'
      · exact e.symm
      exact absurd (x1 y m') (List.lt_asymm (y1 x m))
    subst e
    have t : xs = ys := si_ext x2 y2 fun s => by
      constructor
      · intro m
        rcases List.mem_cons.mp ((h s).mp (List.mem_cons_of_mem _ m)) with e | m'
        · rw [e] at m
          exact absurd (x1 x m) (List.lt_irrefl x)
        · exact m'
      · intro m
        rcases List.mem_cons.mp ((h s).mpr (List.mem_cons_of_mem _ m)) with e | m'
        · rw [e] at m
          exact absurd (y1 x m) (List.lt_irrefl x)
        · exact m'
    rw [t]
theorem si_snoc {d0 : List (List Nat)} {s z : List Nat} (h : SI (d0 ++ [s])) (h2 : s < z) : SI (d0 ++ [s] ++ [z]) := by
  refine List.pairwise_append.mpr ⟨h, List.pairwise_singleton _ _, fun a ha b hb => ?_⟩
  rw [List.mem_singleton.mp hb]
  rcases List.mem_append.mp ha with m | m
  · exact List.lt_trans ((List.pairwise_append.mp h).2.2 a m s (List.mem_singleton.mpr rfl)) h2
  · rw [List.mem_singleton.mp m]; exact h2
/-- the keys of a dict of names -/
def keyN (s : List Nat) : Key := Sum.inr (SX.S s)
theorem keyN_inj {a b : List Nat} (h : keyN a = keyN b) : a = b := by
  have e : SX.S a = SX.S b := Sum.inr.inj h
  have := congrArg (fun y : Str => y.cps.toList) e
  exact this
theorem keyN_ne {a b : List Nat} (h : a ≠ b) : ¬ keyN a = keyN b := fun e => h (keyN_inj e)
/-- the dict of the names ns, each once -/
def NDict (kvs : List (Key × V)) (ns : List (List Nat)) : Prop := nmKeys kvs ns ∧ ns.Nodup
theorem nd_any {kvs : List (Key × V)} {ns : List (List Nat)} (h : nmKeys kvs ns) (s : List Nat) : (kvs.any fun kv => decide (kv.1 = keyN s)) = decide (s ∈ ns) := by
  have e : (kvs.any fun kv => decide (kv.1 = keyN s)) = (kvs.map (·.1)).any fun k => decide (k = keyN s) := by rw [List.any_map]; rfl
  rw [e, h, List.any_map]
  clear e h
  induction ns with
  | nil => rfl
  | cons a r ih =>
    rw [List.any_cons, ih]
    by_cases z : a = s
    · subst z
      simp
      exact .inl rfl
    · have : decide (s ∈ a :: r) = decide (s ∈ r) := by
        simp only [List.mem_cons]
        congr 1
        exact propext ⟨fun q => q.resolve_left fun w => z w.symm, .inr⟩
      rw [this]
      have : ((fun k => decide (k = keyN s)) ∘ fun s => Sum.inr (SX.S s)) a = false := decide_eq_false (keyN_ne z)
      rw [this, Bool.false_or]
theorem NDict.put {kvs : List (Key × V)} {ns : List (List Nat)} (h : NDict kvs ns) (s : List Nat) (v : V) : ∃ ns', NDict (putK kvs (keyN s) v) ns' ∧ (∀ x, x ∈ ns' ↔ x ∈ ns ∨ x = s) ∧ ns'.length ≤ ns.length + 1 := by
  obtain ⟨hk, hn⟩ := h
  by_cases m : s ∈ ns
  · refine ⟨ns, ⟨?_, hn⟩, fun x => ⟨.inl, fun q => q.elim id fun e => e ▸ m⟩, Nat.le_succ _⟩
    unfold putK nmKeys
    rw [if_pos (by rw [nd_any hk]; exact decide_eq_true m), List.map_map, ← hk]
    refine List.map_congr_left fun p _ => ?_
    show (if p.1 = keyN s then (p.1, v) else p).1 = p.1
    by_cases e : p.1 = keyN s
    · rw [if_pos e]
    · rw [if_neg e]
  · refine ⟨ns ++ [s], ⟨?_, ?_⟩, fun x => by rw [List.mem_append, List.mem_singleton], by rw [List.length_append]; exact Nat.le_refl _⟩
    · unfold putK nmKeys
      rw [if_neg (by rw [nd_any hk, decide_eq_false m]; exact Bool.false_ne_true), List.map_append, hk, List.map_append]
      rfl
    · exact nd_snoc hn m
theorem SI.nodup {ys : List (List Nat)} (h : SI ys) : ys.Nodup := List.Pairwise.imp (fun {a b} q (e : a = b) => by rw [e] at q; exact List.lt_irrefl b q) h
/-! ### new dicts of names over frames; looks, one after another -/
open LamX NdefX
theorem FrS.put0 {Tb : List NTab} {B X : Hp} {a : Addr} {o : HO} (f : FrS Tb [] B X) (n : B a = none) (d : DL X a) : FrS Tb [] B (L2.upd X a o) :=
  ((FrS.mono f fun _ h => nomatch h).trans (FrS.upd (S := [a]) (List.mem_singleton.mpr rfl) d)).dropAll fun x hx => by rw [List.mem_singleton.mp hx]; exact n
theorem FrS.at {Tb : List NTab} {B X : Hp} (f : FrS Tb [] B X) {x : Addr} {o : HO} (h : B x = some o) (t : ∀ ps, o ≠ .tbl ps) : X x = some o := f.1 x o (fun z => nomatch z) t h
theorem FrS.lst {Tb : List NTab} {B X : Hp} (f : FrS Tb [] B X) {x : Addr} {l : List V} (h : B x = some (.lst l)) : X x = some (.lst l) := f.at h fun _ z => nomatch z
theorem FrS.tup {Tb : List NTab} {B X : Hp} (f : FrS Tb [] B X) {x : Addr} {l : List V} (h : B x = some (.tup l)) : X x = some (.tup l) := f.at h fun _ z => nomatch z
theorem FrS.dk {Tb : List NTab} {B X : Hp} (f : FrS Tb [] B X) {x : Addr} {l : List (Key × V)} (h : B x = some (.dK l)) : X x = some (.dK l) := f.at h fun _ z => nomatch z
theorem FrS.kp {Tb : List NTab} {B X : Hp} (f : FrS Tb [] B X) : Keep B X := fun _ _ e => f.tup e
theorem FrS.house {Tb : List NTab} {B X : Hp} (f : FrS Tb [] B X) {h : House} {v : V} (a : HouseAt B h v) : HouseAt X h v := by
  obtain ⟨p, gD, rD, kvs, e, h1, h2, h3, h4⟩ := a
  exact ⟨p, gD, rD, kvs, e, f.tup h1, f.dk h2, Rd.mp (fun _ e t => f.at e t) h3, h4.imp fun r v q => q.keep f.kp⟩
theorem upd_self {H : Hp} {a : Addr} {o : HO} (h : H a = some o) : L2.upd H a o = H := by
  funext b
  by_cases c : b = a
  · rw [c, upd_same, h]
  · rw [upd_ne c]
theorem rise_ext : ∀ {xs ys : List (List Nat)}, Rising xs → Rising ys → xs.Nodup → ys.Nodup → (∀ s, s ∈ xs ↔ s ∈ ys) → xs = ys := by
  have anti : ∀ {x y : List Nat}, ¬ x < y → ¬ y < x → x = y := fun h1 h2 => List.le_antisymm (List.not_lt.mp h2) (List.not_lt.mp h1)
  intro xs
  induction xs with
  | nil =>
    intro ys _ _ _ _ h
    cases ys with
    | nil => rfl
    | cons y ys => exact absurd ((h y).mpr List.mem_cons_self) (fun z => nomatch z)
  | cons x xs ih =>
    intro ys hx hy nx ny h
    cases ys with
    | nil => exact absurd ((h x).mp List.mem_cons_self) (fun z => nomatch z)
    | cons y ys =>
      obtain ⟨x1, x2⟩ := List.pairwise_cons.mp hx
      obtain ⟨y1, y2⟩ := List.pairwise_cons.mp hy
      obtain ⟨n1, n2⟩ := List.nodup_cons.mp nx
      obtain ⟨m1, m2⟩ := List.nodup_cons.mp ny
      have e : x = y := by
        rcases List.mem_cons.mp ((h x).mp List.mem_cons_self) with e | m
        · exact e
        rcases List.mem_cons.mp ((h y).mpr List.mem_cons_self) with e | m'
        · exact e.symm
        exact anti (y1 x m) (x1 y m')
      subst e
      rw [ih x2 y2 n2 m2 fun s => ⟨fun hs => ((List.mem_cons.mp ((h s).mp (List.mem_cons_of_mem _ hs))).resolve_left fun e => n1 (e ▸ hs)), fun hs => ((List.mem_cons.mp ((h s).mpr (List.mem_cons_of_mem _ hs))).resolve_left fun e => m1 (e ▸ hs))⟩]
theorem nd_val {kvs : List (Key × V)} {ns : List (List Nat)} (h : nmKeys kvs ns) (s : List Nat) : (valV kvs (kT (SX.S s))).isSome = decide (s ∈ ns) := by
  rw [← nd_any h]
  clear h
  induction kvs with
  | nil => rfl
  | cons p r ih =>
    rw [List.any_cons]
    by_cases c : p.1 = kT (SX.S s)
    · rw [valV_pos c, decide_eq_true (show p.1 = keyN s from c)]
      rfl
    · rw [valV_neg c, decide_eq_false (show ¬ p.1 = keyN s from c), ih]
      rfl
theorem nd_len {kvs : List (Key × V)} {ns : List (List Nat)} (h : nmKeys kvs ns) : kvs.length = ns.length := by
  have := congrArg List.length h
  rwa [List.length_map, List.length_map] at this
theorem kvR_nm {α : Type} {R : α → V → Prop} : ∀ {l : List (List Nat × α)} {m : List (Key × V)}, KvR R l m → nmKeys m (l.map (·.1))
  | [], [], _ => rfl
  | p :: l, q :: m, ⟨x, _, z⟩ => by
    show q.1 :: m.map _ = Sum.inr (SX.S p.1) :: _
    rw [x, kvR_nm z]
    rfl
  | [], _ :: _, h => h.elim
  | _ :: _, [], h => h.elim
theorem lkAll_rest {dm : Nat} {h : House} {beta : Nat → Nat} (HH : HouseOk dm h beta) {n : Nat} : ∀ {ts : List (List Nat)} {s s' : RkS} {v : Int}, Rest h beta s → (∀ t ∈ ts, Nm t) → lkAll h n s ts = .ok v s' → Rest h beta s' ∧ Grow s s' ts ∧ (∀ t ∈ ts, t ∈ s'.known.map (·.1)) ∧ ∀ u ∈ s.known.map (·.1), u ∈ s'.known.map (·.1)
  | [], s, s', v, r, _, e => by
    cases e
    exact ⟨r, Grow.refl _ _, (fun _ h => nomatch h), fun _ h => h⟩
  | t :: ts, s, s', v, r, hn, e => by
    unfold lkAll at e
    cases e1 : lkR h n s t with
    | err x => rw [e1] at e; cases e
    | ok w s1 =>
      rw [e1] at e
      obtain ⟨r1, _, g1, k1, m1⟩ := r.look HH (hn t List.mem_cons_self) e1
      obtain ⟨r2, g2, k2, m2⟩ := lkAll_rest HH r1 (fun u hu => hn u (List.mem_cons_of_mem _ hu)) e
      exact ⟨r2, g1.trans g2 (fun u hu => by rw [List.mem_singleton.mp hu]; exact List.mem_cons_self) (fun u hu => List.mem_cons_of_mem _ hu), fun u hu => (List.mem_cons.mp hu).elim (fun z => by rw [z]; exact m2 _ k1) (k2 u), fun u hu => m2 u (m1 u hu)⟩
theorem lkAll_total {dm : Nat} {h : House} {beta : Nat → Nat} (HH : HouseOk dm h beta) {n : Nat} (hn : h.recs.length + 1 ≤ n) : ∀ {ts : List (List Nat)} {s : RkS}, Rest h beta s → (∀ t ∈ ts, Nm t ∧ ∃ v, Val h t v) → ∃ s', lkAll h n s ts = .ok 0 s'
  | [], s, _, _ => ⟨s, rfl⟩
  | t :: ts, s, r, ht => by
    obtain ⟨hm, v, hv⟩ := ht t List.mem_cons_self
    obtain ⟨s1, e1⟩ := r.told HH hm hv hn
    obtain ⟨s2, e2⟩ := lkAll_total HH hn (r.look HH hm e1).1 fun u hu => ht u (List.mem_cons_of_mem _ hu)
    refine ⟨s2, ?_⟩
    show (match lkR h n s t with | .ok _ s' => lkAll h n s' ts | .err e => .err e) = _
    rw [e1]
    exact e2
theorem known_val {h : House} {beta : Nat → Nat} {s : RkS} (r : Rest h beta s) {u : List Nat} (hu : u ∈ s.known.map (·.1)) : ∃ x, seen s.known u = some x ∧ Val h u x := by
  cases e : seen s.known u with
  | none => exact absurd hu (seen_none e)
  | some x => exact ⟨x, rfl, r.coh.kn _ (seen_mem e)⟩
/-! ### data and errors over frames with tables -/
open LamX NdefX
theorem KvR.self {α : Type} {R : α → V → Prop} : ∀ {l : List (List Nat × α)} {m : List (Key × V)}, KvR R l m → (l.map (·.1)).Nodup → ∀ q ∈ m, ∃ a : α, valV m q.1 = some q.2 ∧ R a q.2
  | [], [], _, _, _, hq => nomatch hq
  | p :: l, q :: m, ⟨x, y, z⟩, nd, r, hr => by
    obtain ⟨n1, n2⟩ := List.nodup_cons.mp nd
    rcases List.mem_cons.mp hr with rfl | hr
    · exact ⟨_, valV_pos rfl, y⟩
    · obtain ⟨a, h1, h2⟩ := KvR.self z n2 r hr
      refine ⟨a, ?_, h2⟩
      obtain ⟨i, hi, e⟩ := List.mem_iff_getElem.mp hr
      obtain ⟨p2, e1, e2, _⟩ := KvR.at (i := i) (k := r.1) (v := r.2) z (by rw [List.getElem?_eq_getElem hi, e])
      rw [valV_neg (by
        rw [x, e2]
        exact fun e => n1 (by show p.1 ∈ _; rw [kS_inj e]; exact List.mem_map.mpr ⟨p2, List.mem_of_getElem? e1, rfl⟩))]
      exact h1
  | [], _ :: _, h, _, _, _ => h.elim
  | _ :: _, [], h, _, _, _ => h.elim
theorem Rec.ref {H : Hp} : ∀ {r : Rcp} {v : V}, Rec H r v → ∃ a, v = .ref a
  | .num _, _, ⟨p, e, _⟩ => ⟨p, e⟩
  | .read _, _, ⟨p, e, _⟩ => ⟨p, e⟩
  | .two _ _ _, _, ⟨p, _, _, e, _⟩ => ⟨p, e⟩
  | .pick _ _ _, _, ⟨p, _, _, _, e, _⟩ => ⟨p, e⟩
  | .choose _ _, _, ⟨p, _, _, e, _⟩ => ⟨p, e⟩
mutual
theorem Data.fr {H H' : Hp} (s : ∀ x u, (∀ ps, u ≠ .tbl ps) → H x = some u → H' x = some u) : ∀ {t : Th} {v : V}, Data H t v → Data H' t v
  | .non, _, h => h
  | .bl _, _, h => h
  | .int _, _, h => h
  | .str _, _, h => h
  | .tup _, _, ⟨p, xs, e, hp, hl⟩ => ⟨p, xs, e, s _ _ (fun _ z => by cases z) hp, DataL.fr s hl⟩
  | .lst _, _, ⟨p, xs, e, hp, hl⟩ => ⟨p, xs, e, s _ _ (fun _ z => by cases z) hp, DataL.fr s hl⟩
  | .dct, _, ⟨p, kvs, e, hp⟩ => ⟨p, kvs, e, s _ _ (fun _ z => by cases z) hp⟩
theorem DataL.fr {H H' : Hp} (s : ∀ x u, (∀ ps, u ≠ .tbl ps) → H x = some u → H' x = some u) : ∀ {l : List Th} {xs : List V}, DataL H l xs → DataL H' l xs
  | [], _, h => h
  | _ :: _, _, ⟨x, r, e, h1, h2⟩ => ⟨x, r, e, Data.fr s h1, DataL.fr s h2⟩
end
def spLawT (K : PySem.W.Frag) (Tb : List NTab) : Sp := fun vs H Q _ => ∃ (a : Addr) (ns : List Int), vs = [.ref a] ∧ SqL K H a (ns.map V.int) ∧ ns.length ≤ 63 ∧ TabsN Tb H ∧ ∀ H', Q (.bl true) H'
theorem txs_take (ns : List (List Nat)) (k : Nat) : (txs ns).take k = txs (ns.take k) := by unfold txs; rw [List.map_take, List.map_take]
end Mad
/-! ### deep equality of lists, tuples and dicts, where it holds -/
namespace L2
open PySem PySem.Spec PyProof.Rows PySem.SeqAt
open PySem.AutoSeq1 (wpAny_loadPart')
section
variable {prog : Program} {w : World}
/-- two tuples alike item by item are not unlike -/
theorem tup_alikeN (l b : Addr) (u v : Array Value) (n n2 : Nat) (d1 d2 : Option Addr) (sl sl2 : Array (Option Value)) :
    MeetsIn prog w (Builtin.«tuple.__ne__» ⟨[.ref l, .ref b], []⟩) (fun A R s => s.heap.get? l = some ⟨.type "tuple", d1, .seq u n, sl⟩ ∧ s.heap.get? b = some ⟨.type "tuple", d2, .seq v n2, sl2⟩ ∧
      (∀ p ∈ u.toList.zip v.toList, PySem.SeqAt.EqIn prog w A.in1 s p.1 p.2 true) ∧ u.size = v.size ∧ R (.ok (.ret (.bool false))) s) :=
  .of_wp fun A R s h => by
    obtain ⟨hp, g, dr, tk, os⟩ := s
    obtain ⟨e1, e2, he, hz, hR⟩ := h
    have isT := PySem.AutoSeq1.sub_tuple_tuple
    wp_walk using wpAny_loadPart' e1, wpAny_loadPart' e2, wpAny_forIn_list _ (fun todo st s' => st.1 = none ∧ s' = ⟨hp, g, dr, tk, os⟩ ∧ ∀ p ∈ todo, PySem.SeqAt.EqIn prog w A.in1 ⟨hp, g, dr, tk, os⟩ p.1 p.2 true) _
    case turn =>
      rintro ⟨y, x⟩ todo st s' ⟨h0, rfl, hr⟩
      refine wpAny_bind (hr (y, x) List.mem_cons_self _ _ ?_)
      wp_walk
      exact ⟨rfl, rfl, fun p hm => hr p (List.mem_cons_of_mem _ hm)⟩
    case fin =>
      rintro ⟨b1, b2⟩ s' ⟨h0, rfl, _⟩
      simp only at h0
      subst h0
      wp_walk
      exact ⟨_, rfl, by simpa [Builtin.Tuple.tupleCompareSizes, hz] using hR⟩
    case h => exact ⟨rfl, rfl, he⟩
/-- the turns of two lists alike from i on -/
theorem lst_turnsN (l b : Addr) (u v : Array Value) (n n2 : Nat) (d1 d2 : Option Addr) (sl sl2 : Array (Option Value)) (k : Nat) : ∀ i : Nat, u.size - i = k →
    MeetsIn prog w (Builtin.«list.__eq__.loop» ⟨[.ref l, .ref b, rawInt i, rawInt 3], []⟩) (fun A R s => s.heap.get? l = some ⟨.type "list", d1, .seq u n, sl⟩ ∧ s.heap.get? b = some ⟨.type "list", d2, .seq v n2, sl2⟩ ∧
      (∀ j (h1 : j < u.size) (h2 : j < v.size), PySem.SeqAt.EqIn prog w A.in1 s u[j] v[j] true) ∧ u.size = v.size ∧ R (.ok (.ret (.bool false))) s) := by
  induction k with
  | zero =>
    intro i hk A R s h
    obtain ⟨hp, g, dr, tk, os⟩ := s
    obtain ⟨e1, e2, he, hz, hR⟩ := h
    wp_walk using wpAny_loadPart' e1, wpAny_loadPart' e2
    have a1 : u[((i : Nat) : Int).toNat]? = none := by simp; omega
    have a2 : v[((i : Nat) : Int).toNat]? = none := by simp; omega
    rw [a1, a2]
    wp_walk using wpAny_loadPart' e1, wpAny_loadPart' e2
    show R (.ok (.ret (.bool (u.size != v.size)))) _
    simpa [hz] using hR
  | succ k ih =>
    intro i hk A R s h
    obtain ⟨hp, g, dr, tk, os⟩ := s
    obtain ⟨e1, e2, he, hz, hR⟩ := h
    wp_walk using wpAny_loadPart' e1, wpAny_loadPart' e2
    have l1 : i < u.size := by omega
    have l2 : i < v.size := by omega
    have a1 : u[((i : Nat) : Int).toNat]? = some u[i] := by simp [l1]
    have a2 : v[((i : Nat) : Int).toNat]? = some v[i] := by simp [l2]
    have nx : ((i : Int) + 1) = ((i + 1 : Nat) : Int) := by push_cast; rfl
    rw [a1, a2]
    refine wpAny_bind (he i l1 l2 _ _ ?_)
    wp_walk
    rw [nx]
    refine ⟨PySem.plainId_quiet PySem.MeetsSeq3.plain_eq_loop _, codeAny_builtin PySem.MeetsSeq3.entry_eq_loop ?_⟩
    rw [Around.under_plainId PySem.MeetsSeq3.plain_eq_loop _]
    exact ih (i + 1) (by omega) A R _ ⟨e1, e2, he, hz, hR⟩
theorem lst_alikeN (l b : Addr) (u v : Array Value) (n n2 : Nat) (d1 d2 : Option Addr) (sl sl2 : Array (Option Value)) :
    MeetsIn prog w (Builtin.«list.__ne__» ⟨[.ref l, .ref b], []⟩) (fun A R s => s.heap.get? l = some ⟨.type "list", d1, .seq u n, sl⟩ ∧ s.heap.get? b = some ⟨.type "list", d2, .seq v n2, sl2⟩ ∧
      (∀ j (h1 : j < u.size) (h2 : j < v.size), PySem.SeqAt.EqIn prog w A.in1 s u[j] v[j] true) ∧ u.size = v.size ∧ R (.ok (.ret (.bool false))) s) := by
  intro A R s h
  obtain ⟨hp, g, dr, tk, os⟩ := s
  obtain ⟨e1, e2, he, hz, hR⟩ := h
  have isL := PySem.AutoSeq1.sub_list_list
  have same : ¬ (u.size != v.size) = true := by simp [hz]
  wp_walk using wpAny_loadPart' e1, wpAny_loadPart' e2
  refine ⟨PySem.plainId_quiet PySem.MeetsSeq3.plain_eq_loop _, codeAny_builtin PySem.MeetsSeq3.entry_eq_loop ?_⟩
  rw [Around.under_plainId PySem.MeetsSeq3.plain_eq_loop _]
  exact lst_turnsN l b u v n n2 d1 d2 sl sl2 _ 0 rfl A R _ ⟨e1, e2, he, hz, hR⟩
theorem ne_lsts {A : Around} {E Q : Value → Shared → Prop} {s : Shared} {l b : Addr} {u v : Array Value} (hl : s.heap.IsList l u) (hb : s.heap.IsList b v) (hz : u.size = v.size) (hu : A.units < cLine)
    (he : ∀ j (h1 : j < u.size) (h2 : j < v.size), PySem.SeqAt.EqIn prog w A.in1 s u[j] v[j] true) (h : Q (.bool false) s) : wpAny (model prog w) A (richCompare .NotEq (.ref l) (.ref b)) Q E s := by
  obtain ⟨⟨c1, d1, a1, sl1⟩, o1, k1, n1, t1⟩ := id hl
  obtain ⟨⟨c2, d2, a2, sl2⟩, o2, k2, n2, t2⟩ := id hb
  simp only at k1 t1 k2 t2
  subst k1 t1 k2 t2
  refine wpAny_richCompare_same_room (T := "list") (op := .NotEq) ⟨_, o1, rfl⟩ ⟨_, o2, rfl⟩ PySem.F.slot_list_ne ?_ hu
  exact call_meetsIn PySem.F.slot_list_ne ⟨_, o1, rfl⟩ PySem.F.entry_list_ne (PySem.F.args_list_ne_2 _ _) (lst_alikeN l b u v n1 n2 d1 d2 sl1 sl2) ⟨o1, o2, he, hz, (fun z => nomatch z), h⟩
theorem ne_tups {A : Around} {E Q : Value → Shared → Prop} {s : Shared} {l b : Addr} {u v : Array Value} (hl : s.heap.IsTuple l u) (hb : s.heap.IsTuple b v) (hz : u.size = v.size) (hu : A.units < cLine)
    (he : ∀ p ∈ u.toList.zip v.toList, PySem.SeqAt.EqIn prog w A.in1 s p.1 p.2 true) (h : Q (.bool false) s) : wpAny (model prog w) A (richCompare .NotEq (.ref l) (.ref b)) Q E s := by
  obtain ⟨⟨c1, d1, a1, sl1⟩, o1, k1, n1, t1⟩ := id hl
  obtain ⟨⟨c2, d2, a2, sl2⟩, o2, k2, n2, t2⟩ := id hb
  simp only at k1 t1 k2 t2
  subst k1 t1 k2 t2
  refine wpAny_richCompare_same_room (T := "tuple") (op := .NotEq) ⟨_, o1, rfl⟩ ⟨_, o2, rfl⟩ PySem.F.slot_tuple_ne ?_ hu
  exact call_meetsIn PySem.F.slot_tuple_ne ⟨_, o1, rfl⟩ PySem.F.entry_tuple_ne (PySem.F.args_tuple_ne_2 _ _) (tup_alikeN l b u v n1 n2 d1 d2 sl1 sl2) ⟨o1, o2, he, hz, (fun z => nomatch z), h⟩
end
/-- alike: lists, tuples, dicts of things that are F -/
def EqRG (K : PySem.W.Frag) (H : Hp) (F : V → V → Prop) (x y : V) : Prop :=
  (∃ a b xs ys, x = .ref a ∧ y = .ref b ∧ SqL K H a xs ∧ SqL K H b ys ∧ Paired F xs ys) ∨ (∃ a b xs ys, x = .ref a ∧ y = .ref b ∧ SqT K H a xs ∧ SqT K H b ys ∧ Paired F xs ys) ∨
    ∃ a b ks ls, x = .ref a ∧ y = .ref b ∧ H a = some (.dK ks) ∧ H b = some (.dK ls) ∧ ks.length = ls.length ∧ ∀ p ∈ ks, ∃ u, valV ls p.1 = some u ∧ F p.2 u
/-- alike, n levels deep -/
def EqG (K : PySem.W.Frag) (H : Hp) : Nat → V → V → Prop
  | 0 => fun _ _ => False
  | n + 1 => fun x y => (x = y ∧ flatB x = true) ∨ (∃ a, x = .ref a ∧ y = .ref a) ∨ (64 ≤ n ∧ ∃ d e, Dp K H x d ∧ Dp K H y e ∧ SeqAt.shaped d = true ∧ SeqAt.shaped e = true ∧ PyData.eqv d e = true) ∨ EqRG K H (EqG K H n) x y
theorem EqG.refl_ref {K : PySem.W.Frag} {H : Hp} {n : Nat} (a : Addr) : EqG K H (n + 1) (.ref a) (.ref a) := .inr (.inl ⟨a, rfl, rfl⟩)
theorem EqG.flat {K : PySem.W.Frag} {H : Hp} {n : Nat} {x : V} (f : flatB x = true) : EqG K H (n + 1) x x := .inl ⟨rfl, f⟩
theorem EqG.any {K : PySem.W.Frag} {H : Hp} {n : Nat} {x : V} (h : flatB x = true ∨ ∃ a, x = .ref a) : EqG K H (n + 1) x x := h.elim EqG.flat fun ⟨a, e⟩ => by rw [e]; exact EqG.refl_ref a
section
variable {X : Cx} {pins : List (Addr × Obj)} {σ : L2.St} {H : Hp} {s : Shared}
theorem items_in {F : V → V → Prop} {P : Program} {w : World} {A : Around} (ih : ∀ x y v u, F x y → RelV x v → RelV y u → PySem.SeqAt.EqIn P w A s v u true) : ∀ {xs ys : List V} {us ws : List Value}, Paired F xs ys → Vals xs us → Vals ys ws → us.length = ws.length ∧ ∀ p ∈ us.zip ws, PySem.SeqAt.EqIn P w A s p.1 p.2 true
  | _, _, _, _, .nil, .nil, .nil => ⟨rfl, fun _ h => nomatch h⟩
  | _, _, _, _, .cons a b, .cons r1 q1, .cons r2 q2 => by
    obtain ⟨l, k⟩ := items_in ih b q1 q2
    refine ⟨congrArg (· + 1) l, fun p hp => ?_⟩
    rcases List.mem_cons.mp hp with rfl | hp
    · exact ih _ _ _ _ a r1 r2
    · exact k p hp
theorem zip_at {P : Value → Value → Prop} {us ws : List Value} (h : ∀ p ∈ us.zip ws, P p.1 p.2) (j : Nat) (h1 : j < us.length) (h2 : j < ws.length) : P us[j] ws[j] := by
  have hz : j < (us.zip ws).length := by rw [List.length_zip]; omega
  have := h _ (List.getElem_mem hz)
  rw [List.getElem_zip] at this
  exact this
theorem hits_in {F : V → V → Prop} {P : Program} {w : World} {A : Around} (ih : ∀ x y v u, F x y → RelV x v → RelV y u → PySem.SeqAt.EqIn P w A s v u true) {ls : List (Key × V)} {vb : List (Key × Value)} (rb : KV ls vb) {ks : List (Key × V)}
    {va : List (Key × Value)} (ra : KV ks va) : (∀ p ∈ ks, ∃ u, valV ls p.1 = some u ∧ F p.2 u) → PySem.W.KeqHitsIn P w A s vb va true := by
  unfold KV at ra
  induction ra with
  | nil => exact fun _ => .nil
  | @cons p q ps qs h t k =>
    intro hp
    obtain ⟨h1, h2⟩ := h
    obtain ⟨u, e, f⟩ := hp p List.mem_cons_self
    obtain ⟨y, hy, ry⟩ := (show RelO (some u) (valueAt vb p.1) by rw [← e]; exact rb.val p.1).some_of
    obtain ⟨key, v⟩ := q
    cases (show p.1 = key from h1)
    exact .hit (e := true) (b := true) (r := qs) hy (ih _ _ _ _ f h2 ry) (k fun p' hm => hp p' (List.mem_cons_of_mem _ hm))
/-- the comparison itself, both ways -/
theorem eqRG_run (I : Inv X pins σ H s) {A : Around} {F : V → V → Prop} (hu : A.units < cLine) (ih : ∀ x y v u, F x y → RelV x v → RelV y u → PySem.SeqAt.EqIn X.prog X.w A.in1 s v u true) {x y : V} {v u : Value} (h : EqRG X.K H F x y) (rx : RelV x v) (ry : RelV y u)
    (E Q : Value → Shared → Prop) (q : Q (.bool true) s) : wpAny (model X.prog X.w) A (richCompare .Eq v u) Q E s := by
  rcases h with ⟨a, b, xs, ys, rfl, rfl, ha, hb, hp⟩ | ⟨a, b, xs, ys, rfl, rfl, ha, hb, hp⟩ | ⟨a, b, ks, ls, rfl, rfl, ha, hb, hl, hp⟩
  · cases rx
    cases ry
    obtain ⟨us, r1, p1, _⟩ := I.list ha
    obtain ⟨ws, r2, p2, _⟩ := I.list hb
    obtain ⟨hz, k⟩ := items_in ih hp r1 r2
    refine PySem.SeqAt.rcIn_lists (e := fun _ => true) p1.isList p2.isList (by simpa using hz) hu (fun j h1 h2 => ?_) ?_
    · simpa using zip_at (P := fun p q => PySem.SeqAt.EqIn X.prog X.w A.in1 s p q true) k j (by simpa using h1) (by simpa using h2)
    · rw [List.all_eq_true.mpr fun _ _ => rfl]
      exact q
  · cases rx
    cases ry
    obtain ⟨us, r1, p1⟩ := I.tuple ha
    obtain ⟨ws, r2, p2⟩ := I.tuple hb
    obtain ⟨hz, k⟩ := items_in ih hp r1 r2
    refine PySem.SeqAt.rcIn_tuples (e := fun _ => true) p1.1 p2.1 hu (fun j h1 h2 => ?_) ?_
    · simpa using zip_at (P := fun p q => PySem.SeqAt.EqIn X.prog X.w A.in1 s p q true) k j (by simpa using h1) (by simpa using h2)
    · rw [List.all_eq_true.mpr fun _ _ => rfl, show us.toArray.size = ws.toArray.size by simpa using hz]
      simpa using q
  · cases rx
    cases ry
    obtain ⟨_, ya, va, ra, da⟩ := (show ObjOk X.prog X.w H s.heap a (.dK ks) from I.hok a _ ha)
    obtain ⟨_, yb, vb, rb, db⟩ := (show ObjOk X.prog X.w H s.heap b (.dK ls) from I.hok b _ hb)
    refine PySem.W.keq_eqIn (knd := mixKind X.prog X.w) (r := true) ya yb da db hu (fun _ => hits_in ih rb ra hp) ?_
    rw [show va.length = vb.length by rw [← ra.length, ← rb.length]; exact hl]
    simpa using q
theorem eqG_run (I : Inv X pins σ H s) : ∀ (n : Nat) (A : Around), A.units + n + 64 < cLine → ∀ (x y : V) (v u : Value), EqG X.K H n x y → RelV x v → RelV y u → PySem.SeqAt.EqIn X.prog X.w A s v u true
  | 0, _, _, _, _, _, _, h, _, _ => (show False from h).elim
  | n + 1, A, hu, x, y, v, u, h, rx, ry => by
    rcases h with ⟨rfl, f⟩ | ⟨a, rfl, rfl⟩ | ⟨hn, d, e, hd, he, sd, se, eq⟩ | h
    · exact (PySem.SeqAt.EqAt.inModel (eqAt_same rx ry f) _ _)
    · cases rx
      cases ry
      exact PySem.SeqAt.EqAt.inModel (SeqAt.EqAt.same _) _ _
    · obtain ⟨as, r1⟩ := Dp.reads I d x v hd rx
      obtain ⟨bs, r2⟩ := Dp.reads I e y u he ry
      have := PySem.SeqAt.eqAt_reads d e A s v u as bs r1 r2 (SeqAt.canLay_of_shaped sd) (SeqAt.canLay_of_shaped se) (SeqAt.room_of_shaped sd (by omega))
      rw [eq] at this
      exact PySem.SeqAt.EqAt.inModel this _ _
    · have step := eqRG_run I (A := A) (by omega) (eqG_run I n A.in1 (by show A.units + 1 + n + 64 < cLine; omega)) h rx ry
      obtain ⟨a, b, rfl, rfl⟩ : ∃ a b, x = .ref a ∧ y = .ref b := by
        rcases h with ⟨a, b, _, _, e1, e2, _⟩ | ⟨a, b, _, _, e1, e2, _⟩ | ⟨a, b, _, _, e1, e2, _⟩ <;> exact ⟨a, b, e1, e2⟩
      cases rx
      cases ry
      by_cases e : a = b
      · subst e
        exact PySem.SeqAt.EqAt.inModel (SeqAt.EqAt.same _) _ _
      · exact PySem.SeqAt.EqIn.of_refs e step
end
/-- a == b, a != b of lists, tuples, dicts that are alike -/
def rEqG (K : PySem.W.Frag) : R2 := fun x y H Q => EqRG K H (EqG K H 80) x y ∧ Q (.bl true) H
def rNeG (K : PySem.W.Frag) : R2 := fun x y H Q => ((∃ a b xs ys, x = .ref a ∧ y = .ref b ∧ SqL K H a xs ∧ SqL K H b ys ∧ Paired (EqG K H 80) xs ys) ∨ (∃ a b xs ys, x = .ref a ∧ y = .ref b ∧ SqT K H a xs ∧ SqT K H b ys ∧ Paired (EqG K H 80) xs ys)) ∧ Q (.bl false) H
section
variable {X : Cx}
theorem op_eqG (hu : X.A.units + 199 < cLine) : OpR X (compareOp .Eq) (rEqG X.K) := by
  intro pins s σ H x y v u Q I rx ry h
  obtain ⟨h, q⟩ := h
  exact eqRG_run I (A := X.A) (by omega) (eqG_run I 80 X.A.in1 (by show X.A.units + 1 + 80 + 64 < cLine; omega)) h rx ry _ _ ⟨.bl true, H, I, rfl, q⟩
theorem op_neG (hu : X.A.units + 199 < cLine) : OpR X (compareOp .NotEq) (rNeG X.K) := by
  intro pins s σ H x y v u Q I rx ry h
  obtain ⟨h, q⟩ := h
  have ih := eqG_run I 80 X.A.in1 (by show X.A.units + 1 + 80 + 64 < cLine; omega)
  rcases h with ⟨a, b, xs, ys, rfl, rfl, ha, hb, hp⟩ | ⟨a, b, xs, ys, rfl, rfl, ha, hb, hp⟩
  · cases rx
    cases ry
    obtain ⟨us, r1, p1, _⟩ := I.list ha
    obtain ⟨ws, r2, p2, _⟩ := I.list hb
    obtain ⟨hz, k⟩ := items_in ih hp r1 r2
    refine ne_lsts p1.isList p2.isList (by simpa using hz) (by omega) (fun j h1 h2 => ?_) ⟨.bl false, H, I, rfl, q⟩
    simpa using zip_at (P := fun p q => PySem.SeqAt.EqIn X.prog X.w X.A.in1 s p q true) k j (by simpa using h1) (by simpa using h2)
  · cases rx
    cases ry
    obtain ⟨us, r1, p1⟩ := I.tuple ha
    obtain ⟨ws, r2, p2⟩ := I.tuple hb
    obtain ⟨hz, k⟩ := items_in ih hp r1 r2
    exact ne_tups p1.1 p2.1 (by simpa using hz) (by omega) (fun p hm => k p (by simpa using hm)) ⟨.bl false, H, I, rfl, q⟩
theorem hu199 {k : Nat} {A : Around} (r : Room k A) : A.units + 199 < cLine := by have := r.un; omega
end
end L2
namespace Mad
open PySem PySem.Spec PyProof.Rows L2
end Mad
/-! ### more of what is made: told by a heap that keeps all -/
namespace L2
open PySem PySem.Spec PyProof.Rows
def tDNewA : TE := fun _ H Q => ∀ p H2, H p = none → SameU H H2 → H2 p = some (.dK []) → Q (.ref p) H2
def rSlLA (K : PySem.W.Frag) : V → Option Int → Option Int → Hp → VK → Prop := fun x lo hi H Q => ∃ a xs, x = .ref a ∧ SqL K H a xs ∧ ∀ p H2, H p = none → SameU H H2 → H2 p = some (.lst (cutV xs lo hi)) → Q (.ref p) H2
def rListA (K : PySem.W.Frag) : List V → Hp → VK → Prop := fun xs H Q => ∃ p ys, xs = [.ref p] ∧ (SqL K H p ys ∨ SqT K H p ys) ∧ ∀ l H2, H l = none → SameU H H2 → H2 l = some (.lst ys) → Q (.ref l) H2
def rListDA : List V → Hp → VK → Prop := fun xs H Q => ∃ (a : Addr) (kvs : List (Key × V)), xs = [.ref a] ∧ Rd H a (.dK kvs) ∧ ∀ p H2, H p = none → SameU H H2 → H2 p = some (.lst (kvs.map fun kv => kV kv.1)) → Q (.ref p) H2
def rSortedPA (K : PySem.W.Frag) : List V → Hp → VK → Prop := fun vs H Q => ∃ a xs, vs = [V.ref a] ∧ SqL K H a xs ∧ (∀ x ∈ xs, ∃ t i j, x = V.ref t ∧ H t = some (.tup [.int i, .int j])) ∧
  ∀ ys p H2, ys.Perm xs → H p = none → SameU H H2 → H2 p = some (.lst ys) → Q (.ref p) H2
def rDictDA : List V → Hp → VK → Prop := fun xs H Q => ∃ (a : Addr) (kvs : List (Key × V)), xs = [.ref a] ∧ Rd H a (.dK kvs) ∧ ∀ p H2, H p = none → SameU H H2 → H2 p = some (.dK kvs) → Q (.ref p) H2
def rDictPA (K : PySem.W.Frag) : List V → Hp → VK → Prop := fun xs H Q => ∃ (a : Addr) (ps : List Addr) (kvs : List (Key × V)), xs = [.ref a] ∧ SqL K H a (ps.map V.ref) ∧ Paired (fun p kv => SqT K H p [kV kv.1, kv.2]) ps kvs ∧ ∀ p H2, H p = none → SameU H H2 → H2 p = some (.dK (mergeK [] kvs)) → Q (.ref p) H2
section
variable {X : Cx} {pos : Pos}
theorem call_dictPA {K : PySem.W.Frag} (h : X.K = K) (hcalm : X.calm = true) : CallR X (.type "dict") (rDictPA K) := by
  subst h
  intro pins s σ H xs us Q I r h
  obtain ⟨a, ps, kvs, e, hq, hp, q⟩ := h
  exact call_dictP hcalm pins s σ H xs us Q I r ⟨a, ps, kvs, e, hq, hp, fun p np => q p _ np (sameU_new np _) upd_same⟩
theorem call_dictDA : CallR X (.type "dict") rDictDA := by
  intro pins s σ H xs us Q I r h
  obtain ⟨a, kvs, e, hd, q⟩ := h
  exact call_dictD pins s σ H xs us Q I r ⟨a, kvs, e, hd, fun p np => q p _ np (sameU_new np _) upd_same⟩
theorem op_neDK {K : PySem.W.Frag} (h : X.K = K) (hu : X.A.units + 64 < cLine) : OpR X (compareOp .NotEq) (rNeD K) := by
  subst h
  exact op_neD hu
theorem op_eqDK {K : PySem.W.Frag} (h : X.K = K) (hu : X.A.units + 64 < cLine) : OpR X (compareOp .Eq) (rEqD K) := by
  subst h
  exact op_eqD hu
theorem pe_dnewA : PE X (.Dict [] [] pos) tDNewA := ⟨fun pins s σ H Q I h => pe_dnewK.run pins s σ H Q I fun p np => h p _ np (sameU_new np _) upd_same⟩
theorem sl_listA : SlR X (rSlLA X.K) := by
  intro pins s σ H x v vl vu lo hi sl Q I rx hs pl pu h
  obtain ⟨a, xs, e, hx, q⟩ := h
  exact sl_list pins s σ H x v vl vu lo hi sl Q I rx hs pl pu ⟨a, xs, e, hx, fun p np => q p _ np (sameU_new np _) upd_same⟩
theorem call_listA : CallR X (.type "list") (rListA X.K) := by
  intro pins s σ H xs us Q I r h
  obtain ⟨p, ys, e, hq, q⟩ := h
  exact call_list_of pins s σ H xs us Q I r ⟨p, ys, e, hq, fun l nl => q l _ nl (sameU_new nl _) upd_same⟩
theorem call_listDA (hcalm : X.calm = true) : CallR X (.type "list") rListDA := by
  intro pins s σ H xs us Q I r h
  obtain ⟨p, ys, e, hq, q⟩ := h
  exact call_listD hcalm pins s σ H xs us Q I r ⟨p, ys, e, hq, fun l nl => q l _ nl (sameU_new nl _) upd_same⟩
theorem cr_sortedPA : CallR X (.builtin "sorted") (rSortedPA X.K) := by
  intro pins s σ H vs us Q I r h
  obtain ⟨a, xs, e, hs, hx, q⟩ := h
  exact cr_sortedP pins s σ H vs us Q I r ⟨a, xs, e, hs, hx, fun ys p pm np => q ys p _ pm np (sameU_new np _) upd_same⟩
end
end L2
namespace Mad
open PySem PySem.Spec PyProof.Rows L2
/-! ### sorted of texts, told by a heap that keeps all -/
def rSortTA (K : PySem.W.Frag) : List V → Hp → VK → Prop := fun vs H Q => ∃ (a : Addr) (ns : List (List Nat)), vs = [V.ref a] ∧ SqL K H a (txs ns) ∧
  ∀ (ys : List (List Nat)) (p : Addr) (H2 : Hp), ys.Perm ns → Rising ys → H p = none → SameU H H2 → H2 p = some (.lst (txs ys)) → Q (.ref p) H2
def rSortTDA : List V → Hp → VK → Prop := fun vs H Q => ∃ (a : Addr) (kvs : List (Key × V)) (ns : List (List Nat)), vs = [V.ref a] ∧ H a = some (.dK kvs) ∧ nmKeys kvs ns ∧
  ∀ (ys : List (List Nat)) (p : Addr) (H2 : Hp), ys.Perm ns → Rising ys → H p = none → SameU H H2 → H2 p = some (.lst (txs ys)) → Q (.ref p) H2
theorem cr_sortTA {X : Cx} : CallR X (.builtin "sorted") (rSortTA X.K) := by
  intro pins s σ H vs us Q I r h
  obtain ⟨a, ns, e, hs, q⟩ := h
  exact cr_sortT pins s σ H vs us Q I r ⟨a, ns, e, hs, fun ys p pm ri np => q ys p _ pm ri np (sameU_new np _) upd_same⟩
theorem cr_sortTDA {X : Cx} (hcalm : X.calm = true) : CallR X (.builtin "sorted") rSortTDA := by
  intro pins s σ H vs us Q I r h
  obtain ⟨a, kvs, ns, e, hd, hk, q⟩ := h
  exact cr_sortTD hcalm pins s σ H vs us Q I r ⟨a, kvs, ns, e, hd, hk, fun ys p pm ri np => q ys p _ pm ri np (sameU_new np _) upd_same⟩
end Mad
/-! ### d.update(e) of two dicts; d != e of dicts that are alike -/
namespace PySem.W
open PySem PySem.Spec PyProof.Rows PySem.SeqAt
theorem keq_neIn {K : Type} [DecidableEq K] {prog : Program} {w : World} {knd : KeyKind prog w K} {s : Shared} {A : Around} {E : Value → Shared → Prop} {a b : Addr} {ka kb : List (K × Value)} {r : Bool} {Q : Value → Shared → Prop} (ha : (a == sysModules) = false) (hb : (b == sysModules) = false)
    (da : s.heap.DictOf knd a ka) (db : s.heap.DictOf knd b kb) (hu : A.units < cLine) (hits : ka.length = kb.length → KeqHitsIn prog w A.in1 s kb ka r) (h : Q (.bool (!(ka.length == kb.length && r))) s) :
    wpAny (model prog w) A (compareOp .NotEq (.ref a) (.ref b)) Q E s := by
  refine wpAny_richCompare_same_room (op := .NotEq) da.typeIs db.typeIs PySem.F.slot_dict_ne (wpAny_call_entry PySem.F.slot_dict_ne da.typeIs PySem.F.entry_dict_ne ?_ (PySem.F.args_dict_ne_2 _ _)) hu
  show wpAny _ _ (Builtin.Dict.dictSlotArgs "__ne__" ⟨[.ref a, .ref b], []⟩ >>= _) _ _ s
  refine wpAny_bind ?_
  unfold Builtin.Dict.dictSlotArgs
  refine wpAny_bind (wpAny_notOrdered_dict da.typeIs ?_)
  show wpAny _ _ (pure (Value.ref a, Value.ref b)) _ _ s
  refine wpAny_pure ?_
  refine wpAny_bind (wpAny_isInstance (T := "dict") db.typeIs PySem.F.sub_dict_dict ?_)
  simp only [Bool.not_true, Bool.false_eq_true, if_false]
  refine wpAny_bind (wpAny_pure (wpAny_bind (wpAny_pure ?_)))
  refine wpAny_bind (keq_samePairsIn ha hb da db hits ?_)
  refine wpAny_pure ⟨_, rfl, ?_, ?_⟩
  · exact fun x => nomatch x
  · simpa using h
end PySem.W
namespace L2
open PySem PySem.Spec PyProof.Rows
section
variable {X : Cx}
/-- a != b of dicts that are alike -/
def rNeGD (K : PySem.W.Frag) : R2 := fun x y H Q => (∃ a b ks ls, x = .ref a ∧ y = .ref b ∧ H a = some (.dK ks) ∧ H b = some (.dK ls) ∧ ks.length = ls.length ∧ ∀ p ∈ ks, ∃ u, valV ls p.1 = some u ∧ EqG K H 80 p.2 u) ∧ Q (.bl false) H
theorem op_neGD (hu : X.A.units + 199 < cLine) : OpR X (compareOp .NotEq) (rNeGD X.K) := by
  intro pins s σ H x y v u Q I rx ry h
  obtain ⟨⟨a, b, ks, ls, rfl, rfl, ha, hb, hl, hp⟩, q⟩ := h
  cases rx
  cases ry
  obtain ⟨_, ya, va, ra, da⟩ := (show ObjOk X.prog X.w H s.heap a (.dK ks) from I.hok a _ ha)
  obtain ⟨_, yb, vb, rb, db⟩ := (show ObjOk X.prog X.w H s.heap b (.dK ls) from I.hok b _ hb)
  have ih := eqG_run I 80 X.A.in1 (by show X.A.units + 1 + 80 + 64 < cLine; omega)
  refine PySem.W.keq_neIn (knd := mixKind X.prog X.w) (r := true) ya yb da db (by omega) (fun _ => hits_in ih rb ra hp) ?_
  have : (!(va.length == vb.length && true)) = false := by rw [show va.length = vb.length by rw [← ra.length, ← rb.length]; exact hl]; simp
  rw [this]
  exact ⟨.bl false, H, I, rfl, q⟩
end
section
variable {X : Cx} {pins : List (Addr × Obj)} {σ : St} {H : Hp} {s : Shared} {a b : Addr} {kvs ls : List (Key × V)} {A : Around} {E : Value → Shared → Prop}
theorem d_upd {Q : Value → Shared → Prop} (I : Inv X pins σ H s) (e : H a = some (.dK kvs)) (e2 : Rd H b (.dK ls)) (hne : a ≠ b) (hl : kvs.length + ls.length ≤ sizeLine)
    (h : ∀ s', Inv X pins σ (upd H a (.dK (mergeK kvs ls))) s' → Q .none s') : wpAny (model X.prog X.w) A (call (.builtin "dict.update") [.ref a, .ref b]) Q E s := by
  obtain ⟨z, hd, vs, rel, dd⟩ := dk_of I.hok e
  obtain ⟨z2, hd2, vs2, rel2, dd2⟩ := dk_rd I.hok e2
  refine call_meetsIn PySem.F.slot_dict_update dd.typeIs PySem.F.entry_dict_update (PySem.F.args_dict_update_2 _ _) (meets_dict_update (mixKind X.prog X.w) a b hne hd2) ⟨vs, vs2, dd, dd2, by rw [← rel.length, ← rel2.length]; exact hl, fun h' dd' _ hs => h _ ?_⟩
  have he : ∃ q, h'.get? a = some q := let ⟨q, _, _, hq, _⟩ := dd'; ⟨q, hq⟩
  exact d_write (t' := s.toks) I (by rw [e]; exact True.intro) hs he (dk_new (Nat.le_trans (length_mergeK _ _) hl) hd (rel2.merge rel) dd')
end
def tDUpd (td ty : TE) : TE := fun σ H Q => td σ H fun x H1 => ∃ a, x = .ref a ∧ IsD H1 a ∧ ty σ H1 fun y H2 => ∃ b kvs ls, y = .ref b ∧ H2 a = some (.dK kvs) ∧ Rd H2 b (.dK ls) ∧ a ≠ b ∧ kvs.length + ls.length ≤ sizeLine ∧ Q .non (upd H2 a (.dK (mergeK kvs ls)))
section
variable {X : Cx} {o e : Expr} {apos cpos : Pos} {td ty : TE}
theorem pe_dupd (ho : PE X o td) (he : PE X e ty) (m : M1 X o "update" apos e cpos) : PE X (.Call (.Attribute o "update" apos) [e] [] cpos) (tDUpd td ty) := by
  refine ⟨fun pins s σ H Q I h => ?_⟩
  refine wpAny_Call_method m.base m.few m.line PySem.F.plainAttrs_dict PySem.F.slot_dict_update PySem.F.type_dict_update (thn (ho.run pins s σ H _ I h) fun u s1 ⟨x, H1, I1, rx, a, ex, d, q1⟩ => ?_)
  subst ex
  obtain rfl : u = Value.ref a := rx
  obtain ⟨t1, t2, _⟩ := isD_at I1 d
  refine ⟨t1, t2, ?_⟩
  rw [m.trees]
  refine Calls.callWith_builtin rfl (Calls.evalArgs_plain (Calls.spliced_cons (thn (he.run pins s1 σ H1 _ I1 q1) fun iv s2 ⟨y, H2, I2, ry, b, kvs, ls, ey, ea, eb, ne, l, q2⟩ => Calls.spliced_nil ?_)))
  subst ey
  obtain rfl : iv = Value.ref b := ry
  exact d_upd I2 ea eb ne l fun s3 I3 => ⟨.non, _, I3, rfl, q2⟩
end
end L2
namespace Mad
open PySem PySem.Spec PyProof.Rows L2
/-! ### dicts put together -/
def merA {α : Type} (l m : List (List Nat × α)) : List (List Nat × α) := m.foldl (fun a p => putA a p.1 p.2) l
theorem merA_keys {α : Type} {u : List Nat} : ∀ {m l : List (List Nat × α)}, u ∈ (merA l m).map (·.1) ↔ u ∈ l.map (·.1) ∨ u ∈ m.map (·.1)
  | [], l => ⟨.inl, fun h => h.elim id fun h => nomatch h⟩
  | p :: m, l => by
    show u ∈ (merA (putA l p.1 p.2) m).map (·.1) ↔ _
    rw [merA_keys, putA_mem, List.map_cons, List.mem_cons, or_assoc]
theorem merA_nd {α : Type} : ∀ {m l : List (List Nat × α)}, (l.map (·.1)).Nodup → ((merA l m).map (·.1)).Nodup
  | [], l, h => h
  | p :: m, l, h => merA_nd (m := m) (putA_nd h)
theorem mem_merA {α : Type} {q : List Nat × α} : ∀ {m l : List (List Nat × α)}, q ∈ merA l m → q ∈ l ∨ q ∈ m
  | [], l, h => .inl h
  | p :: m, l, h => by
    rcases mem_merA (m := m) h with h | h
    · rcases mem_putA h with rfl | h
      · exact .inr List.mem_cons_self
      · exact .inl h
    · exact .inr (List.mem_cons_of_mem _ h)
theorem KvR.merge {α : Type} {R : α → V → Prop} : ∀ {m : List (List Nat × α)} {k : List (Key × V)} {l : List (List Nat × α)} {j : List (Key × V)}, KvR R m k → KvR R l j → KvR R (merA l m) (mergeK j k)
  | [], [], l, j, _, h => h
  | p :: m, q :: k, l, j, ⟨x, y, z⟩, h => by
    show KvR R (merA (putA l p.1 p.2) m) (mergeK (putK j q.1 q.2) k)
    rw [x]
    exact KvR.merge z (h.put y)
  | [], _ :: _, _, _, h, _ => h.elim
  | _ :: _, [], _, _, h, _ => h.elim
theorem nums_merge (l m : List Pr) : mergeK (numsK l) (numsK m) = numsK (merA l m) := numsR_eq (KvR.merge (numsR m) (numsR l))
/-! ### recipes alike as data are the same; texts tell recipes apart -/
theorem eqv_head {k k' : List Nat} {l l' : List PyData} (h : PyData.eqv (.tuple (.str (SX.S k) :: l)) (.tuple (.str (SX.S k') :: l')) = true) : k = k' ∧ PyData.eqvAll l l' = true := by
  have e : ((SX.S k == SX.S k') && PyData.eqvAll l l') = true := h
  rw [Bool.and_eq_true, SX.S_beq] at e
  exact ⟨beq_iff_eq.mp e.1, e.2⟩
theorem eqv_cons {x y : PyData} {l l' : List PyData} (h : PyData.eqvAll (x :: l) (y :: l') = true) : PyData.eqv x y = true ∧ PyData.eqvAll l l' = true := by
  have e : (PyData.eqv x y && PyData.eqvAll l l') = true := h
  rw [Bool.and_eq_true] at e
  exact e
theorem eqv_str {a b : List Nat} (h : PyData.eqv (.str (SX.S a)) (.str (SX.S b)) = true) : a = b := by
  have e : (SX.S a == SX.S b) = true := h
  rw [SX.S_beq] at e
  exact beq_iff_eq.mp e
theorem eqv_nms : ∀ {ns ms : List (List Nat)}, PyData.eqvAll (Th.pyL (nmsTh ns)) (Th.pyL (nmsTh ms)) = true → ns = ms
  | [], [], _ => rfl
  | [], _ :: _, h => by cases h
  | _ :: _, [], h => by cases h
  | a :: ns, b :: ms, h => by
    obtain ⟨h1, h2⟩ := eqv_cons h
    rw [eqv_str h1, eqv_nms h2]
theorem kd_inj {k k' : Kd} (h : k.word = k'.word) : k = k' := by cases k <;> cases k' <;> first | rfl | (exact absurd h (by decide))
theorem eqv_rcp : ∀ {r s : Rcp}, PyData.eqv r.th.py s.th.py = true → r = s
  | .num n, .num m, h => by
    have e : (n == m) = true := (eqv_cons (eqv_head h).2).1
    rw [beq_iff_eq.mp e]
  | .read a, .read b, h => by rw [eqv_str (eqv_cons (eqv_head h).2).1]
  | .two k a b, .two k' a' b', h => by
    obtain ⟨h1, h2⟩ := eqv_head h
    obtain ⟨h3, h4⟩ := eqv_cons h2
    rw [kd_inj h1, eqv_rcp h3, eqv_rcp (eqv_cons h4).1]
  | .pick a b c, .pick a' b' c', h => by
    obtain ⟨h3, h4⟩ := eqv_cons (eqv_head h).2
    obtain ⟨h5, h6⟩ := eqv_cons h4
    rw [eqv_rcp h3, eqv_rcp h5, eqv_rcp (eqv_cons h6).1]
  | .choose a ns, .choose a' ms, h => by
    obtain ⟨h3, h4⟩ := eqv_cons (eqv_head h).2
    have h5 : PyData.eqvAll (Th.pyL (nmsTh ns)) (Th.pyL (nmsTh ms)) = true := (eqv_cons h4).1
    rw [eqv_rcp h3, eqv_nms h5]
  | .num _, .read _, h => absurd (eqv_head h).1 (by decide)
  | .num _, .two k _ _, h => absurd (eqv_head h).1 (by cases k <;> decide)
  | .num _, .pick _ _ _, h => absurd (eqv_head h).1 (by decide)
  | .num _, .choose _ _, h => absurd (eqv_head h).1 (by decide)
  | .read _, .num _, h => absurd (eqv_head h).1 (by decide)
  | .read _, .two k _ _, h => absurd (eqv_head h).1 (by cases k <;> decide)
  | .read _, .pick _ _ _, h => absurd (eqv_head h).1 (by decide)
  | .read _, .choose _ _, h => absurd (eqv_head h).1 (by decide)
  | .two k _ _, .num _, h => absurd (eqv_head h).1 (by cases k <;> decide)
  | .two k _ _, .read _, h => absurd (eqv_head h).1 (by cases k <;> decide)
  | .two k _ _, .pick _ _ _, h => absurd (eqv_head h).1 (by cases k <;> decide)
  | .two k _ _, .choose _ _, h => absurd (eqv_head h).1 (by cases k <;> decide)
  | .pick _ _ _, .num _, h => absurd (eqv_head h).1 (by decide)
  | .pick _ _ _, .read _, h => absurd (eqv_head h).1 (by decide)
  | .pick _ _ _, .two k _ _, h => absurd (eqv_head h).1 (by cases k <;> decide)
  | .pick _ _ _, .choose _ _, h => absurd (eqv_head h).1 (by decide)
  | .choose _ _, .num _, h => absurd (eqv_head h).1 (by decide)
  | .choose _ _, .read _, h => absurd (eqv_head h).1 (by decide)
  | .choose _ _, .two k _ _, h => absurd (eqv_head h).1 (by cases k <;> decide)
  | .choose _ _, .pick _ _ _, h => absurd (eqv_head h).1 (by decide)
/-! ### working name by name: what is looked for behind what was read -/
theorem OutR.bind_err {S : Type} {r : OutR S} {f : Int → S → OutR S} {e : XErr} (h : r.bind f = .err e) : r = .err e ∨ ∃ x s, r = .ok x s ∧ f x s = .err e := by
  cases r with
  | ok x s => exact .inr ⟨x, s, rfl, h⟩
  | err y => exact .inl h
theorem bind_errI {S : Type} {r : OutR S} {f : Int → S → OutR S} {e : XErr} (h : r = .err e) : r.bind f = .err e := by rw [h]; rfl
/-- a look that puts down what it tells -/
def lkO {S : Type} (lk : S → List Nat → OutR S) (p : S × List Pr) (t : List Nat) : OutR (S × List Pr) := match lk p.1 t with
  | .ok v s => .ok v (s, setd p.2 t v)
  | .err e => .err e
theorem lkO_ok {S : Type} {lk : S → List Nat → OutR S} {s s' : S} {own : List Pr} {t : List Nat} {v : Int} (e : lk s t = .ok v s') : lkO lk (s, own) t = .ok v (s', setd own t v) := by
  unfold lkO
  rw [show lk (s, own).1 t = _ from e]
theorem lkO_err {S : Type} {lk : S → List Nat → OutR S} {s : S} {own : List Pr} {t : List Nat} {x : XErr} (e : lk s t = .err x) : lkO lk (s, own) t = .err x := by
  unfold lkO
  rw [show lk (s, own).1 t = _ from e]
theorem setd_seen {own : List Pr} {t : List Nat} {v x : Int} (e : seen own t = some x) : setd own t v = own := by unfold setd; rw [e]
theorem setd_new {own : List Pr} {t : List Nat} {v : Int} (e : seen own t = none) : setd own t v = own ++ [(t, v)] := by
  unfold setd
  rw [e]
  exact putA_new v (seen_none e)
theorem seen_app {l m : List Pr} {t : List Nat} : seen (l ++ m) t = match seen l t with
  | some v => some v
  | none => seen m t := by
  induction l with
  | nil => rfl
  | cons p l ih =>
    rw [List.cons_append, seen_cons, seen_cons]
    by_cases c : p.1 = t
    · rw [if_pos c, if_pos c]
    · rw [if_neg c, if_neg c, ih]
theorem seen_more {l m : List Pr} {t : List Nat} {v : Int} (e : seen l t = some v) : seen (l ++ m) t = some v := by rw [seen_app, e]
theorem seen_setd {own : List Pr} {t u : List Nat} {v x : Int} (e : seen own u = some x) : seen (setd own t v) u = some x := by
  cases e2 : seen own t with
  | some y => rw [setd_seen e2]; exact e
  | none => rw [setd_new e2]; exact seen_more e
theorem dnL_none {f : List Nat → Option Int} {o : List Pr} {t : List Nat} {e : XErr} (h : dnL f o t = .err e) : f t = none ∧ e = .noName t := by
  unfold dnL at h
  cases e1 : f t with
  | some v => rw [e1] at h; cases h
  | none => rw [e1] at h; cases h; exact ⟨rfl, rfl⟩
section
variable {S : Type} {lk : S → List Nat → OutR S}
/-- all that is looked for is known -/
theorem wk_have {s : S} {own : List Pr} (hK : ∀ u x, seen own u = some x → lk s u = .ok x s) : ∀ {r : Rcp} {o o' : List Pr} {v : Int}, wk (dnL (seen own)) r o = .ok v o' → wk (lkO lk) r (s, own) = .ok v (s, own) := by
  have look : ∀ {t : List Nat} {o o' : List Pr} {v : Int}, dnL (seen own) o t = .ok v o' → lkO lk (s, own) t = .ok v (s, own) := by
    intro t o o' v h
    obtain ⟨e, _⟩ := dnL_ok h
    rw [lkO_ok (hK t v e), setd_seen e]
  intro r
  induction r with
  | num n => intro o o' v h; cases h; rfl
  | read t => exact fun h => look h
  | two k a b ia ib =>
    intro o o' v h
    obtain ⟨x, o1, h1, h2⟩ := OutR.bind_ok h
    obtain ⟨y, o2, h3, h4⟩ := OutR.bind_ok h2
    cases h4
    show (wk (lkO lk) a (s, own)).bind _ = _
    rw [bind_okI (ia h1), bind_okI (ib h3)]
  | pick a b c ia ib ic =>
    intro o o' v h
    obtain ⟨x, o1, h1, h2⟩ := OutR.bind_ok h
    show (wk (lkO lk) a (s, own)).bind _ = _
    rw [bind_okI (ia h1)]
    by_cases z : x > 0
    · simp only [if_pos z] at h2 ⊢
      exact ib h2
    · simp only [if_neg z] at h2 ⊢
      exact ic h2
  | choose a ns ia =>
    intro o o' v h
    obtain ⟨x, o1, h1, h2⟩ := OutR.bind_ok h
    show (wk (lkO lk) a (s, own)).bind _ = _
    rw [bind_okI (ia h1)]
    exact look h2
/-- the first name that is not known -/
theorem wk_lack {s : S} {own : List Pr} (hK : ∀ u x, seen own u = some x → lk s u = .ok x s) : ∀ {r : Rcp} {o : List Pr} {e : XErr}, wk (dnL (seen own)) r o = .err e → ∃ t, e = .noName t ∧ seen own t = none ∧ (∀ e', lk s t = .err e' → wk (lkO lk) r (s, own) = .err e') ∧
    ∀ x s', lk s t = .ok x s' → (∀ u y, seen (setd own t x) u = some y → lk s' u = .ok y s') → wk (lkO lk) r (s, own) = wk (lkO lk) r (s', setd own t x) := by
  have look : ∀ {t : List Nat} {o : List Pr} {e : XErr}, dnL (seen own) o t = .err e → e = .noName t ∧ seen own t = none ∧ (∀ e', lk s t = .err e' → lkO lk (s, own) t = .err e') ∧
      ∀ x s', lk s t = .ok x s' → (∀ u y, seen (setd own t x) u = some y → lk s' u = .ok y s') → lkO lk (s, own) t = lkO lk (s', setd own t x) t := by
    intro t o e h
    obtain ⟨e1, rfl⟩ := dnL_none h
    refine ⟨rfl, e1, fun e' h' => lkO_err h', fun x s' h' k' => ?_⟩
    have e2 : seen (setd own t x) t = some x := by rw [setd_new e1, seen_app, e1, seen_cons, if_pos rfl]
    rw [lkO_ok h', lkO_ok (k' t x e2), setd_seen e2]
  have up : ∀ {a : Rcp} {o o1 : List Pr} {x : Int} {t : List Nat} {y : Int} {s' : S}, wk (dnL (seen own)) a o = .ok x o1 → (∀ u z, seen (setd own t y) u = some z → lk s' u = .ok z s') → wk (lkO lk) a (s', setd own t y) = .ok x (s', setd own t y) :=
    fun h k' => wk_have k' (wk_mono (fun u z e => seen_setd e) h)
  intro r
  induction r with
  | num n => intro o e h; cases h
  | read t => exact fun h => ⟨t, look h⟩
  | two k a b ia ib =>
    intro o e h
    rcases OutR.bind_err h with h1 | ⟨x, o1, h1, h2⟩
    · obtain ⟨t, e1, e2, g1, g2⟩ := ia h1
      refine ⟨t, e1, e2, fun e' h' => bind_errI (g1 e' h'), fun x s' h' k' => ?_⟩
      show (wk (lkO lk) a (s, own)).bind _ = (wk (lkO lk) a (s', setd own t x)).bind _
      rw [g2 x s' h' k']
    · rcases OutR.bind_err h2 with h3 | ⟨y, o2, h3, h4⟩
      · obtain ⟨t, e1, e2, g1, g2⟩ := ib h3
        refine ⟨t, e1, e2, fun e' h' => ?_, fun y s' h' k' => ?_⟩
        · show (wk (lkO lk) a (s, own)).bind _ = _
          rw [bind_okI (wk_have hK h1), bind_errI (g1 e' h')]
        · show (wk (lkO lk) a (s, own)).bind _ = (wk (lkO lk) a (s', setd own t y)).bind _
          rw [bind_okI (wk_have hK h1), bind_okI (up h1 k'), g2 y s' h' k']
      · cases h4
  | pick a b c ia ib ic =>
    intro o e h
    rcases OutR.bind_err h with h1 | ⟨x, o1, h1, h2⟩
    · obtain ⟨t, e1, e2, g1, g2⟩ := ia h1
      refine ⟨t, e1, e2, fun e' h' => bind_errI (g1 e' h'), fun x s' h' k' => ?_⟩
      show (wk (lkO lk) a (s, own)).bind _ = (wk (lkO lk) a (s', setd own t x)).bind _
      rw [g2 x s' h' k']
    · by_cases z : x > 0
      · simp only [if_pos z] at h2
        obtain ⟨t, e1, e2, g1, g2⟩ := ib h2
        refine ⟨t, e1, e2, fun e' h' => ?_, fun y s' h' k' => ?_⟩
        · show (wk (lkO lk) a (s, own)).bind _ = _
          rw [bind_okI (wk_have hK h1), if_pos z, g1 e' h']
        · show (wk (lkO lk) a (s, own)).bind _ = (wk (lkO lk) a (s', setd own t y)).bind _
          rw [bind_okI (wk_have hK h1), bind_okI (up h1 k'), if_pos z, if_pos z, g2 y s' h' k']
      · simp only [if_neg z] at h2
        obtain ⟨t, e1, e2, g1, g2⟩ := ic h2
        refine ⟨t, e1, e2, fun e' h' => ?_, fun y s' h' k' => ?_⟩
        · show (wk (lkO lk) a (s, own)).bind _ = _
          rw [bind_okI (wk_have hK h1), if_neg z, g1 e' h']
        · show (wk (lkO lk) a (s, own)).bind _ = (wk (lkO lk) a (s', setd own t y)).bind _
          rw [bind_okI (wk_have hK h1), bind_okI (up h1 k'), if_neg z, if_neg z, g2 y s' h' k']
  | choose a ns ia =>
    intro o e h
    rcases OutR.bind_err h with h1 | ⟨x, o1, h1, h2⟩
    · obtain ⟨t, e1, e2, g1, g2⟩ := ia h1
      refine ⟨t, e1, e2, fun e' h' => bind_errI (g1 e' h'), fun x s' h' k' => ?_⟩
      show (wk (lkO lk) a (s, own)).bind _ = (wk (lkO lk) a (s', setd own t x)).bind _
      rw [g2 x s' h' k']
    · obtain ⟨e1, e2, g1, g2⟩ := look h2
      refine ⟨nthN ns x, e1, e2, fun e' h' => ?_, fun y s' h' k' => ?_⟩
      · show (wk (lkO lk) a (s, own)).bind _ = _
        rw [bind_okI (wk_have hK h1)]
        exact g1 e' h'
      · show (wk (lkO lk) a (s, own)).bind _ = (wk (lkO lk) a (s', setd own (nthN ns x) y)).bind _
        rw [bind_okI (wk_have hK h1), bind_okI (up h1 k')]
        exact g2 y s' h' k'
end
/-- what is looked for, name by name -/
theorem wk_pre {f : List Nat → Option Int} : ∀ {r : Rcp} {o o' : List Pr} {v : Int}, (o.map (·.1)).Nodup → (∀ p ∈ o, f p.1 = some p.2) → wk (dnL f) r o = .ok v o' → ∃ ext, o' = o ++ ext ∧ ∀ i p, ext[i]? = some p → wk (dnL (seen (o ++ ext.take i))) r o = .err (.noName p.1) := by
  have look : ∀ {t : List Nat} {o o' : List Pr} {v : Int}, (o.map (·.1)).Nodup → (∀ p ∈ o, f p.1 = some p.2) → dnL f o t = .ok v o' → ∃ ext, o' = o ++ ext ∧ ∀ i p, ext[i]? = some p → dnL (seen (o ++ ext.take i)) o t = .err (.noName p.1) := by
    intro t o o' v nd ho h
    obtain ⟨e, rfl⟩ := dnL_ok h
    cases e1 : seen o t with
    | some x =>
      refine ⟨[], by rw [setd_seen e1, List.append_nil], fun i p hi => ?_⟩
      simp at hi
    | none =>
      refine ⟨[(t, v)], setd_new e1, fun i p hi => ?_⟩
      cases i with
      | zero =>
        have : (t, v) = p := by simpa using hi
        subst this
        unfold dnL
        rw [List.take_zero, List.append_nil, e1]
      | succ i => simp at hi
  -- the part ahead, done with what it told and more
  have again : ∀ {a : Rcp} {o o1 m : List Pr} {x : Int}, (o1.map (·.1)).Nodup → (∀ p ∈ o, f p.1 = some p.2) → wk (dnL f) a o = .ok x o1 → wk (dnL (seen (o1 ++ m))) a o = .ok x o1 := by
    intro a o o1 m x nd ho h
    refine (wk_agree h).2 _ fun u y e hu => ?_
    obtain ⟨p, hp, ep⟩ := List.mem_map.mp hu
    have h2 := wk_told ho h p hp
    rw [show p.1 = u from ep, e] at h2
    obtain ⟨i, hi⟩ := List.mem_iff_getElem?.mp hp
    have := seen_at nd hi
    rw [show p.1 = u from ep] at this
    rw [seen_more this, ← Option.some.inj h2]
  have both : ∀ {e1 e2 : List Pr} {i : Nat}, e1.length ≤ i → (e1 ++ e2).take i = e1 ++ e2.take (i - e1.length) := fun {e1 e2 i} h => by
    rw [List.take_append, List.take_of_length_le h]
  intro r
  induction r with
  | num n => intro o o' v nd ho h; cases h; exact ⟨[], (List.append_nil _).symm, fun i p hi => by simp at hi⟩
  | read t => exact fun nd ho h => look nd ho h
  | two k a b ia ib =>
    intro o o' v nd ho h
    obtain ⟨x, o1, h1, h2⟩ := OutR.bind_ok h
    obtain ⟨y, o2, h3, h4⟩ := OutR.bind_ok h2
    cases h4
    have nd1 := wk_nd nd h1
    have ho1 := wk_told ho h1
    obtain ⟨e1, rfl, g1⟩ := ia nd ho h1
    obtain ⟨e2, rfl, g2⟩ := ib nd1 ho1 h3
    refine ⟨e1 ++ e2, List.append_assoc .., fun i p hi => ?_⟩
    by_cases c : i < e1.length
    · rw [List.getElem?_append_left c] at hi
      show (wk _ a o).bind _ = _
      rw [List.take_append_of_le_length (Nat.le_of_lt c)]
      exact bind_errI (g1 i p hi)
    · rw [List.getElem?_append_right (by omega)] at hi
      show (wk _ a o).bind _ = _
      rw [both (by omega), ← List.append_assoc, bind_okI (again nd1 ho h1)]
      exact bind_errI (g2 _ p hi)
  | pick a b c ia ib ic =>
    intro o o' v nd ho h
    obtain ⟨x, o1, h1, h2⟩ := OutR.bind_ok h
    have nd1 := wk_nd nd h1
    have ho1 := wk_told ho h1
    obtain ⟨e1, rfl, g1⟩ := ia nd ho h1
    by_cases z : x > 0
    · simp only [if_pos z] at h2
      obtain ⟨e2, rfl, g2⟩ := ib nd1 ho1 h2
      refine ⟨e1 ++ e2, List.append_assoc .., fun i p hi => ?_⟩
      by_cases c : i < e1.length
      · rw [List.getElem?_append_left c] at hi
        show (wk _ a o).bind _ = _
        rw [List.take_append_of_le_length (Nat.le_of_lt c)]
        exact bind_errI (g1 i p hi)
      · rw [List.getElem?_append_right (by omega)] at hi
        show (wk _ a o).bind _ = _
        rw [both (by omega), ← List.append_assoc, bind_okI (again nd1 ho h1), if_pos z]
        exact g2 _ p hi
    · simp only [if_neg z] at h2
      obtain ⟨e2, rfl, g2⟩ := ic nd1 ho1 h2
      refine ⟨e1 ++ e2, List.append_assoc .., fun i p hi => ?_⟩
      by_cases c : i < e1.length
      · rw [List.getElem?_append_left c] at hi
        show (wk _ a o).bind _ = _
        rw [List.take_append_of_le_length (Nat.le_of_lt c)]
        exact bind_errI (g1 i p hi)
      · rw [List.getElem?_append_right (by omega)] at hi
        show (wk _ a o).bind _ = _
        rw [both (by omega), ← List.append_assoc, bind_okI (again nd1 ho h1), if_neg z]
        exact g2 _ p hi
  | choose a ns ia =>
    intro o o' v nd ho h
    obtain ⟨x, o1, h1, h2⟩ := OutR.bind_ok h
    have nd1 := wk_nd nd h1
    have ho1 := wk_told ho h1
    obtain ⟨e1, rfl, g1⟩ := ia nd ho h1
    obtain ⟨e2, rfl, g2⟩ := look nd1 ho1 h2
    refine ⟨e1 ++ e2, List.append_assoc .., fun i p hi => ?_⟩
    by_cases c : i < e1.length
    · rw [List.getElem?_append_left c] at hi
      show (wk _ a o).bind _ = _
      rw [List.take_append_of_le_length (Nat.le_of_lt c)]
      exact bind_errI (g1 i p hi)
    · rw [List.getElem?_append_right (by omega)] at hi
      show (wk _ a o).bind _ = _
      rw [both (by omega), ← List.append_assoc, bind_okI (again nd1 ho h1)]
      exact g2 _ p hi
/-- a record that a recipe makes -/
structure TrueRec (r : Rcp) (rd : List Pr) (w : Int) : Prop where
  nd : (rd.map (·.1)).Nodup
  run : wk (dnL (seen rd)) r [] = .ok w rd
theorem TrueRec.lacks {r : Rcp} {rd : List Pr} {w : Int} (T : TrueRec r rd w) {i : Nat} {p : Pr} (h : rd[i]? = some p) : wk (dnL (seen (rd.take i))) r [] = .err (.noName p.1) := by
  obtain ⟨ext, e, g⟩ := wk_pre (o := []) List.nodup_nil (fun _ h => nomatch h) T.run
  rw [List.nil_append] at e
  subst e
  exact g i p h
theorem Rds.true {h : House} {t : List Nat} {own : List Pr} (a : Rds h t own) {r : Rcp} (e : rcpOf h.recs t = some r) : ∃ v, Val h t v ∧ TrueRec r own v := by
  obtain ⟨a1, r2, n, v, e2, a2⟩ := a
  obtain rfl : r2 = r := Option.some.inj (e2.symm.trans e)
  have nd := wk_nd (o := []) List.nodup_nil a2
  refine ⟨v, .work a1 e2 a2, nd, (wk_agree a2).2 _ fun u y e hu => ?_⟩
  obtain ⟨p, hp, ep⟩ := List.mem_map.mp hu
  have h2 := wk_told (f := Mad.val h n) (fun p (h : p ∈ ([] : List Pr)) => nomatch h) a2 p hp
  rw [show p.1 = u from ep, e] at h2
  obtain ⟨i, hi⟩ := List.mem_iff_getElem?.mp hp
  have := seen_at nd hi
  rw [show p.1 = u from ep] at this
  rw [this, ← Option.some.inj h2]
/-- a true record whose reads all are as they are now is the record of now -/
theorem TrueRec.now {h : House} {t : List Nat} {r : Rcp} {rd : List Pr} {w : Int} (T : TrueRec r rd w) (a1 : seen h.given t = none) (e : rcpOf h.recs t = some r) (hr : ∀ p ∈ rd, Val h p.1 p.2) : Val h t w ∧ Rds h t rd := by
  have ex : ∃ N, ∀ p ∈ rd, val h N p.1 = some p.2 := by
    have : ∀ l : List Pr, (∀ p ∈ l, Val h p.1 p.2) → ∃ N, ∀ p ∈ l, val h N p.1 = some p.2 := by
      intro l
      induction l with
      | nil => exact fun _ => ⟨0, fun _ h => nomatch h⟩
      | cons p l ih =>
        intro hl
        obtain ⟨n, e⟩ := hl p List.mem_cons_self
        obtain ⟨N, hN⟩ := ih fun q hq => hl q (List.mem_cons_of_mem _ hq)
        refine ⟨max n N, fun q hq => ?_⟩
        rcases List.mem_cons.mp hq with rfl | hq
        · exact val_le (Nat.le_max_left _ _) e
        · exact val_le (Nat.le_max_right _ _) (hN q hq)
    exact this rd hr
  obtain ⟨N, hN⟩ := ex
  have key := (wk_agree T.run).2 (val h N) fun u x e _ => hN _ (seen_mem e)
  exact ⟨.work a1 e key, ⟨a1, r, N, w, e, key⟩⟩
/-! #### going over the reads of a record, then working -/
section
variable {S : Type} {lk : S → List Nat → OutR S} {Kn : S → List Nat → Int → Prop}
/-- what a look tells is known from then on, and looking for it again changes nothing -/
structure Rem (lk : S → List Nat → OutR S) (Inv : S → Prop) (Kn : S → List Nat → Int → Prop) : Prop where
  same : ∀ s u x, Inv s → Kn s u x → lk s u = .ok x s
  got : ∀ s u x s', Inv s → Nm u → lk s u = .ok x s' → Inv s' ∧ Kn s' u x ∧ ∀ t y, Kn s t y → Kn s' t y
def alR (lk : S → List Nat → OutR S) : List Pr → S → XErr ⊕ (Bool × S)
  | [], s => .inr (true, s)
  | p :: ps, s => match lk s p.1 with
    | .err e => .inl e
    | .ok v s' => if v = p.2 then alR lk ps s' else .inr (false, s')
theorem seen_pre {rd : List Pr} (nd : (rd.map (·.1)).Nodup) {i : Nat} {p : Pr} (h : rd[i]? = some p) : seen (rd.take i) p.1 = none := by
  refine seen_not fun z => ?_
  obtain ⟨q, hq, e⟩ := List.mem_map.mp z
  obtain ⟨j, hj⟩ := List.mem_iff_getElem?.mp hq
  have jl : j < (rd.take i).length := (List.getElem?_eq_some_iff.mp hj).1
  rw [List.length_take] at jl
  rw [List.getElem?_take_of_lt (by omega)] at hj
  obtain ⟨hi, ei⟩ := List.getElem?_eq_some_iff.mp h
  obtain ⟨hj', ej⟩ := List.getElem?_eq_some_iff.mp hj
  have h1 : (rd.map (·.1))[i]'(by rw [List.length_map]; exact hi) = (rd.map (·.1))[j]'(by rw [List.length_map]; exact hj') := by
    rw [List.getElem_map, List.getElem_map, ei, ej]
    exact e.symm
  have := (List.getElem_inj nd).mp h1
  omega
variable {Inv : S → Prop}
/-- begun anew where the first names are known -/
theorem wk_restart (R : Rem lk Inv Kn) {r : Rcp} {rd : List Pr} {w : Int} (T : TrueRec r rd w) {s : S} (hi : Inv s) : ∀ i, i ≤ rd.length → (∀ p ∈ rd.take i, Kn s p.1 p.2) → wk (lkO lk) r (s, []) = wk (lkO lk) r (s, rd.take i)
  | 0, _, _ => by rw [List.take_zero]
  | i + 1, hl, hk => by
    have hlt : i < rd.length := by omega
    have hp := List.getElem?_eq_getElem hlt
    have e1 : rd.take (i + 1) = rd.take i ++ [rd[i]] := by rw [List.take_add_one, hp]; rfl
    have hk' : ∀ p ∈ rd.take i, Kn s p.1 p.2 := fun p h => hk p (by rw [e1]; exact List.mem_append_left _ h)
    rw [wk_restart R T hi i (by omega) hk']
    obtain ⟨t, et, en, _, g⟩ := wk_lack (lk := lk) (s := s) (own := rd.take i) (fun u x e => R.same s u x hi (hk' _ (seen_mem e))) (T.lacks hp)
    cases et
    have hs : setd (rd.take i) rd[i].1 rd[i].2 = rd.take (i + 1) := by rw [setd_new en, e1]
    have := g rd[i].2 s (R.same s _ _ hi (hk _ (by rw [e1]; exact List.mem_append_right _ (List.mem_singleton.mpr rfl)))) (fun u y e => by
      rw [hs] at e
      exact R.same s u y hi (hk _ (seen_mem e)))
    rw [this, hs]
/-- the reads of a record gone over: as working would -/
theorem al_run (R : Rem lk Inv Kn) {r : Rcp} {rd : List Pr} {w : Int} (T : TrueRec r rd w) (hn : ∀ p ∈ rd, Nm p.1) : ∀ (k i : Nat) (s : S), rd.length = i + k → Inv s → (∀ p ∈ rd.take i, Kn s p.1 p.2) → match alR lk (rd.drop i) s with
    | .inl e => wk (lkO lk) r (s, rd.take i) = .err e
    | .inr (true, s') => wk (lkO lk) r (s, rd.take i) = .ok w (s', rd) ∧ Inv s' ∧ (∀ p ∈ rd, Kn s' p.1 p.2) ∧ ∀ t y, Kn s t y → Kn s' t y
    | .inr (false, s') => wk (lkO lk) r (s, rd.take i) = wk (lkO lk) r (s', []) ∧ Inv s' ∧ (∃ p ∈ rd, ∃ v, v ≠ p.2 ∧ Kn s' p.1 v) ∧ ∀ t y, Kn s t y → Kn s' t y
  | 0, i, s, hl, hi, hk => by
    rw [List.drop_eq_nil_of_le (by omega)]
    show wk (lkO lk) r (s, rd.take i) = .ok w (s, rd) ∧ _
    rw [List.take_of_length_le (by omega)] at hk ⊢
    exact ⟨wk_have (fun u x e => R.same s u x hi (hk _ (seen_mem e))) T.run, hi, hk, fun _ _ h => h⟩
  | k + 1, i, s, hl, hi, hk => by
    have hlt : i < rd.length := by omega
    have hp := List.getElem?_eq_getElem hlt
    have e1 : rd.take (i + 1) = rd.take i ++ [rd[i]] := by rw [List.take_add_one, hp]; rfl
    have hm : rd[i] ∈ rd := List.getElem_mem hlt
    rw [List.drop_eq_getElem_cons hlt]
    obtain ⟨t, et, en, g0, g⟩ := wk_lack (lk := lk) (s := s) (own := rd.take i) (fun u x e => R.same s u x hi (hk _ (seen_mem e))) (T.lacks hp)
    cases et
    unfold alR
    cases e : lk s rd[i].1 with
    | err x => exact g0 x e
    | ok v s' =>
      obtain ⟨hi', k1, k2⟩ := R.got s _ v s' hi (hn _ hm) e
      have kset : ∀ u y, seen (setd (rd.take i) rd[i].1 v) u = some y → lk s' u = .ok y s' := fun u y e => by
        rw [setd_new en] at e
        rcases List.mem_append.mp (seen_mem e) with h | h
        · exact R.same s' u y hi' (k2 _ _ (hk _ h))
        · cases List.mem_singleton.mp h
          exact R.same s' _ _ hi' k1
      have step := g v s' e kset
      by_cases c : v = rd[i].2
      · simp only [if_pos c]
        have hk' : ∀ p ∈ rd.take (i + 1), Kn s' p.1 p.2 := fun p h => by
          rw [e1] at h
          rcases List.mem_append.mp h with h | h
          · exact k2 _ _ (hk _ h)
          · rw [List.mem_singleton.mp h, ← c]; exact k1
        have ih := al_run R T hn k (i + 1) s' (by omega) hi' hk'
        have es : setd (rd.take i) rd[i].1 v = rd.take (i + 1) := by rw [setd_new en, e1, c]
        rw [step, es]
        cases e3 : alR lk (rd.drop (i + 1)) s' with
        | inl x => rw [e3] at ih; exact ih
        | inr q =>
          obtain ⟨b, s2⟩ := q
          rw [e3] at ih
          cases b with
          | true => exact ⟨ih.1, ih.2.1, ih.2.2.1, fun t y h => ih.2.2.2 t y (k2 t y h)⟩
          | false => exact ⟨ih.1, ih.2.1, ih.2.2.1, fun t y h => ih.2.2.2 t y (k2 t y h)⟩
      · simp only [if_neg c]
        refine ⟨?_, hi', ⟨rd[i], hm, v, c, k1⟩, k2⟩
        rw [step, wk_restart R T hi' i (by omega) fun p h => k2 _ _ (hk _ h)]
        obtain ⟨t, et, en2, _, g2⟩ := wk_lack (lk := lk) (s := s') (own := rd.take i) (fun u x e => R.same s' u x hi' (k2 _ _ (hk _ (seen_mem e)))) (T.lacks hp)
        cases et
        exact (g2 v s' (R.same s' _ _ hi' k1) kset).symm
end
/-! ### builds from records: plain facts -/
abbrev Row := List Pr × Rcp × Int
abbrev Old := List (List Nat × Row)
structure AgS where
  known : List Pr
  book : Old
  made : List (List Nat)
  kept : List (List Nat)
  going : List (List Nat)
def AgS.rk (s : AgS) : RkS := ⟨s.known, s.book.map fun p => (p.1, p.2.1), s.going⟩
def AgS.keep (s : AgS) (t : List Nat) (o : Row) : AgS := { known := putA s.known t o.2.2, book := putA s.book t o, made := s.made, kept := s.kept ++ [t], going := s.going.dropLast }
def AgS.make (s : AgS) (t : List Nat) (o : Row) : AgS := { known := putA s.known t o.2.2, book := putA s.book t o, made := s.made ++ [t], kept := s.kept, going := s.going.dropLast }
def sameR (a b : Rcp) : Bool := PyData.eqv a.th.py b.th.py
def alike (lk : AgS → List Nat → OutR AgS) (old : Old) (t : List Nat) (r : Rcp) (s : AgS) : XErr ⊕ (Bool × AgS) := match getA old t with
  | none => .inr (false, s)
  | some o => if sameR o.2.1 r = true then alR lk o.1 s else .inr (false, s)
def settled (lk : AgS → List Nat → OutR AgS) (old : Old) (t : List Nat) (r : Rcp) (x : XErr ⊕ (Bool × AgS)) : OutR AgS := match x with
  | .inl e => .err e
  | .inr (true, s) => match getA old t with
    | none => .err (.ring [])
    | some o => .ok o.2.2 (s.keep t o)
  | .inr (false, s) => match wk (lkO lk) r (s, []) with
    | .err e => .err e
    | .ok v p => .ok v (p.1.make t (p.2, r, v))
def agR (h : House) (old : Old) : Nat → AgS → List Nat → OutR AgS
  | 0, _, _ => .err (.ring [])
  | n + 1, s, t => match seen s.known t with
    | some v => .ok v s
    | none => match seen h.given t with
      | some v => .ok v { s with known := putA s.known t v }
      | none => match rcpOf h.recs t with
        | none => .err (.noName t)
        | some r => if t ∈ s.going then .err (.ring (s.going.drop (s.going.idxOf t) ++ [t])) else
          settled (agR h old n) old t r (alike (agR h old n) old t r { s with going := s.going ++ [t] })
/-- of the recipes that the house has the records are true -/
def OldOk (h : House) (old : Old) : Prop := ∀ t o r, getA old t = some o → rcpOf h.recs t = some r → sameR o.2.1 r = true → TrueRec r o.1 o.2.2 ∧ ∀ p ∈ o.1, Nm p.1
/-- there is a record by the same recipe whose reads all are as they are now -/
def GoodRec (h : House) (old : Old) (t : List Nat) : Prop := ∃ o r, getA old t = some o ∧ rcpOf h.recs t = some r ∧ sameR o.2.1 r = true ∧ ∀ p ∈ o.1, Val h p.1 p.2
open Classical in
noncomputable def isGood (h : House) (old : Old) (t : List Nat) : Bool := decide (GoodRec h old t)
theorem isGood_t {h : House} {old : Old} {t : List Nat} (g : GoodRec h old t) : isGood h old t = true := by
  classical
  unfold isGood
  exact decide_eq_true g
theorem isGood_f {h : House} {old : Old} {t : List Nat} (g : ¬ GoodRec h old t) : isGood h old t = false := by
  classical
  unfold isGood
  exact decide_eq_false g
structure AgOk (h : House) (beta : Nat → Nat) (old : Old) (s : AgS) : Prop where
  rk : RkOk h beta s.rk
  coh : Coh h s.rk
  rows : ∀ p ∈ s.book, rcpOf h.recs p.1 = some p.2.2.1 ∧ seen s.known p.1 = some p.2.2.2
  kept : s.kept = (s.book.map (·.1)).filter (isGood h old)
  made : s.made = (s.book.map (·.1)).filter fun t => !isGood h old t
theorem putA_map {α β : Type} (f : α → β) (l : List (List Nat × α)) (t : List Nat) (a : α) : (putA l t a).map (fun p => (p.1, f p.2)) = putA (l.map fun p => (p.1, f p.2)) t (f a) := by
  unfold putA
  have e : ((l.map fun p => (p.1, f p.2)).any fun p => decide (p.1 = t)) = l.any fun p => decide (p.1 = t) := by rw [List.any_map]; rfl
  rw [e]
  split
  · rw [List.map_map, List.map_map]
    refine List.map_congr_left fun p _ => ?_
    show ((fun p : List Nat × α => (p.1, f p.2)) (if p.1 = t then (p.1, a) else p)) = if p.1 = t then (p.1, f a) else (p.1, f p.2)
    split <;> rfl
  · rw [List.map_append]; rfl
theorem rk_put (s : AgS) (t : List Nat) (o : Row) : (putA s.book t o).map (fun p => (p.1, p.2.1)) = putA s.rk.read t o.1 := putA_map (fun x : Row => x.1) s.book t o
theorem seen_putA {l : List Pr} {t u : List Nat} {v : Int} : seen (putA l t v) u = if u = t then some v else seen l u := by
  by_cases hm : t ∈ l.map (·.1)
  · unfold putA
    rw [if_pos (by obtain ⟨p, hp, e⟩ := List.mem_map.mp hm; exact List.any_eq_true.mpr ⟨p, hp, decide_eq_true e⟩)]
    have key : ∀ l : List Pr, (t ∈ l.map (·.1) ∨ u ≠ t) → seen (l.map fun p => if p.1 = t then (p.1, v) else p) u = if u = t then some v else seen l u := by
      intro l
      induction l with
      | nil => intro h; rcases h with h | h; · exact nomatch h
               · rw [if_neg h]; rfl
      | cons p l ih =>
        intro h
        rw [List.map_cons, seen_cons, seen_cons]
        by_cases c : p.1 = t
        · rw [if_pos c]
          by_cases d : u = t
          · rw [if_pos d, if_pos (c.trans d.symm)]
          · rw [if_neg d, if_neg (fun z => d (z.symm.trans c)), if_neg (fun z => d (z.symm.trans c)), ih (.inr d), if_neg d]
        · rw [if_neg c]
          by_cases d : p.1 = u
          · rw [if_pos d, if_pos d, if_neg fun z => c (d.trans z)]
          · rw [if_neg d, if_neg d]
            exact ih (h.imp (fun h => (List.mem_cons.mp h).resolve_left fun z => c z.symm) id)
    by_cases d : u = t
    · exact key l (.inl ‹_›)
    · exact key l (.inr d)
  · rw [putA_new v hm, seen_app]
    by_cases d : u = t
    · rw [if_pos d, d, seen_not hm, seen_cons, if_pos rfl]
    · rw [if_neg d]
      cases e : seen l u with
      | some x => rfl
      | none => rw [seen_cons, if_neg fun z => d z.symm]; rfl
theorem lkO_is (lk : RkS → List Nat → OutR RkS) : lkO lk = lkOwn lk := by
  funext p t
  unfold lkO lkOwn
  cases lk p.1 t <;> rfl
/-- two lookers that tell alike -/
theorem wk_sim {S1 S2 : Type} {l1 : S1 → List Nat → OutR S1} {l2 : S2 → List Nat → OutR S2} {R : S1 → S2 → Prop} (hl : ∀ a b t, R a b → Nm t → match l2 b t with
    | .err e => l1 a t = .err e
    | .ok v b' => ∃ a', l1 a t = .ok v a' ∧ R a' b') : ∀ {r : Rcp} {a : S1} {b : S2} {o : List Pr}, r.Wn → R a b → match wk (lkO l2) r (b, o) with
    | .err e => wk (lkO l1) r (a, o) = .err e
    | .ok v p => ∃ a', wk (lkO l1) r (a, o) = .ok v (a', p.2) ∧ R a' p.1 := by
  have look : ∀ {t : List Nat} {a : S1} {b : S2} {o : List Pr}, Nm t → R a b → match lkO l2 (b, o) t with
      | .err e => lkO l1 (a, o) t = .err e
      | .ok v p => ∃ a', lkO l1 (a, o) t = .ok v (a', p.2) ∧ R a' p.1 := by
    intro t a b o ht hr
    have := hl a b t hr ht
    cases e : l2 b t with
    | err x =>
      rw [e] at this
      rw [lkO_err e]
      exact lkO_err this
    | ok v b' =>
      rw [e] at this
      obtain ⟨a', e1, r1⟩ := this
      rw [lkO_ok e]
      exact ⟨a', lkO_ok e1, r1⟩
  intro r
  induction r with
  | num n => intro a b o _ hr; exact ⟨a, rfl, hr⟩
  | read t => exact fun hw hr => look hw hr
  | two k x y ix iy =>
    intro a b o hw hr
    have h1 := ix (o := o) hw.1 hr
    show match (wk (lkO l2) x (b, o)).bind _ with | .err e => (wk (lkO l1) x (a, o)).bind _ = .err e | .ok v p => ∃ a', (wk (lkO l1) x (a, o)).bind _ = .ok v (a', p.2) ∧ R a' p.1
    cases e : wk (lkO l2) x (b, o) with
    | err z => rw [e] at h1; exact bind_errI h1
    | ok v p =>
      rw [e] at h1
      obtain ⟨a1, e1, r1⟩ := h1
      have h2 := iy (o := p.2) hw.2 r1
      rw [show (OutR.ok v p).bind _ = _ from rfl, bind_okI e1]
      show match (wk (lkO l2) y (p.1, p.2)).bind _ with | .err e => (wk (lkO l1) y (a1, p.2)).bind _ = .err e | .ok v p' => ∃ a', (wk (lkO l1) y (a1, p.2)).bind _ = .ok v (a', p'.2) ∧ R a' p'.1
      cases e2 : wk (lkO l2) y (p.1, p.2) with
      | err z => rw [e2] at h2; exact bind_errI h2
      | ok w q =>
        rw [e2] at h2
        obtain ⟨a2, e3, r2⟩ := h2
        exact ⟨a2, bind_okI e3, r2⟩
  | pick x y z ix iy iz =>
    intro a b o hw hr
    have h1 := ix (o := o) hw.1 hr
    show match (wk (lkO l2) x (b, o)).bind _ with | .err e => (wk (lkO l1) x (a, o)).bind _ = .err e | .ok v p => ∃ a', (wk (lkO l1) x (a, o)).bind _ = .ok v (a', p.2) ∧ R a' p.1
    cases e : wk (lkO l2) x (b, o) with
    | err z => rw [e] at h1; exact bind_errI h1
    | ok v p =>
      rw [e] at h1
      obtain ⟨a1, e1, r1⟩ := h1
      rw [bind_okI e1]
      refine (show match (if v > 0 then wk (lkO l2) y p else wk (lkO l2) z p) with | .err e => (if v > 0 then wk (lkO l1) y (a1, p.2) else wk (lkO l1) z (a1, p.2)) = .err e | .ok w q => ∃ a', (if v > 0 then wk (lkO l1) y (a1, p.2) else wk (lkO l1) z (a1, p.2)) = .ok w (a', q.2) ∧ R a' q.1 from ?_)
      by_cases c : v > 0
      · simp only [if_pos c]
        exact iy (o := p.2) hw.2.1 r1
      · simp only [if_neg c]
        exact iz (o := p.2) hw.2.2 r1
  | choose x ns ix =>
    intro a b o hw hr
    have h1 := ix (o := o) hw.1 hr
    show match (wk (lkO l2) x (b, o)).bind _ with | .err e => (wk (lkO l1) x (a, o)).bind _ = .err e | .ok v p => ∃ a', (wk (lkO l1) x (a, o)).bind _ = .ok v (a', p.2) ∧ R a' p.1
    cases e : wk (lkO l2) x (b, o) with
    | err z => rw [e] at h1; exact bind_errI h1
    | ok v p =>
      rw [e] at h1
      obtain ⟨a1, e1, r1⟩ := h1
      rw [show (OutR.ok v p).bind _ = _ from rfl, bind_okI e1]
      obtain ⟨i, _, hi⟩ := nth_mem hw.2.1 v
      exact look (o := p.2) (hw.2.2.2 _ (List.mem_of_getElem? hi)) r1
/-! #### a build from records tells what a fresh build tells -/
theorem AgOk.empty (h : House) (beta : Nat → Nat) (old : Old) : AgOk h beta old ⟨[], [], [], [], []⟩ := ⟨emptyOk h beta, Coh.empty h, (fun _ h => nomatch h), rfl, rfl⟩
theorem AgOk.kn {h : House} {beta : Nat → Nat} {old : Old} {s : AgS} (o : AgOk h beta old s) {u : List Nat} {x : Int} (e : seen s.known u = some x) : Val h u x := o.coh.kn _ (seen_mem e)
/-- what is known stays known -/
theorem kn_keep {h : House} {s s' : RkS} (c : Coh h s) (c' : Coh h s') (mono : ∀ u ∈ s.known.map (·.1), u ∈ s'.known.map (·.1)) {u : List Nat} {x : Int} (e : seen s.known u = some x) : seen s'.known u = some x := by
  have hm := mono u (seen_key e)
  cases e2 : seen s'.known u with
  | none => exact absurd hm (seen_none e2)
  | some y =>
    have h1 : Val h u x := c.kn _ (seen_mem e)
    have h2 : Val h u y := c'.kn _ (seen_mem e2)
    rw [h1.det h2]
theorem AgOk.put {h : House} {beta : Nat → Nat} {old : Old} {s : AgS} {A : List (List Nat)} {t : List Nat} {o : Row} {dm : Nat} (HH : HouseN dm h beta) (k : AgOk h beta old s) (ha : s.going = A ++ [t]) (e1 : seen h.given t = none) (e2 : rcpOf h.recs t = some o.2.1) (hv : Val h t o.2.2) (hr : Rds h t o.1) (hn : ∀ p ∈ o.1, Nm p.1) :
    RkOk h beta ⟨putA s.known t o.2.2, putA s.rk.read t o.1, s.going.dropLast⟩ ∧ Coh h ⟨putA s.known t o.2.2, putA s.rk.read t o.1, s.going.dropLast⟩ ∧ (putA s.book t o).map (·.1) = s.book.map (·.1) ++ [t] ∧ (∀ p ∈ putA s.book t o, rcpOf h.recs p.1 = some p.2.2.1 ∧ seen (putA s.known t o.2.2) p.1 = some p.2.2.2) := by
  have nd := k.rk.nd
  have hrk : s.rk.asked = A ++ [t] := ha
  rw [hrk] at nd
  have ct : ¬ t ∈ s.rk.read.map (·.1) := fun z => (List.nodup_append.mp nd).2.2 t (List.mem_append_right _ (List.mem_singleton.mpr rfl)) t z rfl
  have eb : s.rk.read.map (·.1) = s.book.map (·.1) := by
    show (s.book.map fun p => (p.1, p.2.1)).map (·.1) = _
    rw [List.map_map]
    rfl
  have kn : ∀ {u x}, seen s.known u = some x → seen (putA s.known t o.2.2) u = some x := fun {u x} e => by
    rw [seen_putA]
    by_cases c : u = t
    · rw [if_pos c, (show Val h u x from k.kn e).det (by rw [c]; exact hv)]
    · rw [if_neg c, e]
  have hmem := rcpOf_mem e2
  refine ⟨⟨?_, fun u hu => ?_, fun p hp => ?_, fun p hp q hq => ?_, fun u hu => ?_, putA_nd k.rk.kd, fun u hu => ?_⟩, ⟨fun p hp => ?_, fun p hp => ?_, fun u hu => ?_⟩, ?_, fun p hp => ?_⟩
  · show (s.going.dropLast ++ (putA s.rk.read t o.1).map (·.1)).Nodup
    rw [ha, List.dropLast_concat, putA_keys, if_neg ct, ← List.append_assoc]
    have : ((A ++ s.rk.read.map (·.1)) ++ [t]).Perm ((A ++ [t]) ++ s.rk.read.map (·.1)) := by
      rw [List.append_assoc, List.append_assoc]
      exact List.Perm.append_left _ List.perm_append_comm
    exact this.nodup_iff.mpr nd
  · have hu : u ∈ s.going.dropLast ++ (putA s.rk.read t o.1).map (·.1) := hu
    rw [ha, List.dropLast_concat, putA_keys, if_neg ct] at hu
    have sub := k.rk.sub
    rw [hrk] at sub
    rcases List.mem_append.mp hu with hu | hu
    · exact sub u (List.mem_append_left _ (List.mem_append_left _ hu))
    · rcases List.mem_append.mp hu with hu | hu
      · exact sub u (List.mem_append_right _ hu)
      · exact sub u (List.mem_append_left _ (List.mem_append_right _ hu))
  · rcases mem_putA hp with rfl | hp
    · exact ⟨(HH.rcp _ hmem).1, hv⟩
    · exact k.rk.val p hp
  · rcases mem_putA hp with rfl | hp
    · exact hn q hq
    · exact k.rk.rds p hp q hq
  · rcases putA_mem.mp hu with hu | hu
    · exact putA_mem.mpr (.inl (k.rk.kn u hu))
    · exact putA_mem.mpr (.inr hu)
  · rcases putA_mem.mp hu with hu | rfl
    · exact k.rk.ks u hu
    · exact List.mem_append_right _ (List.mem_map.mpr ⟨_, hmem, rfl⟩)
  · rcases mem_putA hp with rfl | hp
    · exact hv
    · exact k.coh.kn p hp
  · rcases mem_putA hp with rfl | hp
    · exact hr
    · exact k.coh.rd p hp
  · rcases putA_mem.mp hu with hu | rfl
    · exact (k.coh.kr u hu).imp id fun h => putA_mem.mpr (.inl h)
    · exact .inr (putA_mem.mpr (.inr rfl))
  · rw [putA_keys, if_neg (by rw [← eb]; exact ct)]
  · rcases mem_putA hp with rfl | hp
    · exact ⟨e2, by rw [seen_putA, if_pos rfl]⟩
    · exact ⟨(k.rows p hp).1, kn (k.rows p hp).2⟩
theorem AgOk.doneK {h : House} {beta : Nat → Nat} {old : Old} {s : AgS} {A : List (List Nat)} {t : List Nat} {o : Row} {dm : Nat} (HH : HouseN dm h beta) (k : AgOk h beta old s) (ha : s.going = A ++ [t]) (e1 : seen h.given t = none) (e2 : rcpOf h.recs t = some o.2.1) (hv : Val h t o.2.2) (hr : Rds h t o.1) (hn : ∀ p ∈ o.1, Nm p.1) (g : GoodRec h old t) : AgOk h beta old (s.keep t o) := by
  obtain ⟨a, b, c, d⟩ := k.put HH ha e1 e2 hv hr hn
  have gb := isGood_t g
  refine ⟨?_, ?_, d, ?_, ?_⟩
  · show RkOk h beta ⟨putA s.known t o.2.2, (putA s.book t o).map _, s.going.dropLast⟩
    rw [rk_put]; exact a
  · show Coh h ⟨putA s.known t o.2.2, (putA s.book t o).map _, s.going.dropLast⟩
    rw [rk_put]; exact b
  · show s.kept ++ [t] = ((putA s.book t o).map (·.1)).filter _
    rw [c, List.filter_append, k.kept, List.filter_cons_of_pos gb]; rfl
  · show s.made = ((putA s.book t o).map (·.1)).filter _
    rw [c, List.filter_append, k.made, List.filter_cons_of_neg (by rw [gb]; decide)]; exact (List.append_nil _).symm
theorem AgOk.doneM {h : House} {beta : Nat → Nat} {old : Old} {s : AgS} {A : List (List Nat)} {t : List Nat} {o : Row} {dm : Nat} (HH : HouseN dm h beta) (k : AgOk h beta old s) (ha : s.going = A ++ [t]) (e1 : seen h.given t = none) (e2 : rcpOf h.recs t = some o.2.1) (hv : Val h t o.2.2) (hr : Rds h t o.1) (hn : ∀ p ∈ o.1, Nm p.1) (g : ¬ GoodRec h old t) : AgOk h beta old (s.make t o) := by
  obtain ⟨a, b, c, d⟩ := k.put HH ha e1 e2 hv hr hn
  have gb := isGood_f g
  refine ⟨?_, ?_, d, ?_, ?_⟩
  · show RkOk h beta ⟨putA s.known t o.2.2, (putA s.book t o).map _, s.going.dropLast⟩
    rw [rk_put]; exact a
  · show Coh h ⟨putA s.known t o.2.2, (putA s.book t o).map _, s.going.dropLast⟩
    rw [rk_put]; exact b
  · show s.kept = ((putA s.book t o).map (·.1)).filter _
    rw [c, List.filter_append, k.kept, List.filter_cons_of_neg (by rw [gb]; decide)]; exact (List.append_nil _).symm
  · show s.made ++ [t] = ((putA s.book t o).map (·.1)).filter _
    rw [c, List.filter_append, k.made, List.filter_cons_of_pos (by rw [gb]; decide)]; rfl
theorem Rem.of_sim {h : House} {beta : Nat → Nat} {old : Old} {dm n : Nat} (HH : HouseN dm h beta) {A : List (List Nat)} (hA : h.recs.length + 1 ≤ A.length + n)
    (ih : ∀ s t, AgOk h beta old s → s.going = A → Nm t → match lkR h n s.rk t with
      | .err e => agR h old n s t = .err e
      | .ok v k => ∃ s', agR h old n s t = .ok v s' ∧ s'.rk = k ∧ AgOk h beta old s') :
    Rem (agR h old n) (fun s => AgOk h beta old s ∧ s.going = A) (fun s u x => seen s.known u = some x) := by
  refine ⟨fun s u x ⟨o, ha⟩ e => ?_, fun s u x s' ⟨o, ha⟩ hu e => ?_⟩
  · cases n with
    | zero =>
      have := o.rk.len
      rw [show s.rk.asked = s.going from rfl, ha] at this
      omega
    | succ n =>
      unfold agR
      rw [e]
  · have := ih s u o ha hu
    cases e1 : lkR h n s.rk u with
    | err z => rw [e1] at this; rw [show agR h old n s u = _ from this] at e; cases e
    | ok v k =>
      rw [e1] at this
      obtain ⟨s2, e2, rfl, o2⟩ := this
      rw [e] at e2
      cases e2
      have st := lkR_step HH n s.rk u x s'.rk o.rk hu e1
      refine ⟨⟨o2, st.asked.trans ha⟩, ?_, fun t y hk => kn_keep o.coh o2.coh st.mono hk⟩
      cases e3 : seen s'.known u with
      | none => exact absurd st.got (seen_none e3)
      | some y =>
        have h1 : Val h u y := o2.kn e3
        rw [h1.det st.worth]
theorem agR_sim {dm : Nat} {h : House} {beta : Nat → Nat} {old : Old} (HH : HouseN dm h beta) (hO : OldOk h old) : ∀ (n : Nat) (s : AgS) (t : List Nat), AgOk h beta old s → Nm t → h.recs.length + 1 ≤ s.going.length + n → match lkR h n s.rk t with
    | .err e => agR h old n s t = .err e
    | .ok v k => ∃ s', agR h old n s t = .ok v s' ∧ s'.rk = k ∧ AgOk h beta old s'
  | 0, s, t, o, _, hn => by
    have := o.rk.len
    have e : s.rk.asked = s.going := rfl
    rw [e] at this
    omega
  | n + 1, s, t, o, ht, hn => by
    unfold lkR agR
    rw [show s.rk.known = s.known from rfl]
    cases e1 : seen s.known t with
    | some v => exact ⟨s, rfl, rfl, o⟩
    | none =>
      cases e2 : seen h.given t with
      | some v =>
        have hx : Val h t v := .given e2
        have st := lkR_step HH (n + 1) s.rk t v { s.rk with known := putA s.known t v } o.rk ht (by unfold lkR; rw [show s.rk.known = s.known from rfl, e1, e2])
        have cc := (lkR_sound (h := h) (n + 1) s.rk t v { s.rk with known := putA s.known t v } o.coh (by unfold lkR; rw [show s.rk.known = s.known from rfl, e1, e2])).2
        exact ⟨_, rfl, rfl, st.ok, cc, fun p hp => ⟨(o.rows p hp).1, kn_keep o.coh cc st.mono (o.rows p hp).2⟩, o.kept, o.made⟩
      | none =>
        cases e3 : rcpOf h.recs t with
        | none => rfl
        | some r =>
          rw [show s.rk.asked = s.going from rfl]
          by_cases c : t ∈ s.going
          · simp only [if_pos c]
          · simp only [if_neg c]
            obtain ⟨ho1, ct⟩ := o.rk.ask e3 e1 c
            have hmem := rcpOf_mem e3
            obtain ⟨_, hwn, hdp⟩ := HH.rcp _ hmem
            have o1 : AgOk h beta old { s with going := s.going ++ [t] } := ⟨ho1, ⟨o.coh.kn, o.coh.rd, o.coh.kr⟩, o.rows, o.kept, o.made⟩
            have hA : h.recs.length + 1 ≤ (s.going ++ [t]).length + n := by
              rw [List.length_append]
              show _ ≤ s.going.length + 1 + n
              omega
            have ih : ∀ s1 u, AgOk h beta old s1 → s1.going = s.going ++ [t] → Nm u → match lkR h n s1.rk u with
                | .err e => agR h old n s1 u = .err e
                | .ok v k => ∃ s', agR h old n s1 u = .ok v s' ∧ s'.rk = k ∧ AgOk h beta old s' := fun s1 u q ga hu => agR_sim HH hO n s1 u q hu (by rw [ga]; exact hA)
            have R := Rem.of_sim HH hA ih
            -- working tells what the reckoner's working tells
            have work := wk_sim (l1 := agR h old n) (l2 := lkR h n) (R := fun a b => a.rk = b ∧ AgOk h beta old a ∧ a.going = s.going ++ [t]) (fun a b u hr hu => by
              obtain ⟨rfl, q, ga⟩ := hr
              have := ih a u q ga hu
              cases e : lkR h n a.rk u with
              | err z => rw [e] at this; exact this
              | ok v k =>
                rw [e] at this
                obtain ⟨a', e4, rfl, q'⟩ := this
                exact ⟨a', e4, rfl, q', (lkR_step HH n a.rk u v a'.rk q.rk hu e).asked.trans ga⟩) (r := r) (a := { s with going := s.going ++ [t] }) (b := { s.rk with asked := s.going ++ [t] }) (o := []) hwn ⟨rfl, o1, rfl⟩
            rw [lkO_is] at work
            -- what a made record comes to
            have fresh : ∀ {v : Int} {p : RkS × List Pr}, wk (lkOwn (lkR h n)) r ({ s.rk with asked := s.going ++ [t] }, []) = .ok v p → Val h t v ∧ Rds h t p.2 ∧ ∀ q ∈ p.2, Nm q.1 := fun {v p} e => by
              obtain ⟨o4, a4, l4, w4, b4⟩ := wk_step (A := s.going ++ [t]) (fun s t v s' o _ ht e => lkR_step HH n s t v s' o ht e) hwn (p := ({ s.rk with asked := s.going ++ [t] }, [])) ho1 rfl (OwnOk.nil _ _) e
              obtain ⟨c4, m, g4⟩ := wk_sound (fun s t v s' => lkR_sound n s t v s') (p := ({ s.rk with asked := s.going ++ [t] }, [])) o1.coh e
              exact ⟨.work e2 e3 g4, ⟨e2, r, m, v, e3, g4⟩, w4.sm⟩
            have notNone : getA old t = none → ¬ GoodRec h old t := fun e5 ⟨o', _, g, _⟩ => by rw [e5] at g; cases g
            have notSame : ∀ ro, getA old t = some ro → sameR ro.2.1 r = false → ¬ GoodRec h old t := fun ro e5 e6 ⟨o', r', g1, g2, g3, _⟩ => by
              rw [e5] at g1
              rw [e3] at g2
              cases g1
              cases g2
              rw [e6] at g3
              cases g3
            have bad : ∀ (s1 : AgS) (z : XErr), wk (lkO (agR h old n)) r (s1, []) = .err z → settled (agR h old n) old t r (.inr (false, s1)) = .err z := fun s1 z e => by
              show (match wk (lkO (agR h old n)) r (s1, []) with | .err e => OutR.err e | .ok v p => .ok v (p.1.make t (p.2, r, v))) = .err z
              rw [e]
            have run : ∀ ro, getA old t = some ro → sameR ro.2.1 r = true → _ := fun ro e5 e6 => al_run R (hO t ro r e5 e3 e6).1 (hO t ro r e5 e3 e6).2 ro.1.length 0 { s with going := s.going ++ [t] } (by omega) ⟨o1, rfl⟩ (fun p h => by rw [List.take_zero] at h; cases h)
            cases e4 : wk (lkOwn (lkR h n)) r ({ s.rk with asked := s.going ++ [t] }, []) with
            | err z =>
              rw [e4] at work
              have e4' : wk (lkOwn (lkR h n)) r (({ known := s.known, read := s.rk.read, asked := s.going ++ [t] } : RkS), []) = _ := e4
              rw [e4']
              show settled (agR h old n) old t r (alike (agR h old n) old t r { s with going := s.going ++ [t] }) = .err z
              unfold alike
              cases e5 : getA old t with
              | none => exact bad _ z work
              | some ro =>
                cases e6 : sameR ro.2.1 r with
                | false =>
                  simp only [e6, Bool.false_eq_true, if_false]
                  exact bad _ z work
                | true =>
                  simp only [e6, if_true]
                  have run := run ro e5 e6
                  rw [List.drop_zero, List.take_zero] at run
                  cases e7 : alR (agR h old n) ro.1 { s with going := s.going ++ [t] } with
                  | inl y =>
                    rw [e7] at run
                    have := run.symm.trans work
                    cases this
                    rfl
                  | inr q =>
                    obtain ⟨b, s2⟩ := q
                    rw [e7] at run
                    cases b with
                    | false => exact bad _ z (run.1.symm.trans work)
                    | true =>
                      have := run.1.symm.trans work
                      cases this
            | ok v p =>
              rw [e4] at work
              obtain ⟨a', e8, er, q, ga⟩ := work
              obtain ⟨hv, hr, hnm⟩ := fresh e4
              have e4' : wk (lkOwn (lkR h n)) r (({ known := s.known, read := s.rk.read, asked := s.going ++ [t] } : RkS), []) = _ := e4
              rw [e4']
              show ∃ s', settled (agR h old n) old t r (alike (agR h old n) old t r { s with going := s.going ++ [t] }) = .ok v s' ∧ s'.rk = { known := putA p.1.known t v, read := putA p.1.read t p.2, asked := p.1.asked.dropLast } ∧ AgOk h beta old s'
              have made : ∀ s1 : AgS, wk (lkO (agR h old n)) r (s1, []) = .ok v (a', p.2) → ¬ GoodRec h old t → ∃ s', settled (agR h old n) old t r (.inr (false, s1)) = .ok v s' ∧ s'.rk = { known := putA p.1.known t v, read := putA p.1.read t p.2, asked := p.1.asked.dropLast } ∧ AgOk h beta old s' := fun s1 es ng => by
                refine ⟨a'.make t (p.2, r, v), ?_, ?_, q.doneM HH ga e2 e3 hv hr hnm ng⟩
                · show (match wk (lkO (agR h old n)) r (s1, []) with | .err e => OutR.err e | .ok v p => .ok v (p.1.make t (p.2, r, v))) = _
                  rw [es]
                · show (⟨putA a'.known t v, (putA a'.book t (p.2, r, v)).map _, a'.going.dropLast⟩ : RkS) = _
                  rw [rk_put, ← er]
                  rfl
              unfold alike
              cases e5 : getA old t with
              | none => exact made _ e8 (notNone e5)
              | some ro =>
                cases e6 : sameR ro.2.1 r with
                | false =>
                  simp only [e6, Bool.false_eq_true, if_false]
                  exact made _ e8 (notSame ro e5 e6)
                | true =>
                  simp only [e6, if_true]
                  have run := run ro e5 e6
                  rw [List.drop_zero, List.take_zero] at run
                  have req : ro.2.1 = r := eqv_rcp e6
                  cases e7 : alR (agR h old n) ro.1 { s with going := s.going ++ [t] } with
                  | inl y =>
                    rw [e7] at run
                    have := run.symm.trans e8
                    cases this
                  | inr q7 =>
                    obtain ⟨b, s2⟩ := q7
                    rw [e7] at run
                    cases b with
                    | false =>
                      obtain ⟨r1, ⟨q2, ga2⟩, ⟨p', hp, v', hne, hkn⟩, _⟩ := run
                      refine made s2 (r1.symm.trans e8) fun ⟨o', r', g1, g2, g3, g4⟩ => ?_
                      rw [e5] at g1
                      cases g1
                      exact hne ((q2.kn hkn).det (g4 p' hp))
                    | true =>
                      obtain ⟨r1, ⟨q2, ga2⟩, hkn, _⟩ := run
                      obtain ⟨ew, ea⟩ := OutR.ok.inj (r1.symm.trans e8)
                      obtain ⟨ea1, ea2⟩ := Prod.mk.inj ea
                      subst ea1
                      refine ⟨s2.keep t ro, ?_, ?_, q2.doneK HH ga2 e2 (by rw [req]; exact e3) (by rw [ew]; exact hv) (by rw [ea2]; exact hr) (by rw [ea2]; exact hnm) ⟨ro, r, e5, e3, e6, fun p hp => q2.kn (hkn p hp)⟩⟩
                      · show (match getA old t with | none => OutR.err (.ring []) | some o => .ok o.2.2 (s2.keep t o)) = _
                        rw [e5, ← ew]
                      · show (⟨putA s2.known t ro.2.2, (putA s2.book t ro).map _, s2.going.dropLast⟩ : RkS) = _
                        rw [rk_put, ← er, ew, ea2]
                        rfl
/-! ### rows of records -/
open LamX NdefX
/-- the rows of what was worked: reads, recipe, worth -/
def rowOf (h : House) (s : RkS) (p : List Nat × List Pr) : List Nat × (List Pr × Rcp × Int) := (p.1, (p.2, (rcpOf h.recs p.1).getD (.num 0), (seen s.known p.1).getD 0))
def RowR (H : Hp) (r : List Pr × Rcp × Int) (v : V) : Prop := ∃ T rv L xs, v = .ref T ∧ H T = some (.tup [rv, .ref L, .int r.2.2]) ∧ Rec H r.2.1 rv ∧ H L = some (.lst xs) ∧ Prs H r.1 xs
theorem RowR.st {H H' : Hp} (k : Keep H H') (l : ∀ b xs, H b = some (.lst xs) → H' b = some (.lst xs)) {r : List Pr × Rcp × Int} {v : V} (h : RowR H r v) : RowR H' r v := by
  obtain ⟨T, rv, L, xs, e, h1, h2, h3, h4⟩ := h
  exact ⟨T, rv, L, xs, e, k _ _ h1, h2.keep k, l _ _ h3, h4.keep k⟩
theorem kvR_own {α : Type} {R : α → V → Prop} : ∀ {l : List (List Nat × α)} {m : List (Key × V)}, KvR R l m → (l.map (·.1)).Nodup → ∀ q ∈ m, valV m q.1 = some q.2
  | [], [], _, _, _, hq => nomatch hq
  | p :: l, q :: m, ⟨x, y, z⟩, nd, r, hr => by
    obtain ⟨n1, n2⟩ := List.nodup_cons.mp nd
    rcases List.mem_cons.mp hr with rfl | hr
    · exact valV_pos rfl
    · have h1 := kvR_own z n2 r hr
      obtain ⟨i, hi, e⟩ := List.mem_iff_getElem.mp hr
      obtain ⟨p2, e1, e2, _⟩ := KvR.at (i := i) (k := r.1) (v := r.2) z (by rw [List.getElem?_eq_getElem hi, e])
      rw [valV_neg (by
        rw [x, e2]
        exact fun e => n1 (by show p.1 ∈ _; rw [kS_inj e]; exact List.mem_map.mpr ⟨p2, List.mem_of_getElem? e1, rfl⟩))]
      exact h1
  | [], _ :: _, h, _, _, _ => h.elim
  | _ :: _, [], h, _, _, _ => h.elim
/-- the lists of reads of the rows are new, and told apart from one another and from what else is told -/
def Apart (H0 H : Hp) (kD rD nL : Addr) (kvs : List (Key × V)) : Prop := kD ≠ rD ∧ ∃ fkv : List (Key × V), (fkv.map (·.2)).Nodup ∧ ∀ (i : Nat) (k : Key) (v : V), kvs[i]? = some (k, v) → ∃ (T : Addr) (rv : V) (L : Addr) (y : V) (k' : Key), v = V.ref T ∧ H T = some (.tup [rv, V.ref L, y]) ∧ fkv[i]? = some (k', V.ref L) ∧ H0 L = none ∧ L ≠ nL
theorem Apart.list {H0 H : Hp} {kD rD nL : Addr} {kvs : List (Key × V)} (a : Apart H0 H kD rD nL kvs) : kD ≠ rD ∧ ∃ Ls : List Addr, Ls.length = kvs.length ∧ Ls.Nodup ∧ (∀ L ∈ Ls, H0 L = none ∧ L ≠ nL) ∧ ∀ (i : Nat) (k : Key) (v : V), kvs[i]? = some (k, v) → ∃ (T : Addr) (rv : V) (L : Addr) (y : V), v = V.ref T ∧ H T = some (.tup [rv, V.ref L, y]) ∧ Ls[i]? = some L := by
  obtain ⟨n, fkv, nd, h⟩ := a
  have ex : ∀ i : Fin kvs.length, ∃ (L T : Addr) (rv y : V) (k' : Key), kvs[i].2 = V.ref T ∧ H T = some (.tup [rv, V.ref L, y]) ∧ fkv[i.val]? = some (k', V.ref L) ∧ H0 L = none ∧ L ≠ nL := fun i => by
    obtain ⟨T, rv, L, y, k', h1, h2, h3, h4, h5⟩ := h i.val kvs[i].1 kvs[i].2 (List.getElem?_eq_getElem i.isLt)
    exact ⟨L, T, rv, y, k', h1, h2, h3, h4, h5⟩
  obtain ⟨g, hg⟩ : ∃ g : Fin kvs.length → Addr, ∀ i, ∃ (T : Addr) (rv y : V) (k' : Key), kvs[i].2 = V.ref T ∧ H T = some (.tup [rv, V.ref (g i), y]) ∧ fkv[i.val]? = some (k', V.ref (g i)) ∧ H0 (g i) = none ∧ g i ≠ nL := ⟨fun i => Classical.choose (ex i), fun i => Classical.choose_spec (ex i)⟩
  refine ⟨n, List.ofFn g, List.length_ofFn, ?_, fun L hL => ?_, fun i k v e => ?_⟩
  · refine List.pairwise_iff_getElem.mpr fun i j hi hj hij e => ?_
    rw [List.length_ofFn] at hi hj
    rw [List.getElem_ofFn, List.getElem_ofFn] at e
    obtain ⟨_, _, _, k1, _, _, e1, _⟩ := hg ⟨i, hi⟩
    obtain ⟨_, _, _, k2, _, _, e2, _⟩ := hg ⟨j, hj⟩
    rw [← e] at e2
    have h1 : (fkv.map (·.2))[i]? = some (V.ref (g ⟨i, hi⟩)) := by rw [List.getElem?_map, e1]; rfl
    have h2 : (fkv.map (·.2))[j]? = some (V.ref (g ⟨i, hi⟩)) := by rw [List.getElem?_map, e2]; rfl
    obtain ⟨b1, c1⟩ := List.getElem?_eq_some_iff.mp h1
    obtain ⟨b2, c2⟩ := List.getElem?_eq_some_iff.mp h2
    have := (List.getElem_inj nd).mp (c1.trans c2.symm)
    omega
  · obtain ⟨i, hi, e⟩ := List.mem_iff_getElem.mp hL
    rw [List.getElem_ofFn] at e
    rw [List.length_ofFn] at hi
    obtain ⟨_, _, _, _, _, _, _, e4, e5⟩ := hg ⟨i, hi⟩
    rw [← e]
    exact ⟨e4, e5⟩
  · obtain ⟨hi, e1⟩ := List.getElem?_eq_some_iff.mp e
    obtain ⟨T, rv, y, k', e2, e3, e4, e5, e6⟩ := hg ⟨i, hi⟩
    refine ⟨T, rv, _, y, ?_, e3, ?_⟩
    · rw [← e2]
      show v = kvs[i].2
      rw [e1]
    · rw [List.getElem?_eq_getElem (by rw [List.length_ofFn]; exact hi), List.getElem_ofFn]
/-! ### the class Again walked -/
open LamX NdefX
theorem Rcp.laysW : ∀ {r : Rcp}, r.Wn → r.th.py.canLay0 = true ∧ r.th.py.depth ≤ r.dep
  | .num n, _ => ⟨by show ((PyData.str (SX.S w_number)).canLay0 && ((PyData.int n).canLay0 && true)) = true; rw [str_lay (by decide)]; rfl, by show max 0 (max 0 0) + 1 ≤ 1; decide⟩
  | .read s, h => ⟨by show ((PyData.str (SX.S w_read)).canLay0 && ((PyData.str (SX.S s)).canLay0 && true)) = true; rw [nm_lay h, str_lay (s := w_read) (by decide)]; rfl, by show max 0 (max 0 0) + 1 ≤ 1; decide⟩
  | .two k a b, h => by
    have h1 := Rcp.laysW h.1
    have h2 := Rcp.laysW h.2
    refine ⟨?_, ?_⟩
    · show ((PyData.str (SX.S k.word)).canLay0 && (a.th.py.canLay0 && (b.th.py.canLay0 && true))) = true
      rw [h1.1, h2.1, str_lay (s := k.word) (by cases k <;> decide)]
      rfl
    · show max 0 (max a.th.py.depth (max b.th.py.depth 0)) + 1 ≤ max a.dep b.dep + 1
      omega
  | .pick a b c, h => by
    have h1 := Rcp.laysW h.1
    have h2 := Rcp.laysW h.2.1
    have h3 := Rcp.laysW h.2.2
    refine ⟨?_, ?_⟩
    · show ((PyData.str (SX.S w_pick)).canLay0 && (a.th.py.canLay0 && (b.th.py.canLay0 && (c.th.py.canLay0 && true)))) = true
      rw [h1.1, h2.1, h3.1, str_lay (s := w_pick) (by decide)]
      rfl
    · show max 0 (max a.th.py.depth (max b.th.py.depth (max c.th.py.depth 0))) + 1 ≤ max a.dep (max b.dep c.dep) + 1
      omega
  | .choose a ns, h => by
    have h1 := Rcp.laysW h.1
    have h2 := nms_py h.2.2.2
    have h3 := dep_pos a
    refine ⟨?_, ?_⟩
    · show ((PyData.str (SX.S w_choose)).canLay0 && (a.th.py.canLay0 && (PyData.canLayAll0 (Th.pyL (nmsTh ns)) && true))) = true
      rw [h1.1, h2.1, str_lay (s := w_choose) (by decide)]
      rfl
    · show max 0 (max a.th.py.depth (max (PyData.depthAll (Th.pyL (nmsTh ns)) + 1) 0)) + 1 ≤ a.dep + 1
      rw [h2.2]
      omega
theorem Rcp.shapedW {r : Rcp} (hg : r.Wn) (hd : r.dep ≤ 60) : SeqAt.shaped r.th.py = true := by
  have h := Rcp.laysW hg
  show (r.th.py.canLay0 && decide (r.th.py.depth ≤ 64)) = true
  rw [h.1, decide_eq_true (by omega)]
  rfl
structure AgT (K : PySem.W.Frag) (mg : Str → Option Value) (C fI : Addr) : Prop where
  cl : Cls K C
  nG : NoAttr K C "given"
  nR : NoAttr K C "recipes"
  nO : NoAttr K C "old"
  nW : NoAttr K C "worths"
  nB : NoAttr K C "record_book"
  nM : NoAttr K C "made_list"
  nK : NoAttr K C "kept_list"
  nA : NoAttr K C "going"
  g : mg "Again" = some (.ref C)
  mkI : Mk K C fI
/-- where a build from records stands, and what stood ahead of it -/
structure AgA where
  R : Addr
  gD : Addr
  rD : Addr
  oD : Addr
  wD : Addr
  bD : Addr
  mL : Addr
  kL : Addr
  aL : Addr
  B : Hp
def AgA.own (A : AgA) : List Addr := [A.wD, A.bD, A.mL, A.kL, A.aL]
/-- the house and the records handed in -/
structure AgB (A : AgA) (h : House) (old : Old) : Prop where
  gv : A.B A.gD = some (.dK (numsK h.given))
  rc : ∃ kvs, Rd A.B A.rD (.dK kvs) ∧ KvR (Rec A.B) h.recs kvs
  od : ∃ kvs, Rd A.B A.oD (.dK kvs) ∧ KvR (RowR A.B) old kvs
  wf : ∀ t o, getA old t = some o → o.2.1.Wn ∧ o.2.1.dep ≤ 60
/-- a row told: its list of reads is L, and new -/
def RowB (A : AgA) (H : Hp) (r : Row × Addr) (v : V) : Prop := ∃ T rv xs, v = .ref T ∧ H T = some (.tup [rv, .ref r.2, .int r.1.2.2]) ∧ Rec H r.1.2.1 rv ∧ A.B r.2 = none ∧ r.2 ≠ A.mL ∧ r.2 ≠ A.kL ∧ r.2 ≠ A.aL ∧ H r.2 = some (.lst xs) ∧ Prs H r.1.1 xs
abbrev Bl := List (List Nat × (Row × Addr))
structure AgAt (C : Addr) (Tb : List NTab) (A : AgA) (s : AgS) (H : Hp) : Prop where
  ins : ∃ dx fs, H A.R = some (.ins C dx fs) ∧ fs.lookup ("given" : Str) = some (.ref A.gD) ∧ fs.lookup ("recipes" : Str) = some (.ref A.rD) ∧ fs.lookup ("old" : Str) = some (.ref A.oD) ∧ fs.lookup ("worths" : Str) = some (.ref A.wD) ∧ fs.lookup ("record_book" : Str) = some (.ref A.bD) ∧ fs.lookup ("made_list" : Str) = some (.ref A.mL) ∧ fs.lookup ("kept_list" : Str) = some (.ref A.kL) ∧ fs.lookup ("going" : Str) = some (.ref A.aL) ∧
    fs.lookup ("settle" : Str) = none ∧ fs.lookup ("is_alike" : Str) = none ∧ fs.lookup ("kept_record" : Str) = none ∧ fs.lookup ("made_record" : Str) = none
  fr : FrS Tb [] A.B H
  new : A.B A.wD = none ∧ A.B A.bD = none ∧ A.B A.mL = none ∧ A.B A.kL = none ∧ A.B A.aL = none
  wn : H A.wD = some (.dK (numsK s.known))
  bk : ∃ kvs, ∃ bl : Bl, H A.bD = some (.dK kvs) ∧ bl.map (fun p => (p.1, p.2.1)) = s.book ∧ (bl.map fun p => p.2.2).Nodup ∧ KvR (RowB A H) bl kvs
  md : H A.mL = some (.lst (txs s.made))
  kp : H A.kL = some (.lst (txs s.kept))
  ask : H A.aL = some (.lst (txs s.going))
  tab : TabsN Tb H
  ne : A.wD ≠ A.bD ∧ A.mL ≠ A.kL ∧ A.mL ≠ A.aL ∧ A.kL ≠ A.aL
theorem RowB.mp {A : AgA} {H H' : Hp} (k : Keep H H') (l : ∀ b xs, b ≠ A.mL → b ≠ A.kL → b ≠ A.aL → H b = some (.lst xs) → H' b = some (.lst xs)) {r : Row × Addr} {v : V} (h : RowB A H r v) : RowB A H' r v := by
  obtain ⟨T, rv, xs, e, h1, h2, h3, n1, n2, n3, h4, h5⟩ := h
  exact ⟨T, rv, xs, e, k _ _ h1, h2.keep k, h3, n1, n2, n3, l _ _ n1 n2 n3 h4, h5.keep k⟩
theorem KvR.each {α : Type} {R : α → V → Prop} : ∀ {l : List (List Nat × α)} {m : List (Key × V)}, KvR R l m → ∀ p ∈ l, ∃ q, q ∈ m ∧ R p.2 q.2
  | [], [], _, _, hp => nomatch hp
  | p :: l, q :: m, ⟨_, y, z⟩, r, hr => by
    rcases List.mem_cons.mp hr with rfl | hr
    · exact ⟨q, List.mem_cons_self, y⟩
    · obtain ⟨q2, h1, h2⟩ := KvR.each z r hr
      exact ⟨q2, List.mem_cons_of_mem _ h1, h2⟩
  | [], _ :: _, h, _, _ => h.elim
  | _ :: _, [], h, _, _ => h.elim
section
variable {C : Addr} {Tb : List NTab} {A : AgA} {s : AgS} {H H' : Hp}
theorem AgAt.same (a : AgAt C Tb A s H) (sm : Same H H') : AgAt C Tb A s H' := by
  obtain ⟨dx, fs, h1, h2⟩ := a.ins
  obtain ⟨kvs, bl, h3, h4, h5, h6⟩ := a.bk
  exact ⟨⟨dx, fs, sm _ _ h1, h2⟩, a.fr.trans (FrS.of sm), a.new, sm _ _ a.wn, ⟨kvs, bl, sm _ _ h3, h4, h5, h6.imp fun r v q => q.mp (same_keep sm) fun b xs _ _ _ e => sm _ _ e⟩, sm _ _ a.md, sm _ _ a.kp, sm _ _ a.ask, a.tab.ext sm, a.ne⟩
/-- other dicts may change, and tables -/
theorem AgAt.frame {S : List Addr} (a : AgAt C Tb A s H) (f : FrS Tb S H H') (hS : ∀ x ∈ S, A.B x = none ∧ (∃ kvs, H x = some (.dK kvs)) ∧ x ≠ A.wD ∧ x ≠ A.bD) : AgAt C Tb A s H' := by
  have st : ∀ {x : Addr} {u : HO}, x ∉ S → (∀ ps, u ≠ .tbl ps) → H x = some u → H' x = some u := fun n t e => f.1 _ _ n t e
  have nd : ∀ {x : Addr} {u : HO}, (∀ kvs, u ≠ .dK kvs) → H x = some u → x ∉ S := fun hu e m => by
    obtain ⟨_, ⟨kvs, e2⟩, _⟩ := hS _ m
    rw [e2] at e
    exact hu _ (Option.some.inj e).symm
  have k : Keep H H' := fun b ys e => st (nd (fun _ z => by cases z) e) (fun _ z => by cases z) e
  have l : ∀ b xs, H b = some (.lst xs) → H' b = some (.lst xs) := fun b xs e => st (nd (fun _ z => by cases z) e) (fun _ z => by cases z) e
  obtain ⟨dx, fs, h1, h2⟩ := a.ins
  obtain ⟨kvs, bl, h3, h4, h5, h6⟩ := a.bk
  exact ⟨⟨dx, fs, st (nd (fun _ z => by cases z) h1) (fun _ z => by cases z) h1, h2⟩, ((FrS.mono a.fr fun _ h => nomatch h).trans f).dropAll fun x hx => (hS x hx).1, a.new, st (fun m => (hS _ m).2.2.1 rfl) (fun _ z => by cases z) a.wn,
    ⟨kvs, bl, st (fun m => (hS _ m).2.2.2 rfl) (fun _ z => by cases z) h3, h4, h5, h6.imp fun r v q => q.mp k fun b xs _ _ _ e => l b xs e⟩, l _ _ a.md, l _ _ a.kp, l _ _ a.ask, f.2.2 a.tab, a.ne⟩
theorem AgAt.ownDL (a : AgAt C Tb A s H) {x : Addr} (hx : x ∈ A.own) : A.B x = none ∧ ((∃ kvs, H x = some (.dK kvs)) ∨ ∃ xs, H x = some (.lst xs)) := by
  obtain ⟨kvs, bl, h3, _⟩ := a.bk
  obtain ⟨n1, n2, n3, n4, n5⟩ := a.new
  unfold AgA.own at hx
  rcases List.mem_cons.mp hx with rfl | hx
  · exact ⟨n1, .inl ⟨_, a.wn⟩⟩
  rcases List.mem_cons.mp hx with rfl | hx
  · exact ⟨n2, .inl ⟨_, h3⟩⟩
  rcases List.mem_cons.mp hx with rfl | hx
  · exact ⟨n3, .inr ⟨_, a.md⟩⟩
  rcases List.mem_cons.mp hx with rfl | hx
  · exact ⟨n4, .inr ⟨_, a.kp⟩⟩
  rw [List.mem_singleton.mp hx]
  exact ⟨n5, .inr ⟨_, a.ask⟩⟩
/-- what any store to its own does not touch -/
theorem AgAt.rest (a : AgAt C Tb A s H) {x : Addr} {o : HO} (hx : x ∈ A.own) (hl : (∃ xs, H x = some (.lst xs)) → x = A.mL ∨ x = A.kL ∨ x = A.aL) :
    (∃ dx fs, upd H x o A.R = some (.ins C dx fs) ∧ fs.lookup ("given" : Str) = some (.ref A.gD) ∧ fs.lookup ("recipes" : Str) = some (.ref A.rD) ∧ fs.lookup ("old" : Str) = some (.ref A.oD) ∧ fs.lookup ("worths" : Str) = some (.ref A.wD) ∧ fs.lookup ("record_book" : Str) = some (.ref A.bD) ∧ fs.lookup ("made_list" : Str) = some (.ref A.mL) ∧ fs.lookup ("kept_list" : Str) = some (.ref A.kL) ∧ fs.lookup ("going" : Str) = some (.ref A.aL) ∧
      fs.lookup ("settle" : Str) = none ∧ fs.lookup ("is_alike" : Str) = none ∧ fs.lookup ("kept_record" : Str) = none ∧ fs.lookup ("made_record" : Str) = none) ∧
    FrS Tb [] A.B (upd H x o) ∧ TabsN Tb (upd H x o) ∧ Keep H (upd H x o) ∧ FrS Tb A.own H (upd H x o) ∧ ∀ r v, RowB A H r v → RowB A (upd H x o) r v := by
  obtain ⟨nx, dl⟩ := a.ownDL hx
  obtain ⟨dx, fs, h1, h2⟩ := a.ins
  have k : Keep H (upd H x o) := fun b ys e => by
    rw [upd_ne (fun z => by rcases dl with ⟨_, d⟩ | ⟨_, d⟩ <;> rw [z, d] at e <;> cases e)]
    exact e
  refine ⟨⟨dx, fs, ?_, h2⟩, a.fr.put0 nx dl, DL.tab dl a.tab, k, FrS.upd hx dl, fun r v q => q.mp k fun b xs n1 n2 n3 e => ?_⟩
  · rw [upd_ne (fun z => by rcases dl with ⟨_, d⟩ | ⟨_, d⟩ <;> rw [z, d] at h1 <;> cases h1)]
    exact h1
  · rw [upd_ne (fun z => ?_)]
    · exact e
    · rcases hl ⟨xs, z ▸ e⟩ with rfl | rfl | rfl
      · exact n1 z
      · exact n2 z
      · exact n3 z
/-- a worth known more -/
theorem AgAt.known (a : AgAt C Tb A s H) (t : List Nat) (v : Int) : AgAt C Tb A { s with known := putA s.known t v } (upd H A.wD (.dK (numsK (putA s.known t v)))) := by
  obtain ⟨n1, n2, n3, n4⟩ := a.ne
  obtain ⟨r1, r2, r3, r4, _, r5⟩ := a.rest (x := A.wD) (o := .dK (numsK (putA s.known t v))) (by unfold AgA.own; simp) fun ⟨xs, e⟩ => by rw [a.wn] at e; cases e
  obtain ⟨kvs, bl, h3, h4, h5, h6⟩ := a.bk
  have ls : ∀ {b xs}, H b = some (.lst xs) → upd H A.wD (.dK (numsK (putA s.known t v))) b = some (.lst xs) := fun {b xs} e => by rw [upd_ne (fun z => by rw [z, a.wn] at e; cases e)]; exact e
  exact ⟨r1, r2, a.new, upd_same, ⟨kvs, bl, by rw [upd_ne n1.symm]; exact h3, h4, h5, h6.imp r5⟩, ls a.md, ls a.kp, ls a.ask, r3, a.ne⟩
theorem AgAt.asking (a : AgAt C Tb A s H) (ns : List (List Nat)) : AgAt C Tb A { s with going := ns } (upd H A.aL (.lst (txs ns))) := by
  obtain ⟨n1, n2, n3, n4⟩ := a.ne
  obtain ⟨r1, r2, r3, r4, _, r5⟩ := a.rest (x := A.aL) (o := .lst (txs ns)) (by unfold AgA.own; simp) fun _ => .inr (.inr rfl)
  obtain ⟨kvs, bl, h3, h4, h5, h6⟩ := a.bk
  have ds : ∀ {b xs}, H b = some (.dK xs) → upd H A.aL (.lst (txs ns)) b = some (.dK xs) := fun {b xs} e => by rw [upd_ne (fun z => by rw [z, a.ask] at e; cases e)]; exact e
  exact ⟨r1, r2, a.new, ds a.wn, ⟨kvs, bl, ds h3, h4, h5, h6.imp r5⟩, by rw [upd_ne n3]; exact a.md, by rw [upd_ne n4]; exact a.kp, upd_same, r3, a.ne⟩
theorem AgAt.making (a : AgAt C Tb A s H) (ns : List (List Nat)) : AgAt C Tb A { s with made := ns } (upd H A.mL (.lst (txs ns))) := by
  obtain ⟨n1, n2, n3, n4⟩ := a.ne
  obtain ⟨r1, r2, r3, r4, _, r5⟩ := a.rest (x := A.mL) (o := .lst (txs ns)) (by unfold AgA.own; simp) fun _ => .inl rfl
  obtain ⟨kvs, bl, h3, h4, h5, h6⟩ := a.bk
  have ds : ∀ {b xs}, H b = some (.dK xs) → upd H A.mL (.lst (txs ns)) b = some (.dK xs) := fun {b xs} e => by rw [upd_ne (fun z => by rw [z, a.md] at e; cases e)]; exact e
  exact ⟨r1, r2, a.new, ds a.wn, ⟨kvs, bl, ds h3, h4, h5, h6.imp r5⟩, upd_same, by rw [upd_ne n2.symm]; exact a.kp, by rw [upd_ne n3.symm]; exact a.ask, r3, a.ne⟩
theorem AgAt.keeping (a : AgAt C Tb A s H) (ns : List (List Nat)) : AgAt C Tb A { s with kept := ns } (upd H A.kL (.lst (txs ns))) := by
  obtain ⟨n1, n2, n3, n4⟩ := a.ne
  obtain ⟨r1, r2, r3, r4, _, r5⟩ := a.rest (x := A.kL) (o := .lst (txs ns)) (by unfold AgA.own; simp) fun _ => .inr (.inl rfl)
  obtain ⟨kvs, bl, h3, h4, h5, h6⟩ := a.bk
  have ds : ∀ {b xs}, H b = some (.dK xs) → upd H A.kL (.lst (txs ns)) b = some (.dK xs) := fun {b xs} e => by rw [upd_ne (fun z => by rw [z, a.kp] at e; cases e)]; exact e
  exact ⟨r1, r2, a.new, ds a.wn, ⟨kvs, bl, ds h3, h4, h5, h6.imp r5⟩, by rw [upd_ne n2]; exact a.md, upd_same, by rw [upd_ne n4.symm]; exact a.ask, r3, a.ne⟩
/-- a row put down for a new name, its list of reads a new one -/
theorem AgAt.booking (a : AgAt C Tb A s H) {kvs : List (Key × V)} (e : H A.bD = some (.dK kvs)) {t : List Nat} {o : Row} {L : Addr} {v : V} (hr : RowB A H (o, L) v) (hnew : ∀ q ∈ kvs, ∀ T rv y, q.2 = V.ref T → H T = some (.tup [rv, V.ref L, y]) → False) (hnt : ¬ t ∈ s.book.map (·.1)) :
    AgAt C Tb A { s with book := putA s.book t o } (upd H A.bD (.dK (putK kvs (kT (SX.S t)) v))) := by
  obtain ⟨n1, n2, n3, n4⟩ := a.ne
  obtain ⟨r1, r2, r3, r4, _, r5⟩ := a.rest (x := A.bD) (o := .dK (putK kvs (kT (SX.S t)) v)) (by unfold AgA.own; simp) fun ⟨xs, e2⟩ => by rw [e] at e2; cases e2
  obtain ⟨kvs', bl, h3, h4, h5, h6⟩ := a.bk
  rw [e] at h3
  cases h3
  have ls : ∀ {b xs}, H b = some (.lst xs) → upd H A.bD (.dK (putK kvs (kT (SX.S t)) v)) b = some (.lst xs) := fun {b xs} e2 => by rw [upd_ne (fun z => by rw [z, e] at e2; cases e2)]; exact e2
  have hk : bl.map (·.1) = s.book.map (·.1) := by rw [← h4, List.map_map]; rfl
  refine ⟨r1, r2, a.new, by rw [upd_ne n1]; exact a.wn, ⟨_, putA bl t (o, L), upd_same, ?_, ?_, (KvR.put (a := (o, L)) hr h6).imp r5⟩, ls a.md, ls a.kp, ls a.ask, r3, a.ne⟩
  · rw [putA_map (fun x : Row × Addr => x.1) bl t (o, L), h4]
  · rw [putA_new _ (by rw [hk]; exact hnt), List.map_append]
    refine List.nodup_append.mpr ⟨h5, List.nodup_cons.mpr ⟨(fun z => nomatch z), List.nodup_nil⟩, fun x hx y hy e2 => ?_⟩
    obtain ⟨p, hp, rfl⟩ := List.mem_map.mp hx
    rw [List.mem_singleton.mp hy] at e2
    obtain ⟨q, hq, T, rv, xs, e3, e4, _⟩ := KvR.each h6 p hp
    exact hnew q hq T rv _ e3 (e2 ▸ e4)
end
def lvA (dm n : Nat) : Nat := n * (dm + 3) + 1
/-- what is handed to a build from records, and where it stands -/
structure AgPre (C : Addr) (Tb : List NTab) (dm : Nat) (A : AgA) (h : House) (old : Old) (beta : Nat → Nat) (s : AgS) (H : Hp) : Prop where
  HH : HouseOk dm h beta
  OO : OldOk h old
  AB : AgB A h old
  sz : h.given.length + h.recs.length ≤ 100000
  at_ : AgAt C Tb A s H
  ok : AgOk h beta old s
/-- settle's promise, by n names in one another -/
def spSet (C CN CR : Addr) (Tb : List NTab) (dm n : Nat) : Sp := fun vs H Q E => ∃ (A : AgA) (h : House) (old : Old) (beta : Nat → Nat) (s : AgS) (t : List Nat), vs = [.ref A.R, .str (SX.S t)] ∧ AgPre C Tb dm A h old beta s H ∧ h.recs.length + 1 ≤ s.going.length + n ∧ Nm t ∧
  TellW (fun s' H' => AgAt C Tb A s' H') (FrS Tb A.own) (ErK CN CR) Q E H (agR h old n s t)
def spAl (C CN CR : Addr) (Tb : List NTab) (dm n : Nat) : Sp := fun vs H Q E => ∃ (A : AgA) (h : House) (old : Old) (beta : Nat → Nat) (s : AgS) (t : List Nat) (r : Rcp), vs = [.ref A.R, .str (SX.S t)] ∧ AgPre C Tb dm A h old beta s H ∧ h.recs.length + 1 ≤ s.going.length + n ∧ Nm t ∧ rcpOf h.recs t = some r ∧
  match alike (agR h old n) old t r s with
    | .inl e => ∀ H', FrS Tb A.own H H' → ErK CN CR e E H'
    | .inr (b, s') => ∀ H', FrS Tb A.own H H' → AgAt C Tb A s' H' → Q (.bl b) H'
def spKeptR (C : Addr) (Tb : List NTab) : Sp := fun vs H Q _ => ∃ (A : AgA) (h : House) (old : Old) (s : AgS) (t : List Nat) (o : Row), vs = [.ref A.R, .str (SX.S t)] ∧ AgB A h old ∧ AgAt C Tb A s H ∧ getA old t = some o ∧
  ∀ (T L : Addr) (rv : V) (xs : List V) (H' : Hp), Same H H' → H L = none → H' T = some (.tup [rv, .ref L, .int o.2.2]) → Rec H' o.2.1 rv → H' L = some (.lst xs) → Prs H' o.1 xs → Q (.ref T) H'
def spMadeR (C CN CR : Addr) (Tb : List NTab) (dm n : Nat) : Sp := fun vs H Q E => ∃ (A : AgA) (h : House) (old : Old) (beta : Nat → Nat) (s : AgS) (t : List Nat) (r : Rcp), vs = [.ref A.R, .str (SX.S t)] ∧ AgPre C Tb dm A h old beta s H ∧ h.recs.length + 1 ≤ s.going.length + n ∧ Nm t ∧ rcpOf h.recs t = some r ∧ seen h.given t = none ∧
  match wk (lkO (agR h old n)) r (s, []) with
    | .err e => ∀ H', FrS Tb A.own H H' → ErK CN CR e E H'
    | .ok v p => ∀ (T L : Addr) (rv : V) (xs : List V) (X H' : Hp), FrS Tb A.own H X → AgAt C Tb A p.1 X → Same X H' → X L = none → H' T = some (.tup [rv, .ref L, .int v]) → Rec H' r rv → H' L = some (.lst xs) → Prs H' p.2 xs → Q (.ref T) H'
/-! ### the methods of Again beneath settle -/
open LamX NdefX
def AgAt2 (C : Addr) (Tb : List NTab) (A : AgA) (D : Addr) : AgS × List Pr → Hp → Prop := fun p H => AgAt C Tb A p.1 H ∧ H D = some (.dK (numsK p.2)) ∧ A.B D = none ∧ D ≠ A.wD ∧ D ≠ A.bD
def AgJ (h : House) (beta : Nat → Nat) (old : Old) (G : List (List Nat)) : AgS × List Pr → Prop := fun p => AgOk h beta old p.1 ∧ p.1.going = G ∧ OwnOk beta p.1.rk p.2
theorem AgAt2.not {C : Addr} {Tb : List NTab} {A : AgA} {D : Addr} {p : AgS × List Pr} {H : Hp} (a : AgAt2 C Tb A D p H) {x : Addr} (hx : x ∈ D :: A.own) : (∃ kvs, H x = some (.dK kvs)) ∨ ∃ xs, H x = some (.lst xs) := by
  rcases List.mem_cons.mp hx with rfl | hx
  · exact .inl ⟨_, a.2.1⟩
  · exact (a.1.ownDL hx).2
theorem frOkA (C : Addr) (Tb : List NTab) (A : AgA) (D : Addr) : FrOk (AgAt2 C Tb A D) (FrS Tb (D :: A.own)) where
  refl := FrS.refl _
  trans := FrS.trans
  keep := fun a f => f.keep fun x hx xs e => by
    rcases a.not hx with ⟨_, z⟩ | ⟨_, z⟩ <;> rw [z] at e <;> cases e
  ext := fun a f e => f.1 _ _ (fun hx => by rcases a.not hx with ⟨_, z⟩ | ⟨_, z⟩ <;> rw [z] at e <;> cases e) (fun ps z => by cases z) e
/-- one look, by the reckoner's -/
theorem agR_step {dm : Nat} {h : House} {beta : Nat → Nat} {old : Old} (HH : HouseN dm h beta) (hO : OldOk h old) {n : Nat} {s s' : AgS} {t : List Nat} {v : Int} (o : AgOk h beta old s) (ht : Nm t) (hn : h.recs.length + 1 ≤ s.going.length + n) (e : agR h old n s t = .ok v s') :
    AgOk h beta old s' ∧ Step h beta s.rk t v s'.rk ∧ s'.going = s.going ∧ lkR h n s.rk t = .ok v s'.rk := by
  have sim := agR_sim HH hO n s t o ht hn
  cases e1 : lkR h n s.rk t with
  | err z => rw [e1] at sim; rw [show agR h old n s t = _ from sim] at e; cases e
  | ok w k =>
    rw [e1] at sim
    obtain ⟨s2, e2, rfl, o2⟩ := sim
    rw [e] at e2
    cases e2
    have st := lkR_step HH n s.rk t v s'.rk o.rk ht e1
    exact ⟨o2, st, st.asked, rfl⟩
section
variable {P : Program} {w : World} {K : PySem.W.Frag} {mg : Str → Option Value} {base : Heap} {C fI CN fN CR fR cL PL : Addr} {Tb : List NTab}
end
/-! ### settle -/
open LamX NdefX
theorem alR_cons {S : Type} (lk : S → List Nat → OutR S) (p : Pr) (ps : List Pr) (s : S) : alR lk (p :: ps) s = match lk s p.1 with | .err e => .inl e | .ok v s' => if v = p.2 then alR lk ps s' else .inr (false, s') := rfl
theorem RowR.st' {H H' : Hp} (k : Keep H H') (l : ∀ b xs, H b = some (.lst xs) → H' b = some (.lst xs)) {r : Row} {v : V} (h : RowR H r v) : RowR H' r v := h.st k l
section
variable {P : Program} {w : World} {K : PySem.W.Frag} {mg : Str → Option Value} {base : Heap} {C fI CN fN CR fR cL PL : Addr} {Tb : List NTab}
end
/-! ### a record made -/
open LamX NdefX
section
variable {P : Program} {w : World} {K : PySem.W.Frag} {mg : Str → Option Value} {base : Heap} {C fI CN fN CR fR cL PL : Addr} {Tb : List NTab}
end
/-! ### settle walked -/
open LamX NdefX
theorem agR_succ (h : House) (old : Old) (n : Nat) (s : AgS) (t : List Nat) : agR h old (n + 1) s t = match seen s.known t with
    | some v => .ok v s
    | none => match seen h.given t with
      | some v => .ok v { s with known := putA s.known t v }
      | none => match rcpOf h.recs t with
        | none => .err (.noName t)
        | some r => if t ∈ s.going then .err (.ring (s.going.drop (s.going.idxOf t) ++ [t])) else
          settled (agR h old n) old t r (alike (agR h old n) old t r { s with going := s.going ++ [t] }) := rfl
theorem dropLast_app (A : List (List Nat)) (t : List Nat) : (A ++ [t]).dropLast = A := List.dropLast_concat
theorem alike_ok {dm : Nat} {h : House} {beta : Nat → Nat} {old : Old} (HH : HouseN dm h beta) (hO : OldOk h old) {n : Nat} {s s' : AgS} {t : List Nat} {r : Rcp} {b : Bool} (o : AgOk h beta old s) (hn : h.recs.length + 1 ≤ s.going.length + n) (er : rcpOf h.recs t = some r) (e : alike (agR h old n) old t r s = .inr (b, s')) :
    AgOk h beta old s' ∧ s'.going = s.going ∧ (b = true → ∃ o, getA old t = some o ∧ o.2.1 = r ∧ TrueRec r o.1 o.2.2 ∧ (∀ p ∈ o.1, Nm p.1) ∧ ∀ p ∈ o.1, Val h p.1 p.2) := by
  unfold alike at e
  cases e5 : getA old t with
  | none =>
    rw [e5] at e
    cases e
    exact ⟨o, rfl, fun z => nomatch z⟩
  | some ro =>
    rw [e5] at e
    cases e6 : sameR ro.2.1 r with
    | false =>
      simp only [e6, Bool.false_eq_true, if_false] at e
      cases e
      exact ⟨o, rfl, fun z => nomatch z⟩
    | true =>
      simp only [e6, if_true] at e
      obtain ⟨TR, hnr⟩ := hO t ro r e5 er e6
      have R := Rem.of_sim HH (old := old) (beta := beta) (A := s.going) hn fun s1 u q1 ga hu => agR_sim HH hO n s1 u q1 hu (by rw [ga]; exact hn)
      have run := al_run R TR hnr ro.1.length 0 s (by omega) ⟨o, rfl⟩ (fun p h => by rw [List.take_zero] at h; cases h)
      rw [List.drop_zero, e] at run
      cases b with
      | false => exact ⟨run.2.1.1, run.2.1.2, fun z => nomatch z⟩
      | true => exact ⟨run.2.1.1, run.2.1.2, fun _ => ⟨ro, rfl, eqv_rcp e6, TR, hnr, fun p hp => run.2.1.1.kn (run.2.2.1 p hp)⟩⟩
section
variable {P : Program} {w : World} {K : PySem.W.Frag} {mg : Str → Option Value} {base : Heap} {C fI CN fN CR fR cL PL : Addr} {Tb : List NTab}
end
/-! ### a build from records made; build_again -/
open LamX NdefX
def spAgI (C : Addr) : Sp := fun vs H Q _ => ∃ (R dx p gD rD oD : Addr), vs = [.ref R, .ref p, .ref oD] ∧ H R = some (.ins C dx []) ∧ H p = some (.tup [.ref gD, .ref rD]) ∧
  ∀ (wD bD mL kL aL : Addr) (H' : Hp), H wD = none → H bD = none → H mL = none → H kL = none → H aL = none → (wD ≠ bD ∧ mL ≠ kL ∧ mL ≠ aL ∧ kL ≠ aL) →
    (∃ fs, H' R = some (.ins C dx fs) ∧ fs.lookup ("given" : Str) = some (.ref gD) ∧ fs.lookup ("recipes" : Str) = some (.ref rD) ∧ fs.lookup ("old" : Str) = some (.ref oD) ∧ fs.lookup ("worths" : Str) = some (.ref wD) ∧ fs.lookup ("record_book" : Str) = some (.ref bD) ∧ fs.lookup ("made_list" : Str) = some (.ref mL) ∧ fs.lookup ("kept_list" : Str) = some (.ref kL) ∧ fs.lookup ("going" : Str) = some (.ref aL) ∧
      fs.lookup ("settle" : Str) = none ∧ fs.lookup ("is_alike" : Str) = none ∧ fs.lookup ("kept_record" : Str) = none ∧ fs.lookup ("made_record" : Str) = none) →
    H' wD = some (.dK []) → H' bD = some (.dK []) → H' mL = some (.lst []) → H' kL = some (.lst []) → H' aL = some (.lst []) → (∀ b o, b ≠ R → H b = some o → H' b = some o) → Q .non H'
/-- only the instance at R changed, and more stands -/
structure InAt (H : Hp) (R C dx : Addr) (fs : List (Str × V)) (X : Hp) : Prop where
  ins : X R = some (.ins C dx fs)
  st : ∀ b o, b ≠ R → H b = some o → X b = some o
  nR : ∃ o, H R = some o
theorem InAt.put {H X : Hp} {R C dx : Addr} {fs gs : List (Str × V)} (i : InAt H R C dx fs X) : InAt H R C dx gs (upd X R (.ins C dx gs)) := ⟨upd_same, fun b o n e => by rw [upd_ne n]; exact i.st b o n e, i.nR⟩
theorem InAt.same {H X Y : Hp} {R C dx : Addr} {fs : List (Str × V)} (i : InAt H R C dx fs X) (s : Same X Y) : InAt H R C dx fs Y := ⟨s _ _ i.ins, fun b o n e => s _ _ (i.st b o n e), i.nR⟩
theorem InAt.new {H X : Hp} {R C dx p : Addr} {fs : List (Str × V)} (i : InAt H R C dx fs X) (n : X p = none) : H p = none ∧ p ≠ R := by
  have h1 : p ≠ R := fun z => by rw [z, i.ins] at n; cases n
  refine ⟨?_, h1⟩
  cases e : H p with
  | none => rfl
  | some o => rw [i.st p o h1 e] at n; cases n
def OldAt (H : Hp) (old : Old) (oD : Addr) : Prop := ∃ kvs, Rd H oD (.dK kvs) ∧ KvR (RowR H) old kvs
/-- a row told: its list of reads is new -/
def RowN (H H' : Hp) (mL kL : Addr) (r : Row × Addr) (v : V) : Prop := ∃ T rv xs, v = .ref T ∧ H' T = some (.tup [rv, .ref r.2, .int r.1.2.2]) ∧ Rec H' r.1.2.1 rv ∧ H r.2 = none ∧ r.2 ≠ mL ∧ r.2 ≠ kL ∧ H' r.2 = some (.lst xs) ∧ Prs H' r.1.1 xs
def spAgain (K : PySem.W.Frag) (CN CR : Addr) (Tb : List NTab) (dm n : Nat) : Sp := fun vs H Q E => ∃ (v : V) (oD wv : Addr) (h : House) (old : Old) (beta : Nat → Nat) (ts : List (List Nat)), vs = [v, .ref oD, .ref wv] ∧ HouseOk dm h beta ∧ OldOk h old ∧ (∀ t o, getA old t = some o → o.2.1.Wn ∧ o.2.1.dep ≤ 60) ∧ h.given.length + h.recs.length ≤ 100000 ∧ h.recs.length + 1 ≤ n ∧ HouseAt H h v ∧ OldAt H old oD ∧ TabsN Tb H ∧
  SqL K H wv (txs ts) ∧ (∀ t ∈ ts, Nm t) ∧ match lkAll h n emptyS ts with
    | .ok _ s => ∀ (T kD rD mL kL : Addr) (kvs : List (Key × V)) (bl : Bl) (H' : Hp), FrS Tb [] H H' → RkOk h beta s → Coh h s → H T = none → H kD = none → H rD = none → H mL = none → H kL = none → kD ≠ rD → mL ≠ kL → H' T = some (.tup [.ref kD, .ref rD, .ref mL, .ref kL]) → H' kD = some (.dK (numsK s.known)) → H' rD = some (.dK kvs) →
        bl.map (fun p => (p.1, p.2.1)) = s.read.map (rowOf h s) → (bl.map fun p => p.2.2).Nodup → KvR (RowN H H' mL kL) bl kvs → H' mL = some (.lst (txs ((s.read.map (·.1)).filter fun t => !isGood h old t))) → H' kL = some (.lst (txs ((s.read.map (·.1)).filter (isGood h old)))) → Q (.ref T) H'
    | .err e => ∀ H', FrS Tb [] H H' → ErK CN CR e E H'
section
variable {P : Program} {w : World} {K : PySem.W.Frag} {mg : Str → Option Value} {base : Heap} {C fI CN CR : Addr} {Tb : List NTab}
end
/-! ### the names within a recipe -/
/-- the names within a recipe -/
def Rcp.Wi (S : List Nat → Prop) : Rcp → Prop
  | .num _ => True
  | .read t => S t
  | .two _ a b => a.Wi S ∧ b.Wi S
  | .pick a b c => a.Wi S ∧ b.Wi S ∧ c.Wi S
  | .choose a ns => a.Wi S ∧ ∀ t ∈ ns, S t
theorem Rcp.Ev.wi {f : List Nat → Int → Prop} {S : List Nat → Prop} : ∀ {r : Rcp} {v : Int}, r.Wn → r.Wi S → r.Ev f v → r.Ev (fun t x => S t ∧ f t x) v
  | .num _, v, _, _, h => h
  | .read _, v, _, w, h => ⟨w, h⟩
  | .two _ _ _, v, n, w, ⟨a, c, h1, h2, e⟩ => ⟨a, c, h1.wi n.1 w.1, h2.wi n.2 w.2, e⟩
  | .pick _ _ _, v, n, w, ⟨a, h1, h2, h3⟩ => ⟨a, h1.wi n.1 w.1, fun c => (h2 c).wi n.2.1 w.2.1, fun c => (h3 c).wi n.2.2 w.2.2⟩
  | .choose _ _, v, n, w, ⟨a, h1, h2⟩ => ⟨a, h1.wi n.1 w.1, by obtain ⟨i, _, hi⟩ := nth_mem n.2.1 a; exact w.2 _ (List.mem_of_getElem? hi), h2⟩
theorem Rcp.Fit.wi {f : List Nat → Int → Prop} {S : List Nat → Prop} : ∀ {r : Rcp}, r.Wn → r.Wi S → r.Fit (fun t x => S t ∧ f t x) → r.Fit f
  | .num _, _, _, _ => trivial
  | .read _, _, _, _ => trivial
  | .two _ _ _, n, w, ⟨h1, h2⟩ => ⟨h1.wi n.1 w.1, fun a ha => ⟨(h2 a (ha.wi n.1 w.1)).1.wi n.2 w.2, fun c hc => (h2 a (ha.wi n.1 w.1)).2 c (hc.wi n.2 w.2)⟩⟩
  | .pick _ _ _, n, w, ⟨h1, h2⟩ => ⟨h1.wi n.1 w.1, fun a ha => ⟨fun c => ((h2 a (ha.wi n.1 w.1)).1 c).wi n.2.1 w.2.1, fun c => ((h2 a (ha.wi n.1 w.1)).2 c).wi n.2.2 w.2.2⟩⟩
  | .choose x _, n, w, h => Fit.wi (r := x) n.1 w.1 h
theorem Rcp.Wi.imp {S S' : List Nat → Prop} (h : ∀ t, S t → S' t) : ∀ {r : Rcp}, r.Wi S → r.Wi S'
  | .num _, _ => trivial
  | .read _, w => h _ w
  | .two _ _ _, w => ⟨w.1.imp h, w.2.imp h⟩
  | .pick _ _ _, w => ⟨w.1.imp h, w.2.1.imp h, w.2.2.imp h⟩
  | .choose _ _, w => ⟨w.1.imp h, fun t ht => h t (w.2 t ht)⟩
/-! ### worths bounded by names -/
def maxN : List Nat → Nat
  | [] => 0
  | a :: l => max a (maxN l)
theorem maxN_ge {l : List Nat} {a : Nat} (h : a ∈ l) : a ≤ maxN l := by
  induction l with
  | nil => exact nomatch h
  | cons b l ih =>
    show a ≤ max b (maxN l)
    rcases List.mem_cons.mp h with rfl | h
    · exact Nat.le_max_left _ _
    · exact Nat.le_trans (ih h) (Nat.le_max_right _ _)
theorem maxN_le {l : List Nat} {b : Nat} (h : ∀ a ∈ l, a ≤ b) : maxN l ≤ b := by
  induction l with
  | nil => exact Nat.zero_le _
  | cons a l ih =>
    show max a (maxN l) ≤ b
    exact Nat.max_le.mpr ⟨h a List.mem_cons_self, ih fun x hx => h x (List.mem_cons_of_mem _ hx)⟩
/-- a bound of the bits of what a recipe comes to, the read of u below 2 ^ f u -/
def Rcp.bitsN (f : List Nat → Nat) : Rcp → Nat
  | .num n => n.natAbs.log2 + 1
  | .read t => f t
  | .two .times x y => x.bitsN f + y.bitsN f
  | .two .most x y => max (x.bitsN f) (y.bitsN f)
  | .two _ x y => max (x.bitsN f) (y.bitsN f) + 1
  | .pick x y z => max (x.bitsN f) (max (y.bitsN f) (z.bitsN f))
  | .choose x ns => max (x.bitsN f) (maxN (ns.map f))
theorem bitsN_pos {f : List Nat → Nat} (hf : ∀ u, 0 < f u) : ∀ r : Rcp, 0 < r.bitsN f
  | .num _ => Nat.succ_pos _
  | .read t => hf t
  | .two k x y => by
    have hx := bitsN_pos hf x
    have hy := bitsN_pos hf y
    cases k <;> simp only [Rcp.bitsN] <;> omega
  | .pick x y z => by
    have hx := bitsN_pos hf x
    simp only [Rcp.bitsN]; omega
  | .choose x ns => by
    have hx := bitsN_pos hf x
    simp only [Rcp.bitsN]; omega
theorem apN {f : List Nat → Nat} {k : Kd} {x y : Rcp} {v w : Int} (hx : v.natAbs < 2 ^ x.bitsN f) (hy : w.natAbs < 2 ^ y.bitsN f) : (k.ap v w).natAbs < 2 ^ (Rcp.two k x y).bitsN f := by
  have hx' := pow_mono hx (Nat.le_max_left _ (y.bitsN f))
  have hy' := pow_mono hy (Nat.le_max_right (x.bitsN f) _)
  cases k with
  | plus =>
    show (v + w).natAbs < 2 ^ (max (x.bitsN f) (y.bitsN f) + 1)
    rw [Nat.pow_succ]
    omega
  | minus =>
    show (v - w).natAbs < 2 ^ (max (x.bitsN f) (y.bitsN f) + 1)
    rw [Nat.pow_succ]
    omega
  | times =>
    show (v * w).natAbs < 2 ^ (x.bitsN f + y.bitsN f)
    rw [Int.natAbs_mul, Nat.pow_add]
    exact Nat.mul_lt_mul'' hx hy
  | most => exact max_small hx' hy'
theorem Rcp.Ev.smallN {F : List Nat → Int → Prop} {f : List Nat → Nat} (hf : ∀ t v, F t v → v.natAbs < 2 ^ f t) : ∀ {r : Rcp} {v : Int}, r.Wn → r.Ev F v → v.natAbs < 2 ^ r.bitsN f
  | .num n, v, _, h => by
    rw [show v = n from h]
    exact Nat.lt_log2_self
  | .read t, v, _, h => hf t v h
  | .two k x y, v, w, h => by
    obtain ⟨a, c, h1, h2, rfl⟩ := h
    exact apN (h1.smallN hf w.1) (h2.smallN hf w.2)
  | .pick x y z, v, w, h => by
    obtain ⟨a, h1, h2, h3⟩ := h
    by_cases c : a > 0
    · exact pow_mono ((h2 c).smallN hf w.2.1) (by simp only [Rcp.bitsN]; omega)
    · exact pow_mono ((h3 c).smallN hf w.2.2) (by simp only [Rcp.bitsN]; omega)
  | .choose x ns, v, w, h => by
    obtain ⟨a, h1, h2⟩ := h
    obtain ⟨i, _, hi⟩ := nth_mem w.2.1 a
    have := maxN_ge (List.mem_map.mpr ⟨_, List.mem_of_getElem? hi, rfl⟩ : f (nthN ns a) ∈ ns.map f)
    exact pow_mono (hf _ _ h2) (by simp only [Rcp.bitsN]; omega)
theorem Rcp.Fit.of_bitsN {F : List Nat → Int → Prop} {f : List Nat → Nat} (hp : ∀ u, 0 < f u) (hf : ∀ t v, F t v → v.natAbs < 2 ^ f t) : ∀ {r : Rcp}, r.Wn → r.bitsN f ≤ 1000000 → r.Fit F
  | .num _, _, _ => trivial
  | .read _, _, _ => trivial
  | .two k x y, w, h => by
    have hs : x.bitsN f ≤ (Rcp.two k x y).bitsN f ∧ y.bitsN f ≤ (Rcp.two k x y).bitsN f := by cases k <;> simp only [Rcp.bitsN] <;> omega
    refine ⟨Fit.of_bitsN hp hf w.1 (by omega), fun a ha => ⟨Fit.of_bitsN hp hf w.2 (by omega), fun c hc e => ?_⟩⟩
    subst e
    exact wide_mul (ha.smallN hf w.1) (hc.smallN hf w.2) (bitsN_pos hp x) (bitsN_pos hp y) h
  | .pick x y z, w, h => by
    have e : (Rcp.pick x y z).bitsN f = max (x.bitsN f) (max (y.bitsN f) (z.bitsN f)) := rfl
    exact ⟨Fit.of_bitsN hp hf w.1 (by omega), fun a _ => ⟨fun _ => Fit.of_bitsN hp hf w.2.1 (by omega), fun _ => Fit.of_bitsN hp hf w.2.2 (by omega)⟩⟩
  | .choose x ns, w, h => by
    have e : (Rcp.choose x ns).bitsN f = max (x.bitsN f) (maxN (ns.map f)) := rfl
    exact Fit.of_bitsN (r := x) hp hf w.1 (by omega)
/-- no product stands in a recipe -/
def Rcp.NoT : Rcp → Prop
  | .two k x y => k ≠ .times ∧ x.NoT ∧ y.NoT
  | .pick x y z => x.NoT ∧ y.NoT ∧ z.NoT
  | .choose x _ => x.NoT
  | _ => True
theorem Rcp.Fit.noT {F : List Nat → Int → Prop} : ∀ {r : Rcp}, r.NoT → r.Fit F
  | .num _, _ => trivial
  | .read _, _ => trivial
  | .two _ _ _, h => ⟨Fit.noT h.2.1, fun _ _ => ⟨Fit.noT h.2.2, fun _ _ e => absurd e h.1⟩⟩
  | .pick _ _ _, h => ⟨Fit.noT h.1, fun _ _ => ⟨fun _ => Fit.noT h.2.1, fun _ => Fit.noT h.2.2⟩⟩
  | .choose x _, h => Fit.noT (r := x) h
/-- a house whose worths are bounded by names -/
structure HouseW (dm : Nat) (h : House) (f : List Nat → Nat) : Prop where
  rcp : ∀ p ∈ h.recs, Nm p.1 ∧ p.2.Wn ∧ p.2.dep ≤ dm ∧ p.2.bitsN f ≤ f p.1 ∧ p.2.bitsN f ≤ 1000000
  gvn : ∀ p ∈ h.given, Nm p.1 ∧ p.2.natAbs < 2 ^ f p.1
  pos : ∀ u, 0 < f u
theorem HouseW.small {dm : Nat} {h : House} {f : List Nat → Nat} (H : HouseW dm h f) : ∀ (n : Nat) {t : List Nat} {v : Int}, val h n t = some v → v.natAbs < 2 ^ f t
  | 0, t, v, e => by cases e
  | n + 1, t, v, e => by
    rw [val_succ] at e
    cases e1 : seen h.given t with
    | some x =>
      rw [e1] at e
      cases e
      exact (H.gvn _ (seen_mem e1)).2
    | none =>
      rw [e1] at e
      cases e2 : rcpOf h.recs t with
      | none => rw [e2] at e; cases e
      | some r =>
        rw [e2] at e
        cases e3 : wk (dnL (val h n)) r [] with
        | err x => simp only [e3] at e; cases e
        | ok w o =>
          simp only [e3] at e
          cases e
          obtain ⟨_, wn, _, b1, _⟩ := H.rcp _ (rcpOf_mem e2)
          exact pow_mono (((wk_ev e3).mono fun t x e => e.1).smallN (F := fun t x => val h n t = some x) (fun t v e => H.small n e) wn) b1
theorem HouseW.ok {dm : Nat} {h : House} {f : List Nat → Nat} (H : HouseW dm h f) (beta : Nat → Nat) : HouseOk dm h beta :=
  ⟨⟨fun p hp => ⟨(H.rcp p hp).1, (H.rcp p hp).2.1, (H.rcp p hp).2.2.1⟩, fun p hp => (H.gvn p hp).1⟩, fun p hp _ => Rcp.Fit.of_bitsN H.pos (fun t v ⟨n, e⟩ => H.small n e) (H.rcp p hp).2.1 (H.rcp p hp).2.2.2.2⟩
/-! ### the laws' own houses: numbers, recipes -/
open LamX NdefX
/-- a recipe out of the names ns, d deep -/
structure MadeR (ns : List (List Nat)) (d : Nat) (r : Rcp) : Prop where
  gd : r.Good
  wi : r.Wi (· ∈ ns)
  dp : r.dep ≤ d + 1
  bt : ∀ (f : List Nat → Nat) (b c : Nat), (∀ u ∈ ns, f u ≤ b) → (∀ u, ns.head? = some u → f u ≤ c) → 2 ≤ c → 2 ≤ b → r.bitsN f ≤ b + d * (c + 1)
  b2 : ∀ b, 3 ≤ b → r.bits b ≤ (d + 1) * b
theorem three_bits {n : Int} (hn : n.natAbs ≤ 3) : n.natAbs.log2 + 1 ≤ 2 := by
  have : n.natAbs = 0 ∨ n.natAbs = 1 ∨ n.natAbs = 2 ∨ n.natAbs = 3 := by omega
  rcases this with e | e | e | e <;> rw [e] <;> decide
theorem MadeR.num {ns : List (List Nat)} {n : Int} (hn : n.natAbs ≤ 3) (d : Nat) : MadeR ns d (.num n) :=
  ⟨Nat.lt_of_le_of_lt hn (by decide), trivial, Nat.le_add_left _ _, fun f b c _ _ _ h2 => by have := three_bits hn; show n.natAbs.log2 + 1 ≤ _; omega, fun b h => by have := three_bits hn; have := Nat.le_mul_of_pos_left b (show 0 < d + 1 from Nat.succ_pos d); show n.natAbs.log2 + 1 ≤ _; omega⟩
theorem MadeR.read {ns : List (List Nat)} (hN : ∀ u ∈ ns, Nm u) {t : List Nat} (h : t ∈ ns) (d : Nat) : MadeR ns d (.read t) :=
  ⟨hN t h, h, Nat.le_add_left _ _, fun f b c hb _ _ _ => by show f t ≤ _; have := hb t h; omega, fun b _ => by have := Nat.le_mul_of_pos_left b (show 0 < d + 1 from Nat.succ_pos d); show b ≤ _; exact this⟩
section
variable {ns : List (List Nat)} {d : Nat} {x y z : Rcp}
theorem mul_step (d c : Nat) : (d + 1) * (c + 1) = d * (c + 1) + (c + 1) := by rw [Nat.add_mul, Nat.one_mul]
theorem mul_up (d b : Nat) : (d + 1 + 1) * b = (d + 1) * b + b := by rw [Nat.add_mul (d + 1), Nat.one_mul]
theorem MadeR.two {k : Kd} (hk : k ≠ .times) (hx : MadeR ns d x) (hy : MadeR ns d y) : MadeR ns (d + 1) (.two k x y) :=
  ⟨⟨hx.gd, hy.gd⟩, ⟨hx.wi, hy.wi⟩, by have := hx.dp; have := hy.dp; show max x.dep y.dep + 1 ≤ d + 1 + 1; omega, fun f b c hb hc h1 h2 => by
    have a1 := hx.bt f b c hb hc h1 h2
    have a2 := hy.bt f b c hb hc h1 h2
    rw [mul_step]
    cases k with
    | times => exact absurd rfl hk
    | plus => show max (x.bitsN f) (y.bitsN f) + 1 ≤ _; omega
    | minus => show max (x.bitsN f) (y.bitsN f) + 1 ≤ _; omega
    | most => show max (x.bitsN f) (y.bitsN f) ≤ _; omega, fun b h => by
    have a1 := hx.b2 b h
    have a2 := hy.b2 b h
    rw [mul_up]
    cases k with
    | times => exact absurd rfl hk
    | plus => show max (x.bits b) (y.bits b) + 1 ≤ _; omega
    | minus => show max (x.bits b) (y.bits b) + 1 ≤ _; omega
    | most => show max (x.bits b) (y.bits b) ≤ _; omega⟩
theorem MadeR.times (hx : MadeR ns d x) {l : Rcp} (hl : MadeR (ns.take 1) 0 l) : MadeR ns (d + 1) (.two .times x l) := by
  refine ⟨⟨hx.gd, hl.gd⟩, ⟨hx.wi, hl.wi.imp fun t ht => List.mem_of_mem_take ht⟩, by have := hx.dp; have := hl.dp; show max x.dep l.dep + 1 ≤ d + 1 + 1; omega, fun f b c hb hc h1 h2 => ?_, fun b h => by have a1 := hx.b2 b h; have a2 := hl.b2 b h; rw [mul_up]; show x.bits b + l.bits b ≤ _; omega⟩
  · have a1 := hx.bt f b c hb hc h1 h2
    have h0 : ∀ u ∈ ns.take 1, f u ≤ c := fun u hu => by
      cases ns with
      | nil => exact nomatch hu
      | cons a r =>
        have : u = a := List.mem_singleton.mp hu
        rw [this]
        exact hc a rfl
    have a2 := hl.bt f c c h0 (fun u hu => by
      cases ns with
      | nil => exact nomatch hu
      | cons a r =>
        have : a = u := Option.some.inj hu
        rw [← this]
        exact hc a rfl) h1 h1
    rw [mul_step]
    show x.bitsN f + l.bitsN f ≤ _
    omega
theorem MadeR.pick (hx : MadeR ns d x) (hy : MadeR ns d y) (hz : MadeR ns d z) : MadeR ns (d + 1) (.pick x y z) :=
  ⟨⟨hx.gd, hy.gd, hz.gd⟩, ⟨hx.wi, hy.wi, hz.wi⟩, by have := hx.dp; have := hy.dp; have := hz.dp; show max x.dep (max y.dep z.dep) + 1 ≤ d + 1 + 1; omega, fun f b c hb hc h1 h2 => by
    have a1 := hx.bt f b c hb hc h1 h2
    have a2 := hy.bt f b c hb hc h1 h2
    have a3 := hz.bt f b c hb hc h1 h2
    rw [mul_step]
    show max (x.bitsN f) (max (y.bitsN f) (z.bitsN f)) ≤ _
    omega, fun b h => by
    have a1 := hx.b2 b h
    have a2 := hy.b2 b h
    have a3 := hz.b2 b h
    rw [mul_up]
    show max (x.bits b) (max (y.bits b) (z.bits b)) ≤ _
    omega⟩
theorem MadeR.choose (hx : MadeR ns d x) {ms : List (List Nat)} (hm : ∀ u ∈ ms, u ∈ ns) (hM : Nms ms) : MadeR ns (d + 1) (.choose x ms) :=
  ⟨⟨hx.gd, hM⟩, ⟨hx.wi, hm⟩, by have := hx.dp; show x.dep + 1 ≤ d + 1 + 1; omega, fun f b c hb hc h1 h2 => by
    have a1 := hx.bt f b c hb hc h1 h2
    have a2 : maxN (ms.map f) ≤ b := maxN_le fun a ha => by obtain ⟨u, hu, rfl⟩ := List.mem_map.mp ha; exact hb u (hm u hu)
    rw [mul_step]
    show max (x.bitsN f) (maxN (ms.map f)) ≤ _
    omega, fun b h => by
    have a1 := hx.b2 b h
    rw [mul_up]
    show max (x.bits b) b ≤ _
    have := Nat.le_mul_of_pos_left b (show 0 < d + 1 from Nat.succ_pos d)
    omega⟩
end
/-- a cell of the script, or a number of its own -/
def spCellA (K : PySem.W.Frag) : Sp := fun vs H Q _ => ∃ (a : Addr) (ns : List Int) (k : Int), vs = [.ref a, .int k] ∧ SqL K H a (ns.map V.int) ∧ ns.length ≤ 63 ∧ 0 ≤ k ∧ k ≤ 100000 ∧ ∀ v, Q (.int v) H
def spMixA : Sp := fun vs H Q _ => ∃ (c k : Int), vs = [.int c, .int k] ∧ 0 ≤ k ∧ k ≤ 100000 ∧ ∀ v, Q (.int v) H
def spRcpA (n : Nat) : Sp := fun vs H Q _ => ∃ (c : Int) (L : Addr) (ns : List (List Nat)) (d : Nat), vs = [.int c, .ref L, .int (d : Int)] ∧ d + 1 ≤ n ∧ d ≤ 3 ∧ H L = some (.lst (txs ns)) ∧ ns.length ≤ 100 ∧ (∀ u ∈ ns, Nm u) ∧ ∀ (H' : Hp) (T : Addr) (rv : V) (r : Rcp) (c' : Int), Same H H' → H' T = some (.tup [rv, .int c']) → MadeR ns d r → Rec H' r rv → Q (.ref T) H'
/-! ### the laws' own houses -/
open LamX NdefX
def wtA (u : List Nat) : Nat := match u with
  | [c] => if 120 ≤ c then 20 else 20 + 70 * (c - 96)
  | _ => 20
def rkA (u : List Nat) : Nat := match u with
  | [c] => if 120 ≤ c then 0 else c - 96
  | _ => 0
/-- a house of names that look ahead alone -/
structure HouseG (h : House) : Prop where
  rcp : ∀ p ∈ h.recs, Nm p.1 ∧ p.2.Good ∧ p.2.dep ≤ 5 ∧ p.2.bitsN wtA ≤ wtA p.1 ∧ p.2.Wi fun u => u ∈ h.given.map (·.1) ++ h.recs.map (·.1) ∧ rkA u < rkA p.1
  gvn : ∀ p ∈ h.given, Nm p.1 ∧ p.2.natAbs < 2 ^ 20
  nd : (h.given.map (·.1) ++ h.recs.map (·.1)).Nodup
theorem wtA_ge (u : List Nat) : 20 ≤ wtA u ∧ wtA u ≤ 100000 ∨ 20 ≤ wtA u := by
  unfold wtA
  split
  · split <;> omega
  · exact .inr (Nat.le_refl _)
theorem wtA_20 (u : List Nat) : 20 ≤ wtA u := (wtA_ge u).elim (·.1) id
theorem nm_rk {u : List Nat} (h : Nm u) : wtA u ≤ 2000 := by
  unfold wtA
  split
  · rename_i c
    have := h.2.2 c (List.mem_singleton.mpr rfl)
    split <;> omega
  · omega
theorem HouseG.w {h : House} (G : HouseG h) : HouseW 5 h wtA :=
  ⟨fun p hp => by
    obtain ⟨a, b, c, d, _⟩ := G.rcp p hp
    exact ⟨a, good_wn b, c, d, by have := nm_rk a; omega⟩, fun p hp => ⟨(G.gvn p hp).1, Nat.lt_of_lt_of_le (G.gvn p hp).2 (Nat.pow_le_pow_right (by decide) (wtA_20 _))⟩, fun u => Nat.lt_of_lt_of_le (by decide) (wtA_20 u)⟩
theorem HouseG.ok {h : House} (G : HouseG h) (beta : Nat → Nat) : HouseOk 5 h beta := G.w.ok beta
theorem Ev_total {F : List Nat → Int → Prop} {S : List Nat → Prop} (hS : ∀ u, S u → ∃ v, F u v) : ∀ {r : Rcp}, r.Wn → r.Wi S → ∃ v, r.Ev F v
  | .num n, _, _ => ⟨n, rfl⟩
  | .read t, _, w => hS t w
  | .two k x y, n, w => by
    obtain ⟨a, ha⟩ := Ev_total hS n.1 w.1
    obtain ⟨b, hb⟩ := Ev_total hS n.2 w.2
    exact ⟨k.ap a b, a, b, ha, hb, rfl⟩
  | .pick x y z, n, w => by
    obtain ⟨a, ha⟩ := Ev_total hS n.1 w.1
    by_cases c : a > 0
    · obtain ⟨b, hb⟩ := Ev_total hS n.2.1 w.2.1
      exact ⟨b, a, ha, fun _ => hb, fun z => absurd c z⟩
    · obtain ⟨b, hb⟩ := Ev_total hS n.2.2 w.2.2
      exact ⟨b, a, ha, fun z => absurd z c, fun _ => hb⟩
  | .choose x ns, n, w => by
    obtain ⟨a, ha⟩ := Ev_total hS n.1 w.1
    obtain ⟨i, _, hi⟩ := nth_mem n.2.1 a
    obtain ⟨b, hb⟩ := hS _ (w.2 _ (List.mem_of_getElem? hi))
    exact ⟨b, a, ha, hb⟩
theorem rcpOf_ndA {l : List RcpNm} (nd : (l.map (·.1)).Nodup) {p : RcpNm} (h : p ∈ l) : rcpOf l p.1 = some p.2 := by
  induction l with
  | nil => exact nomatch h
  | cons q l ih =>
    obtain ⟨n1, n2⟩ := List.nodup_cons.mp nd
    rw [show rcpOf (q :: l) p.1 = if q.1 = p.1 then some q.2 else rcpOf l p.1 from getA_cons q l p.1]
    rcases List.mem_cons.mp h with rfl | h
    · rw [if_pos rfl]
    · rw [if_neg fun e => n1 (by show q.1 ∈ _; rw [e]; exact List.mem_map.mpr ⟨p, h, rfl⟩), ih n2 h]
/-- each name has a worth -/
theorem HouseG.val {h : House} (G : HouseG h) : ∀ (n : Nat) (u : List Nat), rkA u < n → u ∈ h.given.map (·.1) ++ h.recs.map (·.1) → ∃ v, Val h u v
  | 0, u, hn, _ => absurd hn (Nat.not_lt_zero _)
  | n + 1, u, hn, hu => by
    cases e : seen h.given u with
    | some v => exact ⟨v, .given e⟩
    | none =>
      have hr : u ∈ h.recs.map (·.1) := (List.mem_append.mp hu).resolve_left (seen_none e)
      obtain ⟨p, hp, rfl⟩ := List.mem_map.mp hr
      obtain ⟨_, gd, _, _, wi⟩ := G.rcp p hp
      have e2 := rcpOf_ndA (List.nodup_append.mp G.nd).2.1 hp
      obtain ⟨v, hv⟩ := Ev_total (F := Val h) (fun w hw => G.val n w (by have := hw.2; omega) hw.1) (good_wn gd) wi
      exact ⟨v, .work_ev e e2 hv⟩
theorem HouseG.has {h : House} (G : HouseG h) {u : List Nat} (hu : u ∈ h.given.map (·.1) ++ h.recs.map (·.1)) : ∃ v, Val h u v := G.val (rkA u + 1) u (Nat.lt_succ_self _) hu
def xyz : List (List Nat) := [[120], [121], [122]]
def lets (k : Nat) : List (List Nat) := (List.range k).map fun j => [97 + j]
theorem lets_succ (k : Nat) : lets (k + 1) = lets k ++ [[97 + k]] := by unfold lets; rw [List.range_succ, List.map_append]; rfl
theorem lets_mem {k : Nat} {u : List Nat} (h : u ∈ lets k) : ∃ j, j < k ∧ u = [97 + j] := by
  obtain ⟨j, hj, e⟩ := List.mem_map.mp h
  exact ⟨j, List.mem_range.mp hj, e.symm⟩
theorem nm_let {c : Nat} (h : 97 ≤ c ∧ c ≤ 122) : Nm [c] := ⟨Nat.le_refl 1, (by show 1 ≤ 8; decide), fun x hx => by rw [List.mem_singleton.mp hx]; exact h⟩
/-- a house as the laws draw it -/
structure HouseL (h : House) (m : Nat) : Prop where
  m1 : 1 ≤ m
  m8 : m ≤ 8
  gk : h.given.map (·.1) = xyz
  gv : ∀ p ∈ h.given, p.2.natAbs ≤ 3
  rk : h.recs.map (·.1) = lets m
  rc : ∀ k p, h.recs[k]? = some p → MadeR (xyz ++ lets k) 3 p.2
theorem lets_nd (k : Nat) : (lets k).Nodup := by
  unfold lets
  refine List.pairwise_map.mpr (List.Pairwise.imp (fun {a b} h e => h (by have := List.cons.inj e; omega)) List.nodup_range)
theorem xyz_lets_nd {m : Nat} (h : m ≤ 22) : (xyz ++ lets m).Nodup := by
  refine List.nodup_append.mpr ⟨by decide, lets_nd m, fun x hx y hy e => ?_⟩
  obtain ⟨j, hj, rfl⟩ := lets_mem hy
  rw [e] at hx
  unfold xyz at hx
  simp only [List.mem_cons, List.not_mem_nil, or_false, List.cons.injEq, and_true] at hx
  omega
/-- what a drawn recipe of names ahead is -/
theorem MadeR.ahead {k : Nat} (hk : k < 23) {r : Rcp} (M : MadeR (xyz ++ lets k) 3 r) {S : List Nat → Prop} (hS : ∀ u, u ∈ xyz ++ lets k → S u) : r.Good ∧ r.dep ≤ 4 ∧ r.bitsN wtA ≤ wtA [97 + k] - 1 ∧ r.Wi fun u => S u ∧ rkA u < rkA [97 + k] := by
  have wk : wtA [97 + k] = 20 + 70 * (k + 1) := by
    show (if 120 ≤ 97 + k then 20 else 20 + 70 * (97 + k - 96)) = _
    rw [if_neg (by omega)]
    omega
  have rk : rkA [97 + k] = k + 1 := by
    show (if 120 ≤ 97 + k then 0 else 97 + k - 96) = _
    rw [if_neg (by omega)]
    omega
  have low : ∀ u, u ∈ xyz ++ lets k → wtA u ≤ 20 + 70 * k ∧ rkA u ≤ k := fun u hu => by
    rcases List.mem_append.mp hu with hu | hu
    · have h1 : ∀ u ∈ xyz, wtA u = 20 ∧ rkA u = 0 := by decide
      obtain ⟨a, b⟩ := h1 u hu
      omega
    · obtain ⟨j, hj, rfl⟩ := lets_mem hu
      refine ⟨?_, ?_⟩
      · show (if 120 ≤ 97 + j then 20 else 20 + 70 * (97 + j - 96)) ≤ _
        split <;> omega
      · show (if 120 ≤ 97 + j then 0 else 97 + j - 96) ≤ _
        split <;> omega
  refine ⟨M.gd, M.dp, ?_, M.wi.imp fun u hu => ⟨hS u hu, by rw [rk]; have := (low u hu).2; omega⟩⟩
  have := M.bt wtA (20 + 70 * k) 20 (fun u hu => (low u hu).1) (fun u hu => by
    have : u = [120] := (Option.some.inj hu).symm
    rw [this]
    decide) (by decide) (by omega)
  rw [wk]
  omega
theorem HouseL.g {h : House} {m : Nat} (L : HouseL h m) : HouseG h := by
  have hk : h.given.map (·.1) ++ h.recs.map (·.1) = xyz ++ lets m := by rw [L.gk, L.rk]
  have := L.m8
  refine ⟨fun p hp => ?_, fun p hp => ?_, by rw [hk]; exact xyz_lets_nd (by omega)⟩
  · obtain ⟨k, hk2⟩ := List.mem_iff_getElem?.mp hp
    have hl : h.recs.length = m := by have := congrArg List.length L.rk; rw [List.length_map] at this; rw [this]; unfold lets; rw [List.length_map, List.length_range]
    have hkl : k < m := by rw [← hl]; exact (List.getElem?_eq_some_iff.mp hk2).1
    have e : p.1 = [97 + k] := by
      have h1 : (h.recs.map (·.1))[k]? = some p.1 := by rw [List.getElem?_map, hk2]; rfl
      rw [L.rk] at h1
      unfold lets at h1
      rw [List.getElem?_map, List.getElem?_range hkl] at h1
      exact (Option.some.inj h1).symm
    obtain ⟨a, b, c, d⟩ := (L.rc k p hk2).ahead (by omega) (S := fun u => u ∈ xyz ++ lets m) (fun u hu => by
      rcases List.mem_append.mp hu with hu | hu
      · exact List.mem_append_left _ hu
      · obtain ⟨j, hj, rfl⟩ := lets_mem hu
        exact List.mem_append_right _ (List.mem_map.mpr ⟨j, List.mem_range.mpr (by omega), rfl⟩))
    rw [e, hk]
    exact ⟨nm_let ⟨by omega, by omega⟩, a, by omega, by omega, d⟩
  · have : p.1 ∈ xyz := by rw [← L.gk]; exact List.mem_map.mpr ⟨p, hp, rfl⟩
    refine ⟨?_, Nat.lt_of_le_of_lt (L.gv p hp) (by decide)⟩
    have h1 : ∀ u ∈ xyz, 1 ≤ u.length ∧ u.length ≤ 8 ∧ ∀ c ∈ u, 97 ≤ c ∧ c ≤ 122 := by decide
    exact h1 _ this
/-- told: two new dicts, a new tuple of both -/
def spHouseA (K : PySem.W.Frag) : Sp := fun vs H Q _ => ∃ (a : Addr) (ns : List Int) (start : Int), vs = [.ref a, .int start, .bl false] ∧ SqL K H a (ns.map V.int) ∧ ns.length ≤ 63 ∧ 0 ≤ start ∧ start ≤ 900 ∧
  ∀ (U G R : Addr) (h : House) (m : Nat) (kvs : List (Key × V)) (H' : Hp), Same H H' → H U = none → H G = none → H R = none → H' U = some (.tup [.ref G, .ref R]) → H' G = some (.dK (numsK h.given)) → H' R = some (.dK kvs) → KvR (Rec H') h.recs kvs → HouseL h m → Q (.ref U) H'
theorem nd_take {α : Type} {l : List α} (nd : l.Nodup) {i : Nat} {x : α} (h : l[i]? = some x) : ¬ x ∈ l.take i := fun z => by
  obtain ⟨j, hj⟩ := List.mem_iff_getElem?.mp z
  have jl : j < (l.take i).length := (List.getElem?_eq_some_iff.mp hj).1
  rw [List.length_take] at jl
  rw [List.getElem?_take_of_lt (by omega)] at hj
  obtain ⟨hi, ei⟩ := List.getElem?_eq_some_iff.mp h
  obtain ⟨hj', ej⟩ := List.getElem?_eq_some_iff.mp hj
  have := (List.getElem_inj nd).mp (ei.trans ej.symm)
  omega
theorem sign_of {z : Str} {l : List Nat} (e : z = SX.S l) {i : Int} {n : Nat} (hi : i = (n : Int)) (h : n < l.length) : 0 ≤ i ∧ i < (z.length : Int) ∧ z.cps[i.toNat]? = some l[n] := by
  subst e
  refine ⟨by omega, by rw [SX.S_len]; omega, ?_⟩
  show l.toArray[i.toNat]? = _
  rw [List.getElem?_toArray, show i.toNat = n by omega, List.getElem?_eq_getElem h]
theorem xyz_txt : ("xyz" : Str) = SX.S [120, 121, 122] := by decide +kernel
theorem abc_txt : ("abcdefgh" : Str) = SX.S [97, 98, 99, 100, 101, 102, 103, 104] := by decide +kernel
theorem abc_at {j : Nat} (h : j < 8) : ([97, 98, 99, 100, 101, 102, 103, 104] : List Nat)[j]'h = 97 + j := by
  have : ∀ j : Fin 8, ([97, 98, 99, 100, 101, 102, 103, 104] : List Nat)[j.val]'j.isLt = 97 + j.val := by decide
  exact this ⟨j, h⟩
/-! ### the laws' own fresh builds -/
open LamX NdefX
structure LA where
  S : Addr
  W : Addr
  Rc : Addr
  O : Addr
  Pn : Addr
  Rs : Addr
  B : Hp
def LA.own (L : LA) : List Addr := [L.W, L.Rc, L.O, L.Pn, L.Rs]
def stK (L : LA) : List (Key × V) := [(kT "worths", .ref L.W), (kT "records", .ref L.Rc), (kT "order", .ref L.O), (kT "open", .ref L.Pn), (kT "reads", .ref L.Rs)]
theorem stK_get (L : LA) : valV (stK L) (kT "worths") = some (.ref L.W) ∧ valV (stK L) (kT "records") = some (.ref L.Rc) ∧ valV (stK L) (kT "order") = some (.ref L.O) ∧ valV (stK L) (kT "open") = some (.ref L.Pn) ∧ valV (stK L) (kT "reads") = some (.ref L.Rs) := by
  have h1 : decide (kT "worths" = kT "records") = false := by decide +kernel
  have h2 : decide (kT "worths" = kT "order") = false := by decide +kernel
  have h3 : decide (kT "worths" = kT "open") = false := by decide +kernel
  have h4 : decide (kT "worths" = kT "reads") = false := by decide +kernel
  have h5 : decide (kT "records" = kT "order") = false := by decide +kernel
  have h6 : decide (kT "records" = kT "open") = false := by decide +kernel
  have h7 : decide (kT "records" = kT "reads") = false := by decide +kernel
  have h8 : decide (kT "order" = kT "open") = false := by decide +kernel
  have h9 : decide (kT "order" = kT "reads") = false := by decide +kernel
  have ha : decide (kT "open" = kT "reads") = false := by decide +kernel
  refine ⟨rfl, ?_, ?_, ?_, ?_⟩
  all_goals simp only [valV, stK, List.find?_cons, h1, h2, h3, h4, h5, h6, h7, h8, h9, ha, decide_true, Option.map_some]
/-- a row told: its list of reads is none of the state's -/
def RowL (L : LA) (stk : List Addr) (H : Hp) (r : Row × Addr) (v : V) : Prop := ∃ T rv xs, v = .ref T ∧ H T = some (.tup [rv, .ref r.2, .int r.1.2.2]) ∧ Rec H r.1.2.1 rv ∧ L.B r.2 = none ∧ r.2 ∉ [L.O, L.Pn, L.Rs] ++ stk ∧ H r.2 = some (.lst xs) ∧ Prs H r.1.1 xs
theorem RowL.mp {L : LA} {stk stk' : List Addr} {H H' : Hp} (k : Keep H H') (l : ∀ b xs, b ∉ [L.O, L.Pn, L.Rs] ++ stk → H b = some (.lst xs) → H' b = some (.lst xs) ∧ b ∉ [L.O, L.Pn, L.Rs] ++ stk') {r : Row × Addr} {v : V} (h : RowL L stk H r v) : RowL L stk' H' r v := by
  obtain ⟨T, rv, xs, e, h1, h2, h3, n, h4, h5⟩ := h
  exact ⟨T, rv, xs, e, k _ _ h1, h2.keep k, h3, (l _ _ n h4).2, (l _ _ n h4).1, h5.keep k⟩
structure LAt (Tb : List NTab) (L : LA) (s : AgS) (stk : List Addr) (H : Hp) : Prop where
  st : H L.S = some (.dK (stK L))
  fr : FrS Tb [] L.B H
  new : L.B L.W = none ∧ L.B L.Rc = none ∧ L.B L.O = none ∧ L.B L.Pn = none ∧ L.B L.Rs = none
  wn : H L.W = some (.dK (numsK s.known))
  bk : ∃ kvs, ∃ bl : Bl, H L.Rc = some (.dK kvs) ∧ bl.map (fun p => (p.1, p.2.1)) = s.book ∧ (bl.map fun p => p.2.2).Nodup ∧ KvR (RowL L stk H) bl kvs
  or_ : H L.O = some (.lst (txs s.made))
  pn : H L.Pn = some (.lst (txs s.going))
  rs : H L.Rs = some (.lst (stk.map V.ref))
  sk : ∀ q ∈ stk, q ∉ [L.O, L.Pn, L.Rs] ∧ L.B q = none ∧ ∃ xs, H q = some (.lst xs)
  ne : L.W ≠ L.Rc ∧ L.S ≠ L.W ∧ L.S ≠ L.Rc ∧ L.O ≠ L.Pn ∧ L.O ≠ L.Rs ∧ L.Pn ≠ L.Rs
section
variable {Tb : List NTab} {L : LA} {s : AgS} {stk : List Addr} {H H' : Hp}
theorem LAt.same (a : LAt Tb L s stk H) (sm : Same H H') : LAt Tb L s stk H' := by
  obtain ⟨kvs, bl, h3, h4, h5, h6⟩ := a.bk
  exact ⟨sm _ _ a.st, a.fr.trans (FrS.of sm), a.new, sm _ _ a.wn, ⟨kvs, bl, sm _ _ h3, h4, h5, h6.imp fun r v q => q.mp (same_keep sm) fun b xs n e => ⟨sm _ _ e, n⟩⟩, sm _ _ a.or_, sm _ _ a.pn, sm _ _ a.rs, fun q hq => ⟨(a.sk q hq).1, (a.sk q hq).2.1, by obtain ⟨xs, e⟩ := (a.sk q hq).2.2; exact ⟨xs, sm _ _ e⟩⟩, a.ne⟩
theorem LAt.ownDL (a : LAt Tb L s stk H) {x : Addr} (hx : x ∈ L.own) : L.B x = none ∧ x ≠ L.S ∧ ((∃ kvs, H x = some (.dK kvs)) ∨ ((∃ xs, H x = some (.lst xs)) ∧ x ∈ [L.O, L.Pn, L.Rs])) := by
  obtain ⟨kvs, bl, h3, _⟩ := a.bk
  obtain ⟨n1, n2, n3, n4, n5⟩ := a.new
  have ls : ∀ {x xs}, H x = some (.lst xs) → x ≠ L.S := fun e z => by rw [z, a.st] at e; cases e
  unfold LA.own at hx
  rcases List.mem_cons.mp hx with rfl | hx
  · exact ⟨n1, a.ne.2.1.symm, .inl ⟨_, a.wn⟩⟩
  rcases List.mem_cons.mp hx with rfl | hx
  · exact ⟨n2, a.ne.2.2.1.symm, .inl ⟨_, h3⟩⟩
  rcases List.mem_cons.mp hx with rfl | hx
  · exact ⟨n3, ls a.or_, .inr ⟨⟨_, a.or_⟩, by simp⟩⟩
  rcases List.mem_cons.mp hx with rfl | hx
  · exact ⟨n4, ls a.pn, .inr ⟨⟨_, a.pn⟩, by simp⟩⟩
  rw [List.mem_singleton.mp hx]
  exact ⟨n5, ls a.rs, .inr ⟨⟨_, a.rs⟩, by simp⟩⟩
/-- what any store to its own does not touch -/
theorem LAt.rest (a : LAt Tb L s stk H) {x : Addr} {o : HO} (hx : x ∈ L.own) :
    upd H x o L.S = some (.dK (stK L)) ∧ FrS Tb [] L.B (upd H x o) ∧ Keep H (upd H x o) ∧ FrS Tb L.own H (upd H x o) ∧ (∀ r v, RowL L stk H r v → RowL L stk (upd H x o) r v) ∧ ∀ q ∈ stk, q ∉ [L.O, L.Pn, L.Rs] ∧ L.B q = none ∧ ∃ xs, upd H x o q = some (.lst xs) := by
  obtain ⟨nx, ns, dl⟩ := a.ownDL hx
  have dl' : DL H x := dl.imp id fun h => h.1
  have k : Keep H (upd H x o) := fun b ys e => by
    rw [upd_ne (fun z => by rcases dl' with ⟨_, d⟩ | ⟨_, d⟩ <;> rw [z, d] at e <;> cases e)]
    exact e
  have l : ∀ b xs, b ∉ [L.O, L.Pn, L.Rs] → H b = some (.lst xs) → upd H x o b = some (.lst xs) := fun b xs n e => by
    rw [upd_ne (fun z => ?_)]
    · exact e
    · rcases dl with ⟨_, d⟩ | ⟨_, d⟩
      · rw [z, d] at e; cases e
      · exact n (z ▸ d)
  refine ⟨by rw [upd_ne ns.symm]; exact a.st, a.fr.put0 nx dl', k, FrS.upd hx dl', fun r v q => q.mp k fun b xs n e => ⟨l b xs (fun z => n (List.mem_append_left _ z)) e, n⟩, fun q hq => ?_⟩
  obtain ⟨h1, h2, xs, e⟩ := a.sk q hq
  exact ⟨h1, h2, xs, l q xs h1 e⟩
theorem LAt.known (a : LAt Tb L s stk H) (t : List Nat) (v : Int) : LAt Tb L { s with known := putA s.known t v } stk (upd H L.W (.dK (numsK (putA s.known t v)))) := by
  obtain ⟨n1, n2, n3, n4, n5, n6⟩ := a.ne
  obtain ⟨r1, r2, r3, _, r5, r6⟩ := a.rest (x := L.W) (o := .dK (numsK (putA s.known t v))) (by unfold LA.own; simp)
  obtain ⟨kvs, bl, h3, h4, h5, h6⟩ := a.bk
  have ls : ∀ {b xs}, H b = some (.lst xs) → upd H L.W (.dK (numsK (putA s.known t v))) b = some (.lst xs) := fun {b xs} e => by rw [upd_ne (fun z => by rw [z, a.wn] at e; cases e)]; exact e
  exact ⟨r1, r2, a.new, upd_same, ⟨kvs, bl, by rw [upd_ne n1.symm]; exact h3, h4, h5, h6.imp r5⟩, ls a.or_, ls a.pn, ls a.rs, r6, a.ne⟩
theorem LAt.asking (a : LAt Tb L s stk H) (ns : List (List Nat)) : LAt Tb L { s with going := ns } stk (upd H L.Pn (.lst (txs ns))) := by
  obtain ⟨n1, n2, n3, n4, n5, n6⟩ := a.ne
  obtain ⟨r1, r2, r3, _, r5, r6⟩ := a.rest (x := L.Pn) (o := .lst (txs ns)) (by unfold LA.own; simp)
  obtain ⟨kvs, bl, h3, h4, h5, h6⟩ := a.bk
  have ds : ∀ {b xs}, H b = some (.dK xs) → upd H L.Pn (.lst (txs ns)) b = some (.dK xs) := fun {b xs} e => by rw [upd_ne (fun z => by rw [z, a.pn] at e; cases e)]; exact e
  exact ⟨r1, r2, a.new, ds a.wn, ⟨kvs, bl, ds h3, h4, h5, h6.imp r5⟩, by rw [upd_ne n4]; exact a.or_, upd_same, by rw [upd_ne n6.symm]; exact a.rs, r6, a.ne⟩
theorem LAt.making (a : LAt Tb L s stk H) (ns : List (List Nat)) : LAt Tb L { s with made := ns } stk (upd H L.O (.lst (txs ns))) := by
  obtain ⟨n1, n2, n3, n4, n5, n6⟩ := a.ne
  obtain ⟨r1, r2, r3, _, r5, r6⟩ := a.rest (x := L.O) (o := .lst (txs ns)) (by unfold LA.own; simp)
  obtain ⟨kvs, bl, h3, h4, h5, h6⟩ := a.bk
  have ds : ∀ {b xs}, H b = some (.dK xs) → upd H L.O (.lst (txs ns)) b = some (.dK xs) := fun {b xs} e => by rw [upd_ne (fun z => by rw [z, a.or_] at e; cases e)]; exact e
  exact ⟨r1, r2, a.new, ds a.wn, ⟨kvs, bl, ds h3, h4, h5, h6.imp r5⟩, upd_same, by rw [upd_ne n4.symm]; exact a.pn, by rw [upd_ne n5.symm]; exact a.rs, r6, a.ne⟩
/-- a list more on the pile -/
theorem LAt.push (a : LAt Tb L s stk H) {q : Addr} {xs : List V} (eq : H q = some (.lst xs)) (nB : L.B q = none) (nq : q ∉ [L.O, L.Pn, L.Rs]) (nr : ∀ kvs, H L.Rc = some (.dK kvs) → ∀ x ∈ kvs, ∀ T rv y, x.2 = V.ref T → H T = some (.tup [rv, V.ref q, y]) → False) : LAt Tb L s (stk ++ [q]) (upd H L.Rs (.lst ((stk ++ [q]).map V.ref))) := by
  obtain ⟨n1, n2, n3, n4, n5, n6⟩ := a.ne
  obtain ⟨r1, r2, r3, _, r5, r6⟩ := a.rest (x := L.Rs) (o := .lst ((stk ++ [q]).map V.ref)) (by unfold LA.own; simp)
  obtain ⟨kvs, bl, h3, h4, h5, h6⟩ := a.bk
  have ds : ∀ {b xs}, H b = some (.dK xs) → upd H L.Rs (.lst ((stk ++ [q]).map V.ref)) b = some (.dK xs) := fun {b xs} e => by rw [upd_ne (fun z => by rw [z, a.rs] at e; cases e)]; exact e
  have nqR : q ≠ L.Rs := fun z => nq (by rw [z]; simp)
  have each : ∀ p ∈ bl, p.2.2 ≠ q := fun p hp e => by
    obtain ⟨x, hx, T, rv, ys, e3, e4, _⟩ := KvR.each h6 p hp
    exact nr kvs h3 x hx T rv _ e3 (e ▸ e4)
  refine ⟨r1, r2, a.new, ds a.wn, ⟨kvs, bl, ds h3, h4, h5, ?_⟩, by rw [upd_ne n5]; exact a.or_, by rw [upd_ne n6]; exact a.pn, upd_same, fun p hp => ?_, a.ne⟩
  · have : ∀ {l : Bl} {m : List (Key × V)}, (∀ p ∈ l, p.2.2 ≠ q) → KvR (RowL L stk H) l m → KvR (RowL L (stk ++ [q]) (upd H L.Rs (.lst ((stk ++ [q]).map V.ref)))) l m := by
      intro l
      induction l with
      | nil => intro m _ h; cases m with
        | nil => exact trivial
        | cons _ _ => exact h.elim
      | cons p l ih => intro m hn h; cases m with
        | nil => exact h.elim
        | cons x m =>
          refine ⟨h.1, ?_, ih (fun y hy => hn y (List.mem_cons_of_mem _ hy)) h.2.2⟩
          obtain ⟨T, rv, ys, e, g1, g2, g3, n, g4, g5⟩ := r5 _ _ h.2.1
          refine ⟨T, rv, ys, e, g1, g2, g3, fun z => ?_, g4, g5⟩
          rw [← List.append_assoc] at z
          rcases List.mem_append.mp z with z | z
          · exact n z
          · exact hn p List.mem_cons_self (List.mem_singleton.mp z)
    exact this each h6
  · rcases List.mem_append.mp hp with hp | hp
    · exact r6 p hp
    · rw [List.mem_singleton.mp hp]
      exact ⟨nq, nB, xs, by rw [upd_ne nqR]; exact eq⟩
/-- the topmost list taken off the pile -/
theorem LAt.pop {q : Addr} (a : LAt Tb L s (stk ++ [q]) H) : LAt Tb L s stk (upd H L.Rs (.lst (stk.map V.ref))) := by
  obtain ⟨n1, n2, n3, n4, n5, n6⟩ := a.ne
  obtain ⟨r1, r2, r3, _, r5, r6⟩ := a.rest (x := L.Rs) (o := .lst (stk.map V.ref)) (by unfold LA.own; simp)
  obtain ⟨kvs, bl, h3, h4, h5, h6⟩ := a.bk
  have ds : ∀ {b xs}, H b = some (.dK xs) → upd H L.Rs (.lst (stk.map V.ref)) b = some (.dK xs) := fun {b xs} e => by rw [upd_ne (fun z => by rw [z, a.rs] at e; cases e)]; exact e
  exact ⟨r1, r2, a.new, ds a.wn, ⟨kvs, bl, ds h3, h4, h5, h6.imp fun r v q => (r5 r v q).mp (Keep.refl _) fun b xs n e => ⟨e, fun z => n (by rw [← List.append_assoc]; exact List.mem_append_left _ z)⟩⟩, by rw [upd_ne n5]; exact a.or_, by rw [upd_ne n6]; exact a.pn, upd_same, fun p hp => r6 p (List.mem_append_left _ hp), a.ne⟩
/-- something put down in the topmost list -/
theorem LAt.top {q : Addr} (a : LAt Tb L s (stk ++ [q]) H) (ys : List V) : LAt Tb L s (stk ++ [q]) (upd H q (.lst ys)) := by
  obtain ⟨kvs, bl, h3, h4, h5, h6⟩ := a.bk
  obtain ⟨nq, nB, xs, eq⟩ := a.sk q (List.mem_append_right _ (List.mem_singleton.mpr rfl))
  have dl : DL H q := .inr ⟨_, eq⟩
  have k : Keep H (upd H q (.lst ys)) := keep_lst eq
  have ds : ∀ {b xs}, H b = some (.dK xs) → upd H q (.lst ys) b = some (.dK xs) := fun {b xs} e => by rw [upd_ne (fun z => by rw [z, eq] at e; cases e)]; exact e
  have nn : ∀ {x}, x ∈ [L.O, L.Pn, L.Rs] → x ≠ q := fun hx z => nq (z ▸ hx)
  refine ⟨ds a.st, a.fr.put0 nB dl, a.new, ds a.wn, ⟨kvs, bl, ds h3, h4, h5, h6.imp fun r v p => p.mp k fun b zs n e => ⟨by rw [upd_ne (fun z => n (List.mem_append_right _ (List.mem_append_right _ (List.mem_singleton.mpr z))))]; exact e, n⟩⟩, by rw [upd_ne (nn (by simp))]; exact a.or_, by rw [upd_ne (nn (by simp))]; exact a.pn, by rw [upd_ne (nn (by simp))]; exact a.rs, fun p hp => ?_, a.ne⟩
  obtain ⟨g1, g2, zs, g3⟩ := a.sk p hp
  refine ⟨g1, g2, ?_⟩
  by_cases c : p = q
  · exact ⟨ys, by rw [c, upd_same]⟩
  · exact ⟨zs, by rw [upd_ne c]; exact g3⟩
/-- a row put down -/
theorem LAt.booking (a : LAt Tb L s stk H) {kvs : List (Key × V)} (e : H L.Rc = some (.dK kvs)) {t : List Nat} {o : Row} {q : Addr} {v : V} (hr : RowL L stk H (o, q) v) (hnew : ∀ x ∈ kvs, ∀ T rv y, x.2 = V.ref T → H T = some (.tup [rv, V.ref q, y]) → False) (hnt : ¬ t ∈ s.book.map (·.1)) :
    LAt Tb L { s with book := putA s.book t o } stk (upd H L.Rc (.dK (putK kvs (kT (SX.S t)) v))) := by
  obtain ⟨n1, n2, n3, n4, n5, n6⟩ := a.ne
  obtain ⟨r1, r2, r3, _, r5, r6⟩ := a.rest (x := L.Rc) (o := .dK (putK kvs (kT (SX.S t)) v)) (by unfold LA.own; simp)
  obtain ⟨kvs', bl, h3, h4, h5, h6⟩ := a.bk
  rw [e] at h3
  cases h3
  have ls : ∀ {b xs}, H b = some (.lst xs) → upd H L.Rc (.dK (putK kvs (kT (SX.S t)) v)) b = some (.lst xs) := fun {b xs} e2 => by rw [upd_ne (fun z => by rw [z, e] at e2; cases e2)]; exact e2
  have hk : bl.map (·.1) = s.book.map (·.1) := by rw [← h4, List.map_map]; rfl
  refine ⟨r1, r2, a.new, by rw [upd_ne n1]; exact a.wn, ⟨_, putA bl t (o, q), upd_same, ?_, ?_, (KvR.put (a := (o, q)) hr h6).imp r5⟩, ls a.or_, ls a.pn, ls a.rs, r6, a.ne⟩
  · rw [putA_map (fun x : Row × Addr => x.1) bl t (o, q), h4]
  · rw [putA_new _ (by rw [hk]; exact hnt), List.map_append]
    refine List.nodup_append.mpr ⟨h5, List.nodup_cons.mpr ⟨(fun z => nomatch z), List.nodup_nil⟩, fun x hx y hy e2 => ?_⟩
    obtain ⟨p, hp, rfl⟩ := List.mem_map.mp hx
    rw [List.mem_singleton.mp hy] at e2
    obtain ⟨x, hq, T, rv, xs, e3, e4, _⟩ := KvR.each h6 p hp
    exact hnew x hq T rv _ e3 (e2 ▸ e4)
end
/-! ### a pair in a row of pairs -/
theorem prs_any {q : Pr} : ∀ {ps : List Pr}, q ∈ ps → (Th.pyL (ps.map pairTh)).any (fun z => PyData.eqv z (pairTh q).py) = true
  | p :: ps, h => by
    show (PyData.eqv (pairTh p).py (pairTh q).py || (Th.pyL (ps.map pairTh)).any fun z => PyData.eqv z (pairTh q).py) = true
    rcases List.mem_cons.mp h with rfl | h
    · rw [show PyData.eqv (pairTh q).py (pairTh q).py = true by
        show ((SX.S q.1 == SX.S q.1) && ((q.2 == q.2) && true)) = true
        rw [SX.S_beq, beq_self_eq_true, beq_self_eq_true]
        rfl]
      rfl
    · rw [prs_any h, Bool.or_true]
theorem prs_not {q : Pr} : ∀ {ps : List Pr}, ¬ q.1 ∈ ps.map (·.1) → (Th.pyL (ps.map pairTh)).any (fun z => PyData.eqv z (pairTh q).py) = false
  | [], _ => rfl
  | p :: ps, h => by
    show (PyData.eqv (pairTh p).py (pairTh q).py || (Th.pyL (ps.map pairTh)).any fun z => PyData.eqv z (pairTh q).py) = false
    rw [show PyData.eqv (pairTh p).py (pairTh q).py = false by
      show ((SX.S p.1 == SX.S q.1) && ((p.2 == q.2) && true)) = false
      rw [SX.S_beq, beq_eq_false_iff_ne.mpr (fun e => h (by rw [List.map_cons, e]; exact List.mem_cons_self ..))]
      rfl, prs_not fun e => h (List.mem_cons_of_mem _ e)]
    rfl
theorem one_shaped {p : Pr} (h : Nm p.1) : SeqAt.shaped (pairTh p).py = true := by
  show (((PyData.str (SX.S p.1)).canLay0 && ((PyData.int p.2).canLay0 && true)) && decide (max 0 (max 0 0) + 1 ≤ 64)) = true
  rw [nm_lay h]
  rfl
/-! ### the laws' own fresh builds walked -/
open LamX NdefX
theorem OldOk.nil (h : House) : OldOk h [] := fun t o r e => by cases e
/-- what has been read is known with just that worth -/
def Cons (s : AgS) (own : List Pr) : Prop := ∀ p ∈ own, seen s.known p.1 = some p.2
def LJ (h : House) (beta : Nat → Nat) (G : List (List Nat)) : AgS × List Pr → Prop := fun p => AgOk h beta [] p.1 ∧ p.1.going = G ∧ OwnOk beta p.1.rk p.2 ∧ Cons p.1 p.2
theorem lj_look {dm n : Nat} {h : House} {beta : Nat → Nat} (HH : HouseN dm h beta) {G : List (List Nat)} (hG : h.recs.length + 1 ≤ G.length + n) : LkOk (lkO (agR h [] n)) (LJ h beta G) (Val h) := fun p u v p' hJ hu e => by
  obtain ⟨sp, op⟩ := p
  cases e1 : agR h [] n sp u with
  | err x => rw [lkO_err e1] at e; cases e
  | ok v' s' =>
    rw [lkO_ok e1] at e
    cases e
    obtain ⟨o1, s1, g1, _⟩ := agR_step HH (OldOk.nil h) hJ.1 hu (by rw [hJ.2.1]; exact hG) e1
    refine ⟨⟨o1, g1.trans hJ.2.1, hJ.2.2.1.look hu s1, fun p hp => ?_⟩, s1.worth⟩
    rcases mem_setd hp with rfl | hp
    · cases e2 : seen s'.known u with
      | none => exact absurd s1.got (seen_none e2)
      | some y =>
        have h1 : Val h u y := o1.kn e2
        show some y = some v
        rw [h1.det s1.worth]
    · exact kn_keep hJ.1.coh o1.coh s1.mono (hJ.2.2.2 p hp)
/-- where a house stands ahead of the build, and what is so of it -/
structure LPre (Tb : List NTab) (dm : Nat) (L : LA) (h : House) (beta : Nat → Nat) (hv : V) (s : AgS) (stk : List Addr) (H : Hp) : Prop where
  HH : HouseOk dm h beta
  ha : HouseAt L.B h hv
  sz : h.given.length + h.recs.length ≤ 100000
  at_ : LAt Tb L s stk H
  ok : AgOk h beta [] s
  sl : stk.length ≤ s.going.length + 1
def spLLook (Tb : List NTab) (dm n : Nat) : Sp := fun vs H Q _ => ∃ (L : LA) (h : House) (beta : Nat → Nat) (hv : V) (s : AgS) (stk : List Addr) (t : List Nat) (v : Int) (s' : AgS), vs = [hv, .str (SX.S t), .ref L.S] ∧ LPre Tb dm L h beta hv s stk H ∧ h.recs.length + 1 ≤ s.going.length + n ∧ Nm t ∧ agR h [] n s t = .ok v s' ∧
  ∀ H', FrS Tb L.own H H' → LAt Tb L s' stk H' → Q (.int v) H'
def spLRead (Tb : List NTab) (dm n : Nat) : Sp := fun vs H Q _ => ∃ (L : LA) (h : House) (beta : Nat → Nat) (hv : V) (s : AgS) (own : List Pr) (stk : List Addr) (q : Addr) (xs : List V) (t : List Nat) (v : Int) (p' : AgS × List Pr), vs = [hv, .str (SX.S t), .ref L.S] ∧ LPre Tb dm L h beta hv s (stk ++ [q]) H ∧ h.recs.length + 1 ≤ s.going.length + n ∧ Nm t ∧
  LJ h beta s.going (s, own) ∧ q ∉ stk ∧ H q = some (.lst xs) ∧ Prs H own xs ∧ lkO (agR h [] n) (s, own) t = .ok v p' ∧
  ∀ H' xs', FrS Tb (q :: L.own) H H' → LAt Tb L p'.1 (stk ++ [q]) H' → H' q = some (.lst xs') → Prs H' p'.2 xs' → Q (.int v) H'
def spLWork (Tb : List NTab) (dm n j : Nat) : Sp := fun vs H Q _ => ∃ (L : LA) (h : House) (beta : Nat → Nat) (hv rv : V) (r : Rcp) (s : AgS) (own : List Pr) (stk : List Addr) (q : Addr) (xs : List V) (v : Int) (p' : AgS × List Pr), vs = [hv, rv, .ref L.S] ∧ LPre Tb dm L h beta hv s (stk ++ [q]) H ∧ h.recs.length + 1 ≤ s.going.length + n ∧ Rec H r rv ∧ r.Wn ∧ r.dep ≤ j ∧ r.Fit (Val h) ∧
  LJ h beta s.going (s, own) ∧ q ∉ stk ∧ H q = some (.lst xs) ∧ Prs H own xs ∧ wk (lkO (agR h [] n)) r (s, own) = .ok v p' ∧
  ∀ H' xs', FrS Tb (q :: L.own) H H' → LAt Tb L p'.1 (stk ++ [q]) H' → H' q = some (.lst xs') → Prs H' p'.2 xs' → Q (.int v) H'
theorem LPre.next {Tb : List NTab} {dm : Nat} {L : LA} {h : House} {beta : Nat → Nat} {hv : V} {s s' : AgS} {stk : List Addr} {H H' : Hp} (p : LPre Tb dm L h beta hv s stk H) (a : LAt Tb L s' stk H') (o : AgOk h beta [] s') (g : s'.going = s.going) : LPre Tb dm L h beta hv s' stk H' := ⟨p.HH, p.ha, p.sz, a, o, by rw [g]; exact p.sl⟩
theorem FrS.top {Tb : List NTab} {L : LA} {s : AgS} {stk : List Addr} {q : Addr} {H H' : Hp} (a : LAt Tb L s (stk ++ [q]) H) (f : FrS Tb (q :: L.own) H H') : Keep H H' := f.keep fun x hx xs e => by
  rcases List.mem_cons.mp hx with rfl | hx
  · obtain ⟨_, _, ys, e2⟩ := a.sk x (List.mem_append_right _ (List.mem_singleton.mpr rfl))
    rw [e2] at e
    cases e
  · rcases (a.ownDL hx).2.2 with ⟨_, z⟩ | ⟨⟨_, z⟩, _⟩ <;> rw [z] at e <;> cases e
theorem LAt.topNot {Tb : List NTab} {L : LA} {s : AgS} {stk : List Addr} {q : Addr} {H : Hp} (a : LAt Tb L s (stk ++ [q]) H) : q ∉ L.own := fun z => by
  obtain ⟨h1, _, ys, e2⟩ := a.sk q (List.mem_append_right _ (List.mem_singleton.mpr rfl))
  rcases (a.ownDL z).2.2 with ⟨_, w⟩ | ⟨_, w⟩
  · rw [w] at e2; cases e2
  · exact h1 w
theorem atI_last {xs : List V} {v : V} : atI (xs ++ [v]) (-1) = some v := by
  have h2 : ixN (xs ++ [v]).length (-1) = some xs.length := by
    unfold ixN
    rw [if_neg (by decide), if_pos (by rw [List.length_append]; simp only [List.length_cons, List.length_nil]; omega)]
    rw [List.length_append]
    simp only [List.length_cons, List.length_nil]
    congr 1
    omega
  unfold atI
  rw [h2]
  show (xs ++ [v])[xs.length]? = some v
  rw [List.getElem?_append_right (Nat.le_refl _), Nat.sub_self]
  rfl
/-! ### look and fresh walked -/
open LamX NdefX
theorem stk_none {Tb : List NTab} {L : LA} {s : AgS} {stk : List Addr} {H : Hp} (a : LAt Tb L s stk H) {q : Addr} (n : H q = none) : q ∉ stk ∧ q ∉ [L.O, L.Pn, L.Rs] ∧ L.B q = none := by
  refine ⟨fun z => ?_, fun z => ?_, a.fr.2.1 q n⟩
  · obtain ⟨_, _, xs, e⟩ := a.sk q z
    rw [n] at e
    cases e
  · simp only [List.mem_cons, List.not_mem_nil, or_false] at z
    rcases z with z | z | z
    · rw [z, a.or_] at n; cases n
    · rw [z, a.pn] at n; cases n
    · rw [z, a.rs] at n; cases n
theorem last_pop (stk : List Addr) (q : Addr) : ((stk ++ [q]).map V.ref).dropLast = stk.map V.ref ∧ ((stk ++ [q]).map V.ref)[((stk ++ [q]).map V.ref).length - 1]? = some (.ref q) := by
  rw [List.map_append]
  refine ⟨List.dropLast_concat, ?_⟩
  rw [List.length_append, List.getElem?_append_right (by simp)]
  simp
theorem merge_st (L : LA) : mergeK [] (stK L) = stK L := by
  have h1 : decide (kT "worths" = kT "records") = false := by decide +kernel
  have h2 : decide (kT "worths" = kT "order") = false := by decide +kernel
  have h3 : decide (kT "worths" = kT "open") = false := by decide +kernel
  have h4 : decide (kT "worths" = kT "reads") = false := by decide +kernel
  have h5 : decide (kT "records" = kT "order") = false := by decide +kernel
  have h6 : decide (kT "records" = kT "open") = false := by decide +kernel
  have h7 : decide (kT "records" = kT "reads") = false := by decide +kernel
  have h8 : decide (kT "order" = kT "open") = false := by decide +kernel
  have h9 : decide (kT "order" = kT "reads") = false := by decide +kernel
  have ha : decide (kT "open" = kT "reads") = false := by decide +kernel
  simp only [mergeK, stK, List.foldl_cons, List.foldl_nil, putK, List.any_nil, List.any_cons, List.nil_append, List.cons_append, h1, h2, h3, h4, h5, h6, h7, h8, h9, ha, Bool.or_false, if_neg Bool.false_ne_true]
def spLState : Sp := fun vs H Q _ => vs = [] ∧ ∀ (L : LA) (H' : Hp), L.B = H → Same H H' → H L.S = none → H L.W = none → H L.Rc = none → H L.O = none → H L.Pn = none → H L.Rs = none → (L.W ≠ L.Rc ∧ L.S ≠ L.W ∧ L.S ≠ L.Rc ∧ L.O ≠ L.Pn ∧ L.O ≠ L.Rs ∧ L.Pn ≠ L.Rs) →
  H' L.S = some (.dK (stK L)) → H' L.W = some (.dK []) → H' L.Rc = some (.dK []) → H' L.O = some (.lst []) → H' L.Pn = some (.lst []) → H' L.Rs = some (.lst []) → Q (.ref L.S) H'
def spLFresh (K : PySem.W.Frag) (Tb : List NTab) (dm n : Nat) : Sp := fun vs H Q _ => ∃ (h : House) (beta : Nat → Nat) (hv : V) (wv : Addr) (ts : List (List Nat)) (v0 : Int) (s0 : RkS), vs = [hv, .ref wv] ∧ HouseOk dm h beta ∧ HouseAt H h hv ∧ h.given.length + h.recs.length ≤ 100000 ∧ h.recs.length + 1 ≤ n ∧ SqL K H wv (txs ts) ∧ (∀ t ∈ ts, Nm t) ∧ lkAll h n emptyS ts = .ok v0 s0 ∧
  ∀ (L : LA) (s : AgS) (H' : Hp), L.B = H → H L.S = none → FrS Tb [] H H' → LAt Tb L s [] H' → AgOk h beta [] s → s.rk = s0 → s.going = [] → Q (.ref L.S) H'
/-! ### rows as data -/
open LamX NdefX
/-- rows as data -/
def rowTh (r : List Pr × Rcp × Int) : Th := .tup [r.2.1.th, .lst (r.1.map pairTh), .int r.2.2]
theorem RowR.data {H : Hp} {r : List Pr × Rcp × Int} {v : V} (h : RowR H r v) : Data H (rowTh r) v := by
  obtain ⟨T, rv, L, xs, e, h1, h2, h3, h4⟩ := h
  exact ⟨T, _, e, h1, _, _, rfl, h2.data, _, _, rfl, ⟨L, xs, rfl, h3, h4.data⟩, _, _, rfl, rfl, rfl⟩
theorem rowTh_flat (r : List Pr × Rcp × Int) : (rowTh r).flat = true := by
  show (r.2.1.th.flat && (Th.flatL (r.1.map pairTh) && true)) = true
  rw [Rcp.flat, prs_flat]
  rfl
theorem rowTh_shaped {r : List Pr × Rcp × Int} (hg : r.2.1.Good) (hd : r.2.1.dep ≤ 60) (hn : ∀ p ∈ r.1, Nm p.1) : SeqAt.shaped (rowTh r).py = true := by
  obtain ⟨a1, a2⟩ := Rcp.lays hg
  obtain ⟨b1, b2⟩ := prs_lay hn
  show ((r.2.1.th.py.canLay0 && (PyData.canLayAll0 (Th.pyL (r.1.map pairTh)) && true)) && decide (max r.2.1.th.py.depth (max (PyData.depthAll (Th.pyL (r.1.map pairTh)) + 1) 0) + 1 ≤ 64)) = true
  rw [a1, b1, decide_eq_true (by omega)]
  rfl
/-! ### what a fresh build and a build from records have alike -/
open LamX NdefX
/-- there is a record by the same recipe whose reads all have the worths read -/
def alB (ws : List Pr) (old : Old) (t : List Nat) (r : Rcp) : Bool := match getA old t with
  | none => false
  | some o => sameR o.2.1 r && o.1.all fun p => decide (seen ws p.1 = some p.2)
theorem alB_good {h : House} {beta : Nat → Nat} {old : Old} {s : RkS} (R : Rest h beta s) (hO : OldOk h old) {t : List Nat} {r : Rcp} (ht : t ∈ s.read.map (·.1)) (er : rcpOf h.recs t = some r) : alB s.known old t r = isGood h old t := by
  by_cases g : GoodRec h old t
  · rw [isGood_t g]
    obtain ⟨o, r', e1, e2, e3, e4⟩ := g
    rw [er] at e2
    obtain rfl := Option.some.inj e2
    unfold alB
    rw [e1]
    show (sameR o.2.1 r && o.1.all fun p => decide (seen s.known p.1 = some p.2)) = true
    rw [e3, Bool.true_and]
    refine List.all_eq_true.mpr fun p hp => decide_eq_true ?_
    obtain ⟨T, _⟩ := hO t o r e1 er e3
    obtain ⟨q, hq, rfl⟩ := List.mem_map.mp ht
    have hr := R.coh.rd _ hq
    obtain ⟨_, h2⟩ := T.now hr.1 er e4
    have e5 := hr.det h2
    have hk := R.ord.kno _ hq p.1 (by rw [e5]; exact List.mem_map.mpr ⟨p, hp, rfl⟩)
    obtain ⟨x, hx, hv⟩ := known_val R hk
    rw [show seen s.known p.1 = some x from hx, hv.det (e4 p hp)]
  · rw [isGood_f g]
    unfold alB
    cases e1 : getA old t with
    | none => rfl
    | some o =>
      show (sameR o.2.1 r && o.1.all fun p => decide (seen s.known p.1 = some p.2)) = false
      cases e3 : sameR o.2.1 r with
      | false => rfl
      | true =>
        rw [Bool.true_and]
        cases e6 : o.1.all fun p => decide (seen s.known p.1 = some p.2) with
        | false => rfl
        | true =>
          exact absurd ⟨o, r, e1, er, e3, fun p hp => R.coh.kn _ (seen_mem (of_decide_eq_true (List.all_eq_true.mp e6 p hp)))⟩ g
/-- the rows are those of what is known -/
theorem book_rows {h : House} {beta : Nat → Nat} {old : Old} {s : AgS} (o : AgOk h beta old s) : s.rk.read.map (rowOf h s.rk) = s.book := by
  show (s.book.map fun p => (p.1, p.2.1)).map (rowOf h s.rk) = s.book
  rw [List.map_map]
  refine (List.map_congr_left fun p hp => ?_).trans (List.map_id _)
  obtain ⟨a, b⟩ := o.rows p hp
  show (p.1, (p.2.1, (rcpOf h.recs p.1).getD (.num 0), (seen s.known p.1).getD 0)) = id p
  rw [a, b]
  rfl
/-- no records: all is made -/
theorem made_all {h : House} {beta : Nat → Nat} {s : AgS} (o : AgOk h beta [] s) : s.made = s.book.map (·.1) := by
  rw [o.made]
  refine List.filter_eq_self.mpr fun t _ => ?_
  rw [isGood_f fun ⟨_, _, e, _⟩ => nomatch e]
  rfl
theorem rowTh_shapedW {r : Row} (hg : r.2.1.Wn) (hd : r.2.1.dep ≤ 60) (hn : ∀ p ∈ r.1, Nm p.1) : SeqAt.shaped (rowTh r).py = true := by
  obtain ⟨a1, a2⟩ := Rcp.laysW hg
  obtain ⟨b1, b2⟩ := prs_lay hn
  show ((r.2.1.th.py.canLay0 && (PyData.canLayAll0 (Th.pyL (r.1.map pairTh)) && true)) && decide (max r.2.1.th.py.depth (max (PyData.depthAll (Th.pyL (r.1.map pairTh)) + 1) 0) + 1 ≤ 64)) = true
  rw [a1, b1, decide_eq_true (by omega)]
  rfl
/-- the same rows, laid twice -/
theorem KvR.each' {α : Type} {R : α → V → Prop} : ∀ {l : List (List Nat × α)} {m : List (Key × V)}, KvR R l m → ∀ {i : Nat} {p : List Nat × α}, l[i]? = some p → ∃ q, m[i]? = some q ∧ q.1 = kT (SX.S p.1) ∧ R p.2 q.2
  | [], [], _, _, _, h => by simp at h
  | p :: l, q :: m, ⟨a, b, c⟩, 0, x, h => by
    simp only [List.getElem?_cons_zero, Option.some.injEq] at h
    subst h
    exact ⟨q, rfl, a, b⟩
  | p :: l, q :: m, ⟨a, b, c⟩, i + 1, x, h => by
    simp only [List.getElem?_cons_succ] at h
    obtain ⟨y, h1, h2⟩ := KvR.each' c h
    exact ⟨y, by simpa using h1, h2⟩
  | [], _ :: _, h, _, _, _ => h.elim
  | _ :: _, [], h, _, _, _ => h.elim
theorem rows_same {K : PySem.W.Frag} {H : Hp} {n : Nat} (hn : 64 ≤ n) {l : List (List Nat × Row)} {ks ls : List (Key × V)} (rl : KvR (RowR H) l ks) (rm : KvR (RowR H) l ls) (nd : (l.map (·.1)).Nodup) (sh : ∀ p ∈ l, SeqAt.shaped (rowTh p.2).py = true) :
    ks.length = ls.length ∧ ∀ p ∈ ks, ∃ u, valV ls p.1 = some u ∧ L2.EqG K H (n + 1) p.2 u := by
  refine ⟨by rw [rl.len, rm.len], fun p hp => ?_⟩
  obtain ⟨i, hi, e⟩ := List.mem_iff_getElem.mp hp
  obtain ⟨k, x⟩ := p
  obtain ⟨q, hq, rfl, hx⟩ := rl.at (i := i) (k := k) (v := x) (by rw [List.getElem?_eq_getElem hi, e])
  have hqm := List.mem_of_getElem? hq
  obtain ⟨y, hy, hr⟩ := KvR.each' rm hq
  refine ⟨y.2, ?_, .inr (.inr (.inl ⟨hn, (rowTh q.2).py, (rowTh q.2).py, Data.dp (rowTh_flat _) hx.data, Data.dp (rowTh_flat _) hr.2.data, sh q hqm, sh q hqm, SeqAt.eqv_refl _ (SeqAt.canLay_of_shaped (sh q hqm))⟩))⟩
  have := kvR_own rm nd y (List.mem_of_getElem? hy)
  rw [hr.1] at this
  exact this
/-- the same worths, laid twice -/
theorem nums_same {K : PySem.W.Frag} {H : Hp} {n : Nat} {l : List Pr} (nd : (l.map (·.1)).Nodup) : (numsK l).length = (numsK l).length ∧ ∀ p ∈ numsK l, ∃ u, valV (numsK l) p.1 = some u ∧ L2.EqG K H (n + 1) p.2 u := by
  refine ⟨rfl, fun p hp => ?_⟩
  obtain ⟨q, hq, rfl⟩ := List.mem_map.mp hp
  refine ⟨.int q.2, ?_, EqG.flat rfl⟩
  show valV (numsK l) (kT (SX.S q.1)) = _
  obtain ⟨i, hi⟩ := List.mem_iff_getElem?.mp hq
  rw [val_seen, seen_at nd hi]
  rfl
/-! ### texts alike -/
theorem paired_txs {K : PySem.W.Frag} {H : Hp} {n : Nat} : ∀ l : List (List Nat), Paired (L2.EqG K H (n + 1)) (txs l) (txs l)
  | [] => .nil
  | _ :: l => .cons (EqG.flat rfl) (paired_txs l)
/-! ### the law's judge of what is told -/
open LamX NdefX
theorem op_notIn_seqK {X : Cx} {K : PySem.W.Frag} (h : X.K = K) : OpR X (compareOp .NotIn) (rIn K true) := by
  subst h
  exact op_notIn_seq
theorem OldAt.fr {Tb : List NTab} {B X : Hp} {old : Old} {oD : Addr} (f : FrS Tb [] B X) (o : OldAt B old oD) : OldAt X old oD := by
  obtain ⟨kvs, h1, h2⟩ := o
  exact ⟨kvs, Rd.mp (fun _ e t => f.at e t) h1, h2.imp fun r v q => q.st f.kp fun b xs e => f.lst e⟩
/-- what is told of a build from records -/
def ToldA (H : Hp) (T : Addr) (kn : List Pr) (bk : List (List Nat × Row)) (g : List Nat → Bool) : Prop := ∃ kD rD mL kL kvs, H T = some (.tup [.ref kD, .ref rD, .ref mL, .ref kL]) ∧ H kD = some (.dK (numsK kn)) ∧ H rD = some (.dK kvs) ∧ KvR (RowR H) bk kvs ∧ H mL = some (.lst (txs ((bk.map (·.1)).filter fun t => !g t))) ∧ H kL = some (.lst (txs ((bk.map (·.1)).filter g)))
theorem ToldA.same {H H' : Hp} {T : Addr} {kn : List Pr} {bk : List (List Nat × Row)} {g : List Nat → Bool} (t : ToldA H T kn bk g) (s : Same H H') : ToldA H' T kn bk g := by
  obtain ⟨kD, rD, mL, kL, kvs, h1, h2, h3, h4, h5, h6⟩ := t
  exact ⟨kD, rD, mL, kL, kvs, s _ _ h1, s _ _ h2, s _ _ h3, h4.imp fun r v q => q.st (same_keep s) fun b xs e => s _ _ e, s _ _ h5, s _ _ h6⟩
/-- what the law's own fresh build tells -/
def FrshA (H : Hp) (S : Addr) (kn : List Pr) (bk : List (List Nat × Row)) : Prop := ∃ (L : LA) (kvs : List (Key × V)), S = L.S ∧ H L.S = some (.dK (stK L)) ∧ H L.W = some (.dK (numsK kn)) ∧ H L.Rc = some (.dK kvs) ∧ KvR (RowR H) bk kvs ∧ H L.O = some (.lst (txs (bk.map (·.1))))
theorem FrshA.same {H H' : Hp} {S : Addr} {kn : List Pr} {bk : List (List Nat × Row)} (t : FrshA H S kn bk) (s : Same H H') : FrshA H' S kn bk := by
  obtain ⟨L, kvs, e, h1, h2, h3, h4, h5⟩ := t
  exact ⟨L, kvs, e, s _ _ h1, s _ _ h2, s _ _ h3, h4.imp fun r v q => q.st (same_keep s) fun b xs e => s _ _ e, s _ _ h5⟩
/-- rows of a house -/
structure RowsOk (h : House) (kn : List Pr) (bk : List (List Nat × Row)) : Prop where
  kd : (kn.map (·.1)).Nodup
  bd : (bk.map (·.1)).Nodup
  row : ∀ p ∈ bk, rcpOf h.recs p.1 = some p.2.2.1 ∧ p.2.2.1.Wn ∧ p.2.2.1.dep ≤ 60 ∧ ∀ q ∈ p.2.1, Nm q.1
  few : bk.length ≤ 100000
def spLJudged : Sp := fun vs H Q _ => ∃ (h : House) (old : Old) (hv : V) (T oD S : Addr) (kn : List Pr) (bk : List (List Nat × Row)) (g : List Nat → Bool), vs = [.ref T, hv, .ref oD, .ref S] ∧ HouseAt H h hv ∧ OldAt H old oD ∧ ToldA H T kn bk g ∧ FrshA H S kn bk ∧ RowsOk h kn bk ∧
  (∀ t o, getA old t = some o → o.2.1.Wn ∧ o.2.1.dep ≤ 60) ∧ (∀ p ∈ bk, alB kn old p.1 p.2.2.1 = g p.1) ∧ ∀ H', Same H H' → Q (.bl true) H'
theorem filter_step {g : List Nat → Bool} {l : List (List Nat)} {i : Nat} {t : List Nat} (h : l[i]? = some t) : (l.take (i + 1)).filter g = (l.take i).filter g ++ if g t then [t] else [] := by
  rw [List.take_add_one, h, List.filter_append]
  congr 1
  show [t].filter g = _
  rw [List.filter_cons, List.filter_nil]
theorem txs_at' {l : List (List Nat)} {i : Nat} {x : V} (h : (txs l)[i]? = some x) : ∃ t, l[i]? = some t ∧ x = .str (SX.S t) := by
  have hi : i < l.length := by
    have := (List.getElem?_eq_some_iff.mp h).1
    rwa [txs_len] at this
  rw [txs_get hi] at h
  exact ⟨l[i], List.getElem?_eq_getElem hi, (Option.some.inj h).symm⟩
/-! ### houses changed -/
open LamX NdefX
/-- every recipe is of names ahead of its own -/
structure HouseM (h : House) (m : Nat) : Prop where
  m8 : m ≤ 8
  nd : (h.given.map (·.1) ++ h.recs.map (·.1)).Nodup
  gv : ∀ p ∈ h.given, p.1 ∈ xyz ++ lets m ∧ p.2.natAbs ≤ 1000
  rc : ∀ p ∈ h.recs, ∃ k, k < m ∧ p.1 = [97 + k] ∧ MadeR (xyz ++ lets k) 3 p.2
  all : ∀ u ∈ xyz ++ lets m, u ∈ h.given.map (·.1) ++ h.recs.map (·.1)
theorem names_nm {m : Nat} (h : m ≤ 22) {u : List Nat} (hu : u ∈ xyz ++ lets m) : Nm u := by
  rcases List.mem_append.mp hu with hu | hu
  · have h1 : ∀ u ∈ xyz, 1 ≤ u.length ∧ u.length ≤ 8 ∧ ∀ c ∈ u, 97 ≤ c ∧ c ≤ 122 := by decide
    exact h1 _ hu
  · obtain ⟨j, hj, rfl⟩ := lets_mem hu
    exact nm_let ⟨by omega, by omega⟩
theorem HouseM.g {h : House} {m : Nat} (M : HouseM h m) : HouseG h := by
  have m8 := M.m8
  refine ⟨fun p hp => ?_, fun p hp => ?_, M.nd⟩
  · obtain ⟨k, hk, e, mr⟩ := M.rc p hp
    obtain ⟨a, b, c, d⟩ := mr.ahead (by omega) (S := fun u => u ∈ h.given.map (·.1) ++ h.recs.map (·.1)) (fun u hu => M.all u (by
      rcases List.mem_append.mp hu with hu | hu
      · exact List.mem_append_left _ hu
      · obtain ⟨j, hj, rfl⟩ := lets_mem hu
        exact List.mem_append_right _ (List.mem_map.mpr ⟨j, List.mem_range.mpr (by omega), rfl⟩)))
    rw [e]
    exact ⟨nm_let ⟨by omega, by omega⟩, a, by omega, by omega, d⟩
  · obtain ⟨a, b⟩ := M.gv p hp
    exact ⟨names_nm (by omega) a, Nat.lt_of_le_of_lt b (by decide)⟩
theorem HouseL.each {h : House} {m : Nat} (L : HouseL h m) : ∀ p ∈ h.recs, ∃ k, k < m ∧ p.1 = [97 + k] ∧ MadeR (xyz ++ lets k) 3 p.2 := fun p hp => by
  obtain ⟨k, hk2⟩ := List.mem_iff_getElem?.mp hp
  have hl : h.recs.length = m := by have := congrArg List.length L.rk; rw [List.length_map] at this; rw [this]; unfold lets; rw [List.length_map, List.length_range]
  have hkl : k < m := by rw [← hl]; exact (List.getElem?_eq_some_iff.mp hk2).1
  have e : p.1 = [97 + k] := by
    have h1 : (h.recs.map (·.1))[k]? = some p.1 := by rw [List.getElem?_map, hk2]; rfl
    rw [L.rk] at h1
    unfold lets at h1
    rw [List.getElem?_map, List.getElem?_range hkl] at h1
    exact (Option.some.inj h1).symm
  exact ⟨k, hkl, e, L.rc k p hk2⟩
/-- numbers and recipes exchanged -/
theorem HouseM.of {g : List Pr} {rc : List RcpNm} {m : Nat} (m8 : m ≤ 8) (gk : g.map (·.1) = xyz) (gv : ∀ p ∈ g, p.2.natAbs ≤ 1000) (rk : rc.map (·.1) = lets m) (hr : ∀ p ∈ rc, ∃ k, k < m ∧ p.1 = [97 + k] ∧ MadeR (xyz ++ lets k) 3 p.2) : HouseM ⟨g, rc⟩ m := by
  have hk : g.map (·.1) ++ rc.map (·.1) = xyz ++ lets m := by rw [gk, rk]
  exact ⟨m8, by rw [hk]; exact xyz_lets_nd (by omega), fun p hp => ⟨List.mem_append_left _ (by rw [← gk]; exact List.mem_map.mpr ⟨p, hp, rfl⟩), gv p hp⟩, hr, fun u hu => by rw [hk]; exact hu⟩
def dropR {α : Type} (l : List (List Nat × α)) (t : List Nat) : List (List Nat × α) := l.filter fun p => decide (p.1 ≠ t)
theorem KvR.dropR {α : Type} {R : α → V → Prop} (t : List Nat) : ∀ {l : List (List Nat × α)} {m : List (Key × V)}, KvR R l m → KvR R (dropR l t) (dropK m (kT (SX.S t)))
  | [], [], _ => trivial
  | p :: l, q :: m, ⟨a, b, c⟩ => by
    have ih := KvR.dropR t c
    unfold Mad.dropR dropK at ih ⊢
    rw [List.filter_cons, List.filter_cons]
    by_cases e : p.1 = t
    · rw [if_neg (by simp [e]), if_neg (by rw [a, e]; simp)]
      exact ih
    · have : q.1 ≠ kT (SX.S t) := fun z => e (kS_inj (a.symm.trans z))
      rw [if_pos (decide_eq_true e), if_pos (decide_eq_true this)]
      exact ⟨a, b, ih⟩
  | [], _ :: _, h => h.elim
  | _ :: _, [], h => h.elim
/-- a name with a recipe given instead -/
theorem HouseM.gave {g : List Pr} {rc : List RcpNm} {m : Nat} (M : HouseM ⟨g, rc⟩ m) {t : List Nat} (ht : t ∈ rc.map (·.1)) {v : Int} (hv : v.natAbs ≤ 1000) : HouseM ⟨g ++ [(t, v)], dropR rc t⟩ m := by
  obtain ⟨n1, n2, n3⟩ := List.nodup_append.mp M.nd
  have hin : t ∈ xyz ++ lets m := by
    obtain ⟨p, hp, rfl⟩ := List.mem_map.mp ht
    obtain ⟨k, hk, e, _⟩ := M.rc p hp
    rw [e]
    exact List.mem_append_right _ (List.mem_map.mpr ⟨k, List.mem_range.mpr hk, rfl⟩)
  have sub : ∀ p ∈ dropR rc t, p ∈ rc ∧ p.1 ≠ t := fun p hp => by
    obtain ⟨a, b⟩ := List.mem_filter.mp hp
    exact ⟨a, of_decide_eq_true b⟩
  refine ⟨M.m8, ?_, fun p hp => ?_, fun p hp => M.rc p (sub p hp).1, fun u hu => ?_⟩
  · show ((g ++ [(t, v)]).map (·.1) ++ (dropR rc t).map (·.1)).Nodup
    rw [List.map_append]
    refine List.nodup_append.mpr ⟨List.nodup_append.mpr ⟨n1, List.nodup_cons.mpr ⟨(fun z => nomatch z), List.nodup_nil⟩, fun x hx y hy e => ?_⟩, List.Sublist.nodup (List.Sublist.map _ List.filter_sublist) n2, fun x hx y hy e => ?_⟩
    · rw [List.mem_singleton.mp hy] at e
      exact n3 x hx t ht e
    · obtain ⟨p, hp, rfl⟩ := List.mem_map.mp hy
      rcases List.mem_append.mp hx with hx | hx
      · exact n3 x hx p.1 (List.mem_map.mpr ⟨p, (sub p hp).1, rfl⟩) e
      · rw [List.mem_singleton.mp hx] at e
        exact (sub p hp).2 e.symm
  · rcases List.mem_append.mp hp with hp | hp
    · exact M.gv p hp
    · rw [List.mem_singleton.mp hp]
      exact ⟨hin, hv⟩
  · show u ∈ (g ++ [(t, v)]).map (·.1) ++ (dropR rc t).map (·.1)
    rw [List.map_append]
    rcases List.mem_append.mp (M.all u hu) with h | h
    · exact List.mem_append_left _ (List.mem_append_left _ h)
    · by_cases e : u = t
      · rw [e]
        exact List.mem_append_left _ (List.mem_append_right _ (List.mem_singleton.mpr rfl))
      · obtain ⟨p, hp, rfl⟩ := List.mem_map.mp h
        exact List.mem_append_right _ (List.mem_map.mpr ⟨p, List.mem_filter.mpr ⟨hp, decide_eq_true e⟩, rfl⟩)
/-! ### d == {} -/
def rEqE : R2 := fun x y H Q => ∃ a b ks, x = .ref a ∧ y = .ref b ∧ H a = some (.dK ks) ∧ H b = some (.dK []) ∧ Q (.bl ks.isEmpty) H
theorem op_eqE {X : Cx} (hu : X.A.units < cLine) : OpR X (compareOp .Eq) rEqE := by
  intro pins s σ H x y v u Q I rx ry h
  obtain ⟨a, b, ks, rfl, rfl, ea, eb, q⟩ := h
  obtain rfl : v = Value.ref a := rx
  obtain rfl : u = Value.ref b := ry
  obtain ⟨_, ya, va, ra, da⟩ := (show ObjOk X.prog X.w H s.heap a (.dK ks) from I.hok a _ ea)
  obtain ⟨_, yb, vb, rb, db⟩ := (show ObjOk X.prog X.w H s.heap b (.dK []) from I.hok b _ eb)
  have la : ks.length = va.length := ra.length
  have lb : 0 = vb.length := rb.length
  refine PySem.W.keq_eq (knd := mixKind X.prog X.w) (r := true) ya yb da db hu (fun e => ?_) (fin_bl I q ?_)
  · cases va with
    | nil => exact .nil
    | cons _ _ => rw [← lb] at e; cases e
  · rw [← la, ← lb]
    cases ks with
    | nil => rfl
    | cons _ _ => rfl
/-- a row that its recipe comes to -/
structure TrueRow (p : List Nat × Row) : Prop where
  tr : TrueRec p.2.2.1 p.2.1 p.2.2.2
  nm : ∀ q ∈ p.2.1, Nm q.1
  gd : p.2.2.1.Good
  dp : p.2.2.1.dep ≤ 5
theorem getA_mem {α : Type} {l : List (List Nat × α)} {t : List Nat} {o : α} (h : getA l t = some o) : (t, o) ∈ l := by
  unfold getA at h
  cases e5 : l.find? fun p => decide (p.1 = t) with
  | none => rw [e5] at h; cases h
  | some p5 =>
    rw [e5] at h
    have h5 : p5.1 = t := by
      have := List.find?_some e5
      exact of_decide_eq_true this
    have h6 : p5.2 = o := Option.some.inj h
    have := List.mem_of_find?_eq_some e5
    rw [← h5, ← h6]
    exact this
theorem OldOk.of_true {h : House} {bk : Old} (hr : ∀ p ∈ bk, TrueRow p) : OldOk h bk := fun t o r e1 e2 e3 => by
  have T := hr _ (getA_mem e1)
  have : o.2.1 = r := eqv_rcp e3
  exact ⟨this ▸ T.tr, T.nm⟩
/-- the rows of a fresh build -/
theorem AgOk.rows_true {h : House} {beta : Nat → Nat} {old : Old} {s : AgS} (o : AgOk h beta old s) (hg : ∀ p ∈ h.recs, p.2.Good ∧ p.2.dep ≤ 5) : ∀ p ∈ s.book, TrueRow p := fun p hp => by
  obtain ⟨a, b⟩ := o.rows p hp
  have hq : (p.1, p.2.1) ∈ s.rk.read := List.mem_map.mpr ⟨p, hp, rfl⟩
  have hr := o.coh.rd _ hq
  obtain ⟨v, hv, T⟩ := Rds.true hr a
  have : v = p.2.2.2 := hv.det (o.kn b)
  obtain ⟨g, d⟩ := hg _ (rcpOf_mem a)
  exact ⟨this ▸ T, fun q hq' => o.rk.rds _ hq q hq', g, d⟩
theorem huE {k : Nat} {A : Around} (r : Room k A) : A.units < cLine := by have := r.un; omega
/-! ### fresh builds and builds from records of the laws' houses -/
open LamX NdefX
def nmsH (h : House) : List (List Nat) := h.given.map (·.1) ++ h.recs.map (·.1)
def rowsH (h : House) (s : RkS) : List (List Nat × Row) := s.read.map (rowOf h s)
def bet0 : Nat → Nat := fun _ => 0
theorem HouseG.nm {h : House} (G : HouseG h) {u : List Nat} (hu : u ∈ nmsH h) : Nm u := by
  rcases List.mem_append.mp hu with hu | hu
  · obtain ⟨p, hp, rfl⟩ := List.mem_map.mp hu
    exact (G.gvn p hp).1
  · obtain ⟨p, hp, rfl⟩ := List.mem_map.mp hu
    exact (G.rcp p hp).1
structure Done (h : House) (n : Nat) (ts : List (List Nat)) (s : RkS) : Prop where
  e : lkAll h n emptyS ts = .ok 0 s
  rest : Rest h bet0 s
  got : ∀ t ∈ ts, t ∈ s.known.map (·.1)
theorem done_of {h : House} (G : HouseG h) {n : Nat} (hn : h.recs.length + 1 ≤ n) {ts : List (List Nat)} (hts : ∀ t ∈ ts, t ∈ nmsH h) : ∃ s, Done h n ts s := by
  have nms : ∀ t ∈ ts, Nm t := fun t ht => G.nm (hts t ht)
  obtain ⟨s, e⟩ := lkAll_total (G.ok bet0) hn (Rest.empty h bet0) (ts := ts) fun t ht => ⟨nms t ht, G.has (hts t ht)⟩
  obtain ⟨r, _, g, _⟩ := lkAll_rest (G.ok bet0) (Rest.empty h bet0) nms e
  exact ⟨s, e, r, g⟩
/-- what a row of a build is -/
theorem row_of {h : House} (G : HouseG h) {s : RkS} (R : Rest h bet0 s) : ∀ p ∈ rowsH h s, TrueRow p ∧ rcpOf h.recs p.1 = some p.2.2.1 ∧ Rds h p.1 p.2.1 ∧ Val h p.1 p.2.2.2 ∧ seen s.known p.1 = some p.2.2.2 ∧ p.1 ∈ s.read.map (·.1) := fun p hp => by
  obtain ⟨q, hq, rfl⟩ := List.mem_map.mp hp
  have hr := R.coh.rd q hq
  obtain ⟨v, e, hv⟩ := known_val R (R.ok.kn q.1 (List.mem_map.mpr ⟨q, hq, rfl⟩))
  obtain ⟨r, er⟩ : ∃ r, rcpOf h.recs q.1 = some r := ⟨_, hr.2.choose_spec.choose_spec.choose_spec.1⟩
  obtain ⟨v', hv', T⟩ := Rds.true hr er
  have ev : v' = v := hv'.det hv
  have e1 : (rowOf h s q).2.2.1 = r := by show (rcpOf h.recs q.1).getD _ = r; rw [er]; rfl
  have e2 : (rowOf h s q).2.2.2 = v := by show (seen s.known q.1).getD _ = v; rw [e]; rfl
  obtain ⟨_, gd, dp, _⟩ := G.rcp _ (rcpOf_mem er)
  exact ⟨⟨by rw [e1, e2, ← ev]; exact T, fun x hx => R.ok.rds q hq x hx, by rw [e1]; exact gd, by rw [e1]; exact dp⟩, by rw [e1]; exact er, hr, by rw [e2]; exact hv, by rw [e2]; exact e, List.mem_map.mpr ⟨q, hq, rfl⟩⟩
theorem rowsH_keys (h : House) (s : RkS) : (rowsH h s).map (·.1) = s.read.map (·.1) := by
  show (s.read.map _).map _ = _
  rw [List.map_map]
  rfl
theorem rows_ok {h : House} (G : HouseG h) {s : RkS} (R : Rest h bet0 s) (few : h.recs.length ≤ 1000) : RowsOk h s.known (rowsH h s) := by
  refine ⟨R.ok.kd, by rw [rowsH_keys]; exact (List.nodup_append.mp R.ok.nd).2.1, fun p hp => ?_, ?_⟩
  · obtain ⟨T, a, _⟩ := row_of G R p hp
    exact ⟨a, good_wn T.gd, Nat.le_trans T.dp (by decide), T.nm⟩
  · have h1 := R.ok.len
    have h2 : (rowsH h s).length = s.read.length := List.length_map _
    omega
/-- judged alike -/
theorem rows_judged {h : House} (G : HouseG h) {s : RkS} (R : Rest h bet0 s) {old : Old} (hO : OldOk h old) : ∀ p ∈ rowsH h s, alB s.known old p.1 p.2.2.1 = isGood h old p.1 := fun p hp => by
  obtain ⟨_, a, _, _, _, m⟩ := row_of G R p hp
  exact alB_good R hO m a
theorem KvR.mapB {Rr : Row × Addr → V → Prop} {R' : Row → V → Prop} (hi : ∀ r v, Rr r v → R' r.1 v) : ∀ {l : Bl} {m : List (Key × V)}, KvR Rr l m → KvR R' (l.map fun p => (p.1, p.2.1)) m
  | [], [], _ => trivial
  | p :: l, q :: m, ⟨a, b, c⟩ => ⟨a, hi _ _ b, KvR.mapB hi c⟩
  | [], _ :: _, h => h.elim
  | _ :: _, [], h => h.elim
section
variable {K : PySem.W.Frag} {Tb : List NTab} {n : Nat} {h : House} {X : Hp} {hv : V} {wv : Addr} {ts : List (List Nat)} {Q : VK} {E : XK}
theorem fresh_told {L : LA} {s' : AgS} {s : RkS} {H' : Hp} (a : LAt Tb L s' [] H') (o : AgOk h bet0 [] s') (es : s'.rk = s) : FrshA H' L.S s.known (rowsH h s) := by
  subst es
  obtain ⟨kvs, bl, h3, h4, h5, h6⟩ := a.bk
  refine ⟨L, kvs, rfl, a.st, a.wn, h3, ?_, ?_⟩
  · have eb : rowsH h s'.rk = s'.book := book_rows o
    rw [eb, ← h4]
    exact KvR.mapB (fun r v ⟨T, rv, xs, e, g1, g2, g3, g4, g5, g6⟩ => ⟨T, rv, _, xs, e, g1, g2, g5, g6⟩) h6
  · rw [rowsH_keys]
    have : s'.made = s'.rk.read.map (·.1) := by
      rw [made_all o]
      show s'.book.map (·.1) = (s'.book.map fun p => (p.1, p.2.1)).map (·.1)
      rw [List.map_map]
      rfl
    rw [← this]
    exact a.or_
theorem fresh_call (G : HouseG h) (few : h.given.length + h.recs.length ≤ 1000) (hn : h.recs.length + 1 ≤ n) (ha : HouseAt X h hv) (hW : SqL K X wv (txs ts)) (hts : ∀ t ∈ ts, t ∈ nmsH h)
    (q : ∀ (s : RkS) (S : Addr) (X' : Hp), Done h n ts s → X S = none → FrS Tb [] X X' → FrshA X' S s.known (rowsH h s) → Q (.ref S) X') : spLFresh K Tb 5 n [hv, .ref wv] X Q E := by
  obtain ⟨s, D⟩ := done_of G hn hts
  refine ⟨h, bet0, hv, wv, ts, 0, s, rfl, G.ok bet0, ha, by omega, hn, hW, fun t ht => G.nm (hts t ht), D.e, fun L s' H' lB nS f a o es _ => ?_⟩
  exact q s L.S H' D nS f (fresh_told a o es)
/-- what is told of a build from records: its lists are new -/
def ToldN (X X' : Hp) (T : Addr) (kn : List Pr) (bk : List (List Nat × Row)) (g : List Nat → Bool) : Prop := ∃ kD rD mL kL kvs bl, X' T = some (.tup [.ref kD, .ref rD, .ref mL, .ref kL]) ∧ X' kD = some (.dK (numsK kn)) ∧ X' rD = some (.dK kvs) ∧ bl.map (fun p => (p.1, p.2.1)) = bk ∧ (bl.map fun p => p.2.2).Nodup ∧ KvR (RowN X X' mL kL) bl kvs ∧
  X' mL = some (.lst (txs ((bk.map (·.1)).filter fun t => !g t))) ∧ X' kL = some (.lst (txs ((bk.map (·.1)).filter g))) ∧ X kD = none ∧ X rD = none ∧ X mL = none ∧ X kL = none ∧ kD ≠ rD ∧ mL ≠ kL
theorem ToldN.a {X X' : Hp} {T : Addr} {kn : List Pr} {bk : List (List Nat × Row)} {g : List Nat → Bool} (t : ToldN X X' T kn bk g) : ToldA X' T kn bk g := by
  obtain ⟨kD, rD, mL, kL, kvs, bl, h1, h2, h3, h4, h5, h6, h7, h8, _⟩ := t
  exact ⟨kD, rD, mL, kL, kvs, h1, h2, h3, h4 ▸ KvR.mapB (fun r v ⟨T, rv, xs, e, g1, g2, g3, g4, g5, g6, g7⟩ => ⟨T, rv, _, xs, e, g1, g2, g6, g7⟩) h6, h7, h8⟩
theorem again_told {s : RkS} {X X' : Hp} {T kD rD mL kL : Addr} {kvs : List (Key × V)} {bl : Bl} {g : List Nat → Bool} (nk : X kD = none) (nr : X rD = none) (nm : X mL = none) (nl : X kL = none) (ne1 : kD ≠ rD) (ne2 : mL ≠ kL) (eT : X' T = some (.tup [.ref kD, .ref rD, .ref mL, .ref kL])) (ek : X' kD = some (.dK (numsK s.known))) (er : X' rD = some (.dK kvs)) (hb : bl.map (fun p => (p.1, p.2.1)) = s.read.map (rowOf h s)) (hd : (bl.map fun p => p.2.2).Nodup) (hk : KvR (RowN X X' mL kL) bl kvs)
    (em : X' mL = some (.lst (txs ((s.read.map (·.1)).filter fun t => !g t)))) (el : X' kL = some (.lst (txs ((s.read.map (·.1)).filter g)))) : ToldN X X' T s.known (rowsH h s) g :=
  ⟨kD, rD, mL, kL, kvs, bl, eT, ek, er, hb, hd, hk, by rw [rowsH_keys]; exact em, by rw [rowsH_keys]; exact el, nk, nr, nm, nl, ne1, ne2⟩
end
/-! ### what stays, what is good -/
open LamX NdefX
theorem nx_post {t : TS} {D : Ends} {σ : L2.St} {H : Hp} (Post : L2.St → Hp → Prop) (h1 : ∀ nx : L2.St → Hp → Prop, (∀ σ X, Post σ X → nx σ X) → t { D with nx := nx } σ H) (h2 : ∀ σ X, Post σ X → D.nx σ X) : t D σ H := h1 D.nx h2
theorem ToldA.fr {Tb : List NTab} {X X' : Hp} {T : Addr} {kn : List Pr} {bk : List (List Nat × Row)} {g : List Nat → Bool} (f : FrS Tb [] X X') (t : ToldA X T kn bk g) : ToldA X' T kn bk g := by
  obtain ⟨kD, rD, mL, kL, kvs, h1, h2, h3, h4, h5, h6⟩ := t
  exact ⟨kD, rD, mL, kL, kvs, f.tup h1, f.dk h2, f.dk h3, h4.imp fun r v q => q.st f.kp fun b xs e => f.lst e, f.lst h5, f.lst h6⟩
theorem FrshA.fr {Tb : List NTab} {X X' : Hp} {S : Addr} {kn : List Pr} {bk : List (List Nat × Row)} (f : FrS Tb [] X X') (t : FrshA X S kn bk) : FrshA X' S kn bk := by
  obtain ⟨L, kvs, e, h1, h2, h3, h4, h5⟩ := t
  exact ⟨L, kvs, e, f.dk h1, f.dk h2, f.dk h3, h4.imp fun r v q => q.st f.kp fun b xs e => f.lst e, f.lst h5⟩
/-- records, not locked -/
def OldU (X : Hp) (bk : Old) (oD : Addr) : Prop := ∃ okv, X oD = some (.dK okv) ∧ KvR (RowR X) bk okv
theorem OldU.fr {Tb : List NTab} {X X' : Hp} {bk : Old} {oD : Addr} (f : FrS Tb [] X X') (o : OldU X bk oD) : OldU X' bk oD := by
  obtain ⟨kvs, h1, h2⟩ := o
  exact ⟨kvs, f.dk h1, h2.imp fun r v q => q.st f.kp fun b xs e => f.lst e⟩
theorem OldU.at {X : Hp} {bk : Old} {oD : Addr} (o : OldU X bk oD) : OldAt X bk oD := by
  obtain ⟨kvs, h1, h2⟩ := o
  exact ⟨kvs, .inl h1, h2⟩
theorem FrshA.old {X : Hp} {S : Addr} {kn : List Pr} {bk : List (List Nat × Row)} (t : FrshA X S kn bk) : ∃ oD, OldU X bk oD ∧ DGet X S (.str "records") (some (.ref oD)) := by
  obtain ⟨L, kvs, rfl, h1, h2, h3, h4, h5⟩ := t
  exact ⟨L.Rc, ⟨kvs, h3, h4⟩, (stK_get L).2.1 ▸ DGet.k (k := kT "records") h1⟩
/-- rows that their recipes come to, each name once -/
structure TrueOld (bk : Old) : Prop where
  row : ∀ p ∈ bk, TrueRow p
  nd : (bk.map (·.1)).Nodup
theorem TrueOld.ok {bk : Old} (t : TrueOld bk) (h : House) : OldOk h bk := OldOk.of_true t.row
theorem TrueOld.wf {bk : Old} (t : TrueOld bk) : ∀ u o, getA bk u = some o → o.2.1.Wn ∧ o.2.1.dep ≤ 60 := fun u o e => by
  have := t.row _ (getA_mem e)
  exact ⟨good_wn this.gd, Nat.le_trans this.dp (by decide)⟩
theorem TrueOld.sh {bk : Old} (t : TrueOld bk) : ∀ p ∈ bk, SeqAt.shaped (rowTh p.2).py = true := fun p hp => by
  have := t.row p hp
  exact rowTh_shapedW (good_wn this.gd) (Nat.le_trans this.dp (by decide)) this.nm
theorem Done.old {h : House} (G : HouseG h) {n : Nat} {ts : List (List Nat)} {s : RkS} (D : Done h n ts s) : TrueOld (rowsH h s) := ⟨fun p hp => (row_of G D.rest p hp).1, by rw [rowsH_keys]; exact (List.nodup_append.mp D.rest.ok.nd).2.1⟩
theorem Done.det {h : House} {n : Nat} {ts : List (List Nat)} {s s' : RkS} (D : Done h n ts s) (D' : Done h n ts s') : s' = s := by
  have := D'.e
  rw [D.e] at this
  exact (OutR.ok.inj this).2.symm
theorem getA_nd {α : Type} {l : List (List Nat × α)} (nd : (l.map (·.1)).Nodup) {p : List Nat × α} (h : p ∈ l) : getA l p.1 = some p.2 := by
  cases e : getA l p.1 with
  | none =>
    unfold getA at e
    rw [Option.map_eq_none_iff, List.find?_eq_none] at e
    exact absurd (decide_eq_true rfl) (e p h)
  | some o =>
    have hm := getA_mem e
    obtain ⟨i, hi, e1⟩ := List.mem_iff_getElem.mp h
    obtain ⟨j, hj, e2⟩ := List.mem_iff_getElem.mp hm
    have hij : i = j := by
      have a1 : (l.map (·.1))[i]'(by rw [List.length_map]; exact hi) = p.1 := by rw [List.getElem_map, e1]
      have a2 : (l.map (·.1))[j]'(by rw [List.length_map]; exact hj) = p.1 := by rw [List.getElem_map, e2]
      exact (List.getElem_inj nd).mp (a1.trans a2.symm)
    subst hij
    rw [e1] at e2
    rw [e2]
theorem sameR_refl {r : Rcp} (h : r.Good) : sameR r r = true := by
  unfold sameR
  exact SeqAt.eqv_refl _ (Rcp.laysW (good_wn h)).1
/-- its own records are all good -/
theorem good_self {h : House} (G : HouseG h) {s : RkS} (R : Rest h bet0 s) : ∀ t ∈ (rowsH h s).map (·.1), isGood h (rowsH h s) t = true := fun t ht => by
  obtain ⟨p, hp, rfl⟩ := List.mem_map.mp ht
  obtain ⟨T, a, hr, _⟩ := row_of G R p hp
  have nd : ((rowsH h s).map (·.1)).Nodup := by rw [rowsH_keys]; exact (List.nodup_append.mp R.ok.nd).2.1
  exact isGood_t ⟨p.2, p.2.2.1, getA_nd nd hp, a, sameR_refl T.gd, hr.val⟩
theorem made_none {h : House} (G : HouseG h) {s : RkS} (R : Rest h bet0 s) : (((rowsH h s).map (·.1)).filter fun t => !isGood h (rowsH h s) t) = [] := by
  refine List.filter_eq_nil_iff.mpr fun t ht => ?_
  rw [good_self G R t ht]
  decide
theorem rowsH_len {h : House} {s : RkS} (R : Rest h bet0 s) : (rowsH h s).length ≤ h.recs.length := by
  have h1 := R.ok.len
  have h2 : (rowsH h s).length = s.read.length := List.length_map _
  omega
theorem reads_len {h : House} {s : RkS} (R : Rest h bet0 s) : ∀ p ∈ rowsH h s, p.2.1.length ≤ h.given.length + h.recs.length := fun p hp => by
  obtain ⟨q, hq, rfl⟩ := List.mem_map.mp hp
  have h1 := sub_lenR (R.coh.rd q hq).nd fun u hu => R.ord.kno q hq u hu
  have h2 := R.ok.klen
  rw [List.length_map, List.length_map] at h1
  show q.2.length ≤ _
  omega
/-- a row whose list is none of the bad ones -/
def RowS (Bad : Addr → Prop) (H : Hp) (r : Row) (v : V) : Prop := ∃ T rv L xs, v = .ref T ∧ H T = some (.tup [rv, .ref L, .int r.2.2]) ∧ Rec H r.2.1 rv ∧ ¬ Bad L ∧ H L = some (.lst xs) ∧ Prs H r.1 xs
theorem RowS.mp {Bad : Addr → Prop} {H H' : Hp} (k : Keep H H') (l : ∀ b xs, ¬ Bad b → H b = some (.lst xs) → H' b = some (.lst xs)) {r : Row} {v : V} (h : RowS Bad H r v) : RowS Bad H' r v := by
  obtain ⟨T, rv, L, xs, e, h1, h2, h3, h4, h5⟩ := h
  exact ⟨T, rv, L, xs, e, k _ _ h1, h2.keep k, h3, l _ _ h3 h4, h5.keep k⟩
theorem RowS.r {Bad : Addr → Prop} {H : Hp} {r : Row} {v : V} (h : RowS Bad H r v) : RowR H r v := by
  obtain ⟨T, rv, L, xs, e, h1, h2, h3, h4, h5⟩ := h
  exact ⟨T, rv, L, xs, e, h1, h2, h4, h5⟩
theorem RowR.s {Bad : Addr → Prop} {H : Hp} (hb : ∀ b xs, H b = some (.lst xs) → ¬ Bad b) {r : Row} {v : V} (h : RowR H r v) : RowS Bad H r v := by
  obtain ⟨T, rv, L, xs, e, h1, h2, h4, h5⟩ := h
  exact ⟨T, rv, L, xs, e, h1, h2, hb _ _ h4, h4, h5⟩
theorem put_next {l : Old} {i : Nat} {p : List Nat × Row} (nd : (l.map (·.1)).Nodup) (h : l[i]? = some p) : putA (l.take i) p.1 p.2 = l.take (i + 1) := by
  rw [putA_new _ (by
    rw [List.map_take]
    exact nd_take nd (by rw [List.getElem?_map, h]; rfl)), List.take_add_one, h]
  rfl
/-- records whose rows' lists are none of the bad ones -/
def OldS (Bad : Addr → Prop) (X : Hp) (bk : Old) (oD : Addr) : Prop := ∃ okv, X oD = some (.dK okv) ∧ KvR (RowS Bad X) bk okv
theorem OldS.u {Bad : Addr → Prop} {X : Hp} {bk : Old} {oD : Addr} (o : OldS Bad X bk oD) : OldU X bk oD := by
  obtain ⟨kvs, h1, h2⟩ := o
  exact ⟨kvs, h1, h2.imp fun r v q => q.r⟩
theorem OldS.fr {Bad : Addr → Prop} {Tb : List NTab} {X X' : Hp} {bk : Old} {oD : Addr} (f : FrS Tb [] X X') (o : OldS Bad X bk oD) : OldS Bad X' bk oD := by
  obtain ⟨kvs, h1, h2⟩ := o
  exact ⟨kvs, f.dk h1, h2.imp fun r v q => q.mp f.kp fun b xs _ e => f.lst e⟩
theorem OldS.less {Bad Bad' : Addr → Prop} {X : Hp} {bk : Old} {oD : Addr} (hb : ∀ b, Bad' b → Bad b) (o : OldS Bad X bk oD) : OldS Bad' X bk oD := by
  obtain ⟨kvs, h1, h2⟩ := o
  exact ⟨kvs, h1, h2.imp fun r v ⟨T, rv, L, xs, e, g1, g2, g3, g4, g5⟩ => ⟨T, rv, L, xs, e, g1, g2, fun z => g3 (hb _ z), g4, g5⟩⟩
/-- a bad list changed -/
theorem OldS.updL {Bad : Addr → Prop} {X : Hp} {bk : Old} {oD L : Addr} {xs ys : List V} (hL : Bad L) (e : X L = some (.lst xs)) (o : OldS Bad X bk oD) : OldS Bad (upd X L (.lst ys)) bk oD := by
  obtain ⟨kvs, h1, h2⟩ := o
  exact ⟨kvs, by rw [upd_ne (fun z => by rw [z, e] at h1; cases h1)]; exact h1, h2.imp fun r v q => q.mp (keep_lst e) fun b zs hn e2 => by rw [upd_ne (fun z => hn (by rw [z]; exact hL))]; exact e2⟩
theorem fresh_old {Tb : List NTab} {h : House} {L : LA} {s' : AgS} {s : RkS} {H' : Hp} (a : LAt Tb L s' [] H') (o : AgOk h bet0 [] s') (es : s'.rk = s) : OldS (fun b => L.B b ≠ none) H' (rowsH h s) L.Rc ∧ DGet H' L.S (.str "records") (some (.ref L.Rc)) := by
  subst es
  obtain ⟨kvs, bl, h3, h4, h5, h6⟩ := a.bk
  refine ⟨⟨kvs, h3, ?_⟩, (stK_get L).2.1 ▸ DGet.k (k := kT "records") a.st⟩
  have eb : rowsH h s'.rk = s'.book := book_rows o
  rw [eb, ← h4]
  exact KvR.mapB (fun r v ⟨T, rv, xs, e, g1, g2, g3, g4, g5, g6⟩ => ⟨T, rv, _, xs, e, g1, g2, fun z => z g3, g5, g6⟩) h6
/-- all recipes' names wished for: all have records -/
theorem Done.allIn {h : House} (G : HouseG h) {n : Nat} {ts : List (List Nat)} {s : RkS} (D : Done h n ts s) {u : List Nat} (hu : u ∈ ts) (hr : u ∈ h.recs.map (·.1)) : u ∈ (rowsH h s).map (·.1) := by
  rw [rowsH_keys]
  refine (D.rest.coh.kr u (D.got u hu)).resolve_left fun z => ?_
  exact (List.nodup_append.mp G.nd).2.2 u z u hr rfl
theorem dict_kp {X : Hp} {a : Addr} {k : List (Key × V)} (o : HO) (e : X a = some (.dK k)) : Keep X (upd X a o) ∧ ∀ b xs, X b = some (.lst xs) → upd X a o b = some (.lst xs) :=
  ⟨fun b ys e2 => by rw [upd_ne (fun z => by rw [z, e] at e2; cases e2)]; exact e2, fun b xs e2 => by rw [upd_ne (fun z => by rw [z, e] at e2; cases e2)]; exact e2⟩
theorem TrueOld.put {bk : Old} {t : List Nat} {o : Row} (h : TrueOld bk) (ho : TrueRow (t, o)) : TrueOld (putA bk t o) := by
  refine ⟨fun p hp => ?_, ?_⟩
  · rcases mem_putA hp with rfl | hp
    · exact ho
    · exact h.row p hp
  · rw [putA_keys]
    split
    · exact h.nd
    · rename_i c
      exact List.nodup_append.mpr ⟨h.nd, List.nodup_cons.mpr ⟨(fun z => nomatch z), List.nodup_nil⟩, fun x hx y hy e => c (by rw [List.mem_singleton.mp hy] at e; exact e ▸ hx)⟩
theorem putA_le {α : Type} (l : List (List Nat × α)) (t : List Nat) (o : α) : (putA l t o).length ≤ l.length + 1 := by
  have := congrArg List.length (putA_keys l t o)
  rw [List.length_map] at this
  rw [this]
  split
  · rw [List.length_map]; omega
  · rw [List.length_append, List.length_map]; exact Nat.le_refl _
theorem getA_put {α : Type} {l : List (List Nat × α)} {t u : List Nat} {v : α} : getA (putA l t v) u = if u = t then some v else getA l u := by
  unfold getA
  have h1 : ∀ (l : List (List Nat × α)), ((l.map fun p : List Nat × α => if p.1 = t then (p.1, v) else p).find? fun p : List Nat × α => decide (p.1 = u)).map (fun p : List Nat × α => p.2) = if u = t ∧ t ∈ l.map (·.1) then some v else (l.find? fun p => decide (p.1 = u)).map (fun p : List Nat × α => p.2) := by
    intro l
    induction l with
    | nil =>
      rw [if_neg (fun z => nomatch z.2)]
      rfl
    | cons p l ih =>
      rw [List.map_cons, List.find?_cons, List.find?_cons]
      by_cases c : p.1 = t
      · rw [if_pos c]
        by_cases d : p.1 = u
        · have ut : u = t := d.symm.trans c
          show Option.map (fun p : List Nat × α => p.2) (match decide (p.1 = u) with | true => some (p.1, v) | false => _) = _
          rw [decide_eq_true d, if_pos ⟨ut, by rw [← c]; exact List.mem_cons_self⟩]
          rfl
        · show Option.map (fun p : List Nat × α => p.2) (match decide (p.1 = u) with | true => some (p.1, v) | false => List.find? (fun p : List Nat × α => decide (p.1 = u)) (l.map fun p : List Nat × α => if p.1 = t then (p.1, v) else p)) = _
          rw [decide_eq_false d]
          have nut : u ≠ t := fun e => d (c.trans e.symm)
          show (List.find? (fun p : List Nat × α => decide (p.1 = u)) (l.map fun p : List Nat × α => if p.1 = t then (p.1, v) else p)).map (·.2) = _
          rw [ih, if_neg (fun z => nut z.1), if_neg (fun z => nut z.1)]
      · rw [if_neg c]
        by_cases d : p.1 = u
        · have nut : u ≠ t := fun e => c (d.trans e)
          rw [decide_eq_true d, if_neg (fun z => nut z.1)]
        · rw [decide_eq_false d]
          show (List.find? (fun p : List Nat × α => decide (p.1 = u)) (l.map fun p : List Nat × α => if p.1 = t then (p.1, v) else p)).map (·.2) = if u = t ∧ t ∈ (p :: l).map (·.1) then some v else (List.find? (fun p => decide (p.1 = u)) l).map (·.2)
          rw [ih]
          by_cases e : u = t ∧ t ∈ l.map (·.1)
          · rw [if_pos e, if_pos ⟨e.1, List.mem_cons_of_mem _ e.2⟩]
          · rw [if_neg e, if_neg fun z => e ⟨z.1, (List.mem_cons.mp z.2).resolve_left fun y => c y.symm⟩]
  by_cases c : t ∈ l.map (·.1)
  · unfold putA
    rw [if_pos (by
      obtain ⟨p, hp, e⟩ := List.mem_map.mp c
      exact List.any_eq_true.mpr ⟨p, hp, decide_eq_true e⟩), h1]
    by_cases d : u = t
    · rw [if_pos ⟨d, c⟩, if_pos d]
    · rw [if_neg (fun z => d z.1), if_neg d]
  · rw [putA_new v c, List.find?_append]
    by_cases d : u = t
    · have : l.find? (fun p => decide (p.1 = u)) = none := List.find?_eq_none.mpr fun p hp e => c (List.mem_map.mpr ⟨p, hp, (of_decide_eq_true e).trans d⟩)
      rw [this, if_pos d, d]
      simp
    · rw [if_neg d]
      have : [(t, v)].find? (fun p => decide (p.1 = u)) = none := List.find?_eq_none.mpr fun p hp e => d (by rw [List.mem_singleton.mp hp] at e; exact (of_decide_eq_true e).symm)
      rw [this, Option.or_none]
/-! ### houses of any recipes with fine names: their rows -/
open LamX NdefX
/-- a row that its recipe comes to, with numbers of any size -/
structure TrueRowW (p : List Nat × Row) : Prop where
  tr : TrueRec p.2.2.1 p.2.1 p.2.2.2
  nm : ∀ q ∈ p.2.1, Nm q.1
  wn : p.2.2.1.Wn
  dp : p.2.2.1.dep ≤ 60
theorem TrueRow.w {p : List Nat × Row} (t : TrueRow p) : TrueRowW p := ⟨t.tr, t.nm, good_wn t.gd, Nat.le_trans t.dp (by decide)⟩
structure TrueOldW (bk : Old) : Prop where
  row : ∀ p ∈ bk, TrueRowW p
  nd : (bk.map (·.1)).Nodup
theorem OldOk.of_trueW {h : House} {old : Old} (t : ∀ p ∈ old, TrueRowW p) : OldOk h old := fun u o r e er es => by
  have hm := t _ (getA_mem e)
  have : o.2.1 = r := eqv_rcp es
  rw [← this]
  exact ⟨hm.tr, hm.nm⟩
theorem TrueOldW.ok {bk : Old} (t : TrueOldW bk) (h : House) : OldOk h bk := OldOk.of_trueW t.row
theorem TrueOldW.wf {bk : Old} (t : TrueOldW bk) : ∀ u o, getA bk u = some o → o.2.1.Wn ∧ o.2.1.dep ≤ 60 := fun u o e => ⟨(t.row _ (getA_mem e)).wn, (t.row _ (getA_mem e)).dp⟩
theorem TrueOldW.sh {bk : Old} (t : TrueOldW bk) : ∀ p ∈ bk, SeqAt.shaped (rowTh p.2).py = true := fun p hp => rowTh_shapedW (t.row p hp).wn (t.row p hp).dp (t.row p hp).nm
theorem TrueOldW.mer {bk bk' : Old} (t : TrueOldW bk) (t' : TrueOldW bk') : TrueOldW (merA bk bk') := ⟨fun p hp => (mem_merA hp).elim (t.row p) (t'.row p), merA_nd t.nd⟩
/-- a house whose reckoning is told -/
structure HouseX (dm : Nat) (h : House) : Prop where
  ok : HouseOk dm h bet0
  d60 : dm ≤ 60
  nd : (h.given.map (·.1) ++ h.recs.map (·.1)).Nodup
  few : h.given.length + h.recs.length ≤ 1000
theorem HouseOk.mono {dm dm' : Nat} {h : House} {beta beta' : Nat → Nat} (H : HouseOk dm h beta) (le : dm ≤ dm') : HouseOk dm' h beta' := ⟨⟨fun p hp => ⟨(H.n.rcp p hp).1, (H.n.rcp p hp).2.1, Nat.le_trans (H.n.rcp p hp).2.2 le⟩, H.n.gvn⟩, H.fit⟩
theorem HouseX.nm {dm : Nat} {h : House} (G : HouseX dm h) {u : List Nat} (hu : u ∈ nmsH h) : Nm u := by
  rcases List.mem_append.mp hu with hu | hu
  · obtain ⟨p, hp, rfl⟩ := List.mem_map.mp hu
    exact G.ok.n.gvn p hp
  · obtain ⟨p, hp, rfl⟩ := List.mem_map.mp hu
    exact (G.ok.n.rcp p hp).1
theorem row_ofX {dm : Nat} {h : House} (G : HouseX dm h) {s : RkS} (R : Rest h bet0 s) : ∀ p ∈ rowsH h s, TrueRowW p ∧ rcpOf h.recs p.1 = some p.2.2.1 ∧ Rds h p.1 p.2.1 ∧ Val h p.1 p.2.2.2 ∧ seen s.known p.1 = some p.2.2.2 ∧ p.1 ∈ s.read.map (·.1) := fun p hp => by
  obtain ⟨q, hq, rfl⟩ := List.mem_map.mp hp
  have hr := R.coh.rd q hq
  obtain ⟨v, e, hv⟩ := known_val R (R.ok.kn q.1 (List.mem_map.mpr ⟨q, hq, rfl⟩))
  obtain ⟨r, er⟩ : ∃ r, rcpOf h.recs q.1 = some r := ⟨_, hr.2.choose_spec.choose_spec.choose_spec.1⟩
  obtain ⟨v', hv', T⟩ := Rds.true hr er
  have ev : v' = v := hv'.det hv
  have e1 : (rowOf h s q).2.2.1 = r := by show (rcpOf h.recs q.1).getD _ = r; rw [er]; rfl
  have e2 : (rowOf h s q).2.2.2 = v := by show (seen s.known q.1).getD _ = v; rw [e]; rfl
  obtain ⟨_, wn, dp⟩ := G.ok.n.rcp _ (rcpOf_mem er)
  exact ⟨⟨by rw [e1, e2, ← ev]; exact T, fun x hx => R.ok.rds q hq x hx, by rw [e1]; exact wn, by rw [e1]; exact Nat.le_trans dp G.d60⟩, by rw [e1]; exact er, hr, by rw [e2]; exact hv, by rw [e2]; exact e, List.mem_map.mpr ⟨q, hq, rfl⟩⟩
theorem old_ofX {dm : Nat} {h : House} (G : HouseX dm h) {s : RkS} (R : Rest h bet0 s) : TrueOldW (rowsH h s) := ⟨fun p hp => (row_ofX G R p hp).1, by rw [rowsH_keys]; exact (List.nodup_append.mp R.ok.nd).2.1⟩
theorem rows_okX {dm : Nat} {h : House} (G : HouseX dm h) {s : RkS} (R : Rest h bet0 s) : RowsOk h s.known (rowsH h s) := by
  refine ⟨R.ok.kd, by rw [rowsH_keys]; exact (List.nodup_append.mp R.ok.nd).2.1, fun p hp => ?_, ?_⟩
  · obtain ⟨T, a, _⟩ := row_ofX G R p hp
    exact ⟨a, T.wn, T.dp, T.nm⟩
  · have h1 := R.ok.len
    have h2 : (rowsH h s).length = s.read.length := List.length_map _
    have := G.few
    omega
theorem done_ofX {dm : Nat} {h : House} (G : HouseX dm h) {n : Nat} (hn : h.recs.length + 1 ≤ n) {ts : List (List Nat)} (hts : ∀ t ∈ ts, Nm t ∧ ∃ v, Val h t v) : ∃ s, Done h n ts s := by
  obtain ⟨s, e⟩ := lkAll_total G.ok hn (Rest.empty h bet0) (ts := ts) hts
  obtain ⟨r, _, g, _⟩ := lkAll_rest G.ok (Rest.empty h bet0) (fun t ht => (hts t ht).1) e
  exact ⟨s, e, r, g⟩
theorem HouseG.x {h : House} (G : HouseG h) (few : h.given.length + h.recs.length ≤ 1000) : HouseX 5 h := ⟨G.ok bet0, by decide, G.nd, few⟩
/-! ### the houses of the laws k31 .. k41: names, recipes -/
open LamX NdefX
def nmE (k : Nat) : List Nat := letters.getD (k % 26) 97 :: List.replicate (k * 5 % 8) (letters.getD (k * 7 % 26) 97)
instance (s : List Nat) : Decidable (Nm s) := by unfold Nm; exact inferInstance
def nmB (m : Nat) : List (List Nat) := (List.range m).map nmE
theorem nm16 : (nmB 16).Nodup ∧ ∀ i < 16, Nm (nmE i) := by decide +kernel
theorem nmB_nd {m : Nat} (h : m ≤ 16) : (nmB m).Nodup := nm16.1.sublist ((List.range_sublist.mpr h).map _)
theorem nmB_mem {m : Nat} {u : List Nat} (h : u ∈ nmB m) : ∃ j, j < m ∧ u = nmE j := by
  obtain ⟨j, hj, e⟩ := List.mem_map.mp h
  exact ⟨j, List.mem_range.mp hj, e.symm⟩
theorem nmB_in {m j : Nat} (h : j < m) : nmE j ∈ nmB m := List.mem_map.mpr ⟨j, List.mem_range.mpr h, rfl⟩
theorem nmB_len (m : Nat) : (nmB m).length = m := by unfold nmB; rw [List.length_map, List.length_range]
theorem nmB_succ (k : Nat) : nmB (k + 1) = nmB k ++ [nmE k] := by unfold nmB; rw [List.range_succ, List.map_append]; rfl
def rkB (u : List Nat) : Nat := (nmB 16).idxOf u
theorem rkB_at {k : Nat} (h : k < 16) : rkB (nmE k) = k := by
  have : ∀ k < 16, rkB (nmE k) = k := by decide +kernel
  exact this k h
theorem nmE_inj {j k : Nat} (hj : j < 16) (hk : k < 16) (e : nmE j = nmE k) : j = k := by
  have := congrArg rkB e
  rwa [rkB_at hj, rkB_at hk] at this
theorem rkB_le (u : List Nat) : rkB u ≤ 16 := by
  have : (nmB 16).idxOf u ≤ (nmB 16).length := List.idxOf_le_length
  rw [nmB_len] at this
  exact this
def wtB (u : List Nat) : Nat := 80 + 8 * (rkB u + 1)
/-- a recipe out of the names ns, d deep -/
structure MadeB (ns : List (List Nat)) (d : Nat) (r : Rcp) : Prop where
  gd : r.Good
  wi : r.Wi (· ∈ ns)
  dp : r.dep ≤ d + 1
  bt : ∀ (f : List Nat → Nat) (b : Nat), (∀ u ∈ ns, f u ≤ b) → 80 ≤ b → r.bitsN f ≤ b + 2 * d
theorem big_bits {n : Int} (hn : n.natAbs < 2 ^ 70) : n.natAbs.log2 + 1 ≤ 80 := by
  by_cases h : n.natAbs = 0
  · rw [h]; decide
  · have := (Nat.log2_lt h).mpr hn
    omega
theorem MadeB.num {ns : List (List Nat)} {n : Int} (hn : n.natAbs < 2 ^ 70) (d : Nat) : MadeB ns d (.num n) :=
  ⟨Nat.lt_of_lt_of_le hn (by decide), trivial, Nat.le_add_left _ _, fun f b _ h2 => by have := big_bits hn; show n.natAbs.log2 + 1 ≤ _; omega⟩
theorem MadeB.read {ns : List (List Nat)} (hN : ∀ u ∈ ns, Nm u) {t : List Nat} (h : t ∈ ns) (d : Nat) : MadeB ns d (.read t) :=
  ⟨hN t h, h, Nat.le_add_left _ _, fun f b hb _ => by show f t ≤ _; have := hb t h; omega⟩
section
variable {ns : List (List Nat)} {d : Nat} {x y z : Rcp}
theorem MadeB.up {d' : Nat} (h : d ≤ d') (hx : MadeB ns d x) : MadeB ns d' x := ⟨hx.gd, hx.wi, by have := hx.dp; omega, fun f b hb h1 => by have := hx.bt f b hb h1; omega⟩
theorem MadeB.two {k : Kd} (hk : k ≠ .times) (hx : MadeB ns d x) (hy : MadeB ns d y) : MadeB ns (d + 1) (.two k x y) :=
  ⟨⟨hx.gd, hy.gd⟩, ⟨hx.wi, hy.wi⟩, by have := hx.dp; have := hy.dp; show max x.dep y.dep + 1 ≤ d + 1 + 1; omega, fun f b hb h1 => by
    have a1 := hx.bt f b hb h1
    have a2 := hy.bt f b hb h1
    cases k with
    | times => exact absurd rfl hk
    | plus => show max (x.bitsN f) (y.bitsN f) + 1 ≤ _; omega
    | minus => show max (x.bitsN f) (y.bitsN f) + 1 ≤ _; omega
    | most => show max (x.bitsN f) (y.bitsN f) ≤ _; omega⟩
theorem MadeB.times (hx : MadeB ns d x) {n : Int} (hn : n.natAbs ≤ 3) : MadeB ns (d + 1) (.two .times x (.num n)) := by
  refine ⟨⟨hx.gd, Nat.lt_of_le_of_lt hn (by decide)⟩, ⟨hx.wi, trivial⟩, by have := hx.dp; show max x.dep 1 + 1 ≤ d + 1 + 1; omega, fun f b hb h1 => ?_⟩
  have a1 := hx.bt f b hb h1
  have a2 := three_bits hn
  show x.bitsN f + (n.natAbs.log2 + 1) ≤ _
  omega
theorem MadeB.pick (hx : MadeB ns d x) (hy : MadeB ns d y) (hz : MadeB ns d z) : MadeB ns (d + 1) (.pick x y z) :=
  ⟨⟨hx.gd, hy.gd, hz.gd⟩, ⟨hx.wi, hy.wi, hz.wi⟩, by have := hx.dp; have := hy.dp; have := hz.dp; show max x.dep (max y.dep z.dep) + 1 ≤ d + 1 + 1; omega, fun f b hb h1 => by
    have a1 := hx.bt f b hb h1
    have a2 := hy.bt f b hb h1
    have a3 := hz.bt f b hb h1
    show max (x.bitsN f) (max (y.bitsN f) (z.bitsN f)) ≤ _
    omega⟩
theorem MadeB.choose (hx : MadeB ns d x) {ms : List (List Nat)} (hm : ∀ u ∈ ms, u ∈ ns) (hM : Nms ms) : MadeB ns (d + 1) (.choose x ms) :=
  ⟨⟨hx.gd, hM⟩, ⟨hx.wi, hm⟩, by have := hx.dp; show x.dep + 1 ≤ d + 1 + 1; omega, fun f b hb h1 => by
    have a1 := hx.bt f b hb h1
    have a2 : maxN (ms.map f) ≤ b := maxN_le fun a ha => by obtain ⟨u, hu, rfl⟩ := List.mem_map.mp ha; exact hb u (hm u hu)
    show max (x.bitsN f) (maxN (ms.map f)) ≤ _
    omega⟩
end
/-- a house as the laws draw it: the first m names, each looks for those ahead -/
structure HouseK (h : House) (m : Nat) : Prop where
  m16 : m ≤ 16
  nd : (h.given.map (·.1) ++ h.recs.map (·.1)).Nodup
  all : ∀ k < m, nmE k ∈ h.given.map (·.1) ++ h.recs.map (·.1)
  gv : ∀ p ∈ h.given, (∃ k, k < m ∧ p.1 = nmE k) ∧ p.2.natAbs < 2 ^ 66
  rc : ∀ p ∈ h.recs, ∃ k, k < m ∧ p.1 = nmE k ∧ ∃ ns, (∀ u ∈ ns, ∃ j, j < k ∧ u = nmE j) ∧ MadeB ns 3 p.2
section
variable {h : House} {m : Nat}
theorem HouseK.own (H : HouseK h m) {u : List Nat} (hu : u ∈ h.given.map (·.1) ++ h.recs.map (·.1)) : ∃ k, k < m ∧ u = nmE k := by
  rcases List.mem_append.mp hu with hu | hu
  · obtain ⟨p, hp, rfl⟩ := List.mem_map.mp hu
    exact (H.gv p hp).1
  · obtain ⟨p, hp, rfl⟩ := List.mem_map.mp hu
    obtain ⟨k, a, b, _⟩ := H.rc p hp
    exact ⟨k, a, b⟩
theorem HouseK.count (H : HouseK h m) : h.given.length + h.recs.length = m := by
  have h1 : (h.given.map (·.1) ++ h.recs.map (·.1)).length ≤ (nmB m).length := sub_lenR H.nd fun u hu => by
    obtain ⟨k, hk, rfl⟩ := H.own hu
    exact nmB_in hk
  have h2 : (nmB m).length ≤ (h.given.map (·.1) ++ h.recs.map (·.1)).length := sub_lenR (nmB_nd H.m16) fun u hu => by
    obtain ⟨j, hj, rfl⟩ := nmB_mem hu
    exact H.all j hj
  rw [nmB_len, List.length_append, List.length_map, List.length_map] at h1 h2
  omega
theorem HouseK.wi (H : HouseK h m) {p : RcpNm} (hp : p ∈ h.recs) : p.2.Wi fun u => u ∈ h.given.map (·.1) ++ h.recs.map (·.1) ∧ rkB u < rkB p.1 := by
  obtain ⟨k, hk, e, ns, hns, M⟩ := H.rc p hp
  have m16 := H.m16
  refine M.wi.imp fun u hu => ?_
  obtain ⟨j, hj, rfl⟩ := hns u hu
  exact ⟨H.all j (by omega), by rw [e, rkB_at (by omega), rkB_at (by omega)]; exact hj⟩
theorem HouseK.w (H : HouseK h m) : HouseW 5 h wtB := by
  have m16 := H.m16
  refine ⟨fun p hp => ?_, fun p hp => ?_, fun u => by unfold wtB; omega⟩
  · obtain ⟨k, hk, e, ns, hns, M⟩ := H.rc p hp
    have hb := M.bt wtB (80 + 8 * k) (fun u hu => by
      obtain ⟨j, hj, rfl⟩ := hns u hu
      unfold wtB
      rw [rkB_at (by omega)]
      omega) (by omega)
    have hw : wtB p.1 = 80 + 8 * (k + 1) := by unfold wtB; rw [e, rkB_at (by omega)]
    exact ⟨by rw [e]; exact nm16.2 k (by omega), good_wn M.gd, Nat.le_trans M.dp (by decide), by rw [hw]; omega, by omega⟩
  · obtain ⟨⟨k, hk, e⟩, hv⟩ := H.gv p hp
    exact ⟨by rw [e]; exact nm16.2 k (by omega), Nat.lt_of_lt_of_le hv (Nat.pow_le_pow_right (by decide) (by unfold wtB; omega))⟩
theorem HouseK.x (H : HouseK h m) : HouseX 5 h := ⟨H.w.ok bet0, by decide, H.nd, by have := H.count; have := H.m16; omega⟩
theorem HouseK.good (H : HouseK h m) {p : RcpNm} (hp : p ∈ h.recs) : p.2.Good ∧ p.2.dep ≤ 5 := by
  obtain ⟨k, hk, e, ns, hns, M⟩ := H.rc p hp
  exact ⟨M.gd, Nat.le_trans M.dp (by decide)⟩
theorem HouseK.val (H : HouseK h m) : ∀ (n : Nat) (u : List Nat), rkB u < n → u ∈ h.given.map (·.1) ++ h.recs.map (·.1) → ∃ v, Val h u v
  | 0, u, hn, _ => absurd hn (Nat.not_lt_zero _)
  | n + 1, u, hn, hu => by
    cases e : seen h.given u with
    | some v => exact ⟨v, .given e⟩
    | none =>
      have hr : u ∈ h.recs.map (·.1) := (List.mem_append.mp hu).resolve_left (seen_none e)
      obtain ⟨p, hp, rfl⟩ := List.mem_map.mp hr
      have e2 := rcpOf_ndA (List.nodup_append.mp H.nd).2.1 hp
      obtain ⟨v, hv⟩ := Ev_total (F := Val h) (fun w hw => H.val n w (by have := hw.2; omega) hw.1) (good_wn (H.good hp).1) (H.wi hp)
      exact ⟨v, .work_ev e e2 hv⟩
theorem HouseK.has (H : HouseK h m) {u : List Nat} (hu : u ∈ nmsH h) : ∃ v, Val h u v := H.val (rkB u + 1) u (Nat.lt_succ_self _) hu
theorem HouseK.nm (H : HouseK h m) {u : List Nat} (hu : u ∈ nmsH h) : Nm u := by
  obtain ⟨k, hk, rfl⟩ := H.own hu
  exact nm16.2 k (by have := H.m16; omega)
theorem HouseK.done (H : HouseK h m) {n : Nat} (hn : m + 1 ≤ n) {ts : List (List Nat)} (hts : ∀ t ∈ ts, t ∈ nmsH h) : ∃ s, Done h n ts s := done_ofX H.x (by have := H.count; omega) fun t ht => ⟨H.nm (hts t ht), H.has (hts t ht)⟩
end
/-! ### a text times a number of two or more -/
def rRepS : R2 := fun x y H Q => ∃ (z : List Nat) (k : Nat), x = .str (SX.S z) ∧ y = .int (k : Int) ∧ 2 ≤ k ∧ k ≤ 1000 ∧ 1 ≤ z.length ∧ z.length ≤ 1000 ∧ Q (.str (SX.S (List.replicate k z).flatten)) H
theorem rep_flat (z : List Nat) : ∀ (k : Nat) (acc : Array Nat), (List.replicate k z.toArray).foldl (· ++ ·) acc = (acc.toList ++ (List.replicate k z).flatten).toArray
  | 0, acc => by simp
  | k + 1, acc => by
    rw [List.replicate_succ, List.foldl_cons, rep_flat z k, List.replicate_succ, List.flatten_cons]
    simp
section
variable {X : Cx}
theorem op_repS : OpR X (binaryOp .Mult) rRepS := by
  intro pins s σ H x y v u Q I rx ry h
  obtain ⟨z, k, rfl, rfl, h2, hk, h1, hz, q⟩ := h
  obtain ⟨t, rfl⟩ := rx
  obtain ⟨t', rfl⟩ := ry
  have hlen := SX.S_len z
  have hn1 : ¬ ((k : Nat) : Int) < 1 := by omega
  have hn2 : (((k : Nat) : Int) == 1 || (SX.S z).length == 0) = false := by
    rw [hlen, Bool.or_eq_false_iff]
    exact ⟨beq_eq_false_iff_ne.mpr (by omega), beq_eq_false_iff_ne.mpr (by omega)⟩
  have hmul : z.length * k ≤ 1000 * 1000 := Nat.mul_le_mul hz hk
  have hsz : 1000 * 1000 ≤ sizeLine := le_line (Nat.le_of_ble_eq_true rfl)
  refine PySem.P.mul_str ?_ (fun _ _ => ?_) (fun _ _ => ?_) ?_
  · rw [decide_eq_false (by omega), decide_eq_false (by omega)]
    rfl
  · rw [hlen]
    have : (1000 : Int) ≤ (2 ^ 63 - 1) / (k : Int) := (Int.le_ediv_iff_mul_le (by omega)).mpr (by omega)
    omega
  · rw [hlen]
    refine decide_eq_false ?_
    show ¬ _
    rw [Int.toNat_natCast]
    omega
  · rw [if_neg hn1, hn2, if_neg Bool.false_ne_true]
    rw [Int.toNat_natCast, show (SX.S z).cps = z.toArray from rfl, rep_flat]
    refine ⟨?_, ⟨.str _, H, I.tok _, ⟨_, rfl⟩, q⟩⟩
    have e : (List.replicate k z).flatten.length ≤ sizeLine := by
      rw [List.length_flatten, List.map_replicate, List.sum_replicate_nat, Nat.mul_comm]
      omega
    have e2 : (SX.S (List.replicate k z).flatten).length ≤ sizeLine := by rw [SX.S_len]; exact e
    exact e2
end
/-! ### a text times a number, nought and one too -/
def rRepA : R2 := fun x y H Q => ∃ (z : List Nat) (k : Nat), x = .str (SX.S z) ∧ y = .int (k : Int) ∧ k ≤ 1000 ∧ 1 ≤ z.length ∧ z.length ≤ 1000 ∧ Q (.str (SX.S (List.replicate k z).flatten)) H
section
variable {X : Cx}
theorem op_repA : OpR X (binaryOp .Mult) rRepA := by
  intro pins s σ H x y v u Q I rx ry h
  obtain ⟨z, k, rfl, rfl, hk, h1, hz, q⟩ := h
  by_cases h2 : 2 ≤ k
  · exact op_repS pins s σ H _ _ v u Q I rx ry ⟨z, k, rfl, rfl, h2, hk, h1, hz, q⟩
  obtain ⟨t, rfl⟩ := rx
  obtain ⟨t', rfl⟩ := ry
  have hlen := SX.S_len z
  have hk2 : k = 0 ∨ k = 1 := by omega
  rcases hk2 with rfl | rfl
  · exact PySem.P.mul_str_none (by decide) (by decide) ⟨.str _, H, I.tok _, ⟨_, rfl⟩, q⟩
  · refine PySem.P.mul_str (by decide) (fun _ e => ?_) (fun _ e => ?_) ?_
    · exact absurd e (by simp)
    · exact absurd e (by simp)
    · rw [if_neg (by decide)]
      have e : ((((1 : Nat) : Int) == 1) || (SX.S z).length == 0) = true := rfl
      rw [if_pos e]
      refine ⟨.str (SX.S z), H, I, ⟨_, rfl⟩, ?_⟩
      have e2 : (List.replicate 1 z).flatten = z := by simp
      rw [e2] at q
      exact q
end
/-! ### texts of recipes -/
def Kd.sign : Kd → Nat
  | .plus => 43 | .minus => 45 | .times => 42 | .most => 94
def Kd.signS : Kd → Str
  | .plus => " + " | .minus => " - " | .times => " * " | .most => " ^ "
def intL (n : Int) : List Nat := (Str.ofString (toString n)).cps.toList
theorem intL_S (n : Int) : Str.ofString (toString n) = SX.S (intL n) := (SX.S_tl _).symm
def Rcp.txt : Rcp → List Nat
  | .num n => intL n
  | .read s => s
  | .two k a b => 40 :: (a.txt ++ (32 :: k.sign :: 32 :: (b.txt ++ [41])))
  | .pick a b c => 91 :: (a.txt ++ (32 :: 63 :: 32 :: (b.txt ++ (32 :: 58 :: 32 :: (c.txt ++ [93])))))
  | .choose a ns => a.txt ++ (123 :: (TL.joinL [44] ns ++ [125]))
theorem intL_len {n : Int} (h : n.natAbs < 10 ^ 40) : (intL n).length ≤ 41 := by
  have z : ∀ m : Int, 0 ≤ m → m.natAbs < 10 ^ 40 → (Str.ofString (toString m)).length ≤ 40 := fun m m0 hm => by
    refine PyProof.Rows.toString_length_le m0 (by decide) ?_
    have e : (m.natAbs : Int) = m := Int.natAbs_of_nonneg m0
    rw [← e]
    exact Int.ofNat_lt.mpr hm
  have e : (intL n).length = (Str.ofString (toString n)).length := by
    rw [intL_S n, SX.S_len]
  rw [e]
  by_cases h0 : 0 ≤ n
  · exact Nat.le_succ_of_le (z n h0 h)
  · rw [PyProof.Rows.len_text_neg (by omega)]
    have := z (0 - n) (by omega) (by rw [show (0 - n).natAbs = n.natAbs by omega]; exact h)
    omega
theorem joinL_len : ∀ {ns : List (List Nat)} (m : Nat), (∀ s ∈ ns, s.length ≤ m) → (TL.joinL [44] ns).length ≤ (m + 1) * ns.length
  | [], _, _ => Nat.zero_le _
  | [p], m, h => by
    have := h p (by simp)
    show p.length ≤ _
    simp; omega
  | p :: q :: r, m, h => by
    have h1 := h p (by simp)
    have h2 := joinL_len (ns := q :: r) m fun s hs => h s (List.mem_cons_of_mem _ hs)
    have e : (TL.joinL [44] (p :: q :: r)).length = p.length + (1 + (TL.joinL [44] (q :: r)).length) := by
      show (p ++ ([44] ++ TL.joinL [44] (q :: r))).length = _
      rw [List.length_append, List.length_append]
      rfl
    have e2 : (m + 1) * (p :: q :: r).length = (m + 1) * (q :: r).length + (m + 1) := Nat.mul_succ _ _
    rw [e, e2]
    omega
theorem names_len {ns : List (List Nat)} (h : Nms ns) : (TL.joinL [44] ns).length ≤ 81 := by
  have := joinL_len 8 fun s hs => (h.2.2 s hs).2.1
  have := h.2.1
  omega
theorem names_sum : ∀ {ns : List (List Nat)}, (∀ s ∈ ns, Nm s) → ((ns.map SX.S).map (·.length)).sum ≤ 8 * ns.length
  | [], _ => Nat.zero_le _
  | p :: r, h => by
    have h1 := (h p (by simp)).2.1
    have h2 := names_sum (ns := r) fun s hs => h s (List.mem_cons_of_mem _ hs)
    rw [List.map_cons, List.map_cons, List.sum_cons, SX.S_len, List.length_cons]
    omega
theorem txt_len : ∀ {r : Rcp}, r.Good → r.txt.length ≤ 100 * r.siz
  | .num n, h => by
    have := intL_len h
    show (intL n).length ≤ 100
    omega
  | .read s, h => by
    have := h.2.1
    show s.length ≤ 100
    omega
  | .two k a b, h => by
    have h1 := txt_len h.1
    have h2 := txt_len h.2
    simp only [Rcp.txt, Rcp.siz, List.length_cons, List.length_append, List.length_nil]
    omega
  | .pick a b c, h => by
    have h1 := txt_len h.1
    have h2 := txt_len h.2.1
    have h3 := txt_len h.2.2
    simp only [Rcp.txt, Rcp.siz, List.length_cons, List.length_append, List.length_nil]
    omega
  | .choose a ns, h => by
    have h1 := txt_len h.1
    have h2 := names_len h.2
    simp only [Rcp.txt, Rcp.siz, List.length_cons, List.length_append, List.length_nil]
    omega
theorem q_open : ("(" : Str) = SX.S [40] := by decide +kernel
theorem q_close : (")" : Str) = SX.S [41] := by decide +kernel
theorem q_lb : ("[" : Str) = SX.S [91] := by decide +kernel
theorem q_rb : ("]" : Str) = SX.S [93] := by decide +kernel
theorem q_lc : ("{" : Str) = SX.S [123] := by decide +kernel
theorem q_rc : ("}" : Str) = SX.S [125] := by decide +kernel
theorem q_ask : (" ? " : Str) = SX.S [32, 63, 32] := by decide +kernel
theorem q_col : (" : " : Str) = SX.S [32, 58, 32] := by decide +kernel
theorem q_blank : (" " : Str) = SX.S [32] := by decide +kernel
theorem q_comma : ("," : Str) = SX.S [44] := by decide +kernel
theorem q_sign (k : Kd) : k.signS = SX.S [32, k.sign, 32] := by cases k <;> decide +kernel
theorem kn_num (k : Kd) : ¬ V.str k.name = V.str "number" := by cases k <;> decide +kernel
theorem kn_read (k : Kd) : ¬ V.str k.name = V.str "read" := by cases k <;> decide +kernel
theorem kn_pick (k : Kd) : ¬ V.str k.name = V.str "pick" := by cases k <;> decide +kernel
theorem kn_choose (k : Kd) : ¬ V.str k.name = V.str "choose" := by cases k <;> decide +kernel
theorem log_small {n : Int} (h : n.natAbs < 10 ^ 40) : n.natAbs.log2 < 1920 := by
  by_cases z : n.natAbs = 0
  · rw [z]; decide
  · exact (Nat.log2_lt z).mpr (Nat.lt_trans h (by decide +kernel))
/-! ### the pools that laws draw from: a dict of rest, mixed, count -/
def pool (r : Int) (m : Bool) (c : Int) : List (Key × V) := [(kT "rest", .int r), (kT "mixed", .bl m), (kT "count", .int c)]
theorem pool_rest (r : Int) (m : Bool) (c : Int) : valV (pool r m c) (kT "rest") = some (.int r) := rfl
theorem pool_mixed (r : Int) (m : Bool) (c : Int) : valV (pool r m c) (kT "mixed") = some (.bl m) := by
  have h1 : decide (kT "rest" = kT "mixed") = false := by decide +kernel
  have h2 : decide (kT "mixed" = kT "mixed") = true := by decide +kernel
  simp only [valV, pool, List.find?_cons, h1, h2, Option.map_some]
  rfl
theorem pool_count (r : Int) (m : Bool) (c : Int) : valV (pool r m c) (kT "count") = some (.int c) := by
  have h1 : decide (kT "rest" = kT "count") = false := by decide +kernel
  have h2 : decide (kT "mixed" = kT "count") = false := by decide +kernel
  have h3 : decide (kT "count" = kT "count") = true := by decide +kernel
  simp only [valV, pool, List.find?_cons, h1, h2, h3, Option.map_some]
  rfl
theorem kT_ne {a b : Str} (h : a ≠ b) : ¬ kT a = kT b := fun z => h (Sum.inr.inj z)
theorem put_rest (r : Int) (m : Bool) (c v : Int) : putK (pool r m c) (kT "rest") (.int v) = pool v m c := by
  unfold putK pool
  have h1 : ¬ kT "mixed" = kT "rest" := by decide +kernel
  have h2 : ¬ kT "count" = kT "rest" := by decide +kernel
  rw [if_pos (by simp)]
  simp only [List.map_cons, List.map_nil, if_pos, if_neg h1, if_neg h2]
theorem put_count (r : Int) (m : Bool) (c v : Int) : putK (pool r m c) (kT "count") (.int v) = pool r m v := by
  unfold putK pool
  have h1 : ¬ kT "rest" = kT "count" := by decide +kernel
  have h2 : ¬ kT "mixed" = kT "count" := by decide +kernel
  rw [if_pos (by simp)]
  simp only [List.map_cons, List.map_nil, if_pos, if_neg h1, if_neg h2]
theorem merge_pool (r : Int) (m : Bool) (c : Int) : mergeK [] (pool r m c) = pool r m c := by
  have h1 : decide (kT "rest" = kT "mixed") = false := by decide +kernel
  have h2 : decide (kT "rest" = kT "count") = false := by decide +kernel
  have h3 : decide (kT "mixed" = kT "count") = false := by decide +kernel
  simp only [mergeK, pool, List.foldl_cons, List.foldl_nil, putK, List.any_nil, List.any_cons, List.nil_append, List.cons_append, h1, h2, h3, Bool.or_false, if_neg Bool.false_ne_true]
/-- a cell of the script, or nought -/
def spCellAt (K : PySem.W.Frag) : Sp := fun vs H Q _ => ∃ (a : Addr) (ns : List Int) (k : Int), vs = [.ref a, .int k] ∧ SqL K H a (ns.map V.int) ∧ ns.length ≤ 63 ∧ 0 ≤ k ∧ ∀ v, Q (.int v) H
def spPool (K : PySem.W.Frag) : Sp := fun vs H Q _ => ∃ (a : Addr) (ns : List Int) (k : Int), vs = [.ref a, .int k] ∧ SqL K H a (ns.map V.int) ∧ ns.length ≤ 63 ∧ 0 ≤ k ∧ k ≤ 1000 ∧ ∀ (p : Addr) (r : Int) (m : Bool) (c : Int), H p = none → 0 ≤ c → c ≤ 5003 → Q (.ref p) (upd H p (.dK (pool r m c)))
def spTakeP : Sp := fun vs H Q _ => ∃ (p : Addr) (r : Int) (m : Bool) (c many : Int), vs = [.ref p, .int many] ∧ H p = some (.dK (pool r m c)) ∧ 0 < many ∧ many.natAbs < 2 ^ 200 ∧ 0 ≤ c ∧ c ≤ 1000000 ∧
  ∀ (H' : Hp) (v r' c' : Int), (∀ b, b ≠ p → H' b = H b) → H' p = some (.dK (pool r' m c')) → 0 ≤ c' → c' ≤ c + 1 → 0 ≤ v → v < many → Q (.int v) H'
section
variable {P : Program} {w : World} {K : PySem.W.Frag} {mg : Str → Option Value} {base : Heap}
abbrev s__law_cell_at : Stmt := topS 6
abbrev N__law_cell_at : List Str := ["script", "k"]
theorem sc__law_cell_at : FnScope N__law_cell_at ["script", "k"] (defScope s__law_cell_at) := ⟨rfl, rfl, rfl, by decide +kernel, rfl, by decide +kernel, by decide +kernel⟩

theorem ok__law_cell_at (T : Txt K mg) (D : IsDef K mg "_law_cell_at" s__law_cell_at ["script", "k"]) : Cal P w K mg base CX0 1 "_law_cell_at" ["script", "k"] (spCellAt K) := by
  refine D.cal sc__law_cell_at (fun vs H Q E h => ?_) (fun f cdv A outer s H vs Q E hr h => ?_)
  · obtain ⟨a, ns, k, rfl, _⟩ := h
    rfl
  obtain ⟨a, ns, k, rfl, hS, h63, k0, q⟩ := h
  refine ⟨_, (pss_cons (ps_if (pt_cmpR op_lt (pv 1) (pe_callB call_len_seq (by rfl) T.b_len PySem.boot_len (pa_cons (pv 0) pa_nil)) (nomark _))
        (pss_one (ps_ret (pe_ix (r := rIxL K) ix_list (pv 0) (pv 1) (fun _ _ => rfl))))
        pss_nil)
      (pss_one (ps_ret pe_int))), ?_⟩
  refine ⟨_, rfl, _, rfl, a, _, rfl, .inl hS, _, _, rfl, rfl, _, rfl, ?_⟩
  refine ite2 (fun c => ?_) (fun _ => q _)
  have c' : k < (((ns.map V.int).length : Nat) : Int) := of_decide_eq_true c
  rw [List.length_map] at c'
  obtain ⟨v, hv⟩ := int_at k0 c'
  exact ⟨_, rfl, _, rfl, a, _, _, _, rfl, rfl, hS, hv, q v⟩
abbrev s__law_pool : Stmt := topS 7
abbrev N__law_pool : List Str := ["script", "k"]
theorem sc__law_pool : FnScope N__law_pool ["script", "k"] (defScope s__law_pool) := ⟨rfl, rfl, rfl, by decide +kernel, rfl, by decide +kernel, by decide +kernel⟩

theorem ok__law_pool (T : Txt K mg) (D : IsDef K mg "_law_pool" s__law_pool ["script", "k"]) (C__law_cell_at : Cal P w K mg base CX0 1 "_law_cell_at" ["script", "k"] (spCellAt K)) : Cal P w K mg base CX0 2 "_law_pool" ["script", "k"] (spPool K) := by
  refine D.cal sc__law_pool (fun vs H Q E h => ?_) (fun f cdv A outer s H vs Q E hr h => ?_)
  · obtain ⟨a, ns, k, rfl, _⟩ := h
    rfl
  obtain ⟨a, ns, k, rfl, hS, h63, k0, k1, q⟩ := h
  refine ⟨_, (pss_one (ps_ret (pe_disp (pps_cons pe_str (pe_cal C__law_cell_at (hr.mono (by first | decide | omega)) pass0 (pa_cons (pv 0) (pa_cons (pv 1) pa_nil))) (pps_cons pe_str (pe_cmpR op_eq (pe_op op_mod (pe_cal C__law_cell_at (hr.mono (by first | decide | omega)) pass0 (pa_cons (pv 0) (pa_cons pe_int pa_nil))) pe_int) pe_int (nomark _)) (pps_cons pe_str (pe_op op_add pe_int (pe_op op_mul pe_int (pv 1))) pps_nil))) (by rfl) (by rfl) (fun z => by cases z) (by decide)))), ?_⟩
  refine fun p np => ?_
  have hS' := (same_new np (.dK [])).seq hS
  refine ⟨_, rfl, _, rfl, a, ns, k, rfl, hS', h63, k0, fun v => ?_⟩
  refine ⟨_, rfl, a, ns, 0, rfl, hS', h63, Int.le_refl 0, fun v2 => ?_⟩
  refine ⟨_, _, rfl, rfl, (by show (0 : Int) < 2; decide), ?_⟩
  refine ⟨rfl, _, rfl, _, _, rfl, rfl, .inl ⟨by decide, by decide⟩, _, _, rfl, rfl, upd_same, pool v (decide (V.int (v2 % 2) = V.int 1)) (3 + 5 * k), rfl, (by show 3 ≤ 15; decide), ?_⟩
  rw [merge_pool, upd_upd]
  exact q p _ _ _ np (by omega) (by omega)
abbrev s__law_take : Stmt := topS 8
abbrev N__law_take : List Str := ["pool", "many", "rest"]
theorem sc__law_take : FnScope N__law_take ["pool", "many"] (defScope s__law_take) := ⟨rfl, rfl, rfl, by decide +kernel, rfl, by decide +kernel, by decide +kernel⟩

theorem ok__law_take (T : Txt K mg) (D : IsDef K mg "_law_take" s__law_take ["pool", "many"]) : Cal P w K mg base CX0 1 "_law_take" ["pool", "many"] spTakeP := by
  refine D.cal sc__law_take (fun vs H Q E h => ?_) (fun f cdv A outer s H vs Q E hr h => ?_)
  · obtain ⟨p, r, m, c, many, rfl, _⟩ := h
    rfl
  obtain ⟨p, r, m, c, many, rfl, hp, m0, mb, c0, c1, q⟩ := h
  have hu : (cxOf CX0 P w K mg base N__law_take "_law_take" (defScope s__law_take) f cdv A outer s H E).nox.A.units + 1 < cLine := by
    exact Nat.lt_of_le_of_lt (Nat.add_le_add_left (by decide : 1 ≤ 64) _) hr.units
  refine ⟨_, (pss_cons (ps_set (i := 2) sc__law_take.nd rfl (Or.inl rfl) (pe_dget hu (pv 0) pe_str (fun _ _ => rfl)))
      (pss_cons (ps_if (pt_not (pt_val (pe_dget hu (pv 0) pe_str (fun _ _ => rfl))))
        (pss_cons (ps_dput hu (pv 0) pe_str (pe_op op_fdivW (pv 2) (pv 1)) rfl)
      (pss_one (ps_ret (pe_op op_mod (pv 2) (pv 1)))))
        pss_nil)
      (pss_cons (ps_dput hu (pv 0) pe_str (pe_op op_add (pe_dget hu (pv 0) pe_str (fun _ _ => rfl)) pe_int) rfl)
      (pss_cons (ps_set (i := 2) sc__law_take.nd rfl (Or.inl rfl) (pe_op op_add (pe_op op_mod (pv 2) pe_int) (pe_op op_mul pe_int (pe_dget hu (pv 0) pe_str (fun _ _ => rfl)))))
      (pss_cons (ps_set (i := 2) sc__law_take.nd rfl (Or.inl rfl) (pe_op op_mod (pe_op op_mul (pv 2) (pe_op op_add (pv 2) pe_int)) pe_int))
      (pss_cons (ps_set (i := 2) sc__law_take.nd rfl (Or.inl rfl) (pe_op op_mod (pe_op op_mul (pv 2) (pv 2)) pe_int))
      (pss_cons (ps_dput hu (pv 0) pe_str (pv 2) rfl)
      (pss_one (ps_ret (pe_op op_mod (pe_op op_fdivW (pv 2) pe_int) (pv 1))))))))))), ?_⟩
  refine ⟨_, rfl, p, _, rfl, (pool_rest r m c) ▸ DGet.k (k := kT "rest") hp, ?_⟩
  refine ⟨_, rfl, p, _, rfl, (pool_mixed r m c) ▸ DGet.k (k := kT "mixed") hp, ?_⟩
  have hlt : ∀ (r : Int) (m : Bool) (c : Int), (pool r m c).length < sizeLine := fun _ _ _ => lt_line (by show 3 < 16777216; decide)
  cases m with
  | false =>
    refine ⟨_, rfl, iteT ?_⟩
    refine ⟨_, rfl, _, rfl, _, _, rfl, rfl, wide_div m0 mb (by decide) (by decide), _, rfl, p, _, rfl, DPut.k (k := kT "rest") hp (hlt _ _ _), ?_⟩
    rw [put_rest]
    exact ⟨_, rfl, _, rfl, _, _, rfl, rfl, m0, q _ _ _ _ (fun b hb => upd_ne hb) upd_same c0 (by omega) (Int.emod_nonneg _ (by omega)) (Int.emod_lt_of_pos _ m0)⟩
  | true =>
    refine ⟨_, rfl, iteF ?_⟩
    refine ⟨_, rfl, p, _, rfl, (pool_count r true c) ▸ DGet.k (k := kT "count") hp, _, _, rfl, rfl, _, rfl, p, _, rfl, DPut.k (k := kT "count") hp (hlt _ _ _), ?_⟩
    rw [put_count]
    have h1 : upd H p (.dK (pool r true (c + 1))) p = some (.dK (pool r true (c + 1))) := upd_same
    refine ⟨_, rfl, _, _, rfl, rfl, (by show (0 : Int) < 1000000000163; decide), _, rfl, p, _, rfl, (pool_count r true (c + 1)) ▸ DGet.k (k := kT "count") h1, _, _, rfl, rfl, .inl ⟨by decide, by decide⟩, _, _, rfl, rfl, ?_⟩
    have y0 : 0 ≤ r % 1000000000163 := Int.emod_nonneg _ (by decide)
    have y1 : r % 1000000000163 < 1000000000163 := Int.emod_lt_of_pos _ (by decide)
    refine ⟨_, rfl, _, rfl, _, _, rfl, rfl, _, _, rfl, rfl, .inl ⟨by show -(2 ^ 64) < r % 1000000000163 + 70001 * (c + 1); omega, by show r % 1000000000163 + 70001 * (c + 1) < 2 ^ 64; omega⟩, _, _, rfl, rfl, (by show (0 : Int) < 1000000000193; decide), ?_⟩
    have z0 : 0 ≤ ((r % 1000000000163 + 70001 * (c + 1)) * (r % 1000000000163 + 70001 * (c + 1) + 29)) % 1000000000193 := Int.emod_nonneg _ (by decide)
    have z1 : ((r % 1000000000163 + 70001 * (c + 1)) * (r % 1000000000163 + 70001 * (c + 1) + 29)) % 1000000000193 < 1000000000193 := Int.emod_lt_of_pos _ (by decide)
    refine ⟨_, rfl, _, rfl, _, _, rfl, rfl, .inl ⟨Int.lt_of_lt_of_le (by decide) z0, Int.lt_trans z1 (by decide)⟩, _, _, rfl, rfl, (by show (0 : Int) < 999999999959; decide), ?_⟩
    refine ⟨_, rfl, _, rfl, p, _, rfl, DPut.k (k := kT "rest") h1 (hlt _ _ _), ?_⟩
    rw [put_rest]
    refine ⟨_, rfl, _, _, rfl, rfl, ⟨by decide, by decide +kernel⟩, _, rfl, _, _, rfl, rfl, m0, q _ _ _ (c + 1) (fun b hb => ?_) upd_same (by omega) (Int.le_refl _) (Int.emod_nonneg _ (by omega)) (Int.emod_lt_of_pos _ m0)⟩
    rw [upd_ne hb, upd_ne hb]
end
/-! ### the laws' names -/
open LamX NdefX
def spNameE : Sp := fun vs H Q _ => ∃ (v : Int) (k : Nat), vs = [.int v] ∧ v = (k : Int) ∧ k < 26 ∧ Q (.str (SX.S (nmE k))) H
theorem take_same {H0 H H' : Hp} {p : Addr} (n : H0 p = none) (s : Same H0 H) (k : ∀ b, b ≠ p → H' b = H b) : Same H0 H' := fun b u e => by
  have ne : b ≠ p := fun z => by rw [z, n] at e; cases e
  rw [k b ne]
  exact s _ _ e
theorem take_keep {H H' : Hp} {p : Addr} {kvs : List (Key × V)} (h : H p = some (.dK kvs)) (k : ∀ b, b ≠ p → H' b = H b) : Keep H H' := fun b xs e => by
  have ne : b ≠ p := fun z => by rw [z, h] at e; cases e
  rw [k b ne]
  exact e
section
variable {P : Program} {w : World} {K : PySem.W.Frag} {mg : Str → Option Value} {base : Heap}
abbrev s__law_name : Stmt := topS 9
abbrev N__law_name : List Str := ["k", "letters"]
theorem sc__law_name : FnScope N__law_name ["k"] (defScope s__law_name) := ⟨rfl, rfl, rfl, by decide +kernel, rfl, by decide +kernel, by decide +kernel⟩

theorem ok__law_name (T : Txt K mg) (D : IsDef K mg "_law_name" s__law_name ["k"]) : Cal P w K mg base CX0 1 "_law_name" ["k"] spNameE := by
  refine D.cal sc__law_name (fun vs H Q E h => ?_) (fun f cdv A outer s H vs Q E hr h => ?_)
  · obtain ⟨v, k, rfl, _⟩ := h
    rfl
  obtain ⟨v, k, rfl, rfl, hk, q⟩ := h
  refine ⟨_, (pss_cons (ps_set (i := 1) sc__law_name.nd rfl (Or.inl rfl) pe_str)
      (pss_one (ps_ret (pe_op op_add_str (pe_item_str (pv 1) (pe_op op_mod (pv 0) pe_int) (fun _ _ => rfl)) (pe_op op_repA (pe_item_str (pv 1) (pe_op op_mod (pe_op op_mul (pv 0) pe_int) pe_int) (fun _ _ => rfl)) (pe_op op_mod (pe_op op_mul (pv 0) pe_int) pe_int)))))), ?_⟩
  have let26 : ∀ (v : Int) (n : Nat), v = (n : Int) → n < 26 → ("abcdefghijklmnopqrstuvwxyz" : Str).cps[v.toNat]? = some (letters.getD n 97) := fun v n hv hn => by
    have hv : v.toNat = n := by omega
    rw [hv, letters_is]
    show letters.toArray[n]? = _
    rw [List.getElem?_toArray, List.getElem?_eq_getElem hn, List.getD_eq_getElem?_getD, List.getElem?_eq_getElem hn]
    rfl
  have hlen : ("abcdefghijklmnopqrstuvwxyz" : Str).length = 26 := by rw [letters_is, SX.S_len]; rfl
  have ha : (k : Int) % 26 = ((k % 26 : Nat) : Int) := by omega
  have hb : (k : Int) * 7 % 26 = ((k * 7 % 26 : Nat) : Int) := by omega
  have hc : (k : Int) * 5 % 8 = ((k * 5 % 8 : Nat) : Int) := by omega
  have hx := let26 _ _ ha (by omega)
  have hy := let26 _ _ hb (by omega)
  refine ⟨_, rfl, _, rfl, _, _, rfl, rfl, (by show (0 : Int) < 26; decide), _, _, letters.getD (k % 26) 97, rfl, rfl, by show 0 ≤ (k : Int) % 26; omega, by show (k : Int) % 26 < 2 ^ 63; omega, by rw [hlen]; show (k : Int) % 26 < 26; omega, hx, ?_⟩
  refine ⟨_, rfl, _, rfl, _, _, rfl, rfl, .inr ⟨by decide, by decide⟩, _, _, rfl, rfl, (by show (0 : Int) < 26; decide), _, _, letters.getD (k * 7 % 26) 97, rfl, rfl, by show 0 ≤ (k : Int) * 7 % 26; omega, by show (k : Int) * 7 % 26 < 2 ^ 63; omega, by rw [hlen]; show (k : Int) * 7 % 26 < 26; omega, hy, ?_⟩
  refine ⟨_, rfl, _, _, rfl, rfl, .inr ⟨by decide, by decide⟩, _, _, rfl, rfl, (by show (0 : Int) < 8; decide), ?_⟩
  refine ⟨[letters.getD (k * 7 % 26) 97], k * 5 % 8, rfl, congrArg V.int hc, by omega, (by show 1 ≤ 1; decide), (by show 1 ≤ 1000; decide), _, _, rfl, rfl, ?_, ?_⟩
  · show (SX.S [letters.getD (k % 26) 97]).length + _ ≤ _
    rw [SX.S_len, SX.S_len, List.length_flatten, List.map_replicate, List.sum_replicate_nat]
    exact le_line (by show 1 + (k * 5 % 8) * 1 ≤ _; omega)
  · show Q (.str (SX.S [letters.getD (k % 26) 97] ++ SX.S (List.replicate (k * 5 % 8) [letters.getD (k * 7 % 26) 97]).flatten)) H
    rw [SX.S_cat]
    have hf : ∀ (n c : Nat), (List.replicate n [c]).flatten = List.replicate n c := fun n c => by
      induction n with
      | zero => rfl
      | succ n ih => rw [List.replicate_succ, List.flatten_cons, ih, List.replicate_succ]; rfl
    rw [hf]
    exact q
end
/-! ### recipes drawn -/
open LamX NdefX
theorem call_len_seqK {X : Cx} {K : PySem.W.Frag} (h : X.K = K) : CallR X (.builtin "len") (fun xs H Q => ∃ p ys, xs = [V.ref p] ∧ (SqL K H p ys ∨ SqT K H p ys) ∧ Q (V.int (ys.length : Int)) H) := by
  subst h
  exact call_len_seq
/-- all but one dict stays -/
def PF (p : Addr) (H H' : Hp) : Prop := ∀ b u, b ≠ p → H b = some u → H' b = some u
theorem PF.refl (p : Addr) (H : Hp) : PF p H H := fun _ _ _ e => e
theorem PF.trans {p : Addr} {A B C : Hp} (f : PF p A B) (g : PF p B C) : PF p A C := fun b u n e => g b u n (f b u n e)
theorem PF.of {p : Addr} {A B : Hp} (s : Same A B) : PF p A B := fun b u _ e => s b u e
theorem PF.take {p : Addr} {A B : Hp} (h : ∀ b, b ≠ p → B b = A b) : PF p A B := fun b u n e => by rw [h b n]; exact e
theorem PF.keep {p : Addr} {A B : Hp} {k : List (Key × V)} (f : PF p A B) (e : A p = some (.dK k)) : Keep A B := fun b ys e2 => f b _ (fun z => by rw [z, e] at e2; cases e2) e2
theorem PF.lst {p : Addr} {A B : Hp} {k : List (Key × V)} (f : PF p A B) (e : A p = some (.dK k)) {b : Addr} {xs : List V} (h : A b = some (.lst xs)) : B b = some (.lst xs) := f b _ (fun z => by rw [z, e] at h; cases h) h
def spLeafB : Sp := fun vs H Q _ => ∃ (p L : Addr) (r : Int) (m : Bool) (c : Int) (ns : List (List Nat)), vs = [.ref p, .ref L] ∧ H p = some (.dK (pool r m c)) ∧ 0 ≤ c ∧ c ≤ 200000 ∧ H L = some (.lst (txs ns)) ∧ ns.length ≤ 100 ∧ (∀ u ∈ ns, Nm u) ∧
  ∀ (H' : Hp) (rv : V) (rr : Rcp) (r' c' : Int), PF p H H' → H' p = some (.dK (pool r' m c')) → 0 ≤ c' → c' ≤ c + 4 → (∀ d, MadeB ns d rr) → Rec H' rr rv → Q rv H'
def spRcpB (n : Nat) : Sp := fun vs H Q _ => ∃ (p L : Addr) (r : Int) (m : Bool) (c : Int) (ns : List (List Nat)) (d : Nat), vs = [.ref p, .ref L, .int (d : Int)] ∧ d + 1 ≤ n ∧ d ≤ 3 ∧ H p = some (.dK (pool r m c)) ∧ 0 ≤ c ∧ c + 8 * (4 ^ d : Nat) ≤ 100000 ∧ H L = some (.lst (txs ns)) ∧ ns.length ≤ 100 ∧ (∀ u ∈ ns, Nm u) ∧
  ∀ (H' : Hp) (rv : V) (rr : Rcp) (r' c' : Int), PF p H H' → H' p = some (.dK (pool r' m c')) → 0 ≤ c' → c' ≤ c + 8 * (4 ^ d : Nat) → MadeB ns d rr → Rec H' rr rv → Q rv H'
theorem one_ofB {ns : List (List Nat)} {v : Int} (h0 : 0 ≤ v) (h1 : v < ((txs ns).length : Nat)) : ∃ u ∈ ns, atI (txs ns) v = some (.str (SX.S u)) := by
  obtain ⟨x, hx, hat⟩ := one_of h0 h1
  obtain ⟨u, hu, rfl⟩ := txs_mem hx
  exact ⟨u, hu, hat⟩
section
variable {P : Program} {w : World} {K : PySem.W.Frag} {mg : Str → Option Value} {base : Heap}
abbrev s__law_leaf : Stmt := topS 10
abbrev N__law_leaf : List Str := ["pool", "names"]
theorem sc__law_leaf : FnScope N__law_leaf ["pool", "names"] (defScope s__law_leaf) := ⟨rfl, rfl, rfl, by decide +kernel, rfl, by decide +kernel, by decide +kernel⟩

theorem ok__law_leafB (T : Txt K mg) (D : IsDef K mg "_law_leaf" s__law_leaf ["pool", "names"]) (C__law_take : Cal P w K mg base CX0 1 "_law_take" ["pool", "many"] spTakeP) : Cal P w K mg base CX0 2 "_law_leaf" ["pool", "names"] spLeafB := by
  refine D.cal sc__law_leaf (fun vs H Q E h => ?_) (fun f cdv A outer s H vs Q E hr h => ?_)
  · obtain ⟨_, _, _, _, _, _, rfl, _⟩ := h
    rfl
  obtain ⟨p, L, r, m, c, ns, rfl, hp, c0, c1, hL, hl, hN, q⟩ := h
  refine ⟨_, (pss_cons (ps_if (PW.pt (pw_or (pt_cmpR (op_eqD hr.units) (pv 1) (pe_lstA pa_nil) (nomark _)) (pw_or1 (pt_cmpR op_eq (pe_cal C__law_take (hr.mono (by first | decide | omega)) pass0 (pa_cons (pv 0) (pa_cons pe_int pa_nil))) pe_int (nomark _)))))
        (pss_one (ps_ret (pe_tupA (pa_cons pe_str (pa_cons (pe_ix (r := rIxL K) ix_list (pe_lstA (pa_cons (pe_op op_sub (pe_cal C__law_take (hr.mono (by first | decide | omega)) pass0 (pa_cons (pv 0) (pa_cons pe_int pa_nil))) pe_int) (pa_cons (pe_op op_sub (pe_cal C__law_take (hr.mono (by first | decide | omega)) pass0 (pa_cons (pv 0) (pa_cons (pe_op op_pow pe_int pe_int) pa_nil))) (pe_op op_pow pe_int pe_int)) pa_nil))) (pe_cal C__law_take (hr.mono (by first | decide | omega)) pass0 (pa_cons (pv 0) (pa_cons pe_int pa_nil))) (fun _ _ => rfl)) pa_nil)))))
        pss_nil)
      (pss_one (ps_ret (pe_tupA (pa_cons pe_str (pa_cons (pe_ix (r := rIxL K) ix_list (pv 1) (pe_cal C__law_take (hr.mono (by first | decide | omega)) pass0 (pa_cons (pv 0) (pa_cons (pe_callB call_len_seq (by rfl) T.b_len PySem.boot_len (pa_cons (pv 1) pa_nil)) pa_nil))) (fun _ _ => rfl)) pa_nil)))))), ?_⟩
  refine ⟨_, rfl, Nat.zero_le _, fun O H1 nO s1' eO => ?_⟩
  have s1 : Same H H1 := s1'
  have hp1 := s1 _ _ hp
  have hL1 := s1 _ _ hL
  refine ⟨_, _, Data.dp (t := .lst (nmsTh ns)) Nms.flat ⟨L, _, rfl, hL1, nms_data H1 ns⟩, .lst (SqL.of eO) .nil, Nms.shaped hN, rfl, _, rfl, ?_⟩
  cases ns with
  | nil =>
    refine iteT ?_
    have f1 : PF p H H1 := PF.of s1
    refine ⟨_, rfl, p, r, m, c, 9, rfl, hp1, by decide, by decide, c0, by omega, fun X2 v2 r2 k2 g2 hg2 k20 k21 v20 v21 => ?_⟩
    refine ⟨_, _, rfl, rfl, _, rfl, _, _, rfl, rfl, ⟨by decide, by decide, by decide⟩, p, r2, m, k2, _, rfl, hg2, by decide +kernel, by decide +kernel, k20, by omega, fun X3 v3 r3 k3 g3 hg3 k30 k31 v30 v31 => ?_⟩
    refine ⟨_, _, rfl, rfl, ⟨by decide, by decide, by decide⟩, _, _, rfl, rfl, le_line (Nat.le_of_ble_eq_true rfl), fun LL X4 nLL x4' eLL => ?_⟩
    have x4 : Same X3 X4 := x4'
    refine ⟨_, rfl, p, r3, m, k3, 2, rfl, x4 _ _ hg3, by decide, by decide, k30, by omega, fun X5 v5 r5 k5 g5 hg5 k50 k51 v50 v51 => ?_⟩
    have fX : PF p H X5 := (((f1.trans (PF.take g2)).trans (PF.take g3)).trans (PF.of x4)).trans (PF.take g5)
    have nLp : LL ≠ p := fun z => by rw [z, hg3] at nLL; cases nLL
    have eLL5 : X5 LL = _ := (PF.take g5) LL _ nLp eLL
    have ee : (10 : Int) ^ (20 : Int).toNat = 100000000000000000000 ∧ (10 : Int) ^ (19 : Int).toNat = 10000000000000000000 := by decide +kernel
    rw [ee.1] at v31
    rw [ee.2] at eLL5
    obtain ⟨n, hn, hat⟩ : ∃ n : Int, n.natAbs < 2 ^ 70 ∧ atI ([.int (v2 - 4), .int (v3 - 10000000000000000000)] : List V) v5 = some (.int n) := by
      have h2 : v5 = 0 ∨ v5 = 1 := by omega
      rcases h2 with rfl | rfl
      · exact ⟨v2 - 4, by omega, rfl⟩
      · exact ⟨v3 - 10000000000000000000, by omega, rfl⟩
    refine ⟨LL, _, v5, .int n, rfl, rfl, SqL.of eLL5, hat, le_line (Nat.le_of_ble_eq_true rfl), fun T1 X6 nT1 x6' eT1 => ?_⟩
    have x6 : Same X5 X6 := x6'
    exact q X6 (.ref T1) (.num n) r5 k5 (fX.trans (PF.of x6)) (x6 _ _ hg5) k50 (by omega) (fun d => .num hn d) ⟨T1, rfl, eT1⟩
  | cons n0 ns0 =>
    refine iteF ?_
    refine ⟨_, rfl, p, r, m, c, 5, rfl, hp1, by decide, by decide, c0, by omega, fun G1 v1 r1 k1 g1 hg1 k10 k11 v10 v11 => ?_⟩
    have f1 : PF p H G1 := (PF.of s1).trans (PF.take g1)
    refine ⟨rfl, _, rfl, ?_⟩
    refine ite2 (fun _ => ?_) (fun _ => ?_)
    · have hz := hg1
      refine ⟨_, rfl, p, r1, m, k1, 9, rfl, hg1, by decide, by decide, k10, by omega, fun X2 v2 r2 k2 g2 hg2 k20 k21 v20 v21 => ?_⟩
      refine ⟨_, _, rfl, rfl, _, rfl, _, _, rfl, rfl, ⟨by decide, by decide, by decide⟩, p, r2, m, k2, _, rfl, hg2, by decide +kernel, by decide +kernel, k20, by omega, fun X3 v3 r3 k3 g3 hg3 k30 k31 v30 v31 => ?_⟩
      refine ⟨_, _, rfl, rfl, ⟨by decide, by decide, by decide⟩, _, _, rfl, rfl, le_line (Nat.le_of_ble_eq_true rfl), fun LL X4 nLL x4' eLL => ?_⟩
      have x4 : Same X3 X4 := x4'
      refine ⟨_, rfl, p, r3, m, k3, 2, rfl, x4 _ _ hg3, by decide, by decide, k30, by omega, fun X5 v5 r5 k5 g5 hg5 k50 k51 v50 v51 => ?_⟩
      have fX : PF p H X5 := (((f1.trans (PF.take g2)).trans (PF.take g3)).trans (PF.of x4)).trans (PF.take g5)
      have nLp : LL ≠ p := fun z => by rw [z, hg3] at nLL; cases nLL
      have eLL5 : X5 LL = _ := (PF.take g5) LL _ nLp eLL
      have ee : (10 : Int) ^ (20 : Int).toNat = 100000000000000000000 ∧ (10 : Int) ^ (19 : Int).toNat = 10000000000000000000 := by decide +kernel
      rw [ee.1] at v31
      rw [ee.2] at eLL5
      obtain ⟨n, hn, hat⟩ : ∃ n : Int, n.natAbs < 2 ^ 70 ∧ atI ([.int (v2 - 4), .int (v3 - 10000000000000000000)] : List V) v5 = some (.int n) := by
        have h2 : v5 = 0 ∨ v5 = 1 := by omega
        rcases h2 with rfl | rfl
        · exact ⟨v2 - 4, by omega, rfl⟩
        · exact ⟨v3 - 10000000000000000000, by omega, rfl⟩
      refine ⟨LL, _, v5, .int n, rfl, rfl, SqL.of eLL5, hat, le_line (Nat.le_of_ble_eq_true rfl), fun T1 X6 nT1 x6' eT1 => ?_⟩
      have x6 : Same X5 X6 := x6'
      exact q X6 (.ref T1) (.num n) r5 k5 (fX.trans (PF.of x6)) (x6 _ _ hg5) k50 (by omega) (fun d => .num hn d) ⟨T1, rfl, eT1⟩
    · have ll : (0 : Int) < ((txs (n0 :: ns0)).length : Nat) := by rw [txs_len, List.length_cons]; omega
      have hLG := f1.lst hp hL
      have lb : (((txs (n0 :: ns0)).length : Nat) : Int).natAbs < 2 ^ 200 := by
        rw [txs_len]
        have : (2 : Nat) ^ 200 > 4000 := by decide
        omega
      refine ⟨_, rfl, _, rfl, _, rfl, L, _, rfl, .inl (SqL.of hLG), p, r1, m, k1, _, rfl, hg1, ll, lb, k10, by omega, fun G2 v2 r2 k2 g2 hg2 k20 k21 v20 v21 => ?_⟩
      have f2 : PF p H G2 := f1.trans (PF.take g2)
      obtain ⟨u, hu, hat⟩ := one_ofB v20 v21
      refine ⟨L, _, v2, _, rfl, rfl, SqL.of (f2.lst hp hL), hat, le_line (Nat.le_of_ble_eq_true rfl), fun T1 G3 nT1 g3' eT1 => ?_⟩
      have g3 : Same G2 G3 := g3'
      exact q G3 (.ref T1) (.read u) r2 k2 (f2.trans (PF.of g3)) (g3 _ _ hg2) k20 (by omega) (fun d => .read hN hu d) ⟨T1, rfl, eT1⟩
abbrev s__law_recipe : Stmt := topS 11
abbrev N__law_recipe : List Str := ["pool", "names", "deep", "way", "one", "other", "k"]
theorem sc__law_recipe : FnScope N__law_recipe ["pool", "names", "deep"] (defScope s__law_recipe) := ⟨rfl, rfl, rfl, by decide +kernel, rfl, by decide +kernel, by decide +kernel⟩

theorem ok__law_recipeB (T : Txt K mg) (D : IsDef K mg "_law_recipe" s__law_recipe ["pool", "names", "deep"]) (C_tk : Cal P w K mg base CX0 1 "_law_take" ["pool", "many"] spTakeP) (C_lf : Cal P w K mg base CX0 2 "_law_leaf" ["pool", "names"] spLeafB) : ∀ n, Cal P w K mg base CX0 (n + 2) "_law_recipe" ["pool", "names", "deep"] (spRcpB n)
  | 0 => cal_none D fun vs H Q E h => by
    obtain ⟨_, _, _, _, _, _, d, _, hd, _⟩ := h
    omega
  | n + 1 => by
    have C__law_recipe := ok__law_recipeB T D C_tk C_lf n
    have C__law_take := C_tk.mono (show 1 ≤ n + 2 by omega)
    have C__law_leaf := C_lf.mono (show 2 ≤ n + 2 by omega)
    refine D.cal (k := n + 2) sc__law_recipe (fun vs H Q E h => ?_) (fun f cdv A outer s H vs Q E hr h => ?_)
    · obtain ⟨_, _, _, _, _, _, _, rfl, _⟩ := h
      rfl
    obtain ⟨p, L, r, m, c, ns, d, rfl, hdn, hd3, hp, c0, c1, hL, hl, hN, q⟩ := h
    have p4 : 1 ≤ 4 ^ d := Nat.pow_le_pow_right (show 0 < 4 by decide) (Nat.zero_le d)
    refine ⟨_, (pss_cons (ps_set (i := 3) sc__law_recipe.nd rfl (Or.inl rfl) (pe_cal C__law_take (hr.mono (by first | decide | omega)) pass0 (pa_cons (pv 0) (pa_cons pe_int pa_nil))))
      (pss_cons (ps_if (PW.pt (pw_or (pt_cmpR op_eq (pv 2) pe_int (nomark _)) (pw_or1 (pt_cmpR op_eq (pv 3) pe_int (nomark _)))))
        (pss_one (ps_ret (pe_cal C__law_leaf (hr.mono (by first | decide | omega)) pass0 (pa_cons (pv 0) (pa_cons (pv 1) pa_nil)))))
        pss_nil)
      (pss_cons (ps_set (i := 4) sc__law_recipe.nd rfl (Or.inl rfl) (pe_cal C__law_recipe (hr.mono (by first | decide | omega)) pass0 (pa_cons (pv 0) (pa_cons (pv 1) (pa_cons (pe_op op_sub (pv 2) pe_int) pa_nil)))))
      (pss_cons (ps_if (pt_cmpR op_eq (pv 3) pe_int (nomark _))
        (pss_one (ps_ret (pe_tupA (pa_cons pe_str (pa_cons (pv 4) (pa_cons (pe_tupA (pa_cons pe_str (pa_cons (pe_op op_sub (pe_cal C__law_take (hr.mono (by first | decide | omega)) pass0 (pa_cons (pv 0) (pa_cons pe_int pa_nil))) pe_int) pa_nil))) pa_nil))))))
        pss_nil)
      (pss_cons (ps_if (PW.pt (pw_and (pt_cmpR op_eq (pv 3) pe_int (nomark _)) (pw_and1 (pt_cmpR (op_neD hr.units) (pv 1) (pe_lstA pa_nil) (nomark _)))))
        (pss_one (ps_ret (pe_tupA (pa_cons pe_str (pa_cons (pv 4) (pa_cons (pe_callTy call_tuple_of (by rfl) T.b_tuple (by decide +kernel) (pa_cons (pe_lc (own := [("k", 6)]) (g := gName 6)  (by rfl) sc__law_recipe.nd  (pi_range1 rfl T.b_range (pa_cons (pe_op op_add pe_int (pe_cal C__law_take (hr.mono (by first | decide | omega)) pass0 (pa_cons (pv 0) (pa_cons pe_int pa_nil)))) pa_nil)) (blkOk_by (own := [("k", 6)]) (N := N__law_recipe) (sc := defScope s__law_recipe) (by decide +kernel)) (fun _ _ _ _ _ => (pg_name (i := 6) sc__law_recipe.nd rfl (Or.inl rfl))) (fun _ _ _ _ _ => pts_nil) (fun _ _ _ _ _ => (pe_ix (r := rIxL K) ix_list (pv 1) (pe_cal C__law_take (hr.mono (by first | decide | omega)) pass0 (pa_cons (pv 0) (pa_cons (pe_callB (call_len_seqK (K := K) rfl) (by rfl) T.b_len PySem.boot_len (pa_cons (pv 1) pa_nil)) pa_nil))) (fun _ _ => rfl)))) pa_nil)) pa_nil))))))
        pss_nil)
      (pss_cons (ps_set (i := 5) sc__law_recipe.nd rfl (Or.inl rfl) (pe_cal C__law_recipe (hr.mono (by first | decide | omega)) pass0 (pa_cons (pv 0) (pa_cons (pv 1) (pa_cons (pe_op op_sub (pv 2) pe_int) pa_nil)))))
      (pss_cons (ps_if (pt_cmpR op_lt (pv 3) pe_int (nomark _))
        (pss_one (ps_ret (pe_tupA (pa_cons pe_str (pa_cons (pv 4) (pa_cons (pv 5) (pa_cons (pe_cal C__law_recipe (hr.mono (by first | decide | omega)) pass0 (pa_cons (pv 0) (pa_cons (pv 1) (pa_cons (pe_op op_sub (pv 2) pe_int) pa_nil)))) pa_nil)))))))
        pss_nil)
      (pss_one (ps_ret (pe_tupA (pa_cons (pe_ix (r := rIxL K) ix_list (pe_lstA (pa_cons pe_str (pa_cons pe_str (pa_cons pe_str (pa_cons pe_str pa_nil))))) (pe_op op_sub (pv 3) pe_int) (fun _ _ => rfl)) (pa_cons (pv 4) (pa_cons (pv 5) pa_nil))))))))))))), ?_⟩
    refine ⟨_, rfl, p, r, m, c, 9, rfl, hp, by decide, by decide, c0, by omega, fun H1 way r1 k1 g1 hp1 k10 k11 w0 w9 => ?_⟩
    have f1 : PF p H H1 := PF.take g1
    have hL1 := f1.lst hp hL
    refine in_name rfl ?_
    by_cases hd0 : d = 0
    · refine in_nx (in_seq ?_)
      refine ⟨_, rfl, rfl, _, rfl, iteY (by rw [hd0]; rfl) ?_⟩
      refine iteT ?_
      refine ⟨_, rfl, _, rfl, p, L, r1, m, k1, ns, rfl, hp1, k10, by omega, hL1, hl, hN, fun H2 rv rr r2 c2 f2 hp2 c20 c21 M hrec => ?_⟩
      exact q H2 rv rr r2 c2 (f1.trans f2) hp2 c20 (by omega) (M d) hrec
    refine in_nx (in_seq ?_)
    refine ⟨_, rfl, rfl, _, rfl, iteN (fun z => hd0 (by have := V.int.inj z; omega)) ?_⟩
    refine ⟨_, rfl, rfl, _, rfl, ?_⟩
    by_cases hw0 : way = 0
    · refine if_true_eq (decide_eq_true (congrArg V.int hw0)) ?_
      refine ⟨_, rfl, _, rfl, p, L, r1, m, k1, ns, rfl, hp1, k10, by omega, hL1, hl, hN, fun H2 rv rr r2 c2 f2 hp2 c20 c21 M hrec => ?_⟩
      exact q H2 rv rr r2 c2 (f1.trans f2) hp2 c20 (by omega) (M d) hrec
    refine if_false_eq (decide_eq_false fun z => hw0 (V.int.inj z)) ?_
    obtain ⟨e, rfl⟩ : ∃ e, d = e + 1 := ⟨d - 1, by omega⟩
    have pe : 4 ^ (e + 1) = 4 * 4 ^ e := by rw [Nat.pow_succ]; omega
    have p4e : 1 ≤ 4 ^ e := Nat.pow_le_pow_right (show 0 < 4 by decide) (Nat.zero_le e)
    rw [pe] at c1 q
    have dc : ((e + 1 : Nat) : Int) - 1 = (e : Int) := by omega
    refine in_nx (in_seq (in_asg ⟨_, rfl, _, rfl, _, rfl, _, _, rfl, rfl, p, L, r1, m, k1, ns, e, by show [V.ref p, V.ref L, V.int (((e + 1 : Nat) : Int) - 1)] = _; rw [dc], by omega, by omega, hp1, k10, by omega, hL1, hl, hN, fun H2 rv1 rr1 r2 k2 f2 hp2 k20 k21 M1 rec1 => ?_⟩))
    have F2 := f1.trans f2
    have hL2 := F2.lst hp hL
    refine in_name rfl ?_
    refine in_nx (in_seq ?_)
    refine ⟨_, rfl, rfl, _, rfl, ?_⟩
    by_cases hw1 : way = 1
    · refine if_true_eq (decide_eq_true (congrArg V.int hw1)) ?_
      refine ⟨_, rfl, _, rfl, p, r2, m, k2, 7, rfl, hp2, by decide, by decide, k20, by omega, fun H3 v3 r3 k3 g3 hp3 k30 k31 v30 v31 => ?_⟩
      refine ⟨_, _, rfl, rfl, le_line (Nat.le_of_ble_eq_true rfl), fun T1 H4 nT1 s4' eT1 => ⟨le_line (Nat.le_of_ble_eq_true rfl), fun T2 H5 nT2 s5' eT2 => ?_⟩⟩
      have s4 : Same H3 H4 := s4'
      have s5 : Same H4 H5 := s5'
      have F5 := ((F2.trans (PF.take g3)).trans (PF.of s4)).trans (PF.of s5)
      have rec5 := rec1.keep (((PF.take g3).trans (PF.of (s4.trans s5))).keep hp2)
      exact q H5 (.ref T2) (.two .times rr1 (.num (v3 - 3))) r3 k3 F5 (s5 _ _ (s4 _ _ hp3)) k30 (by omega) (M1.times (by omega)) ⟨T2, rv1, .ref T1, rfl, eT2, rec5, ⟨T1, rfl, s5 _ _ eT1⟩⟩
    refine if_false_eq (decide_eq_false fun z => hw1 (V.int.inj z)) ?_
    refine in_nx (in_seq ?_)
    by_cases hw2 : way = 2 ∧ ns ≠ []
    · obtain ⟨hw2, hne⟩ := hw2
      obtain ⟨n0, ns0, hns⟩ : ∃ n0 ns0, ns = n0 :: ns0 := by cases ns with
        | nil => exact absurd rfl hne
        | cons a b => exact ⟨a, b, rfl⟩
      refine ⟨_, rfl, rfl, _, rfl, if_true_eq (decide_eq_true (congrArg V.int hw2)) ?_⟩
      refine ⟨_, rfl, Nat.zero_le _, fun O H3 nO s3' eO => ?_⟩
      have s3 : Same H2 H3 := s3'
      refine ⟨_, _, Data.dp (t := .lst (nmsTh ns)) Nms.flat ⟨L, _, rfl, s3 _ _ hL2, nms_data H3 ns⟩, .lst (SqL.of eO) .nil, Nms.shaped hN, rfl, _, rfl, ?_⟩
      have ev : PyData.eqv (.list (Th.pyL (nmsTh ns))) (.list []) = false := by rw [hns]; rfl
      refine not_false_eq ev ?_
      have F3 := F2.trans (PF.of s3)
      have hL3 := s3 _ _ hL2
      have ll : (0 : Int) < ((txs ns).length : Nat) := by rw [txs_len, hns, List.length_cons]; omega
      have lb : (((txs ns).length : Nat) : Int).natAbs < 2 ^ 200 := by
        rw [txs_len]
        have : (2 : Nat) ^ 200 > 4000 := by decide
        omega
      refine ⟨_, rfl, _, rfl, p, r2, m, k2, 4, rfl, s3 _ _ hp2, by decide, by decide, k20, by omega, fun H4 v4 r4 k4 g4 hp4 k40 k41 v40 v41 => ?_⟩
      have F4 := F3.trans (PF.take g4)
      have hL4 := F4.lst hp hL
      refine ⟨_, _, rfl, rfl, 1 + v4, rfl, by omega, by omega, fun D nD => ?_⟩
      have nDp : D ≠ p := fun z => by rw [z, hp4] at nD; cases nD
      have nLD : L ≠ D := fun z => by rw [← z, hL4] at nD; cases nD
      have nDH : H D = none := by
        cases eD : H D with
        | none => rfl
        | some u => rw [F4 D u nDp eD] at nD; cases nD
      refine lc_range (lo := 0) (n := (1 + v4).toNat) (fun j Z => ∃ (rj cj : Int) (ss : List (List Nat)), (∀ b u, b ≠ p → b ≠ D → H4 b = some u → Z b = some u) ∧ Z p = some (.dK (pool rj m cj)) ∧ 0 ≤ cj ∧ cj ≤ k4 + j ∧ Z D = some (.lst (txs ss)) ∧ ss.length = j ∧ ∀ u ∈ ss, u ∈ ns)
        ⟨r4, k4, [], fun b u _ nb e => by rw [upd_ne nb]; exact e, by rw [upd_ne (Ne.symm nDp)]; exact hp4, k40, by omega, upd_same, rfl, fun _ h => nomatch h⟩ ?_ ?_
      · rintro j Z hj ⟨rj, cj, ss, fZ, hpZ, cj0, cj1, eZ, sl, sn⟩
        have hLZ := fZ L _ (fun z => by rw [z, hp] at hL; cases hL) nLD hL4
        refine ⟨rfl, _, rfl, _, rfl, _, rfl, L, _, rfl, .inl (SqL.of hLZ), p, rj, m, cj, _, rfl, hpZ, ll, lb, cj0, by omega, fun Z2 v5 r5 k5 g5 hp5 k50 k51 v50 v51 => ?_⟩
        have eZ2 : Z2 D = some (.lst (txs ss)) := PF.take g5 D _ nDp eZ
        obtain ⟨u, hu, hat⟩ := one_ofB v50 v51
        refine ⟨L, _, v5, _, rfl, rfl, SqL.of ((PF.take g5).lst hpZ hLZ), hat, _, eZ2, lt_line (by rw [txs_len]; omega), ?_⟩
        rw [txs_snoc]
        refine ⟨r5, k5, ss ++ [u], fun b x nb nb2 e => by rw [upd_ne nb2]; exact PF.take g5 b x nb (fZ b x nb nb2 e), by rw [upd_ne (Ne.symm nDp)]; exact hp5, k50, by omega, upd_same, by rw [List.length_append, sl]; rfl, fun x hx => ?_⟩
        rcases List.mem_append.mp hx with hx | hx
        · exact sn x hx
        · rw [List.mem_singleton.mp hx]; exact hu
      · rintro Z ⟨rj, cj, ss, fZ, hpZ, cj0, cj1, eZ, sl, sn⟩
        have fHZ : PF p H Z := fun b u nb e => fZ b u nb (fun z => by rw [z, nDH] at e; cases e) (F4 b u nb e)
        have f2Z : PF p H2 Z := fun b u nb e => fZ b u nb (fun z => by
          have := PF.take g4 b u nb (s3 _ _ e)
          rw [z, nD] at this
          cases this) (PF.take g4 b u nb (s3 _ _ e))
        refine ⟨D, _, rfl, .inl ⟨SqL.of eZ, fun tp ntp => ?_⟩⟩
        have u1 := same_new ntp (.tup (txs ss))
        have etp : upd Z tp (.tup (txs ss)) tp = some (.tup (txs ss)) := upd_same
        generalize upd Z tp (.tup (txs ss)) = Z1 at u1 etp ⊢
        refine ⟨le_line (Nat.le_of_ble_eq_true rfl), fun T3 Z2 nT3 z2' eT3 => ?_⟩
        have z2 : Same Z1 Z2 := z2'
        have fin := (PF.of (p := p) (u1.trans z2))
        exact q Z2 (.ref T3) (.choose rr1 ss) rj cj (fHZ.trans fin) (z2 _ _ (u1 _ _ hpZ)) cj0 (by omega) (M1.choose sn ⟨by omega, by omega, fun u hu => hN u (sn u hu)⟩) ⟨T3, rv1, tp, rfl, eT3, rec1.keep ((f2Z.trans fin).keep hp2), z2 _ _ etp⟩
    refine nx_post (fun σ X => σ = [some (.ref p), some (.ref L), some (.int ((e + 1 : Nat) : Int)), some (.int way), some rv1, none, none] ∧ Same H2 X) (fun nx hnx => ?_) ?_
    · refine ⟨_, rfl, rfl, _, rfl, ?_⟩
      by_cases hw : way = 2
      · refine if_true_eq (decide_eq_true (congrArg V.int hw)) ?_
        have hns : ns = [] := Classical.byContradiction fun z => hw2 ⟨hw, z⟩
        refine ⟨_, rfl, Nat.zero_le _, fun O H3 nO s3' eO => ?_⟩
        have s3 : Same H2 H3 := s3'
        refine ⟨_, _, Data.dp (t := .lst (nmsTh ns)) Nms.flat ⟨L, _, rfl, s3 _ _ hL2, nms_data H3 ns⟩, .lst (SqL.of eO) .nil, Nms.shaped hN, rfl, _, rfl, ?_⟩
        have ev : PyData.eqv (.list (Th.pyL (nmsTh ns))) (.list []) = true := by rw [hns]; rfl
        exact not_true_eq ev (hnx _ _ ⟨rfl, s3⟩)
      · exact if_false_eq (decide_eq_false fun z => hw (V.int.inj z)) (iteF (hnx _ _ ⟨rfl, fun _ _ e => e⟩))
    rintro σ X ⟨rfl, sX⟩
    have FX := F2.trans (PF.of sX)
    have hLX := sX _ _ hL2
    refine in_nx (in_seq (in_asg ⟨_, rfl, _, rfl, _, rfl, _, _, rfl, rfl, p, L, r2, m, k2, ns, e, by show [V.ref p, V.ref L, V.int (((e + 1 : Nat) : Int) - 1)] = _; rw [dc], by omega, by omega, sX _ _ hp2, k20, by omega, hLX, hl, hN, fun H5 rv2 rr2 r5 k5 f5 hp5 k50 k51 M2 rec2 => ?_⟩))
    have F5 := FX.trans f5
    have hL5 := F5.lst hp hL
    have rec15 := rec1.keep (((PF.of sX).trans f5).keep hp2)
    refine in_name rfl ?_
    refine in_nx (in_seq ?_)
    refine ⟨_, rfl, _, _, rfl, rfl, _, rfl, ?_⟩
    by_cases hw5 : way < 5
    · refine iteY hw5 ?_
      refine ⟨_, rfl, _, rfl, _, rfl, _, rfl, _, rfl, _, _, rfl, rfl, p, L, r5, m, k5, ns, e, by show [V.ref p, V.ref L, V.int (((e + 1 : Nat) : Int) - 1)] = _; rw [dc], by omega, by omega, hp5, k50, by omega, hL5, hl, hN, fun H6 rv3 rr3 r6 k6 f6 hp6 k60 k61 M3 rec3 => ?_⟩
      refine ⟨le_line (Nat.le_of_ble_eq_true rfl), fun T1 H7 nT1 s7' eT1 => ?_⟩
      have s7 : Same H6 H7 := s7'
      have k67 := (f6.trans (PF.of s7)).keep hp5
      exact q H7 (.ref T1) (.pick rr1 rr2 rr3) r6 k6 ((F5.trans f6).trans (PF.of s7)) (s7 _ _ hp6) k60 (by omega) (M1.pick M2 M3) ⟨T1, rv1, rv2, rv3, rfl, eT1, rec15.keep k67, rec2.keep k67, rec3.keep (same_keep s7)⟩
    · refine iteN hw5 ?_
      refine ⟨le_line (Nat.le_of_ble_eq_true rfl), fun LL H6 nLL s6' eLL => ?_⟩
      have s6 : Same H5 H6 := s6'
      have kk : way = 5 ∨ way = 6 ∨ way = 7 ∨ way = 8 := by omega
      obtain ⟨kd, hkd, hnt⟩ : ∃ kd : Kd, atI ([.str "plus", .str "minus", .str "most", .str "plus"] : List V) (way - 5) = some (.str kd.name) ∧ kd ≠ .times := by
        rcases kk with e | e | e | e <;> rw [e]
        · exact ⟨.plus, rfl, by decide⟩
        · exact ⟨.minus, rfl, by decide⟩
        · exact ⟨.most, rfl, by decide⟩
        · exact ⟨.plus, rfl, by decide⟩
      refine ⟨_, rfl, _, _, rfl, rfl, LL, _, _, .str kd.name, rfl, rfl, SqL.of eLL, hkd, _, rfl, _, rfl, le_line (Nat.le_of_ble_eq_true rfl), fun T1 H7 nT1 s7' eT1 => ?_⟩
      have s7 : Same H6 H7 := s7'
      have s57 := s6.trans s7
      exact q H7 (.ref T1) (.two kd rr1 rr2) r5 k5 (F5.trans (PF.of s57)) (s57 _ _ hp5) k50 (by omega) (.two hnt M1 M2) ⟨T1, rv1, rv2, rfl, eT1, rec15.keep (same_keep s57), rec2.keep (same_keep s57)⟩
end
/-! ### houses drawn -/
open LamX NdefX
theorem cut_txs (l : List (List Nat)) (a b : Option Int) : ∃ l', cutV (txs l) a b = txs l' ∧ (∀ u ∈ l', u ∈ l) ∧ l'.length ≤ l.length := by
  refine ⟨(l.drop (HT.sIx (txs l).length 0 a)).take (HT.sIx (txs l).length (txs l).length b - HT.sIx (txs l).length 0 a), ?_, fun u hu => List.mem_of_mem_drop (List.mem_of_mem_take hu), ?_⟩
  · show ((txs l).drop _).take _ = _
    rw [txs_drop, txs_take]
  · rw [List.length_take, List.length_drop]
    omega
section
variable {g : List Pr} {rc : List RcpNm} {k : Nat}
theorem HouseK.fresh (H : HouseK ⟨g, rc⟩ k) (hk : k < 16) : ¬ nmE k ∈ g.map (·.1) ∧ ¬ nmE k ∈ rc.map (·.1) := by
  have h : ¬ nmE k ∈ g.map (·.1) ++ rc.map (·.1) := fun z => by
    obtain ⟨j, hj, e⟩ := H.own z
    have := nmE_inj hk (by omega) e
    omega
  exact ⟨fun z => h (List.mem_append_left _ z), fun z => h (List.mem_append_right _ z)⟩
theorem HouseK.empty : HouseK ⟨[], []⟩ 0 := ⟨by decide, List.nodup_nil, fun k h => absurd h (Nat.not_lt_zero _), (fun _ h => nomatch h), fun _ h => nomatch h⟩
theorem HouseK.give (H : HouseK ⟨g, rc⟩ k) (hk : k < 16) {v : Int} (hv : v.natAbs < 2 ^ 66) : HouseK ⟨putA g (nmE k) v, rc⟩ (k + 1) := by
  obtain ⟨n1, n2⟩ := H.fresh hk
  have hnd : (g.map (·.1) ++ rc.map (·.1)).Nodup := H.nd
  obtain ⟨d1, d2, d3⟩ := List.nodup_append.mp hnd
  rw [putA_new v n1]
  have ek : (g ++ [(nmE k, v)]).map (·.1) = g.map (·.1) ++ [nmE k] := by rw [List.map_append]; rfl
  refine ⟨by omega, ?_, fun j hj => ?_, fun p hp => ?_, fun p hp => ?_⟩
  · show ((g ++ [(nmE k, v)]).map (·.1) ++ rc.map (·.1)).Nodup
    rw [ek]
    refine List.nodup_append.mpr ⟨List.nodup_append.mpr ⟨d1, List.nodup_cons.mpr ⟨(fun z => nomatch z), List.nodup_nil⟩, fun x hx y hy e => n1 (by rw [List.mem_singleton.mp hy] at e; rw [← e]; exact hx)⟩, d2, fun x hx y hy e => ?_⟩
    rcases List.mem_append.mp hx with hx | hx
    · exact d3 x hx y hy e
    · rw [List.mem_singleton.mp hx] at e
      exact n2 (by rw [e]; exact hy)
  · show nmE j ∈ (g ++ [(nmE k, v)]).map (·.1) ++ rc.map (·.1)
    rw [ek]
    by_cases c : j = k
    · rw [c]
      exact List.mem_append_left _ (List.mem_append_right _ (List.mem_singleton.mpr rfl))
    · rcases List.mem_append.mp (H.all j (by omega)) with h | h
      · exact List.mem_append_left _ (List.mem_append_left _ h)
      · exact List.mem_append_right _ h
  · rcases List.mem_append.mp hp with hp | hp
    · obtain ⟨⟨j, hj, e⟩, b⟩ := H.gv p hp
      exact ⟨⟨j, by omega, e⟩, b⟩
    · rw [List.mem_singleton.mp hp]
      exact ⟨⟨k, by omega, rfl⟩, hv⟩
  · obtain ⟨j, hj, e, r⟩ := H.rc p hp
    exact ⟨j, by omega, e, r⟩
theorem HouseK.cook (H : HouseK ⟨g, rc⟩ k) (hk : k < 16) {r : Rcp} {ns : List (List Nat)} (hn : ∀ u ∈ ns, u ∈ nmB k) (M : MadeB ns 3 r) : HouseK ⟨g, putA rc (nmE k) r⟩ (k + 1) := by
  obtain ⟨n1, n2⟩ := H.fresh hk
  have hnd : (g.map (·.1) ++ rc.map (·.1)).Nodup := H.nd
  obtain ⟨d1, d2, d3⟩ := List.nodup_append.mp hnd
  rw [putA_new r n2]
  have ek : (rc ++ [(nmE k, r)]).map (·.1) = rc.map (·.1) ++ [nmE k] := by rw [List.map_append]; rfl
  refine ⟨by omega, ?_, fun j hj => ?_, fun p hp => ?_, fun p hp => ?_⟩
  · show (g.map (·.1) ++ (rc ++ [(nmE k, r)]).map (·.1)).Nodup
    rw [ek, ← List.append_assoc]
    exact List.nodup_append.mpr ⟨hnd, List.nodup_cons.mpr ⟨(fun z => nomatch z), List.nodup_nil⟩, fun x hx y hy e => by
      have e2 : y = nmE k := List.mem_singleton.mp hy
      rw [e, e2] at hx
      exact (List.mem_append.mp hx).elim n1 n2⟩
  · show nmE j ∈ g.map (·.1) ++ (rc ++ [(nmE k, r)]).map (·.1)
    rw [ek, ← List.append_assoc]
    by_cases c : j = k
    · rw [c]
      exact List.mem_append_right _ (List.mem_singleton.mpr rfl)
    · exact List.mem_append_left _ (H.all j (by omega))
  · obtain ⟨⟨j, hj, e⟩, b⟩ := H.gv p hp
    exact ⟨⟨j, by omega, e⟩, b⟩
  · rcases List.mem_append.mp hp with hp | hp
    · obtain ⟨j, hj, e, r⟩ := H.rc p hp
      exact ⟨j, by omega, e, r⟩
    · rw [List.mem_singleton.mp hp]
      exact ⟨k, by omega, rfl, ns, fun u hu => nmB_mem (hn u hu), M⟩
end
/-- told: two new dicts, a new tuple of both -/
def spHouseB (K : PySem.W.Frag) : Sp := fun vs H Q _ => ∃ (a : Addr) (ns : List Int) (start : Int) (m : Nat), vs = [.ref a, .int start, .int (m : Int)] ∧ SqL K H a (ns.map V.int) ∧ ns.length ≤ 63 ∧ 0 ≤ start ∧ start ≤ 900 ∧ 1 ≤ m ∧ m ≤ 16 ∧
  ∀ (U G R : Addr) (h : House) (kvs : List (Key × V)) (H' : Hp), Same H H' → H U = none → H G = none → H R = none → H' U = some (.tup [.ref G, .ref R]) → H' G = some (.dK (numsK h.given)) → H' R = some (.dK kvs) → KvR (Rec H') h.recs kvs → HouseK h m → nmE 0 ∈ h.given.map (·.1) → (∀ p ∈ h.given, p.2.natAbs ≤ 6) → Q (.ref U) H'
section
variable {P : Program} {w : World} {K : PySem.W.Frag} {mg : Str → Option Value} {base : Heap}
abbrev s__law_house : Stmt := topS 12
abbrev N__law_house : List Str := ["script", "start", "many", "given", "recipes", "names", "k", "pool"]
theorem sc__law_house : FnScope N__law_house ["script", "start", "many"] (defScope s__law_house) := ⟨rfl, rfl, rfl, by decide +kernel, rfl, by decide +kernel, by decide +kernel⟩

theorem ok__law_houseB (T : Txt K mg) (D : IsDef K mg "_law_house" s__law_house ["script", "start", "many"]) (C_pool : Cal P w K mg base CX0 2 "_law_pool" ["script", "k"] (spPool K)) (C_tk : Cal P w K mg base CX0 1 "_law_take" ["pool", "many"] spTakeP) (C_nm : Cal P w K mg base CX0 1 "_law_name" ["k"] spNameE) (C_rcp : Cal P w K mg base CX0 6 "_law_recipe" ["pool", "names", "deep"] (spRcpB 4)) :
    Cal P w K mg base CX0 7 "_law_house" ["script", "start", "many"] (spHouseB K) := by
  have C__law_pool := C_pool.mono (show 2 ≤ 6 by decide)
  have C__law_take := C_tk.mono (show 1 ≤ 6 by decide)
  have C__law_name := C_nm.mono (show 1 ≤ 6 by decide)
  have C__law_recipe := C_rcp
  refine D.cal (k := 6) sc__law_house (fun vs H Q E h => ?_) (fun f cdv A outer s H vs Q E hr h => ?_)
  · obtain ⟨_, _, _, _, rfl, _⟩ := h
    rfl
  obtain ⟨a, ns, start, m, rfl, hS, h63, st0, st1, m1, m16, q⟩ := h
  have hu : (cxOf CX0 P w K mg base N__law_house "_law_house" (defScope s__law_house) f cdv A outer s H E).A.units + 1 < cLine := Nat.lt_of_le_of_lt (Nat.add_le_add_left (by decide : 1 ≤ 64) _) hr.units
  refine ⟨_, (pss_cons (ps_set (i := 3) sc__law_house.nd rfl (Or.inl rfl) pe_dnewA)
      (pss_cons (ps_set (i := 4) sc__law_house.nd rfl (Or.inl rfl) pe_dnewA)
      (pss_cons (ps_set (i := 5) sc__law_house.nd rfl (Or.inl rfl) (pe_lstA pa_nil))
      (pss_cons (ps_for PassesOwn.never rfl (pi_range1 rfl T.b_range (pa_cons (pv 2) pa_nil)) (pg_name (i := 6) sc__law_house.nd rfl (Or.inl rfl))
        (pss_cons (ps_set (i := 7) sc__law_house.nd rfl (Or.inl rfl) (pe_cal C__law_pool (hr.mono (by first | decide | omega)) pass0 (pa_cons (pv 0) (pa_cons (pe_op op_add (pv 1) (pv 6)) pa_nil))))
      (pss_cons (ps_if (PW.pt (pw_or (pt_cmpR op_eq (pv 6) pe_int (nomark _)) (pw_or1 (pt_cmpR op_eq (pe_cal C__law_take (hr.mono (by first | decide | omega)) pass0 (pa_cons (pv 7) (pa_cons pe_int pa_nil))) pe_int (nomark _)))))
        (pss_one (ps_dput hu (pv 3) (pe_cal C__law_name (hr.mono (by first | decide | omega)) pass0 (pa_cons (pv 6) pa_nil)) (pe_op op_sub (pe_cal C__law_take (hr.mono (by first | decide | omega)) pass0 (pa_cons (pv 7) (pa_cons pe_int pa_nil))) pe_int) rfl))
        (pss_one (ps_dput hu (pv 4) (pe_cal C__law_name (hr.mono (by first | decide | omega)) pass0 (pa_cons (pv 6) pa_nil)) (pe_cal C__law_recipe (hr.mono (by first | decide | omega)) pass0 (pa_cons (pv 7) (pa_cons (pe_slice (r := rSlLA K) sl_listA (pv 5) (po_some (pe_un un_neg pe_int)) po_none) (pa_cons (pe_ix (r := rIxL K) ix_list (pe_lstA (pa_cons pe_int (pa_cons pe_int (pa_cons pe_int pa_nil)))) (pe_cal C__law_take (hr.mono (by first | decide | omega)) pass0 (pa_cons (pv 7) (pa_cons pe_int pa_nil))) (fun _ _ => rfl)) pa_nil)))) rfl)))
      (pss_one (ps_expr (pe_bm PySem.F.plainAttrs_list PySem.F.slot_list_append PySem.F.type_list_append mt_append (pv 5) (pa_cons (pe_cal C__law_name (hr.mono (by first | decide | omega)) pass0 (pa_cons (pv 6) pa_nil)) pa_nil)))))))
      (pss_one (ps_ret (pe_tupA (pa_cons (pv 3) (pa_cons (pv 4) pa_nil))))))))), ?_⟩
  refine fun G H1 nG s1' eG => ?_
  have s1 : Same H H1 := s1'
  refine in_name rfl ?_
  refine in_nx (in_seq (in_asg fun R H2 nR s2' eR => ?_))
  have s2 : Same H1 H2 := s2'
  refine in_name rfl ?_
  refine in_nx (in_seq (in_asg ⟨Nat.zero_le _, fun Ln H3 nLn s3' eLn => ?_⟩))
  have s3 : Same H2 H3 := s3'
  refine in_name rfl ?_
  have s02 := s1.trans s2
  have s03 := s02.trans s3
  have nGR : G ≠ R := fun z => by rw [z, nR] at eG; cases eG
  have nRH : H R = none := s1.free nR
  have nLH : H Ln = none := s02.free nLn
  have eG3 := s3 _ _ (s2 _ _ eG)
  have eR3 := s3 _ _ eR
  have nLG : Ln ≠ G := fun z => by rw [z, s2 _ _ eG] at nLn; cases nLn
  have nLR : Ln ≠ R := fun z => by rw [z, eR] at nLn; cases nLn
  refine in_nx (in_seq ?_)
  refine ⟨_, rfl, (m : Int), rfl, by omega, by omega, for_range (lo := 0) (n := ((m : Nat) : Int).toNat) (fun i σ X => ∃ (w6 w7 : Option V) (g : List Pr) (rc : List RcpNm) (kv : List (Key × V)), σ = [some (.ref a), some (.int start), some (.int (m : Int)), some (.ref G), some (.ref R), some (.ref Ln), w6, w7] ∧ Same H X ∧ X G = some (.dK (numsK g)) ∧ X R = some (.dK kv) ∧ KvR (Rec X) rc kv ∧ X Ln = some (.lst (txs (nmB i))) ∧ HouseK ⟨g, rc⟩ i ∧ (1 ≤ i → nmE 0 ∈ g.map (·.1)) ∧ ∀ p ∈ g, p.2.natAbs ≤ 6)
    ⟨none, none, [], [], [], rfl, s03, eG3, eR3, trivial, eLn, HouseK.empty, (fun z => absurd z (by decide)), fun _ h => nomatch h⟩ ?_ ?_⟩
  · rintro i σ X hi ⟨w6, w7, g, rc, kv, rfl, sX, eGX, eRX, hK, eLX, hH, h0, h6⟩
    have him : i < m := by omega
    refine in_name rfl ?_
    refine ⟨_, rfl, _, rfl, _, rfl, _, _, rfl, rfl, a, ns, start + (0 + (i : Int)), rfl, sX.seq hS, h63, by omega, by omega, fun p r mm c np c0 c1 => ?_⟩
    have sp := same_new np (.dK (pool r mm c))
    have ep : upd X p (.dK (pool r mm c)) p = some (.dK (pool r mm c)) := upd_same
    generalize upd X p (.dK (pool r mm c)) = X1 at sp ep ⊢
    refine in_name rfl ?_
    have sX1 := sX.trans sp
    have npH : H p = none := sX.free np
    have npG : G ≠ p := fun z => by rw [z, np] at eGX; cases eGX
    have npR : R ≠ p := fun z => by rw [z, np] at eRX; cases eRX
    have npL : Ln ≠ p := fun z => by rw [z, np] at eLX; cases eLX
    have gl := hH.count
    refine in_nx (in_seq (nx_post (fun σ Y => ∃ (g : List Pr) (rc : List RcpNm) (kv : List (Key × V)), σ = [some (.ref a), some (.int start), some (.int (m : Int)), some (.ref G), some (.ref R), some (.ref Ln), some (.int (0 + (i : Int))), some (.ref p)] ∧ Same H Y ∧ Y G = some (.dK (numsK g)) ∧ Y R = some (.dK kv) ∧ KvR (Rec Y) rc kv ∧ Y Ln = some (.lst (txs (nmB i))) ∧ HouseK ⟨g, rc⟩ (i + 1) ∧ nmE 0 ∈ g.map (·.1) ∧ ∀ p ∈ g, p.2.natAbs ≤ 6) (fun nx hnx => ?_) ?_))
    · have glen : (numsK g).length ≤ 16 := by rw [numsK_len]; have : g.length + rc.length = i := gl; omega
      have klen : kv.length ≤ 16 := by rw [hK.len]; have : g.length + rc.length = i := gl; omega
      have give : ∀ {rt : V → Hp → Prop} {bk ct : L2.St → Hp → Prop} {Y : Hp} {r1 c1 : Int}, PF p X1 Y → Y p = some (.dK (pool r1 mm c1)) → 0 ≤ c1 → c1 ≤ 6000 → (sDPut (tVar 3) (tCall spNameE [] E0 (tCons (tVar 6) tNil)) (tOp (rI0 fun i j => V.int (i - j)) (tCall spTakeP [] E0 (tCons (tVar 7) (tCons (tC (V.int 13)) tNil))) (tC (V.int 6)))) { nx := nx, rt := rt, bk := bk, ct := ct } [some (.ref a), some (.int start), some (.int (m : Int)), some (.ref G), some (.ref R), some (.ref Ln), some (.int (0 + (i : Int))), some (.ref p)] Y := fun {rt bk ct Y r1 c1} fY hpY c10 c11 => by
        refine ⟨_, rfl, p, r1, mm, c1, 13, rfl, hpY, by decide, by decide, c10, by omega, fun Y2 v2 r2 c2 g2 hp2 c20 c21 v20 v21 => ?_⟩
        have fY2 := fY.trans (PF.take g2)
        have eGY := fY2 _ _ npG (sp _ _ eGX)
        refine ⟨_, _, rfl, rfl, _, rfl, _, rfl, 0 + (i : Int), i, rfl, by omega, by omega, G, _, rfl, DPut.k (k := kT (SX.S (nmE i))) eGY (lt_line (by omega)), ?_⟩
        rw [nums_putA]
        have keep2 : Keep X1 (upd Y2 G (.dK (numsK (putA g (nmE i) (v2 - 6))))) := fun b ys e => by
          rw [upd_ne (fun z => by rw [z, sp _ _ eGX] at e; cases e)]
          exact fY2 _ _ (fun z => by rw [z, ep] at e; cases e) e
        refine hnx _ _ ⟨putA g (nmE i) (v2 - 6), rc, kv, rfl, fun b u e => ?_, upd_same, by rw [upd_ne (Ne.symm nGR)]; exact fY2 _ _ npR (sp _ _ eRX), hK.imp fun r v q => (q.same sp).keep keep2, by rw [upd_ne nLG]; exact fY2 _ _ npL (sp _ _ eLX), hH.give (by omega) (by omega), putA_mem.mpr ?_, fun y hy => ?_⟩
        · rw [upd_ne (fun z => by rw [z, nG] at e; cases e)]
          exact fY2 _ _ (fun z => by rw [z, npH] at e; cases e) (sX1 _ _ e)
        · by_cases c : i = 0
          · exact .inr (by rw [c])
          · exact .inl (h0 (by omega))
        · rcases mem_putA hy with rfl | hy
          · show (v2 - 6).natAbs ≤ 6
            omega
          · exact h6 y hy
      refine ⟨_, rfl, rfl, _, rfl, ?_⟩
      by_cases c0i : i = 0
      · refine if_true_eq (decide_eq_true (by rw [c0i]; rfl)) (iteT ?_)
        exact give (PF.refl _ _) ep c0 (by omega)
      refine if_false_eq (decide_eq_false fun z => c0i (by have := V.int.inj z; omega)) ?_
      refine ⟨_, rfl, p, r, mm, c, 4, rfl, ep, by decide, by decide, c0, by omega, fun Y1 v1 r1 k1 g1 hp1 k10 k11 v10 v11 => ?_⟩
      refine ⟨rfl, _, rfl, ?_⟩
      refine ite2 (fun _ => ?_) (fun _ => ?_)
      · exact give (PF.take g1) hp1 k10 (by omega)
      · have f1 : PF p X1 Y1 := PF.take g1
        have eL1 := f1 _ _ npL (sp _ _ eLX)
        refine ⟨_, rfl, _, rfl, _, rfl, _, rfl, Ln, _, rfl, SqL.of eL1, fun L1 Y2 nL1 y2' eL2 => ?_⟩
        have y2 : Same Y1 Y2 := y2'
        obtain ⟨ms, ems, msub, mlen⟩ := cut_txs (nmB i) (some (-9)) none
        have eL2 : Y2 L1 = some (.lst (txs ms)) := by rw [← ems]; exact eL2
        refine ⟨le_line (Nat.le_of_ble_eq_true rfl), fun LL Y3 nLL y3' eLL => ?_⟩
        have y3 : Same Y2 Y3 := y3'
        have y23 := y2.trans y3
        refine ⟨_, rfl, p, r1, mm, k1, 3, rfl, y23 _ _ hp1, by decide, by decide, k10, by omega, fun Y4 v4 r4 k4 g4 hp4 k40 k41 v40 v41 => ?_⟩
        have f4 : PF p Y3 Y4 := PF.take g4
        have nLLp : LL ≠ p := fun z => by rw [z, y2 _ _ hp1] at nLL; cases nLL
        have nL1p : L1 ≠ p := fun z => by rw [z, hp1] at nL1; cases nL1
        obtain ⟨dd, hdd, hat⟩ : ∃ dd : Nat, (1 ≤ dd ∧ dd ≤ 3) ∧ atI ([.int 1, .int 2, .int 3] : List V) v4 = some (.int (dd : Int)) := by
          have h3 : v4 = 0 ∨ v4 = 1 ∨ v4 = 2 := by omega
          rcases h3 with rfl | rfl | rfl
          · exact ⟨1, by decide, rfl⟩
          · exact ⟨2, by decide, rfl⟩
          · exact ⟨3, by decide, rfl⟩
        have d4 : 4 ^ dd ≤ 4 ^ 3 := Nat.pow_le_pow_right (by decide) hdd.2
        refine ⟨LL, _, v4, .int (dd : Int), rfl, rfl, SqL.of (f4 _ _ nLLp eLL), hat, p, L1, r4, mm, k4, ms, dd, rfl, by omega, hdd.2, hp4, k40, by omega, f4 _ _ nL1p (y3 _ _ eL2), by rw [nmB_len] at mlen; omega, fun u hu => (by
          obtain ⟨j, hj, rfl⟩ := nmB_mem (msub u hu)
          exact nm16.2 j (by omega)), fun Y5 rv rr r5 k5 f5 hp5 k50 k51 M hrec => ?_⟩
        have f15 : PF p X1 Y5 := ((f1.trans (PF.of y23)).trans f4).trans f5
        have eRY := f15 _ _ npR (sp _ _ eRX)
        refine ⟨_, rfl, _, rfl, 0 + (i : Int), i, rfl, by omega, by omega, R, _, rfl, DPut.k (k := kT (SX.S (nmE i))) eRY (lt_line (by omega)), ?_⟩
        have kp5 : Keep Y5 (upd Y5 R (.dK (putK kv (kT (SX.S (nmE i))) rv))) := fun b ys e => by rw [upd_ne (fun z => by rw [z, eRY] at e; cases e)]; exact e
        have kX5 : Keep X1 Y5 := f15.keep ep
        refine hnx _ _ ⟨g, putA rc (nmE i) rr, _, rfl, fun b u e => ?_, by rw [upd_ne nGR]; exact f15 _ _ npG (sp _ _ eGX), upd_same, (KvR.put (a := rr) hrec (hK.imp fun r v q => (q.same sp).keep kX5)).imp fun r v q => q.keep kp5, by rw [upd_ne nLR]; exact f15 _ _ npL (sp _ _ eLX), hH.cook (by omega) msub ?_, h0 (by omega), h6⟩
        · rw [upd_ne (fun z => by rw [z, nRH] at e; cases e)]
          exact f15 _ _ (fun z => by rw [z, npH] at e; cases e) (sX1 _ _ e)
        · exact M.up hdd.2
    rintro σ Y ⟨g2, rc2, kv2, rfl, sY, eGY, eRY, hK2, eLY, hH2, h02, h62⟩
    refine ⟨_, rfl, .inl ⟨rfl, _, .inl (.inl eLY)⟩, _, rfl, 0 + (i : Int), i, rfl, by omega, by omega, Ln, _, _, rfl, rfl, eLY, lt_line (by rw [txs_len, nmB_len]; omega), ?_⟩
    rw [txs_snoc, ← nmB_succ]
    have kp := keep_lst (ys := txs (nmB (i + 1))) eLY
    exact ⟨_, _, g2, rc2, kv2, rfl, same_upd sY nLH _, by rw [upd_ne (Ne.symm nLG)]; exact eGY, by rw [upd_ne (Ne.symm nLR)]; exact eRY, hK2.imp fun r v q => q.keep kp, upd_same, hH2, (fun _ => h02), h62⟩
  · rintro σ X ⟨w6, w7, g, rc, kv, rfl, sX, eGX, eRX, hK, eLX, hH, h0, h6⟩
    rw [show ((m : Nat) : Int).toNat = m by omega] at hH h0
    refine ⟨_, rfl, _, rfl, le_line (Nat.le_of_ble_eq_true rfl), fun U X2 nU x2' eU => ?_⟩
    have x2 : Same X X2 := x2'
    exact q U G R ⟨g, rc⟩ kv X2 (sX.trans x2) (sX.free nU) nG nRH eU (x2 _ _ eGX) (x2 _ _ eRX) (hK.imp fun r v q => q.same x2) hH (h0 m1) h6
end
/-! ### other houses drawn -/
open LamX NdefX
theorem dropR_keys {α : Type} (l : List (List Nat × α)) (t : List Nat) : (dropR l t).map (·.1) = (l.map (·.1)).filter fun u => decide (u ≠ t) := by
  unfold dropR
  rw [List.filter_map]
  rfl
theorem dropR_mem {α : Type} {l : List (List Nat × α)} {t u : List Nat} : u ∈ (dropR l t).map (·.1) ↔ u ∈ l.map (·.1) ∧ u ≠ t := by
  rw [dropR_keys, List.mem_filter, decide_eq_true_iff]
theorem dropR_nd {α : Type} {l : List (List Nat × α)} {t : List Nat} (h : (l.map (·.1)).Nodup) : ((dropR l t).map (·.1)).Nodup := by
  rw [dropR_keys]
  exact h.sublist List.filter_sublist
theorem nums_drop (l : List Pr) (t : List Nat) : dropK (numsK l) (kT (SX.S t)) = numsK (dropR l t) := numsR_eq (KvR.dropR t (numsR l))
/-- houses by their names alone -/
theorem HouseK.by {g g' : List Pr} {rc rc' : List RcpNm} {m : Nat} (H : HouseK ⟨g, rc⟩ m) (nd : (g'.map (·.1)).Nodup) (nd' : (rc'.map (·.1)).Nodup) (dj : ∀ u ∈ g'.map (·.1), ¬ u ∈ rc'.map (·.1)) (same : ∀ u, u ∈ g.map (·.1) ∨ u ∈ rc.map (·.1) ↔ u ∈ g'.map (·.1) ∨ u ∈ rc'.map (·.1))
    (gv : ∀ p ∈ g', p.2.natAbs < 2 ^ 66) (hr : ∀ p ∈ rc', p ∈ rc ∨ ∃ k, k < m ∧ p.1 = nmE k ∧ ∃ ns, (∀ u ∈ ns, u ∈ nmB k) ∧ MadeB ns 3 p.2) : HouseK ⟨g', rc'⟩ m := by
  refine ⟨H.m16, List.nodup_append.mpr ⟨nd, nd', fun x hx y hy e => dj x hx (by rw [e]; exact hy)⟩, fun k hk => ?_, fun p hp => ⟨?_, gv p hp⟩, fun p hp => ?_⟩
  · exact List.mem_append.mpr ((same _).mp (List.mem_append.mp (H.all k hk)))
  · exact H.own (List.mem_append.mpr ((same _).mpr (.inl (List.mem_map.mpr ⟨p, hp, rfl⟩))))
  · rcases hr p hp with h | ⟨k, hk, e, ns, hns, M⟩
    · exact H.rc p h
    · exact ⟨k, hk, e, ns, fun u hu => nmB_mem (hns u hu), M⟩
section
variable {g : List Pr} {rc : List RcpNm} {m k : Nat}
theorem HouseK.nds (H : HouseK ⟨g, rc⟩ m) : (g.map (·.1)).Nodup ∧ (rc.map (·.1)).Nodup ∧ ∀ u ∈ g.map (·.1), ¬ u ∈ rc.map (·.1) := by
  have hnd : (g.map (·.1) ++ rc.map (·.1)).Nodup := H.nd
  obtain ⟨d1, d2, d3⟩ := List.nodup_append.mp hnd
  exact ⟨d1, d2, fun u hu hv => d3 u hu u hv rfl⟩
theorem HouseK.setg (H : HouseK ⟨g, rc⟩ m) (hk : nmE k ∈ g.map (·.1)) {v : Int} (hv : v.natAbs < 2 ^ 66) : HouseK ⟨putA g (nmE k) v, rc⟩ m := by
  obtain ⟨d1, d2, d3⟩ := H.nds
  have ek : (putA g (nmE k) v).map (·.1) = g.map (·.1) := by rw [putA_keys, if_pos hk]
  refine H.by (by rw [ek]; exact d1) d2 (by rw [ek]; exact d3) (fun u => by rw [ek]) (fun p hp => ?_) fun p hp => .inl hp
  rcases mem_putA hp with rfl | hp
  · exact hv
  · exact (H.gv p hp).2
theorem HouseK.setr (H : HouseK ⟨g, rc⟩ m) (hk : nmE k ∈ rc.map (·.1)) (hkm : k < m) {r : Rcp} {ns : List (List Nat)} (hn : ∀ u ∈ ns, u ∈ nmB k) (M : MadeB ns 3 r) : HouseK ⟨g, putA rc (nmE k) r⟩ m := by
  obtain ⟨d1, d2, d3⟩ := H.nds
  have ek : (putA rc (nmE k) r).map (·.1) = rc.map (·.1) := by rw [putA_keys, if_pos hk]
  refine H.by d1 (by rw [ek]; exact d2) (by rw [ek]; exact d3) (fun u => by rw [ek]) (fun p hp => (H.gv p hp).2) fun p hp => ?_
  rcases mem_putA hp with rfl | hp
  · exact .inr ⟨k, hkm, rfl, ns, hn, M⟩
  · exact .inl hp
theorem HouseK.toG (H : HouseK ⟨g, rc⟩ m) (hk : nmE k ∈ rc.map (·.1)) {v : Int} (hv : v.natAbs < 2 ^ 66) : HouseK ⟨putA g (nmE k) v, dropR rc (nmE k)⟩ m := by
  obtain ⟨d1, d2, d3⟩ := H.nds
  refine H.by (putA_nd d1) (dropR_nd d2) (fun u hu => ?_) (fun u => ?_) (fun p hp => ?_) fun p hp => ?_
  · intro z
    obtain ⟨z1, z2⟩ := dropR_mem.mp z
    exact (putA_mem.mp hu).elim (fun h => d3 u h z1) z2
  · rw [putA_mem, dropR_mem]
    by_cases c : u = nmE k
    · rw [c]; exact ⟨fun _ => .inl (.inr rfl), fun _ => .inr hk⟩
    · exact ⟨fun h => h.imp .inl fun z => ⟨z, c⟩, fun h => h.elim (fun z => .inl (z.resolve_right c)) fun z => .inr z.1⟩
  · rcases mem_putA hp with rfl | hp
    · exact hv
    · exact (H.gv p hp).2
  · exact .inl (List.mem_filter.mp hp).1
theorem HouseK.toR (H : HouseK ⟨g, rc⟩ m) (hk : nmE k ∈ g.map (·.1)) (hkm : k < m) {r : Rcp} {ns : List (List Nat)} (hn : ∀ u ∈ ns, u ∈ nmB k) (M : MadeB ns 3 r) : HouseK ⟨dropR g (nmE k), putA rc (nmE k) r⟩ m := by
  obtain ⟨d1, d2, d3⟩ := H.nds
  refine H.by (dropR_nd d1) (putA_nd d2) (fun u hu => ?_) (fun u => ?_) (fun p hp => ?_) fun p hp => ?_
  · intro z
    obtain ⟨z1, z2⟩ := dropR_mem.mp hu
    exact (putA_mem.mp z).elim (fun h => d3 u z1 h) z2
  · rw [putA_mem, dropR_mem]
    by_cases c : u = nmE k
    · rw [c]; exact ⟨fun _ => .inr (.inr rfl), fun _ => .inl hk⟩
    · exact ⟨fun h => h.imp (fun z => ⟨z, c⟩) .inl, fun h => h.elim (fun z => .inl z.1) fun z => .inr (z.resolve_right c)⟩
  · exact (H.gv p (List.mem_filter.mp hp).1).2
  · rcases mem_putA hp with rfl | hp
    · exact .inr ⟨k, hkm, rfl, ns, hn, M⟩
    · exact .inl hp
end
/-- numbers not too great as yet -/
def GB (b : Nat) (g : List Pr) : Prop := ∀ p ∈ g, p.2.natAbs ≤ b
theorem GB.put {b b' : Nat} {g : List Pr} {t : List Nat} {v : Int} (h : GB b g) (hb : b ≤ b') (hv : v.natAbs ≤ b') : GB b' (putA g t v) := fun p hp => by
  rcases mem_putA hp with rfl | hp
  · exact hv
  · exact Nat.le_trans (h p hp) hb
theorem GB.drop {b b' : Nat} {g : List Pr} {t : List Nat} (h : GB b g) (hb : b ≤ b') : GB b' (dropR g t) := fun p hp => Nat.le_trans (h p (List.mem_filter.mp hp).1) hb
theorem GB.up {b b' : Nat} {g : List Pr} (h : GB b g) (hb : b ≤ b') : GB b' g := fun p hp => Nat.le_trans (h p hp) hb
structure OtB (H : Hp) (G R Ln : Addr) (i m b : Nat) (Y : Hp) (g : List Pr) (rc : List RcpNm) (kv : List (Key × V)) : Prop where
  sm : Same H Y
  eG : Y G = some (.dK (numsK g))
  eR : Y R = some (.dK kv)
  hK : KvR (Rec Y) rc kv
  eL : Y Ln = some (.lst (txs (nmB i)))
  hH : HouseK ⟨g, rc⟩ m
  h0 : nmE 0 ∈ g.map (·.1)
  gb : GB b g
structure OtN (H : Hp) (G R Ln : Addr) : Prop where
  nG : H G = none
  nR : H R = none
  nL : H Ln = none
  gr : G ≠ R
  lg : Ln ≠ G
  lr : Ln ≠ R
section
variable {H : Hp} {G R Ln : Addr} {i m b : Nat} {Y : Hp} {g : List Pr} {rc : List RcpNm} {kv : List (Key × V)}
theorem OtB.pf (o : OtB H G R Ln i m b Y g rc kv) {p : Addr} {Y' : Hp} {k : List (Key × V)} (f : PF p Y Y') (nH : H p = none) (e : Y p = some (.dK k)) (n1 : G ≠ p) (n2 : R ≠ p) (n3 : Ln ≠ p) : OtB H G R Ln i m b Y' g rc kv :=
  ⟨fun x u h => f x u (fun z => by rw [z, nH] at h; cases h) (o.sm _ _ h), f _ _ n1 o.eG, f _ _ n2 o.eR, o.hK.imp fun r v q => q.keep (f.keep e), f _ _ n3 o.eL, o.hH, o.h0, o.gb⟩
theorem OtB.same (o : OtB H G R Ln i m b Y g rc kv) {Y' : Hp} (s : Same Y Y') : OtB H G R Ln i m b Y' g rc kv :=
  ⟨o.sm.trans s, s _ _ o.eG, s _ _ o.eR, o.hK.imp fun r v q => q.same s, s _ _ o.eL, o.hH, o.h0, o.gb⟩
theorem OtB.up (o : OtB H G R Ln i m b Y g rc kv) {b' : Nat} (h : b ≤ b') : OtB H G R Ln i m b' Y g rc kv := ⟨o.sm, o.eG, o.eR, o.hK, o.eL, o.hH, o.h0, o.gb.up h⟩
theorem OtB.updG (N : OtN H G R Ln) (o : OtB H G R Ln i m b Y g rc kv) (g' : List Pr) : upd Y G (.dK (numsK g')) G = some (.dK (numsK g')) ∧ Same H (upd Y G (.dK (numsK g'))) ∧ upd Y G (.dK (numsK g')) R = some (.dK kv) ∧ KvR (Rec (upd Y G (.dK (numsK g')))) rc kv ∧ upd Y G (.dK (numsK g')) Ln = some (.lst (txs (nmB i))) :=
  ⟨upd_same, same_upd o.sm N.nG _, by rw [upd_ne (Ne.symm N.gr)]; exact o.eR, o.hK.imp fun r v q => q.keep fun x ys e => by rw [upd_ne (fun z => by rw [z, o.eG] at e; cases e)]; exact e, by rw [upd_ne N.lg]; exact o.eL⟩
theorem OtB.updR (N : OtN H G R Ln) (o : OtB H G R Ln i m b Y g rc kv) (k' : List (Key × V)) : upd Y R (.dK k') R = some (.dK k') ∧ Same H (upd Y R (.dK k')) ∧ upd Y R (.dK k') G = some (.dK (numsK g)) ∧ Keep Y (upd Y R (.dK k')) ∧ upd Y R (.dK k') Ln = some (.lst (txs (nmB i))) :=
  ⟨upd_same, same_upd o.sm N.nR _, by rw [upd_ne N.gr]; exact o.eG, fun x ys e => by rw [upd_ne (fun z => by rw [z, o.eR] at e; cases e)]; exact e, by rw [upd_ne N.lr]; exact o.eL⟩
end
def spOtherB (K : PySem.W.Frag) : Sp := fun vs H Q _ => ∃ (u0 a : Addr) (ns : List Int) (start most : Int) (g0 r0 : Addr) (h : House) (kvs : List (Key × V)) (m : Nat), vs = [.ref u0, .ref a, .int start, .int most] ∧ SqL K H a (ns.map V.int) ∧ ns.length ≤ 63 ∧ 0 ≤ start ∧ start ≤ 900 ∧ 1 ≤ most ∧ most ≤ 1000 ∧
  H u0 = some (.tup [.ref g0, .ref r0]) ∧ H g0 = some (.dK (numsK h.given)) ∧ H r0 = some (.dK kvs) ∧ KvR (Rec H) h.recs kvs ∧ HouseK h m ∧ nmE 0 ∈ h.given.map (·.1) ∧ GB (2 ^ 60) h.given ∧
  ∀ (U G R : Addr) (h' : House) (kvs' : List (Key × V)) (H' : Hp), Same H H' → H U = none → H G = none → H R = none → H' U = some (.tup [.ref G, .ref R]) → H' G = some (.dK (numsK h'.given)) → H' R = some (.dK kvs') → KvR (Rec H') h'.recs kvs' → HouseK h' m → nmE 0 ∈ h'.given.map (·.1) → Q (.ref U) H'
section
variable {P : Program} {w : World} {K : PySem.W.Frag} {mg : Str → Option Value} {base : Heap}
abbrev s__law_other : Stmt := topS 13
abbrev N__law_other : List Str := ["house", "script", "start", "most", "given", "recipes", "names", "many", "k", "name", "pool", "way"]
theorem sc__law_other : FnScope N__law_other ["house", "script", "start", "most"] (defScope s__law_other) := ⟨rfl, rfl, rfl, by decide +kernel, rfl, by decide +kernel, by decide +kernel⟩

theorem ok__law_otherB (T : Txt K mg) (D : IsDef K mg "_law_other" s__law_other ["house", "script", "start", "most"]) (C_pool : Cal P w K mg base CX0 2 "_law_pool" ["script", "k"] (spPool K)) (C_tk : Cal P w K mg base CX0 1 "_law_take" ["pool", "many"] spTakeP) (C_nm : Cal P w K mg base CX0 1 "_law_name" ["k"] spNameE) (C_rcp : Cal P w K mg base CX0 6 "_law_recipe" ["pool", "names", "deep"] (spRcpB 4)) :
    Cal P w K mg base CX0 7 "_law_other" ["house", "script", "start", "most"] (spOtherB K) := by
  have C__law_pool := C_pool.mono (show 2 ≤ 6 by decide)
  have C__law_take := C_tk.mono (show 1 ≤ 6 by decide)
  have C__law_name := C_nm.mono (show 1 ≤ 6 by decide)
  have C__law_recipe := C_rcp
  refine D.cal (k := 6) sc__law_other (fun vs H Q E h => ?_) (fun f cdv A outer s H vs Q E hr h => ?_)
  · obtain ⟨_, _, _, _, _, _, _, _, _, _, rfl, _⟩ := h
    rfl
  obtain ⟨u0, a, ns, start, most, g0, r0, h, kvs, m, rfl, hS, h63, st0, st1, mo1, mo2, hu0, hg0, hr0, hK0, hH0, h00, hb0, q⟩ := h
  have hu : (cxOf CX0 P w K mg base N__law_other "_law_other" (defScope s__law_other) f cdv A outer s H E).A.units + 1 < cLine := Nat.lt_of_le_of_lt (Nat.add_le_add_left (by decide : 1 ≤ 64) _) hr.units
  refine ⟨_, (pss_cons (ps_set (i := 4) sc__law_other.nd rfl (Or.inl rfl) (pe_callTy call_dictDA (by rfl) T.b_dict (by decide +kernel) (pa_cons (pe_ix (r := rIxT K) ix_tup (pv 0) pe_int (fun _ _ => rfl)) pa_nil)))
      (pss_cons (ps_set (i := 5) sc__law_other.nd rfl (Or.inl rfl) (pe_callTy call_dictDA (by rfl) T.b_dict (by decide +kernel) (pa_cons (pe_ix (r := rIxT K) ix_tup (pv 0) pe_int (fun _ _ => rfl)) pa_nil)))
      (pss_cons (ps_set (i := 6) sc__law_other.nd rfl (Or.inl rfl) (pe_lstA pa_nil))
      (pss_cons (ps_set (i := 7) sc__law_other.nd rfl (Or.inl rfl) (pe_op op_add (pe_callB call_lenD (by rfl) T.b_len PySem.boot_len (pa_cons (pv 4) pa_nil)) (pe_callB call_lenD (by rfl) T.b_len PySem.boot_len (pa_cons (pv 5) pa_nil))))
      (pss_cons (ps_for PassesOwn.never rfl (pi_range1 rfl T.b_range (pa_cons (pv 7) pa_nil)) (pg_name (i := 8) sc__law_other.nd rfl (Or.inl rfl))
        (pss_cons (ps_set (i := 9) sc__law_other.nd rfl (Or.inl rfl) (pe_cal C__law_name (hr.mono (by first | decide | omega)) pass0 (pa_cons (pv 8) pa_nil)))
      (pss_cons (ps_set (i := 10) sc__law_other.nd rfl (Or.inl rfl) (pe_cal C__law_pool (hr.mono (by first | decide | omega)) pass0 (pa_cons (pv 1) (pa_cons (pe_op op_add (pv 2) (pe_op op_mod (pv 8) pe_int)) pa_nil))))
      (pss_cons (ps_dput hu (pv 10) pe_str (pe_op op_add (pe_op op_fdivW (pe_dget hu (pv 10) pe_str (fun _ _ => rfl)) (pe_op op_add (pe_op op_fdivW (pv 8) pe_int) pe_int)) (pe_op op_mul pe_int (pv 8))) rfl)
      (pss_cons (ps_set (i := 11) sc__law_other.nd rfl (Or.inl rfl) (pe_cal C__law_take (hr.mono (by first | decide | omega)) pass0 (pa_cons (pv 10) (pa_cons (pv 3) pa_nil))))
      (pss_cons (ps_if (PW.pt (pw_and (pt_cmpR op_eq (pv 11) pe_int (nomark _)) (pw_and1 (pt_cmp (pc_din hu (pv 9) (pv 4))))))
        (pss_one (ps_dput hu (pv 4) (pv 9) (pe_op op_add (pe_dget hu (pv 4) (pv 9) (fun _ _ => rfl)) (pe_ix (r := rIxL K) ix_list (pe_lstA (pa_cons pe_int (pa_cons (pe_un un_neg pe_int) (pa_cons pe_int (pa_cons (pe_op op_pow pe_int pe_int) pa_nil))))) (pe_cal C__law_take (hr.mono (by first | decide | omega)) pass0 (pa_cons (pv 10) (pa_cons pe_int pa_nil))) (fun _ _ => rfl))) rfl))
        (pss_one (ps_if (pt_cmpR op_eq (pv 11) pe_int (nomark _))
        (pss_one (ps_dput hu (pv 5) (pv 9) (pe_cal C__law_recipe (hr.mono (by first | decide | omega)) pass0 (pa_cons (pv 10) (pa_cons (pe_slice (r := rSlLA K) sl_listA (pv 6) (po_some (pe_un un_neg pe_int)) po_none) (pa_cons pe_int pa_nil)))) rfl))
        pss_nil)))
      (pss_cons (ps_if (PW.pt (pw_and (pt_cmpR op_eq (pv 11) pe_int (nomark _)) (pw_and1 (pt_cmp (pc_din hu (pv 9) (pv 5))))))
        (pss_cons (ps_expr (pe_dpop1 (pv 5) (pv 9) ⟨rfl, rfl, rfl, rfl⟩))
      (pss_one (ps_dput hu (pv 4) (pv 9) (pe_op op_sub (pe_cal C__law_take (hr.mono (by first | decide | omega)) pass0 (pa_cons (pv 10) (pa_cons pe_int pa_nil))) pe_int) rfl)))
        (pss_one (ps_if (PW.pt (pw_and (pt_cmpR op_eq (pv 11) pe_int (nomark _)) (pw_and1 (pt_cmpR op_gt (pv 8) pe_int (nomark _)))))
        (pss_cons (ps_expr (pe_dpop1 (pv 4) (pv 9) ⟨rfl, rfl, rfl, rfl⟩))
      (pss_one (ps_dput hu (pv 5) (pv 9) (pe_cal C__law_recipe (hr.mono (by first | decide | omega)) pass0 (pa_cons (pv 10) (pa_cons (pe_slice (r := rSlLA K) sl_listA (pv 6) (po_some (pe_un un_neg pe_int)) po_none) (pa_cons pe_int pa_nil)))) rfl)))
        pss_nil)))
      (pss_one (ps_expr (pe_bm PySem.F.plainAttrs_list PySem.F.slot_list_append PySem.F.type_list_append mt_append (pv 6) (pa_cons (pv 9) pa_nil)))))))))))
      (pss_one (ps_ret (pe_tupA (pa_cons (pv 4) (pa_cons (pv 5) pa_nil)))))))))), ?_⟩
  have m16 := hH0.m16
  have cnt := hH0.count
  refine ⟨_, rfl, u0, _, 0, _, rfl, rfl, SqT.of hu0, rfl, g0, _, rfl, .inl hg0, fun G H1 nG s1' eG => ?_⟩
  have s1 : Same H H1 := s1'
  refine in_name rfl ?_
  refine in_nx (in_seq (in_asg ⟨_, rfl, u0, _, 1, _, rfl, rfl, SqT.of (s1 _ _ hu0), rfl, r0, _, rfl, .inl (s1 _ _ hr0), fun R H2 nR s2' eR => ?_⟩))
  have s2 : Same H1 H2 := s2'
  refine in_name rfl ?_
  refine in_nx (in_seq (in_asg ⟨Nat.zero_le _, fun Ln H3 nLn s3' eLn => ?_⟩))
  have s3 : Same H2 H3 := s3'
  refine in_name rfl ?_
  have s02 := s1.trans s2
  have s03 := s02.trans s3
  have nGR : G ≠ R := fun z => by rw [z, nR] at eG; cases eG
  have nRH : H R = none := s1.free nR
  have nLH : H Ln = none := s02.free nLn
  have eG3 := s3 _ _ (s2 _ _ eG)
  have eR3 := s3 _ _ eR
  have nLG : Ln ≠ G := fun z => by rw [z, s2 _ _ eG] at nLn; cases nLn
  have nLR : Ln ≠ R := fun z => by rw [z, eR] at nLn; cases nLn
  have N : OtN H G R Ln := ⟨nG, nRH, nLH, nGR, nLG, nLR⟩
  have lgm : (((numsK h.given).length : Nat) : Int) + ((kvs.length : Nat) : Int) = (m : Int) := by rw [numsK_len, hK0.len]; omega
  refine in_nx (in_seq (in_asg ⟨_, rfl, G, _, rfl, eG3, _, rfl, R, _, rfl, eR3, _, _, rfl, rfl, ?_⟩))
  refine in_name rfl ?_
  refine in_nx (in_seq ?_)
  refine ⟨_, rfl, (m : Int), by rw [← lgm], by omega, by omega, for_range (lo := 0) (n := ((m : Nat) : Int).toNat) (fun i σ X => ∃ (w8 w9 w10 w11 : Option V) (g : List Pr) (rc : List RcpNm) (kv : List (Key × V)), σ = [some (.ref u0), some (.ref a), some (.int start), some (.int most), some (.ref G), some (.ref R), some (.ref Ln), some (.int ((((numsK h.given).length : Nat) : Int) + ((kvs.length : Nat) : Int))), w8, w9, w10, w11] ∧ OtB H G R Ln i m (2 ^ 60 + i * 2 ^ 40) X g rc kv)
    ⟨none, none, none, none, h.given, h.recs, kvs, rfl, ⟨s03, eG3, eR3, hK0.imp fun r v q => q.same s03, eLn, hH0, h00, hb0⟩⟩ ?_ ?_⟩
  · rintro i σ X hi ⟨w8, w9, w10, w11, g, rc, kv, rfl, o⟩
    have him : i < m := by omega
    refine in_name rfl ?_
    refine ⟨_, rfl, 0 + (i : Int), i, rfl, by omega, by omega, ?_⟩
    refine in_name rfl ?_
    refine in_nx (in_seq (in_asg ⟨_, rfl, _, rfl, _, rfl, _, _, rfl, rfl, (by show (0 : Int) < 11; decide), _, _, rfl, rfl, a, ns, start + (0 + (i : Int)) % 11, rfl, o.sm.seq hS, h63, by omega, by omega, fun p r mm c np c0 c1 => ?_⟩))
    have sp := same_new np (.dK (pool r mm c))
    have ep : upd X p (.dK (pool r mm c)) p = some (.dK (pool r mm c)) := upd_same
    have npH : H p = none := o.sm.free np
    have npG : G ≠ p := fun z => by have := o.eG; rw [z, np] at this; cases this
    have npR : R ≠ p := fun z => by have := o.eR; rw [z, np] at this; cases this
    have npL : Ln ≠ p := fun z => by have := o.eL; rw [z, np] at this; cases this
    have o1 := o.same sp
    generalize upd X p (.dK (pool r mm c)) = X1 at sp ep o1 ⊢
    refine in_name rfl ?_
    have dv : (0 : Int) < (0 + (i : Int)) / 11 + 1 := by omega
    have db : ((0 + (i : Int)) / 11 + 1).natAbs < 2 ^ 200 := by
      have : (2 : Nat) ^ 200 > 4000 := by decide
      omega
    refine in_nx (in_seq ⟨_, rfl, p, _, rfl, (pool_rest r mm c) ▸ DGet.k (k := kT "rest") ep, _, rfl, _, _, rfl, rfl, ⟨by decide, by decide +kernel⟩, _, _, rfl, rfl, _, _, rfl, rfl, wide_div dv db (by decide) (by decide), _, rfl, _, _, rfl, rfl, .inl ⟨by decide, by decide⟩, _, _, rfl, rfl, _, rfl, p, _, rfl, DPut.k (k := kT "rest") ep (lt_line (by show 3 < 16777216; decide)), ?_⟩)
    rw [put_rest]
    obtain ⟨r1, hr1⟩ : ∃ r1, r1 = r / ((0 + (i : Int)) / 11 + 1) + 31 * (0 + (i : Int)) := ⟨_, rfl⟩
    rw [← hr1]
    have fp1 : PF p X1 (upd X1 p (.dK (pool r1 mm c))) := fun b u n e => by rw [upd_ne n]; exact e
    have o2 := o1.pf fp1 npH ep npG npR npL
    have ep2 : upd X1 p (.dK (pool r1 mm c)) p = some (.dK (pool r1 mm c)) := upd_same
    generalize upd X1 p (.dK (pool r1 mm c)) = X2 at o2 ep2 ⊢
    refine in_nx (in_seq (in_asg ⟨_, rfl, _, rfl, p, r1, mm, c, most, rfl, ep2, by omega, ?_, c0, by omega, fun X3 way r3 c3 g3 hp3 c30 c31 w0 w1 => ?_⟩))
    · have : (2 : Nat) ^ 200 > 4000 := by decide
      omega
    have o3 := o2.pf (PF.take g3) npH ep2 npG npR npL
    refine in_name rfl ?_
    have stn : ∀ (Z : Hp) (b : Nat) (σ : L2.St), (∃ (g : List Pr) (rc : List RcpNm) (kv : List (Key × V)) (rz cz : Int), σ = [some (.ref u0), some (.ref a), some (.int start), some (.int most), some (.ref G), some (.ref R), some (.ref Ln), some (.int ((((numsK h.given).length : Nat) : Int) + ((kvs.length : Nat) : Int))), some (.int (0 + (i : Int))), some (.str (SX.S (nmE i))), some (.ref p), some (.int way)] ∧ OtB H G R Ln i m b Z g rc kv ∧ Z p = some (.dK (pool rz mm cz)) ∧ 0 ≤ cz ∧ cz ≤ 50000) → True := fun _ _ _ _ => trivial
    refine in_nx (in_seq (nx_post (fun σ Z => ∃ (g : List Pr) (rc : List RcpNm) (kv : List (Key × V)) (rz cz : Int), σ = [some (.ref u0), some (.ref a), some (.int start), some (.int most), some (.ref G), some (.ref R), some (.ref Ln), some (.int ((((numsK h.given).length : Nat) : Int) + ((kvs.length : Nat) : Int))), some (.int (0 + (i : Int))), some (.str (SX.S (nmE i))), some (.ref p), some (.int way)] ∧ OtB H G R Ln i m (2 ^ 60 + i * 2 ^ 40 + 2 ^ 32) Z g rc kv ∧ Z p = some (.dK (pool rz mm cz)) ∧ 0 ≤ cz ∧ cz ≤ 20000 ∧ (way = 1 → nmE i ∈ g.map (·.1) ∨ nmE i ∈ rc.map (·.1))) (fun nx hnx => ?_) ?_))
    · refine ⟨_, rfl, rfl, _, rfl, ?_⟩
      by_cases hw0 : way = 0
      · refine if_true_eq (decide_eq_true (congrArg V.int hw0)) ?_
        refine ⟨_, rfl, _, rfl, G, _, rfl, DGet.k (k := kT (SX.S (nmE i))) o3.eG, _, rfl, ?_⟩
        rw [val_seen]
        cases ev : seen g (nmE i) with
        | some v0 =>
          refine iteT ?_
          have bv := o3.gb _ (seen_mem ev)
          have bv : v0.natAbs ≤ 2 ^ 60 + i * 2 ^ 40 := bv
          have hget : DGet X3 G (.str (SX.S (nmE i))) (some (.int v0)) := (show valV (numsK g) (kT (SX.S (nmE i))) = some (.int v0) by rw [val_seen, ev]; rfl) ▸ DGet.k (k := kT (SX.S (nmE i))) o3.eG
          refine ⟨_, rfl, _, rfl, G, _, rfl, hget, _, rfl, _, _, rfl, rfl, ⟨by decide, by decide, by decide⟩, le_line (Nat.le_of_ble_eq_true rfl), fun LL Y1 nLL y1' eLL => ?_⟩
          have y1 : Same X3 Y1 := y1'
          have nLp : LL ≠ p := fun z => by rw [z, hp3] at nLL; cases nLL
          refine ⟨_, rfl, p, r3, mm, c3, 4, rfl, y1 _ _ hp3, by decide, by decide, c30, by omega, fun Y2 v4 r4 k4 g4 hp4 k40 k41 v40 v41 => ?_⟩
          have f4 : PF p Y1 Y2 := PF.take g4
          have e9 : (10 : Int) ^ (9 : Int).toNat = 1000000000 := by decide +kernel
          have eLL : Y1 LL = some (.lst [.int 1, .int (-1), .int 2, .int (10 ^ (9 : Int).toNat)]) := eLL
          rw [e9] at eLL
          obtain ⟨dl, hdl, hat⟩ : ∃ dl : Int, dl.natAbs ≤ 2 ^ 32 ∧ atI ([.int 1, .int (-1), .int 2, .int 1000000000] : List V) v4 = some (.int dl) := by
            have h3 : v4 = 0 ∨ v4 = 1 ∨ v4 = 2 ∨ v4 = 3 := by omega
            rcases h3 with rfl | rfl | rfl | rfl
            · exact ⟨1, by decide, rfl⟩
            · exact ⟨-1, by decide, rfl⟩
            · exact ⟨2, by decide, rfl⟩
            · exact ⟨1000000000, by decide, rfl⟩
          have o4 := (o3.same y1).pf f4 npH (y1 _ _ hp3) npG npR npL
          have hin : nmE i ∈ g.map (·.1) := seen_key ev
          have gl16 : g.length ≤ 16 := by have := o4.hH.count; have : g.length + rc.length = m := this; omega
          refine ⟨LL, _, v4, .int dl, rfl, rfl, SqL.of (f4 _ _ nLp eLL), hat, _, _, rfl, rfl, _, rfl, _, rfl, G, _, rfl, DPut.k (k := kT (SX.S (nmE i))) o4.eG (lt_line (by rw [numsK_len]; omega)), ?_⟩
          rw [nums_putA]
          obtain ⟨q1, q2, q3, q4, q5⟩ := o4.updG N (putA g (nmE i) (v0 + dl))
          refine hnx _ _ ⟨_, rc, kv, r4, k4, rfl, ⟨q2, q1, q3, q4, q5, o4.hH.setg hin (by omega), putA_mem.mpr (.inl o4.h0), o4.gb.put (by omega) (by omega)⟩, by rw [upd_ne (Ne.symm npG)]; exact hp4, k40, by omega, fun z => by omega⟩
        | none =>
          refine iteF ?_
          refine ⟨_, rfl, rfl, _, rfl, if_true_eq (decide_eq_true (congrArg V.int hw0)) ?_⟩
          have hinr : nmE i ∈ rc.map (·.1) := (List.mem_append.mp (o3.hH.all i him)).resolve_left (seen_none ev)
          refine ⟨_, rfl, _, rfl, _, rfl, _, rfl, Ln, _, rfl, SqL.of o3.eL, fun L1 Y2 nL1 y2' eL2 => ?_⟩
          have y2 : Same X3 Y2 := y2'
          obtain ⟨ms, ems, msub, mlen⟩ := cut_txs (nmB i) (some (-9)) none
          have eL2 : Y2 L1 = some (.lst (txs ms)) := by rw [← ems]; exact eL2
          refine ⟨p, L1, r3, mm, c3, ms, 2, rfl, by decide, by decide, y2 _ _ hp3, c30, by have h64 : (4 : Nat) ^ 2 ≤ 64 := (by decide); omega, eL2, by rw [nmB_len] at mlen; omega, fun u hu => (by
            obtain ⟨j, hj, rfl⟩ := nmB_mem (msub u hu)
            exact nm16.2 j (by omega)), fun Y5 rv rr r5 k5 f5 hp5 k50 k51 M hrec => ?_⟩
          have k51 : k5 ≤ c3 + 512 := by
            have : (4 : Nat) ^ 2 ≤ 64 := by decide
            omega
          have o5 := (o3.same y2).pf f5 npH (y2 _ _ hp3) npG npR npL
          have kl16 : kv.length ≤ 16 := by rw [o5.hK.len]; have := o5.hH.count; have : g.length + rc.length = m := this; omega
          refine ⟨_, rfl, _, rfl, R, _, rfl, DPut.k (k := kT (SX.S (nmE i))) o5.eR (lt_line (by omega)), ?_⟩
          obtain ⟨q1, q2, q3, q4, q5⟩ := o5.updR N (putK kv (kT (SX.S (nmE i))) rv)
          refine hnx _ _ ⟨g, putA rc (nmE i) rr, _, r5, k5, rfl, ⟨q2, q3, q1, (KvR.put (a := rr) hrec o5.hK).imp fun r v q => q.keep q4, q5, o5.hH.setr hinr him msub (M.up (by decide)), o5.h0, o5.gb.up (by omega)⟩, by rw [upd_ne (Ne.symm npR)]; exact hp5, k50, by omega, fun z => by omega⟩
      · refine if_false_eq (decide_eq_false fun z => hw0 (V.int.inj z)) (iteF ?_)
        refine ⟨_, rfl, rfl, _, rfl, if_false_eq (decide_eq_false fun z => hw0 (V.int.inj z)) ?_⟩
        exact hnx _ _ ⟨g, rc, kv, r3, c3, rfl, o3.up (by omega), hp3, c30, by omega, fun _ => List.mem_append.mp (o3.hH.all i him)⟩
    rintro σ Z ⟨g1, rc1, kv1, rz, cz, rfl, oZ, hpZ, cz0, cz1, hin⟩
    clear o o1 o2 o3
    have cntZ : g1.length + rc1.length = m := oZ.hH.count
    have kvl : kv1.length ≤ 16 := by rw [oZ.hK.len]; omega
    refine in_nx (in_seq (nx_post (fun σ Z => ∃ (g : List Pr) (rc : List RcpNm) (kv : List (Key × V)), σ = [some (.ref u0), some (.ref a), some (.int start), some (.int most), some (.ref G), some (.ref R), some (.ref Ln), some (.int ((((numsK h.given).length : Nat) : Int) + ((kvs.length : Nat) : Int))), some (.int (0 + (i : Int))), some (.str (SX.S (nmE i))), some (.ref p), some (.int way)] ∧ OtB H G R Ln i m (2 ^ 60 + (i + 1) * 2 ^ 40) Z g rc kv) (fun nx hnx => ?_) ?_))
    · refine ⟨_, rfl, rfl, _, rfl, ?_⟩
      by_cases hw1 : way = 1
      · refine if_true_eq (decide_eq_true (congrArg V.int hw1)) ?_
        refine ⟨_, rfl, _, rfl, R, _, rfl, DGet.k (k := kT (SX.S (nmE i))) oZ.eR, _, rfl, ?_⟩
        rcases KvR.get (t := nmE i) oZ.hK with ⟨e3, e4⟩ | ⟨r2, rv2, e3, e4, hrec2⟩
        · -- it was given
          rw [e4]
          refine iteF ?_
          have nr : ¬ nmE i ∈ rc1.map (·.1) := fun z => by
            obtain ⟨y, hy, e5⟩ := List.mem_map.mp z
            have := getA_nd oZ.hH.nds.2.1 hy
            rw [e5, e3] at this
            cases this
          have hing := (hin hw1).resolve_right nr
          refine ⟨_, rfl, rfl, _, rfl, if_true_eq (decide_eq_true (congrArg V.int hw1)) ?_⟩
          refine ⟨_, rfl, _, _, rfl, rfl, _, rfl, ?_⟩
          by_cases hi0 : 0 < i
          · refine iteY (by show (0 + (i : Int)) > 0; omega) ?_
            obtain ⟨v0, hv0⟩ : ∃ v0, seen g1 (nmE i) = some v0 := by
              cases e : seen g1 (nmE i) with
              | none => exact absurd hing (seen_none e)
              | some v => exact ⟨v, rfl⟩
            refine ⟨_, rfl, G, rfl, .inl ⟨_, .inl oZ.eG⟩, _, rfl, _, kT (SX.S (nmE i)), .int v0, oZ.eG, rfl, by rw [val_seen, hv0]; rfl, ?_⟩
            rw [nums_drop]
            have fG : ∀ b u, b ≠ G → Z b = some u → upd Z G (.dK (numsK (dropR g1 (nmE i)))) b = some u := fun b u n e => by rw [upd_ne n]; exact e
            have kG : Keep Z (upd Z G (.dK (numsK (dropR g1 (nmE i))))) := fun b ys e => fG b _ (fun z => by rw [z, oZ.eG] at e; cases e) e
            have eG1 : upd Z G (.dK (numsK (dropR g1 (nmE i)))) G = some (.dK (numsK (dropR g1 (nmE i)))) := upd_same
            have sG : Same H (upd Z G (.dK (numsK (dropR g1 (nmE i))))) := same_upd oZ.sm nG _
            generalize upd Z G (.dK (numsK (dropR g1 (nmE i)))) = Z1 at fG kG eG1 sG ⊢
            have eR1 := fG _ _ (Ne.symm nGR) oZ.eR
            have eL1 := fG _ _ nLG oZ.eL
            have hp1 := fG _ _ (Ne.symm npG) hpZ
            refine ⟨_, rfl, _, rfl, _, rfl, _, rfl, Ln, _, rfl, SqL.of eL1, fun L1 Y2 nL1 y2' eL2 => ?_⟩
            have y2 : Same Z1 Y2 := y2'
            obtain ⟨ms, ems, msub, mlen⟩ := cut_txs (nmB i) (some (-9)) none
            have eL2 : Y2 L1 = some (.lst (txs ms)) := by rw [← ems]; exact eL2
            refine ⟨p, L1, rz, mm, cz, ms, 1, rfl, by decide, by decide, y2 _ _ hp1, cz0, by have h64 : (4 : Nat) ^ 1 ≤ 64 := (by decide); omega, eL2, by rw [nmB_len] at mlen; omega, fun u hu => (by
              obtain ⟨j, hj, rfl⟩ := nmB_mem (msub u hu)
              exact nm16.2 j (by omega)), fun Y5 rv rr r5 k5 f5 hp5 k50 k51 M hrec => ?_⟩
            have hpY := y2 _ _ hp1
            have k25 := f5.keep hpY
            have eRY := f5 _ _ npR (y2 _ _ eR1)
            refine ⟨_, rfl, _, rfl, R, _, rfl, DPut.k (k := kT (SX.S (nmE i))) eRY (lt_line (by omega)), ?_⟩
            have kR : Keep Y5 (upd Y5 R (.dK (putK kv1 (kT (SX.S (nmE i))) rv))) := fun b ys e => by rw [upd_ne (fun z => by rw [z, eRY] at e; cases e)]; exact e
            refine hnx _ _ ⟨dropR g1 (nmE i), putA rc1 (nmE i) rr, _, rfl, ⟨same_upd (fun b u e => f5 b u (fun z => by rw [z, npH] at e; cases e) (y2 _ _ (sG b u e))) nRH _, by rw [upd_ne nGR]; exact f5 _ _ npG (y2 _ _ eG1), upd_same, (KvR.put (a := rr) hrec (oZ.hK.imp fun r v q => ((q.keep kG).same y2).keep k25)).imp fun r v q => q.keep kR, by rw [upd_ne nLR]; exact f5 _ _ npL (y2 _ _ eL1), oZ.hH.toR hing him msub (M.up (by decide)), dropR_mem.mpr ⟨oZ.h0, fun z => ?_⟩, oZ.gb.drop (by omega)⟩⟩
            have := nmE_inj (by decide) (by omega) z
            omega
          · refine iteN (by show ¬ (0 + (i : Int)) > 0; omega) ?_
            exact hnx _ _ ⟨g1, rc1, kv1, rfl, oZ.up (by omega)⟩
        · -- it had a recipe
          rw [e4]
          refine iteT ?_
          have hinr : nmE i ∈ rc1.map (·.1) := List.mem_map.mpr ⟨_, getA_mem e3, rfl⟩
          refine ⟨_, rfl, R, rfl, .inl ⟨_, .inl oZ.eR⟩, _, rfl, _, kT (SX.S (nmE i)), rv2, oZ.eR, rfl, e4, ?_⟩
          have fR : ∀ b u, b ≠ R → Z b = some u → upd Z R (.dK (dropK kv1 (kT (SX.S (nmE i))))) b = some u := fun b u n e => by rw [upd_ne n]; exact e
          have kR : Keep Z (upd Z R (.dK (dropK kv1 (kT (SX.S (nmE i)))))) := fun b ys e => fR b _ (fun z => by rw [z, oZ.eR] at e; cases e) e
          have eR1 : upd Z R (.dK (dropK kv1 (kT (SX.S (nmE i))))) R = some (.dK (dropK kv1 (kT (SX.S (nmE i))))) := upd_same
          have sR : Same H (upd Z R (.dK (dropK kv1 (kT (SX.S (nmE i)))))) := same_upd oZ.sm nRH _
          generalize upd Z R (.dK (dropK kv1 (kT (SX.S (nmE i))))) = Z1 at fR kR eR1 sR ⊢
          have eG1 := fR _ _ nGR oZ.eG
          have eL1 := fR _ _ nLR oZ.eL
          have hp1 := fR _ _ (Ne.symm npR) hpZ
          refine ⟨_, rfl, p, rz, mm, cz, 9, rfl, hp1, by decide, by decide, cz0, by omega, fun Y2 v2 r4 k4 g4 hp4 k40 k41 v20 v21 => ?_⟩
          have f4 : PF p Z1 Y2 := PF.take g4
          have eGY := f4 _ _ npG eG1
          refine ⟨_, _, rfl, rfl, _, rfl, _, rfl, G, _, rfl, DPut.k (k := kT (SX.S (nmE i))) eGY (lt_line (by rw [numsK_len]; omega)), ?_⟩
          rw [nums_putA]
          have kG : Keep Y2 (upd Y2 G (.dK (numsK (putA g1 (nmE i) (v2 - 4))))) := fun b ys e => by rw [upd_ne (fun z => by rw [z, eGY] at e; cases e)]; exact e
          exact hnx _ _ ⟨putA g1 (nmE i) (v2 - 4), dropR rc1 (nmE i), _, rfl, ⟨same_upd (fun b u e => f4 b u (fun z => by rw [z, npH] at e; cases e) (sR b u e)) nG _, upd_same, by rw [upd_ne (Ne.symm nGR)]; exact f4 _ _ npR eR1, (KvR.dropR (nmE i) oZ.hK).imp fun r v q => ((q.keep kR).keep (f4.keep hp1)).keep kG, by rw [upd_ne nLG]; exact f4 _ _ npL eL1, oZ.hH.toG hinr (by omega), putA_mem.mpr (.inl oZ.h0), oZ.gb.put (by omega) (by omega)⟩⟩
      · refine if_false_eq (decide_eq_false fun z => hw1 (V.int.inj z)) (iteF ?_)
        refine ⟨_, rfl, rfl, _, rfl, if_false_eq (decide_eq_false fun z => hw1 (V.int.inj z)) (iteF ?_)⟩
        exact hnx _ _ ⟨g1, rc1, kv1, rfl, oZ.up (by omega)⟩
    rintro σ Y ⟨g2, rc2, kv2, rfl, oY⟩
    refine ⟨_, rfl, .inl ⟨rfl, _, .inl (.inl oY.eL)⟩, _, rfl, Ln, _, _, rfl, rfl, oY.eL, lt_line (by rw [txs_len, nmB_len]; omega), ?_⟩
    rw [txs_snoc, ← nmB_succ]
    have kp := keep_lst (ys := txs (nmB (i + 1))) oY.eL
    exact ⟨_, _, _, _, g2, rc2, kv2, rfl, ⟨same_upd oY.sm nLH _, by rw [upd_ne (Ne.symm nLG)]; exact oY.eG, by rw [upd_ne (Ne.symm nLR)]; exact oY.eR, oY.hK.imp fun r v q => q.keep kp, upd_same, oY.hH, oY.h0, oY.gb⟩⟩
  · rintro σ X ⟨w8, w9, w10, w11, g, rc, kv, rfl, o⟩
    rw [show ((m : Nat) : Int).toNat = m by omega] at o
    refine ⟨_, rfl, _, rfl, le_line (Nat.le_of_ble_eq_true rfl), fun U X2 nU x2' eU => ?_⟩
    have x2 : Same X X2 := x2'
    have o2 := o.same x2
    exact q U G R ⟨g, rc⟩ kv X2 o2.sm (o.sm.free nU) nG nRH eU o2.eG o2.eR o2.hK o2.hH o2.h0
end
/-! ### the laws' own builds in a list of two dicts -/
open LamX NdefX
structure LB where
  S : Addr
  W : Addr
  Rc : Addr
  B : Hp
def LB.own (L : LB) : List Addr := [L.W, L.Rc]
def RowU (L : LB) (stk : List Addr) (H : Hp) (r : Row × Addr) (v : V) : Prop := ∃ T rv xs, v = .ref T ∧ H T = some (.tup [rv, .ref r.2, .int r.1.2.2]) ∧ Rec H r.1.2.1 rv ∧ L.B r.2 = none ∧ r.2 ∉ stk ∧ H r.2 = some (.lst xs) ∧ Prs H r.1.1 xs
theorem RowU.mp {L : LB} {stk stk' : List Addr} {H H' : Hp} (k : Keep H H') (l : ∀ b xs, b ∉ stk → H b = some (.lst xs) → H' b = some (.lst xs) ∧ b ∉ stk') {r : Row × Addr} {v : V} (h : RowU L stk H r v) : RowU L stk' H' r v := by
  obtain ⟨T, rv, xs, e, h1, h2, h3, n, h4, h5⟩ := h
  exact ⟨T, rv, xs, e, k _ _ h1, h2.keep k, h3, (l _ _ n h4).2, (l _ _ n h4).1, h5.keep k⟩
structure LBt (Tb : List NTab) (L : LB) (s : AgS) (stk : List Addr) (H : Hp) : Prop where
  st : H L.S = some (.lst [.ref L.W, .ref L.Rc])
  fr : FrS Tb [] L.B H
  new : L.B L.W = none ∧ L.B L.Rc = none ∧ L.S ∉ stk
  wn : H L.W = some (.dK (numsK s.known))
  bk : ∃ kvs, ∃ bl : Bl, H L.Rc = some (.dK kvs) ∧ bl.map (fun p => (p.1, p.2.1)) = s.book ∧ (bl.map fun p => p.2.2).Nodup ∧ KvR (RowU L stk H) bl kvs
  sk : ∀ q ∈ stk, L.B q = none ∧ ∃ xs, H q = some (.lst xs)
  ne : L.W ≠ L.Rc
section
variable {Tb : List NTab} {L : LB} {s : AgS} {stk : List Addr} {H H' : Hp}
theorem LBt.same (a : LBt Tb L s stk H) (sm : Same H H') : LBt Tb L s stk H' := by
  obtain ⟨kvs, bl, h3, h4, h5, h6⟩ := a.bk
  exact ⟨sm _ _ a.st, a.fr.trans (FrS.of sm), a.new, sm _ _ a.wn, ⟨kvs, bl, sm _ _ h3, h4, h5, h6.imp fun r v q => q.mp (same_keep sm) fun b xs n e => ⟨sm _ _ e, n⟩⟩, fun q hq => ⟨(a.sk q hq).1, by obtain ⟨xs, e⟩ := (a.sk q hq).2; exact ⟨xs, sm _ _ e⟩⟩, a.ne⟩
theorem LBt.ownD (a : LBt Tb L s stk H) {x : Addr} (hx : x ∈ L.own) : L.B x = none ∧ ∃ kvs, H x = some (.dK kvs) := by
  obtain ⟨kvs, bl, h3, _⟩ := a.bk
  unfold LB.own at hx
  rcases List.mem_cons.mp hx with rfl | hx
  · exact ⟨a.new.1, _, a.wn⟩
  rw [List.mem_singleton.mp hx]
  exact ⟨a.new.2.1, _, h3⟩
theorem LBt.rest (a : LBt Tb L s stk H) {x : Addr} {o : HO} (hx : x ∈ L.own) :
    upd H x o L.S = some (.lst [.ref L.W, .ref L.Rc]) ∧ FrS Tb [] L.B (upd H x o) ∧ Keep H (upd H x o) ∧ FrS Tb L.own H (upd H x o) ∧ (∀ r v, RowU L stk H r v → RowU L stk (upd H x o) r v) ∧ ∀ q ∈ stk, L.B q = none ∧ ∃ xs, upd H x o q = some (.lst xs) := by
  obtain ⟨nx, kv, ed⟩ := a.ownD hx
  have dl' : DL H x := .inl ⟨_, ed⟩
  have k : Keep H (upd H x o) := fun b ys e => by
    rw [upd_ne (fun z => by rw [z, ed] at e; cases e)]
    exact e
  have l : ∀ {b xs}, H b = some (.lst xs) → upd H x o b = some (.lst xs) := fun {b xs} e => by
    rw [upd_ne (fun z => by rw [z, ed] at e; cases e)]
    exact e
  refine ⟨l a.st, a.fr.put0 nx dl', k, FrS.upd hx dl', fun r v q => q.mp k fun b xs n e => ⟨l e, n⟩, fun q hq => ?_⟩
  obtain ⟨h2, xs, e⟩ := a.sk q hq
  exact ⟨h2, xs, l e⟩
theorem LBt.known (a : LBt Tb L s stk H) (t : List Nat) (v : Int) : LBt Tb L { s with known := putA s.known t v } stk (upd H L.W (.dK (numsK (putA s.known t v)))) := by
  obtain ⟨r1, r2, r3, _, r5, r6⟩ := a.rest (x := L.W) (o := .dK (numsK (putA s.known t v))) (by unfold LB.own; simp)
  obtain ⟨kvs, bl, h3, h4, h5, h6⟩ := a.bk
  exact ⟨r1, r2, a.new, upd_same, ⟨kvs, bl, by rw [upd_ne a.ne.symm]; exact h3, h4, h5, h6.imp r5⟩, r6, a.ne⟩
theorem LBt.ghost (a : LBt Tb L s stk H) (s' : AgS) (h1 : s'.known = s.known) (h2 : s'.book = s.book) : LBt Tb L s' stk H :=
  ⟨a.st, a.fr, a.new, h1 ▸ a.wn, h2 ▸ a.bk, a.sk, a.ne⟩
/-- a new list opened -/
theorem LBt.push (a : LBt Tb L s stk H) (sm : Same H H') {q : Addr} {xs : List V} (nq : H q = none) (eq : H' q = some (.lst xs)) : LBt Tb L s (stk ++ [q]) H' := by
  have b := a.same sm
  obtain ⟨kvs, bl, h3, h4, h5, h6⟩ := a.bk
  refine ⟨b.st, b.fr, ⟨b.new.1, b.new.2.1, fun z => ?_⟩, b.wn, ⟨kvs, bl, sm _ _ h3, h4, h5, h6.imp fun r v p => ?_⟩, fun p hp => ?_, b.ne⟩
  · rcases List.mem_append.mp z with z | z
    · exact b.new.2.2 z
    · rw [← List.mem_singleton.mp z, a.st] at nq
      cases nq
  · obtain ⟨T, rv, ys, e, g1, g2, g3, n, g4, g5⟩ := p
    refine ⟨T, rv, ys, e, sm _ _ g1, g2.same sm, g3, fun z => ?_, sm _ _ g4, g5.same sm⟩
    rcases List.mem_append.mp z with z | z
    · exact n z
    · rw [List.mem_singleton.mp z, nq] at g4
      cases g4
  · rcases List.mem_append.mp hp with hp | hp
    · exact b.sk p hp
    · rw [List.mem_singleton.mp hp]
      exact ⟨a.fr.2.1 q nq, xs, eq⟩
/-- something put down in the list opened last -/
theorem LBt.top {q : Addr} (a : LBt Tb L s (stk ++ [q]) H) (ys : List V) : LBt Tb L s (stk ++ [q]) (upd H q (.lst ys)) := by
  obtain ⟨kvs, bl, h3, h4, h5, h6⟩ := a.bk
  obtain ⟨nB, xs, eq⟩ := a.sk q (List.mem_append_right _ (List.mem_singleton.mpr rfl))
  have dl : DL H q := .inr ⟨_, eq⟩
  have k : Keep H (upd H q (.lst ys)) := keep_lst eq
  have ds : ∀ {b xs}, H b = some (.dK xs) → upd H q (.lst ys) b = some (.dK xs) := fun {b xs} e => by rw [upd_ne (fun z => by rw [z, eq] at e; cases e)]; exact e
  refine ⟨by rw [upd_ne (fun z => a.new.2.2 (List.mem_append_right _ (List.mem_singleton.mpr z)))]; exact a.st, a.fr.put0 nB dl, a.new, ds a.wn, ⟨kvs, bl, ds h3, h4, h5, h6.imp fun r v p => p.mp k fun b zs n e => ⟨by rw [upd_ne (fun z => n (List.mem_append_right _ (List.mem_singleton.mpr z)))]; exact e, n⟩⟩, fun p hp => ?_, a.ne⟩
  obtain ⟨g2, zs, g3⟩ := a.sk p hp
  refine ⟨g2, ?_⟩
  by_cases c : p = q
  · exact ⟨ys, by rw [c, upd_same]⟩
  · exact ⟨zs, by rw [upd_ne c]; exact g3⟩
/-- the list opened last becomes a row's -/
theorem LBt.booking {q : Addr} (a : LBt Tb L s (stk ++ [q]) H) (hq : q ∉ stk) {kvs : List (Key × V)} (e : H L.Rc = some (.dK kvs)) {t : List Nat} {o : Row} {T : Addr} {rv : V} {xs : List V} (eT : H T = some (.tup [rv, .ref q, .int o.2.2])) (hr : Rec H o.2.1 rv) (eq : H q = some (.lst xs)) (hP : Prs H o.1 xs) (hnt : ¬ t ∈ s.book.map (·.1)) :
    LBt Tb L { s with book := putA s.book t o } stk (upd H L.Rc (.dK (putK kvs (kT (SX.S t)) (.ref T)))) := by
  obtain ⟨r1, r2, r3, _, r5, r6⟩ := a.rest (x := L.Rc) (o := .dK (putK kvs (kT (SX.S t)) (.ref T))) (by unfold LB.own; simp)
  obtain ⟨kvs', bl, h3, h4, h5, h6⟩ := a.bk
  rw [e] at h3
  cases h3
  have nB := (a.sk q (List.mem_append_right _ (List.mem_singleton.mpr rfl))).1
  have hk : bl.map (·.1) = s.book.map (·.1) := by rw [← h4, List.map_map]; rfl
  have ls : ∀ {b xs}, H b = some (.lst xs) → upd H L.Rc (.dK (putK kvs (kT (SX.S t)) (.ref T))) b = some (.lst xs) := fun {b xs} e2 => by rw [upd_ne (fun z => by rw [z, e] at e2; cases e2)]; exact e2
  have hrow : RowU L stk H (o, q) (.ref T) := ⟨T, rv, xs, rfl, eT, hr, nB, hq, eq, hP⟩
  have h7 : KvR (RowU L stk H) bl kvs := h6.imp fun r v p => p.mp (Keep.refl _) fun b xs n e => ⟨e, fun z => n (List.mem_append_left _ z)⟩
  refine ⟨r1, r2, ⟨a.new.1, a.new.2.1, fun z => a.new.2.2 (List.mem_append_left _ z)⟩, by rw [upd_ne a.ne]; exact a.wn, ⟨_, putA bl t (o, q), upd_same, ?_, ?_, (KvR.put (a := (o, q)) hrow h7).imp fun r v p => p.mp r3 fun b xs n e => ⟨ls e, n⟩⟩, fun p hp => r6 p (List.mem_append_left _ hp), a.ne⟩
  · rw [putA_map (fun x : Row × Addr => x.1) bl t (o, q), h4]
  · rw [putA_new _ (by rw [hk]; exact hnt), List.map_append]
    refine List.nodup_append.mpr ⟨h5, List.nodup_cons.mpr ⟨(fun z => nomatch z), List.nodup_nil⟩, fun x hx y hy e2 => ?_⟩
    obtain ⟨p, hp, rfl⟩ := List.mem_map.mp hx
    rw [List.mem_singleton.mp hy] at e2
    obtain ⟨x, _, T2, rv2, xs2, _, _, _, _, n9, _⟩ := KvR.each h6 p hp
    exact n9 (List.mem_append_right _ (List.mem_singleton.mpr e2))
theorem LBt.top_keep {q : Addr} (a : LBt Tb L s (stk ++ [q]) H) (f : FrS Tb (q :: L.own) H H') : Keep H H' := f.keep fun x hx xs e => by
  rcases List.mem_cons.mp hx with rfl | hx
  · obtain ⟨_, ys, e2⟩ := a.sk x (List.mem_append_right _ (List.mem_singleton.mpr rfl))
    rw [e2] at e
    cases e
  · obtain ⟨_, _, z⟩ := a.ownD hx
    rw [z] at e
    cases e
theorem LBt.topNot {q : Addr} (a : LBt Tb L s (stk ++ [q]) H) : q ∉ L.own := fun z => by
  obtain ⟨_, ys, e2⟩ := a.sk q (List.mem_append_right _ (List.mem_singleton.mpr rfl))
  obtain ⟨_, _, w⟩ := a.ownD z
  rw [w] at e2
  cases e2
end
structure LPreB (Tb : List NTab) (dm : Nat) (L : LB) (h : House) (hv : V) (s : AgS) (stk : List Addr) (H : Hp) : Prop where
  HH : HouseOk dm h bet0
  ha : HouseAt L.B h hv
  sz : h.given.length + h.recs.length ≤ 100000
  at_ : LBt Tb L s stk H
  ok : AgOk h bet0 [] s
theorem LPreB.next {Tb : List NTab} {dm : Nat} {L : LB} {h : House} {hv : V} {s s' : AgS} {stk : List Addr} {H H' : Hp} (p : LPreB Tb dm L h hv s stk H) (a : LBt Tb L s' stk H') (o : AgOk h bet0 [] s') : LPreB Tb dm L h hv s' stk H' := ⟨p.HH, p.ha, p.sz, a, o⟩
def spBSet (Tb : List NTab) (dm n : Nat) : Sp := fun vs H Q _ => ∃ (L : LB) (h : House) (hv : V) (s : AgS) (stk : List Addr) (t : List Nat) (v : Int) (s' : AgS), vs = [hv, .str (SX.S t), .ref L.S] ∧ LPreB Tb dm L h hv s stk H ∧ h.recs.length + 1 ≤ s.going.length + n ∧ Nm t ∧ agR h [] n s t = .ok v s' ∧
  ∀ H', FrS Tb L.own H H' → LBt Tb L s' stk H' → Q (.int v) H'
/-- what the look and the value are told -/
structure AskB (Tb : List NTab) (dm n : Nat) (L : LB) (h : House) (hv : V) (s : AgS) (own : List Pr) (stk : List Addr) (q : Addr) (xs : List V) (H : Hp) : Prop where
  pre : LPreB Tb dm L h hv s (stk ++ [q]) H
  n : h.recs.length + 1 ≤ s.going.length + n
  J : LJ h bet0 s.going (s, own)
  nq : q ∉ stk
  eq : H q = some (.lst xs)
  P : Prs H own xs
def EndB (Tb : List NTab) (L : LB) (stk : List Addr) (q : Addr) (H : Hp) (p' : AgS × List Pr) (Q : Hp → Prop) : Prop := ∀ H' xs', FrS Tb (q :: L.own) H H' → LBt Tb L p'.1 (stk ++ [q]) H' → H' q = some (.lst xs') → Prs H' p'.2 xs' → Q H'
def spBLook (Tb : List NTab) (dm n : Nat) : Sp := fun vs H Q _ => ∃ (L : LB) (h : House) (hv : V) (s : AgS) (own : List Pr) (stk : List Addr) (q : Addr) (xs : List V) (t : List Nat) (v : Int) (p' : AgS × List Pr), vs = [hv, .str (SX.S t), .ref L.S, .ref q] ∧ AskB Tb dm n L h hv s own stk q xs H ∧ Nm t ∧ lkO (agR h [] n) (s, own) t = .ok v p' ∧
  EndB Tb L stk q H p' (Q (.int v))
def spBVal (Tb : List NTab) (dm n j : Nat) : Sp := fun vs H Q _ => ∃ (L : LB) (h : House) (hv rv : V) (r : Rcp) (s : AgS) (own : List Pr) (stk : List Addr) (q : Addr) (xs : List V) (v : Int) (p' : AgS × List Pr), vs = [hv, rv, .ref L.S, .ref q] ∧ AskB Tb dm n L h hv s own stk q xs H ∧ Rec H r rv ∧ r.Wn ∧ r.dep ≤ j ∧ r.Fit (Val h) ∧ wk (lkO (agR h [] n)) r (s, own) = .ok v p' ∧
  EndB Tb L stk q H p' (Q (.int v))
section
variable {P : Program} {w : World} {K : PySem.W.Frag} {mg : Str → Option Value} {base : Heap} {Tb : List NTab}
abbrev s__law_look : Stmt := topS 15
abbrev N__law_look : List Str := ["house", "name", "state", "reads", "worth"]
theorem sc__law_look : FnScope N__law_look ["house", "name", "state", "reads"] (defScope s__law_look) := ⟨rfl, rfl, rfl, by decide +kernel, rfl, by decide +kernel, by decide +kernel⟩

theorem ok__law_lookB {dm n : Nat} (T : Txt K mg) (D : IsDef K mg "_law_look" s__law_look ["house", "name", "state", "reads"]) (C__law_settled : Cal P w K mg base CX0 (lvR dm n) "_law_settled" ["house", "name", "state"] (spBSet Tb dm n)) :
    Cal P w K mg base CX0 (lvR dm n + 1) "_law_look" ["house", "name", "state", "reads"] (spBLook Tb dm n) := by
  refine D.cal (k := lvR dm n) sc__law_look (fun vs H Q E h => ?_) (fun f cdv A outer s H vs Q E hr h => ?_)
  · obtain ⟨L, h, hv, s, own, stk, q, xs, t, v, p', rfl, _⟩ := h
    rfl
  obtain ⟨L, hh, hv, st, own, stk, tq, xs, t, v, p', rfl, A0, ht, e, q⟩ := h
  have le : ∀ n : Nat, n ≤ 100 → n ≤ sizeLine := fun n h => le_line (Nat.le_trans h (by decide))
  refine ⟨_, (pss_cons (ps_set (i := 4) sc__law_look.nd rfl (Or.inl rfl) (pe_cal C__law_settled (hr.mono (by first | decide | omega)) pass0 (pa_cons (pv 0) (pa_cons (pv 1) (pa_cons (pv 2) pa_nil)))))
      (pss_cons (ps_if (pt_cmpR (op_notInD (hu65 hr)) (pe_tupA (pa_cons (pv 1) (pa_cons (pv 4) pa_nil))) (pv 3) (by with_unfolding_all rfl))
        (pss_one (ps_expr (pe_bm PySem.F.plainAttrs_list PySem.F.slot_list_append PySem.F.type_list_append mt_append (pv 3) (pa_cons (pe_tupA (pa_cons (pv 1) (pa_cons (pv 4) pa_nil))) pa_nil))))
        pss_nil)
      (pss_one (ps_ret (pv 4))))), ?_⟩
  have pre := A0.pre
  have hn := A0.n
  have hJ := A0.J
  have hP := A0.P
  have hlk := lj_look pre.HH.n (G := st.going) hn (st, own) t v p' hJ ht e
  cases e1 : agR hh [] n st t with
  | err x => rw [lkO_err e1] at e; cases e
  | ok v' s' =>
  rw [lkO_ok e1] at e
  cases e
  obtain ⟨⟨ok2, g2, own2, cons2⟩, _⟩ := hlk
  refine ⟨_, rfl, _, rfl, _, rfl, L, hh, hv, st, stk ++ [tq], t, v, s', rfl, pre, hn, ht, e1, fun H1 f1 a1 => ?_⟩
  have f1' : FrS Tb (tq :: L.own) H H1 := f1.mono fun x hx => List.mem_cons_of_mem _ hx
  have eq1 : H1 tq = some (.lst xs) := f1.1 tq _ pre.at_.topNot (fun _ z => by cases z) A0.eq
  have hP1 : Prs H1 own xs := hP.keep (pre.at_.top_keep f1')
  refine ⟨_, rfl, _, rfl, le 2 (by decide), fun t1 H2 n1 s2' e2 => ?_⟩
  have s2 : Same H1 H2 := s2'
  have a2 := a1.same s2
  have dT : Data H2 (pairTh (t, v)) (.ref t1) := ⟨t1, _, rfl, e2, _, _, rfl, rfl, _, _, rfl, rfl, rfl⟩
  have dL : Data H2 (.lst (own.map pairTh)) (.ref tq) := ⟨tq, _, rfl, s2 _ _ eq1, (hP1.same s2).data⟩
  refine ⟨_, rfl, (pairTh (t, v)).py, Th.pyL (own.map pairTh), Data.dp rfl dT, Data.dp (t := .lst (own.map pairTh)) (prs_flat _) dL, one_shaped ht, prs_shaped (fun p hp => hJ.2.2.1.sm p hp), _, rfl, ?_⟩
  cases e3 : seen own t with
  | some y =>
    obtain rfl : y = v := by
      have h1 := hJ.2.2.2 _ (seen_mem e3)
      have h2 := cons2 (t, y) (by rw [setd_seen e3]; exact seen_mem e3)
      have h3 : seen s'.known t = some v := by
        obtain ⟨_, st2, _, _⟩ := agR_step pre.HH.n (OldOk.nil hh) pre.ok ht hn e1
        cases e4 : seen s'.known t with
        | none => exact absurd st2.got (seen_none e4)
        | some z =>
          have h5 : Val hh t z := ok2.kn e4
          rw [h5.det st2.worth]
      exact Option.some.inj (h2.symm.trans h3)
    rw [prs_any (seen_mem e3)]
    refine iteF ?_
    exact ⟨_, rfl, q H2 xs (f1'.trans (FrS.of s2)) a2 (s2 _ _ eq1) (by show Prs H2 (setd own t y) xs; rw [setd_seen e3]; exact hP1.same s2)⟩
  | none =>
    rw [prs_not (q := (t, v)) (seen_none e3)]
    refine iteT ?_
    refine ⟨_, rfl, .inl ⟨rfl, _, SqL.of (s2 _ _ eq1)⟩, _, rfl, _, rfl, le 2 (by decide), fun t2 H3 n2 s3' e4 => ?_⟩
    have s3 : Same H2 H3 := s3'
    have eq3 := s3 _ _ (s2 _ _ eq1)
    have a3 := a2.same s3
    have ol : own.length ≤ hh.given.length + hh.recs.length := hJ.2.2.1.len pre.ok.rk
    have hsz := pre.sz
    refine ⟨tq, _, _, rfl, rfl, eq3, lt_line (by rw [hP.len]; omega), ?_⟩
    have a4 := a3.top (xs ++ [.ref t2])
    refine ⟨_, rfl, q _ (xs ++ [.ref t2]) ((f1'.trans (FrS.of (s2.trans s3))).trans (FrS.upd List.mem_cons_self (.inr ⟨_, eq3⟩))) a4 upd_same ?_⟩
    show Prs _ (setd own t v) _
    rw [setd_new e3]
    refine Prs.snoc (p := (t, v)) ?_ ((hP1.same (s2.trans s3)).keep (keep_lst eq3))
    rw [upd_ne (fun z => by rw [z, eq3] at e4; cases e4)]
    exact e4
abbrev s__law_value : Stmt := topS 14
abbrev N__law_value : List Str := ["house", "r", "state", "reads", "word", "one", "other"]
theorem sc__law_value : FnScope N__law_value ["house", "r", "state", "reads"] (defScope s__law_value) := ⟨rfl, rfl, rfl, by decide +kernel, rfl, by decide +kernel, by decide +kernel⟩

theorem ok__law_valueB {dm n : Nat} (T : Txt K mg) (D : IsDef K mg "_law_value" s__law_value ["house", "r", "state", "reads"]) (C_rd : Cal P w K mg base CX0 (lvR dm n + 1) "_law_look" ["house", "name", "state", "reads"] (spBLook Tb dm n)) :
    ∀ j, Cal P w K mg base CX0 (lvR dm n + 1 + j) "_law_value" ["house", "r", "state", "reads"] (spBVal Tb dm n j)
  | 0 => cal_none D fun vs H Q E h => by
    obtain ⟨L, h, hv, rv, r, s, own, stk, q, xs, v, p', _, _, _, _, hd, _⟩ := h
    have := dep_pos r
    omega
  | j + 1 => by
    have C__law_value := ok__law_valueB T D C_rd j
    have C__law_look := C_rd.mono (show lvR dm n + 1 ≤ lvR dm n + 1 + j by omega)
    refine D.cal (k := lvR dm n + 1 + j) sc__law_value (fun vs H Q E h => ?_) (fun f cdv A outer s H vs Q E hr h => ?_)
    · obtain ⟨L, h, hv, rv, r, s, own, stk, q, xs, v, p', rfl, _⟩ := h
      rfl
    obtain ⟨L, hh, hv, rv, r, st, own, stk, tq, xs, v, p', rfl, A0, hRc, hw, hd, hfit, e, q⟩ := h
    have pre := A0.pre
    have hn := A0.n
    have hJ := A0.J
    have le : ∀ n : Nat, n ≤ 100 → n ≤ sizeLine := fun n h => le_line (Nat.le_trans h (by decide))
    have hlk := lj_look pre.HH.n (G := st.going) hn
    refine ⟨_, (pss_cons (ps_set (i := 4) sc__law_value.nd rfl (Or.inl rfl) (pe_ix (r := rIxT K) ix_tup (pv 1) pe_int (fun _ _ => rfl)))
      (pss_cons (ps_if (pt_cmpR op_eq (pv 4) pe_str (nomark _))
        (pss_one (ps_ret (pe_ix (r := rIxT K) ix_tup (pv 1) pe_int (fun _ _ => rfl))))
        pss_nil)
      (pss_cons (ps_if (pt_cmpR op_eq (pv 4) pe_str (nomark _))
        (pss_one (ps_ret (pe_cal C__law_look (hr.mono (by first | decide | omega)) pass0 (pa_cons (pv 0) (pa_cons (pe_ix (r := rIxT K) ix_tup (pv 1) pe_int (fun _ _ => rfl)) (pa_cons (pv 2) (pa_cons (pv 3) pa_nil)))))))
        pss_nil)
      (pss_cons (ps_set (i := 5) sc__law_value.nd rfl (Or.inl rfl) (pe_cal C__law_value (hr.mono (by first | decide | omega)) pass0 (pa_cons (pv 0) (pa_cons (pe_ix (r := rIxT K) ix_tup (pv 1) pe_int (fun _ _ => rfl)) (pa_cons (pv 2) (pa_cons (pv 3) pa_nil))))))
      (pss_cons (ps_if (pt_cmpR op_eq (pv 4) pe_str (nomark _))
        (pss_one (ps_ret (pe_cal C__law_look (hr.mono (by first | decide | omega)) pass0 (pa_cons (pv 0) (pa_cons (pe_ix (r := rIxT K) ix_tup (pe_ix (r := rIxT K) ix_tup (pv 1) pe_int (fun _ _ => rfl)) (pe_op op_mod (pv 5) (pe_callB call_len_seq (by rfl) T.b_len PySem.boot_len (pa_cons (pe_ix (r := rIxT K) ix_tup (pv 1) pe_int (fun _ _ => rfl)) pa_nil))) (fun _ _ => rfl)) (pa_cons (pv 2) (pa_cons (pv 3) pa_nil)))))))
        pss_nil)
      (pss_cons (ps_if (pt_cmpR op_eq (pv 4) pe_str (nomark _))
        (pss_one (ps_ret (pe_cal C__law_value (hr.mono (by first | decide | omega)) pass0 (pa_cons (pv 0) (pa_cons (pe_ix (r := rIxT K) ix_tup (pv 1) (pe_ix (r := rIxL K) ix_list (pe_lstA (pa_cons pe_int (pa_cons pe_int pa_nil))) (pe_callTy call_int1 (by rfl) T.b_int (by decide +kernel) (pa_cons (pe_cmpR op_gt (pv 5) pe_int (nomark _)) pa_nil)) (fun _ _ => rfl)) (fun _ _ => rfl)) (pa_cons (pv 2) (pa_cons (pv 3) pa_nil)))))))
        pss_nil)
      (pss_cons (ps_set (i := 6) sc__law_value.nd rfl (Or.inl rfl) (pe_cal C__law_value (hr.mono (by first | decide | omega)) pass0 (pa_cons (pv 0) (pa_cons (pe_ix (r := rIxT K) ix_tup (pv 1) pe_int (fun _ _ => rfl)) (pa_cons (pv 2) (pa_cons (pv 3) pa_nil))))))
      (pss_cons (ps_if (pt_cmpR op_eq (pv 4) pe_str (nomark _))
        (pss_one (ps_ret (pe_op op_mulW (pv 5) (pv 6))))
        pss_nil)
      (pss_cons (ps_if (pt_cmpR op_eq (pv 4) pe_str (nomark _))
        (pss_one (ps_ret (pe_callB (call_max2 rfl) (by rfl) T.b_max (by decide +kernel) (pa_cons (pv 5) (pa_cons (pv 6) pa_nil)))))
        pss_nil)
      (pss_one (ps_ret (pe_op op_add (pv 5) (pe_ix (r := rIxL K) ix_list (pe_lstA (pa_cons (pv 6) (pa_cons (pe_op op_sub pe_int (pv 6)) pa_nil))) (pe_callTy call_int1 (by rfl) T.b_int (by decide +kernel) (pa_cons (pe_cmpR op_eq (pv 4) pe_str (nomark _)) pa_nil)) (fun _ _ => rfl)))))))))))))), ?_⟩
    cases r with
    | num x =>
      obtain ⟨p, rfl, hp⟩ := hRc
      cases e
      refine ⟨_, rfl, p, _, _, _, rfl, rfl, SqT.of hp, rfl, ⟨_, rfl, rfl, _, rfl, iteY rfl ?_⟩⟩
      exact ⟨_, rfl, p, _, _, _, rfl, rfl, SqT.of hp, rfl, q H xs (FrS.refl _ H) pre.at_ A0.eq A0.P⟩
    | read s0 =>
      obtain ⟨p, rfl, hp⟩ := hRc
      refine ⟨_, rfl, p, _, _, _, rfl, rfl, SqT.of hp, rfl, ⟨_, rfl, rfl, _, rfl, iteN (sne (by decide +kernel)) ?_⟩⟩
      refine ⟨_, rfl, rfl, _, rfl, iteY rfl ?_⟩
      exact ⟨_, rfl, _, rfl, p, _, _, _, rfl, rfl, SqT.of hp, rfl, _, rfl, _, rfl, L, hh, hv, st, own, stk, tq, xs, s0, v, p', rfl, A0, hw, e, q⟩
    | two k x y =>
      obtain ⟨p, vx, vy, rfl, hp, hx, hy⟩ := hRc
      obtain ⟨hdx, hdy⟩ := dep1 hd
      obtain ⟨a, p1, e1, e2⟩ := OutR.bind_ok e
      obtain ⟨c, p2, e3, e4⟩ := OutR.bind_ok e2
      cases e4
      obtain ⟨⟨ok1, g1, own1, cons1⟩, n1⟩ := wk_ok hlk hw.1 (s := (st, own)) hJ e1
      refine ⟨_, rfl, p, _, _, _, rfl, rfl, SqT.of hp, rfl, ⟨_, rfl, rfl, _, rfl, iteN (sne (by cases k <;> decide +kernel)) ?_⟩⟩
      refine ⟨_, rfl, rfl, _, rfl, iteN (sne (by cases k <;> decide +kernel)) ?_⟩
      refine ⟨_, rfl, _, rfl, p, _, _, _, rfl, rfl, SqT.of hp, rfl, _, rfl, _, rfl, L, hh, hv, vx, x, st, own, stk, tq, xs, a, p1, rfl, A0, hx, hw.1, hdx, hfit.1, e1, fun H1 xs1 f1 a1 eq1 hP1 => ?_⟩
      have k1 := pre.at_.top_keep f1
      have hp1 := k1 _ _ hp
      refine ⟨_, rfl, rfl, _, rfl, iteN (sne (by cases k <;> decide +kernel)) ?_⟩
      refine ⟨_, rfl, rfl, _, rfl, iteN (sne (by cases k <;> decide +kernel)) ?_⟩
      have g1 : p1.1.going = st.going := g1
      have hn1 : hh.recs.length + 1 ≤ p1.1.going.length + n := by rw [g1]; exact hn
      have hfy := (hfit.2 a n1).1
      obtain ⟨_, n2⟩ := wk_ok (lj_look pre.HH.n (G := st.going) hn) hw.2 (s := p1) ⟨ok1, g1, own1, cons1⟩ e3
      refine ⟨_, rfl, _, rfl, p, _, _, _, rfl, rfl, SqT.of hp1, rfl, _, rfl, _, rfl, L, hh, hv, vy, y, p1.1, p1.2, stk, tq, xs1, c, p', rfl, ⟨pre.next a1 ok1, hn1, ⟨ok1, rfl, own1, cons1⟩, A0.nq, eq1, hP1⟩, hy.keep k1, hw.2, hdy, hfy, e3, fun H2 xs2 f2 a2 eq2 hP2 => ?_⟩
      have fin := q H2 xs2 (f1.trans f2) a2 eq2 hP2
      cases k with
      | times => exact ⟨_, rfl, rfl, _, rfl, iteY rfl ⟨_, rfl, _, rfl, _, _, rfl, rfl, (hfit.2 a n1).2 c n2 rfl, fin⟩⟩
      | most => exact ⟨_, rfl, rfl, _, rfl, iteN (sne (by decide +kernel)) ⟨_, rfl, rfl, _, rfl, iteY rfl ⟨_, rfl, _, rfl, _, _, rfl, fin⟩⟩⟩
      | plus =>
        refine ⟨_, rfl, rfl, _, rfl, iteN (sne (by decide +kernel)) ⟨_, rfl, rfl, _, rfl, iteN (sne (by decide +kernel)) ?_⟩⟩
        refine ⟨_, rfl, _, rfl, _, rfl, _, _, rfl, rfl, le 2 (by decide), fun LL H3 nLL s3' eLL => ⟨_, rfl, rfl, .inr ⟨_, rfl, LL, _, _, .int c, rfl, rfl, SqL.of eLL, ?_, _, _, rfl, rfl, q H3 xs2 ((f1.trans f2).trans (FrS.of s3')) (a2.same s3') ((show Same H2 H3 from s3') _ _ eq2) (hP2.same s3')⟩⟩⟩
        show atI [V.int c, V.int (0 - c)] (if decide (V.str Kd.plus.name = V.str (Str.ofString "minus")) = true then 1 else 0) = some (.int c)
        rw [decide_eq_false (sne (by decide +kernel))]
        rfl
      | minus =>
        refine ⟨_, rfl, rfl, _, rfl, iteN (sne (by decide +kernel)) ⟨_, rfl, rfl, _, rfl, iteN (sne (by decide +kernel)) ?_⟩⟩
        refine ⟨_, rfl, _, rfl, _, rfl, _, _, rfl, rfl, le 2 (by decide), fun LL H3 nLL s3' eLL => ⟨_, rfl, rfl, .inr ⟨_, rfl, LL, _, _, .int (0 - c), rfl, rfl, SqL.of eLL, ?_, _, _, rfl, rfl, ?_⟩⟩⟩
        · show atI [V.int c, V.int (0 - c)] (if decide (V.str Kd.minus.name = V.str (Str.ofString "minus")) = true then 1 else 0) = some (.int (0 - c))
          rw [decide_eq_true (show V.str Kd.minus.name = V.str (Str.ofString "minus") from rfl)]
          rfl
        · show Q (.int (a + (0 - c))) H3
          rw [show a + (0 - c) = a - c by omega]
          exact q H3 xs2 ((f1.trans f2).trans (FrS.of s3')) (a2.same s3') ((show Same H2 H3 from s3') _ _ eq2) (hP2.same s3')
    | pick x y z =>
      obtain ⟨p, vx, vy, vz, rfl, hp, hx, hy, hz⟩ := hRc
      have hd3 : x.dep ≤ j ∧ y.dep ≤ j ∧ z.dep ≤ j := by
        have e : (Rcp.pick x y z).dep = max x.dep (max y.dep z.dep) + 1 := rfl
        omega
      obtain ⟨a, p1, e1, e2⟩ := OutR.bind_ok e
      obtain ⟨⟨ok1, g1, own1, cons1⟩, n1⟩ := wk_ok hlk hw.1 (s := (st, own)) hJ e1
      refine ⟨_, rfl, p, _, _, _, rfl, rfl, SqT.of hp, rfl, ⟨_, rfl, rfl, _, rfl, iteN (sne (by decide +kernel)) ?_⟩⟩
      refine ⟨_, rfl, rfl, _, rfl, iteN (sne (by decide +kernel)) ?_⟩
      refine ⟨_, rfl, _, rfl, p, _, _, _, rfl, rfl, SqT.of hp, rfl, _, rfl, _, rfl, L, hh, hv, vx, x, st, own, stk, tq, xs, a, p1, rfl, A0, hx, hw.1, hd3.1, hfit.1, e1, fun H1 xs1 f1 a1 eq1 hP1 => ?_⟩
      have k1 := pre.at_.top_keep f1
      have hp1 := k1 _ _ hp
      refine ⟨_, rfl, rfl, _, rfl, iteN (sne (by decide +kernel)) ?_⟩
      refine ⟨_, rfl, rfl, _, rfl, iteY rfl ?_⟩
      have g1 : p1.1.going = st.going := g1
      have hn1 : hh.recs.length + 1 ≤ p1.1.going.length + n := by rw [g1]; exact hn
      refine ⟨_, rfl, _, rfl, le 2 (by decide), fun LL H2 nLL s2' eLL => ?_⟩
      have s2 : Same H1 H2 := s2'
      have hp2 := s2 _ _ hp1
      have A2 : AskB Tb dm n L hh hv p1.1 p1.2 stk tq xs1 H2 := ⟨pre.next (a1.same s2) ok1, hn1, ⟨ok1, rfl, own1, cons1⟩, A0.nq, s2 _ _ eq1, hP1.same s2⟩
      by_cases c : a > 0
      · simp only [if_pos c] at e2
        refine ⟨_, rfl, _, _, rfl, rfl, .inr ⟨_, rfl, LL, _, _, .int 2, rfl, rfl, SqL.of eLL, ?_, p, _, _, vy, rfl, rfl, SqT.of hp2, rfl, ?_⟩⟩
        · show atI [V.int 3, V.int 2] (if decide (a > 0) = true then 1 else 0) = some (.int 2)
          rw [decide_eq_true c]; rfl
        exact ⟨_, rfl, _, rfl, L, hh, _, vy, y, p1.1, p1.2, stk, tq, xs1, v, p', rfl, A2, (hy.keep k1).same s2, hw.2.1, hd3.2.1, (hfit.2 a n1).1 c, e2, fun H3 xs2 f2 a2 eq2 hP2 => q H3 xs2 ((f1.trans (FrS.of s2)).trans f2) a2 eq2 hP2⟩
      · simp only [if_neg c] at e2
        refine ⟨_, rfl, _, _, rfl, rfl, .inr ⟨_, rfl, LL, _, _, .int 3, rfl, rfl, SqL.of eLL, ?_, p, _, _, vz, rfl, rfl, SqT.of hp2, rfl, ?_⟩⟩
        · show atI [V.int 3, V.int 2] (if decide (a > 0) = true then 1 else 0) = some (.int 3)
          rw [decide_eq_false c]; rfl
        exact ⟨_, rfl, _, rfl, L, hh, _, vz, z, p1.1, p1.2, stk, tq, xs1, v, p', rfl, A2, (hz.keep k1).same s2, hw.2.2, hd3.2.2, (hfit.2 a n1).2 c, e2, fun H3 xs2 f2 a2 eq2 hP2 => q H3 xs2 ((f1.trans (FrS.of s2)).trans f2) a2 eq2 hP2⟩
    | choose x ns =>
      obtain ⟨p, vx, pn, rfl, hp, hx, hpn⟩ := hRc
      have hdx : x.dep ≤ j := by
        have e : (Rcp.choose x ns).dep = x.dep + 1 := rfl
        omega
      obtain ⟨a, p1, e1, e2⟩ := OutR.bind_ok e
      obtain ⟨⟨ok1, g1, own1, cons1⟩, n1⟩ := wk_ok hlk hw.1 (s := (st, own)) hJ e1
      refine ⟨_, rfl, p, _, _, _, rfl, rfl, SqT.of hp, rfl, ⟨_, rfl, rfl, _, rfl, iteN (sne (by decide +kernel)) ?_⟩⟩
      refine ⟨_, rfl, rfl, _, rfl, iteN (sne (by decide +kernel)) ?_⟩
      refine ⟨_, rfl, _, rfl, p, _, _, _, rfl, rfl, SqT.of hp, rfl, _, rfl, _, rfl, L, hh, hv, vx, x, st, own, stk, tq, xs, a, p1, rfl, A0, hx, hw.1, hdx, hfit, e1, fun H1 xs1 f1 a1 eq1 hP1 => ?_⟩
      have k1 := pre.at_.top_keep f1
      have hp1 := k1 _ _ hp
      have hpn1 := k1 _ _ hpn
      refine ⟨_, rfl, rfl, _, rfl, iteY rfl ?_⟩
      have g1 : p1.1.going = st.going := g1
      have hn1 : hh.recs.length + 1 ≤ p1.1.going.length + n := by rw [g1]; exact hn
      obtain ⟨i, hi0, hi⟩ := nth_mem hw.2.1 a
      have hm : Nm (nthN ns a) := hw.2.2.2 _ (List.mem_of_getElem? hi)
      refine ⟨_, rfl, _, rfl, p, _, _, _, rfl, rfl, SqT.of hp1, rfl, _, rfl, _, rfl, p, _, _, _, rfl, rfl, SqT.of hp1, rfl, pn, _, rfl, .inr (SqT.of hpn1), _, _, rfl, rfl, (by rw [txs_len]; have := hw.2.1; omega), pn, _, _, .str (SX.S (nthN ns a)), rfl, rfl, SqT.of hpn1, ?_, ?_⟩
      · show atI (txs ns) (a % ((txs ns).length : Int)) = _
        rw [txs_len, hi0, atI_nat (v := .str (SX.S (nthN ns a)))]
        have hil := (List.getElem?_eq_some_iff.mp hi).1
        rw [txs_get hil, Option.some.inj ((List.getElem?_eq_getElem hil).symm.trans hi)]
      exact ⟨_, rfl, _, rfl, L, hh, hv, p1.1, p1.2, stk, tq, xs1, nthN ns a, v, p', rfl, ⟨pre.next a1 ok1, hn1, ⟨ok1, rfl, own1, cons1⟩, A0.nq, eq1, hP1⟩, hm, e2, fun H2 xs2 f2 a2 eq2 hP2 => q H2 xs2 (f1.trans f2) a2 eq2 hP2⟩
abbrev s__law_settled : Stmt := topS 16
abbrev N__law_settled : List Str := ["house", "name", "state", "worths", "records", "reads", "worth"]
theorem sc__law_settled : FnScope N__law_settled ["house", "name", "state"] (defScope s__law_settled) := ⟨rfl, rfl, rfl, by decide +kernel, rfl, by decide +kernel, by decide +kernel⟩

theorem ok__law_settledB {dm : Nat} (T : Txt K mg) (D : IsDef K mg "_law_settled" s__law_settled ["house", "name", "state"]) (Dl : IsDef K mg "_law_look" s__law_look ["house", "name", "state", "reads"]) (Dv : IsDef K mg "_law_value" s__law_value ["house", "r", "state", "reads"]) :
    ∀ n, Cal P w K mg base CX0 (lvR dm n) "_law_settled" ["house", "name", "state"] (spBSet Tb dm n)
  | 0 => cal_none D fun vs H Q E h => by
    obtain ⟨L, h, hv, s, stk, t, v, s', _, _, _, _, e, _⟩ := h
    cases e
  | n + 1 => by
    have C_look := ok__law_settledB (dm := dm) T D Dl Dv n
    have C__law_value := ok__law_valueB T Dv (ok__law_lookB T Dl C_look) dm
    have elv : lvR dm (n + 1) = (lvR dm n + 1 + dm) + 1 := by unfold lvR; rw [Nat.add_mul]; omega
    rw [elv]
    refine D.cal (k := lvR dm n + 1 + dm) sc__law_settled (fun vs H Q E h => ?_) (fun f cdv A outer s H vs Q E hr h => ?_)
    · obtain ⟨L, h, hv, s, stk, t, v, s', rfl, _⟩ := h
      rfl
    obtain ⟨L, hh, hv, st, stk, t, v, s', rfl, pre, hn, ht, e, q⟩ := h
    have hu : (cxOf CX0 P w K mg base N__law_settled "_law_settled" (defScope s__law_settled) f cdv A outer s H E).nox.A.units + 1 < cLine := Nat.lt_of_le_of_lt (Nat.add_le_add_left (by decide : 1 ≤ 64) _) hr.units
    have le : ∀ n : Nat, n ≤ 100 → n ≤ sizeLine := fun n h => le_line (Nat.le_trans h (by decide))
    have a0 := pre.at_
    have okS := pre.ok
    have hsz := pre.sz
    have hkl := okS.rk.klen
    have ek0 : st.rk.known = st.known := rfl
    rw [ek0] at hkl
    obtain ⟨p, gD, rD, kvs, rfl, hp, hg, hrd, hrr⟩ := pre.ha
    have hgH := a0.fr.dk hg
    refine ⟨_, (pss_cons (ps_asg (pv 2) (pg_unl rfl (pgs_cons (pg_name (i := 3) sc__law_settled.nd rfl (Or.inl rfl)) (pgs_cons (pg_name (i := 4) sc__law_settled.nd rfl (Or.inl rfl)) pgs_nil))))
      (pss_cons (ps_if (PW.pt (pw_and (pt_cmp (pc_dnotin hu (pv 1) (pv 3))) (pw_and1 (pt_cmp (pc_din hu (pv 1) (pe_ix (r := rIxT K) ix_tup (pv 0) pe_int (fun _ _ => rfl)))))))
        (pss_one (ps_dput hu (pv 3) (pv 1) (pe_dget hu (pe_ix (r := rIxT K) ix_tup (pv 0) pe_int (fun _ _ => rfl)) (pv 1) (fun _ _ => rfl)) rfl))
        pss_nil)
      (pss_cons (ps_if (pt_cmp (pc_dnotin hu (pv 1) (pv 3)))
        (pss_cons (ps_set (i := 5) sc__law_settled.nd rfl (Or.inl rfl) (pe_lstA pa_nil))
      (pss_cons (ps_set (i := 6) sc__law_settled.nd rfl (Or.inl rfl) (pe_cal C__law_value (hr.mono (by first | decide | omega)) pass0 (pa_cons (pv 0) (pa_cons (pe_dget hu (pe_ix (r := rIxT K) ix_tup (pv 0) pe_int (fun _ _ => rfl)) (pv 1) (fun _ _ => rfl)) (pa_cons (pv 2) (pa_cons (pv 5) pa_nil))))))
      (pss_cons (ps_dput hu (pv 4) (pv 1) (pe_tupA (pa_cons (pe_dget hu (pe_ix (r := rIxT K) ix_tup (pv 0) pe_int (fun _ _ => rfl)) (pv 1) (fun _ _ => rfl)) (pa_cons (pv 5) (pa_cons (pv 6) pa_nil)))) rfl)
      (pss_one (ps_dput hu (pv 3) (pv 1) (pv 6) rfl)))))
        pss_nil)
      (pss_one (ps_ret (pe_dget hu (pv 3) (pv 1) (fun _ _ => rfl))))))), ?_⟩
    rw [show agR hh [] (n + 1) st t = match seen st.known t with
      | some v => .ok v st
      | none => match seen hh.given t with
        | some v => .ok v { st with known := putA st.known t v }
        | none => match rcpOf hh.recs t with
          | none => .err (.noName t)
          | some r => if t ∈ st.going then .err (.ring (st.going.drop (st.going.idxOf t) ++ [t])) else
            settled (agR hh [] n) [] t r (.inr (false, { st with going := st.going ++ [t] })) from rfl] at e
    refine ⟨_, rfl, L.S, _, rfl, SqL.of a0.st, rfl, _, _, rfl, in_name rfl ⟨_, _, rfl, in_name rfl ⟨rfl, ?_⟩⟩⟩
    refine ⟨_, rfl, _, rfl, L.W, _, rfl, DGet.k (k := kT (SX.S t)) a0.wn, _, rfl, ?_⟩
    rw [val_seen]
    cases e1 : seen st.known t with
    | some x =>
      rw [e1] at e
      cases e
      have dV : DGet H L.W (.str (SX.S t)) (some (.int v)) := (show valV (numsK st.known) (kT (SX.S t)) = some (.int v) by rw [val_seen, e1]; rfl) ▸ DGet.k (k := kT (SX.S t)) a0.wn
      refine iteF (iteF ?_)
      refine ⟨_, rfl, _, rfl, L.W, _, rfl, DGet.k (k := kT (SX.S t)) a0.wn, _, rfl, ?_⟩
      rw [val_seen, e1]
      refine iteF ?_
      exact ⟨_, rfl, _, rfl, L.W, _, rfl, dV, q H (FrS.refl _ H) a0⟩
    | none =>
      rw [e1] at e
      refine iteT ?_
      refine ⟨_, rfl, _, rfl, p, _, _, _, rfl, rfl, SqT.of (a0.fr.tup hp), rfl, gD, _, rfl, DGet.k (k := kT (SX.S t)) hgH, _, rfl, ?_⟩
      rw [val_seen]
      cases e2 : seen hh.given t with
      | some x =>
        rw [e2] at e
        cases e
        have vv : valV (numsK hh.given) (kT (SX.S t)) = some (.int v) := by rw [val_seen, e2]; rfl
        have dV : ∀ {X : Hp}, X gD = some (.dK (numsK hh.given)) → DGet X gD (.str (SX.S t)) (some (.int v)) := fun h => vv ▸ DGet.k (k := kT (SX.S t)) h
        refine iteT ?_
        refine ⟨_, rfl, p, _, _, _, rfl, rfl, SqT.of (a0.fr.tup hp), rfl, _, rfl, gD, _, rfl, dV hgH, _, rfl, _, rfl, L.W, _, rfl, DPut.k (k := kT (SX.S t)) a0.wn (lt_line (by rw [numsK_len]; omega)), ?_⟩
        rw [nums_putA]
        have a2 := a0.known t v
        have f2 : FrS Tb L.own H (upd H L.W (.dK (numsK (putA st.known t v)))) := FrS.upd (by unfold LB.own; simp) (.inl ⟨_, a0.wn⟩)
        have eS : seen (putA st.known t v) t = some v := by rw [seen_putA, if_pos rfl]
        have dW : DGet (upd H L.W (.dK (numsK (putA st.known t v)))) L.W (.str (SX.S t)) (some (.int v)) := (show valV (numsK (putA st.known t v)) (kT (SX.S t)) = some (.int v) by rw [val_seen, eS]; rfl) ▸ DGet.k (k := kT (SX.S t)) upd_same
        refine ⟨_, rfl, _, rfl, L.W, _, rfl, DGet.k (k := kT (SX.S t)) upd_same, _, rfl, ?_⟩
        rw [val_seen, eS]
        refine iteF ?_
        exact ⟨_, rfl, _, rfl, L.W, _, rfl, dW, q _ f2 a2⟩
      | none =>
        rw [e2] at e
        refine iteF ?_
        refine ⟨_, rfl, _, rfl, L.W, _, rfl, DGet.k (k := kT (SX.S t)) a0.wn, _, rfl, ?_⟩
        rw [val_seen, e1]
        refine iteT ?_
        have hrd' : Rd H rD (.dK kvs) := Rd.mp (fun _ e t => a0.fr.at e t) hrd
        rcases KvR.get (t := t) hrr with ⟨e3, _⟩ | ⟨r, rv, e3, e4, hrec⟩
        · rw [rcp_seen] at e3
          rw [e3] at e
          cases e
        rw [rcp_seen] at e3
        rw [e3] at e
        have c : ¬ t ∈ st.going := fun c => by simp only [if_pos c] at e; cases e
        simp only [if_neg c] at e
        obtain ⟨ho1, ct⟩ := okS.rk.ask e3 e1 c
        have o1 : AgOk hh bet0 [] { st with going := st.going ++ [t] } := ⟨ho1, ⟨okS.coh.kn, okS.coh.rd, okS.coh.kr⟩, okS.rows, okS.kept, okS.made⟩
        have hn1 : hh.recs.length + 1 ≤ (st.going ++ [t]).length + n := by rw [List.length_append]; show _ ≤ st.going.length + 1 + n; omega
        have a1 := a0.ghost { st with going := st.going ++ [t] } rfl rfl
        refine ⟨Nat.zero_le _, fun tq H2 nq s2' eq => ?_⟩
        have s2 : Same H H2 := s2'
        have a2 := a1.push s2 nq eq
        have nqs : tq ∉ stk := fun z => by
          obtain ⟨_, xs, e⟩ := a0.sk tq z
          rw [nq] at e
          cases e
        have hmem := rcpOf_mem e3
        obtain ⟨_, hwn, hdp⟩ := pre.HH.rcp _ hmem
        have dR : ∀ {X : Hp}, FrS Tb [] L.B X → DGet X rD (.str (SX.S t)) (some rv) := fun {X} f => e4 ▸ DGet.rd (k := kT (SX.S t)) (Rd.mp (fun _ e t => f.at e t) hrd)
        cases e6 : wk (lkO (agR hh [] n)) r ({ st with going := st.going ++ [t] }, []) with
        | err x =>
          have : settled (agR hh [] n) [] t r (.inr (false, { st with going := st.going ++ [t] })) = .err x := by
            show (match wk (lkO (agR hh [] n)) r ({ st with going := st.going ++ [t] }, []) with | .err e => OutR.err e | .ok v p => .ok v (p.1.make t (p.2, r, v))) = _
            rw [e6]
          rw [this] at e
          cases e
        | ok v1 pp =>
        obtain ⟨s2', own⟩ := pp
        have em : settled (agR hh [] n) [] t r (.inr (false, { st with going := st.going ++ [t] })) = .ok v1 (s2'.make t (own, r, v1)) := by
          show (match wk (lkO (agR hh [] n)) r ({ st with going := st.going ++ [t] }, []) with | .err e => OutR.err e | .ok v p => .ok v (p.1.make t (p.2, r, v))) = _
          rw [e6]
        rw [em] at e
        obtain ⟨ev, es⟩ := OutR.ok.inj e
        subst ev
        subst es
        have hJ0 : LJ hh bet0 (st.going ++ [t]) ({ st with going := st.going ++ [t] }, []) := ⟨o1, rfl, OwnOk.nil _ _, fun _ h => nomatch h⟩
        obtain ⟨⟨ok2, g2, own2, cons2⟩, _⟩ := wk_ok (lj_look pre.HH.n (G := st.going ++ [t]) hn1) hwn (s := ({ st with going := st.going ++ [t] }, [])) hJ0 e6
        have g2 : s2'.going = st.going ++ [t] := g2
        have ok2 : AgOk hh bet0 [] s2' := ok2
        refine ⟨_, rfl, _, rfl, p, _, _, _, rfl, rfl, SqT.of (a2.fr.tup hp), rfl, _, rfl, rD, _, rfl, dR a2.fr, _, rfl, _, rfl, L, hh, .ref p, rv, r, { st with going := st.going ++ [t] }, [], stk, tq, [], v1, (s2', own), rfl, ⟨⟨pre.HH, ⟨p, gD, rD, kvs, rfl, hp, hg, hrd, hrr⟩, pre.sz, a2, o1⟩, hn1, hJ0, nqs, eq, trivial⟩, hrec.keep a2.fr.kp, hwn, hdp, pre.HH.fit _ hmem e2, e6, fun H4 xs4 f4 a4 eq4 hP4 => ?_⟩
        have nqH : H tq = none := nq
        have f04 : FrS Tb L.own H H4 := by
          have g := ((FrS.of (Tb := Tb) s2).mono (S := []) (S' := tq :: L.own) (fun x hx => nomatch hx)).trans f4
          exact ⟨fun x u m tt e => g.1 x u (fun z => (List.mem_cons.mp z).elim (fun z => by rw [z, nqH] at e; cases e) m) tt e, g.2⟩
        obtain ⟨kv4, bl4, h43, h44, h45, h46⟩ := id a4.bk
        refine ⟨_, rfl, p, _, _, _, rfl, rfl, SqT.of (a4.fr.tup hp), rfl, _, rfl, rD, _, rfl, dR a4.fr, _, rfl, _, rfl, le 3 (by decide), fun Tn H5 nT s5' eT => ?_⟩
        have s5 : Same H4 H5 := s5'
        have a5 := a4.same s5
        have bl_len : bl4.length ≤ hh.recs.length := by
          have := ok2.rk.len
          have e : s2'.rk.read.length = bl4.length := by
            show (s2'.book.map _).length = _
            rw [List.length_map, ← List.length_map (f := fun p : List Nat × (Row × Addr) => (p.1, p.2.1)) (as := bl4), h44]
          omega
        refine ⟨_, rfl, _, rfl, L.Rc, _, rfl, DPut.k (k := kT (SX.S t)) (s5 _ _ h43) (lt_line (by rw [h46.len]; omega)), ?_⟩
        have hnt : ¬ t ∈ s2'.book.map (·.1) := fun z => by
          have nd := ok2.rk.nd
          have e : s2'.rk.asked = st.going ++ [t] := g2
          rw [e] at nd
          have e9 : s2'.rk.read.map (·.1) = s2'.book.map (·.1) := by
            show (s2'.book.map fun p => (p.1, p.2.1)).map (·.1) = _
            rw [List.map_map]; rfl
          exact (List.nodup_append.mp nd).2.2 t (List.mem_append_right _ (List.mem_singleton.mpr rfl)) t (by rw [e9]; exact z) rfl
        have a6 := a5.booking nqs (s5 _ _ h43) (t := t) (o := (own, r, v1)) eT (hrec.keep a5.fr.kp) (s5 _ _ eq4) (hP4.same s5) hnt
        have f6 := (f04.trans (FrS.of s5)).trans (FrS.upd (Tb := Tb) (S := L.own) (a := L.Rc) (o := .dK (putK kv4 (kT (SX.S t)) (.ref Tn))) (by unfold LB.own; simp) (.inl ⟨_, s5 _ _ h43⟩))
        generalize upd H5 L.Rc (.dK (putK kv4 (kT (SX.S t)) (.ref Tn))) = H6 at a6 f6 ⊢
        have kl : s2'.known.length < sizeLine := lt_line (by have := ok2.rk.klen; have e : s2'.rk.known = s2'.known := rfl; rw [e] at this; omega)
        refine ⟨_, rfl, _, rfl, _, rfl, L.W, _, rfl, DPut.k (k := kT (SX.S t)) a6.wn (by rw [numsK_len]; exact kl), ?_⟩
        rw [nums_putA]
        have a7 := (a6.known t v1).ghost (s2'.make t (own, r, v1)) rfl rfl
        have f7 := f6.trans (FrS.upd (Tb := Tb) (S := L.own) (a := L.W) (o := .dK (numsK (putA s2'.known t v1))) (by unfold LB.own; simp) (.inl ⟨_, a6.wn⟩))
        have dV : DGet (upd H6 L.W (.dK (numsK (putA s2'.known t v1)))) L.W (.str (SX.S t)) (some (.int v1)) := (show valV (numsK (putA s2'.known t v1)) (kT (SX.S t)) = some (.int v1) by rw [val_seen, seen_putA, if_pos rfl]; rfl) ▸ DGet.k (k := kT (SX.S t)) upd_same
        exact ⟨_, rfl, _, rfl, L.W, _, rfl, dV, q _ f7 a7⟩
end
/-! ### fresh builds of the drawn houses; records put together -/
open LamX NdefX
theorem kv_txs {α : Type} {R : α → V → Prop} : ∀ {l : List (List Nat × α)} {m : List (Key × V)}, KvR R l m → (m.map fun kv => kV kv.1) = txs (l.map (·.1))
  | [], [], _ => rfl
  | p :: l, q :: m, ⟨a, _, c⟩ => by
    rw [List.map_cons, a, kv_txs c]
    rfl
  | [], _ :: _, h => h.elim
  | _ :: _, [], h => h.elim
theorem nums_txs (g : List Pr) : ((numsK g).map fun kv => kV kv.1) = txs (g.map (·.1)) := kv_txs (numsR g)
/-- what is read stands in the recipe -/
theorem wk_wiB {f : List Nat → Option Int} {S : List Nat → Prop} : ∀ {r : Rcp} {o o' : List Pr} {v : Int}, r.Wn → r.Wi S → wk (dnL f) r o = .ok v o' → ∀ u ∈ o'.map (·.1), u ∈ o.map (·.1) ∨ S u := by
  intro r
  induction r with
  | num n => intro o o' v _ _ e u hu; cases e; exact .inl hu
  | read t =>
    intro o o' v _ w e u hu
    obtain ⟨_, rfl⟩ := dnL_ok e
    exact (setd_keys.mp hu).imp id fun z => by rw [z]; exact w
  | two k a b ia ib =>
    intro o o' v n w e u hu
    obtain ⟨x, o1, h1, h2⟩ := OutR.bind_ok e
    obtain ⟨y, o2, h3, h4⟩ := OutR.bind_ok h2
    cases h4
    exact (ib n.2 w.2 h3 u hu).elim (ia n.1 w.1 h1 u) .inr
  | pick a b c ia ib ic =>
    intro o o' v n w e u hu
    obtain ⟨x, o1, h1, h2⟩ := OutR.bind_ok e
    by_cases z : x > 0
    · simp only [if_pos z] at h2
      exact (ib n.2.1 w.2.1 h2 u hu).elim (ia n.1 w.1 h1 u) .inr
    · simp only [if_neg z] at h2
      exact (ic n.2.2 w.2.2 h2 u hu).elim (ia n.1 w.1 h1 u) .inr
  | choose a ns ia =>
    intro o o' v n w e u hu
    obtain ⟨x, o1, h1, h2⟩ := OutR.bind_ok e
    obtain ⟨_, rfl⟩ := dnL_ok h2
    rcases setd_keys.mp hu with hu | hu
    · exact ia n.1 w.1 h1 u hu
    · obtain ⟨i, _, hi⟩ := nth_mem n.2.1 x
      exact .inr (by rw [hu]; exact w.2 _ (List.mem_of_getElem? hi))
/-- records of the drawn houses -/
structure OldK (bk : Old) (m : Nat) : Prop where
  t : TrueOld bk
  rd : ∀ p ∈ bk, ∀ q ∈ p.2.1, rkB q.1 < rkB p.1 ∧ q.1 ∈ nmB m
  nm : ∀ p ∈ bk, p.1 ∈ nmB m
  rl : ∀ p ∈ bk, p.2.1.length ≤ 1000
section
variable {bk bk' : Old} {m : Nat}
theorem OldK.len (O : OldK bk m) : bk.length ≤ m := by
  have h1 : (bk.map (·.1)).length ≤ (nmB m).length := sub_lenR O.t.nd fun u hu => by
    obtain ⟨p, hp, rfl⟩ := List.mem_map.mp hu
    exact O.nm p hp
  rw [nmB_len, List.length_map] at h1
  exact h1
theorem OldK.put (O : OldK bk m) (O' : OldK bk' m) {p : List Nat × Row} (hp : p ∈ bk') : OldK (putA bk p.1 p.2) m := by
  have key : ∀ x ∈ putA bk p.1 p.2, x ∈ bk ∨ x = p := fun x hx => by
    unfold putA at hx
    split at hx
    · obtain ⟨y, hy, e⟩ := List.mem_map.mp hx
      split at e
      · rename_i c
        exact .inr (by rw [← e, c])
      · exact .inl (by rw [← e]; exact hy)
    · rcases List.mem_append.mp hx with h | h
      · exact .inl h
      · exact .inr (List.mem_singleton.mp h)
  refine ⟨⟨fun x hx => ?_, ?_⟩, fun x hx => ?_, fun x hx => ?_, fun x hx => ?_⟩
  · rcases key x hx with h | h
    · exact O.t.row x h
    · rw [h]; exact O'.t.row p hp
  · rw [putA_keys]
    split
    · exact O.t.nd
    · rename_i c
      exact List.nodup_append.mpr ⟨O.t.nd, List.nodup_cons.mpr ⟨(fun z => nomatch z), List.nodup_nil⟩, fun a ha b hb e => c (by rw [← List.mem_singleton.mp hb, ← e]; exact ha)⟩
  · rcases key x hx with h | h
    · exact O.rd x h
    · rw [h]; exact O'.rd p hp
  · rcases key x hx with h | h
    · exact O.nm x h
    · rw [h]; exact O'.nm p hp
  · rcases key x hx with h | h
    · exact O.rl x h
    · rw [h]; exact O'.rl p hp
end
theorem HouseK.rows {h : House} {m : Nat} (H : HouseK h m) {s : RkS} (R : Rest h bet0 s) : OldK (rowsH h s) m := by
  have key : ∀ p ∈ rowsH h s, TrueRow p ∧ rcpOf h.recs p.1 = some p.2.2.1 := fun p hp => by
    obtain ⟨T, e, _⟩ := row_ofX H.x R p hp
    have hm := rcpOf_mem e
    exact ⟨⟨T.tr, T.nm, (H.good hm).1, (H.good hm).2⟩, e⟩
  refine ⟨⟨fun p hp => (key p hp).1, by rw [rowsH_keys]; exact (List.nodup_append.mp R.ok.nd).2.1⟩, fun p hp q hq => ?_, fun p hp => ?_, fun p hp => ?_⟩
  · obtain ⟨T, e⟩ := key p hp
    have hm := rcpOf_mem e
    have w := (wk_wiB (good_wn T.gd) (H.wi hm) T.tr.run q.1 (List.mem_map.mpr ⟨q, hq, rfl⟩)).resolve_left (fun z => nomatch z)
    obtain ⟨j, hj, ej⟩ := H.own w.1
    exact ⟨w.2, by rw [ej]; exact nmB_in hj⟩
  · obtain ⟨T, e⟩ := key p hp
    obtain ⟨j, hj, ej⟩ := H.own (List.mem_append_right _ (List.mem_map.mpr ⟨_, rcpOf_mem e, rfl⟩))
    exact (show p.1 = nmE j from ej) ▸ nmB_in hj
  · have := reads_len R p hp
    have c := H.count
    have := H.m16
    omega
theorem FrS.of_pf {Tb : List NTab} {X X' : Hp} {p : Addr} {k : List (Key × V)} {o' : HO} (hp : X p = some (.dK k)) (f2 : PF p X X') (hp' : X' p = some o') : FrS Tb [p] X X' :=
  FrS.dict1 hp f2 (fun b e => by
    by_cases z : b = p
    · rw [z, hp'] at e; cases e
    · cases c : X b with
      | none => rfl
      | some u => rw [f2 b u z c] at e; cases e)
theorem FrS.pf {Tb : List NTab} {B X X' : Hp} {p : Addr} {k : List (Key × V)} {o' : HO} (f : FrS Tb [] B X) (n : B p = none) (hp : X p = some (.dK k)) (f2 : PF p X X') (hp' : X' p = some o') : FrS Tb [] B X' :=
  ((FrS.mono f fun _ h => nomatch h).trans (FrS.of_pf hp f2 hp')).dropAll fun x hx => by rw [List.mem_singleton.mp hx]; exact n
/-- no tuple and no list -/
def ND (X : Hp) (p : Addr) : Prop := ∀ xs, X p ≠ some (.tup xs) ∧ X p ≠ some (.lst xs)
theorem ND.dk {X : Hp} {p : Addr} {k : List (Key × V)} (h : X p = some (.dK k)) : ND X p := fun xs => ⟨fun z => (by rw [h] at z; cases z), fun z => (by rw [h] at z; cases z)⟩
theorem ND.fz {X : Hp} {p : Addr} {od : Obj} {k : List (Key × V)} (h : X p = some (.frz od (.dK k))) : ND X p := fun xs => ⟨fun z => (by rw [h] at z; cases z), fun z => (by rw [h] at z; cases z)⟩
theorem FrS.unl {Tb : List NTab} {X : Hp} {a : Addr} {o : HO} {od : Obj} {k : List (Key × V)} (e : X a = some (.frz od (.dK k))) : FrS Tb [a] X (L2.upd X a o) :=
  ⟨fun x u m t h => by rw [L2.upd_ne (fun z => m (List.mem_singleton.mpr z))]; exact h, fun b h => by
    unfold L2.upd at h
    split at h
    · cases h
    · exact h, fun t p hp => by
    obtain ⟨ps, t1, t2, t3⟩ := t p hp
    refine ⟨ps, ?_, t2, fun pos cv hc => ?_⟩
    · rw [L2.upd_ne (fun z => by rw [z, e] at t1; cases t1)]
      exact t1
    · obtain ⟨c, e1, e2⟩ := t3 pos cv hc
      refine ⟨c, e1, ?_⟩
      rw [L2.upd_ne (fun z => by rw [z, e] at e2; cases e2)]
      exact e2⟩
section
variable {Tb : List NTab} {A B C : Hp} {p b : Addr}
theorem FrS.up1 (f : FrS Tb [] A B) : FrS Tb [p] A B := f.mono fun _ h => nomatch h
theorem FrS.new1 (f : FrS Tb [] A B) (g : FrS Tb [p] B C) (n : A p = none) : FrS Tb [] A C := (f.up1.trans g).dropAll fun x hx => by rw [List.mem_singleton.mp hx]; exact n
theorem FrS.kp1 (f : FrS Tb [p] A B) (hp : ND A p) : Keep A B := f.keep fun x hx xs e => by
  rw [List.mem_singleton.mp hx] at e
  exact absurd e (hp xs).1
theorem FrS.ne1 (f : FrS Tb [p] A B) (n : b ≠ p) {o : HO} (t : ∀ ps, o ≠ .tbl ps) (e : A b = some o) : B b = some o := f.1 b o (fun z => n (List.mem_singleton.mp z)) t e
theorem FrS.lst1 (f : FrS Tb [p] A B) (hp : ND A p) {xs : List V} (e : A b = some (.lst xs)) : B b = some (.lst xs) := f.ne1 (fun z => (hp xs).2 (z ▸ e)) (fun _ z => nomatch z) e
theorem FrS.tup1 (f : FrS Tb [p] A B) (hp : ND A p) {xs : List V} (e : A b = some (.tup xs)) : B b = some (.tup xs) := f.ne1 (fun z => (hp xs).1 (z ▸ e)) (fun _ z => nomatch z) e
theorem FrS.dk1 (f : FrS Tb [p] A B) (n : b ≠ p) {xs : List (Key × V)} (e : A b = some (.dK xs)) : B b = some (.dK xs) := f.ne1 n (fun _ z => nomatch z) e
end
def spFreshB (K : PySem.W.Frag) (Tb : List NTab) (n : Nat) : Sp := fun vs H Q _ => ∃ (h : House) (hv : V) (wv : Addr) (ts : List (List Nat)) (s : RkS), vs = [hv, .ref wv] ∧ HouseX 5 h ∧ HouseAt H h hv ∧ h.recs.length + 1 ≤ n ∧ SqL K H wv (txs ts) ∧ (∀ t ∈ ts, Nm t) ∧ Done h n ts s ∧
  ∀ (S W R : Addr) (kvs : List (Key × V)) (H' : Hp), FrS Tb [] H H' → H S = none → H W = none → H R = none → W ≠ R → H' S = some (.lst [.ref W, .ref R]) → H' W = some (.dK (numsK s.known)) → H' R = some (.dK kvs) → KvR (RowR H') (rowsH h s) kvs → Q (.ref S) H'
/-- told: wishes of the house's names; the pool alone is changed -/
def spWishB : Sp := fun vs H Q _ => ∃ (h : House) (hv : V) (p : Addr) (r : Int) (mm : Bool) (c : Int) (m : Nat), vs = [hv, .ref p] ∧ HouseAt H h hv ∧ HouseK h m ∧ 1 ≤ m ∧ H p = some (.dK (pool r mm c)) ∧ 0 ≤ c ∧ c ≤ 200000 ∧
  ∀ (W : Addr) (ws : List (List Nat)) (H' : Hp), PF p H H' → (∃ k, H' p = some (.dK k)) → H W = none → H' W = some (.lst (txs ws)) → ws.length ≤ 4 → (∀ u ∈ ws, u ∈ nmsH h) → Q (.ref W) H'
section
variable {P : Program} {w : World} {K : PySem.W.Frag} {mg : Str → Option Value} {base : Heap} {Tb : List NTab}
abbrev s__law_fresh : Stmt := topS 17
abbrev N__law_fresh : List Str := ["house", "wishes", "state", "name"]
theorem sc__law_fresh : FnScope N__law_fresh ["house", "wishes"] (defScope s__law_fresh) := ⟨rfl, rfl, rfl, by decide +kernel, rfl, by decide +kernel, by decide +kernel⟩

theorem ok__law_freshB {n : Nat} (T : Txt K mg) (D : IsDef K mg "_law_fresh" s__law_fresh ["house", "wishes"]) (C__law_settled : Cal P w K mg base CX0 (lvR 5 n) "_law_settled" ["house", "name", "state"] (spBSet Tb 5 n)) :
    Cal P w K mg base CX0 (lvR 5 n + 1) "_law_fresh" ["house", "wishes"] (spFreshB K Tb n) := by
  refine D.cal (k := lvR 5 n) sc__law_fresh (fun vs H Q E h => ?_) (fun f cdv A outer s H vs Q E hr h => ?_)
  · obtain ⟨h, hv, wv, ts, s0, rfl, _⟩ := h
    rfl
  obtain ⟨hh, hv, wv, ts, s0, rfl, HX, ha, hn, hW, hts, DD, q⟩ := h
  have HH := HX.ok
  have e := DD.e
  have hsz : hh.given.length + hh.recs.length ≤ 100000 := by have := HX.few; omega
  refine ⟨_, (pss_cons (ps_set (i := 2) sc__law_fresh.nd rfl (Or.inl rfl) (pe_lstA (pa_cons pe_dnewA (pa_cons pe_dnewA pa_nil))))
      (pss_cons (ps_for PassesOwn.never rfl (pi_list (pv 1)) (pg_name (i := 3) sc__law_fresh.nd rfl (Or.inl rfl))
        (pss_one (ps_expr (pe_cal C__law_settled (hr.mono (by first | decide | omega)) pass0 (pa_cons (pv 0) (pa_cons (pv 3) (pa_cons (pv 2) pa_nil)))))))
      (pss_one (ps_ret (pv 2))))), ?_⟩
  refine fun W H1 nW s1' eW => fun R H2 nR s2' eR => ⟨le_line (Nat.le_of_ble_eq_true rfl), fun S H3 nS s3' eS => ?_⟩
  have s1 : Same H H1 := s1'
  have s2 : Same H1 H2 := s2'
  have s3 : Same H2 H3 := s3'
  have s03 := (s1.trans s2).trans s3
  have nSH : H S = none := s1.free (s2.free nS)
  have nRH : H R = none := s1.free nR
  have nWR : W ≠ R := fun z => by rw [← z, eW] at nR; cases nR
  have eS : H3 S = some (.lst [.ref W, .ref R]) := eS
  obtain ⟨L, lS, lW, lR, lB⟩ : ∃ L : LB, L.S = S ∧ L.W = W ∧ L.Rc = R ∧ L.B = H := ⟨⟨S, W, R, H⟩, rfl, rfl, rfl, rfl⟩
  have pha : HouseAt L.B hh hv := by rw [lB]; exact ha
  have a1 : LBt Tb L ⟨[], [], [], [], []⟩ [] H3 := ⟨by rw [lS, lW, lR]; exact eS, by rw [lB]; exact FrS.of s03, by rw [lB, lW, lR]; exact ⟨nW, nRH, fun z => nomatch z⟩, by rw [lW]; exact s3 _ _ (s2 _ _ eW), ⟨[], [], by rw [lR]; exact s3 _ _ eR, rfl, List.nodup_nil, trivial⟩, (fun _ h => nomatch h), by rw [lW, lR]; exact nWR⟩
  refine in_name rfl (in_nx (in_seq ?_))
  refine ⟨_, rfl, wv, rfl, ⟨_, s03.seq hW⟩, for_list (xs := txs ts) (fun j σ G => ∃ (w3 : Option V) (st : AgS) (v : Int), σ = [some hv, some (.ref wv), some (.ref S), w3] ∧ LBt Tb L st [] G ∧ AgOk hh bet0 [] st ∧ st.going = [] ∧ lkAll hh n emptyS (ts.take j) = .ok v st.rk)
    ⟨none, ⟨[], [], [], [], []⟩, 0, rfl, a1, AgOk.empty hh bet0 [], rfl, by rw [List.take_zero]; rfl⟩ (fun j σ G _ ⟨_, st, _, _, a, _⟩ => ?_) ?_ ?_⟩
  · have f := a.fr
    rw [lB] at f
    exact f.seq (fun z => nomatch z) hW
  · rintro j x σ G hx ⟨w3, st, v, rfl, aG, oG, gG, eG⟩
    obtain ⟨t, ht, rfl⟩ : ∃ t, ts[j]? = some t ∧ x = .str (SX.S t) := by
      have hj : j < ts.length := by
        have := (List.getElem?_eq_some_iff.mp hx).1
        rwa [txs_len] at this
      rw [txs_get hj] at hx
      exact ⟨ts[j], List.getElem?_eq_getElem hj, (Option.some.inj hx).symm⟩
    have tk : ts.take (j + 1) = ts.take j ++ [t] := by rw [List.take_add_one, ht]; rfl
    have hnm := hts t (List.mem_of_getElem? ht)
    have hn1 : hh.recs.length + 1 ≤ st.going.length + n := by rw [gG]; show _ ≤ 0 + n; omega
    have sim := agR_sim HH.n (OldOk.nil hh) n st t oG hnm hn1
    cases e1 : lkR hh n st.rk t with
    | err x =>
      have := lkAll_err (us := ts.drop (j + 1)) (show lkAll hh n emptyS (ts.take (j + 1)) = .err x by rw [tk, lkAll_snoc eG, e1])
      rw [List.take_append_drop, e] at this
      cases this
    | ok v1 k =>
      rw [e1] at sim
      obtain ⟨s', e2, rfl, o2⟩ := sim
      have S1 := lkR_step HH.n n st.rk t v1 s'.rk oG.rk hnm e1
      refine ⟨_, rfl, _, rfl, _, rfl, L, hh, hv, st, [], t, v1, s', by rw [lS]; rfl, ⟨HH, pha, hsz, aG, oG⟩, hn1, hnm, e2, fun G2 f2 a2 => ?_⟩
      exact ⟨_, s', 0, rfl, a2, o2, S1.asked.trans gG, by rw [tk, lkAll_snoc eG, e1]⟩
  · rintro σ G ⟨w3, st, v, rfl, aG, oG, gG, eG⟩
    rw [txs_len, List.take_of_length_le (Nat.le_refl _), e] at eG
    cases eG
    have f := aG.fr
    rw [lB] at f
    obtain ⟨kvs, bl, h3, h4, h5, h6⟩ := aG.bk
    refine ⟨_, rfl, q S W R kvs G f nSH nW nRH nWR ?_ ?_ ?_ ?_⟩
    · have := aG.st
      rw [lS, lW, lR] at this
      exact this
    · have := aG.wn
      rw [lW] at this
      exact this
    · rw [lR] at h3
      exact h3
    · rw [show rowsH hh st.rk = st.book from book_rows oG, ← h4]
      exact KvR.mapB (fun r v ⟨T, rv, xs, e, g1, g2, g3, g4, g5, g6⟩ => ⟨T, rv, _, xs, e, g1, g2, g5, g6⟩) h6
abbrev s__law_wishes : Stmt := topS 18
abbrev N__law_wishes : List Str := ["house", "pool", "names", "k"]
theorem sc__law_wishes : FnScope N__law_wishes ["house", "pool"] (defScope s__law_wishes) := ⟨rfl, rfl, rfl, by decide +kernel, rfl, by decide +kernel, by decide +kernel⟩

theorem ok__law_wishesB (T : Txt K mg) (D : IsDef K mg "_law_wishes" s__law_wishes ["house", "pool"]) (C__law_take : Cal P w K mg base CX0 1 "_law_take" ["pool", "many"] spTakeP) :
    Cal P w K mg base CX0 2 "_law_wishes" ["house", "pool"] spWishB := by
  refine D.cal (k := 1) sc__law_wishes (fun vs H Q E h => ?_) (fun f cdv A outer s H vs Q E hr h => ?_)
  · obtain ⟨_, _, _, _, _, _, _, rfl, _⟩ := h
    rfl
  obtain ⟨hh, hv, p, r, mm, c, m, rfl, ha, HK, m1, hp, c0, c1, q⟩ := h
  obtain ⟨U, gD, rD, kvs, rfl, hU, hg, hrd, hrr⟩ := ha
  have cnt := HK.count
  have m16 := HK.m16
  refine ⟨_, (pss_cons (ps_set (i := 2) sc__law_wishes.nd rfl (Or.inr rfl) (pe_callB cr_sortTA (by rfl) T.b_sorted (by decide +kernel) (pa_cons (pe_op op_catU (pe_callTy (call_listDA rfl) (by rfl) T.b_list (by decide +kernel) (pa_cons (pe_ix (r := rIxT K) ix_tup (pv 0) pe_int (fun _ _ => rfl)) pa_nil)) (pe_callTy (call_listDA rfl) (by rfl) T.b_list (by decide +kernel) (pa_cons (pe_ix (r := rIxT K) ix_tup (pv 0) pe_int (fun _ _ => rfl)) pa_nil))) pa_nil)))
      (pss_one (ps_ret (pe_lc (own := [("k", 3)]) (g := gName 3)  (by rfl) sc__law_wishes.nd  (pi_range1 rfl T.b_range (pa_cons (pe_op op_add pe_int (pe_cal C__law_take (hr.mono (by first | decide | omega)) pass0 (pa_cons (pv 1) (pa_cons pe_int pa_nil)))) pa_nil)) (blkOk_by (own := [("k", 3)]) (N := N__law_wishes) (sc := defScope s__law_wishes) (by decide +kernel)) (fun _ _ _ _ _ => (pg_name (i := 3) sc__law_wishes.nd rfl (Or.inl rfl))) (fun _ _ _ _ _ => pts_nil) (fun _ _ _ _ _ => (pe_ix (r := rIxL K) ix_list (pv 2) (pe_cal C__law_take (hr.mono (by first | decide | omega)) pass0 (pa_cons (pv 1) (pa_cons (pe_callB (call_len_seqK (K := K) rfl) (by rfl) T.b_len PySem.boot_len (pa_cons (pv 2) pa_nil)) pa_nil))) (fun _ _ => rfl))))))), ?_⟩
  refine ⟨_, rfl, U, _, 0, _, rfl, rfl, SqT.of hU, rfl, gD, _, rfl, .inl hg, fun L1 H1 nL1 s1' eL1 => ?_⟩
  have s1 : Same H H1 := s1'
  rw [nums_txs] at eL1
  refine ⟨_, rfl, U, _, 1, _, rfl, rfl, SqT.of (s1 _ _ hU), rfl, rD, _, rfl, Rd.mp (fun _ e _ => s1 _ _ e) hrd, fun L2 H2 nL2 s2' eL2 => ?_⟩
  have s2 : Same H1 H2 := s2'
  rw [kv_txs hrr] at eL2
  refine ⟨L1, L2, _, _, rfl, rfl, s2 _ _ eL1, eL2, le_line (by rw [txs_len, txs_len, List.length_map, List.length_map]; omega), fun L3 H3 nL3 s3' eL3 => ?_⟩
  have s3 : Same H2 H3 := s3'
  rw [← txs_app] at eL3
  refine ⟨L3, _, rfl, SqL.of eL3, fun ys N H4 pm ri nN s4' eN => ?_⟩
  have s4 : Same H3 H4 := s4'
  have s04 := ((s1.trans s2).trans s3).trans s4
  refine in_name rfl (in_nx ?_)
  have nmy : ∀ u ∈ ys, u ∈ nmsH hh := fun u hu => pm.mem_iff.mp hu
  have yl : ys.length = m := by rw [pm.length_eq, List.length_append, List.length_map, List.length_map]; exact cnt
  have ypos : (0 : Int) < ((txs ys).length : Nat) := by rw [txs_len, yl]; omega
  have yb : (((txs ys).length : Nat) : Int).natAbs < 2 ^ 200 := by
    rw [txs_len, yl]
    have : (2 : Nat) ^ 200 > 4000 := by decide
    omega
  refine ⟨_, rfl, p, r, mm, c, 4, rfl, s04 _ _ hp, by decide, by decide, c0, by omega, fun H5 v5 r5 k5 g5 hp5 k50 k51 v50 v51 => ?_⟩
  have f5 : PF p H4 H5 := PF.take g5
  have nNp : N ≠ p := fun z => by rw [z, s3 _ _ (s2 _ _ (s1 _ _ hp))] at nN; cases nN
  have eN5 := f5 N _ nNp eN
  refine ⟨_, _, rfl, rfl, 1 + v5, rfl, by omega, by omega, fun D nD => ?_⟩
  have nDp : D ≠ p := fun z => by rw [z, hp5] at nD; cases nD
  have nND : N ≠ D := fun z => by rw [← z, eN5] at nD; cases nD
  have nDH : H D = none := by
    cases eD : H D with
    | none => rfl
    | some u => rw [f5 D u nDp (s04 _ _ eD)] at nD; cases nD
  refine lc_range (lo := 0) (n := (1 + v5).toNat) (fun j Z => ∃ (rj cj : Int) (ss : List (List Nat)), (∀ b u, b ≠ p → b ≠ D → H5 b = some u → Z b = some u) ∧ Z p = some (.dK (pool rj mm cj)) ∧ 0 ≤ cj ∧ cj ≤ k5 + j ∧ Z D = some (.lst (txs ss)) ∧ ss.length = j ∧ ∀ u ∈ ss, u ∈ ys)
    ⟨r5, k5, [], fun b u _ nb e => by rw [upd_ne nb]; exact e, by rw [upd_ne (Ne.symm nDp)]; exact hp5, k50, by omega, upd_same, rfl, fun _ h => nomatch h⟩ ?_ ?_
  · rintro j Z hj ⟨rj, cj, ss, fZ, hpZ, cj0, cj1, eZ, sl, sn⟩
    have hNZ := fZ N _ nNp nND eN5
    refine ⟨rfl, _, rfl, _, rfl, _, rfl, N, _, rfl, .inl (SqL.of hNZ), p, rj, mm, cj, _, rfl, hpZ, ypos, yb, cj0, by omega, fun Z2 v6 r6 k6 g6 hp6 k60 k61 v60 v61 => ?_⟩
    have eZ2 : Z2 D = some (.lst (txs ss)) := PF.take g6 D _ nDp eZ
    obtain ⟨u, hu, hat⟩ := one_ofB v60 v61
    refine ⟨N, _, v6, _, rfl, rfl, SqL.of ((PF.take g6).lst hpZ hNZ), hat, _, eZ2, lt_line (by rw [txs_len]; omega), ?_⟩
    rw [txs_snoc]
    refine ⟨r6, k6, ss ++ [u], fun b x nb nb2 e => by rw [upd_ne nb2]; exact PF.take g6 b x nb (fZ b x nb nb2 e), by rw [upd_ne (Ne.symm nDp)]; exact hp6, k60, by omega, upd_same, by rw [List.length_append, sl]; rfl, fun x hx => ?_⟩
    rcases List.mem_append.mp hx with hx | hx
    · exact sn x hx
    · rw [List.mem_singleton.mp hx]; exact hu
  · rintro Z ⟨rj, cj, ss, fZ, hpZ, cj0, cj1, eZ, sl, sn⟩
    exact q D ss Z (fun b u nb e => fZ b u nb (fun z => by rw [z, nDH] at e; cases e) (f5 b u nb (s04 _ _ e))) ⟨_, hpZ⟩ nDH eZ (by omega) fun u hu => nmy u (sn u hu)
end
/-! ### the case: house, records, wishes -/
open LamX NdefX
/-- a house of two dicts, not locked -/
structure HouseU (X : Hp) (h : House) (U G R : Addr) (kvs : List (Key × V)) : Prop where
  u : X U = some (.tup [.ref G, .ref R])
  g : X G = some (.dK (numsK h.given))
  r : X R = some (.dK kvs)
  k : KvR (Rec X) h.recs kvs
section
variable {X X' : Hp} {h : House} {U G R : Addr} {kvs : List (Key × V)} {Tb : List NTab}
theorem HouseU.fr (a : HouseU X h U G R kvs) (f : FrS Tb [] X X') : HouseU X' h U G R kvs := ⟨f.tup a.u, f.dk a.g, f.dk a.r, a.k.imp fun _ _ q => q.keep f.kp⟩
theorem HouseU.fr1 {p : Addr} (a : HouseU X h U G R kvs) (f : FrS Tb [p] X X') (hp : ND X p) (nG : G ≠ p) (nR : R ≠ p) : HouseU X' h U G R kvs := ⟨f.tup1 hp a.u, f.dk1 nG a.g, f.dk1 nR a.r, a.k.imp fun _ _ q => q.keep (f.kp1 hp)⟩
theorem rows_fr0 {bk : Old} {okv : List (Key × V)} (a : KvR (RowR X) bk okv) (f : FrS Tb [] X X') : KvR (RowR X') bk okv := a.imp fun _ _ q => q.st f.kp fun _ _ e => f.lst e
theorem rows_fr1 {p : Addr} {bk : Old} {okv : List (Key × V)} (a : KvR (RowR X) bk okv) (f : FrS Tb [p] X X') (hp : ND X p) : KvR (RowR X') bk okv := a.imp fun _ _ q => q.st (f.kp1 hp) fun _ _ e => f.lst1 hp e
theorem HouseU.at (a : HouseU X h U G R kvs) : HouseAt X h (.ref U) := ⟨U, G, R, kvs, rfl, a.u, a.g, .inl a.r, a.k⟩
end
def spCaseB (K : PySem.W.Frag) (Tb : List NTab) : Sp := fun vs H Q _ => ∃ (a : Addr) (ns : List Int), vs = [.ref a] ∧ SqL K H a (ns.map V.int) ∧ ns.length ≤ 63 ∧
  ∀ (L U D W G R : Addr) (h : House) (m : Nat) (bk : Old) (ws : List (List Nat)) (kvs okv : List (Key × V)) (H' : Hp), FrS Tb [] H H' → H' L = some (.lst [.ref U, .ref D, .ref W]) → HouseU H' h U G R kvs → HouseK h m → 1 ≤ m → H' D = some (.dK okv) → KvR (RowR H') bk okv → OldK bk m → H' W = some (.lst (txs ws)) → ws.length ≤ 4 → (∀ u ∈ ws, u ∈ nmsH h) → Q (.ref L) H'
section
variable {P : Program} {w : World} {K : PySem.W.Frag} {mg : Str → Option Value} {base : Heap} {Tb : List NTab}
abbrev s__law_case : Stmt := topS 19
abbrev N__law_case : List Str := ["script", "pool", "many", "house", "old", "older", "records", "others", "name"]
theorem sc__law_case : FnScope N__law_case ["script"] (defScope s__law_case) := ⟨rfl, rfl, rfl, by decide +kernel, rfl, by decide +kernel, by decide +kernel⟩

theorem ok__law_caseB {n : Nat} (hn17 : 17 ≤ n) (T : Txt K mg) (D : IsDef K mg "_law_case" s__law_case ["script"]) (C_pool : Cal P w K mg base CX0 2 "_law_pool" ["script", "k"] (spPool K)) (C_tk : Cal P w K mg base CX0 1 "_law_take" ["pool", "many"] spTakeP)
    (C_h : Cal P w K mg base CX0 7 "_law_house" ["script", "start", "many"] (spHouseB K)) (C_o : Cal P w K mg base CX0 7 "_law_other" ["house", "script", "start", "most"] (spOtherB K)) (C_w : Cal P w K mg base CX0 2 "_law_wishes" ["house", "pool"] spWishB)
    (C_f : Cal P w K mg base CX0 (lvR 5 n + 1) "_law_fresh" ["house", "wishes"] (spFreshB K Tb n)) :
    Cal P w K mg base CX0 (lvR 5 n + 2) "_law_case" ["script"] (spCaseB K Tb) := by
  have l7 : 7 ≤ lvR 5 n + 1 := by unfold lvR; omega
  have C__law_pool := C_pool.mono (show 2 ≤ lvR 5 n + 1 by omega)
  have C__law_take := C_tk.mono (show 1 ≤ lvR 5 n + 1 by omega)
  have C__law_house := C_h.mono l7
  have C__law_other := C_o.mono l7
  have C__law_wishes := C_w.mono (show 2 ≤ lvR 5 n + 1 by omega)
  have C__law_fresh := C_f
  refine D.cal (k := lvR 5 n + 1) sc__law_case (fun vs H Q E h => ?_) (fun f cdv A outer s H vs Q E hr h => ?_)
  · obtain ⟨_, _, rfl, _⟩ := h
    rfl
  obtain ⟨a, ns, rfl, hS, h63, q⟩ := h
  have hu : (cxOf CX0 P w K mg base N__law_case "_law_case" (defScope s__law_case) f cdv A outer s H E).A.units + 1 < cLine := Nat.lt_of_le_of_lt (Nat.add_le_add_left (by decide : 1 ≤ 64) _) hr.units
  refine ⟨_, (pss_cons (ps_set (i := 1) sc__law_case.nd rfl (Or.inl rfl) (pe_cal C__law_pool (hr.mono (by first | decide | omega)) pass0 (pa_cons (pv 0) (pa_cons pe_int pa_nil))))
      (pss_cons (ps_set (i := 2) sc__law_case.nd rfl (Or.inl rfl) (pe_op op_add pe_int (pe_cal C__law_take (hr.mono (by first | decide | omega)) pass0 (pa_cons (pv 1) (pa_cons pe_int pa_nil)))))
      (pss_cons (ps_set (i := 3) sc__law_case.nd rfl (Or.inl rfl) (pe_cal C__law_house (hr.mono (by first | decide | omega)) pass0 (pa_cons (pv 0) (pa_cons pe_int (pa_cons (pv 2) pa_nil)))))
      (pss_cons (ps_set (i := 4) sc__law_case.nd rfl (Or.inl rfl) (pe_cal C__law_other (hr.mono (by first | decide | omega)) pass0 (pa_cons (pv 3) (pa_cons (pv 0) (pa_cons pe_int (pa_cons (pe_ix (r := rIxL K) ix_list (pe_lstA (pa_cons pe_int (pa_cons pe_int (pa_cons pe_int (pa_cons pe_int pa_nil))))) (pe_cal C__law_take (hr.mono (by first | decide | omega)) pass0 (pa_cons (pv 1) (pa_cons pe_int pa_nil))) (fun _ _ => rfl)) pa_nil))))))
      (pss_cons (ps_set (i := 5) sc__law_case.nd rfl (Or.inl rfl) (pe_cal C__law_other (hr.mono (by first | decide | omega)) pass0 (pa_cons (pv 3) (pa_cons (pv 0) (pa_cons pe_int (pa_cons (pe_ix (r := rIxL K) ix_list (pe_lstA (pa_cons pe_int (pa_cons pe_int pa_nil))) (pe_cal C__law_take (hr.mono (by first | decide | omega)) pass0 (pa_cons (pv 1) (pa_cons pe_int pa_nil))) (fun _ _ => rfl)) pa_nil))))))
      (pss_cons (ps_set (i := 6) sc__law_case.nd rfl (Or.inl rfl) (pe_callTy call_dictDA (by rfl) T.b_dict (by decide +kernel) (pa_cons (pe_ix (r := rIxL K) ix_list (pe_cal C__law_fresh (hr.mono (by first | decide | omega)) pass0 (pa_cons (pv 4) (pa_cons (pe_cal C__law_wishes (hr.mono (by first | decide | omega)) pass0 (pa_cons (pv 4) (pa_cons (pe_cal C__law_pool (hr.mono (by first | decide | omega)) pass0 (pa_cons (pv 0) (pa_cons pe_int pa_nil))) pa_nil))) pa_nil))) pe_int (fun _ _ => rfl)) pa_nil)))
      (pss_cons (ps_set (i := 7) sc__law_case.nd rfl (Or.inl rfl) (pe_ix (r := rIxL K) ix_list (pe_cal C__law_fresh (hr.mono (by first | decide | omega)) pass0 (pa_cons (pv 5) (pa_cons (pe_cal C__law_wishes (hr.mono (by first | decide | omega)) pass0 (pa_cons (pv 5) (pa_cons (pe_cal C__law_pool (hr.mono (by first | decide | omega)) pass0 (pa_cons (pv 0) (pa_cons pe_int pa_nil))) pa_nil))) pa_nil))) pe_int (fun _ _ => rfl)))
      (pss_cons (ps_lock (ps_for PassesOwn.never rfl (pi_keys (pv 7)) (pg_name (i := 8) sc__law_case.nd rfl (Or.inl rfl))
        (pss_one (ps_if (pt_cmpR op_eq (pe_cal C__law_take (hr.mono (by first | decide | omega)) pass0 (pa_cons (pv 1) (pa_cons pe_int pa_nil))) pe_int (nomark _))
        (pss_one (ps_dput hu (pv 6) (pv 8) (pe_dget hu (pv 7) (pv 8) (fun _ _ => rfl)) rfl))
        pss_nil))))
      (pss_one (ps_ret (pe_lstA (pa_cons (pv 3) (pa_cons (pv 6) (pa_cons (pe_cal C__law_wishes (hr.mono (by first | decide | omega)) pass0 (pa_cons (pv 3) (pa_cons (pe_cal C__law_pool (hr.mono (by first | decide | omega)) pass0 (pa_cons (pv 0) (pa_cons pe_int pa_nil))) pa_nil))) pa_nil)))))))))))))), ?_⟩
  refine ⟨_, rfl, a, ns, 60, rfl, hS, h63, by decide, by decide, fun p r0 mm c0 np c00 c01 => ?_⟩
  have f0 : FrS Tb [] H (upd H p (.dK (pool r0 mm c0))) := FrS.of (same_new np _)
  have hp0 : upd H p (.dK (pool r0 mm c0)) p = some (.dK (pool r0 mm c0)) := upd_same
  generalize upd H p (.dK (pool r0 mm c0)) = H0 at f0 hp0 ⊢
  refine in_name rfl (in_nx (in_seq (in_asg ?_)))
  refine ⟨_, rfl, p, r0, mm, c0, 15, rfl, hp0, by decide, by decide, c00, by omega, fun H1 v1 r1 c1 g1 hp1 c10 c11 v10 v11 => ?_⟩
  have f1 : FrS Tb [] H H1 := f0.pf np hp0 (PF.take g1) hp1
  refine ⟨_, _, rfl, rfl, ?_⟩
  refine in_name rfl (in_nx (in_seq (in_asg ?_)))
  have em : (((2 + v1).toNat : Nat) : Int) = 2 + v1 := by omega
  refine ⟨_, rfl, _, rfl, a, ns, 1, (2 + v1).toNat, by rw [em]; rfl, f1.seq (fun z => nomatch z) hS, h63, by decide, by decide, by omega, by omega, fun U G R hh kvs H2 s2 nU nG nR eU eG eR hK HK h0 g6 => ?_⟩
  generalize hm : (2 + v1).toNat = m at HK
  have m1 : 1 ≤ m := by omega
  have f2 : FrS Tb [] H H2 := f1.trans (FrS.of s2)
  have hp2 := s2 _ _ hp1
  have hU2 : HouseU H2 hh U G R kvs := ⟨eU, eG, eR, hK⟩
  have gb : GB (2 ^ 60) hh.given := fun p hp => Nat.le_trans (g6 p hp) (by decide)
  refine in_name rfl (in_nx (in_seq (in_asg ?_)))
  refine ⟨_, rfl, _, rfl, le_line (Nat.le_of_ble_eq_true rfl), fun LL H3 nLL s3' eLL => ?_⟩
  have s3 : Same H2 H3 := s3'
  refine ⟨_, rfl, p, r1, mm, c1, 4, rfl, s3 _ _ hp2, by decide, by decide, c10, by omega, fun H4 v4 r4 c4 g4 hp4 c40 c41 v40 v41 => ?_⟩
  have nLp : LL ≠ p := fun z => by rw [z, hp2] at nLL; cases nLL
  have eLL4 := PF.take g4 LL _ nLp eLL
  obtain ⟨mo, mo1, mo2, hat⟩ : ∃ mo : Int, 1 ≤ mo ∧ mo ≤ 1000 ∧ atI ([.int 3, .int 6, .int 20, .int 60] : List V) v4 = some (.int mo) := by
    have h3 : v4 = 0 ∨ v4 = 1 ∨ v4 = 2 ∨ v4 = 3 := by omega
    rcases h3 with rfl | rfl | rfl | rfl
    · exact ⟨3, by decide, by decide, rfl⟩
    · exact ⟨6, by decide, by decide, rfl⟩
    · exact ⟨20, by decide, by decide, rfl⟩
    · exact ⟨60, by decide, by decide, rfl⟩
  have f24 : FrS Tb [p] H2 H4 := (FrS.of s3).trans (FrS.of_pf (s3 _ _ hp2) (PF.take g4) hp4)
  have f4 : FrS Tb [] H H4 := (f2.trans (FrS.of s3)).pf np (s3 _ _ hp2) (PF.take g4) hp4
  have nGp : G ≠ p := fun z => by rw [z, hp1] at nG; cases nG
  have nRp : R ≠ p := fun z => by rw [z, hp1] at nR; cases nR
  have hU4 := hU2.fr1 f24 (.dk hp2) nGp nRp
  refine ⟨LL, _, v4, .int mo, rfl, rfl, SqL.of eLL4, hat, U, a, ns, 20, mo, G, R, hh, kvs, m, rfl, f4.seq (fun z => nomatch z) hS, h63, by decide, by decide, mo1, mo2, hU4.u, hU4.g, hU4.r, hU4.k, HK, h0, gb, fun U2 G2 R2 h2 kvs2 H5 s5 nU2 nG2 nR2 eU2 eG2 eR2 hK2 HK2 h02 => ?_⟩
  have f5 := f4.trans (FrS.of s5)
  have hp5 := s5 _ _ hp4
  have hU5 := hU4.fr (FrS.of (Tb := Tb) s5)
  have hV5 : HouseU H5 h2 U2 G2 R2 kvs2 := ⟨eU2, eG2, eR2, hK2⟩
  refine in_name rfl (in_nx (in_seq (in_asg ?_)))
  refine ⟨_, rfl, _, rfl, le_line (Nat.le_of_ble_eq_true rfl), fun LM H6 nLM s6' eLM => ?_⟩
  have s6 : Same H5 H6 := s6'
  refine ⟨_, rfl, p, r4, mm, c4, 2, rfl, s6 _ _ hp5, by decide, by decide, c40, by omega, fun H7 v7 r7 c7 g7 hp7 c70 c71 v70 v71 => ?_⟩
  have nLMp : LM ≠ p := fun z => by rw [z, hp5] at nLM; cases nLM
  have eLM7 := PF.take g7 LM _ nLMp eLM
  obtain ⟨me, me1, me2, hat2⟩ : ∃ mo : Int, 1 ≤ mo ∧ mo ≤ 1000 ∧ atI ([.int 4, .int 12] : List V) v7 = some (.int mo) := by
    have h3 : v7 = 0 ∨ v7 = 1 := by omega
    rcases h3 with rfl | rfl
    · exact ⟨4, by decide, by decide, rfl⟩
    · exact ⟨12, by decide, by decide, rfl⟩
  have f57 : FrS Tb [p] H5 H7 := (FrS.of s6).trans (FrS.of_pf (s6 _ _ hp5) (PF.take g7) hp7)
  have f7 : FrS Tb [] H H7 := (f5.trans (FrS.of s6)).pf np (s6 _ _ hp5) (PF.take g7) hp7
  have nG2p : G2 ≠ p := fun z => by rw [z, hp4] at nG2; cases nG2
  have nR2p : R2 ≠ p := fun z => by rw [z, hp4] at nR2; cases nR2
  have hU7 := hU5.fr1 f57 (.dk hp5) nGp nRp
  have hV7 := hV5.fr1 f57 (.dk hp5) nG2p nR2p
  refine ⟨LM, _, v7, .int me, rfl, rfl, SqL.of eLM7, hat2, U, a, ns, 32, me, G, R, hh, kvs, m, rfl, f7.seq (fun z => nomatch z) hS, h63, by decide, by decide, me1, me2, hU7.u, hU7.g, hU7.r, hU7.k, HK, h0, gb, fun U3 G3 R3 h3 kvs3 H8 s8 nU3 nG3 nR3 eU3 eG3 eR3 hK3 HK3 h03 => ?_⟩
  have f8 := f7.trans (FrS.of s8)
  have hp8 := s8 _ _ hp7
  have hU8 := hU7.fr (FrS.of (Tb := Tb) s8)
  have hV8 := hV7.fr (FrS.of (Tb := Tb) s8)
  have hW8 : HouseU H8 h3 U3 G3 R3 kvs3 := ⟨eU3, eG3, eR3, hK3⟩
  refine in_name rfl (in_nx (in_seq (in_asg ?_)))
  refine ⟨_, rfl, _, rfl, _, rfl, a, ns, 44, rfl, f8.seq (fun z => nomatch z) hS, h63, by decide, by decide, fun p8 q8 m8 k8 np8 k80 k81 => ?_⟩
  have sp8 := same_new np8 (.dK (pool q8 m8 k8))
  have ep8 : upd H8 p8 (.dK (pool q8 m8 k8)) p8 = some (.dK (pool q8 m8 k8)) := upd_same
  generalize upd H8 p8 (.dK (pool q8 m8 k8)) = Xa8 at sp8 ep8 ⊢
  refine ⟨_, _, p8, q8, m8, k8, m, rfl, (hV8.fr (FrS.of (Tb := Tb) sp8)).at, HK2, m1, ep8, k80, by omega, fun W2 ws2 Xb8 pf8 ⟨_, ef8⟩ nW8 eW8 wl8 wm8 => ?_⟩
  have fa8 : FrS Tb [] H8 Xb8 := (FrS.of sp8).pf np8 ep8 pf8 ef8
  obtain ⟨s2', DD2⟩ := HK2.done (n := n) (by omega) wm8
  refine ⟨_, _, W2, ws2, s2', rfl, HK2.x, (hV8.fr fa8).at, by have := HK2.count; omega, SqL.of eW8, fun t ht => HK2.nm (wm8 t ht), DD2, fun S2 Wd2 Rc2 okv2 H9 fx8 nS2 nWd2 nRc2 _ eS2 eWd2 eRc2 rows2 => ?_⟩
  refine ⟨S2, _, 1, _, rfl, rfl, SqL.of eS2, atI_at (by decide) rfl, Rc2, okv2, rfl, .inl eRc2, fun D H10 nD s10' eD => ?_⟩
  have s10 : Same H9 H10 := s10'
  have f810 : FrS Tb [] H8 H10 := (fa8.trans fx8).trans (FrS.of s10)
  have f10 := f8.trans f810
  have hp10 := f810.dk hp8
  have hU10 := hU8.fr f810
  have hW10 := hW8.fr f810
  have rows10 := rows_fr0 rows2 (FrS.of (Tb := Tb) s10)
  have OK2 := HK2.rows DD2.rest
  refine in_name rfl (in_nx (in_seq (in_asg ?_)))
  refine ⟨_, rfl, _, rfl, _, rfl, a, ns, 45, rfl, f10.seq (fun z => nomatch z) hS, h63, by decide, by decide, fun p9 q9 m9 k9 np9 k90 k91 => ?_⟩
  have sp9 := same_new np9 (.dK (pool q9 m9 k9))
  have ep9 : upd H10 p9 (.dK (pool q9 m9 k9)) p9 = some (.dK (pool q9 m9 k9)) := upd_same
  generalize upd H10 p9 (.dK (pool q9 m9 k9)) = Xa9 at sp9 ep9 ⊢
  refine ⟨_, _, p9, q9, m9, k9, m, rfl, (hW10.fr (FrS.of (Tb := Tb) sp9)).at, HK3, m1, ep9, k90, by omega, fun W3 ws3 Xb9 pf9 ⟨_, ef9⟩ nW9 eW9 wl9 wm9 => ?_⟩
  have fa9 : FrS Tb [] H10 Xb9 := (FrS.of sp9).pf np9 ep9 pf9 ef9
  obtain ⟨s3', DD3⟩ := HK3.done (n := n) (by omega) wm9
  refine ⟨_, _, W3, ws3, s3', rfl, HK3.x, (hW10.fr fa9).at, by have := HK3.count; omega, SqL.of eW9, fun t ht => HK3.nm (wm9 t ht), DD3, fun S3 Wd3 Rc3 okv3 H11 fb9 nS3 nWd3 nRc3 _ eS3 eWd3 eRc3 rows3 => ?_⟩
  refine ⟨S3, _, 1, _, rfl, rfl, SqL.of eS3, atI_at (by decide) rfl, ?_⟩
  have f1011 : FrS Tb [] H10 H11 := fa9.trans fb9
  have f11 := f10.trans f1011
  have hp11 := f1011.dk hp10
  have hU11 := hU10.fr f1011
  have rowsD := rows_fr0 rows10 f1011
  have eD11 := f1011.dk eD
  have OK3 := HK3.rows DD3.rest
  refine in_name rfl (in_nx (in_seq ?_))
  -- the records of both put together
  have nRc3 : H10 Rc3 = none := fa9.2.1 _ nRc3
  have nRc3H : H Rc3 = none := f10.2.1 _ nRc3
  have nGR : G ≠ Rc3 := fun z => by rw [← z, hU10.g] at nRc3; cases nRc3
  have nRR : R ≠ Rc3 := fun z => by rw [← z, hU10.r] at nRc3; cases nRc3
  have nGD : G ≠ D := fun z => by rw [← z, (hU8.fr (fa8.trans fx8)).g] at nD; cases nD
  have nRD : R ≠ D := fun z => by rw [← z, (hU8.fr (fa8.trans fx8)).r] at nD; cases nD
  have nDR : D ≠ Rc3 := fun z => by rw [← z, eD] at nRc3; cases nRc3
  have nDp : D ≠ p := fun z => by rw [z, (fa8.trans fx8).dk hp8] at nD; cases nD
  have npR : p ≠ Rc3 := fun z => by rw [← z, hp10] at nRc3; cases nRc3
  have nDH : H D = none := (f8.trans (fa8.trans fx8)).2.1 _ nD
  refine ⟨Rc3, _, eRc3, trivial, fun od => ?_⟩
  have eF : upd H11 Rc3 (.frz od (.dK okv3)) Rc3 = some (.frz od (.dK okv3)) := upd_same
  have fF : FrS Tb [Rc3] H11 (upd H11 Rc3 (.frz od (.dK okv3))) := FrS.upd List.mem_cons_self (.inl ⟨_, eRc3⟩)
  generalize upd H11 Rc3 (.frz od (.dK okv3)) = H12 at eF fF ⊢
  have ndK3 : ((rowsH h3 s3').map (·.1)).Nodup := OK3.t.nd
  refine ⟨_, rfl, Rc3, od, rfl, .inl ⟨_, eF, for_it walk_keys (fun j σ Y => ∃ (w8 : Option V) (bk : Old) (bkv : List (Key × V)) (rj cj : Int), σ = [some (.ref a), some (.ref p), some (.int (2 + v1)), some (.ref U), some (.ref U2), some (.ref U3), some (.ref D), some (.ref Rc3), w8] ∧ FrS Tb [] H Y ∧ Y Rc3 = some (.frz od (.dK okv3)) ∧ HouseU Y hh U G R kvs ∧ KvR (RowR Y) (rowsH h3 s3') okv3 ∧ Y D = some (.dK bkv) ∧ KvR (RowR Y) bk bkv ∧ OldK bk m ∧ Y p = some (.dK (pool rj mm cj)) ∧ 0 ≤ cj ∧ cj ≤ c7 + j)
    ⟨none, _, okv2, r7, c7, rfl, f11.new1 fF nRc3H, eF, hU11.fr1 fF (.dk eRc3) nGR nRR, rows_fr1 rows3 fF (.dk eRc3), fF.dk1 nDR eD11, rows_fr1 rowsD fF (.dk eRc3), OK2, fF.dk1 npR hp11, c70, by omega⟩ (fun j σ Y _ ⟨_, _, _, _, _, _, _, e, _⟩ => e) ?_ ?_⟩⟩
  · rintro j x σ Y0 Y hj ⟨w8, bk, bkv, rj, cj, rfl, fY, erY, hUY, r3Y, eDY, rDY, OY, epY, cj0, cj1⟩ ⟨rfl, k, kv, hk5, rfl⟩
    obtain ⟨pr, hpr, rfl, hrow⟩ := r3Y.at hk5
    refine in_name rfl ?_
    refine ⟨_, rfl, p, rj, mm, cj, 3, rfl, epY, by decide, by decide, cj0, ?_, fun Y1 v8 r8 c8 g8 hp8' c80 c81 v80 v81 => ?_⟩
    · have := (List.getElem?_eq_some_iff.mp hk5).1
      have l1 : okv3.length = (rowsH h3 s3').length := rows3.len
      have l2 := OK3.len
      have := HK3.m16
      omega
    have g1 : FrS Tb [p] Y Y1 := FrS.of_pf epY (PF.take g8) hp8'
    have fY1 : FrS Tb [] H Y1 := fY.new1 g1 np
    have erY1 : Y1 Rc3 = some (.frz od (.dK okv3)) := g1.ne1 (Ne.symm npR) (fun _ z => nomatch z) erY
    have hUY1 := hUY.fr1 g1 (.dk epY) nGp nRp
    have r3Y1 := rows_fr1 r3Y g1 (.dk epY)
    have eDY1 := g1.dk1 nDp eDY
    have rDY1 := rows_fr1 rDY g1 (.dk epY)
    refine ⟨rfl, _, rfl, ?_⟩
    by_cases hw : v8 = 0
    · refine if_true_eq (decide_eq_true (congrArg V.int hw)) ?_
      have dG : DGet Y1 Rc3 (.str (SX.S pr.1)) (some kv) := .inl ⟨_, kT (SX.S pr.1), .inr ⟨od, erY1⟩, rfl, (kvR_own r3Y1 ndK3 _ (List.mem_of_getElem? hk5)).symm⟩
      have bl : bkv.length ≤ 16 := by rw [rDY.len]; have := OY.len; have := HK.m16; omega
      refine ⟨_, rfl, _, rfl, Rc3, _, rfl, dG, _, rfl, _, rfl, D, _, rfl, DPut.k (k := kT (SX.S pr.1)) eDY1 (lt_line (by omega)), ?_⟩
      have fD : FrS Tb [D] Y1 (upd Y1 D (.dK (putK bkv (kT (SX.S pr.1)) kv))) := FrS.upd List.mem_cons_self (.inl ⟨_, eDY1⟩)
      have hrow1 : RowR Y1 pr.2 kv := hrow.st (g1.kp1 (.dk epY)) fun _ _ e => g1.lst1 (.dk epY) e
      exact ⟨_, putA bk pr.1 pr.2, _, r8, c8, rfl, fY1.new1 fD nDH, by rw [upd_ne (Ne.symm nDR)]; exact erY1, hUY1.fr1 fD (.dk eDY1) nGD nRD, rows_fr1 r3Y1 fD (.dk eDY1), upd_same, rows_fr1 (KvR.put (a := pr.2) hrow1 rDY1) fD (.dk eDY1), OY.put OK3 (List.mem_of_getElem? hpr), by rw [upd_ne (Ne.symm nDp)]; exact hp8', c80, by omega⟩
    · refine if_false_eq (decide_eq_false fun z => hw (V.int.inj z)) ?_
      exact ⟨_, bk, bkv, r8, c8, rfl, fY1, erY1, hUY1, r3Y1, eDY1, rDY1, OY, hp8', c80, by omega⟩
  · rintro σ Y ⟨w8, bk, bkv, rj, cj, rfl, fY, erY, hUY, r3Y, eDY, rDY, OY, epY, cj0, cj1⟩
    refine ⟨erY, ?_⟩
    have fU : FrS Tb [Rc3] Y (upd Y Rc3 (.dK okv3)) := FrS.unl erY
    have fY2 := fY.new1 fU nRc3H
    have hU2' := hUY.fr1 fU (.fz erY) nGR nRR
    have eD2 := fU.dk1 nDR eDY
    have rD2 := rows_fr1 rDY fU (.fz erY)
    generalize upd Y Rc3 (.dK okv3) = Y2 at fU fY2 hU2' eD2 rD2 ⊢
    refine ⟨_, rfl, _, rfl, ?_⟩
    refine ⟨_, rfl, _, rfl, a, ns, 46, rfl, fY2.seq (fun z => nomatch z) hS, h63, by decide, by decide, fun p4 q4 m4 k4 np4 k40 k41 => ?_⟩
    have sp4 := same_new np4 (.dK (pool q4 m4 k4))
    have ep4 : upd Y2 p4 (.dK (pool q4 m4 k4)) p4 = some (.dK (pool q4 m4 k4)) := upd_same
    generalize upd Y2 p4 (.dK (pool q4 m4 k4)) = Y3 at sp4 ep4 ⊢
    refine ⟨hh, .ref U, p4, q4, m4, k4, m, rfl, (hU2'.fr (FrS.of (Tb := Tb) sp4)).at, HK, m1, ep4, k40, by omega, fun W ws Y4 pf4 ⟨_, ef4⟩ nW eW wl wm => ?_⟩
    have f24 : FrS Tb [] Y2 Y4 := (FrS.of sp4).pf np4 ep4 pf4 ef4
    refine ⟨le_line (Nat.le_of_ble_eq_true rfl), fun L Y5 nL y5' eL => ?_⟩
    have y5 : Same Y4 Y5 := y5'
    have f25 := f24.trans (FrS.of y5)
    exact q L U D W G R hh m bk ws kvs bkv Y5 (fY2.trans f25) eL (hU2'.fr f25) HK m1 (f25.dk eD2) (rows_fr0 rD2 f25) OY (y5 _ _ eW) wl wm
end
/-! ### what was handed in is as it was -/
open LamX NdefX
theorem rec_refB {H : Hp} : ∀ {r : Rcp} {v : V}, Rec H r v → ∃ a, v = V.ref a
  | .num _, _, ⟨p, e, _⟩ => ⟨p, e⟩
  | .read _, _, ⟨p, e, _⟩ => ⟨p, e⟩
  | .two _ _ _, _, ⟨p, _, _, e, _⟩ => ⟨p, e⟩
  | .pick _ _ _, _, ⟨p, _, _, _, e, _⟩ => ⟨p, e⟩
  | .choose _ _, _, ⟨p, _, _, e, _⟩ => ⟨p, e⟩
section
variable {K : PySem.W.Frag} {X X' : Hp} {h : House} {m : Nat} {U G R U2 G2 R2 D D2 W W2 : Addr} {kvs okv : List (Key × V)} {bk : Old} {ws : List (List Nat)}
theorem house_eq (HK : HouseK h m) (a : HouseU X h U G R kvs) (e1 : X U2 = some (.tup [.ref G2, .ref R2])) (e2 : X G2 = some (.dK (numsK h.given))) (e3 : X R2 = some (.dK kvs)) : L2.EqG K X 80 (.ref U2) (.ref U) := by
  obtain ⟨ndg, ndr, _⟩ := List.nodup_append.mp HK.nd
  obtain ⟨g1, g2⟩ := nums_same (K := K) (H := X) (n := 77) ndg
  exact .inr (.inr (.inr (.inr (.inl ⟨U2, U, _, _, rfl, rfl, SqT.of e1, SqT.of a.u, .cons (.inr (.inr (.inr (.inr (.inr ⟨G2, G, _, _, rfl, rfl, e2, a.g, g1, g2⟩))))) (.cons (.inr (.inr (.inr (.inr (.inr ⟨R2, R, kvs, kvs, rfl, rfl, e3, a.r, rfl, fun p hp => ⟨p.2, kvR_own a.k ndr p hp, EqG.any (.inr (by
    obtain ⟨r, hr⟩ := a.k.mem p hp
    exact rec_refB hr))⟩⟩))))) .nil)⟩))))
theorem recs_eq (nd : (bk.map (·.1)).Nodup) (a : KvR (RowR X') bk okv) (e1 : X D2 = some (.dK okv)) (e2 : X D = some (.dK okv)) : L2.EqG K X 80 (.ref D2) (.ref D) :=
  .inr (.inr (.inr (.inr (.inr ⟨D2, D, okv, okv, rfl, rfl, e1, e2, rfl, fun p hp => ⟨p.2, kvR_own a nd p hp, EqG.any (.inr (by
    obtain ⟨_, T0, _, _, _, e, _⟩ := a.mem p hp
    exact ⟨T0, e⟩))⟩⟩))))
theorem list_eq (e1 : X W2 = some (.lst (txs ws))) (e2 : X W = some (.lst (txs ws))) : L2.EqG K X 80 (.ref W2) (.ref W) := .inr (.inr (.inr (.inl ⟨W2, W, _, _, rfl, rfl, SqL.of e1, SqL.of e2, paired_txs _⟩)))
end
/-! ### papers: plain -/
open LamX NdefX
def w_given : List Nat := [103, 105, 118, 101, 110]
def w_new : List Nat := [110, 101, 119]
def w_rcp : List Nat := [114, 101, 99, 105, 112, 101]
def w_alike : List Nat := [97, 108, 105, 107, 101]
theorem q_given : ("given" : Str) = SX.S w_given := by decide +kernel
theorem q_new : ("new" : Str) = SX.S w_new := by decide +kernel
theorem q_rcp : ("recipe" : Str) = SX.S w_rcp := by decide +kernel
theorem q_alike : ("alike" : Str) = SX.S w_alike := by decide +kernel
inductive Paper where
  | given
  | new
  | rcp (a b : Rcp)
  | read (k : Nat) (u v : Int)
  | alike
def Paper.word : Paper → List Nat
  | .given => w_given
  | .new => w_new
  | .rcp _ _ => w_rcp
  | .read _ _ _ => w_read
  | .alike => w_alike
def Paper.th : Paper → Th
  | .given => .tup [.str w_given]
  | .new => .tup [.str w_new]
  | .rcp a b => .tup [.str w_rcp, a.th, b.th]
  | .read k u v => .tup [.str w_read, .int (k : Int), .int u, .int v]
  | .alike => .tup [.str w_alike]
theorem Paper.flat (p : Paper) : p.th.flat = true := by
  cases p with
  | rcp a b =>
    show (true && (a.th.flat && (b.th.flat && true))) = true
    rw [Rcp.flat, Rcp.flat]
    rfl
  | _ => rfl
def Paper.Ok : Paper → Prop
  | .rcp a b => (a.Wn ∧ a.dep ≤ 10) ∧ b.Wn ∧ b.dep ≤ 10
  | _ => True
theorem Paper.shaped {p : Paper} (h : p.Ok) : SeqAt.shaped p.th.py = true := by
  cases p with
  | rcp a b =>
    obtain ⟨⟨a1, a2⟩, b1, b2⟩ := h
    obtain ⟨x1, x2⟩ := Rcp.laysW a1
    obtain ⟨y1, y2⟩ := Rcp.laysW b1
    show (((PyData.str (SX.S w_rcp)).canLay0 && (a.th.py.canLay0 && (b.th.py.canLay0 && true))) && decide (max 0 (max a.th.py.depth (max b.th.py.depth 0)) + 1 ≤ 64)) = true
    rw [x1, y1, str_lay (s := w_rcp) (by decide), decide_eq_true (by omega)]
    rfl
  | read k u v =>
    show (((PyData.str (SX.S w_read)).canLay0 && true) && decide (1 ≤ 64)) = true
    rw [str_lay (s := w_read) (by decide)]
    rfl
  | given =>
    show (((PyData.str (SX.S w_given)).canLay0 && true) && decide (1 ≤ 64)) = true
    rw [str_lay (s := w_given) (by decide)]
    rfl
  | new =>
    show (((PyData.str (SX.S w_new)).canLay0 && true) && decide (1 ≤ 64)) = true
    rw [str_lay (s := w_new) (by decide)]
    rfl
  | alike =>
    show (((PyData.str (SX.S w_alike)).canLay0 && true) && decide (1 ≤ 64)) = true
    rw [str_lay (s := w_alike) (by decide)]
    rfl
theorem Paper.refl {p : Paper} (h : p.Ok) : PyData.eqv p.th.py p.th.py = true := SeqAt.eqv_refl _ (SeqAt.canLay_of_shaped (Paper.shaped h))
/-- the first read that has another worth now -/
def firstU (kn : List Pr) : Nat → List Pr → Option Paper
  | _, [] => none
  | i, p :: ps => match seen kn p.1 with
    | none => none
    | some x => if x = p.2 then firstU kn (i + 1) ps else some (.read i p.2 x)
def paperR (h : House) (old : Old) (kn : List Pr) (t : List Nat) : Paper := match seen h.given t with
  | some _ => .given
  | none => match getA old t with
    | none => .new
    | some o => match rcpOf h.recs t with
      | none => .new
      | some r => if sameR o.2.1 r = true then (firstU kn 0 o.1).getD .alike else .rcp o.2.1 r
/-- each read is known as far as all ahead are alike -/
def Readable (kn : List Pr) (rd : List Pr) : Prop := ∀ (i : Nat) (p : Pr), rd[i]? = some p → (∀ (j : Nat) (q : Pr), j < i → rd[j]? = some q → seen kn q.1 = some q.2) → ∃ x, seen kn p.1 = some x
/-- what the papers of a name go by -/
structure PapOk (h : House) (old : Old) (kn : List Pr) (t : List Nat) : Prop where
  rd : ∀ o r, seen h.given t = none → getA old t = some o → rcpOf h.recs t = some r → sameR o.2.1 r = true → Readable kn o.1
  wo : ∀ o, getA old t = some o → o.2.1.Wn ∧ o.2.1.dep ≤ 10
  wr : ∀ r, rcpOf h.recs t = some r → r.Wn ∧ r.dep ≤ 10
  has : seen h.given t = none → ∃ r, rcpOf h.recs t = some r
theorem firstU_ok {kn : List Pr} : ∀ {i : Nat} {ps : List Pr} {p : Paper}, firstU kn i ps = some p → ∃ k u v, p = .read k u v ∧ i ≤ k ∧ ∃ q, ps[k - i]? = some q ∧ q.2 = u ∧ seen kn q.1 = some v ∧ v ≠ u
  | _, [], _, h => by cases h
  | i, q :: ps, p, h => by
    unfold firstU at h
    cases e : seen kn q.1 with
    | none => rw [e] at h; cases h
    | some x =>
      rw [e] at h
      by_cases c : x = q.2
      · simp only [if_pos c] at h
        obtain ⟨k, u, v, e1, e2, q', e3, e4⟩ := firstU_ok h
        refine ⟨k, u, v, e1, by omega, q', ?_, e4⟩
        rw [show k - i = (k - (i + 1)) + 1 by omega, List.getElem?_cons_succ]
        exact e3
      · simp only [if_neg c] at h
        cases h
        exact ⟨i, _, _, rfl, Nat.le_refl _, q, by rw [Nat.sub_self]; rfl, rfl, e, c⟩
theorem paperR_ok {h : House} {old : Old} {kn : List Pr} {t : List Nat} (o : PapOk h old kn t) : (paperR h old kn t).Ok := by
  unfold paperR
  cases e1 : seen h.given t with
  | some x => exact trivial
  | none =>
    cases e2 : getA old t with
    | none => exact trivial
    | some oo =>
      cases e3 : rcpOf h.recs t with
      | none => exact trivial
      | some r =>
        show (if sameR oo.2.1 r = true then _ else _ : Paper).Ok
        by_cases c : sameR oo.2.1 r = true
        · rw [if_pos c]
          cases e4 : firstU kn 0 oo.1 with
          | none => exact trivial
          | some p =>
            obtain ⟨k, u, v, rfl, _⟩ := firstU_ok e4
            exact trivial
        · rw [if_neg c]
          exact ⟨o.wo _ e2, o.wr _ e3⟩
/-! #### the reads of a record are gone to as far as they are alike -/
theorem wk_err_in {f g : List Nat → Option Int} (hfg : ∀ u x, g u = some x → f u = some x) {t : List Nat} : ∀ {r : Rcp} {o o' : List Pr} {v : Int}, wk (dnL g) r o = .err (.noName t) → wk (dnL f) r o = .ok v o' → t ∈ o'.map (·.1) := by
  have look : ∀ {u : List Nat} {o o' : List Pr} {v : Int}, dnL g o u = .err (.noName t) → dnL f o u = .ok v o' → t ∈ o'.map (·.1) := fun {u o o' v} e1 e2 => by
    obtain ⟨_, e3⟩ := dnL_none e1
    obtain ⟨_, rfl⟩ := dnL_ok e2
    cases e3
    exact setd_keys.mpr (.inr rfl)
  intro r
  induction r with
  | num n => intro o o' v e _; cases e
  | read u => exact fun e1 e2 => look e1 e2
  | two k a b ia ib =>
    intro o o' v e1 e2
    obtain ⟨x, o1, h1, h2⟩ := OutR.bind_ok e2
    obtain ⟨y, o2, h3, h4⟩ := OutR.bind_ok h2
    cases h4
    cases g1 : wk (dnL g) a o with
    | err z =>
      have e1 : (wk (dnL g) a o).bind _ = .err (.noName t) := e1
      rw [g1] at e1
      cases e1
      exact (wk_agree h3).1 _ (ia g1 h1)
    | ok x' o1' =>
      have e1 : (wk (dnL g) a o).bind (fun x s1 => (wk (dnL g) b s1).bind fun y s2 => .ok (k.ap x y) s2) = .err (.noName t) := e1
      rw [g1] at e1
      have := wk_mono hfg g1
      rw [h1] at this
      obtain ⟨rfl, rfl⟩ := OutR.ok.inj this
      cases g2 : wk (dnL g) b o1 with
      | err z =>
        have e1 : (wk (dnL g) b o1).bind _ = .err (.noName t) := e1
        rw [g2] at e1
        cases e1
        exact ib g2 h3
      | ok y' o2' =>
        have e1 : (wk (dnL g) b o1).bind (fun y s2 => .ok (k.ap x y) s2) = .err (.noName t) := e1
        rw [g2] at e1
        cases e1
  | pick a b c ia ib ic =>
    intro o o' v e1 e2
    obtain ⟨x, o1, h1, h2⟩ := OutR.bind_ok e2
    cases g1 : wk (dnL g) a o with
    | err z =>
      have e1 : (wk (dnL g) a o).bind _ = .err (.noName t) := e1
      rw [g1] at e1
      cases e1
      have m := ia g1 h1
      by_cases z : x > 0
      · simp only [if_pos z] at h2
        exact (wk_agree h2).1 _ m
      · simp only [if_neg z] at h2
        exact (wk_agree h2).1 _ m
    | ok x' o1' =>
      have e1 : (wk (dnL g) a o).bind (fun x s1 => if x > 0 then wk (dnL g) b s1 else wk (dnL g) c s1) = .err (.noName t) := e1
      rw [g1] at e1
      have := wk_mono hfg g1
      rw [h1] at this
      obtain ⟨rfl, rfl⟩ := OutR.ok.inj this
      have e1 : (if x > 0 then wk (dnL g) b o1 else wk (dnL g) c o1) = .err (.noName t) := e1
      by_cases z : x > 0
      · simp only [if_pos z] at h2 e1
        exact ib e1 h2
      · simp only [if_neg z] at h2 e1
        exact ic e1 h2
  | choose a ns ia =>
    intro o o' v e1 e2
    obtain ⟨x, o1, h1, h2⟩ := OutR.bind_ok e2
    cases g1 : wk (dnL g) a o with
    | err z =>
      have e1 : (wk (dnL g) a o).bind _ = .err (.noName t) := e1
      rw [g1] at e1
      cases e1
      obtain ⟨_, rfl⟩ := dnL_ok h2
      exact setd_keys.mpr (.inl (ia g1 h1))
    | ok x' o1' =>
      have e1 : (wk (dnL g) a o).bind (fun x s1 => dnL g s1 (nthN ns x)) = .err (.noName t) := e1
      rw [g1] at e1
      have := wk_mono hfg g1
      rw [h1] at this
      obtain ⟨rfl, rfl⟩ := OutR.ok.inj this
      exact look e1 h2
/-- a record of the house's recipe: its reads are known as far as they are alike -/
theorem readable_of {dm : Nat} {h : House} {s : RkS} (R : Rest h bet0 s) {t : List Nat} {own : List Pr} (ht : (t, own) ∈ s.read) {r : Rcp} (er : rcpOf h.recs t = some r) {rd : List Pr} {w : Int} (T : TrueRec r rd w) : Readable s.known rd := fun i p hp hj => by
  have hr := R.coh.rd _ ht
  obtain ⟨_, r2, n, v, e2, run⟩ := hr
  obtain rfl : r2 = r := Option.some.inj (e2.symm.trans er)
  have hown := R.ord.kno _ ht
  have lack := T.lacks hp
  -- known as in the house, what is alike among it
  obtain ⟨N, hN⟩ : ∃ N, ∀ q ∈ rd.take i, val h N q.1 = some q.2 := by
    have : ∀ {l : List Pr}, (∀ q ∈ l, Val h q.1 q.2) → ∃ N, ∀ q ∈ l, val h N q.1 = some q.2 := by
      intro l
      induction l with
      | nil => exact fun _ => ⟨0, fun _ h => nomatch h⟩
      | cons a l ih =>
        intro hl
        obtain ⟨n1, e1⟩ := hl a List.mem_cons_self
        obtain ⟨n2, e2⟩ := ih fun q hq => hl q (List.mem_cons_of_mem _ hq)
        refine ⟨max n1 n2, fun q hq => ?_⟩
        rcases List.mem_cons.mp hq with rfl | hq
        · exact val_le (Nat.le_max_left _ _) e1
        · exact val_le (Nat.le_max_right _ _) (e2 q hq)
    refine this fun q hq => ?_
    obtain ⟨j, hj1, hj2⟩ := List.mem_iff_getElem.mp hq
    rw [List.length_take] at hj1
    have : rd[j]? = some q := by rw [← hj2, List.getElem_take, List.getElem?_eq_getElem]
    exact R.coh.kn _ (seen_mem (hj j q (by omega) this))
  have run2 := wk_mono (g := val h (max n N)) (fun _ _ e => val_le (Nat.le_max_left _ _) e) run
  have hm := wk_err_in (f := val h (max n N)) (g := seen (rd.take i)) (fun u x e => val_le (Nat.le_max_right _ _) (hN _ (seen_mem e))) lack run2
  cases e : seen s.known p.1 with
  | some x => exact ⟨x, rfl⟩
  | none => exact absurd (hown _ hm) (seen_none e)
/-! #### things of tuples alone stay where tuples stay -/
mutual
def Th.onlyT : Th → Bool
  | .lst _ => false
  | .dct => false
  | .tup l => Th.onlyTL l
  | _ => true
def Th.onlyTL : List Th → Bool
  | [] => true
  | t :: l => t.onlyT && Th.onlyTL l
end
mutual
theorem Data.keepT {H H' : Hp} (k : Keep H H') : ∀ {t : Th} {v : V}, t.onlyT = true → Data H t v → Data H' t v
  | .non, _, _, h => h
  | .bl _, _, _, h => h
  | .int _, _, _, h => h
  | .str _, _, _, h => h
  | .tup l, _, o, ⟨p, xs, e, hp, hl⟩ => ⟨p, xs, e, k _ _ hp, DataL.keepT k (l := l) o hl⟩
  | .lst _, _, o, _ => by cases o
  | .dct, _, o, _ => by cases o
theorem DataL.keepT {H H' : Hp} (k : Keep H H') : ∀ {l : List Th} {xs : List V}, Th.onlyTL l = true → DataL H l xs → DataL H' l xs
  | [], _, _, h => h
  | t :: l, _, o, ⟨x, r, e, h1, h2⟩ => by
    have o : (t.onlyT && Th.onlyTL l) = true := o
    rw [Bool.and_eq_true] at o
    exact ⟨x, r, e, Data.keepT k o.1 h1, DataL.keepT k o.2 h2⟩
end
theorem nms_only : ∀ ns : List (List Nat), Th.onlyTL (nmsTh ns) = true
  | [] => rfl
  | a :: l => by show (true && Th.onlyTL (nmsTh l)) = true; rw [nms_only l]; rfl
theorem Rcp.only : ∀ r : Rcp, r.th.onlyT = true
  | .num _ => rfl
  | .read _ => rfl
  | .two _ a b => by show (true && (a.th.onlyT && (b.th.onlyT && true))) = true; rw [Rcp.only a, Rcp.only b]; rfl
  | .pick a b c => by show (true && (a.th.onlyT && (b.th.onlyT && (c.th.onlyT && true)))) = true; rw [Rcp.only a, Rcp.only b, Rcp.only c]; rfl
  | .choose a ns => by show (true && (a.th.onlyT && (Th.onlyTL (nmsTh ns) && true))) = true; rw [Rcp.only a, nms_only ns]; rfl
theorem Paper.only (p : Paper) : p.th.onlyT = true := by
  cases p with
  | rcp a b => show (true && (a.th.onlyT && (b.th.onlyT && true))) = true; rw [Rcp.only a, Rcp.only b]; rfl
  | _ => rfl
theorem Paper.keep {H H' : Hp} (k : Keep H H') {p : Paper} {v : V} (h : Data H p.th v) : Data H' p.th v := Data.keepT k (Paper.only p) h
/-! ### papers walked -/
open LamX NdefX
theorem firstU_none {kn : List Pr} : ∀ {ps : List Pr} {i : Nat}, (∀ q ∈ ps, seen kn q.1 = some q.2) → firstU kn i ps = none
  | [], _, _ => rfl
  | q :: ps, i, h => by
    unfold firstU
    rw [h q List.mem_cons_self]
    simp only [if_pos]
    exact firstU_none fun x hx => h x (List.mem_cons_of_mem _ hx)
theorem firstU_at {kn : List Pr} : ∀ {ps : List Pr} {i j : Nat} {p : Pr} {x : Int}, ps[i]? = some p → (∀ (m : Nat) (q : Pr), m < i → ps[m]? = some q → seen kn q.1 = some q.2) → seen kn p.1 = some x → x ≠ p.2 → firstU kn j ps = some (.read (j + i) p.2 x)
  | [], _, _, _, _, h, _, _, _ => by simp at h
  | q :: ps, 0, j, p, x, h, _, hs, hne => by
    simp only [List.getElem?_cons_zero, Option.some.injEq] at h
    subst h
    unfold firstU
    rw [hs]
    simp only [if_neg hne]
    rfl
  | q :: ps, i + 1, j, p, x, h, hb, hs, hne => by
    unfold firstU
    rw [hb 0 q (Nat.succ_pos _) rfl]
    simp only [if_pos]
    rw [firstU_at (i := i) (j := j + 1) (by simpa using h) (fun m r hm e => hb (m + 1) r (by omega) (by simpa using e)) hs hne]
    rw [show j + 1 + i = j + (i + 1) by omega]
def optTh (H : Hp) (o : Option Paper) (v : V) : Prop := match o with
  | none => v = .non
  | some p => Data H p.th v
/-- a locked dict that was not there at first is put down -/
theorem FrS.putF {Tb : List NTab} {B X : Hp} {a : Addr} {o : HO} {od : Obj} {k : List (Key × V)} (f : FrS Tb [] B X) (n : B a = none) (e : X a = some (.frz od (.dK k))) : FrS Tb [] B (L2.upd X a o) :=
  ⟨fun x u m t h => by rw [L2.upd_ne (fun z => by rw [z, n] at h; cases h)]; exact f.1 x u m t h, fun b h => f.2.1 b (by
    unfold L2.upd at h
    split at h
    · cases h
    · exact h), fun t p hp => by
    obtain ⟨ps, t1, t2, t3⟩ := f.2.2 t p hp
    refine ⟨ps, ?_, t2, fun pos cv hc => ?_⟩
    · rw [L2.upd_ne (fun z => by rw [z, e] at t1; cases t1)]
      exact t1
    · obtain ⟨c, e1, e2⟩ := t3 pos cv hc
      refine ⟨c, e1, ?_⟩
      rw [L2.upd_ne (fun z => by rw [z, e] at e2; cases e2)]
      exact e2⟩
def spFirstU : Sp := fun vs H Q _ => ∃ (L W : Addr) (xs : List V) (ps kn : List Pr), vs = [.ref L, .ref W] ∧ H L = some (.lst xs) ∧ Prs H ps xs ∧ ps.length ≤ 1000 ∧ Rd H W (.dK (numsK kn)) ∧ Readable kn ps ∧ ∀ H' v, Same H H' → optTh H' (firstU kn 0 ps) v → Q v H'
theorem Rd.sm {H H' : Hp} (s : Same H H') {a : Addr} {k : List (Key × V)} (h : Rd H a (.dK k)) : Rd H' a (.dK k) := Rd.mp (fun _ e _ => s _ _ e) h
section
variable {P : Program} {w : World} {K : PySem.W.Frag} {mg : Str → Option Value} {base : Heap} {CN CR : Addr} {Tb : List NTab}
abbrev s_first_unlike : Stmt := topS 1
abbrev N_first_unlike : List Str := ["reads", "worths", "number", "name", "worth"]
theorem sc_first_unlike : FnScope N_first_unlike ["reads", "worths"] (defScope s_first_unlike) := ⟨rfl, rfl, rfl, by decide +kernel, rfl, by decide +kernel, by decide +kernel⟩

theorem ok_first_unlike (T : Txt K mg) (D : IsDef K mg "first_unlike" s_first_unlike ["reads", "worths"]) : Cal P w K mg base CX0 1 "first_unlike" ["reads", "worths"] spFirstU := by
  refine D.cal sc_first_unlike (fun vs H Q E h => ?_) (fun f cdv A outer s H vs Q E hr h => ?_)
  · obtain ⟨_, _, _, _, _, rfl, _⟩ := h
    rfl
  obtain ⟨L, W, xs, ps, kn, rfl, hL, hP, hl, hW, hR, q⟩ := h
  have hu : (cxOf CX0 P w K mg base N_first_unlike "first_unlike" (defScope s_first_unlike) f cdv A outer s H E).A.units + 1 < cLine := Nat.lt_of_le_of_lt (Nat.add_le_add_left (by decide : 1 ≤ 64) _) hr.units
  refine ⟨_, (pss_cons (ps_for PassesOwn.never rfl (pi_enum (by rfl) T.b_enumerate (pa_cons (pv 0) pa_nil)) (pg_tup rfl (pgs_cons (pg_name (i := 2) sc_first_unlike.nd rfl (Or.inl rfl)) (pgs_cons (pg_tup rfl (pgs_cons (pg_name (i := 3) sc_first_unlike.nd rfl (Or.inl rfl)) (pgs_cons (pg_name (i := 4) sc_first_unlike.nd rfl (Or.inl rfl)) pgs_nil))) pgs_nil)))
        (pss_one (ps_if (pt_cmpR op_ne (pe_dget hu (pv 1) (pv 3) (fun _ _ => rfl)) (pv 4) (nomark _))
        (pss_one (ps_ret (pe_tupA (pa_cons pe_str (pa_cons (pv 2) (pa_cons (pv 4) (pa_cons (pe_dget hu (pv 1) (pv 3) (fun _ _ => rfl)) pa_nil)))))))
        pss_nil)))
      (pss_one (ps_ret pe_non))), ?_⟩
  refine ⟨_, rfl, L, xs, rfl, SqL.of hL, for_it walk_enum (fun i σ X => ∃ (w2 w3 w4 : Option V), σ = [some (.ref L), some (.ref W), w2, w3, w4] ∧ Same H X ∧ ∀ (j : Nat) (q : Pr), j < i → ps[j]? = some q → seen kn q.1 = some q.2)
    ⟨none, none, none, rfl, fun _ _ e => e, fun _ _ hj => absurd hj (Nat.not_lt_zero _)⟩ (fun i σ X _ ⟨_, _, _, _, s, _⟩ => SqL.of (s _ _ hL)) ?_ ?_⟩
  · rintro i x σ X X' hi ⟨w2, w3, w4, rfl, sX, hb⟩ ⟨T1, x1, y1, rfl, nT1, rfl, e1, e2⟩
    cases e1
    have s1 := same_new nT1 (.tup [.int (i : Nat), y1])
    obtain ⟨p, tp, hp, rfl, etp⟩ := (hP.same sX).at e2
    have eT1 : upd X T1 (.tup [V.int ((i : Nat) : Int), V.ref tp]) T1 = some (.tup [V.int ((i : Nat) : Int), V.ref tp]) := upd_same
    have etp' := s1 _ _ etp
    have sX' := sX.trans s1
    generalize upd X T1 (.tup [V.int ((i : Nat) : Int), V.ref tp]) = X1 at s1 eT1 etp' sX' ⊢
    obtain ⟨z, hz⟩ := hR i p hp hb
    refine ⟨T1, _, rfl, SqT.of eT1, rfl, _, _, rfl, _, _, rfl, tp, _, rfl, SqT.of etp', rfl, _, _, rfl, _, _, rfl, rfl, rfl, ?_⟩
    have dW : ∀ {Z : Hp}, Same H Z → DGet Z W (.str (SX.S p.1)) (some (.int z)) := fun {Z} s => (show valV (numsK kn) (kT (SX.S p.1)) = some (.int z) by rw [val_seen, hz]; rfl) ▸ DGet.rd (k := kT (SX.S p.1)) (Rd.sm s hW)
    refine ⟨_, rfl, _, rfl, W, _, rfl, dW sX', _, rfl, rfl, _, rfl, ?_⟩
    by_cases c : z = p.2
    · refine not_true_eq (decide_eq_true (by rw [c])) ?_
      refine ⟨_, _, _, rfl, sX', fun j r hj hr => ?_⟩
      by_cases cj : j = i
      · rw [cj, hp] at hr
        cases hr
        rw [hz, c]
      · exact hb j r (by omega) hr
    · refine not_false_eq (decide_eq_false fun e => c (V.int.inj e)) ?_
      refine ⟨_, rfl, _, rfl, _, rfl, _, rfl, W, _, rfl, dW sX', le_line (Nat.le_of_ble_eq_true rfl), fun T2 X2 nT2 s2' eT2 => ?_⟩
      have s2 : Same X1 X2 := s2'
      refine q X2 (.ref T2) (sX'.trans s2) ?_
      rw [firstU_at (j := 0) hp hb hz c, Nat.zero_add]
      exact ⟨T2, _, rfl, eT2, _, _, rfl, congrArg V.str q_read, _, _, rfl, rfl, _, _, rfl, rfl, _, _, rfl, rfl, rfl⟩
  · rintro σ X ⟨w2, w3, w4, rfl, sX, hb⟩
    refine q X .non sX ?_
    rw [show firstU kn 0 ps = none from firstU_none fun r hr => by
      obtain ⟨j, hj⟩ := List.mem_iff_getElem?.mp hr
      exact hb j r (by rw [hP.len]; exact (List.getElem?_eq_some_iff.mp hj).1) hj]
    rfl
def spPaperBy : Sp := fun vs H Q _ => ∃ (hv : V) (oD W : Addr) (h : House) (old : Old) (kn : List Pr) (t : List Nat), vs = [hv, .ref oD, .ref W, .str (SX.S t)] ∧ HouseAt H h hv ∧ OldAt H old oD ∧ Rd H W (.dK (numsK kn)) ∧ PapOk h old kn t ∧ (∀ p ∈ old, p.2.1.length ≤ 1000) ∧ ∀ H' v, Same H H' → Data H' (paperR h old kn t).th v → Q v H'
abbrev s_paper_by : Stmt := topS 2
abbrev N_paper_by : List Str := ["house", "records", "worths", "name", "given", "recipes", "recipe", "reads", "worth", "paper"]
theorem sc_paper_by : FnScope N_paper_by ["house", "records", "worths", "name"] (defScope s_paper_by) := ⟨rfl, rfl, rfl, by decide +kernel, rfl, by decide +kernel, by decide +kernel⟩

theorem ok_paper_by (T : Txt K mg) (D : IsDef K mg "paper_by" s_paper_by ["house", "records", "worths", "name"]) (C_first_unlike : Cal P w K mg base CX0 1 "first_unlike" ["reads", "worths"] spFirstU) : Cal P w K mg base CX0 2 "paper_by" ["house", "records", "worths", "name"] spPaperBy := by
  refine D.cal sc_paper_by (fun vs H Q E h => ?_) (fun f cdv A outer s H vs Q E hr h => ?_)
  · obtain ⟨_, _, _, _, _, _, _, rfl, _⟩ := h
    rfl
  obtain ⟨hv, oD, W, h, old, kn, t, rfl, hH, hO, hW, hP, hl, q⟩ := h
  have hu : (cxOf CX0 P w K mg base N_paper_by "paper_by" (defScope s_paper_by) f cdv A outer s H E).A.units + 1 < cLine := Nat.lt_of_le_of_lt (Nat.add_le_add_left (by decide : 1 ≤ 64) _) hr.units
  obtain ⟨p, gD, rD, rkv, rfl, hp, hg, hrd, hK⟩ := id hH
  obtain ⟨okv, eo, ho⟩ := id hO
  refine ⟨_, (pss_cons (ps_asg (pv 0) (pg_tup rfl (pgs_cons (pg_name (i := 4) sc_paper_by.nd rfl (Or.inl rfl)) (pgs_cons (pg_name (i := 5) sc_paper_by.nd rfl (Or.inl rfl)) pgs_nil))))
      (pss_cons (ps_if (pt_cmp (pc_din hu (pv 3) (pv 4)))
        (pss_one (ps_ret (pe_tupA (pa_cons pe_str pa_nil))))
        pss_nil)
      (pss_cons (ps_if (pt_cmp (pc_dnotin hu (pv 3) (pv 1)))
        (pss_one (ps_ret (pe_tupA (pa_cons pe_str pa_nil))))
        pss_nil)
      (pss_cons (ps_asg (pe_dget hu (pv 1) (pv 3) (fun _ _ => rfl)) (pg_tup rfl (pgs_cons (pg_name (i := 6) sc_paper_by.nd rfl (Or.inl rfl)) (pgs_cons (pg_name (i := 7) sc_paper_by.nd rfl (Or.inl rfl)) (pgs_cons (pg_name (i := 8) sc_paper_by.nd rfl (Or.inl rfl)) pgs_nil)))))
      (pss_cons (ps_if (pt_cmpR (op_neD hr.units) (pv 6) (pe_dget hu (pv 5) (pv 3) (fun _ _ => rfl)) (nomark _))
        (pss_one (ps_ret (pe_tupA (pa_cons pe_str (pa_cons (pv 6) (pa_cons (pe_dget hu (pv 5) (pv 3) (fun _ _ => rfl)) pa_nil))))))
        pss_nil)
      (pss_cons (ps_set (i := 9) sc_paper_by.nd rfl (Or.inl rfl) (pe_cal C_first_unlike (hr.mono (by first | decide | omega)) pass0 (pa_cons (pv 7) (pa_cons (pv 2) pa_nil))))
      (pss_cons (ps_if (pt_cmpR op_isN (pv 9) pe_non (nomark _))
        (pss_one (ps_ret (pe_tupA (pa_cons pe_str pa_nil))))
        pss_nil)
      (pss_one (ps_ret (pv 9)))))))))), ?_⟩
  have one : ∀ (ww : List Nat) (pp : Paper), pp.th = .tup [.str ww] → paperR h old kn t = pp → ∀ {T1 : Addr} {H1 : Hp}, Same H H1 → H1 T1 = some (.tup [.str (SX.S ww)]) → Q (.ref T1) H1 := fun ww pp e1 e2 {T1 H1} s e => q H1 (.ref T1) s (by rw [e2, e1]; exact ⟨T1, _, rfl, e, _, _, rfl, rfl, rfl⟩)
  refine ⟨_, rfl, p, _, rfl, SqT.of hp, rfl, _, _, rfl, _, _, rfl, rfl, ?_⟩
  refine ⟨_, rfl, _, rfl, gD, _, rfl, DGet.k (k := kT (SX.S t)) hg, _, rfl, ?_⟩
  rw [val_seen]
  cases e1 : seen h.given t with
  | some x =>
    refine iteT ⟨le_line (Nat.le_of_ble_eq_true rfl), fun T1 H1 nT1 s1' eT1 => ?_⟩
    rw [q_given] at eT1
    exact one w_given .given rfl (by unfold paperR; rw [e1]) s1' eT1
  | none =>
    refine iteF ?_
    refine in_nx (in_seq ?_)
    refine ⟨_, rfl, _, rfl, oD, _, rfl, DGet.rd (k := kT (SX.S t)) eo, _, rfl, ?_⟩
    obtain ⟨r, er⟩ := hP.has e1
    rcases KvR.get (t := t) ho with ⟨e2, e3⟩ | ⟨o, ov, e2, e3, hrow⟩
    · rw [e3]
      refine iteT ⟨le_line (Nat.le_of_ble_eq_true rfl), fun T1 H1 nT1 s1' eT1 => ?_⟩
      rw [q_new] at eT1
      exact one w_new .new rfl (by unfold paperR; rw [e1, e2]) s1' eT1
    rw [e3]
    refine iteF ?_
    obtain ⟨T0, rv0, L0, xs, rfl, t1, t2, t3, t4⟩ := id hrow
    rcases KvR.get (t := t) hK with ⟨z, _⟩ | ⟨r', rv, z, e4, hrec⟩
    · rw [rcp_seen, er] at z
      cases z
    obtain rfl : r' = r := by rw [rcp_seen, er] at z; exact (Option.some.inj z).symm
    have dR : ∀ {Z : Hp}, Same H Z → DGet Z rD (.str (SX.S t)) (some rv) := fun {Z} s => e4 ▸ DGet.rd (k := kT (SX.S t)) (Rd.sm s hrd)
    refine in_nx (in_seq ?_)
    refine ⟨_, rfl, _, rfl, oD, _, rfl, e3 ▸ DGet.rd (k := kT (SX.S t)) eo, T0, _, rfl, SqT.of t1, rfl, _, _, rfl, _, _, rfl, _, _, rfl, rfl, ?_⟩
    obtain ⟨wo1, wo2⟩ := hP.wo o e2
    obtain ⟨wr1, wr2⟩ := hP.wr r' er
    refine in_nx (in_seq ?_)
    refine ⟨_, rfl, _, rfl, _, rfl, rD, _, rfl, dR (fun _ _ e => e), _, _, Data.dp (Rcp.flat _) t2.data, Data.dp (Rcp.flat _) hrec.data, Rcp.shapedW wo1 (by omega), Rcp.shapedW wr1 (by omega), _, rfl, ?_⟩
    cases c : sameR o.2.1 r' with
    | false =>
      refine not_false_eq c ?_
      refine ⟨_, rfl, _, rfl, _, rfl, rD, _, rfl, dR (fun _ _ e => e), le_line (Nat.le_of_ble_eq_true rfl), fun T1 H1 nT1 s1' eT1 => ?_⟩
      have s1 : Same H H1 := s1'
      rw [q_rcp] at eT1
      refine q H1 (.ref T1) s1 ?_
      rw [show paperR h old kn t = .rcp o.2.1 r' by unfold paperR; rw [e1, e2, er]; simp [c]]
      exact ⟨T1, _, rfl, eT1, _, _, rfl, rfl, _, _, rfl, (t2.same s1).data, _, _, rfl, (hrec.same s1).data, rfl⟩
    | true =>
      refine not_true_eq c ?_
      have ep : paperR h old kn t = (firstU kn 0 o.1).getD .alike := by unfold paperR; rw [e1, e2, er]; simp [c]
      refine in_nx (in_seq ?_)
      refine ⟨_, rfl, _, rfl, L0, W, xs, o.1, kn, rfl, t3, t4, hl _ (getA_mem e2), hW, hP.rd o r' e1 e2 er c, fun H1 v s1 hv => ?_⟩
      refine in_name rfl ?_
      refine in_nx (in_seq ?_)
      cases eu : firstU kn 0 o.1 with
      | none =>
        rw [eu] at hv
        obtain rfl : v = .non := hv
        refine ⟨_, rfl, rfl, _, rfl, if_true_eq (decide_eq_true rfl) ?_⟩
        refine ⟨le_line (Nat.le_of_ble_eq_true rfl), fun T1 H2 nT1 s2' eT1 => ?_⟩
        have s2 : Same H1 H2 := s2'
        rw [q_alike] at eT1
        exact one w_alike .alike rfl (by rw [ep, eu]; rfl) (s1.trans s2) eT1
      | some pp =>
        rw [eu] at hv
        have hv : Data H1 pp.th v := hv
        obtain ⟨a, ea⟩ : ∃ a, v = .ref a := by
          cases pp <;> obtain ⟨a, _, e, _⟩ := hv <;> exact ⟨a, e⟩
        refine ⟨_, rfl, rfl, _, rfl, if_false_eq (decide_eq_false fun z => by rw [ea] at z; cases z) ?_⟩
        exact ⟨_, rfl, q H1 v s1 (by rw [ep, eu]; exact hv)⟩
/-- papers in a dict -/
def PapD (X : Hp) (pl : List (List Nat × Paper)) (P : Addr) : Prop := ∃ kvs, X P = some (.dK kvs) ∧ KvR (fun (p : Paper) v => Data X p.th v) pl kvs
def papL (h : House) (old : Old) (kn : List Pr) : List (List Nat × Paper) := kn.map fun q => (q.1, paperR h old kn q.1)
def spPapersOf (K : PySem.W.Frag) (Tb : List NTab) (dm n : Nat) : Sp := fun vs H Q _ => ∃ (v : V) (oD wv : Addr) (h : House) (old : Old) (ts : List (List Nat)) (y : Int) (s : RkS), vs = [v, .ref oD, .ref wv] ∧ HouseOk dm h bet0 ∧ OldOk h old ∧ (∀ t o, getA old t = some o → o.2.1.Wn ∧ o.2.1.dep ≤ 60) ∧ h.given.length + h.recs.length ≤ 1000 ∧ h.recs.length + 1 ≤ n ∧ HouseAt H h v ∧ OldAt H old oD ∧ TabsN Tb H ∧
  SqL K H wv (txs ts) ∧ (∀ t ∈ ts, Nm t) ∧ lkAll h n emptyS ts = .ok y s ∧ (∀ u ∈ s.known.map (·.1), PapOk h old s.known u) ∧ (∀ p ∈ old, p.2.1.length ≤ 1000) ∧ ∀ (P : Addr) (H' : Hp), FrS Tb [] H H' → H P = none → PapD H' (papL h old s.known) P → Q (.ref P) H'
mutual
/-- no truth stands in a thing's tuples -/
def Th.noB : Th → Bool
  | .str _ => true
  | .int _ => true
  | .tup l => Th.noBL l
  | _ => false
def Th.noBL : List Th → Bool
  | [] => true
  | t :: l => t.noB && Th.noBL l
end
mutual
/-- how deep a thing's tuples stand within one another -/
def Th.tdp : Th → Nat
  | .tup l => Th.tdpL l + 1
  | _ => 1
def Th.tdpL : List Th → Nat
  | [] => 0
  | t :: l => max t.tdp (Th.tdpL l)
end
theorem noBL_mem : ∀ {l : List Th} {t : Th}, Th.noBL l = true → t ∈ l → t.noB = true
  | [], _, _, h => nomatch h
  | a :: l, t, h, hm => by
    have h : (a.noB && Th.noBL l) = true := h
    rw [Bool.and_eq_true] at h
    rcases List.mem_cons.mp hm with rfl | hm
    · exact h.1
    · exact noBL_mem h.2 hm
theorem tdpL_mem : ∀ {l : List Th} {t : Th}, t ∈ l → t.tdp ≤ Th.tdpL l
  | [], _, h => nomatch h
  | a :: l, t, hm => by
    have e : Th.tdpL (a :: l) = max a.tdp (Th.tdpL l) := rfl
    rcases List.mem_cons.mp hm with rfl | hm
    · omega
    · have := tdpL_mem hm
      omega
theorem nms_noB : ∀ ns : List (List Nat), Th.noBL (nmsTh ns) = true ∧ Th.tdpL (nmsTh ns) ≤ 1
  | [] => ⟨rfl, Nat.zero_le _⟩
  | a :: l => by
    obtain ⟨h1, h2⟩ := nms_noB l
    exact ⟨by show (true && Th.noBL (nmsTh l)) = true; rw [h1]; rfl, by show max 1 (Th.tdpL (nmsTh l)) ≤ 1; omega⟩
theorem Rcp.noB : ∀ r : Rcp, r.th.noB = true ∧ r.th.tdp ≤ r.dep + 1
  | .num n => ⟨rfl, by show max 1 (max 1 0) + 1 ≤ 1 + 1; decide⟩
  | .read s => ⟨rfl, by show max 1 (max 1 0) + 1 ≤ 1 + 1; decide⟩
  | .two k a b => by
    obtain ⟨a1, a2⟩ := Rcp.noB a
    obtain ⟨b1, b2⟩ := Rcp.noB b
    refine ⟨?_, ?_⟩
    · show (true && (a.th.noB && (b.th.noB && true))) = true
      rw [a1, b1]
      rfl
    · show max 1 (max a.th.tdp (max b.th.tdp 0)) + 1 ≤ max a.dep b.dep + 1 + 1
      omega
  | .pick a b c => by
    obtain ⟨a1, a2⟩ := Rcp.noB a
    obtain ⟨b1, b2⟩ := Rcp.noB b
    obtain ⟨c1, c2⟩ := Rcp.noB c
    refine ⟨?_, ?_⟩
    · show (true && (a.th.noB && (b.th.noB && (c.th.noB && true)))) = true
      rw [a1, b1, c1]
      rfl
    · show max 1 (max a.th.tdp (max b.th.tdp (max c.th.tdp 0))) + 1 ≤ max a.dep (max b.dep c.dep) + 1 + 1
      omega
  | .choose a ns => by
    obtain ⟨a1, a2⟩ := Rcp.noB a
    obtain ⟨n1, n2⟩ := nms_noB ns
    have := dep_pos a
    refine ⟨?_, ?_⟩
    · show (true && (a.th.noB && (Th.noBL (nmsTh ns) && true))) = true
      rw [a1, n1]
      rfl
    · show max 1 (max a.th.tdp (max (Th.tdpL (nmsTh ns) + 1) 0)) + 1 ≤ a.dep + 1 + 1
      omega
theorem Paper.noB {p : Paper} (h : p.Ok) : p.th.noB = true ∧ p.th.tdp ≤ 12 := by
  cases p with
  | rcp a b =>
    obtain ⟨⟨_, a0⟩, _, b0⟩ := h
    obtain ⟨a1, a2⟩ := Rcp.noB a
    obtain ⟨b1, b2⟩ := Rcp.noB b
    refine ⟨?_, ?_⟩
    · show (true && (a.th.noB && (b.th.noB && true))) = true
      rw [a1, b1]
      rfl
    · show max 1 (max a.th.tdp (max b.th.tdp 0)) + 1 ≤ 12
      omega
  | read k u v => exact ⟨rfl, by show 2 ≤ 12; decide⟩
  | _ => exact ⟨rfl, by decide⟩
def spHasT (n : Nat) : Sp := fun vs H Q _ => ∃ (v : V) (t : Th), vs = [v] ∧ Data H t v ∧ t.noB = true ∧ t.tdp ≤ n ∧ ∀ H', Same H H' → Q (.bl false) H'
abbrev s_has_truths : Stmt := topS 3
abbrev N_has_truths : List Str := ["thing", "part"]
theorem sc_has_truths : FnScope N_has_truths ["thing"] (defScope s_has_truths) := ⟨rfl, rfl, rfl, by decide +kernel, rfl, by decide +kernel, by decide +kernel⟩

theorem ok_has_truths (T : Txt K mg) (D : IsDef K mg "has_truths" s_has_truths ["thing"]) : ∀ n, Cal P w K mg base CX0 n "has_truths" ["thing"] (spHasT n)
  | 0 => cal_none D fun vs H Q E h => by
    obtain ⟨v, t, _, _, _, h0, _⟩ := h
    have : 1 ≤ t.tdp := by cases t <;> first | exact Nat.le_refl 1 | exact Nat.succ_pos _
    omega
  | n + 1 => by
    have C_has_truths := ok_has_truths T D n
    refine D.cal (k := n) sc_has_truths (fun vs H Q E h => ?_) (fun f cdv A outer s H vs Q E hr h => ?_)
    · obtain ⟨_, _, rfl, _⟩ := h
      rfl
    obtain ⟨v, t, rfl, hd, hb, hn, q⟩ := h
    refine ⟨_, (pss_cons (ps_if (pt_val (pe_callB call_isi (by rfl) T.b_isinstance (by decide +kernel) (pa_cons (pv 0) (pa_cons (pe_bltn (v := .ty "tuple") (by rfl) T.b_tuple (by decide +kernel) rfl) pa_nil))))
        (pss_one (ps_ret (pe_cmpR (op_neD hr.units) (pe_lc (own := [("part", 1)]) (g := gName 1)  (by rfl) sc_has_truths.nd  (pi_tup (pv 0)) (blkOk_by (own := [("part", 1)]) (N := N_has_truths) (sc := defScope s_has_truths) (by decide +kernel)) (fun _ _ _ _ _ => (pg_name (i := 1) sc_has_truths.nd rfl (Or.inl rfl))) (fun _ _ _ _ _ => (pts_one (pt_val (pe_cal C_has_truths (hr.mono (by first | decide | omega)) pass0 (pa_cons (pv 1) pa_nil))))) (fun _ _ _ _ _ => (pv 1))) (pe_lstA pa_nil) (nomark _))))
        pss_nil)
      (pss_one (ps_ret (pe_callB call_isi (by rfl) T.b_isinstance (by decide +kernel) (pa_cons (pv 0) (pa_cons (pe_bltn (v := .ty "bool") (by rfl) T.b_bool (by decide +kernel) rfl) pa_nil)))))), ?_⟩
    cases t with
    | tup l =>
      obtain ⟨p, xs, rfl, hp, hl⟩ := hd
      have hb : Th.noBL l = true := hb
      have hn : Th.tdpL l + 1 ≤ n + 1 := hn
      refine ⟨_, rfl, _, _, .type "tuple", _, true, rfl, .ty _, .base (.tup hp), kit_ty (by decide +kernel), true, rfl, iteT ?_⟩
      refine ⟨_, rfl, p, rfl, ⟨_, SqT.of hp⟩, fun M nM => lc_it (walk_tup (xs := xs)) (fun i Z => Same H Z ∧ Z M = some (.lst [])) ⟨same_new nM _, upd_same⟩ (fun i Z _ h => SqT.of (h.1 _ _ hp)) ?_ ?_⟩
      · rintro i x Z0 Z hi ⟨sZ, eZ⟩ ⟨rfl, hx⟩
        obtain ⟨t, ht, hdt⟩ := hl.at hx
        have tm := List.mem_of_getElem? ht
        refine ⟨rfl, _, rfl, x, t, rfl, hdt.same sZ, noBL_mem hb tm, by have := tdpL_mem tm; omega, fun Z2 z2 => ?_⟩
        exact ⟨_, rfl, iteF ⟨sZ.trans z2, z2 _ _ eZ⟩⟩
      · rintro Z ⟨sZ, eZ⟩
        refine ⟨Nat.zero_le _, fun N Z2 nN z2' eN => ?_⟩
        have z2 : Same Z Z2 := z2'
        exact ⟨_, _, .lst (SqL.of (z2 _ _ eZ)) .nil, .lst (SqL.of eN) .nil, rfl, rfl, q Z2 (sZ.trans z2)⟩
    | str z =>
      obtain rfl := hd
      refine ⟨_, rfl, _, _, .type "str", _, false, rfl, .ty _, .base (.str _), kit_ty (by decide +kernel), false, rfl, iteF ?_⟩
      exact ⟨_, rfl, _, _, .type "str", _, false, rfl, .ty _, .base (.str _), kit_ty (by decide +kernel), q H (fun _ _ e => e)⟩
    | int z =>
      obtain rfl := hd
      refine ⟨_, rfl, _, _, .type "int", _, false, rfl, .ty _, .base (.int _), kit_ty (by decide +kernel), false, rfl, iteF ?_⟩
      exact ⟨_, rfl, _, _, .type "int", _, false, rfl, .ty _, .base (.int _), kit_ty (by decide +kernel), q H (fun _ _ e => e)⟩
    | non => cases hb
    | bl b => cases hb
    | lst l => cases hb
    | dct => cases hb
end
/-! ### papers that show, chains -/
open LamX NdefX
def pairP (p : List Nat × Paper) : Th := .tup [.str p.1, p.2.th]
theorem pairP_only : ∀ l : List (List Nat × Paper), Th.onlyTL (l.map pairP) = true
  | [] => rfl
  | p :: l => by show ((true && (p.2.th.onlyT && true)) && Th.onlyTL (l.map pairP)) = true; rw [Paper.only, pairP_only l]; rfl
theorem pairP_flat : ∀ l : List (List Nat × Paper), Th.flatL (l.map pairP) = true
  | [] => rfl
  | p :: l => by show ((true && (p.2.th.flat && true)) && Th.flatL (l.map pairP)) = true; rw [Paper.flat, pairP_flat l]; rfl
def chainTh (l : List (List Nat × Paper)) : Th := .lst (l.map pairP)
theorem paper_dep {p : Paper} (h : p.Ok) : p.th.py.depth ≤ 30 := by
  have := Paper.shaped h
  unfold SeqAt.shaped at this
  rw [Bool.and_eq_true] at this
  cases p with
  | rcp a b =>
    obtain ⟨⟨a1, a2⟩, b1, b2⟩ := h
    obtain ⟨x1, x2⟩ := Rcp.laysW a1
    obtain ⟨y1, y2⟩ := Rcp.laysW b1
    show max 0 (max a.th.py.depth (max b.th.py.depth 0)) + 1 ≤ 30
    omega
  | _ => exact Nat.le_of_ble_eq_true rfl
theorem chain_lay : ∀ {l : List (List Nat × Paper)}, (∀ p ∈ l, Nm p.1 ∧ p.2.Ok) → PyData.canLayAll0 (Th.pyL (l.map pairP)) = true ∧ PyData.depthAll (Th.pyL (l.map pairP)) ≤ 31
  | [], _ => ⟨rfl, Nat.zero_le _⟩
  | p :: l, h => by
    obtain ⟨h1, h2⟩ := h p List.mem_cons_self
    have h3 := paper_dep h2
    obtain ⟨i1, i2⟩ := chain_lay (l := l) fun x hx => h x (List.mem_cons_of_mem _ hx)
    have c := SeqAt.canLay_of_shaped (Paper.shaped h2)
    refine ⟨?_, ?_⟩
    · show (((PyData.str (SX.S p.1)).canLay0 && (p.2.th.py.canLay0 && true)) && PyData.canLayAll0 (Th.pyL (l.map pairP))) = true
      rw [i1, nm_lay h1]
      have : p.2.th.py.canLay0 = true := c
      rw [this]
      rfl
    · show max (max 0 (max p.2.th.py.depth 0) + 1) (PyData.depthAll (Th.pyL (l.map pairP))) ≤ 31
      omega
theorem chain_shaped {l : List (List Nat × Paper)} (h : ∀ p ∈ l, Nm p.1 ∧ p.2.Ok) : SeqAt.shaped (chainTh l).py = true := by
  obtain ⟨h1, h2⟩ := chain_lay h
  show (PyData.canLayAll0 (Th.pyL (l.map pairP)) && decide (PyData.depthAll (Th.pyL (l.map pairP)) + 1 ≤ 64)) = true
  rw [h1, decide_eq_true (by omega)]
  rfl
/-- the chain of a name -/
def chainR (pl : List (List Nat × Paper)) (old : Old) : Nat → List Nat → Option (List (List Nat × Paper))
  | 0, _ => none
  | n + 1, t => match getA pl t with
    | none => none
    | some .given => some []
    | some .alike => some []
    | some .new => some [(t, .new)]
    | some (.rcp a b) => some [(t, .rcp a b)]
    | some (.read k u v) => match getA old t with
      | none => none
      | some o => match o.1[k]? with
        | none => none
        | some q => (chainR pl old n q.1).map fun l => (t, .read k u v) :: l
def Paper.made : Paper → Bool
  | .given => false
  | .alike => false
  | _ => true
theorem Paper.th_tup (p : Paper) : ∃ l, p.th = .tup (.str p.word :: l) := by cases p <;> exact ⟨_, rfl⟩
def mades : List (List Nat) := [w_new, w_rcp, w_read]
theorem mades_in (p : Paper) : decide (p.word ∈ mades) = p.made := by
  cases p with
  | given => decide
  | new => decide
  | alike => decide
  | rcp a b => show decide (w_rcp ∈ mades) = true; decide
  | read k u v => show decide (w_read ∈ mades) = true; decide
theorem md_txs : ([.str "new", .str "recipe", .str "read"] : List V) = txs mades := by
  show [V.str "new", V.str "recipe", V.str "read"] = [V.str (SX.S w_new), V.str (SX.S w_rcp), V.str (SX.S w_read)]
  rw [q_new, q_rcp, q_read]
def spShows : Sp := fun vs H Q _ => ∃ (hv : V) (oD W : Addr) (h : House) (old : Old) (kn : List Pr) (t : List Nat) (pz : V) (po : Paper), vs = [hv, .ref oD, .ref W, .str (SX.S t), pz] ∧ HouseAt H h hv ∧ OldAt H old oD ∧ Rd H W (.dK (numsK kn)) ∧ PapOk h old kn t ∧ (∀ p ∈ old, p.2.1.length ≤ 1000) ∧ t ∈ kn.map (·.1) ∧ Data H po.th pz ∧ po.Ok ∧
  ∀ H', Same H H' → Q (.bl (PyData.eqv po.th.py (paperR h old kn t).th.py)) H'
structure MadeT (K : PySem.W.Frag) (mg : Str → Option Value) (md : Addr) : Prop where
  g : mg "MADE" = some (.ref md)
  t : ∀ H, SqT K H md [.str "new", .str "recipe", .str "read"]
def PapR (X : Hp) (pl : List (List Nat × Paper)) (P : Addr) : Prop := ∃ kvs, Rd X P (.dK kvs) ∧ KvR (fun (p : Paper) v => Data X p.th v) pl kvs
theorem PapD.r {X : Hp} {pl : List (List Nat × Paper)} {P : Addr} (h : PapD X pl P) : PapR X pl P := by
  obtain ⟨kvs, e, h⟩ := h
  exact ⟨kvs, .inl e, h⟩
def spChain : Sp := fun vs H Q _ => ∃ (P oD : Addr) (t : List Nat) (pl : List (List Nat × Paper)) (old : Old) (n : Nat) (ch : List (List Nat × Paper)), vs = [.ref P, .ref oD, .str (SX.S t)] ∧ PapR H pl P ∧ OldU H old oD ∧ n ≤ 1000 ∧ chainR pl old n t = some ch ∧ ∀ H' v, Same H H' → (∃ F, v = .ref F ∧ H F = none) → Data H' (chainTh ch) v → Q v H'
section
variable {P : Program} {w : World} {K : PySem.W.Frag} {mg : Str → Option Value} {base : Heap}
abbrev s_paper_shows : Stmt := topS 4
abbrev N_paper_shows : List Str := ["house", "records", "worths", "name", "paper"]
theorem sc_paper_shows : FnScope N_paper_shows ["house", "records", "worths", "name", "paper"] (defScope s_paper_shows) := ⟨rfl, rfl, rfl, by decide +kernel, rfl, by decide +kernel, by decide +kernel⟩

theorem ok_paper_shows (T : Txt K mg) (D : IsDef K mg "paper_shows" s_paper_shows ["house", "records", "worths", "name", "paper"]) (C_pb : Cal P w K mg base CX0 2 "paper_by" ["house", "records", "worths", "name"] spPaperBy) (C_ht : Cal P w K mg base CX0 12 "has_truths" ["thing"] (spHasT 12)) :
    Cal P w K mg base CX0 13 "paper_shows" ["house", "records", "worths", "name", "paper"] spShows := by
  have C_paper_by := C_pb.mono (show 2 ≤ 12 by decide)
  have C_has_truths := C_ht
  refine D.cal sc_paper_shows (fun vs H Q E h => ?_) (fun f cdv A outer s H vs Q E hr h => ?_)
  · obtain ⟨_, _, _, _, _, _, _, _, _, rfl, _⟩ := h
    rfl
  obtain ⟨hv, oD, W, h, old, kn, t, pz, po, rfl, hH, hO, hW, hP, hl, ht, hd, hok, q⟩ := h
  have hu : (cxOf CX0 P w K mg base N_paper_shows "paper_shows" (defScope s_paper_shows) f cdv A outer s H E).A.units + 1 < cLine := Nat.lt_of_le_of_lt (Nat.add_le_add_left (by decide : 1 ≤ 64) _) hr.units
  refine ⟨_, (pss_cons (ps_if (PW.pt (pw_or (pt_cmp (pc_dnotin hu (pv 3) (pv 2))) (pw_or1 (pt_cmpR (op_neD hr.units) (pv 4) (pe_cal C_paper_by (hr.mono (by first | decide | omega)) pass0 (pa_cons (pv 0) (pa_cons (pv 1) (pa_cons (pv 2) (pa_cons (pv 3) pa_nil))))) (nomark _)))))
        (pss_one (ps_ret pe_bl))
        pss_nil)
      (pss_one (ps_ret (pe_not (pe_cal C_has_truths (hr.mono (by first | decide | omega)) pass0 (pa_cons (pv 4) pa_nil)))))), ?_⟩
  obtain ⟨x, hx⟩ : ∃ x, seen kn t = some x := by
    cases e : seen kn t with
    | some x => exact ⟨x, rfl⟩
    | none => exact absurd ht (seen_none e)
  refine ⟨_, rfl, _, rfl, W, _, rfl, DGet.rd (k := kT (SX.S t)) hW, _, rfl, ?_⟩
  rw [val_seen, hx]
  refine iteF ?_
  refine ⟨_, rfl, _, rfl, _, rfl, _, rfl, _, rfl, hv, oD, W, h, old, kn, t, rfl, hH, hO, hW, hP, hl, fun H1 v1 s1 hv1 => ?_⟩
  refine ⟨_, _, Data.dp (Paper.flat _) (hd.same s1), Data.dp (Paper.flat _) hv1, Paper.shaped hok, Paper.shaped (paperR_ok hP), _, rfl, ?_⟩
  cases c : PyData.eqv po.th.py (paperR h old kn t).th.py with
  | false =>
    refine not_false_eq rfl ?_
    rw [c] at q
    exact q H1 s1
  | true =>
    refine not_true_eq rfl ?_
    rw [c] at q
    obtain ⟨b1, b2⟩ := Paper.noB hok
    refine ⟨_, rfl, pz, po.th, rfl, hd.same s1, b1, b2, fun H2 s2 => ⟨_, rfl, q H2 (s1.trans s2)⟩⟩

end
/-! ### papers of builds: plain facts -/
open LamX NdefX
section
variable {h : House} {s : RkS} {bk : Old} {n : Nat} {ts : List (List Nat)}
theorem known_readX (R : Rest h bet0 s) {u : List Nat} (hu : u ∈ s.known.map (·.1)) (ng : seen h.given u = none) : ∃ own, (u, own) ∈ s.read := by
  have hr := (R.coh.kr u hu).resolve_left (seen_none ng)
  obtain ⟨p, hp, rfl⟩ := List.mem_map.mp hr
  exact ⟨p.2, hp⟩
theorem pap_okX (G : HouseX 5 h) (R : Rest h bet0 s) (T : TrueOld bk) : ∀ u ∈ s.known.map (·.1), PapOk h bk s.known u := fun u hu => by
  refine ⟨fun o r ng e1 e2 e3 => ?_, fun o e => ?_, fun r e => ?_, fun ng => ?_⟩
  · obtain ⟨own, ho⟩ := known_readX R hu ng
    have t := T.row _ (getA_mem e1)
    have er : o.2.1 = r := eqv_rcp e3
    have tr : TrueRec o.2.1 o.1 o.2.2 := t.tr
    rw [er] at tr
    exact readable_of (dm := 5) R ho e2 tr
  · have t := T.row _ (getA_mem e)
    exact ⟨good_wn t.gd, Nat.le_trans t.dp (by decide)⟩
  · obtain ⟨_, wn, dp⟩ := G.ok.n.rcp _ (rcpOf_mem e)
    exact ⟨wn, Nat.le_trans dp (by decide)⟩
  · obtain ⟨own, ho⟩ := known_readX R hu ng
    have hr := R.coh.rd _ ho
    exact ⟨_, hr.2.choose_spec.choose_spec.choose_spec.1⟩
/-- made ones have papers new, recipe, read -/
theorem pap_madeX (G : HouseX 5 h) (R : Rest h bet0 s) (T : TrueOld bk) : ∀ u ∈ s.known.map (·.1), (paperR h bk s.known u).made = decide (u ∈ (s.read.map (·.1)).filter fun t => !isGood h bk t) := fun u hu => by
  have P := pap_okX G R T u hu
  cases e1 : seen h.given u with
  | some x =>
    have ep : paperR h bk s.known u = .given := by unfold paperR; rw [e1]
    rw [ep]
    refine (decide_eq_false fun z => ?_).symm
    have h1 := (List.mem_filter.mp z).1
    obtain ⟨p, hp, rfl⟩ := List.mem_map.mp h1
    have := (R.coh.rd _ hp).1
    rw [e1] at this
    cases this
  | none =>
    obtain ⟨own, ho⟩ := known_readX R hu e1
    have hin : u ∈ s.read.map (·.1) := List.mem_map.mpr ⟨_, ho, rfl⟩
    obtain ⟨r, er⟩ := P.has e1
    have key : (u ∈ (s.read.map (·.1)).filter fun t => !isGood h bk t) ↔ isGood h bk u = false := by
      rw [List.mem_filter]
      exact ⟨fun hh => by have := hh.2; cases c : isGood h bk u <;> simp_all, fun e => ⟨hin, by simp [e]⟩⟩
    cases e2 : getA bk u with
    | none =>
      have ep : paperR h bk s.known u = .new := by unfold paperR; rw [e1, e2]
      rw [ep]
      exact (decide_eq_true (key.mpr (isGood_f fun ⟨o, r, e, _⟩ => by rw [e2] at e; cases e))).symm
    | some o =>
      by_cases c : sameR o.2.1 r = true
      · have ep : paperR h bk s.known u = (firstU s.known 0 o.1).getD .alike := by unfold paperR; rw [e1, e2, er]; simp [c]
        cases e4 : firstU s.known 0 o.1 with
        | none =>
          rw [ep, e4]
          -- all alike
          have all : ∀ (i : Nat) (p : Pr), o.1[i]? = some p → seen s.known p.1 = some p.2 := fun i => by
            induction i using Nat.strongRecOn with
            | ind i ih =>
              intro p hp
              obtain ⟨x, hx⟩ := P.rd o r e1 e2 er c i p hp fun j q hj hq => ih j hj q hq
              by_cases cx : x = p.2
              · rw [hx, cx]
              · have := firstU_at (j := 0) hp (fun m q hm hq => ih m hm q hq) hx cx
                rw [e4] at this
                cases this
          have gd : isGood h bk u = true := isGood_t ⟨o, r, e2, er, c, fun p hp => by
            obtain ⟨i, hi⟩ := List.mem_iff_getElem?.mp hp
            exact R.coh.kn _ (seen_mem (all i p hi))⟩
          refine (decide_eq_false fun z => ?_).symm
          have := key.mp z
          rw [gd] at this
          cases this
        | some pp =>
          obtain ⟨k, x, y, rfl, _, q, hq, hq2, hq3, hne⟩ := firstU_ok e4
          rw [ep, e4]
          refine (decide_eq_true (key.mpr (isGood_f fun ⟨o', r', f1, f2, f3, f4⟩ => ?_))).symm
          rw [e2] at f1
          cases f1
          have h1 := f4 q (List.mem_of_getElem? hq)
          have h2 := R.coh.kn _ (seen_mem hq3)
          exact hne (by rw [← hq2]; exact h2.det h1)
      · have ep : paperR h bk s.known u = .rcp o.2.1 r := by unfold paperR; rw [e1, e2, er]; simp [c]
        rw [ep]
        exact (decide_eq_true (key.mpr (isGood_f fun ⟨o', r', f1, f2, f3, f4⟩ => by
          rw [e2] at f1
          cases f1
          rw [er] at f2
          cases f2
          exact c f3))).symm
theorem papL_getX (R : Rest h bet0 s) {u : List Nat} (hu : u ∈ s.known.map (·.1)) : getA (papL h bk s.known) u = some (paperR h bk s.known u) := by
  obtain ⟨p, hp, rfl⟩ := List.mem_map.mp hu
  have nd : ((papL h bk s.known).map (·.1)).Nodup := by
    unfold papL
    rw [List.map_map]
    exact R.ok.kd
  exact getA_nd (p := (p.1, paperR h bk s.known p.1)) nd (List.mem_map.mpr ⟨p, hp, rfl⟩)
/-- chains end -/
theorem chain_endsX {rk : List Nat → Nat} (T : TrueOld bk) (O : ∀ p ∈ bk, ∀ q ∈ p.2.1, rk q.1 < rk p.1) (G : HouseX 5 h) (R : Rest h bet0 s) : ∀ (n : Nat) (u : List Nat), rk u < n → u ∈ s.known.map (·.1) → ∃ ch, chainR (papL h bk s.known) bk n u = some ch ∧ ∀ p ∈ ch, Nm p.1 ∧ p.2.Ok
  | 0, u, hn, _ => absurd hn (Nat.not_lt_zero _)
  | n + 1, u, hn, hu => by
    have P := pap_okX G R T u hu
    have hnm : Nm u := by
      rcases R.coh.kr u hu with z | z
      · exact G.nm (List.mem_append_left _ z)
      · exact G.nm (List.mem_append_right _ (R.ok.sub u (List.mem_append_right _ z)))
    have hok := paperR_ok P
    unfold chainR
    rw [papL_getX R hu]
    cases ep : paperR h bk s.known u with
    | given => exact ⟨[], rfl, fun _ h => nomatch h⟩
    | alike => exact ⟨[], rfl, fun _ h => nomatch h⟩
    | new => exact ⟨_, rfl, fun p hp => by rw [List.mem_singleton.mp hp]; exact ⟨hnm, trivial⟩⟩
    | rcp a b =>
      rw [ep] at hok
      exact ⟨_, rfl, fun p hp => by rw [List.mem_singleton.mp hp]; exact ⟨hnm, hok⟩⟩
    | read k x y =>
      unfold paperR at ep
      cases e1 : seen h.given u with
      | some x => rw [e1] at ep; cases ep
      | none =>
        rw [e1] at ep
        cases e2 : getA bk u with
        | none => rw [e2] at ep; cases ep
        | some o =>
          rw [e2] at ep
          obtain ⟨r, er⟩ := P.has e1
          rw [er] at ep
          simp only at ep
          by_cases c : sameR o.2.1 r = true
          · rw [if_pos c] at ep
            cases e4 : firstU s.known 0 o.1 with
            | none => rw [e4] at ep; cases ep
            | some pp =>
              rw [e4] at ep
              have ep : pp = .read k x y := ep
              obtain ⟨k', x', y', e5, _, q, hq, _, hq3, _⟩ := firstU_ok e4
              rw [ep] at e5
              cases e5
              rw [Nat.sub_zero] at hq
              have hqk : q.1 ∈ s.known.map (·.1) := seen_key hq3
              have hrk := O _ (getA_mem e2) q (List.mem_of_getElem? hq)
              obtain ⟨ch, h1, h2⟩ := chain_endsX T O G R n q.1 (by have : rk q.1 < rk u := hrk; omega) hqk
              refine ⟨(u, .read k x y) :: ch, ?_, fun p hp => ?_⟩
              · simp only [hq, h1]
                rfl
              · rcases List.mem_cons.mp hp with rfl | hp
                · exact ⟨hnm, trivial⟩
                · exact h2 p hp
          · rw [if_neg c] at ep
            cases ep
end
theorem chain_len {pl : List (List Nat × Paper)} {old : Old} : ∀ {n : Nat} {t : List Nat} {ch : List (List Nat × Paper)}, chainR pl old n t = some ch → ch.length ≤ n
  | 0, _, _, h => by cases h
  | n + 1, t, ch, h => by
    unfold chainR at h
    cases e : getA pl t with
    | none => rw [e] at h; cases h
    | some p =>
      rw [e] at h
      cases p with
      | given => cases h; exact Nat.zero_le _
      | alike => cases h; exact Nat.zero_le _
      | new => cases h; exact Nat.le_add_left _ _
      | rcp a b => cases h; exact Nat.le_add_left _ _
      | read k u v =>
        simp only at h
        cases e5 : getA old t with
        | none => rw [e5] at h; cases h
        | some o =>
          rw [e5] at h
          simp only at h
          cases e6 : o.1[k]? with
          | none => rw [e6] at h; cases h
          | some q =>
            rw [e6] at h
            simp only at h
            cases e7 : chainR pl old n q.1 with
            | none => rw [e7] at h; cases h
            | some rs =>
              rw [e7] at h
              cases h
              exact Nat.succ_le_succ (chain_len e7)
/-! ### the laws' own papers -/
open LamX NdefX
section
variable {P : Program} {w : World} {K : PySem.W.Frag} {mg : Str → Option Value} {base : Heap} {Tb : List NTab}
abbrev s__law_paper : Stmt := topS 20
abbrev N__law_paper : List Str := ["house", "records", "worths", "name", "k", "read", "number"]
theorem sc__law_paper : FnScope N__law_paper ["house", "records", "worths", "name"] (defScope s__law_paper) := ⟨rfl, rfl, rfl, by decide +kernel, rfl, by decide +kernel, by decide +kernel⟩

theorem ok__law_paperB (T : Txt K mg) (D : IsDef K mg "_law_paper" s__law_paper ["house", "records", "worths", "name"]) : Cal P w K mg base CX0 1 "_law_paper" ["house", "records", "worths", "name"] spPaperBy := by
  refine D.cal sc__law_paper (fun vs H Q E h => ?_) (fun f cdv A outer s H vs Q E hr h => ?_)
  · obtain ⟨_, _, _, _, _, _, _, rfl, _⟩ := h
    rfl
  obtain ⟨hv, oD, W, h, old, kn, t, rfl, hH, hO, hW, hP, hl, q⟩ := h
  have hu : (cxOf CX0 P w K mg base N__law_paper "_law_paper" (defScope s__law_paper) f cdv A outer s H E).A.units + 1 < cLine := Nat.lt_of_le_of_lt (Nat.add_le_add_left (by decide : 1 ≤ 64) _) hr.units
  obtain ⟨p, gD, rD, rkv, rfl, hp, hg, hrd, hK⟩ := id hH
  obtain ⟨okv, eo, ho⟩ := id hO
  refine ⟨_, (pss_cons (ps_if (pt_cmp (pc_din hu (pv 3) (pe_ix (r := rIxT K) ix_tup (pv 0) pe_int (fun _ _ => rfl))))
        (pss_one (ps_ret (pe_tupA (pa_cons pe_str pa_nil))))
        pss_nil)
      (pss_cons (ps_if (pt_cmp (pc_dnotin hu (pv 3) (pv 1)))
        (pss_one (ps_ret (pe_tupA (pa_cons pe_str pa_nil))))
        pss_nil)
      (pss_cons (ps_if (pt_cmpR (op_neD hr.units) (pe_ix (r := rIxT K) ix_tup (pe_dget hu (pv 1) (pv 3) (fun _ _ => rfl)) pe_int (fun _ _ => rfl)) (pe_dget hu (pe_ix (r := rIxT K) ix_tup (pv 0) pe_int (fun _ _ => rfl)) (pv 3) (fun _ _ => rfl)) (nomark _))
        (pss_one (ps_ret (pe_tupA (pa_cons pe_str (pa_cons (pe_ix (r := rIxT K) ix_tup (pe_dget hu (pv 1) (pv 3) (fun _ _ => rfl)) pe_int (fun _ _ => rfl)) (pa_cons (pe_dget hu (pe_ix (r := rIxT K) ix_tup (pv 0) pe_int (fun _ _ => rfl)) (pv 3) (fun _ _ => rfl)) pa_nil))))))
        pss_nil)
      (pss_cons (ps_for PassesOwn.never rfl (pi_range1 rfl T.b_range (pa_cons (pe_callB call_len_seq (by rfl) T.b_len PySem.boot_len (pa_cons (pe_ix (r := rIxT K) ix_tup (pe_dget hu (pv 1) (pv 3) (fun _ _ => rfl)) pe_int (fun _ _ => rfl)) pa_nil)) pa_nil)) (pg_name (i := 4) sc__law_paper.nd rfl (Or.inl rfl))
        (pss_cons (ps_asg (pe_ix (r := rIxL K) ix_list (pe_ix (r := rIxT K) ix_tup (pe_dget hu (pv 1) (pv 3) (fun _ _ => rfl)) pe_int (fun _ _ => rfl)) (pv 4) (fun _ _ => rfl)) (pg_tup rfl (pgs_cons (pg_name (i := 5) sc__law_paper.nd rfl (Or.inl rfl)) (pgs_cons (pg_name (i := 6) sc__law_paper.nd rfl (Or.inl rfl)) pgs_nil))))
      (pss_one (ps_if (pt_cmpR op_ne (pe_dget hu (pv 2) (pv 5) (fun _ _ => rfl)) (pv 6) (nomark _))
        (pss_one (ps_ret (pe_tupA (pa_cons pe_str (pa_cons (pv 4) (pa_cons (pv 6) (pa_cons (pe_dget hu (pv 2) (pv 5) (fun _ _ => rfl)) pa_nil)))))))
        pss_nil))))
      (pss_one (ps_ret (pe_tupA (pa_cons pe_str pa_nil)))))))), ?_⟩
  have one : ∀ (ww : List Nat) (pp : Paper), pp.th = .tup [.str ww] → paperR h old kn t = pp → ∀ {T1 : Addr} {H1 : Hp}, Same H H1 → H1 T1 = some (.tup [.str (SX.S ww)]) → Q (.ref T1) H1 := fun ww pp e1 e2 {T1 H1} s e => q H1 (.ref T1) s (by rw [e2, e1]; exact ⟨T1, _, rfl, e, _, _, rfl, rfl, rfl⟩)
  refine ⟨_, rfl, _, rfl, p, _, 0, _, rfl, rfl, SqT.of hp, rfl, gD, _, rfl, DGet.k (k := kT (SX.S t)) hg, _, rfl, ?_⟩
  rw [val_seen]
  cases e1 : seen h.given t with
  | some x =>
    refine iteT ⟨le_line (Nat.le_of_ble_eq_true rfl), fun T1 H1 nT1 s1' eT1 => ?_⟩
    rw [q_given] at eT1
    exact one w_given .given rfl (by unfold paperR; rw [e1]) s1' eT1
  | none =>
    refine iteF ?_
    refine in_nx (in_seq ?_)
    refine ⟨_, rfl, _, rfl, oD, _, rfl, DGet.rd (k := kT (SX.S t)) eo, _, rfl, ?_⟩
    obtain ⟨r, er⟩ := hP.has e1
    rcases KvR.get (t := t) ho with ⟨e2, e3⟩ | ⟨o, ov, e2, e3, hrow⟩
    · rw [e3]
      refine iteT ⟨le_line (Nat.le_of_ble_eq_true rfl), fun T1 H1 nT1 s1' eT1 => ?_⟩
      rw [q_new] at eT1
      exact one w_new .new rfl (by unfold paperR; rw [e1, e2]) s1' eT1
    rw [e3]
    refine iteF ?_
    obtain ⟨T0, rv0, L0, xs, rfl, t1, t2, t3, t4⟩ := id hrow
    rcases KvR.get (t := t) hK with ⟨z, _⟩ | ⟨r', rv, z, e4, hrec⟩
    · rw [rcp_seen, er] at z
      cases z
    obtain rfl : r' = r := by rw [rcp_seen, er] at z; exact (Option.some.inj z).symm
    have dR : ∀ {Z : Hp}, Same H Z → DGet Z rD (.str (SX.S t)) (some rv) := fun {Z} s => e4 ▸ DGet.rd (k := kT (SX.S t)) (Rd.sm s hrd)
    have dO : ∀ {Z : Hp}, Same H Z → DGet Z oD (.str (SX.S t)) (some (.ref T0)) := fun {Z} s => e3 ▸ DGet.rd (k := kT (SX.S t)) (Rd.sm s eo)
    have id0 : Same H H := fun _ _ e => e
    obtain ⟨wo1, wo2⟩ := hP.wo o e2
    obtain ⟨wr1, wr2⟩ := hP.wr r' er
    refine in_nx (in_seq ?_)
    refine ⟨_, rfl, _, rfl, oD, _, rfl, dO id0, T0, _, 0, rv0, rfl, rfl, SqT.of t1, rfl, _, rfl, p, _, 1, _, rfl, rfl, SqT.of hp, rfl, _, rfl, rD, _, rfl, dR id0, _, _, Data.dp (Rcp.flat _) t2.data, Data.dp (Rcp.flat _) hrec.data, Rcp.shapedW wo1 (by omega), Rcp.shapedW wr1 (by omega), _, rfl, ?_⟩
    cases c : sameR o.2.1 r' with
    | false =>
      refine not_false_eq c ?_
      refine ⟨_, rfl, _, rfl, oD, _, rfl, dO id0, T0, _, 0, rv0, rfl, rfl, SqT.of t1, rfl, _, rfl, p, _, 1, _, rfl, rfl, SqT.of hp, rfl, _, rfl, rD, _, rfl, dR id0, le_line (Nat.le_of_ble_eq_true rfl), fun T1 H1 nT1 s1' eT1 => ?_⟩
      have s1 : Same H H1 := s1'
      rw [q_rcp] at eT1
      refine q H1 (.ref T1) s1 ?_
      rw [show paperR h old kn t = .rcp o.2.1 r' by unfold paperR; rw [e1, e2, er]; simp [c]]
      exact ⟨T1, _, rfl, eT1, _, _, rfl, rfl, _, _, rfl, (t2.same s1).data, _, _, rfl, (hrec.same s1).data, rfl⟩
    | true =>
      refine not_true_eq c ?_
      have ep : paperR h old kn t = (firstU kn 0 o.1).getD .alike := by unfold paperR; rw [e1, e2, er]; simp [c]
      have hR := hP.rd o r' e1 e2 er c
      have hlo := hl _ (getA_mem e2)
      have hxl : xs.length = o.1.length := t4.len
      have hlo : o.1.length ≤ 1000 := hlo
      refine in_nx (in_seq ?_)
      refine ⟨_, rfl, _, rfl, oD, _, rfl, dO id0, T0, _, 1, .ref L0, rfl, rfl, SqT.of t1, rfl, L0, xs, rfl, .inl (SqL.of t3), ((o.1.length : Nat) : Int), by rw [hxl], by omega, by omega, for_range (lo := 0) (n := ((o.1.length : Nat) : Int).toNat) (fun i σ X => ∃ (w4 w5 w6 : Option V), σ = [some (.ref p), some (.ref oD), some (.ref W), some (.str (SX.S t)), w4, w5, w6] ∧ X = H ∧ ∀ (j : Nat) (q : Pr), j < i → o.1[j]? = some q → seen kn q.1 = some q.2)
        ⟨none, none, none, rfl, rfl, fun _ _ hj => absurd hj (Nat.not_lt_zero _)⟩ ?_ ?_⟩
      · rintro i σ X hi ⟨w4, w5, w6, rfl, rfl, hb⟩
        have hi : i < o.1.length := by omega
        obtain ⟨v, hv⟩ : ∃ v, xs[i]? = some v := ⟨_, List.getElem?_eq_getElem (by omega)⟩
        obtain ⟨pr, tp, hpr, rfl, etp⟩ := t4.at hv
        obtain ⟨z, hz⟩ := hR i pr hpr hb
        refine in_name rfl ?_
        refine ⟨_, rfl, _, rfl, oD, _, rfl, dO id0, T0, _, 1, .ref L0, rfl, rfl, SqT.of t1, rfl, _, rfl, L0, xs, 0 + (i : Int), .ref tp, rfl, rfl, SqL.of t3, atI_at (by omega) (by rw [show (0 + (i : Int)).toNat = i by omega]; exact hv), tp, _, rfl, SqT.of etp, rfl, _, _, rfl, _, _, rfl, rfl, ?_⟩
        have dW : ∀ {Z : Hp}, Same X Z → DGet Z W (.str (SX.S pr.1)) (some (.int z)) := fun {Z} s => (show valV (numsK kn) (kT (SX.S pr.1)) = some (.int z) by rw [val_seen, hz]; rfl) ▸ DGet.rd (k := kT (SX.S pr.1)) (Rd.sm s hW)
        refine ⟨_, rfl, _, rfl, W, _, rfl, dW id0, _, rfl, rfl, _, rfl, ?_⟩
        by_cases cz : z = pr.2
        · refine not_true_eq (decide_eq_true (by rw [cz])) ?_
          refine ⟨_, _, _, rfl, rfl, fun j r2 hj hr2 => ?_⟩
          by_cases cj : j = i
          · rw [cj, hpr] at hr2
            cases hr2
            rw [hz, cz]
          · exact hb j r2 (by omega) hr2
        · refine not_false_eq (decide_eq_false fun e => cz (V.int.inj e)) ?_
          refine ⟨_, rfl, _, rfl, _, rfl, _, rfl, W, _, rfl, dW id0, le_line (Nat.le_of_ble_eq_true rfl), fun T2 X2 nT2 s2' eT2 => ?_⟩
          have s2 : Same X X2 := s2'
          refine q X2 (.ref T2) s2 ?_
          rw [ep, firstU_at (j := 0) hpr hb hz cz, Nat.zero_add]
          rw [Int.zero_add] at eT2
          exact ⟨T2, _, rfl, eT2, _, _, rfl, congrArg V.str q_read, _, _, rfl, rfl, _, _, rfl, rfl, _, _, rfl, rfl, rfl⟩
      · rintro σ X ⟨w4, w5, w6, rfl, rfl, hb⟩
        refine ⟨le_line (Nat.le_of_ble_eq_true rfl), fun T1 H2 nT1 s2' eT1 => ?_⟩
        have s2 : Same X H2 := s2'
        rw [q_alike] at eT1
        refine one w_alike .alike rfl ?_ s2 eT1
        rw [ep, firstU_none fun r2 hr2 => by
          obtain ⟨j, hj⟩ := List.mem_iff_getElem?.mp hr2
          exact hb j r2 (by have := (List.getElem?_eq_some_iff.mp hj).1; omega) hj]
        rfl
end
end Mad
/-! ### slices and sums of tuples, told by a heap that keeps all -/
namespace L2
open PySem PySem.Spec PyProof.Rows
def rSlV (K : PySem.W.Frag) : V → Option Int → Option Int → Hp → VK → Prop := fun x lo hi H Q => ∃ a xs, x = .ref a ∧ H a = some (.tup xs) ∧ ∀ p H2, SameU H H2 → H2 p = some (.tup (cutV xs lo hi)) → Q (.ref p) H2
def rCatV (K : PySem.W.Frag) : R2 := fun x y H Q => ∃ a b xs ys, x = .ref a ∧ y = .ref b ∧ H a = some (.tup xs) ∧ H b = some (.tup ys) ∧ xs.length + ys.length ≤ sizeLine ∧ ∀ p H2, SameU H H2 → H2 p = some (.tup (xs ++ ys)) → Q (.ref p) H2
theorem sl_tupV {X : Cx} : SlR X (rSlV X.K) := by
  intro pins s σ H x v vl vu lo hi sl Q I rx hs pl pu h
  obtain ⟨a, xs, e, hx, q⟩ := h
  refine sl_tupA pins s σ H x v vl vu lo hi sl Q I rx hs pl pu ⟨a, xs, e, .inl (.inl hx), fun hw => q a H (fun _ _ e => e) ?_, fun _ p np => q p _ (sameU_new np _) upd_same⟩
  have : cutV xs lo hi = xs := by unfold cutV; rw [hw.1, hw.2, List.drop_zero, Nat.sub_zero, List.take_length]
  rw [this]
  exact hx
theorem op_catV {X : Cx} : OpR X (binaryOp .Add) (rCatV X.K) := by
  intro pins s σ H x y v u Q I rx ry h
  obtain ⟨a, b, xs, ys, e1, e2, ha, hb, hz, q⟩ := h
  refine op_catA pins s σ H x y v u Q I rx ry ⟨a, b, xs, ys, e1, e2, .inl (.inl ha), .inl (.inl hb), hz, fun h0 => q b H (fun _ _ e => e) ?_, fun _ h0 => q a H (fun _ _ e => e) ?_, fun _ _ p np => q p _ (sameU_new np _) upd_same⟩
  · rw [h0, List.nil_append]; exact hb
  · rw [h0, List.append_nil]; exact ha
end L2
namespace Mad
open PySem PySem.Spec PyProof.Rows L2
/-! ### things of scalars and tuples: truths in them, alike ones -/
open LamX NdefX
mutual
def Th.hasB : Th → Bool
  | .bl _ => true
  | .tup l => Th.hasBL l
  | _ => false
def Th.hasBL : List Th → Bool
  | [] => false
  | t :: l => t.hasB || Th.hasBL l
end
def Th.isB : Th → Bool
  | .bl _ => true
  | _ => false
def Th.isT : Th → Bool
  | .tup _ => true
  | _ => false
mutual
def Th.alk : Th → Th → Bool
  | .tup l, .tup m => Th.alkL l m
  | a, b => PyData.eqv a.py b.py && (a.isB == b.isB)
def Th.alkL : List Th → List Th → Bool
  | [], [] => true
  | a :: l, b :: m => Th.alk a b && Th.alkL l m
  | _, _ => false
end
/-- a thing alike one without truths: the same by ==, and without truths too -/
theorem alk_is : (∀ (a b : Th), a.onlyT = true → b.noB = true → Th.alk a b = (PyData.eqv a.py b.py && !a.hasB)) := by
  have key : ∀ n : Nat, (∀ a b : Th, sizeOf a ≤ n → a.onlyT = true → b.noB = true → Th.alk a b = (PyData.eqv a.py b.py && !a.hasB)) ∧ (∀ l m : List Th, sizeOf l ≤ n → Th.onlyTL l = true → Th.noBL m = true → Th.alkL l m = (PyData.eqvAll (Th.pyL l) (Th.pyL m) && !Th.hasBL l)) := by
    intro n
    induction n with
    | zero =>
      refine ⟨fun a b h => ?_, fun l m h => ?_⟩
      · cases a <;> simp at h
      · cases l <;> simp at h
    | succ n ih =>
      obtain ⟨i1, i2⟩ := ih
      refine ⟨fun a b h oa ob => ?_, fun l m h ol om => ?_⟩
      · cases a with
        | lst l => cases oa
        | dct => cases oa
        | tup l =>
          cases b with
          | tup m =>
            have hs : sizeOf l ≤ n := by simp at h; omega
            show Th.alkL l m = (PyData.eqvAll (Th.pyL l) (Th.pyL m) && !Th.hasBL l)
            exact i2 l m hs oa ob
          | _ => rfl
        | non => cases b <;> first | rfl | cases ob
        | bl x => cases b <;> first | rfl | (cases ob; done) | (simp [Th.alk, Th.isB, Th.hasB]; done)
        | int x => cases b <;> first | rfl | (cases ob; done) | (simp [Th.alk, Th.isB, Th.hasB]; done)
        | str x => cases b <;> first | rfl | (cases ob; done) | (simp [Th.alk, Th.isB, Th.hasB]; done)
      · cases l with
        | nil => cases m <;> rfl
        | cons a l =>
          cases m with
          | nil => rfl
          | cons b m =>
            have ol : (a.onlyT && Th.onlyTL l) = true := ol
            have om : (b.noB && Th.noBL m) = true := om
            rw [Bool.and_eq_true] at ol om
            have h1 : sizeOf a ≤ n := by simp at h; omega
            have h2 : sizeOf l ≤ n := by simp at h; omega
            show (Th.alk a b && Th.alkL l m) = ((PyData.eqv a.py b.py && PyData.eqvAll (Th.pyL l) (Th.pyL m)) && !(a.hasB || Th.hasBL l))
            rw [i1 a b h1 ol.1 om.1, i2 l m h2 ol.2 om.2]
            cases PyData.eqv a.py b.py <;> cases PyData.eqvAll (Th.pyL l) (Th.pyL m) <;> cases a.hasB <;> cases Th.hasBL l <;> rfl
  exact fun a b => (key (sizeOf a)).1 a b (Nat.le_refl _)
mutual
/-- no tuple of more than a thousand things -/
def Th.few : Th → Bool
  | .tup l => decide (l.length ≤ 1000) && Th.fewL l
  | _ => true
def Th.fewL : List Th → Bool
  | [] => true
  | t :: l => t.few && Th.fewL l
end
theorem fewL_mem : ∀ {l : List Th} {t : Th}, Th.fewL l = true → t ∈ l → t.few = true
  | [], _, _, h => nomatch h
  | a :: l, t, h, hm => by
    have h : (a.few && Th.fewL l) = true := h
    rw [Bool.and_eq_true] at h
    rcases List.mem_cons.mp hm with rfl | hm
    · exact h.1
    · exact fewL_mem h.2 hm
theorem fewL_of : ∀ {l : List Th}, (∀ t ∈ l, t.few = true) → Th.fewL l = true
  | [], _ => rfl
  | a :: l, h => by
    show (a.few && Th.fewL l) = true
    rw [h a List.mem_cons_self, fewL_of fun t ht => h t (List.mem_cons_of_mem _ ht)]
    rfl
structure ThOk (n : Nat) (t : Th) : Prop where
  f : t.few = true
  o : t.onlyT = true
  d : t.tdp ≤ n
  c : t.py.canLay0 = true
theorem onlyTL_mem : ∀ {l : List Th} {t : Th}, Th.onlyTL l = true → t ∈ l → t.onlyT = true
  | [], _, _, h => nomatch h
  | a :: l, t, h, hm => by
    have h : (a.onlyT && Th.onlyTL l) = true := h
    rw [Bool.and_eq_true] at h
    rcases List.mem_cons.mp hm with rfl | hm
    · exact h.1
    · exact onlyTL_mem h.2 hm
theorem onlyTL_of : ∀ {l : List Th}, (∀ t ∈ l, t.onlyT = true) → Th.onlyTL l = true
  | [], _ => rfl
  | a :: l, h => by
    show (a.onlyT && Th.onlyTL l) = true
    rw [h a List.mem_cons_self, onlyTL_of fun t ht => h t (List.mem_cons_of_mem _ ht)]
    rfl
theorem layL_mem : ∀ {l : List Th} {t : Th}, PyData.canLayAll0 (Th.pyL l) = true → t ∈ l → t.py.canLay0 = true
  | [], _, _, h => nomatch h
  | a :: l, t, h, hm => by
    have h : (a.py.canLay0 && PyData.canLayAll0 (Th.pyL l)) = true := h
    rw [Bool.and_eq_true] at h
    rcases List.mem_cons.mp hm with rfl | hm
    · exact h.1
    · exact layL_mem h.2 hm
theorem layL_of : ∀ {l : List Th}, (∀ t ∈ l, t.py.canLay0 = true) → PyData.canLayAll0 (Th.pyL l) = true
  | [], _ => rfl
  | a :: l, h => by
    show (a.py.canLay0 && PyData.canLayAll0 (Th.pyL l)) = true
    rw [h a List.mem_cons_self, layL_of fun t ht => h t (List.mem_cons_of_mem _ ht)]
    rfl
theorem tdpL_of {n : Nat} : ∀ {l : List Th}, (∀ t ∈ l, t.tdp ≤ n) → Th.tdpL l ≤ n
  | [], _ => Nat.zero_le _
  | a :: l, h => by
    have := h a List.mem_cons_self
    have := tdpL_of fun t ht => h t (List.mem_cons_of_mem _ ht)
    show max a.tdp (Th.tdpL l) ≤ n
    omega
theorem depL_of {n : Nat} : ∀ {l : List Th}, (∀ t ∈ l, t.py.depth ≤ n) → PyData.depthAll (Th.pyL l) ≤ n
  | [], _ => Nat.zero_le _
  | a :: l, h => by
    have := h a List.mem_cons_self
    have := depL_of fun t ht => h t (List.mem_cons_of_mem _ ht)
    show max a.py.depth (PyData.depthAll (Th.pyL l)) ≤ n
    omega
theorem flatL_of : ∀ {l : List Th}, (∀ t ∈ l, t.flat = true) → Th.flatL l = true
  | [], _ => rfl
  | a :: l, h => by
    show (a.flat && Th.flatL l) = true
    rw [h a List.mem_cons_self, flatL_of fun t ht => h t (List.mem_cons_of_mem _ ht)]
    rfl
theorem ThOk.mono {m n : Nat} {t : Th} (h : ThOk m t) (hmn : m ≤ n) : ThOk n t := ⟨h.f, h.o, Nat.le_trans h.d hmn, h.c⟩
theorem ThOk.sub {n : Nat} {l : List Th} (h : ThOk (n + 1) (.tup l)) {t : Th} (ht : t ∈ l) : ThOk n t := ⟨fewL_mem (by have := h.f; rw [show (Th.tup l).few = (decide (l.length ≤ 1000) && Th.fewL l) from rfl, Bool.and_eq_true] at this; exact this.2) ht, onlyTL_mem h.o ht, by have h2 : Th.tdpL l + 1 ≤ n + 1 := h.d; have := tdpL_mem ht; omega, layL_mem h.c ht⟩
theorem ThOk.len {n : Nat} {l : List Th} (h : ThOk n (.tup l)) : l.length ≤ 1000 := by
  have := h.f
  rw [show (Th.tup l).few = (decide (l.length ≤ 1000) && Th.fewL l) from rfl, Bool.and_eq_true] at this
  exact of_decide_eq_true this.1
theorem ThOk.tup {n : Nat} {l : List Th} (hl : l.length ≤ 1000) (h : ∀ t ∈ l, ThOk n t) : ThOk (n + 1) (.tup l) := ⟨by show (decide (l.length ≤ 1000) && Th.fewL l) = true; rw [decide_eq_true hl, fewL_of fun t ht => (h t ht).f]; rfl, onlyTL_of fun t ht => (h t ht).o, Nat.succ_le_succ (tdpL_of fun t ht => (h t ht).d), layL_of fun t ht => (h t ht).c⟩
theorem ThOk.pos {t : Th} : 1 ≤ t.tdp := by cases t <;> first | exact Nat.le_refl 1 | exact Nat.succ_pos _
theorem ThOk.fd : ∀ (n : Nat) {t : Th}, ThOk n t → t.flat = true ∧ t.py.depth ≤ n
  | 0, t, h => by have := h.d; have := ThOk.pos (t := t); omega
  | n + 1, t, h => by
    cases t with
    | tup l => exact ⟨flatL_of fun t ht => (ThOk.fd n (h.sub ht)).1, Nat.succ_le_succ (depL_of fun t ht => (ThOk.fd n (h.sub ht)).2)⟩
    | lst l => cases h.o
    | dct => cases h.o
    | _ => exact ⟨rfl, Nat.zero_le _⟩
theorem ThOk.shaped {n : Nat} {t : Th} (h : ThOk n t) (hn : n ≤ 64) : SeqAt.shaped t.py = true := by
  show (t.py.canLay0 && decide (t.py.depth ≤ 64)) = true
  rw [h.c, decide_eq_true (Nat.le_trans (ThOk.fd n h).2 hn)]
  rfl
theorem lst_shaped {n : Nat} {l : List Th} (h : ∀ t ∈ l, ThOk n t) (hn : n ≤ 60) : Th.flatL l = true ∧ SeqAt.shaped (.list (Th.pyL l)) = true := by
  refine ⟨flatL_of fun t ht => (ThOk.fd n (h t ht)).1, ?_⟩
  show (PyData.canLayAll0 (Th.pyL l) && decide (PyData.depthAll (Th.pyL l) + 1 ≤ 64)) = true
  rw [layL_of fun t ht => (h t ht).c, decide_eq_true (by have := depL_of (l := l) fun t ht => (ThOk.fd n (h t ht)).2; omega)]
  rfl
theorem list_nil_eqv (l : List Th) : PyData.eqv (.list (Th.pyL l)) (.list []) = decide (l = []) := by
  cases l with
  | nil => rfl
  | cons a l => rfl
theorem hasBL_filter : ∀ l : List Th, Th.hasBL l = !decide (l.filter (·.hasB) = [])
  | [] => rfl
  | t :: l => by
    show (t.hasB || Th.hasBL l) = _
    rw [List.filter_cons, hasBL_filter l]
    cases t.hasB <;> rfl
section
variable {K : PySem.W.Frag} {H : Hp} {t : Th} {v : V}
theorem isi_tup (hd : Data H t v) (o : t.onlyT = true) : ∃ t2 u, ClsV (.ty "tuple") u ∧ TyX K H v t2 ∧ PySem.W.kitOne K t2 u = some t.isT := by
  cases t with
  | tup l => obtain ⟨p, xs, rfl, hp, _⟩ := hd; exact ⟨.type "tuple", _, .ty _, .base (.tup hp), (show PySem.W.kitOne K _ _ = some true from kit_ty (by decide +kernel))⟩
  | lst l => cases o
  | dct => cases o
  | non => obtain rfl := hd; exact ⟨.type "NoneType", _, .ty _, .base .non, (show PySem.W.kitOne K _ _ = some false from kit_ty (by decide +kernel))⟩
  | bl b => obtain rfl := hd; exact ⟨.type "bool", _, .ty _, .base (.bl _), (show PySem.W.kitOne K _ _ = some false from kit_ty (by decide +kernel))⟩
  | int b => obtain rfl := hd; exact ⟨.type "int", _, .ty _, .base (.int _), (show PySem.W.kitOne K _ _ = some false from kit_ty (by decide +kernel))⟩
  | str b => obtain rfl := hd; exact ⟨.type "str", _, .ty _, .base (.str _), (show PySem.W.kitOne K _ _ = some false from kit_ty (by decide +kernel))⟩
theorem isi_bool (hd : Data H t v) (o : t.onlyT = true) : ∃ t2 u, ClsV (.ty "bool") u ∧ TyX K H v t2 ∧ PySem.W.kitOne K t2 u = some t.isB := by
  cases t with
  | tup l => obtain ⟨p, xs, rfl, hp, _⟩ := hd; exact ⟨.type "tuple", _, .ty _, .base (.tup hp), (show PySem.W.kitOne K _ _ = some false from kit_ty (by decide +kernel))⟩
  | lst l => cases o
  | dct => cases o
  | non => obtain rfl := hd; exact ⟨.type "NoneType", _, .ty _, .base .non, (show PySem.W.kitOne K _ _ = some false from kit_ty (by decide +kernel))⟩
  | bl b => obtain rfl := hd; exact ⟨.type "bool", _, .ty _, .base (.bl _), (show PySem.W.kitOne K _ _ = some true from kit_ty (by decide +kernel))⟩
  | int b => obtain rfl := hd; exact ⟨.type "int", _, .ty _, .base (.int _), (show PySem.W.kitOne K _ _ = some false from kit_ty (by decide +kernel))⟩
  | str b => obtain rfl := hd; exact ⟨.type "str", _, .ty _, .base (.str _), (show PySem.W.kitOne K _ _ = some false from kit_ty (by decide +kernel))⟩
end
def spHasG (n : Nat) : Sp := fun vs H Q _ => ∃ (v : V) (t : Th), vs = [v] ∧ Data H t v ∧ ThOk n t ∧ n ≤ 60 ∧ ∀ H', Same H H' → Q (.bl t.hasB) H'
def spShowsG : Sp := fun vs H Q _ => ∃ (hv : V) (oD W : Addr) (h : House) (old : Old) (kn : List Pr) (t : List Nat) (pz : V) (po : Th), vs = [hv, .ref oD, .ref W, .str (SX.S t), pz] ∧ HouseAt H h hv ∧ OldAt H old oD ∧ Rd H W (.dK (numsK kn)) ∧ (t ∈ kn.map (·.1) → PapOk h old kn t) ∧ (∀ p ∈ old, p.2.1.length ≤ 1000) ∧ Data H po pz ∧ ThOk 14 po ∧
  ∀ H', Same H H' → Q (.bl (decide (t ∈ kn.map (·.1)) && (PyData.eqv po.py (paperR h old kn t).th.py && !po.hasB))) H'
def spAlike (n : Nat) : Sp := fun vs H Q _ => ∃ (v u : V) (a b : Th), vs = [v, u] ∧ Data H a v ∧ Data H b u ∧ ThOk n a ∧ ThOk n b ∧ n ≤ 60 ∧ ∀ H', Same H H' → Q (.bl (Th.alk a b)) H'
section
variable {P : Program} {w : World} {K : PySem.W.Frag} {mg : Str → Option Value} {base : Heap}
theorem ok_has_truthsG (T : Txt K mg) (D : IsDef K mg "has_truths" s_has_truths ["thing"]) : ∀ n, Cal P w K mg base CX0 n "has_truths" ["thing"] (spHasG n)
  | 0 => cal_none D fun vs H Q E h => by
    obtain ⟨v, t, _, _, h0, _⟩ := h
    have := h0.d
    have := ThOk.pos (t := t)
    omega
  | n + 1 => by
    have C_has_truths := ok_has_truthsG T D n
    refine D.cal (k := n) sc_has_truths (fun vs H Q E h => ?_) (fun f cdv A outer s H vs Q E hr h => ?_)
    · obtain ⟨_, _, rfl, _⟩ := h
      rfl
    obtain ⟨v, t, rfl, hd, ok, hn, q⟩ := h
    refine ⟨_, (pss_cons (ps_if (pt_val (pe_callB call_isi (by rfl) T.b_isinstance (by decide +kernel) (pa_cons (pv 0) (pa_cons (pe_bltn (v := .ty "tuple") (by rfl) T.b_tuple (by decide +kernel) rfl) pa_nil))))
        (pss_one (ps_ret (pe_cmpR (op_neD hr.units) (pe_lc (own := [("part", 1)]) (g := gName 1)  (by rfl) sc_has_truths.nd  (pi_tup (pv 0)) (blkOk_by (own := [("part", 1)]) (N := N_has_truths) (sc := defScope s_has_truths) (by decide +kernel)) (fun _ _ _ _ _ => (pg_name (i := 1) sc_has_truths.nd rfl (Or.inl rfl))) (fun _ _ _ _ _ => (pts_one (pt_val (pe_cal C_has_truths (hr.mono (by first | decide | omega)) pass0 (pa_cons (pv 1) pa_nil))))) (fun _ _ _ _ _ => (pv 1))) (pe_lstA pa_nil) (nomark _))))
        pss_nil)
      (pss_one (ps_ret (pe_callB call_isi (by rfl) T.b_isinstance (by decide +kernel) (pa_cons (pv 0) (pa_cons (pe_bltn (v := .ty "bool") (by rfl) T.b_bool (by decide +kernel) rfl) pa_nil)))))), ?_⟩
    refine ⟨_, rfl, ?_⟩
    obtain ⟨t2, u2, k1, k2, k3⟩ := isi_tup (K := K) hd ok.o
    refine ⟨_, _, t2, u2, _, rfl, k1, k2, k3, _, rfl, ?_⟩
    clear k1 k2 k3
    cases t with
    | tup l =>
      obtain ⟨p, xs, rfl, hp, hl⟩ := hd
      refine iteT ?_
      refine ⟨_, rfl, p, rfl, ⟨_, SqT.of hp⟩, fun M nM => lc_it (walk_tup (xs := xs)) (fun i Z => Same H Z ∧ ∃ ys, Z M = some (.lst ys) ∧ DataL H ((l.take i).filter (·.hasB)) ys) ⟨same_new nM _, [], upd_same, by rw [List.take_zero]; rfl⟩ (fun i Z _ h => SqT.of (h.1 _ _ hp)) ?_ ?_⟩
      · rintro i x Z0 Z hi ⟨sZ, ys, eZ, hy⟩ ⟨rfl, hx⟩
        obtain ⟨t, ht, hdt⟩ := hl.at hx
        have tm := List.mem_of_getElem? ht
        refine ⟨rfl, _, rfl, x, t, rfl, hdt.same sZ, ok.sub tm, by omega, fun Z2 z2 => ?_⟩
        refine ⟨_, rfl, ?_⟩
        rw [List.take_add_one, ht, List.filter_append]
        show if t.hasB = true then _ else _
        cases c : t.hasB with
        | false =>
          refine iteF ⟨sZ.trans z2, ys, z2 _ _ eZ, ?_⟩
          rw [show List.filter (·.hasB) (some t).toList = [] by show List.filter _ [t] = []; rw [List.filter_cons, c]; rfl, List.append_nil]
          exact hy
        | true =>
          have yl : ys.length ≤ l.length := by rw [hy.len]; exact Nat.le_trans (List.length_filter_le _ _) (by rw [List.length_take]; omega)
          refine iteT ⟨_, rfl, ys, z2 _ _ eZ, ?_, same_upd (sZ.trans z2) nM _, _, upd_same, ?_⟩
          · have := ok.len
            exact lt_line (by omega)
          · rw [show List.filter (·.hasB) (some t).toList = [t] by show List.filter _ [t] = [t]; rw [List.filter_cons, c]; rfl]
            exact DataL.snoc hdt hy
      · rintro Z ⟨sZ, ys, eZ, hy⟩
        rw [List.take_of_length_le (by rw [hl.len]; exact Nat.le_refl _)] at hy
        refine ⟨Nat.zero_le _, fun N Z2 nN z2' eN => ?_⟩
        have z2 : Same Z Z2 := z2'
        have fok : ∀ t ∈ l.filter (·.hasB), ThOk n t := fun t ht => ok.sub (List.mem_filter.mp ht).1
        obtain ⟨f1, f2⟩ := lst_shaped fok (by omega)
        refine ⟨_, _, Data.dp (t := .lst _) f1 ⟨M, ys, rfl, z2 _ _ eZ, hy.same (sZ.trans z2)⟩, .lst (SqL.of eN) .nil, f2, rfl, ?_⟩
        have : Q (.bl (Th.hasBL l)) Z2 := q Z2 (sZ.trans z2)
        rw [hasBL_filter] at this
        rw [show Th.py (.lst (l.filter (·.hasB))) = .list (Th.pyL (l.filter (·.hasB))) from rfl, list_nil_eqv]
        exact this
    | lst l => cases ok.o
    | dct => cases ok.o
    | non => obtain ⟨t2, u2, k1, k2, k3⟩ := isi_bool (K := K) hd ok.o; exact iteF ⟨_, rfl, _, _, t2, u2, _, rfl, k1, k2, k3, q H fun _ _ e => e⟩
    | bl b => obtain ⟨t2, u2, k1, k2, k3⟩ := isi_bool (K := K) hd ok.o; exact iteF ⟨_, rfl, _, _, t2, u2, _, rfl, k1, k2, k3, q H fun _ _ e => e⟩
    | int b => obtain ⟨t2, u2, k1, k2, k3⟩ := isi_bool (K := K) hd ok.o; exact iteF ⟨_, rfl, _, _, t2, u2, _, rfl, k1, k2, k3, q H fun _ _ e => e⟩
    | str b => obtain ⟨t2, u2, k1, k2, k3⟩ := isi_bool (K := K) hd ok.o; exact iteF ⟨_, rfl, _, _, t2, u2, _, rfl, k1, k2, k3, q H fun _ _ e => e⟩
theorem ok_paper_showsG (T : Txt K mg) (D : IsDef K mg "paper_shows" s_paper_shows ["house", "records", "worths", "name", "paper"]) (C_pb : Cal P w K mg base CX0 2 "paper_by" ["house", "records", "worths", "name"] spPaperBy) (C_ht : Cal P w K mg base CX0 14 "has_truths" ["thing"] (spHasG 14)) :
    Cal P w K mg base CX0 15 "paper_shows" ["house", "records", "worths", "name", "paper"] spShowsG := by
  have C_paper_by := C_pb.mono (show 2 ≤ 14 by decide)
  have C_has_truths := C_ht
  refine D.cal sc_paper_shows (fun vs H Q E h => ?_) (fun f cdv A outer s H vs Q E hr h => ?_)
  · obtain ⟨_, _, _, _, _, _, _, _, _, rfl, _⟩ := h
    rfl
  obtain ⟨hv, oD, W, h, old, kn, t, pz, po, rfl, hH, hO, hW, hP, hl, hd, ok, q⟩ := h
  have hu : (cxOf CX0 P w K mg base N_paper_shows "paper_shows" (defScope s_paper_shows) f cdv A outer s H E).A.units + 1 < cLine := Nat.lt_of_le_of_lt (Nat.add_le_add_left (by decide : 1 ≤ 64) _) hr.units
  refine ⟨_, (pss_cons (ps_if (PW.pt (pw_or (pt_cmp (pc_dnotin hu (pv 3) (pv 2))) (pw_or1 (pt_cmpR (op_neD hr.units) (pv 4) (pe_cal C_paper_by (hr.mono (by first | decide | omega)) pass0 (pa_cons (pv 0) (pa_cons (pv 1) (pa_cons (pv 2) (pa_cons (pv 3) pa_nil))))) (nomark _)))))
        (pss_one (ps_ret pe_bl))
        pss_nil)
      (pss_one (ps_ret (pe_not (pe_cal C_has_truths (hr.mono (by first | decide | omega)) pass0 (pa_cons (pv 4) pa_nil)))))), ?_⟩
  refine ⟨_, rfl, _, rfl, W, _, rfl, DGet.rd (k := kT (SX.S t)) hW, _, rfl, ?_⟩
  rw [val_seen]
  cases hx : seen kn t with
  | none =>
    refine iteT ?_
    rw [decide_eq_false (seen_none hx)] at q
    exact q H fun _ _ e => e
  | some x =>
    have ht := seen_key hx
    rw [decide_eq_true ht] at q
    refine iteF ?_
    refine ⟨_, rfl, _, rfl, _, rfl, _, rfl, _, rfl, hv, oD, W, h, old, kn, t, rfl, hH, hO, hW, hP ht, hl, fun H1 v1 s1 hv1 => ?_⟩
    refine ⟨_, _, Data.dp (ThOk.fd 14 ok).1 (hd.same s1), Data.dp (Paper.flat _) hv1, ok.shaped (by decide), Paper.shaped (paperR_ok (hP ht)), _, rfl, ?_⟩
    cases c : PyData.eqv po.py (paperR h old kn t).th.py with
    | false =>
      refine not_false_eq rfl ?_
      rw [c] at q
      exact q H1 s1
    | true =>
      refine not_true_eq rfl ?_
      rw [c] at q
      refine ⟨_, rfl, pz, po, rfl, hd.same s1, ok, by decide, fun H2 s2 => ⟨_, rfl, ?_⟩⟩
      exact q H2 (s1.trans s2)
theorem alkL_at : ∀ {l m : List Th}, l.length = m.length → Th.alkL l m = decide ((List.range l.length).filter (fun k => !Th.alk (l.getD k .non) (m.getD k .non)) = [])
  | [], [], _ => rfl
  | a :: l, b :: m, h => by
    have h' : l.length = m.length := Nat.succ.inj h
    show (Th.alk a b && Th.alkL l m) = _
    rw [List.length_cons, List.range_succ_eq_map, List.filter_cons, List.filter_map, alkL_at h']
    show _ = decide ((if (!Th.alk a b) = true then _ else _ : List Nat) = [])
    cases c : Th.alk a b with
    | false => rfl
    | true =>
      show _ = decide (List.map _ _ = [])
      rw [Bool.true_and]
      refine decide_eq_decide.mpr ?_
      rw [List.map_eq_nil_iff]
      rfl
  | [], _ :: _, h => nomatch h
  | _ :: _, [], h => nomatch h
abbrev s__law_alike : Stmt := topS 23
abbrev N__law_alike : List Str := ["one", "other", "k"]
theorem sc__law_alike : FnScope N__law_alike ["one", "other"] (defScope s__law_alike) := ⟨rfl, rfl, rfl, by decide +kernel, rfl, by decide +kernel, by decide +kernel⟩

theorem ok__law_alike32 (T : Txt K mg) (D : IsDef K mg "_law_alike" s__law_alike ["one", "other"]) : ∀ n, Cal P w K mg base CX0 n "_law_alike" ["one", "other"] (spAlike n)
  | 0 => cal_none D fun vs H Q E h => by
    obtain ⟨v, u, t, b, _, _, _, h0, _⟩ := h
    have := h0.d
    have := ThOk.pos (t := t)
    omega
  | n + 1 => by
    have C__law_alike := ok__law_alike32 T D n
    refine D.cal (k := n) sc__law_alike (fun vs H Q E h => ?_) (fun f cdv A outer s H vs Q E hr h => ?_)
    · obtain ⟨_, _, _, _, rfl, _⟩ := h
      rfl
    obtain ⟨v, u, a, b, rfl, hd, he, oa, ob, hn, q⟩ := h
    refine ⟨_, (pss_cons (ps_if (PW.pt (pw_and (pt_val (pe_callB call_isi (by rfl) T.b_isinstance (by decide +kernel) (pa_cons (pv 0) (pa_cons (pe_bltn (v := .ty "tuple") (by rfl) T.b_tuple (by decide +kernel) rfl) pa_nil)))) (pw_and1 (pt_val (pe_callB call_isi (by rfl) T.b_isinstance (by decide +kernel) (pa_cons (pv 1) (pa_cons (pe_bltn (v := .ty "tuple") (by rfl) T.b_tuple (by decide +kernel) rfl) pa_nil)))))))
        (pss_cons (ps_if (pt_cmpR op_ne (pe_callB call_len_seq (by rfl) T.b_len PySem.boot_len (pa_cons (pv 0) pa_nil)) (pe_callB call_len_seq (by rfl) T.b_len PySem.boot_len (pa_cons (pv 1) pa_nil)) (nomark _))
        (pss_one (ps_ret pe_bl))
        pss_nil)
      (pss_one (ps_ret (pe_cmpR (op_eqD hr.units) (pe_lc (own := [("k", 2)]) (g := gName 2)  (by rfl) sc__law_alike.nd  (pi_range1 rfl T.b_range (pa_cons (pe_callB call_len_seq (by rfl) T.b_len PySem.boot_len (pa_cons (pv 0) pa_nil)) pa_nil)) (blkOk_by (own := [("k", 2)]) (N := N__law_alike) (sc := defScope s__law_alike) (by decide +kernel)) (fun _ _ _ _ _ => (pg_name (i := 2) sc__law_alike.nd rfl (Or.inl rfl))) (fun _ _ _ _ _ => (pts_one (pt_not (pt_val (pe_cal C__law_alike (hr.mono (by first | decide | omega)) pass0 (pa_cons (pe_ix (r := rIxT K) ix_tup (pv 0) (pv 2) (fun _ _ => rfl)) (pa_cons (pe_ix (r := rIxT K) ix_tup (pv 1) (pv 2) (fun _ _ => rfl)) pa_nil))))))) (fun _ _ _ _ _ => (pv 2))) (pe_lstA pa_nil) (nomark _)))))
        pss_nil)
      (pss_one (ps_ret (pe_and (pe_cmpR (op_eqD hr.units) (pv 0) (pv 1) (nomark _)) (pe_one (pe_cmpR op_eq (pe_callB call_isi (by rfl) T.b_isinstance (by decide +kernel) (pa_cons (pv 0) (pa_cons (pe_bltn (v := .ty "bool") (by rfl) T.b_bool (by decide +kernel) rfl) pa_nil))) (pe_callB call_isi (by rfl) T.b_isinstance (by decide +kernel) (pa_cons (pv 1) (pa_cons (pe_bltn (v := .ty "bool") (by rfl) T.b_bool (by decide +kernel) rfl) pa_nil))) (nomark _))))))), ?_⟩
    have last : (a.isT && b.isT) = false → Th.alk a b = (PyData.eqv a.py b.py && (a.isB == b.isB)) := fun z => by
      cases a with
      | tup l =>
        cases b with
        | tup m => cases z
        | _ => rfl
      | _ => rfl
    refine ⟨_, rfl, ?_⟩
    obtain ⟨t2, u2, k1, k2, k3⟩ := isi_tup (K := K) hd oa.o
    obtain ⟨t3, u3, k4, k5, k6⟩ := isi_tup (K := K) he ob.o
    refine ⟨_, _, t2, u2, _, rfl, k1, k2, k3, _, rfl, ?_⟩
    by_cases c : (a.isT && b.isT) = true
    · obtain ⟨l, rfl⟩ : ∃ l, a = .tup l := by cases a <;> first | exact ⟨_, rfl⟩ | cases c
      obtain ⟨m, rfl⟩ : ∃ m, b = .tup m := by cases b <;> first | exact ⟨_, rfl⟩ | cases c
      refine iteT ⟨_, rfl, _, _, t3, u3, _, rfl, k4, k5, k6, _, rfl, iteT ?_⟩
      obtain ⟨p, xs, rfl, hp, hl⟩ := hd
      obtain ⟨p2, ys, rfl, hp2, hm⟩ := he
      refine ⟨_, rfl, p, _, rfl, .inr (SqT.of hp), _, rfl, p2, _, rfl, .inr (SqT.of hp2), rfl, _, rfl, ?_⟩
      by_cases cl : l.length = m.length
      · refine not_true_eq (decide_eq_true (by rw [hl.len, hm.len, cl])) ?_
        have hl1 := oa.len
        have hxl := hl.len
        refine ⟨_, rfl, p, _, rfl, .inr (SqT.of hp), _, rfl, by omega, by omega, fun M nM => ?_⟩
        have en : ((xs.length : Nat) : Int).toNat = l.length := by rw [hl.len]; omega
        rw [en]
        refine lc_range (lo := 0) (n := l.length) (fun i Z => Same H Z ∧ Z M = some (.lst (((List.range i).filter (fun k => !Th.alk (l.getD k .non) (m.getD k .non))).map fun (k : Nat) => V.int (k : Int)))) ⟨same_new nM _, upd_same⟩ ?_ ?_
        · rintro i Z hi ⟨sZ, eZ⟩
          have hi2 : i < m.length := by omega
          obtain ⟨x1, e1, d1⟩ := hl.get (List.getElem?_eq_getElem hi)
          obtain ⟨x2, e2, d2⟩ := hm.get (List.getElem?_eq_getElem hi2)
          refine ⟨rfl, _, rfl, _, rfl, p, _, _, _, rfl, rfl, SqT.of (sZ _ _ hp), (by rw [Int.zero_add]; exact atI_nat e1), _, rfl, _, rfl, p2, _, _, _, rfl, rfl, SqT.of (sZ _ _ hp2), (by rw [Int.zero_add]; exact atI_nat e2), x1, x2, l[i], m[i], rfl, d1.same sZ, d2.same sZ, oa.sub (List.getElem_mem _), ob.sub (List.getElem_mem _), by omega, fun Z2 z2 => ⟨_, rfl, ?_⟩⟩
          have g1 : l.getD i .non = l[i] := by rw [List.getD_eq_getElem?_getD, List.getElem?_eq_getElem hi]; rfl
          have g2 : m.getD i .non = m[i] := by rw [List.getD_eq_getElem?_getD, List.getElem?_eq_getElem hi2]; rfl
          rw [List.range_succ, List.filter_append, List.map_append, List.filter_cons, g1, g2]
          cases c1 : Th.alk l[i] m[i] with
          | true =>
            refine not_true_eq rfl ⟨sZ.trans z2, ?_⟩
            rw [z2 _ _ eZ]
            exact congrArg (fun z => some (HO.lst z)) (List.append_nil _).symm
          | false =>
            refine not_false_eq rfl ⟨_, rfl, _, z2 _ _ eZ, lt_line ?_, same_upd (sZ.trans z2) nM _, ?_⟩
            · rw [List.length_map]
              have := List.length_filter_le (fun k => !Th.alk (l.getD k .non) (m.getD k .non)) (List.range i)
              rw [List.length_range] at this
              omega
            · rw [upd_same, Int.zero_add]
              rfl
        · rintro Z ⟨sZ, eZ⟩
          refine ⟨Nat.zero_le _, fun N Z2 nN z2' eN => ?_⟩
          have z2 : Same Z Z2 := z2'
          obtain ⟨ks, eks⟩ : ∃ ks, ks = (List.range l.length).filter (fun k => !Th.alk (l.getD k .non) (m.getD k .non)) := ⟨_, rfl⟩
          rw [← eks] at eZ
          obtain ⟨f1, f2⟩ := lst_shaped (n := 1) (l := ks.map fun (k : Nat) => Th.int (k : Int)) (fun t ht => by obtain ⟨k, _, rfl⟩ := List.mem_map.mp ht; exact ⟨rfl, rfl, Nat.le_refl _, rfl⟩) (by decide)
          have key : ∀ ks : List Nat, DataL Z2 (ks.map fun (k : Nat) => Th.int (k : Int)) (ks.map fun (k : Nat) => V.int (k : Int)) := by
            intro ks
            induction ks with
            | nil => rfl
            | cons k ks ih => exact ⟨_, _, rfl, rfl, ih⟩
          refine ⟨_, _, Data.dp (t := .lst _) f1 ⟨M, _, rfl, z2 _ _ eZ, key ks⟩, .lst (SqL.of eN) .nil, f2, rfl, ?_⟩
          have : Q (.bl (Th.alkL l m)) Z2 := q Z2 (sZ.trans z2)
          rw [alkL_at cl, ← eks] at this
          rw [show Th.py (.lst (ks.map fun (k : Nat) => Th.int (k : Int))) = .list (Th.pyL (ks.map fun (k : Nat) => Th.int (k : Int))) from rfl, list_nil_eqv]
          rw [show decide (ks.map (fun (k : Nat) => Th.int (k : Int)) = []) = decide (ks = []) from decide_eq_decide.mpr List.map_eq_nil_iff]
          exact this
      · refine not_false_eq (decide_eq_false fun z => cl (by have := V.int.inj z; rw [hl.len, hm.len] at this; omega)) ?_
        have : Th.alk (.tup l) (.tup m) = false := by
          show Th.alkL l m = false
          have key : ∀ {l m : List Th}, l.length ≠ m.length → Th.alkL l m = false := by
            intro l
            induction l with
            | nil => intro m h; cases m <;> first | exact absurd rfl h | rfl
            | cons a l ih => intro m h; cases m with
              | nil => rfl
              | cons b m => show (Th.alk a b && Th.alkL l m) = false; rw [ih fun z => h (congrArg (· + 1) z), Bool.and_false]
          exact key cl
        rw [this] at q
        exact q H fun _ _ e => e
    · have c := Bool.eq_false_iff.mpr c
      have tail : Q (.bl (PyData.eqv a.py b.py && (a.isB == b.isB))) H := by rw [← last c]; exact q H fun _ _ e => e
      obtain ⟨t4, u4, k7, k8, k9⟩ := isi_bool (K := K) hd oa.o
      obtain ⟨t5, u5, l1, l2, l3⟩ := isi_bool (K := K) he ob.o
      cases ca : a.isT with
      | false =>
        refine iteF (iteF ?_)
        refine ⟨_, rfl, _, rfl, _, _, Data.dp (ThOk.fd _ oa).1 hd, Data.dp (ThOk.fd _ ob).1 he, oa.shaped (by omega), ob.shaped (by omega), _, rfl, ?_⟩
        cases ce : PyData.eqv a.py b.py with
        | false =>
          rw [ce] at tail
          exact iteF tail
        | true =>
          rw [ce] at tail
          refine iteT ⟨_, rfl, _, _, t4, u4, _, rfl, k7, k8, k9, _, rfl, _, _, t5, u5, _, rfl, l1, l2, l3, rfl, ?_⟩
          have : decide (V.bl a.isB = V.bl b.isB) = (a.isB == b.isB) := by cases a.isB <;> cases b.isB <;> rfl
          rw [this]
          exact tail
      | true =>
        have cb : b.isT = false := by rw [ca] at c; exact c
        rw [cb] at k6
        refine iteT ⟨_, rfl, _, _, t3, u3, _, rfl, k4, k5, k6, _, rfl, iteF ?_⟩
        refine ⟨_, rfl, _, rfl, _, _, Data.dp (ThOk.fd _ oa).1 hd, Data.dp (ThOk.fd _ ob).1 he, oa.shaped (by omega), ob.shaped (by omega), _, rfl, ?_⟩
        cases ce : PyData.eqv a.py b.py with
        | false =>
          rw [ce] at tail
          exact iteF tail
        | true =>
          rw [ce] at tail
          refine iteT ⟨_, rfl, _, _, t4, u4, _, rfl, k7, k8, k9, _, rfl, _, _, t5, u5, _, rfl, l1, l2, l3, rfl, ?_⟩
          have : decide (V.bl a.isB = V.bl b.isB) = (a.isB == b.isB) := by cases a.isB <;> cases b.isB <;> rfl
          rw [this]
          exact tail
end
/-! ### other papers -/
open LamX NdefX
def Gd (n : Nat) (H : Hp) (v : V) : Prop := ∃ t, Data H t v ∧ ThOk n t
theorem gA {R : V → Prop} : ∀ x ∈ ([] : List V), R x := fun _ h => nomatch h
theorem gC {R : V → Prop} {a : V} {l : List V} (h : R a) (hs : ∀ x ∈ l, R x) : ∀ x ∈ a :: l, R x := fun x hx => (List.mem_cons.mp hx).elim (fun e => by rw [e]; exact h) (hs x)
theorem gApp {R : V → Prop} {l m : List V} (h : ∀ x ∈ l, R x) (hs : ∀ x ∈ m, R x) : ∀ x ∈ l ++ m, R x := fun x hx => (List.mem_append.mp hx).elim (h x) (hs x)
section
variable {n m : Nat} {H H' : Hp} {v : V}
theorem Gd.keep (k : Keep H H') (g : Gd n H v) : Gd n H' v := by
  obtain ⟨t, d, ok⟩ := g
  exact ⟨t, Data.keepT k ok.o d, ok⟩
theorem Gd.same (k : Same H H') (g : Gd n H v) : Gd n H' v := g.keep (same_keep k)
theorem Gd.mono (g : Gd n H v) (h : n ≤ m) : Gd m H v := by
  obtain ⟨t, d, ok⟩ := g
  exact ⟨t, d, ok.mono h⟩
theorem Gd.int (i : Int) (h : 1 ≤ n) : Gd n H (.int i) := ⟨.int i, rfl, rfl, rfl, h, rfl⟩
theorem Gd.bl (i : Bool) (h : 1 ≤ n) : Gd n H (.bl i) := ⟨.bl i, rfl, rfl, rfl, h, rfl⟩
theorem Gd.non (h : 1 ≤ n) : Gd n H .non := ⟨.non, rfl, rfl, rfl, h, rfl⟩
theorem Gd.str {s : Str} {l : List Nat} (e : s = SX.S l) (hl : ∀ c ∈ l, c < 128) (h : 1 ≤ n) : Gd n H (.str s) := ⟨.str l, by rw [e]; rfl, rfl, rfl, h, str_lay hl⟩
theorem Gd.tup {p : Addr} {xs : List V} (e : H p = some (.tup xs)) (hx : ∀ x ∈ xs, Gd n H x) (hl : xs.length ≤ 1000) : Gd (n + 1) H (.ref p) := by
  have key : ∀ xs : List V, (∀ x ∈ xs, Gd n H x) → ∃ l, DataL H l xs ∧ ∀ t ∈ l, ThOk n t := by
    intro xs
    induction xs with
    | nil => exact fun _ => ⟨[], rfl, fun _ h => nomatch h⟩
    | cons x xs ih =>
      intro h
      obtain ⟨t, d, ok⟩ := h x List.mem_cons_self
      obtain ⟨l, d2, ok2⟩ := ih fun y hy => h y (List.mem_cons_of_mem _ hy)
      exact ⟨t :: l, ⟨x, xs, rfl, d, d2⟩, fun y hy => (List.mem_cons.mp hy).elim (fun e => by rw [e]; exact ok) (ok2 y)⟩
  obtain ⟨l, d, ok⟩ := key xs hx
  exact ⟨.tup l, ⟨p, xs, rfl, e, d⟩, ThOk.tup (by rw [← d.len]; exact hl) ok⟩
theorem Gd.elems {p : Addr} {xs : List V} (g : Gd (n + 1) H (.ref p)) (e : H p = some (.tup xs)) : (∀ x ∈ xs, Gd n H x) ∧ xs.length ≤ 1000 := by
  obtain ⟨t, d, ok⟩ := g
  cases t with
  | tup l =>
    obtain ⟨p', xs', e1, e2, dl⟩ := d
    cases e1
    rw [e] at e2
    cases e2
    refine ⟨fun x hx => ?_, by rw [dl.len]; exact ok.len⟩
    obtain ⟨i, hi⟩ := List.mem_iff_getElem?.mp hx
    obtain ⟨t, ht, dt⟩ := dl.at hi
    exact ⟨t, dt, ok.sub (List.mem_of_getElem? ht)⟩
  | lst l => cases ok.o
  | dct => cases ok.o
  | non => cases d
  | bl _ => cases d
  | int _ => cases d
  | str _ => cases d
end
theorem cut_sub {xs : List V} {lo hi : Option Int} {x : V} (h : x ∈ cutV xs lo hi) : x ∈ xs := by
  unfold cutV at h
  exact List.mem_of_mem_drop (List.mem_of_mem_take h)
theorem nmsTh_few : ∀ ns : List (List Nat), Th.fewL (nmsTh ns) = true
  | [] => rfl
  | a :: l => by show (true && Th.fewL (nmsTh l)) = true; rw [nmsTh_few l]; rfl
theorem Rcp.few : ∀ {r : Rcp}, r.Wn → r.th.few = true
  | .num _, _ => rfl
  | .read _, _ => rfl
  | .two _ a b, h => by show (decide (3 ≤ 1000) && (true && (a.th.few && (b.th.few && true)))) = true; rw [Rcp.few h.1, Rcp.few h.2]; rfl
  | .pick a b c, h => by show (decide (4 ≤ 1000) && (true && (a.th.few && (b.th.few && (c.th.few && true))))) = true; rw [Rcp.few h.1, Rcp.few h.2.1, Rcp.few h.2.2]; rfl
  | .choose a ns, h => by
    have hl : (nmsTh ns).length ≤ 1000 := by
      have := h.2.2.1
      unfold nmsTh
      rw [List.length_map]
      omega
    show (decide (3 ≤ 1000) && (true && (a.th.few && ((decide ((nmsTh ns).length ≤ 1000) && Th.fewL (nmsTh ns)) && true)))) = true
    rw [Rcp.few h.1, nmsTh_few, decide_eq_true hl]
    rfl
theorem Rcp.thok {r : Rcp} (h : r.Wn) {n : Nat} (hn : r.dep + 1 ≤ n) : ThOk n r.th := ⟨Rcp.few h, Rcp.only r, Nat.le_trans (Rcp.noB r).2 hn, (Rcp.laysW h).1⟩
theorem Paper.thok {p : Paper} (h : p.Ok) : ThOk 12 p.th := by
  refine ⟨?_, Paper.only p, (Paper.noB h).2, SeqAt.canLay_of_shaped (Paper.shaped h)⟩
  cases p with
  | rcp a b =>
    obtain ⟨⟨a1, _⟩, b1, _⟩ := h
    show (decide (3 ≤ 1000) && (true && (a.th.few && (b.th.few && true)))) = true
    rw [Rcp.few a1, Rcp.few b1]
    rfl
  | _ => rfl
def spTruths (n : Nat) : Sp := fun vs H Q _ => ∃ (v : V) (t : Th), vs = [v] ∧ Data H t v ∧ t.noB = true ∧ ThOk n t ∧ n ≤ 60 ∧ ∀ H' v', Same H H' → Gd n H' v' → Q v' H'
theorem two_shape {l : List Th} {s : Str} {i : Int} (hb : Th.noBL l = true) (e : PyData.eqvAll (Th.pyL l) [.str s, .int i] = true) : ∃ z j, l = [.str z, .int j] := by
  match l, hb, e with
  | [], _, e => cases e
  | [a], _, e =>
    have e : (PyData.eqv a.py (.str s) && false) = true := e
    rw [Bool.and_false] at e
    cases e
  | a :: b :: c :: l, _, e =>
    have e : (PyData.eqv a.py (.str s) && (PyData.eqv b.py (.int i) && false)) = true := e
    rw [Bool.and_false, Bool.and_false] at e
    cases e
  | [a, b], hb, e =>
    have e : (PyData.eqv a.py (.str s) && (PyData.eqv b.py (.int i) && true)) = true := e
    have hb : (a.noB && (b.noB && true)) = true := hb
    rw [Bool.and_true, Bool.and_eq_true] at e hb
    obtain ⟨e1, e2⟩ := e
    obtain ⟨h1, h2⟩ := hb
    cases a with
    | str z =>
      cases b with
      | int j => exact ⟨z, j, rfl⟩
      | bl _ => cases h2
      | non => cases e2
      | str _ => cases e2
      | tup _ => cases e2
      | lst _ => cases e2
      | dct => cases e2
    | bl _ => cases e1
    | non => cases e1
    | int _ => cases e1
    | tup _ => cases e1
    | lst _ => cases e1
    | dct => cases e1
def spOthers : Sp := fun vs H Q _ => ∃ (p : Addr) (r : Int) (m : Bool) (c : Int) (po : Paper) (d ot : V), vs = [.ref p, d, ot] ∧ H p = some (.dK (pool r m c)) ∧ 0 ≤ c ∧ c ≤ 900000 ∧ po.Ok ∧ Data H po.th d ∧ Gd 13 H ot ∧
  ∀ (F : Addr) (xs : List V) (r' c' : Int) (H' : Hp), PF p H H' → H F = none → H' F = some (.lst xs) → (∀ x ∈ xs, Gd 13 H' x) → xs.length = 2 → H' p = some (.dK (pool r' m c')) → 0 ≤ c' → c' ≤ c + 2 → Q (.ref F) H'
section
variable {P : Program} {w : World} {K : PySem.W.Frag} {mg : Str → Option Value} {base : Heap}
abbrev s__law_truths : Stmt := topS 22
abbrev N__law_truths : List Str := ["r", "part"]
theorem sc__law_truths : FnScope N__law_truths ["r"] (defScope s__law_truths) := ⟨rfl, rfl, rfl, by decide +kernel, rfl, by decide +kernel, by decide +kernel⟩

theorem ok__law_truths (T : Txt K mg) (D : IsDef K mg "_law_truths" s__law_truths ["r"]) : ∀ n, Cal P w K mg base CX0 n "_law_truths" ["r"] (spTruths n)
  | 0 => cal_none D fun vs H Q E h => by
    obtain ⟨v, t, _, _, _, h0, _⟩ := h
    have := h0.d
    have := ThOk.pos (t := t)
    omega
  | n + 1 => by
    have C__law_truths := ok__law_truths T D n
    refine D.cal (k := n) sc__law_truths (fun vs H Q E h => ?_) (fun f cdv A outer s H vs Q E hr h => ?_)
    · obtain ⟨_, _, rfl, _⟩ := h
      rfl
    obtain ⟨v, t, rfl, hd, hb, ok, hn, q⟩ := h
    refine ⟨_, (pss_cons (ps_if (pt_not (pt_val (pe_callB call_isi (by rfl) T.b_isinstance (by decide +kernel) (pa_cons (pv 0) (pa_cons (pe_bltn (v := .ty "tuple") (by rfl) T.b_tuple (by decide +kernel) rfl) pa_nil)))))
        (pss_one (ps_ret (pv 0)))
        pss_nil)
      (pss_cons (ps_if (PW.pt (pw_or (pt_cmpR (op_eqD hr.units) (pv 0) (pe_tupA (pa_cons pe_str (pa_cons pe_int pa_nil))) (nomark _)) (pw_or1 (pt_cmpR (op_eqD hr.units) (pv 0) (pe_tupA (pa_cons pe_str (pa_cons pe_int pa_nil))) (nomark _)))))
        (pss_one (ps_ret (pe_tupA (pa_cons pe_str (pa_cons (pe_cmpR op_eq (pe_ix (r := rIxT K) ix_tup (pv 0) pe_int (fun _ _ => rfl)) pe_int (nomark _)) pa_nil)))))
        pss_nil)
      (pss_one (ps_ret (pe_callTy call_tuple_of (by rfl) T.b_tuple (by decide +kernel) (pa_cons (pe_lc (own := [("part", 1)]) (g := gName 1)  (by rfl) sc__law_truths.nd  (pi_tup (pv 0)) (blkOk_by (own := [("part", 1)]) (N := N__law_truths) (sc := defScope s__law_truths) (by decide +kernel)) (fun _ _ _ _ _ => (pg_name (i := 1) sc__law_truths.nd rfl (Or.inl rfl))) (fun _ _ _ _ _ => pts_nil) (fun _ _ _ _ _ => (pe_cal C__law_truths (hr.mono (by first | decide | omega)) pass0 (pa_cons (pv 1) pa_nil)))) pa_nil)))))), ?_⟩
    obtain ⟨t2, u2, k1, k2, k3⟩ := isi_tup (K := K) hd ok.o
    refine ⟨_, rfl, _, _, t2, u2, _, rfl, k1, k2, k3, _, rfl, ?_⟩
    cases ct : t.isT with
    | false => exact not_false_eq rfl ⟨_, rfl, q H v (fun _ _ e => e) ⟨t, hd, ok⟩⟩
    | true =>
      obtain ⟨l, rfl⟩ : ∃ l, t = .tup l := by cases t <;> first | exact ⟨_, rfl⟩ | cases ct
      refine not_true_eq rfl ?_
      have hd0 := hd
      obtain ⟨p, xs, rfl, hp, hl⟩ := hd
      have dn : ∀ {Z : Hp} {T : Addr} {i : Int}, Z T = some (.tup [.str "number", .int i]) → Dp K Z (.ref T) (.tuple [.str "number", .int i]) := fun {Z T i} e => .tup (SqT.of e) (.cons (.str _) (.cons (.int _) .nil))
      have ns : ∀ i : Int, SeqAt.shaped (.tuple [.str "number", .int i]) = true := fun i => by
        have h1 : PyData.canLay0 (.str "number") = true := by rw [q_number]; exact str_lay (by decide)
        show ((PyData.canLay0 (.str "number") && (true && true)) && decide (1 ≤ 64)) = true
        rw [h1]
        rfl
      have yes : ∀ {i : Int}, PyData.eqv (Th.tup l).py (.tuple [.str "number", .int i]) = true → 1 ≤ n ∧ ∃ z j, xs = [.str (SX.S z), .int j] := fun {i} e => by
        obtain ⟨z, j, rfl⟩ := two_shape hb e
        obtain ⟨x1, r1, rfl, d1, x2, r2, rfl, d2, d3⟩ := hl
        have h2 : 2 ≤ n + 1 := ok.d
        exact ⟨by omega, z, j, by rw [show x1 = .str (SX.S z) from d1, show x2 = .int j from d2, show r2 = [] from d3]⟩
      refine ⟨_, rfl, le_line (Nat.le_of_ble_eq_true rfl), fun T1 H1 n1 s1' e1 => ?_⟩
      have s1 : Same H H1 := s1'
      refine ⟨_, _, Data.dp (ThOk.fd _ ok).1 (hd0.same s1), dn e1, ok.shaped (by omega), ns 0, _, rfl, ?_⟩
      cases c1 : PyData.eqv (Th.tup l).py (.tuple [.str "number", .int 0]) with
      | true =>
        obtain ⟨n1, z, j, rfl⟩ := yes c1
        refine iteT (iteT ⟨_, rfl, p, _, 1, _, rfl, rfl, SqT.of (s1 _ _ hp), rfl, rfl, le_line (Nat.le_of_ble_eq_true rfl), fun T3 H3 n3 s3' e3 => ?_⟩)
        have s3 : Same H1 H3 := s3'
        exact q H3 _ (s1.trans s3) (Gd.tup e3 (gC (Gd.str q_number (by decide) n1) (gC (Gd.bl _ n1) gA)) (show 2 ≤ 1000 by decide))
      | false =>
      refine iteF ⟨_, rfl, le_line (Nat.le_of_ble_eq_true rfl), fun T2 H2 n2 s2' e2 => ?_⟩
      have s2 : Same H1 H2 := s2'
      have s02 := s1.trans s2
      refine ⟨_, _, Data.dp (ThOk.fd _ ok).1 (hd0.same s02), dn e2, ok.shaped (by omega), ns 1, _, rfl, ?_⟩
      cases c2 : PyData.eqv (Th.tup l).py (.tuple [.str "number", .int 1]) with
      | true =>
        obtain ⟨n1, z, j, rfl⟩ := yes c2
        refine iteT ⟨_, rfl, p, _, 1, _, rfl, rfl, SqT.of (s02 _ _ hp), rfl, rfl, le_line (Nat.le_of_ble_eq_true rfl), fun T3 H3 n3 s3' e3 => ?_⟩
        have s3 : Same H2 H3 := s3'
        exact q H3 _ (s02.trans s3) (Gd.tup e3 (gC (Gd.str q_number (by decide) n1) (gC (Gd.bl _ n1) gA)) (show 2 ≤ 1000 by decide))
      | false =>
      refine iteF ?_
      have hb2 : Th.noBL l = true := hb
      have hll := ok.len
      refine ⟨_, rfl, p, rfl, ⟨_, SqT.of (s02 _ _ hp)⟩, fun M nM => lc_it (walk_tup (xs := xs)) (fun i Z => Same H2 Z ∧ ∃ ys, Z M = some (.lst ys) ∧ ys.length = i ∧ ∀ y ∈ ys, Gd n Z y) ⟨same_new nM _, [], upd_same, rfl, gA⟩ (fun i Z _ h => SqT.of (h.1 _ _ (s02 _ _ hp))) ?_ ?_⟩
      · rintro i x Z0 Z hi ⟨sZ, ys, eZ, yl, hy⟩ ⟨rfl, hx⟩
        obtain ⟨t, ht, hdt⟩ := hl.at hx
        have tm := List.mem_of_getElem? ht
        refine ⟨rfl, _, rfl, x, t, rfl, hdt.same (s02.trans sZ), noBL_mem hb2 tm, ok.sub tm, by omega, fun Z2 v2 z2 g2 => ?_⟩
        have := (List.getElem?_eq_some_iff.mp ht).1
        refine ⟨ys, z2 _ _ eZ, lt_line (by omega), same_upd (sZ.trans z2) nM _, _, upd_same, by rw [List.length_append, yl]; rfl, ?_⟩
        have kp : Keep Z2 (upd Z2 M (.lst (ys ++ [v2]))) := keep_lst (z2 _ _ eZ)
        exact gApp (fun y hy' => ((hy y hy').same z2).keep kp) (gC (g2.keep kp) gA)
      · rintro Z ⟨sZ, ys, eZ, yl, hy⟩
        refine ⟨M, ys, rfl, .inl ⟨SqL.of eZ, fun TT nT => ?_⟩⟩
        exact q _ _ (s02.trans (sZ.trans (same_new nT _))) (Gd.tup upd_same (fun y hy' => (hy y hy').same (same_new nT _)) (by rw [yl, hl.len]; exact hll))
abbrev s__law_others : Stmt := topS 21
abbrev N__law_others : List Str := ["pool", "due", "other", "some", "word", "k", "number", "now"]
theorem sc__law_others : FnScope N__law_others ["pool", "due", "other"] (defScope s__law_others) := ⟨rfl, rfl, rfl, by decide +kernel, rfl, by decide +kernel, by decide +kernel⟩

theorem ok__law_others (T : Txt K mg) (D : IsDef K mg "_law_others" s__law_others ["pool", "due", "other"]) (C_tk : Cal P w K mg base CX0 1 "_law_take" ["pool", "many"] spTakeP) (C_tr : Cal P w K mg base CX0 12 "_law_truths" ["r"] (spTruths 12)) : Cal P w K mg base CX0 14 "_law_others" ["pool", "due", "other"] spOthers := by
  have C__law_take := C_tk.mono (show 1 ≤ 13 by decide)
  have C__law_truths := C_tr.mono (show 12 ≤ 13 by decide)
  refine D.cal (k := 13) sc__law_others (fun vs H Q E h => ?_) (fun f cdv A outer s H vs Q E hr h => ?_)
  · obtain ⟨_, _, _, _, _, _, _, rfl, _⟩ := h
    rfl
  obtain ⟨p, r, m, c, po, d, ot, rfl, hp, c0, c1, pok, hd, go, q⟩ := h
  refine ⟨_, (pss_cons (ps_set (i := 3) sc__law_others.nd rfl (Or.inr rfl) (pe_lstA (pa_cons (pe_tupA (pa_cons pe_str pa_nil)) (pa_cons (pe_tupA (pa_cons pe_str pa_nil)) (pa_cons (pe_tupA (pa_cons pe_str pa_nil)) (pa_cons (pe_tupA pa_nil) (pa_cons (pe_op op_catV (pv 1) (pe_slice (r := rSlV K) sl_tupV (pv 1) po_none (po_some pe_int))) (pa_cons (pe_slice (r := rSlV K) sl_tupV (pv 1) po_none (po_some (pe_un un_neg pe_int))) (pa_cons (pe_slice (r := rSlV K) sl_tupV (pv 1) (po_some pe_int) po_none) (pa_cons (pv 2) (pa_cons (pe_tupA (pa_cons pe_str pa_nil)) (pa_cons (pe_tupA (pa_cons pe_str (pa_cons pe_int pa_nil))) pa_nil))))))))))))
      (pss_cons (ps_if (pt_cmpR op_eq (pe_ix (r := rIxT K) ix_tup (pv 1) pe_int (fun _ _ => rfl)) pe_str (nomark _))
        (pss_cons (ps_asg (pv 1) (pg_tup rfl (pgs_cons (pg_name (i := 4) sc__law_others.nd rfl (Or.inl rfl)) (pgs_cons (pg_name (i := 5) sc__law_others.nd rfl (Or.inl rfl)) (pgs_cons (pg_name (i := 6) sc__law_others.nd rfl (Or.inl rfl)) (pgs_cons (pg_name (i := 7) sc__law_others.nd rfl (Or.inl rfl)) pgs_nil))))))
      (pss_cons (ps_set (i := 3) sc__law_others.nd rfl (Or.inr rfl) (pe_op op_catU (pv 3) (pe_lstA (pa_cons (pe_tupA (pa_cons (pv 4) (pa_cons (pe_op op_add (pv 5) pe_int) (pa_cons (pv 6) (pa_cons (pv 7) pa_nil))))) (pa_cons (pe_tupA (pa_cons (pv 4) (pa_cons (pe_op op_sub (pv 5) pe_int) (pa_cons (pv 6) (pa_cons (pv 7) pa_nil))))) (pa_cons (pe_tupA (pa_cons (pv 4) (pa_cons (pv 5) (pa_cons (pe_op op_add (pv 6) pe_int) (pa_cons (pv 7) pa_nil))))) pa_nil))))))
      (pss_cons (ps_set (i := 3) sc__law_others.nd rfl (Or.inr rfl) (pe_op op_catU (pv 3) (pe_lstA (pa_cons (pe_tupA (pa_cons (pv 4) (pa_cons (pv 5) (pa_cons (pv 6) (pa_cons (pe_op op_sub (pv 7) pe_int) pa_nil))))) (pa_cons (pe_tupA (pa_cons (pv 4) (pa_cons (pv 5) (pa_cons (pv 7) (pa_cons (pv 6) pa_nil))))) (pa_cons (pe_tupA (pa_cons (pv 4) (pa_cons (pv 5) (pa_cons (pv 6) (pa_cons pe_non pa_nil))))) (pa_cons (pe_tupA (pa_cons (pv 4) (pa_cons (pv 5) (pa_cons (pv 7) (pa_cons (pv 7) pa_nil))))) pa_nil)))))))
      (pss_one (ps_set (i := 3) sc__law_others.nd rfl (Or.inr rfl) (pe_op op_catU (pv 3) (pe_lstA (pa_cons (pe_tupA (pa_cons (pv 4) (pa_cons (pe_cmpR op_eq (pv 5) pe_int (nomark _)) (pa_cons (pv 6) (pa_cons (pv 7) pa_nil))))) (pa_cons (pe_tupA (pa_cons pe_str (pa_cons (pv 6) (pa_cons (pv 7) pa_nil)))) (pa_cons (pe_tupA (pa_cons (pv 4) (pa_cons (pv 5) (pa_cons (pv 6) pa_nil)))) pa_nil))))))))))
        pss_nil)
      (pss_cons (ps_if (pt_cmpR op_eq (pe_ix (r := rIxT K) ix_tup (pv 1) pe_int (fun _ _ => rfl)) pe_str (nomark _))
        (pss_cons (ps_set (i := 3) sc__law_others.nd rfl (Or.inr rfl) (pe_lstA (pa_cons (pe_tupA (pa_cons (pe_ix (r := rIxT K) ix_tup (pv 1) pe_int (fun _ _ => rfl)) (pa_cons (pe_ix (r := rIxT K) ix_tup (pv 1) pe_int (fun _ _ => rfl)) (pa_cons (pe_ix (r := rIxT K) ix_tup (pv 1) pe_int (fun _ _ => rfl)) pa_nil)))) (pa_cons (pe_tupA (pa_cons (pe_ix (r := rIxT K) ix_tup (pv 1) pe_int (fun _ _ => rfl)) (pa_cons (pe_ix (r := rIxT K) ix_tup (pv 1) pe_int (fun _ _ => rfl)) (pa_cons (pe_ix (r := rIxT K) ix_tup (pv 1) pe_int (fun _ _ => rfl)) pa_nil)))) (pa_cons (pe_tupA (pa_cons (pe_ix (r := rIxT K) ix_tup (pv 1) pe_int (fun _ _ => rfl)) (pa_cons (pe_ix (r := rIxT K) ix_tup (pv 1) pe_int (fun _ _ => rfl)) (pa_cons (pe_ix (r := rIxT K) ix_tup (pv 1) pe_int (fun _ _ => rfl)) pa_nil)))) (pa_cons (pe_slice (r := rSlV K) sl_tupV (pv 1) po_none (po_some pe_int)) pa_nil))))))
      (pss_one (ps_set (i := 3) sc__law_others.nd rfl (Or.inr rfl) (pe_op op_catU (pv 3) (pe_lstA (pa_cons (pe_tupA (pa_cons (pe_ix (r := rIxT K) ix_tup (pv 1) pe_int (fun _ _ => rfl)) (pa_cons (pe_cal C__law_truths (hr.mono (by first | decide | omega)) pass0 (pa_cons (pe_ix (r := rIxT K) ix_tup (pv 1) pe_int (fun _ _ => rfl)) pa_nil)) (pa_cons (pe_ix (r := rIxT K) ix_tup (pv 1) pe_int (fun _ _ => rfl)) pa_nil)))) (pa_cons (pe_tupA (pa_cons (pe_ix (r := rIxT K) ix_tup (pv 1) pe_int (fun _ _ => rfl)) (pa_cons (pe_ix (r := rIxT K) ix_tup (pv 1) pe_int (fun _ _ => rfl)) (pa_cons (pe_cal C__law_truths (hr.mono (by first | decide | omega)) pass0 (pa_cons (pe_ix (r := rIxT K) ix_tup (pv 1) pe_int (fun _ _ => rfl)) pa_nil)) pa_nil)))) (pa_cons (pv 2) pa_nil))))))))
        pss_nil)
      (pss_one (ps_ret (pe_lc (own := [("k", 5)]) (g := gName 5)  (by rfl) sc__law_others.nd  (pi_range1 rfl T.b_range (pa_cons pe_int pa_nil)) (blkOk_by (own := [("k", 5)]) (N := N__law_others) (sc := defScope s__law_others) (by decide +kernel)) (fun _ _ _ _ _ => (pg_name (i := 5) sc__law_others.nd rfl (Or.inl rfl))) (fun _ _ _ _ _ => pts_nil) (fun _ _ _ _ _ => (pe_ix (r := rIxL K) ix_list (pv 3) (pe_cal C__law_take (hr.mono (by first | decide | omega)) pass0 (pa_cons (pv 0) (pa_cons (pe_callB (call_len_seqK (K := K) rfl) (by rfl) T.b_len PySem.boot_len (pa_cons (pv 3) pa_nil)) pa_nil))) (fun _ _ => rfl))))))))), ?_⟩
  obtain ⟨l, el⟩ := Paper.th_tup po
  obtain ⟨dp, xs, rfl, hdp, hx⟩ : ∃ dp xs, d = .ref dp ∧ H dp = some (.tup xs) ∧ ∃ ys, xs = .str (SX.S po.word) :: ys := by
    rw [el] at hd
    obtain ⟨a, b, c1, c2, x, r, c3, c4, c5⟩ := hd
    exact ⟨a, b, c1, c2, r, by rw [c3, show x = _ from c4]⟩
  obtain ⟨ys0, exs⟩ := hx
  have g0 : Gd 12 H (.ref dp) := ⟨_, hd, Paper.thok pok⟩
  obtain ⟨ge, gl⟩ := Gd.elems g0 hdp
  have xl : xs.length ≤ 5 := by
    obtain ⟨a, b, c1, c2, c3⟩ := (show ∃ a b, V.ref dp = .ref a ∧ H a = some (.tup b) ∧ DataL H (.str po.word :: l) b by rw [el] at hd; exact hd)
    cases c1
    rw [hdp] at c2
    cases c2
    rw [c3.len]
    cases po <;> (have := Th.tup.inj el; rw [← this]; exact Nat.le_of_ble_eq_true rfl)
  -- the first list
  refine in_seq (nx_post (fun σ Y => ∃ (S : Addr) (zs : List V), σ = [some (.ref p), some (.ref dp), some ot, some (.ref S), none, none, none, none] ∧ Same H Y ∧ Y S = some (.lst zs) ∧ 1 ≤ zs.length ∧ zs.length ≤ 10 ∧ ∀ z ∈ zs, Gd 13 Y z) (fun nx hnx => ?_) ?_)
  · refine ⟨le_line (Nat.le_of_ble_eq_true rfl), fun T1 Y1 n1 y1' e1 => ⟨le_line (Nat.le_of_ble_eq_true rfl), fun T2 Y2 n2 y2' e2 => ⟨le_line (Nat.le_of_ble_eq_true rfl), fun T3 Y3 n3 y3' e3 => ⟨Nat.zero_le _, fun T4 Y4 n4 y4' e4 => ?_⟩⟩⟩⟩
    have y1 : Same H Y1 := y1'
    have y2 : Same Y1 Y2 := y2'
    have y3 : Same Y2 Y3 := y3'
    have y4 : Same Y3 Y4 := y4'
    have y04 := ((y1.trans y2).trans y3).trans y4
    refine ⟨_, rfl, _, rfl, 1, rfl, dp, xs, rfl, y04 _ _ hdp, fun T5 Y5 y5' e5 => ?_⟩
    have y5 : Same Y4 Y5 := y5'
    have c5 : (cutV xs none (some 1)).length ≤ 5 := Nat.le_trans (cutV_length _ _ _) xl
    refine ⟨dp, T5, xs, _, rfl, rfl, (y04.trans y5) _ _ hdp, e5, le_line (Nat.le_trans (show xs.length + (cutV xs none (some 1)).length ≤ 10 by omega) (by decide)), fun T6 Y6 y6' e6 => ?_⟩
    have y6 : Same Y5 Y6 := y6'
    have y06 := (y04.trans y5).trans y6
    refine ⟨_, rfl, 1, rfl, -1, rfl, dp, xs, rfl, y06 _ _ hdp, fun T7 Y7 y7' e7 => ?_⟩
    have y7 : Same Y6 Y7 := y7'
    refine ⟨_, rfl, 1, rfl, dp, xs, rfl, (y06.trans y7) _ _ hdp, fun T8 Y8 y8' e8 => ?_⟩
    have y8 : Same Y7 Y8 := y8'
    have y08 := (y06.trans y7).trans y8
    refine ⟨_, rfl, le_line (Nat.le_of_ble_eq_true rfl), fun T9 Y9 n9 y9' e9 => ⟨le_line (Nat.le_of_ble_eq_true rfl), fun T0 Z1 n0 z1' e0 => ⟨le_line (Nat.le_of_ble_eq_true rfl), fun S Z2 nS z2' eS => ?_⟩⟩⟩
    have y9 : Same Y8 Y9 := y9'
    have z1 : Same Y9 Z1 := z1'
    have z2 : Same Z1 Z2 := z2'
    have a9 : Same Y9 Z2 := z1.trans z2
    have a8 := y9.trans a9
    have a7 := y8.trans a8
    have a6 := y7.trans a7
    have a4 := (y5.trans y6).trans a6
    have a3 := y4.trans a4
    have a2 := y3.trans a3
    have a1 := y2.trans a2
    have a0 := y1.trans a1
    have w1 : ∀ {s : Str} {l : List Nat} {X : Hp}, s = SX.S l → (∀ c ∈ l, c < 128) → ∀ x ∈ [V.str s], Gd 12 X x := fun e h => gC (Gd.str e h (by decide)) gA
    have cs : ∀ {lo hi : Option Int}, ∀ x ∈ cutV xs lo hi, Gd 12 Z2 x := fun {lo hi} x hx => ((ge x (cut_sub hx)).same a0).mono (by decide)
    refine hnx _ _ ⟨S, _, rfl, a0, eS, (show 1 ≤ 10 by decide), (show 10 ≤ 10 by decide), ?_⟩
    refine gC (Gd.tup (a1 _ _ e1) (w1 q_given (by decide)) (by decide)) (gC (Gd.tup (a2 _ _ e2) (w1 q_new (by decide)) (by decide)) (gC (Gd.tup (a3 _ _ e3) (w1 q_alike (by decide)) (by decide)) (gC (Gd.tup (a4 _ _ e4) gA (by decide)) (gC (Gd.tup (a6 _ _ e6) (gApp (fun x hx => ((ge x hx).same a0).mono (by decide)) cs) (by rw [List.length_append]; omega)) (gC (Gd.tup (a7 _ _ e7) cs (Nat.le_trans (cutV_length _ _ _) (by omega))) (gC (Gd.tup (a8 _ _ e8) cs (Nat.le_trans (cutV_length _ _ _) (by omega))) (gC (go.same a0) (gC (Gd.tup (a9 _ _ e9) (w1 (l := [109, 97, 100, 101]) (by decide +kernel) (by decide)) (by decide)) (gC (Gd.tup (z2 _ _ e0) (gC (Gd.str q_alike (by decide) (by decide)) (gC (Gd.int _ (by decide)) gA)) (by decide)) gA)))))))))
  rintro σ Y ⟨S, zs, rfl, sY, eS, zl, zh, gz⟩
  have hat0 : ∀ {Z : Hp}, Same H Z → SqT K Z dp xs := fun {Z} s => SqT.of (s _ _ hdp)
  have ati0 : atI xs 0 = some (.str (SX.S po.word)) := by rw [exs]; exact atI_nat (j := 0) rfl
  refine in_nx (in_seq (nx_post (fun σ Y' => ∃ (S : Addr) (zs : List V) (w4 w5 w6 w7 : Option V), σ = [some (.ref p), some (.ref dp), some ot, some (.ref S), w4, w5, w6, w7] ∧ Same H Y' ∧ Y' S = some (.lst zs) ∧ 1 ≤ zs.length ∧ zs.length ≤ 30 ∧ ∀ z ∈ zs, Gd 13 Y' z) (fun nx hnx => ?_) ?_))
  · refine ⟨_, rfl, dp, xs, 0, _, rfl, rfl, hat0 sY, ati0, rfl, _, rfl, ?_⟩
    cases po with
    | given => exact iteN (sne (by decide +kernel)) (hnx _ _ ⟨S, zs, _, _, _, _, rfl, sY, eS, zl, by omega, gz⟩)
    | new => exact iteN (sne (by decide +kernel)) (hnx _ _ ⟨S, zs, _, _, _, _, rfl, sY, eS, zl, by omega, gz⟩)
    | alike => exact iteN (sne (by decide +kernel)) (hnx _ _ ⟨S, zs, _, _, _, _, rfl, sY, eS, zl, by omega, gz⟩)
    | rcp a b => exact iteN (show ¬ V.str (SX.S w_rcp) = V.str "read" from sne (by decide +kernel)) (hnx _ _ ⟨S, zs, _, _, _, _, rfl, sY, eS, zl, by omega, gz⟩)
    | read k u v =>
      obtain rfl : xs = [.str (SX.S w_read), .int (k : Int), .int u, .int v] := by
        obtain ⟨a, b, c1, c2, x1, r1, d1, d2, x2, r2, d3, d4, x3, r3, d5, d6, x4, r4, d7, d8, d9⟩ := hd
        cases c1
        rw [hdp] at c2
        rw [Option.some.inj c2 |> HO.tup.inj, d1, d2, d3, d4, d5, d6, d7, d8, show r4 = [] from d9]
      refine iteY (congrArg V.str q_read.symm) ?_
      refine ⟨_, rfl, dp, _, rfl, hat0 sY, rfl, _, _, rfl, _, _, rfl, _, _, rfl, _, _, rfl, rfl, ?_⟩
      refine ⟨_, rfl, _, rfl, _, rfl, _, _, rfl, rfl, _, rfl, _, rfl, le_line (Nat.le_of_ble_eq_true rfl), fun T1 Y1 n1 y1' e1 => ⟨_, rfl, _, rfl, _, _, rfl, rfl, _, rfl, _, rfl, le_line (Nat.le_of_ble_eq_true rfl), fun T2 Y2 n2 y2' e2 => ⟨_, rfl, _, rfl, _, rfl, _, _, rfl, rfl, _, rfl, le_line (Nat.le_of_ble_eq_true rfl), fun T3 Y3 n3 y3' e3 => ⟨le_line (Nat.le_of_ble_eq_true rfl), fun L1 Y4 m1 y4' f1 => ?_⟩⟩⟩⟩
      have y1 : Same Y Y1 := y1'
      have y2 : Same Y1 Y2 := y2'
      have y3 : Same Y2 Y3 := y3'
      have y4 : Same Y3 Y4 := y4'
      have b3 := y3.trans y4
      have b2 := y2.trans b3
      have b1 := y1.trans b2
      refine ⟨S, L1, zs, _, rfl, rfl, b1 _ _ eS, f1, le_line (Nat.le_trans (show zs.length + 3 ≤ 40 by omega) (by decide)), fun S1 Y5 o1 y5' g1 => ?_⟩
      have y5 : Same Y4 Y5 := y5'
      have w4 : ∀ {x1 x2 x3 x4 : V} {X : Hp} {T : Addr}, X T = some (.tup [x1, x2, x3, x4]) → Gd 12 X x1 → Gd 12 X x2 → Gd 12 X x3 → Gd 12 X x4 → Gd 13 X (.ref T) := fun e a b c d => Gd.tup e (gC a (gC b (gC c (gC d gA)))) (by show 4 ≤ 1000; decide)
      have I : ∀ {i : Int} {X : Hp}, Gd 12 X (.int i) := Gd.int _ (by decide)
      have W : ∀ {X : Hp}, Gd 12 X (.str (SX.S w_read)) := Gd.str rfl (by decide) (by decide)
      have c5 : ∀ z ∈ zs ++ [.ref T1, .ref T2, .ref T3], Gd 13 Y5 z := gApp (fun z hz => (gz z hz).same (b1.trans y5)) (gC (w4 ((b2.trans y5) _ _ e1) W I I I) (gC (w4 ((b3.trans y5) _ _ e2) W I I I) (gC (w4 ((y4.trans y5) _ _ e3) W I I I) gA)))
      obtain ⟨z5, hz5⟩ : ∃ z5, z5 = zs ++ [.ref T1, .ref T2, .ref T3] := ⟨_, rfl⟩
      rw [← hz5] at c5 g1
      have l5 : z5.length ≤ 13 := by rw [hz5, List.length_append]; show zs.length + 3 ≤ 13; omega
      have s5 := sY.trans (b1.trans y5)
      clear e1 e2 e3 f1 eS gz b1 b2 b3 y1 y2 y3 y4 y5 hz5
      refine in_name (σ' := [some (.ref p), some (.ref dp), some ot, some (.ref S1), some (.str (SX.S w_read)), some (.int (k : Int)), some (.int u), some (.int v)]) rfl ?_
      refine ⟨_, rfl, _, rfl, _, rfl, _, rfl, _, rfl, _, _, rfl, rfl, le_line (Nat.le_of_ble_eq_true rfl), fun T1 Y1 n1 y1' e1 => ⟨_, rfl, _, rfl, _, rfl, _, rfl, le_line (Nat.le_of_ble_eq_true rfl), fun T2 Y2 n2 y2' e2 => ⟨_, rfl, _, rfl, _, rfl, le_line (Nat.le_of_ble_eq_true rfl), fun T3 Y3 n3 y3' e3 => ⟨_, rfl, _, rfl, _, rfl, _, rfl, le_line (Nat.le_of_ble_eq_true rfl), fun T4 Y4 n4 y4' e4 => ⟨le_line (Nat.le_of_ble_eq_true rfl), fun L1 Y6 m1 y6' f1 => ?_⟩⟩⟩⟩⟩
      have y1 : Same Y5 Y1 := y1'
      have y2 : Same Y1 Y2 := y2'
      have y3 : Same Y2 Y3 := y3'
      have y4 : Same Y3 Y4 := y4'
      have y6 : Same Y4 Y6 := y6'
      refine ⟨S1, L1, z5, _, rfl, rfl, ((((y1.trans y2).trans y3).trans y4).trans y6) _ _ g1, f1, le_line (Nat.le_trans (show z5.length + 4 ≤ 40 by omega) (by decide)), fun S2 Y7 o2 y7' g2 => ?_⟩
      have y7 : Same Y6 Y7 := y7'
      have b4 := y6.trans y7
      have b3 := y4.trans b4
      have b2 := y3.trans b3
      have b1 := y2.trans b2
      have b0 := y1.trans b1
      have c7 : ∀ z ∈ z5 ++ [.ref T1, .ref T2, .ref T3, .ref T4], Gd 13 Y7 z := gApp (fun z hz => (c5 z hz).same b0) (gC (w4 (b1 _ _ e1) W I I I) (gC (w4 (b2 _ _ e2) W I I I) (gC (w4 (b3 _ _ e3) W I I (Gd.non (by decide))) (gC (w4 (b4 _ _ e4) W I I I) gA))))
      obtain ⟨z7, hz7⟩ : ∃ z7, z7 = z5 ++ [.ref T1, .ref T2, .ref T3, .ref T4] := ⟨_, rfl⟩
      rw [← hz7] at c7 g2
      have l7 : z7.length ≤ 17 := by rw [hz7, List.length_append]; show z5.length + 4 ≤ 17; omega
      have s7 := s5.trans b0
      clear e1 e2 e3 e4 f1 c5 g1 b0 b1 b2 b3 b4 y1 y2 y3 y4 y6 y7 hz7
      refine in_name (σ' := [some (.ref p), some (.ref dp), some ot, some (.ref S2), some (.str (SX.S w_read)), some (.int (k : Int)), some (.int u), some (.int v)]) rfl ?_
      refine ⟨_, rfl, _, rfl, _, rfl, rfl, _, rfl, _, rfl, le_line (Nat.le_of_ble_eq_true rfl), fun T1 Y1 n1 y1' e1 => ⟨_, rfl, _, rfl, le_line (Nat.le_of_ble_eq_true rfl), fun T2 Y2 n2 y2' e2 => ⟨_, rfl, _, rfl, _, rfl, le_line (Nat.le_of_ble_eq_true rfl), fun T3 Y3 n3 y3' e3 => ⟨le_line (Nat.le_of_ble_eq_true rfl), fun L1 Y4 m1 y4' f1 => ?_⟩⟩⟩⟩
      have y1 : Same Y7 Y1 := y1'
      have y2 : Same Y1 Y2 := y2'
      have y3 : Same Y2 Y3 := y3'
      have y4 : Same Y3 Y4 := y4'
      refine ⟨S2, L1, z7, _, rfl, rfl, (((y1.trans y2).trans y3).trans y4) _ _ g2, f1, le_line (Nat.le_trans (show z7.length + 3 ≤ 40 by omega) (by decide)), fun S3 Y5 o3 y5' g3 => ?_⟩
      have y5 : Same Y4 Y5 := y5'
      have b3 := y4.trans y5
      have b2 := y3.trans b3
      have b1 := y2.trans b2
      have b0 := y1.trans b1
      refine hnx _ _ ⟨S3, _, _, _, _, _, rfl, s7.trans b0, g3, by rw [List.length_append]; show 1 ≤ z7.length + 3; omega, by rw [List.length_append]; show z7.length + 3 ≤ 30; omega, gApp (fun z hz => (c7 z hz).same b0) (gC (w4 (b1 _ _ e1) W (Gd.bl _ (by decide)) I I) (gC (Gd.tup (b2 _ _ e2) (gC (Gd.str q_rcp (by decide) (by decide)) (gC I (gC I gA))) (by show 3 ≤ 1000; decide)) (gC (Gd.tup (b3 _ _ e3) (gC W (gC I (gC I gA))) (by show 3 ≤ 1000; decide)) gA)))⟩
  clear eS gz zl zh sY
  rintro σ Y ⟨S, zs, w4, w5, w6, w7, rfl, sY, eS, zl, zh, gz⟩
  refine in_nx (in_seq (nx_post (fun σ Y' => ∃ (S : Addr) (zs : List V) (w4 w5 w6 w7 : Option V), σ = [some (.ref p), some (.ref dp), some ot, some (.ref S), w4, w5, w6, w7] ∧ Same H Y' ∧ Y' S = some (.lst zs) ∧ 1 ≤ zs.length ∧ zs.length ≤ 30 ∧ ∀ z ∈ zs, Gd 13 Y' z) (fun nx hnx => ?_) ?_))
  · refine ⟨_, rfl, dp, xs, 0, _, rfl, rfl, hat0 sY, ati0, rfl, _, rfl, ?_⟩
    cases po with
    | given => exact iteN (sne (by decide +kernel)) (hnx _ _ ⟨S, zs, _, _, _, _, rfl, sY, eS, zl, zh, gz⟩)
    | new => exact iteN (sne (by decide +kernel)) (hnx _ _ ⟨S, zs, _, _, _, _, rfl, sY, eS, zl, zh, gz⟩)
    | alike => exact iteN (sne (by decide +kernel)) (hnx _ _ ⟨S, zs, _, _, _, _, rfl, sY, eS, zl, zh, gz⟩)
    | read k u v => exact iteN (show ¬ V.str (SX.S w_read) = V.str "recipe" from sne (by decide +kernel)) (hnx _ _ ⟨S, zs, _, _, _, _, rfl, sY, eS, zl, zh, gz⟩)
    | rcp a b =>
      obtain ⟨x1, x2, rfl, da, db⟩ : ∃ x1 x2, xs = [.str (SX.S w_rcp), x1, x2] ∧ Data H a.th x1 ∧ Data H b.th x2 := by
        obtain ⟨t1, b, c1, c2, y1, r1, d1, d2, y2, r2, d3, d4, y3, r3, d5, d6, d7⟩ := hd
        cases c1
        rw [hdp] at c2
        exact ⟨y2, y3, by rw [Option.some.inj c2 |> HO.tup.inj, d1, d2, d3, d5, show r3 = [] from d7], d4, d6⟩
      obtain ⟨⟨aw, ad⟩, bw, bd⟩ := pok
      refine iteY (congrArg V.str q_rcp.symm) ?_
      have at1 : atI ([.str (SX.S w_rcp), x1, x2] : List V) 1 = some x1 := rfl
      have at2 : atI ([.str (SX.S w_rcp), x1, x2] : List V) 2 = some x2 := rfl
      have at0 : atI ([.str (SX.S w_rcp), x1, x2] : List V) 0 = some (.str (SX.S w_rcp)) := rfl
      refine ⟨_, rfl, dp, _, 0, _, rfl, rfl, hat0 sY, at0, _, rfl, dp, _, 2, _, rfl, rfl, hat0 sY, at2, _, rfl, dp, _, 1, _, rfl, rfl, hat0 sY, at1, le_line (Nat.le_of_ble_eq_true rfl), fun T1 Y1 n1 y1' e1 => ?_⟩
      have y1 : Same Y Y1 := y1'
      have t1 := sY.trans y1
      refine ⟨_, rfl, dp, _, 0, _, rfl, rfl, hat0 t1, at0, _, rfl, dp, _, 1, _, rfl, rfl, hat0 t1, at1, _, rfl, dp, _, 1, _, rfl, rfl, hat0 t1, at1, le_line (Nat.le_of_ble_eq_true rfl), fun T2 Y2 n2 y2' e2 => ?_⟩
      have y2 : Same Y1 Y2 := y2'
      have t2 := t1.trans y2
      refine ⟨_, rfl, dp, _, 0, _, rfl, rfl, hat0 t2, at0, _, rfl, dp, _, 2, _, rfl, rfl, hat0 t2, at2, _, rfl, dp, _, 2, _, rfl, rfl, hat0 t2, at2, le_line (Nat.le_of_ble_eq_true rfl), fun T3 Y3 n3 y3' e3 => ?_⟩
      have y3 : Same Y2 Y3 := y3'
      have t3 := t2.trans y3
      refine ⟨_, rfl, 2, rfl, dp, _, rfl, t3 _ _ hdp, fun T4 Y4 y4' e4 => ⟨le_line (Nat.le_of_ble_eq_true rfl), fun S1 Y5 o1 y5' g1 => ?_⟩⟩
      have y4 : Same Y3 Y4 := y4'
      have y5 : Same Y4 Y5 := y5'
      have b3 := y4.trans y5
      have b2 := y3.trans b3
      have b1 := y2.trans b2
      have b0 := y1.trans b1
      have s5 := sY.trans b0
      have ga : Gd 12 H x1 := ⟨_, da, Rcp.thok aw (by omega)⟩
      have gb : Gd 12 H x2 := ⟨_, db, Rcp.thok bw (by omega)⟩
      have W : ∀ {X : Hp}, Gd 12 X (.str (SX.S w_rcp)) := Gd.str rfl (by decide) (by decide)
      have w3 : ∀ {x1 x2 : V} {X : Hp} {T : Addr}, X T = some (.tup [.str (SX.S w_rcp), x1, x2]) → Gd 12 X x1 → Gd 12 X x2 → Gd 13 X (.ref T) := fun e a b => Gd.tup e (gC W (gC a (gC b gA))) (by show 3 ≤ 1000; decide)
      have c5 : ∀ z ∈ [V.ref T1, .ref T2, .ref T3, .ref T4], Gd 13 Y5 z := gC (w3 (b1 _ _ e1) (gb.same s5) (ga.same s5)) (gC (w3 (b2 _ _ e2) (ga.same s5) (ga.same s5)) (gC (w3 (b3 _ _ e3) (gb.same s5) (gb.same s5)) (gC (Gd.tup (y5 _ _ e4) (fun x hx => ((ge x (cut_sub hx)).same s5).mono (by decide)) (Nat.le_trans (cutV_length _ _ _) gl)) gA)))
      clear e1 e2 e3 e4 b0 b1 b2 b3 y1 y2 y3 y4 y5 t1 t2 t3
      refine in_name (σ' := [some (.ref p), some (.ref dp), some ot, some (.ref S1), w4, w5, w6, w7]) rfl ?_
      refine ⟨_, rfl, _, rfl, dp, _, 0, _, rfl, rfl, hat0 s5, at0, _, rfl, dp, _, 1, _, rfl, rfl, hat0 s5, at1, x1, a.th, rfl, da.same s5, (Rcp.noB a).1, Rcp.thok aw (by omega), by decide, fun Y1 v1 y1 gv1 => ?_⟩
      have t1 := s5.trans y1
      refine ⟨_, rfl, dp, _, 2, _, rfl, rfl, hat0 t1, at2, le_line (Nat.le_of_ble_eq_true rfl), fun T5 Y2 n2 y2' e2 => ?_⟩
      have y2 : Same Y1 Y2 := y2'
      have t2 := t1.trans y2
      refine ⟨_, rfl, dp, _, 0, _, rfl, rfl, hat0 t2, at0, _, rfl, dp, _, 1, _, rfl, rfl, hat0 t2, at1, _, rfl, dp, _, 2, _, rfl, rfl, hat0 t2, at2, x2, b.th, rfl, db.same t2, (Rcp.noB b).1, Rcp.thok bw (by omega), by decide, fun Y3 v3 y3 gv3 => ⟨le_line (Nat.le_of_ble_eq_true rfl), fun T6 Y4 n4 y4' e4 => ⟨_, rfl, le_line (Nat.le_of_ble_eq_true rfl), fun L1 Y6 m1 y6' f1 => ?_⟩⟩⟩
      have y4 : Same Y3 Y4 := y4'
      have y6 : Same Y4 Y6 := y6'
      have b4 := y4.trans y6
      have b3 := y3.trans b4
      have b2 := y2.trans b3
      have b1 := y1.trans b2
      refine ⟨S1, L1, _, _, rfl, rfl, b1 _ _ g1, f1, le_line (Nat.le_of_ble_eq_true rfl), fun S2 Y7 o2 y7' g2 => ?_⟩
      have y7 : Same Y6 Y7 := y7'
      have r7 := s5.trans (b1.trans y7)
      have w13 : ∀ {x1 x2 : V} {X : Hp} {T : Addr}, X T = some (.tup [.str (SX.S w_rcp), x1, x2]) → Gd 13 X x1 → Gd 13 X x2 → Gd 14 X (.ref T) := fun e a b => Gd.tup e (gC (W.mono (by decide)) (gC a (gC b gA))) (by show 3 ≤ 1000; decide)
      refine hnx _ _ ⟨S2, _, _, _, _, _, rfl, r7, g2, (show 1 ≤ 7 by decide), (show 7 ≤ 30 by decide), gApp (fun z hz => (c5 z hz).same (b1.trans y7)) (gC (w3 ((b3.trans y7) _ _ e2) (gv1.same (b2.trans y7)) (gb.same r7)) (gC (w3 ((y6.trans y7) _ _ e4) (ga.same r7) (gv3.same (b4.trans y7))) (gC (go.same r7) gA)))⟩
  clear eS gz zl zh sY
  rintro σ Y ⟨S, zs, w4, w5, w6, w7, rfl, sY, eS, zl, zh, gz⟩
  have npS : S ≠ p := fun z => by rw [z, sY _ _ hp] at eS; cases eS
  refine ⟨2, rfl, by decide, by decide, fun F nF => lc_range (lo := 0) (n := 2) (fun i Z => ∃ (r' c' : Int) (xs : List V), PF p Y Z ∧ Z p = some (.dK (pool r' m c')) ∧ 0 ≤ c' ∧ c' ≤ c + i ∧ Z F = some (.lst xs) ∧ xs.length = i ∧ ∀ x ∈ xs, Gd 13 Z x) ?_ ?_ ?_⟩
  · have npF : p ≠ F := fun z => by rw [← z, sY _ _ hp] at nF; cases nF
    exact ⟨r, c, [], PF.of (same_new nF _), by rw [upd_ne npF]; exact sY _ _ hp, c0, by omega, upd_same, rfl, gA⟩
  · rintro i Z hi ⟨r', c', xs, fZ, pZ, d0, d1, eF, xl, gx⟩
    have npF : F ≠ p := fun z => by rw [z, sY _ _ hp] at nF; cases nF
    have eSZ := fZ _ _ npS eS
    refine ⟨rfl, _, rfl, _, rfl, _, rfl, S, _, rfl, .inl (SqL.of eSZ), p, r', m, c', _, rfl, pZ, by omega, Nat.lt_of_le_of_lt (show ((zs.length : Nat) : Int).natAbs ≤ 30 by omega) (by decide), d0, by omega, fun Z2 v r2 c2 g2 p2 e0 e1 v0 v1 => ?_⟩
    have f2 : PF p Z Z2 := PF.take g2
    obtain ⟨x, hx⟩ : ∃ x, zs[v.toNat]? = some x := ⟨_, List.getElem?_eq_getElem (by omega)⟩
    refine ⟨S, zs, v, x, rfl, rfl, SqL.of (f2 _ _ npS eSZ), atI_at v0 hx, xs, f2 _ _ npF eF, lt_line (by omega), r2, c2, _, ?_, ?_, e0, by omega, upd_same, by rw [List.length_append, xl]; rfl, ?_⟩
    · exact fun b u n e => by rw [upd_ne (fun z => by rw [z, nF] at e; cases e)]; exact f2 b u n (fZ b u n e)
    · rw [upd_ne npF.symm]; exact p2
    · have kp : Keep Z2 (upd Z2 F (.lst (xs ++ [x]))) := keep_lst (f2 _ _ npF eF)
      have kz := f2.keep pZ
      have kY : Keep Y Z := fZ.keep (sY _ _ hp)
      exact gApp (fun y hy => ((gx y hy).keep kz).keep kp) (gC ((((gz x (List.mem_of_getElem? hx)).keep kY).keep kz).keep kp) gA)
  · rintro Z ⟨r', c', xs, fZ, pZ, d0, d1, eF, xl, gx⟩
    exact q F xs r' c' Z ((PF.of sY).trans fZ) (sY.free nF) eF gx xl pZ d0 d1
end
/-! ### law k32 -/
open LamX NdefX
theorem kvK_txs {α : Type} {R : α → V → Prop} {l : List (List Nat × α)} {m : List (Key × V)} (h : KvR R l m) : m.map (fun kv => kV kv.1) = txs (l.map (·.1)) := by
  exact kvR_keys h
def spLaw (K : PySem.W.Frag) : Sp := fun vs H Q _ => ∃ (a : Addr) (ns : List Int), vs = [.ref a] ∧ SqL K H a (ns.map V.int) ∧ ns.length ≤ 63 ∧ ∀ H', Q (.bl true) H'
section
variable {P : Program} {w : World} {K : PySem.W.Frag} {mg : Str → Option Value} {base : Heap} {Tb : List NTab}
abbrev s_law : Stmt := topS 24
abbrev N_law : List Str := ["script", "house", "records", "wishes", "worths", "handed", "pool", "other", "name", "due", "paper", "found", "names", "some", "one"]
theorem sc_law : FnScope N_law ["script"] (defScope s_law) := ⟨rfl, rfl, rfl, by decide +kernel, rfl, by decide +kernel, by decide +kernel⟩

theorem ok_law {fl : Addr} {fd : FuncData} (F : Fun K "law" "law" s_law fl fd) (T : Txt K mg) (C_case : Cal P w K mg base CX0 (lvR 5 17 + 2) "_law_case" ["script"] (spCaseB K Tb)) (C_fresh : Cal P w K mg base CX0 (lvR 5 17 + 1) "_law_fresh" ["house", "wishes"] (spFreshB K Tb 17))
    (C_paper : Cal P w K mg base CX0 1 "_law_paper" ["house", "records", "worths", "name"] spPaperBy) (C_pool : Cal P w K mg base CX0 2 "_law_pool" ["script", "k"] (spPool K)) (C_oth : Cal P w K mg base CX0 14 "_law_others" ["pool", "due", "other"] spOthers)
    (C_ps : Cal P w K mg base CX0 15 "paper_shows" ["house", "records", "worths", "name", "paper"] spShowsG) (C_al : Cal P w K mg base CX0 14 "_law_alike" ["one", "other"] (spAlike 14)) :
    FnOk P w K mg base CX0 (lvR 5 17 + 3) fl fd ["script"] (spLaw K) := by
  have C__law_case := C_case.mono (show lvR 5 17 + 2 ≤ lvR 5 17 + 2 by decide)
  have C__law_fresh := C_fresh.mono (show lvR 5 17 + 1 ≤ lvR 5 17 + 2 by decide)
  have C__law_paper := C_paper.mono (show 1 ≤ lvR 5 17 + 2 by decide)
  have C__law_pool := C_pool.mono (show 2 ≤ lvR 5 17 + 2 by decide)
  have C__law_others := C_oth.mono (show 14 ≤ lvR 5 17 + 2 by decide)
  have C_paper_shows := C_ps.mono (show 15 ≤ lvR 5 17 + 2 by decide)
  have C__law_alike := C_al.mono (show 14 ≤ lvR 5 17 + 2 by decide)
  refine F.ok sc_law (fun vs H Q E h => ?_) (fun cdv A outer s H vs Q E hr h => ?_)
  · obtain ⟨a, ns, rfl, _⟩ := h
    rfl
  obtain ⟨a, ns, rfl, hS, h63, q⟩ := h
  have hu : (cxOf CX0 P w K mg base N_law "law" (defScope s_law) fl cdv A outer s H E).nox.A.units + 1 < cLine := Nat.lt_of_le_of_lt (Nat.add_le_add_left (by decide : 1 ≤ 64) _) hr.units
  refine ⟨_, (pss_cons (ps_asg (pe_cal C__law_case (hr.mono (by first | decide | omega)) pass0 (pa_cons (pv 0) pa_nil)) (pg_unl rfl (pgs_cons (pg_name (i := 1) sc_law.nd rfl (Or.inl rfl)) (pgs_cons (pg_name (i := 2) sc_law.nd rfl (Or.inl rfl)) (pgs_cons (pg_name (i := 3) sc_law.nd rfl (Or.inl rfl)) pgs_nil)))))
      (pss_cons (ps_set (i := 4) sc_law.nd rfl (Or.inr rfl) (pe_ix (r := rIxL K) ix_list (pe_cal C__law_fresh (hr.mono (by first | decide | omega)) pass0 (pa_cons (pv 1) (pa_cons (pv 3) pa_nil))) pe_int (fun _ _ => rfl)))
      (pss_cons (ps_set (i := 5) sc_law.nd rfl (Or.inl rfl) (pe_lstA (pa_cons (pe_tupA (pa_cons (pe_callTy call_dictDA (by rfl) T.b_dict (by decide +kernel) (pa_cons (pe_ix (r := rIxT K) ix_tup (pv 1) pe_int (fun _ _ => rfl)) pa_nil)) (pa_cons (pe_callTy call_dictDA (by rfl) T.b_dict (by decide +kernel) (pa_cons (pe_ix (r := rIxT K) ix_tup (pv 1) pe_int (fun _ _ => rfl)) pa_nil)) pa_nil))) (pa_cons (pe_callTy call_dictDA (by rfl) T.b_dict (by decide +kernel) (pa_cons (pv 2) pa_nil)) (pa_cons (pe_callTy call_dictDA (by rfl) T.b_dict (by decide +kernel) (pa_cons (pv 4) pa_nil)) pa_nil)))))
      (pss_cons (ps_set (i := 6) sc_law.nd rfl (Or.inl rfl) (pe_cal C__law_pool (hr.mono (by first | decide | omega)) pass0 (pa_cons (pv 0) (pa_cons pe_int pa_nil))))
      (pss_cons (ps_set (i := 7) sc_law.nd rfl (Or.inl rfl) (pe_tupA (pa_cons pe_str pa_nil)))
      (pss_cons (ps_lock (ps_for PassesOwn.never rfl (pi_keys (pv 4)) (pg_name (i := 8) sc_law.nd rfl (Or.inl rfl))
        (pss_cons (ps_set (i := 9) sc_law.nd rfl (Or.inl rfl) (pe_cal C__law_paper (hr.mono (by first | decide | omega)) pass0 (pa_cons (pv 1) (pa_cons (pv 2) (pa_cons (pv 4) (pa_cons (pv 8) pa_nil))))))
      (pss_cons (ps_for PassesOwn.never rfl (pi_list (pe_op op_catU (pe_lstA (pa_cons (pv 9) pa_nil)) (pe_cal C__law_others (hr.mono (by first | decide | omega)) pass0 (pa_cons (pv 6) (pa_cons (pv 9) (pa_cons (pv 7) pa_nil)))))) (pg_name (i := 10) sc_law.nd rfl (Or.inl rfl))
        (pss_cons (ps_set (i := 11) sc_law.nd rfl (Or.inl rfl) (pe_cal C_paper_shows (hr.mono (by first | decide | omega)) pass0 (pa_cons (pe_ix (r := rIxL K) ix_list (pv 5) pe_int (fun _ _ => rfl)) (pa_cons (pe_ix (r := rIxL K) ix_list (pv 5) pe_int (fun _ _ => rfl)) (pa_cons (pe_ix (r := rIxL K) ix_list (pv 5) pe_int (fun _ _ => rfl)) (pa_cons (pv 8) (pa_cons (pv 10) pa_nil)))))))
      (pss_one (ps_if (PW.pt (pw_or (pt_not (pt_val (pe_callB call_isi (by rfl) T.b_isinstance (by decide +kernel) (pa_cons (pv 11) (pa_cons (pe_bltn (v := .ty "bool") (by rfl) T.b_bool (by decide +kernel) rfl) pa_nil))))) (pw_or1 (pt_cmpR op_ne (pv 11) (pe_cal C__law_alike (hr.mono (by first | decide | omega)) pass0 (pa_cons (pv 10) (pa_cons (pv 9) pa_nil))) (nomark _)))))
        (pss_one (ps_ret pe_bl))
        pss_nil))))
      (pss_one (ps_set (i := 7) sc_law.nd rfl (Or.inl rfl) (pv 9)))))))
      (pss_cons (ps_set (i := 12) sc_law.nd rfl (Or.inl rfl) (pe_op op_catU (pe_callB cr_sortTA (by rfl) T.b_sorted (by decide +kernel) (pa_cons (pe_op op_catU (pe_callTy (call_listDA rfl) (by rfl) T.b_list (by decide +kernel) (pa_cons (pe_ix (r := rIxT K) ix_tup (pv 1) pe_int (fun _ _ => rfl)) pa_nil)) (pe_callTy (call_listDA rfl) (by rfl) T.b_list (by decide +kernel) (pa_cons (pe_ix (r := rIxT K) ix_tup (pv 1) pe_int (fun _ _ => rfl)) pa_nil))) pa_nil)) (pe_lstA (pa_cons pe_str pa_nil))))
      (pss_cons (ps_for PassesOwn.never rfl (pi_list (pe_lc (own := [("one", 14)]) (g := gName 14)  (by rfl) sc_law.nd  (pi_list (pv 12)) (blkOk_by (own := [("one", 14)]) (N := N_law) (sc := defScope s_law) (by decide +kernel)) (fun _ _ _ _ _ => (pg_name (i := 14) sc_law.nd rfl (Or.inl rfl))) (fun _ _ _ _ _ => (pts_one (pt_cmp (pc_dnotin hu (pv 14) (pv 4))))) (fun _ _ _ _ _ => (pv 14)))) (pg_name (i := 8) sc_law.nd rfl (Or.inl rfl))
        (pss_cons (ps_set (i := 13) sc_law.nd rfl (Or.inl rfl) (pe_lstA (pa_cons (pv 7) (pa_cons (pe_tupA (pa_cons pe_str pa_nil)) (pa_cons (pe_tupA (pa_cons pe_str pa_nil)) (pa_cons (pe_tupA (pa_cons pe_str pa_nil)) (pa_cons (pe_tupA (pa_cons pe_str (pa_cons pe_int (pa_cons pe_int (pa_cons pe_int pa_nil))))) (pa_cons (pe_tupA pa_nil) pa_nil))))))))
      (pss_cons (ps_expr (pe_bm PySem.F.plainAttrs_list PySem.F.slot_list_append PySem.F.type_list_append mt_append (pv 13) (pa_cons (pe_tupA (pa_cons pe_str (pa_cons (pe_tupA (pa_cons pe_str (pa_cons pe_int pa_nil))) (pa_cons (pe_tupA (pa_cons pe_str (pa_cons pe_int pa_nil))) pa_nil)))) pa_nil)))
      (pss_cons (ps_if (PW.pt (pw_and (pt_cmp (pc_din hu (pv 8) (pv 2))) (pw_and1 (pt_cmp (pc_din hu (pv 8) (pe_ix (r := rIxT K) ix_tup (pv 1) pe_int (fun _ _ => rfl)))))))
        (pss_one (ps_expr (pe_bm PySem.F.plainAttrs_list PySem.F.slot_list_append PySem.F.type_list_append mt_append (pv 13) (pa_cons (pe_tupA (pa_cons pe_str (pa_cons (pe_ix (r := rIxT K) ix_tup (pe_dget hu (pv 2) (pv 8) (fun _ _ => rfl)) pe_int (fun _ _ => rfl)) (pa_cons (pe_dget hu (pe_ix (r := rIxT K) ix_tup (pv 1) pe_int (fun _ _ => rfl)) (pv 8) (fun _ _ => rfl)) pa_nil)))) pa_nil))))
        pss_nil)
      (pss_one (ps_for PassesOwn.never rfl (pi_list (pv 13)) (pg_name (i := 10) sc_law.nd rfl (Or.inl rfl))
        (pss_one (ps_if (pt_cmpR op_notBl (pe_cal C_paper_shows (hr.mono (by first | decide | omega)) pass0 (pa_cons (pe_ix (r := rIxL K) ix_list (pv 5) pe_int (fun _ _ => rfl)) (pa_cons (pe_ix (r := rIxL K) ix_list (pv 5) pe_int (fun _ _ => rfl)) (pa_cons (pe_ix (r := rIxL K) ix_list (pv 5) pe_int (fun _ _ => rfl)) (pa_cons (pv 8) (pa_cons (pv 10) pa_nil)))))) pe_bl (nomark _))
        (pss_one (ps_ret pe_bl))
        pss_nil))))))))
      (pss_one (ps_ret (pe_cmpR (op_eqG (hu199 hr)) (pv 5) (pe_lstA (pa_cons (pv 1) (pa_cons (pv 2) (pa_cons (pv 4) pa_nil)))) (nomark _)))))))))))), ?_⟩
  refine ⟨_, rfl, a, ns, rfl, hS, h63, fun L U D W G R h m bk ws kvs okv H1 f1 eL hU HK m1 eD hO OK eW wl wm => ?_⟩
  refine ⟨L, _, rfl, SqL.of eL, rfl, _, _, rfl, in_name rfl ⟨_, _, rfl, in_name rfl ⟨_, _, rfl, in_name rfl ⟨rfl, ?_⟩⟩⟩⟩
  refine in_nx (in_seq ?_)
  obtain ⟨sx, DX⟩ := HK.done (n := 17) (by have := HK.m16; omega) wm
  have cnt := HK.count
  have m16 := HK.m16
  refine ⟨_, rfl, _, rfl, h, .ref U, W, ws, sx, rfl, HK.x, hU.at, by omega, SqL.of eW, fun t ht => HK.nm (wm t ht), DX, fun S Wd Rc okx H2 f2 nS nWd nRc _ eS eWd eRc rowsX => ?_⟩
  refine ⟨S, _, 0, _, rfl, rfl, SqL.of eS, atI_at (by decide) rfl, ?_⟩
  refine in_name rfl ?_
  have f02 := f1.trans f2
  have hU2 := hU.fr f2
  have eD2 := f2.dk eD
  have hO2 := rows_fr0 hO f2
  have T0 := OK.t
  have PO := pap_okX HK.x DX.rest T0
  have ndK := DX.rest.ok.kd
  have kln : sx.known.length ≤ 1000 := by have := DX.rest.ok.klen; omega
  have ne : ∀ {x : Addr} {o : HO}, H1 x = some o → x ≠ Wd := fun e z => by rw [z, nWd] at e; cases e
  have hS2 : SqL K H2 a (ns.map V.int) := f02.seq (fun h => nomatch h) hS
  refine ⟨_, rfl, U, _, 0, _, rfl, rfl, SqT.of hU2.u, rfl, G, _, rfl, .inl hU2.g, fun Gb Y1 nGb y1' eGb => ?_⟩
  have y1 : Same H2 Y1 := y1'
  refine ⟨_, rfl, U, _, 1, _, rfl, rfl, SqT.of (y1 _ _ hU2.u), rfl, R, _, rfl, .inl (y1 _ _ hU2.r), fun Rb Y2 nRb y2' eRb => ⟨le_line (Nat.le_of_ble_eq_true rfl), fun Ub Y3 nUb y3' eUb => ?_⟩⟩
  have y2 : Same Y1 Y2 := y2'
  have y3 : Same Y2 Y3 := y3'
  have y03 := (y1.trans y2).trans y3
  refine ⟨_, rfl, D, _, rfl, .inl (y03 _ _ eD2), fun Db Y4 nDb y4' eDb => ?_⟩
  have y4 : Same Y3 Y4 := y4'
  have y04 := y03.trans y4
  refine ⟨_, rfl, Wd, _, rfl, .inl (y04 _ _ eWd), fun Wb Y5 nWb y5' eWb => ⟨le_line (Nat.le_of_ble_eq_true rfl), fun Hd Y6 nHd y6' eHd => ?_⟩⟩
  have y5 : Same Y4 Y5 := y5'
  have y6 : Same Y5 Y6 := y6'
  have y06 := (y04.trans y5).trans y6
  refine in_name (σ' := [some (.ref a), some (.ref U), some (.ref D), some (.ref W), some (.ref Wd), some (.ref Hd), none, none, none, none, none, none, none, none, none]) rfl ?_
  refine ⟨_, rfl, a, ns, 47, rfl, y06.seq hS2, h63, by decide, by decide, fun p r mm c np c0 c1 => ?_⟩
  have sp := same_new np (.dK (pool r mm c))
  have pX : upd Y6 p (.dK (pool r mm c)) p = some (.dK (pool r mm c)) := upd_same
  have nep : ∀ {b : Addr} {u : HO}, Y6 b = some u → b ≠ p := fun e z => by rw [z, np] at e; cases e
  generalize upd Y6 p (.dK (pool r mm c)) = Y7 at sp pX ⊢
  refine in_name (σ' := [some (.ref a), some (.ref U), some (.ref D), some (.ref W), some (.ref Wd), some (.ref Hd), some (.ref p), none, none, none, none, none, none, none, none]) rfl ?_
  refine ⟨le_line (Nat.le_of_ble_eq_true rfl), fun To Y8 nTo y8' eTo => ?_⟩
  have y8 : Same Y7 Y8 := y8'
  have y68 : Same Y6 Y8 := sp.trans y8
  have y28 : Same H2 Y8 := y06.trans y68
  refine in_name (σ' := [some (.ref a), some (.ref U), some (.ref D), some (.ref W), some (.ref Wd), some (.ref Hd), some (.ref p), some (.ref To), none, none, none, none, none, none, none]) rfl ?_
  have eWd8 := y28 _ _ eWd
  refine in_nx (in_seq ⟨Wd, _, eWd8, trivial, fun od => ?_⟩)
  obtain ⟨X0, eX0⟩ : ∃ X0, X0 = upd Y8 Wd (.frz od (.dK (numsK sx.known))) := ⟨_, rfl⟩
  rw [← eX0]
  have eF : X0 Wd = some (.frz od (.dK (numsK sx.known))) := by rw [eX0, upd_same]
  have k0 : ∀ {b : Addr} {u : HO}, Y8 b = some u → b ≠ Wd → X0 b = some u := fun e n => by rw [eX0, upd_ne n]; exact e
  have t0 : ∀ {b : Addr} {xs : List V}, Y8 b = some (.tup xs) → X0 b = some (.tup xs) := fun e => k0 e fun z => by rw [z, eWd8] at e; cases e
  have l0 : ∀ {b : Addr} {xs : List V}, Y8 b = some (.lst xs) → X0 b = some (.lst xs) := fun e => k0 e fun z => by rw [z, eWd8] at e; cases e
  have nW2 : ∀ {b : Addr} {X : Hp} {u : HO}, X b = none → X Wd = some u → b ≠ Wd := fun e e2 z => by rw [z, e2] at e; cases e
  have FF : ∀ {X : Hp}, PF p X0 X → HouseU X h U G R kvs ∧ HouseU X h Ub Gb Rb kvs ∧ X D = some (.dK okv) ∧ X Db = some (.dK okv) ∧ KvR (RowR X) bk okv ∧ X Wb = some (.dK (numsK sx.known)) ∧ X Hd = some (.lst [.ref Ub, .ref Db, .ref Wb]) ∧ X Wd = some (.frz od (.dK (numsK sx.known))) := fun {X} g => by
    have kp : Keep X0 X := fun b ys e => g b _ (fun z => by rw [z, k0 (y8 _ _ pX) (fun z2 => by rw [← z2] at eWd; exact absurd (y06 _ _ eWd) (by rw [np]; exact fun z => nomatch z))] at e; cases e) e
    have kr : KvR (Rec X) h.recs kvs := hU2.k.imp fun r v z => ((z.same y28).keep (fun b ys e => t0 e)).keep kp
    have gb := (y4.trans y5).trans y6
    have u6 := gb _ _ eUb
    have g6 := (((y2.trans y3).trans gb)) _ _ eGb
    have r6 := (y3.trans gb) _ _ eRb
    have d6 := (y5.trans y6) _ _ eDb
    have w6 := y6 _ _ eWb
    have n1 := nW2 nGb eWd
    have n2 := nW2 nRb (y1 _ _ eWd)
    have n3 := nW2 nDb (y03 _ _ eWd)
    have n4 := nW2 nWb (y04 _ _ eWd)
    refine ⟨⟨g _ _ (nep (y06 _ _ hU2.u)) (t0 (y28 _ _ hU2.u)), g _ _ (nep (y06 _ _ hU2.g)) (k0 (y28 _ _ hU2.g) (ne hU.g)), g _ _ (nep (y06 _ _ hU2.r)) (k0 (y28 _ _ hU2.r) (ne hU.r)), kr⟩,
      ⟨g _ _ (nep u6) (t0 (y68 _ _ u6)), g _ _ (nep g6) (k0 (y68 _ _ g6) n1), g _ _ (nep r6) (k0 (y68 _ _ r6) n2), kr⟩,
      g _ _ (nep (y06 _ _ eD2)) (k0 (y28 _ _ eD2) (ne eD)), g _ _ (nep d6) (k0 (y68 _ _ d6) n3), hO2.imp fun o v z => z.st (fun b ys e => kp _ _ (t0 (y28 _ _ e))) (fun b ys e => g _ _ (nep (y06 _ _ e)) (l0 (y28 _ _ e))),
      g _ _ (nep w6) (k0 (y68 _ _ w6) n4), g _ _ (nep eHd) (l0 (y68 _ _ eHd)), g _ _ (nep (y06 _ _ eWd)) eF⟩
  have nWp : Wd ≠ p := nep (y06 _ _ eWd)
  have p0 : X0 p = some (.dK (pool r mm c)) := k0 (y8 _ _ pX) nWp.symm
  have eTo0 := t0 eTo
  refine ⟨_, rfl, Wd, od, rfl, .inl ⟨_, eF, for_it walk_keys (fun i σ X => ∃ (ot : V) (r' c' : Int) (w8 w9 w10 w11 w12 w13 : Option V), σ = [some (.ref a), some (.ref U), some (.ref D), some (.ref W), some (.ref Wd), some (.ref Hd), some (.ref p), some ot, w8, w9, w10, w11, w12, w13, none] ∧ PF p X0 X ∧ X p = some (.dK (pool r' mm c')) ∧ 0 ≤ c' ∧ c' ≤ c + 2 * i ∧ Gd 13 X ot)
    ⟨.ref To, r, c, none, none, none, none, none, none, rfl, PF.refl _ _, p0, c0, by omega, Gd.tup eTo0 (gC (Gd.str q_given (by decide) (by decide)) gA) (by decide)⟩ (fun i σ X _ ⟨_, _, _, _, _, _, _, _, _, _, g, _⟩ => (FF g).2.2.2.2.2.2.2) ?_ ?_⟩⟩
  · rintro i x σ X X' hi ⟨ot, r', c', w8, w9, w10, w11, w12, w13, rfl, gX, pXX, d0, d1, got⟩ ⟨rfl, k1, v1, hk1, rfl⟩
    obtain ⟨pr, hpr, ek0⟩ : ∃ pr, sx.known[i]? = some pr ∧ k1 = kT (SX.S pr.1) := by
      unfold numsK at hk1
      rw [List.getElem?_map] at hk1
      cases e0 : sx.known[i]? with
      | none => rw [e0] at hk1; cases hk1
      | some pr =>
        rw [e0] at hk1
        have := Option.some.inj hk1
        exact ⟨pr, rfl, (congrArg (·.1) this).symm⟩
    subst ek0
    have hi1 : i < sx.known.length := (List.getElem?_eq_some_iff.mp hpr).1
    have prm := List.mem_of_getElem? hpr
    have pin : pr.1 ∈ sx.known.map (·.1) := List.mem_map.mpr ⟨pr, prm, rfl⟩
    have hP := PO _ pin
    obtain ⟨q1, q2, q3, q4, q5, q6, q7, q8⟩ := FF gX
    refine in_name (σ' := [some (.ref a), some (.ref U), some (.ref D), some (.ref W), some (.ref Wd), some (.ref Hd), some (.ref p), some ot, some (.str (SX.S pr.1)), w9, w10, w11, w12, w13, none]) rfl ?_
    refine ⟨_, rfl, _, rfl, _, rfl, _, rfl, .ref U, D, Wd, h, bk, sx.known, pr.1, rfl, q1.at, ⟨okv, .inl q3, q5⟩, .inr ⟨od, q8⟩, hP, OK.rl, fun X1 pv s1 hpv => ?_⟩
    refine in_name (σ' := [some (.ref a), some (.ref U), some (.ref D), some (.ref W), some (.ref Wd), some (.ref Hd), some (.ref p), some ot, some (.str (SX.S pr.1)), some pv, w10, w11, w12, w13, none]) rfl ?_
    have pok := paperR_ok hP
    have gpv : Gd 12 X1 pv := ⟨_, hpv, Paper.thok pok⟩
    refine in_nx (in_seq ?_)
    refine ⟨_, rfl, le_line (Nat.le_of_ble_eq_true rfl), fun L1 X2 nL1 x2' eL1 => ?_⟩
    have x2 : Same X1 X2 := x2'
    have s2 := s1.trans x2
    have p2 := s2 _ _ pXX
    refine ⟨_, rfl, _, rfl, _, rfl, p, r', mm, c', _, pv, ot, rfl, p2, d0, by omega, pok, Paper.keep (same_keep x2) hpv, got.same s2, fun F xs r2 c2 X3 f3 nF eF2 gx xl p3 e0 e1 => ?_⟩
    have kp3 := f3.keep p2
    have nL1p : L1 ≠ p := fun z => by rw [z, s1 _ _ pXX] at nL1; cases nL1
    refine ⟨L1, F, _, _, rfl, rfl, f3 _ _ nL1p eL1, eF2, le_line (Nat.le_trans (show 1 + xs.length ≤ 10 by omega) (by decide)), fun M X4 nM x4' eM => ?_⟩
    have x4 : Same X3 X4 := x4'
    have g4 : PF p X0 X4 := ((gX.trans (PF.of s2)).trans f3).trans (PF.of x4)
    have k14 : Keep X1 X4 := fun b ys e => x4 _ _ (kp3 _ _ (x2 _ _ e))
    have hpv4 := Paper.keep k14 hpv
    have gxs : ∀ x ∈ ([pv] : List V) ++ xs, Gd 13 X4 x := gApp (gC ((gpv.keep k14).mono (by decide)) gA) fun x hx => (gx x hx).same x4
    have p4 := x4 _ _ p3
    refine ⟨M, rfl, ⟨_, SqL.of eM⟩, for_list (xs := [pv] ++ xs) (fun j σ Z => ∃ (w10 w11 : Option V), σ = [some (.ref a), some (.ref U), some (.ref D), some (.ref W), some (.ref Wd), some (.ref Hd), some (.ref p), some ot, some (.str (SX.S pr.1)), some pv, w10, w11, w12, w13, none] ∧ Same X4 Z) ⟨_, _, rfl, fun _ _ e => e⟩ (fun j σ Z _ ⟨_, _, _, e⟩ => SqL.of (e _ _ eM)) ?_ ?_⟩
    · rintro j x σ Z hx ⟨w10, w11, rfl, sZ⟩
      have xm := List.mem_of_getElem? hx
      obtain ⟨tx, dx, okx⟩ := gxs x xm
      have gZ := g4.trans (PF.of sZ)
      obtain ⟨z1, z2, z3, z4, z5, z6, z7, z8⟩ := FF gZ
      refine in_name (σ' := [some (.ref a), some (.ref U), some (.ref D), some (.ref W), some (.ref Wd), some (.ref Hd), some (.ref p), some ot, some (.str (SX.S pr.1)), some pv, some x, w11, w12, w13, none]) rfl ?_
      have okx14 := okx.mono (show 13 ≤ 14 by decide)
      refine ⟨_, rfl, Hd, _, 0, _, rfl, rfl, SqL.of z7, atI_at (by decide) rfl, _, rfl, Hd, _, 1, _, rfl, rfl, SqL.of z7, atI_at (by decide) rfl, _, rfl, Hd, _, 2, _, rfl, rfl, SqL.of z7, atI_at (by decide) rfl, _, rfl, _, rfl, ?_⟩
      refine ⟨.ref Ub, Db, Wb, h, bk, sx.known, pr.1, x, tx, rfl, z2.at, ⟨okv, .inl z4, z5⟩, .inl z6, fun _ => hP, OK.rl, dx.same sZ, okx14, fun Z2 s2 => ?_⟩
      refine in_name (σ' := [some (.ref a), some (.ref U), some (.ref D), some (.ref W), some (.ref Wd), some (.ref Hd), some (.ref p), some ot, some (.str (SX.S pr.1)), some pv, some x, some (.bl (decide (pr.1 ∈ sx.known.map (·.1)) && (PyData.eqv tx.py (paperR h bk sx.known pr.1).th.py && !tx.hasB))), w12, w13, none]) rfl ?_
      refine ⟨_, rfl, _, _, .type "bool", _, true, rfl, .ty _, .base (.bl _), kit_ty (by decide +kernel), _, rfl, not_true_eq rfl ?_⟩
      refine ⟨_, rfl, _, rfl, _, rfl, x, pv, tx, _, rfl, dx.same (sZ.trans s2), Paper.keep (same_keep (sZ.trans s2)) hpv4, okx14, (Paper.thok pok).mono (by decide), by decide, fun Z3 s3 => ⟨rfl, _, rfl, not_true_eq (decide_eq_true ?_) ?_⟩⟩
      · rw [decide_eq_true pin, alk_is tx _ okx.o (Paper.noB pok).1]
        rfl
      · exact ⟨_, _, rfl, (sZ.trans s2).trans s3⟩
    · rintro σ Z ⟨w10, w11, rfl, sZ⟩
      refine ⟨_, rfl, ?_⟩
      exact ⟨pv, r2, c2, _, _, _, _, _, _, rfl, g4.trans (PF.of sZ), sZ _ _ p4, e0, by omega, ((gpv.keep k14).same sZ).mono (by decide)⟩
  rintro σ X ⟨ot, r', c', w8, w9, w10, w11, w12, w13, rfl, gX, pXX, d0, d1, got⟩
  obtain ⟨q1, q2, q3, q4, q5, q6, q7, q8⟩ := FF gX
  refine ⟨q8, ?_⟩
  have nW : ∀ {b : Addr} {o : HO}, (∀ x, o ≠ .frz x (.dK (numsK sx.known))) → X b = some o → b ≠ Wd := fun h e z => by rw [z, q8] at e; cases e; exact h _ rfl
  obtain ⟨V0, eV0⟩ : ∃ V0, V0 = upd X Wd (.dK (numsK sx.known)) := ⟨_, rfl⟩
  rw [← eV0]
  have kV : ∀ {b : Addr} {o : HO}, (∀ x, o ≠ .frz x (.dK (numsK sx.known))) → X b = some o → V0 b = some o := fun h e => by rw [eV0, upd_ne (nW h e)]; exact e
  have kt : Keep X V0 := fun b ys e => kV (fun _ z => nomatch z) e
  have a1 : HouseU V0 h U G R kvs := ⟨kt _ _ q1.u, kV (fun _ z => nomatch z) q1.g, kV (fun _ z => nomatch z) q1.r, q1.k.imp fun _ _ z => z.keep kt⟩
  have a2 : HouseU V0 h Ub Gb Rb kvs := ⟨kt _ _ q2.u, kV (fun _ z => nomatch z) q2.g, kV (fun _ z => nomatch z) q2.r, q2.k.imp fun _ _ z => z.keep kt⟩
  have a3 : V0 D = some (.dK okv) := kV (fun _ z => nomatch z) q3
  have a4 : V0 Db = some (.dK okv) := kV (fun _ z => nomatch z) q4
  have a5 : KvR (RowR V0) bk okv := q5.imp fun o v z => z.st kt fun b ys e => kV (fun _ z => nomatch z) e
  have a6 : V0 Wb = some (.dK (numsK sx.known)) := kV (fun _ z => nomatch z) q6
  have a7 : V0 Hd = some (.lst [.ref Ub, .ref Db, .ref Wb]) := kV (fun _ z => nomatch z) q7
  have a8 : V0 Wd = some (.dK (numsK sx.known)) := by rw [eV0, upd_same]
  have got0 := got.keep kt
  clear eV0 kV
  clear FF
  refine in_nx (in_seq ?_)
  refine ⟨_, rfl, U, _, 0, _, rfl, rfl, SqT.of a1.u, rfl, G, _, rfl, .inl a1.g, fun La V1 nLa v1' eLa => ?_⟩
  have v1 : Same V0 V1 := v1'
  refine ⟨_, rfl, U, _, 1, _, rfl, rfl, SqT.of (v1 _ _ a1.u), rfl, R, _, rfl, .inl (v1 _ _ a1.r), fun Lb V2 nLb v2' eLb => ?_⟩
  have v2 : Same V1 V2 := v2'
  rw [kvK_txs (numsR h.given)] at eLa
  rw [kvK_txs a1.k] at eLb
  have lg : h.given.length + h.recs.length ≤ 16 := by omega
  refine ⟨La, Lb, _, _, rfl, rfl, v2 _ _ eLa, eLb, le_line (Nat.le_trans (show (txs (h.given.map (·.1))).length + (txs (h.recs.map (·.1))).length ≤ 16 by rw [txs_len, txs_len, List.length_map, List.length_map]; exact lg) (by decide)), fun Lc V3 nLc v3' eLc => ?_⟩
  have v3 : Same V2 V3 := v3'
  rw [← txs_app] at eLc
  refine ⟨Lc, _, rfl, SqL.of eLc, fun ys Ld V4 pm ri nLd v4' eLd => ⟨le_line (Nat.le_of_ble_eq_true rfl), fun Le V5 nLe v5' eLe => ⟨Ld, Le, _, _, rfl, rfl, v5' _ _ eLd, eLe, le_line (Nat.le_trans (show (txs ys).length + 1 ≤ 17 by rw [txs_len, pm.length_eq, List.length_append, List.length_map, List.length_map]; omega) (by decide)), fun Nl V6 nNl v6' eNl => ?_⟩⟩⟩
  have v4 : Same V3 V4 := v4'
  have v5 : Same V4 V5 := v5'
  have v6 : Same V5 V6 := v6'
  have v06 := ((((v1.trans v2).trans v3).trans v4).trans v5).trans v6
  have ez : ("zzz" : Str) = SX.S [122, 122, 122] := by decide +kernel
  obtain ⟨nl, enl⟩ : ∃ nl, nl = ys ++ [[122, 122, 122]] := ⟨_, rfl⟩
  have eNl' : V6 Nl = some (.lst (txs nl)) := by
    rw [enl, txs_app]
    rw [ez] at eNl
    exact eNl
  have nll : nl.length ≤ 17 := by rw [enl, List.length_append, pm.length_eq, List.length_append, List.length_map, List.length_map]; show _ + 1 ≤ 17; omega
  refine in_name (σ' := [some (.ref a), some (.ref U), some (.ref D), some (.ref W), some (.ref Wd), some (.ref Hd), some (.ref p), some ot, w8, w9, w10, w11, some (.ref Nl), w13, none]) rfl ?_
  refine in_nx (in_seq ?_)
  refine ⟨_, rfl, Nl, rfl, ⟨_, SqL.of eNl'⟩, fun M nM => lc_list (xs := txs nl) (fun i Z => Same V6 Z ∧ Z M = some (.lst (txs ((nl.take i).filter fun t => decide (seen sx.known t = none))))) ⟨same_new nM _, upd_same⟩ (fun i Z _ e => SqL.of (e.1 _ _ eNl')) ?_ ?_⟩
  · rintro i y Z hy ⟨sZ, eM⟩
    obtain ⟨t, ht, rfl⟩ := txs_at' hy
    have dg := DGet.k (k := kT (SX.S t)) (sZ _ _ (v06 _ _ a8))
    rw [val_seen] at dg
    refine ⟨rfl, _, rfl, _, rfl, Wd, _, rfl, dg, _, rfl, ?_⟩
    rw [List.take_add_one, ht, List.filter_append]
    have ll : (List.filter (fun s => decide (seen sx.known s = none)) (List.take i nl)).length ≤ 1000 := Nat.le_trans (List.length_filter_le _ _) (by rw [List.length_take]; omega)
    cases hs : seen sx.known t with
    | none =>
      refine iteT ⟨_, rfl, _, eM, lt_line (by rw [txs_len]; omega), same_upd sZ nM _, ?_⟩
      rw [upd_same, show List.filter (fun s => decide (seen sx.known s = none)) (some t).toList = [t] by
        show List.filter _ [t] = [t]
        rw [List.filter_cons, if_pos (by rw [hs]; rfl)]
        rfl, txs_app]
      rfl
    | some x =>
      refine iteF ⟨sZ, ?_⟩
      rw [show List.filter (fun s => decide (seen sx.known s = none)) (some t).toList = [] by
        show List.filter _ [t] = []
        rw [List.filter_cons, if_neg (fun z => by rw [hs] at z; have := of_decide_eq_true z; cases this)]
        rfl, List.append_nil]
      exact eM
  rintro V7 ⟨v7, eM⟩
  rw [txs_len, List.take_of_length_le (Nat.le_refl _)] at eM
  have v07 := v06.trans v7
  refine ⟨M, rfl, ⟨_, SqL.of eM⟩, for_list (xs := txs (nl.filter fun t => decide (seen sx.known t = none))) (fun j σ Z => ∃ (w8 w9 w10 w11 w13 : Option V), σ = [some (.ref a), some (.ref U), some (.ref D), some (.ref W), some (.ref Wd), some (.ref Hd), some (.ref p), some ot, w8, w9, w10, w11, some (.ref Nl), w13, none] ∧ Same V7 Z) ⟨_, _, _, _, _, rfl, fun _ _ e => e⟩ (fun j σ Z _ ⟨_, _, _, _, _, _, e⟩ => SqL.of (e _ _ eM)) ?_ ?_⟩
  · rintro j x σ Z hx ⟨w8, w9, w10, w11, w13, rfl, sZ⟩
    obtain ⟨t, ht, rfl⟩ := txs_at' hx
    have tn : seen sx.known t = none := of_decide_eq_true (List.mem_filter.mp (List.mem_of_getElem? ht)).2
    have sV := v07.trans sZ
    refine in_name (σ' := [some (.ref a), some (.ref U), some (.ref D), some (.ref W), some (.ref Wd), some (.ref Hd), some (.ref p), some ot, some (.str (SX.S t)), w9, w10, w11, some (.ref Nl), w13, none]) rfl ?_
    refine ⟨_, rfl, le_line (Nat.le_of_ble_eq_true rfl), fun T1 Y1 n1 y1' e1 => ⟨le_line (Nat.le_of_ble_eq_true rfl), fun T2 Y2 n2 y2' e2 => ⟨le_line (Nat.le_of_ble_eq_true rfl), fun T3 Y3 n3 y3' e3 => ⟨le_line (Nat.le_of_ble_eq_true rfl), fun T4 Y4 n4 y4' e4 => ⟨Nat.zero_le _, fun T5 Y5 n5 y5' e5 => ⟨le_line (Nat.le_of_ble_eq_true rfl), fun Sm Y6 n6 y6' e6 => ?_⟩⟩⟩⟩⟩⟩
    have y1 : Same Z Y1 := y1'
    have y2 : Same Y1 Y2 := y2'
    have y3 : Same Y2 Y3 := y3'
    have y4 : Same Y3 Y4 := y4'
    have y5 : Same Y4 Y5 := y5'
    have y6 : Same Y5 Y6 := y6'
    have b4 := y5.trans y6
    have b3 := y4.trans b4
    have b2 := y3.trans b3
    have b1 := y2.trans b2
    have b0 := y1.trans b1
    refine in_name (σ' := [some (.ref a), some (.ref U), some (.ref D), some (.ref W), some (.ref Wd), some (.ref Hd), some (.ref p), some ot, some (.str (SX.S t)), w9, w10, w11, some (.ref Nl), some (.ref Sm), none]) rfl ?_
    have w1 : ∀ {s : Str} {l : List Nat} {X : Hp}, s = SX.S l → (∀ c ∈ l, c < 128) → ∀ x ∈ [V.str s], Gd 12 X x := fun e h => gC (Gd.str e h (by decide)) gA
    have I : ∀ {i : Int} {X : Hp}, Gd 12 X (.int i) := Gd.int _ (by decide)
    have g6 : ∀ x ∈ [ot, .ref T1, .ref T2, .ref T3, .ref T4, .ref T5], Gd 13 Y6 x := gC (got0.same (sV.trans b0)) (gC (Gd.tup (b1 _ _ e1) (w1 q_given (by decide)) (by decide)) (gC (Gd.tup (b2 _ _ e2) (w1 q_new (by decide)) (by decide)) (gC (Gd.tup (b3 _ _ e3) (w1 q_alike (by decide)) (by decide)) (gC (Gd.tup (b4 _ _ e4) (gC (Gd.str q_read (by decide) (by decide)) (gC I (gC I (gC I gA)))) (by decide)) (gC (Gd.tup (y6 _ _ e5) gA (by decide)) gA)))))
    refine in_nx (in_seq ?_)
    refine ⟨_, rfl, .inl ⟨rfl, _, SqL.of e6⟩, le_line (Nat.le_of_ble_eq_true rfl), fun T6 Y7 n7 y7' e7 => ⟨le_line (Nat.le_of_ble_eq_true rfl), fun T7 Y8 n8 y8' e8 => ⟨le_line (Nat.le_of_ble_eq_true rfl), fun T8 Y9 n9 y9' e9 => ?_⟩⟩⟩
    have y7 : Same Y6 Y7 := y7'
    have y8 : Same Y7 Y8 := y8'
    have y9 : Same Y8 Y9 := y9'
    have c8 := y8.trans y9
    have c7 := y7.trans c8
    have e69 := c7 _ _ e6
    refine ⟨Sm, _, _, rfl, rfl, e69, lt_line (show 6 < 16777216 by decide), ?_⟩
    have nSmV : V7 Sm = none := sZ.free (((((y1.trans y2).trans y3).trans y4).trans y5).free n6)
    have sA : Same V7 (upd Y9 Sm (.lst ([ot, .ref T1, .ref T2, .ref T3, .ref T4, .ref T5] ++ [.ref T8]))) := same_upd ((sZ.trans b0).trans c7) nSmV _
    have kA : Keep Y9 (upd Y9 Sm (.lst ([ot, .ref T1, .ref T2, .ref T3, .ref T4, .ref T5] ++ [.ref T8]))) := keep_lst e69
    have gA7 : ∀ x ∈ [ot, .ref T1, .ref T2, .ref T3, .ref T4, .ref T5] ++ [.ref T8], Gd 13 (upd Y9 Sm (.lst ([ot, .ref T1, .ref T2, .ref T3, .ref T4, .ref T5] ++ [.ref T8]))) x := gApp (fun x hx => ((g6 x hx).same c7).keep kA) (gC ((Gd.tup e9 (gC (Gd.str q_rcp (by decide) (by decide)) (gC (Gd.tup (c8 _ _ e7) (gC (Gd.str q_number (by decide) (by decide)) (gC (Gd.int (n := 11) _ (by decide)) gA)) (by decide)) (gC (Gd.tup (y9 _ _ e8) (gC (Gd.str q_number (by decide) (by decide)) (gC (Gd.int (n := 11) _ (by decide)) gA)) (by decide)) gA))) (by show 3 ≤ 1000; decide)).keep kA) gA)
    have eS7 : upd Y9 Sm (.lst ([ot, .ref T1, .ref T2, .ref T3, .ref T4, .ref T5] ++ [.ref T8])) Sm = some (.lst ([ot, .ref T1, .ref T2, .ref T3, .ref T4, .ref T5] ++ [.ref T8])) := upd_same
    obtain ⟨l7, el7⟩ : ∃ l7, l7 = [ot, .ref T1, .ref T2, .ref T3, .ref T4, .ref T5] ++ [V.ref T8] := ⟨_, rfl⟩
    rw [← el7] at sA kA gA7 eS7 ⊢
    have l7l : l7.length = 7 := by rw [el7]; rfl
    generalize upd Y9 Sm (.lst l7) = Ya at sA kA gA7 eS7 ⊢
    clear g6 e1 e2 e3 e4 e5 e6 e69 e7 e8 e9 el7 b0 b1 b2 b3 b4 c7 c8 y1 y2 y3 y4 y5 y6 y7 y8 y9 kA
    refine in_nx (in_seq (nx_post (fun σ Y => ∃ l8 : List V, σ = [some (.ref a), some (.ref U), some (.ref D), some (.ref W), some (.ref Wd), some (.ref Hd), some (.ref p), some ot, some (.str (SX.S t)), w9, w10, w11, some (.ref Nl), some (.ref Sm), none] ∧ Same V7 Y ∧ Y Sm = some (.lst l8) ∧ ∀ x ∈ l8, Gd 13 Y x) (fun nx hnx => ?_) ?_))
    · have sa := v07.trans sA
      have id8 := hnx _ _ ⟨l7, rfl, sA, eS7, gA7⟩
      refine ⟨_, rfl, _, rfl, D, _, rfl, DGet.k (k := kT (SX.S t)) (sa _ _ a3), _, rfl, ?_⟩
      rcases KvR.get (t := t) a5 with ⟨e2, e3⟩ | ⟨o, ov, e2, e3, hrow⟩
      · rw [e3]
        exact iteF (iteF id8)
      rw [e3]
      refine iteT ⟨_, rfl, _, rfl, U, _, 1, _, rfl, rfl, SqT.of (sa _ _ a1.u), rfl, R, _, rfl, DGet.k (k := kT (SX.S t)) (sa _ _ a1.r), _, rfl, ?_⟩
      rcases KvR.get (t := t) a1.k with ⟨e4, e5⟩ | ⟨r', rv, e4, e5, hrec⟩
      · rw [e5]
        exact iteF id8
      rw [e5]
      refine iteT ?_
      obtain ⟨T1, rv1, L1, xs1, rfl, t1, t2, t3, t4⟩ := hrow
      have tr := T0.row _ (getA_mem e2)
      have gr := HK.good (rcpOf_mem (show rcpOf h.recs t = some r' from e4))
      refine ⟨_, rfl, .inl ⟨rfl, _, SqL.of eS7⟩, _, rfl, _, rfl, D, _, rfl, e3 ▸ DGet.k (k := kT (SX.S t)) (sa _ _ a3), T1, _, 0, _, rfl, rfl, SqT.of (sa _ _ t1), rfl, _, rfl, U, _, 1, _, rfl, rfl, SqT.of (sa _ _ a1.u), rfl, _, rfl, R, _, rfl, e5 ▸ DGet.k (k := kT (SX.S t)) (sa _ _ a1.r), le_line (Nat.le_of_ble_eq_true rfl), fun T9 Yb nb yb' eb => ?_⟩
      have yb : Same Ya Yb := yb'
      refine ⟨Sm, _, _, rfl, rfl, yb _ _ eS7, lt_line (by omega), ?_⟩
      have kb : Keep Yb (upd Yb Sm (.lst (l7 ++ [.ref T9]))) := keep_lst (yb _ _ eS7)
      refine hnx _ _ ⟨_, rfl, same_upd (sA.trans yb) nSmV _, upd_same, gApp (fun x hx => ((gA7 x hx).same yb).keep kb) (gC ((Gd.tup eb (gC (Gd.str q_rcp (by decide) (by decide)) (gC ⟨_, (t2.same (sa.trans yb)).data, Rcp.thok (good_wn tr.gd) (by have := tr.dp; omega)⟩ (gC ⟨_, (hrec.same (sa.trans yb)).data, Rcp.thok (good_wn gr.1) (by have := gr.2; omega)⟩ gA))) (by show 3 ≤ 1000; decide) : Gd 13 Yb (.ref T9)).keep kb) gA)⟩
    clear gA7 eS7 sA
    rintro σ Y ⟨l8, rfl, sY, eS8, g8⟩
    refine ⟨_, rfl, Sm, rfl, ⟨_, SqL.of eS8⟩, for_list (xs := l8) (fun j σ X => ∃ w10 : Option V, σ = [some (.ref a), some (.ref U), some (.ref D), some (.ref W), some (.ref Wd), some (.ref Hd), some (.ref p), some ot, some (.str (SX.S t)), w9, w10, w11, some (.ref Nl), some (.ref Sm), none] ∧ Same Y X) ⟨_, rfl, fun _ _ e => e⟩ (fun j σ X _ ⟨_, _, e⟩ => SqL.of (e _ _ eS8)) ?_ ?_⟩
    · rintro j x σ X hx ⟨w10, rfl, sX⟩
      obtain ⟨tx, dx, okx⟩ := g8 x (List.mem_of_getElem? hx)
      refine in_name (σ' := [some (.ref a), some (.ref U), some (.ref D), some (.ref W), some (.ref Wd), some (.ref Hd), some (.ref p), some ot, some (.str (SX.S t)), w9, some x, w11, some (.ref Nl), some (.ref Sm), none]) rfl ?_
      have sx2 := (v07.trans sY).trans sX
      have z7 := sx2 _ _ a7
      have b2 : HouseU X h Ub Gb Rb kvs := ⟨sx2 _ _ a2.u, sx2 _ _ a2.g, sx2 _ _ a2.r, a2.k.imp fun _ _ z => z.same sx2⟩
      refine ⟨_, rfl, Hd, _, 0, _, rfl, rfl, SqL.of z7, atI_at (by decide) rfl, _, rfl, Hd, _, 1, _, rfl, rfl, SqL.of z7, atI_at (by decide) rfl, _, rfl, Hd, _, 2, _, rfl, rfl, SqL.of z7, atI_at (by decide) rfl, _, rfl, _, rfl, ?_⟩
      have nin : ¬ t ∈ sx.known.map (·.1) := seen_none tn
      refine ⟨.ref Ub, Db, Wb, h, bk, sx.known, t, x, tx, rfl, b2.at, ⟨okv, .inl (sx2 _ _ a4), a5.imp fun o v z => z.st (same_keep sx2) fun b ys e => sx2 _ _ e⟩, .inl (sx2 _ _ a6), fun z => absurd z nin, OK.rl, dx.same sX, okx.mono (by decide), fun Z2 s2 => ?_⟩
      rw [decide_eq_false nin, Bool.false_and]
      exact ⟨_, _, rfl, rfl, _, rfl, iteF ⟨_, rfl, sX.trans s2⟩⟩
    · rintro σ X ⟨w10, rfl, sX⟩
      exact ⟨_, _, _, _, _, rfl, sY.trans sX⟩
  · rintro σ Z ⟨w8, w9, w10, w11, w13, rfl, sZ⟩
    have sV := v07.trans sZ
    refine ⟨_, rfl, _, rfl, _, rfl, _, rfl, le_line (Nat.le_of_ble_eq_true rfl), fun Tq Xf nTq xf' eTq => ?_⟩
    have xf : Same Z Xf := xf'
    have sF := sV.trans xf
    have b1 : HouseU Xf h U G R kvs := ⟨sF _ _ a1.u, sF _ _ a1.g, sF _ _ a1.r, a1.k.imp fun _ _ z => z.same sF⟩
    have hn : L2.EqG K Xf 80 (.ref Wb) (.ref Wd) := by
      obtain ⟨g1, g2⟩ := nums_same (K := K) (H := Xf) (n := 78) ndK
      exact .inr (.inr (.inr (.inr (.inr ⟨Wb, Wd, _, _, rfl, rfl, sF _ _ a6, sF _ _ a8, g1, g2⟩))))
    exact ⟨.inl ⟨Hd, Tq, _, _, rfl, rfl, SqL.of (sF _ _ a7), SqL.of eTq, .cons (house_eq HK b1 (sF _ _ a2.u) (sF _ _ a2.g) (sF _ _ a2.r)) (.cons (recs_eq T0.nd a5 (sF _ _ a4) (sF _ _ a3)) (.cons hn .nil))⟩, q _⟩
end
theorem all_mk {l : PySem.W.OpenLaw} {w : World} {K : PySem.W.Frag} {h : Heap} {mg : Str → Option Value} {fa f_first_unlike f_paper_by f_has_truths f_paper_shows f__law_cell_at f__law_pool f__law_take f__law_name f__law_leaf f__law_recipe f__law_house f__law_other f__law_value f__law_look f__law_settled f__law_fresh f__law_wishes f__law_case f__law_paper f__law_others f__law_truths f__law_alike f_law : Addr} (X : K.In h) (G : h.Ns mainGlobals mg) (hfa : mg "law" = some (.ref fa))
    {od_first_unlike an_first_unlike od_paper_by an_paper_by od_has_truths an_has_truths od_paper_shows an_paper_shows od__law_cell_at an__law_cell_at od__law_pool an__law_pool od__law_take an__law_take od__law_name an__law_name od__law_leaf an__law_leaf od__law_recipe an__law_recipe od__law_house an__law_house od__law_other an__law_other od__law_value an__law_value od__law_look an__law_look od__law_settled an__law_settled od__law_fresh an__law_fresh od__law_wishes an__law_wishes od__law_case an__law_case od__law_paper an__law_paper od__law_others an__law_others od__law_truths an__law_truths od__law_alike an__law_alike od_law an_law : Option Addr} {sl_first_unlike sl_paper_by sl_has_truths sl_paper_shows sl__law_cell_at sl__law_pool sl__law_take sl__law_name sl__law_leaf sl__law_recipe sl__law_house sl__law_other sl__law_value sl__law_look sl__law_settled sl__law_fresh sl__law_wishes sl__law_case sl__law_paper sl__law_others sl__law_truths sl__law_alike sl_law : Array (Option Value)} {oc_first_unlike kV_first_unlike dc_first_unlike pm_first_unlike cd_first_unlike ct_first_unlike oc_paper_by kV_paper_by dc_paper_by pm_paper_by cd_paper_by ct_paper_by oc_has_truths kV_has_truths dc_has_truths pm_has_truths cd_has_truths ct_has_truths oc_paper_shows kV_paper_shows dc_paper_shows pm_paper_shows cd_paper_shows ct_paper_shows oc__law_cell_at kV__law_cell_at dc__law_cell_at pm__law_cell_at cd__law_cell_at ct__law_cell_at oc__law_pool kV__law_pool dc__law_pool pm__law_pool cd__law_pool ct__law_pool oc__law_take kV__law_take dc__law_take pm__law_take cd__law_take ct__law_take oc__law_name kV__law_name dc__law_name pm__law_name cd__law_name ct__law_name oc__law_leaf kV__law_leaf dc__law_leaf pm__law_leaf cd__law_leaf ct__law_leaf oc__law_recipe kV__law_recipe dc__law_recipe pm__law_recipe cd__law_recipe ct__law_recipe oc__law_house kV__law_house dc__law_house pm__law_house cd__law_house ct__law_house oc__law_other kV__law_other dc__law_other pm__law_other cd__law_other ct__law_other oc__law_value kV__law_value dc__law_value pm__law_value cd__law_value ct__law_value oc__law_look kV__law_look dc__law_look pm__law_look cd__law_look ct__law_look oc__law_settled kV__law_settled dc__law_settled pm__law_settled cd__law_settled ct__law_settled oc__law_fresh kV__law_fresh dc__law_fresh pm__law_fresh cd__law_fresh ct__law_fresh oc__law_wishes kV__law_wishes dc__law_wishes pm__law_wishes cd__law_wishes ct__law_wishes oc__law_case kV__law_case dc__law_case pm__law_case cd__law_case ct__law_case oc__law_paper kV__law_paper dc__law_paper pm__law_paper cd__law_paper ct__law_paper oc__law_others kV__law_others dc__law_others pm__law_others cd__law_others ct__law_others oc__law_truths kV__law_truths dc__law_truths pm__law_truths cd__law_truths ct__law_truths oc__law_alike kV__law_alike dc__law_alike pm__law_alike cd__law_alike ct__law_alike oc_law kV_law dc_law pm_law cd_law ct_law : Value}
    (a_first_unlike : PySem.W.nsIn K mainGlobals "first_unlike" = some (some (.ref f_first_unlike))) (l_first_unlike : K.lookup f_first_unlike = some ⟨oc_first_unlike, od_first_unlike, .func (PySem.W.fnOf "first_unlike" "first_unlike" (defArgs s_first_unlike) (defBody s_first_unlike) (defScope s_first_unlike) .none kV_first_unlike dc_first_unlike pm_first_unlike an_first_unlike cd_first_unlike ct_first_unlike), sl_first_unlike⟩) (c_first_unlike : PySem.W.codeIn K cd_first_unlike "first_unlike" = true) (k_first_unlike : PySem.W.keepIn K (.ref f_first_unlike) = true)
    (a_paper_by : PySem.W.nsIn K mainGlobals "paper_by" = some (some (.ref f_paper_by))) (l_paper_by : K.lookup f_paper_by = some ⟨oc_paper_by, od_paper_by, .func (PySem.W.fnOf "paper_by" "paper_by" (defArgs s_paper_by) (defBody s_paper_by) (defScope s_paper_by) .none kV_paper_by dc_paper_by pm_paper_by an_paper_by cd_paper_by ct_paper_by), sl_paper_by⟩) (c_paper_by : PySem.W.codeIn K cd_paper_by "paper_by" = true) (k_paper_by : PySem.W.keepIn K (.ref f_paper_by) = true)
    (a_has_truths : PySem.W.nsIn K mainGlobals "has_truths" = some (some (.ref f_has_truths))) (l_has_truths : K.lookup f_has_truths = some ⟨oc_has_truths, od_has_truths, .func (PySem.W.fnOf "has_truths" "has_truths" (defArgs s_has_truths) (defBody s_has_truths) (defScope s_has_truths) .none kV_has_truths dc_has_truths pm_has_truths an_has_truths cd_has_truths ct_has_truths), sl_has_truths⟩) (c_has_truths : PySem.W.codeIn K cd_has_truths "has_truths" = true) (k_has_truths : PySem.W.keepIn K (.ref f_has_truths) = true)
    (a_paper_shows : PySem.W.nsIn K mainGlobals "paper_shows" = some (some (.ref f_paper_shows))) (l_paper_shows : K.lookup f_paper_shows = some ⟨oc_paper_shows, od_paper_shows, .func (PySem.W.fnOf "paper_shows" "paper_shows" (defArgs s_paper_shows) (defBody s_paper_shows) (defScope s_paper_shows) .none kV_paper_shows dc_paper_shows pm_paper_shows an_paper_shows cd_paper_shows ct_paper_shows), sl_paper_shows⟩) (c_paper_shows : PySem.W.codeIn K cd_paper_shows "paper_shows" = true) (k_paper_shows : PySem.W.keepIn K (.ref f_paper_shows) = true)
    (a__law_cell_at : PySem.W.nsIn K mainGlobals "_law_cell_at" = some (some (.ref f__law_cell_at))) (l__law_cell_at : K.lookup f__law_cell_at = some ⟨oc__law_cell_at, od__law_cell_at, .func (PySem.W.fnOf "_law_cell_at" "_law_cell_at" (defArgs s__law_cell_at) (defBody s__law_cell_at) (defScope s__law_cell_at) .none kV__law_cell_at dc__law_cell_at pm__law_cell_at an__law_cell_at cd__law_cell_at ct__law_cell_at), sl__law_cell_at⟩) (c__law_cell_at : PySem.W.codeIn K cd__law_cell_at "_law_cell_at" = true) (k__law_cell_at : PySem.W.keepIn K (.ref f__law_cell_at) = true)
    (a__law_pool : PySem.W.nsIn K mainGlobals "_law_pool" = some (some (.ref f__law_pool))) (l__law_pool : K.lookup f__law_pool = some ⟨oc__law_pool, od__law_pool, .func (PySem.W.fnOf "_law_pool" "_law_pool" (defArgs s__law_pool) (defBody s__law_pool) (defScope s__law_pool) .none kV__law_pool dc__law_pool pm__law_pool an__law_pool cd__law_pool ct__law_pool), sl__law_pool⟩) (c__law_pool : PySem.W.codeIn K cd__law_pool "_law_pool" = true) (k__law_pool : PySem.W.keepIn K (.ref f__law_pool) = true)
    (a__law_take : PySem.W.nsIn K mainGlobals "_law_take" = some (some (.ref f__law_take))) (l__law_take : K.lookup f__law_take = some ⟨oc__law_take, od__law_take, .func (PySem.W.fnOf "_law_take" "_law_take" (defArgs s__law_take) (defBody s__law_take) (defScope s__law_take) .none kV__law_take dc__law_take pm__law_take an__law_take cd__law_take ct__law_take), sl__law_take⟩) (c__law_take : PySem.W.codeIn K cd__law_take "_law_take" = true) (k__law_take : PySem.W.keepIn K (.ref f__law_take) = true)
    (a__law_name : PySem.W.nsIn K mainGlobals "_law_name" = some (some (.ref f__law_name))) (l__law_name : K.lookup f__law_name = some ⟨oc__law_name, od__law_name, .func (PySem.W.fnOf "_law_name" "_law_name" (defArgs s__law_name) (defBody s__law_name) (defScope s__law_name) .none kV__law_name dc__law_name pm__law_name an__law_name cd__law_name ct__law_name), sl__law_name⟩) (c__law_name : PySem.W.codeIn K cd__law_name "_law_name" = true) (k__law_name : PySem.W.keepIn K (.ref f__law_name) = true)
    (a__law_leaf : PySem.W.nsIn K mainGlobals "_law_leaf" = some (some (.ref f__law_leaf))) (l__law_leaf : K.lookup f__law_leaf = some ⟨oc__law_leaf, od__law_leaf, .func (PySem.W.fnOf "_law_leaf" "_law_leaf" (defArgs s__law_leaf) (defBody s__law_leaf) (defScope s__law_leaf) .none kV__law_leaf dc__law_leaf pm__law_leaf an__law_leaf cd__law_leaf ct__law_leaf), sl__law_leaf⟩) (c__law_leaf : PySem.W.codeIn K cd__law_leaf "_law_leaf" = true) (k__law_leaf : PySem.W.keepIn K (.ref f__law_leaf) = true)
    (a__law_recipe : PySem.W.nsIn K mainGlobals "_law_recipe" = some (some (.ref f__law_recipe))) (l__law_recipe : K.lookup f__law_recipe = some ⟨oc__law_recipe, od__law_recipe, .func (PySem.W.fnOf "_law_recipe" "_law_recipe" (defArgs s__law_recipe) (defBody s__law_recipe) (defScope s__law_recipe) .none kV__law_recipe dc__law_recipe pm__law_recipe an__law_recipe cd__law_recipe ct__law_recipe), sl__law_recipe⟩) (c__law_recipe : PySem.W.codeIn K cd__law_recipe "_law_recipe" = true) (k__law_recipe : PySem.W.keepIn K (.ref f__law_recipe) = true)
    (a__law_house : PySem.W.nsIn K mainGlobals "_law_house" = some (some (.ref f__law_house))) (l__law_house : K.lookup f__law_house = some ⟨oc__law_house, od__law_house, .func (PySem.W.fnOf "_law_house" "_law_house" (defArgs s__law_house) (defBody s__law_house) (defScope s__law_house) .none kV__law_house dc__law_house pm__law_house an__law_house cd__law_house ct__law_house), sl__law_house⟩) (c__law_house : PySem.W.codeIn K cd__law_house "_law_house" = true) (k__law_house : PySem.W.keepIn K (.ref f__law_house) = true)
    (a__law_other : PySem.W.nsIn K mainGlobals "_law_other" = some (some (.ref f__law_other))) (l__law_other : K.lookup f__law_other = some ⟨oc__law_other, od__law_other, .func (PySem.W.fnOf "_law_other" "_law_other" (defArgs s__law_other) (defBody s__law_other) (defScope s__law_other) .none kV__law_other dc__law_other pm__law_other an__law_other cd__law_other ct__law_other), sl__law_other⟩) (c__law_other : PySem.W.codeIn K cd__law_other "_law_other" = true) (k__law_other : PySem.W.keepIn K (.ref f__law_other) = true)
    (a__law_value : PySem.W.nsIn K mainGlobals "_law_value" = some (some (.ref f__law_value))) (l__law_value : K.lookup f__law_value = some ⟨oc__law_value, od__law_value, .func (PySem.W.fnOf "_law_value" "_law_value" (defArgs s__law_value) (defBody s__law_value) (defScope s__law_value) .none kV__law_value dc__law_value pm__law_value an__law_value cd__law_value ct__law_value), sl__law_value⟩) (c__law_value : PySem.W.codeIn K cd__law_value "_law_value" = true) (k__law_value : PySem.W.keepIn K (.ref f__law_value) = true)
    (a__law_look : PySem.W.nsIn K mainGlobals "_law_look" = some (some (.ref f__law_look))) (l__law_look : K.lookup f__law_look = some ⟨oc__law_look, od__law_look, .func (PySem.W.fnOf "_law_look" "_law_look" (defArgs s__law_look) (defBody s__law_look) (defScope s__law_look) .none kV__law_look dc__law_look pm__law_look an__law_look cd__law_look ct__law_look), sl__law_look⟩) (c__law_look : PySem.W.codeIn K cd__law_look "_law_look" = true) (k__law_look : PySem.W.keepIn K (.ref f__law_look) = true)
    (a__law_settled : PySem.W.nsIn K mainGlobals "_law_settled" = some (some (.ref f__law_settled))) (l__law_settled : K.lookup f__law_settled = some ⟨oc__law_settled, od__law_settled, .func (PySem.W.fnOf "_law_settled" "_law_settled" (defArgs s__law_settled) (defBody s__law_settled) (defScope s__law_settled) .none kV__law_settled dc__law_settled pm__law_settled an__law_settled cd__law_settled ct__law_settled), sl__law_settled⟩) (c__law_settled : PySem.W.codeIn K cd__law_settled "_law_settled" = true) (k__law_settled : PySem.W.keepIn K (.ref f__law_settled) = true)
    (a__law_fresh : PySem.W.nsIn K mainGlobals "_law_fresh" = some (some (.ref f__law_fresh))) (l__law_fresh : K.lookup f__law_fresh = some ⟨oc__law_fresh, od__law_fresh, .func (PySem.W.fnOf "_law_fresh" "_law_fresh" (defArgs s__law_fresh) (defBody s__law_fresh) (defScope s__law_fresh) .none kV__law_fresh dc__law_fresh pm__law_fresh an__law_fresh cd__law_fresh ct__law_fresh), sl__law_fresh⟩) (c__law_fresh : PySem.W.codeIn K cd__law_fresh "_law_fresh" = true) (k__law_fresh : PySem.W.keepIn K (.ref f__law_fresh) = true)
    (a__law_wishes : PySem.W.nsIn K mainGlobals "_law_wishes" = some (some (.ref f__law_wishes))) (l__law_wishes : K.lookup f__law_wishes = some ⟨oc__law_wishes, od__law_wishes, .func (PySem.W.fnOf "_law_wishes" "_law_wishes" (defArgs s__law_wishes) (defBody s__law_wishes) (defScope s__law_wishes) .none kV__law_wishes dc__law_wishes pm__law_wishes an__law_wishes cd__law_wishes ct__law_wishes), sl__law_wishes⟩) (c__law_wishes : PySem.W.codeIn K cd__law_wishes "_law_wishes" = true) (k__law_wishes : PySem.W.keepIn K (.ref f__law_wishes) = true)
    (a__law_case : PySem.W.nsIn K mainGlobals "_law_case" = some (some (.ref f__law_case))) (l__law_case : K.lookup f__law_case = some ⟨oc__law_case, od__law_case, .func (PySem.W.fnOf "_law_case" "_law_case" (defArgs s__law_case) (defBody s__law_case) (defScope s__law_case) .none kV__law_case dc__law_case pm__law_case an__law_case cd__law_case ct__law_case), sl__law_case⟩) (c__law_case : PySem.W.codeIn K cd__law_case "_law_case" = true) (k__law_case : PySem.W.keepIn K (.ref f__law_case) = true)
    (a__law_paper : PySem.W.nsIn K mainGlobals "_law_paper" = some (some (.ref f__law_paper))) (l__law_paper : K.lookup f__law_paper = some ⟨oc__law_paper, od__law_paper, .func (PySem.W.fnOf "_law_paper" "_law_paper" (defArgs s__law_paper) (defBody s__law_paper) (defScope s__law_paper) .none kV__law_paper dc__law_paper pm__law_paper an__law_paper cd__law_paper ct__law_paper), sl__law_paper⟩) (c__law_paper : PySem.W.codeIn K cd__law_paper "_law_paper" = true) (k__law_paper : PySem.W.keepIn K (.ref f__law_paper) = true)
    (a__law_others : PySem.W.nsIn K mainGlobals "_law_others" = some (some (.ref f__law_others))) (l__law_others : K.lookup f__law_others = some ⟨oc__law_others, od__law_others, .func (PySem.W.fnOf "_law_others" "_law_others" (defArgs s__law_others) (defBody s__law_others) (defScope s__law_others) .none kV__law_others dc__law_others pm__law_others an__law_others cd__law_others ct__law_others), sl__law_others⟩) (c__law_others : PySem.W.codeIn K cd__law_others "_law_others" = true) (k__law_others : PySem.W.keepIn K (.ref f__law_others) = true)
    (a__law_truths : PySem.W.nsIn K mainGlobals "_law_truths" = some (some (.ref f__law_truths))) (l__law_truths : K.lookup f__law_truths = some ⟨oc__law_truths, od__law_truths, .func (PySem.W.fnOf "_law_truths" "_law_truths" (defArgs s__law_truths) (defBody s__law_truths) (defScope s__law_truths) .none kV__law_truths dc__law_truths pm__law_truths an__law_truths cd__law_truths ct__law_truths), sl__law_truths⟩) (c__law_truths : PySem.W.codeIn K cd__law_truths "_law_truths" = true) (k__law_truths : PySem.W.keepIn K (.ref f__law_truths) = true)
    (a__law_alike : PySem.W.nsIn K mainGlobals "_law_alike" = some (some (.ref f__law_alike))) (l__law_alike : K.lookup f__law_alike = some ⟨oc__law_alike, od__law_alike, .func (PySem.W.fnOf "_law_alike" "_law_alike" (defArgs s__law_alike) (defBody s__law_alike) (defScope s__law_alike) .none kV__law_alike dc__law_alike pm__law_alike an__law_alike cd__law_alike ct__law_alike), sl__law_alike⟩) (c__law_alike : PySem.W.codeIn K cd__law_alike "_law_alike" = true) (k__law_alike : PySem.W.keepIn K (.ref f__law_alike) = true)
    (a_law : PySem.W.nsIn K mainGlobals "law" = some (some (.ref f_law))) (l_law : K.lookup f_law = some ⟨oc_law, od_law, .func (PySem.W.fnOf "law" "law" (defArgs s_law) (defBody s_law) (defScope s_law) .none kV_law dc_law pm_law an_law cd_law ct_law), sl_law⟩) (c_law : PySem.W.codeIn K cd_law "law" = true) (k_law : PySem.W.keepIn K (.ref f_law) = true)
    (z_len : PySem.W.nsIn K mainGlobals "len" = some none)
    (z_list : PySem.W.nsIn K mainGlobals "list" = some none)
    (z_range : PySem.W.nsIn K mainGlobals "range" = some none)
    (z_tuple : PySem.W.nsIn K mainGlobals "tuple" = some none)
    (z_str : PySem.W.nsIn K mainGlobals "str" = some none)
    (z_int : PySem.W.nsIn K mainGlobals "int" = some none)
    (z_isinstance : PySem.W.nsIn K mainGlobals "isinstance" = some none)
    (z_bool : PySem.W.nsIn K mainGlobals "bool" = some none)
    (z_sum : PySem.W.nsIn K mainGlobals "sum" = some none)
    (z_dict : PySem.W.nsIn K mainGlobals "dict" = some none)
    (z_sorted : PySem.W.nsIn K mainGlobals "sorted" = some none)
    (z_zip : PySem.W.nsIn K mainGlobals "zip" = some none)
    (z_enumerate : PySem.W.nsIn K mainGlobals "enumerate" = some none)
    (z_min : PySem.W.nsIn K mainGlobals "min" = some none)
    (z_max : PySem.W.nsIn K mainGlobals "max" = some none)
    (z_set : PySem.W.nsIn K mainGlobals "set" = some none)
    (z_ValueError : PySem.W.nsIn K mainGlobals "ValueError" = some none)
    : ∃ fd : FuncData, (∀ (s : Shared) (v : Value), BindsTo s fd ⟨[v], []⟩ [("script", v)]) ∧ ∀ base : Heap, K.In base → base.Ns mainGlobals mg → FnOk l.prog w K mg base CX0 123 fa fd ["script"] (spLaw K) := by
  have e := hfa.symm.trans (PySem.W.mg_of X G a_law)
  cases e
  have F_first_unlike := fun_mk (st := s_first_unlike) l_first_unlike c_first_unlike k_first_unlike
  have D_first_unlike : IsDef K mg "first_unlike" s_first_unlike ["reads", "worths"] := ⟨f_first_unlike, _, F_first_unlike, PySem.W.mg_of X G a_first_unlike, F_first_unlike.binds (ps := ["reads", "worths"]) fun _ _ _ _ _ _ us hl => match us, hl with | [_, _], _ => rfl⟩
  have F_paper_by := fun_mk (st := s_paper_by) l_paper_by c_paper_by k_paper_by
  have D_paper_by : IsDef K mg "paper_by" s_paper_by ["house", "records", "worths", "name"] := ⟨f_paper_by, _, F_paper_by, PySem.W.mg_of X G a_paper_by, F_paper_by.binds (ps := ["house", "records", "worths", "name"]) fun _ _ _ _ _ _ us hl => match us, hl with | [_, _, _, _], _ => rfl⟩
  have F_has_truths := fun_mk (st := s_has_truths) l_has_truths c_has_truths k_has_truths
  have D_has_truths : IsDef K mg "has_truths" s_has_truths ["thing"] := ⟨f_has_truths, _, F_has_truths, PySem.W.mg_of X G a_has_truths, F_has_truths.binds (ps := ["thing"]) fun _ _ _ _ _ _ us hl => match us, hl with | [_], _ => rfl⟩
  have F_paper_shows := fun_mk (st := s_paper_shows) l_paper_shows c_paper_shows k_paper_shows
  have D_paper_shows : IsDef K mg "paper_shows" s_paper_shows ["house", "records", "worths", "name", "paper"] := ⟨f_paper_shows, _, F_paper_shows, PySem.W.mg_of X G a_paper_shows, F_paper_shows.binds (ps := ["house", "records", "worths", "name", "paper"]) fun _ _ _ _ _ _ us hl => match us, hl with | [_, _, _, _, _], _ => rfl⟩
  have F__law_cell_at := fun_mk (st := s__law_cell_at) l__law_cell_at c__law_cell_at k__law_cell_at
  have D__law_cell_at : IsDef K mg "_law_cell_at" s__law_cell_at ["script", "k"] := ⟨f__law_cell_at, _, F__law_cell_at, PySem.W.mg_of X G a__law_cell_at, F__law_cell_at.binds (ps := ["script", "k"]) fun _ _ _ _ _ _ us hl => match us, hl with | [_, _], _ => rfl⟩
  have F__law_pool := fun_mk (st := s__law_pool) l__law_pool c__law_pool k__law_pool
  have D__law_pool : IsDef K mg "_law_pool" s__law_pool ["script", "k"] := ⟨f__law_pool, _, F__law_pool, PySem.W.mg_of X G a__law_pool, F__law_pool.binds (ps := ["script", "k"]) fun _ _ _ _ _ _ us hl => match us, hl with | [_, _], _ => rfl⟩
  have F__law_take := fun_mk (st := s__law_take) l__law_take c__law_take k__law_take
  have D__law_take : IsDef K mg "_law_take" s__law_take ["pool", "many"] := ⟨f__law_take, _, F__law_take, PySem.W.mg_of X G a__law_take, F__law_take.binds (ps := ["pool", "many"]) fun _ _ _ _ _ _ us hl => match us, hl with | [_, _], _ => rfl⟩
  have F__law_name := fun_mk (st := s__law_name) l__law_name c__law_name k__law_name
  have D__law_name : IsDef K mg "_law_name" s__law_name ["k"] := ⟨f__law_name, _, F__law_name, PySem.W.mg_of X G a__law_name, F__law_name.binds (ps := ["k"]) fun _ _ _ _ _ _ us hl => match us, hl with | [_], _ => rfl⟩
  have F__law_leaf := fun_mk (st := s__law_leaf) l__law_leaf c__law_leaf k__law_leaf
  have D__law_leaf : IsDef K mg "_law_leaf" s__law_leaf ["pool", "names"] := ⟨f__law_leaf, _, F__law_leaf, PySem.W.mg_of X G a__law_leaf, F__law_leaf.binds (ps := ["pool", "names"]) fun _ _ _ _ _ _ us hl => match us, hl with | [_, _], _ => rfl⟩
  have F__law_recipe := fun_mk (st := s__law_recipe) l__law_recipe c__law_recipe k__law_recipe
  have D__law_recipe : IsDef K mg "_law_recipe" s__law_recipe ["pool", "names", "deep"] := ⟨f__law_recipe, _, F__law_recipe, PySem.W.mg_of X G a__law_recipe, F__law_recipe.binds (ps := ["pool", "names", "deep"]) fun _ _ _ _ _ _ us hl => match us, hl with | [_, _, _], _ => rfl⟩
  have F__law_house := fun_mk (st := s__law_house) l__law_house c__law_house k__law_house
  have D__law_house : IsDef K mg "_law_house" s__law_house ["script", "start", "many"] := ⟨f__law_house, _, F__law_house, PySem.W.mg_of X G a__law_house, F__law_house.binds (ps := ["script", "start", "many"]) fun _ _ _ _ _ _ us hl => match us, hl with | [_, _, _], _ => rfl⟩
  have F__law_other := fun_mk (st := s__law_other) l__law_other c__law_other k__law_other
  have D__law_other : IsDef K mg "_law_other" s__law_other ["house", "script", "start", "most"] := ⟨f__law_other, _, F__law_other, PySem.W.mg_of X G a__law_other, F__law_other.binds (ps := ["house", "script", "start", "most"]) fun _ _ _ _ _ _ us hl => match us, hl with | [_, _, _, _], _ => rfl⟩
  have F__law_value := fun_mk (st := s__law_value) l__law_value c__law_value k__law_value
  have D__law_value : IsDef K mg "_law_value" s__law_value ["house", "r", "state", "reads"] := ⟨f__law_value, _, F__law_value, PySem.W.mg_of X G a__law_value, F__law_value.binds (ps := ["house", "r", "state", "reads"]) fun _ _ _ _ _ _ us hl => match us, hl with | [_, _, _, _], _ => rfl⟩
  have F__law_look := fun_mk (st := s__law_look) l__law_look c__law_look k__law_look
  have D__law_look : IsDef K mg "_law_look" s__law_look ["house", "name", "state", "reads"] := ⟨f__law_look, _, F__law_look, PySem.W.mg_of X G a__law_look, F__law_look.binds (ps := ["house", "name", "state", "reads"]) fun _ _ _ _ _ _ us hl => match us, hl with | [_, _, _, _], _ => rfl⟩
  have F__law_settled := fun_mk (st := s__law_settled) l__law_settled c__law_settled k__law_settled
  have D__law_settled : IsDef K mg "_law_settled" s__law_settled ["house", "name", "state"] := ⟨f__law_settled, _, F__law_settled, PySem.W.mg_of X G a__law_settled, F__law_settled.binds (ps := ["house", "name", "state"]) fun _ _ _ _ _ _ us hl => match us, hl with | [_, _, _], _ => rfl⟩
  have F__law_fresh := fun_mk (st := s__law_fresh) l__law_fresh c__law_fresh k__law_fresh
  have D__law_fresh : IsDef K mg "_law_fresh" s__law_fresh ["house", "wishes"] := ⟨f__law_fresh, _, F__law_fresh, PySem.W.mg_of X G a__law_fresh, F__law_fresh.binds (ps := ["house", "wishes"]) fun _ _ _ _ _ _ us hl => match us, hl with | [_, _], _ => rfl⟩
  have F__law_wishes := fun_mk (st := s__law_wishes) l__law_wishes c__law_wishes k__law_wishes
  have D__law_wishes : IsDef K mg "_law_wishes" s__law_wishes ["house", "pool"] := ⟨f__law_wishes, _, F__law_wishes, PySem.W.mg_of X G a__law_wishes, F__law_wishes.binds (ps := ["house", "pool"]) fun _ _ _ _ _ _ us hl => match us, hl with | [_, _], _ => rfl⟩
  have F__law_case := fun_mk (st := s__law_case) l__law_case c__law_case k__law_case
  have D__law_case : IsDef K mg "_law_case" s__law_case ["script"] := ⟨f__law_case, _, F__law_case, PySem.W.mg_of X G a__law_case, F__law_case.binds (ps := ["script"]) fun _ _ _ _ _ _ us hl => match us, hl with | [_], _ => rfl⟩
  have F__law_paper := fun_mk (st := s__law_paper) l__law_paper c__law_paper k__law_paper
  have D__law_paper : IsDef K mg "_law_paper" s__law_paper ["house", "records", "worths", "name"] := ⟨f__law_paper, _, F__law_paper, PySem.W.mg_of X G a__law_paper, F__law_paper.binds (ps := ["house", "records", "worths", "name"]) fun _ _ _ _ _ _ us hl => match us, hl with | [_, _, _, _], _ => rfl⟩
  have F__law_others := fun_mk (st := s__law_others) l__law_others c__law_others k__law_others
  have D__law_others : IsDef K mg "_law_others" s__law_others ["pool", "due", "other"] := ⟨f__law_others, _, F__law_others, PySem.W.mg_of X G a__law_others, F__law_others.binds (ps := ["pool", "due", "other"]) fun _ _ _ _ _ _ us hl => match us, hl with | [_, _, _], _ => rfl⟩
  have F__law_truths := fun_mk (st := s__law_truths) l__law_truths c__law_truths k__law_truths
  have D__law_truths : IsDef K mg "_law_truths" s__law_truths ["r"] := ⟨f__law_truths, _, F__law_truths, PySem.W.mg_of X G a__law_truths, F__law_truths.binds (ps := ["r"]) fun _ _ _ _ _ _ us hl => match us, hl with | [_], _ => rfl⟩
  have F__law_alike := fun_mk (st := s__law_alike) l__law_alike c__law_alike k__law_alike
  have D__law_alike : IsDef K mg "_law_alike" s__law_alike ["one", "other"] := ⟨f__law_alike, _, F__law_alike, PySem.W.mg_of X G a__law_alike, F__law_alike.binds (ps := ["one", "other"]) fun _ _ _ _ _ _ us hl => match us, hl with | [_, _], _ => rfl⟩
  have F_law := fun_mk (st := s_law) l_law c_law k_law
  have m_len := PySem.W.mg_none_of X G z_len
  have m_list := PySem.W.mg_none_of X G z_list
  have m_range := PySem.W.mg_none_of X G z_range
  have m_tuple := PySem.W.mg_none_of X G z_tuple
  have m_str := PySem.W.mg_none_of X G z_str
  have m_int := PySem.W.mg_none_of X G z_int
  have m_isinstance := PySem.W.mg_none_of X G z_isinstance
  have m_bool := PySem.W.mg_none_of X G z_bool
  have m_sum := PySem.W.mg_none_of X G z_sum
  have m_dict := PySem.W.mg_none_of X G z_dict
  have m_sorted := PySem.W.mg_none_of X G z_sorted
  have m_zip := PySem.W.mg_none_of X G z_zip
  have m_enumerate := PySem.W.mg_none_of X G z_enumerate
  have m_min := PySem.W.mg_none_of X G z_min
  have m_max := PySem.W.mg_none_of X G z_max
  have m_set := PySem.W.mg_none_of X G z_set
  have m_ValueError := PySem.W.mg_none_of X G z_ValueError
  have T : Txt K mg := ⟨m_len, m_list, m_range, m_tuple, m_str, m_int, m_isinstance, m_bool, m_sum, m_dict, m_sorted, m_zip, m_enumerate, m_min, m_max, m_set, m_ValueError⟩
  refine ⟨PySem.W.fnOf "law" "law" (defArgs s_law) (defBody s_law) (defScope s_law) .none kV_law dc_law pm_law an_law cd_law ct_law, fun s v => .of_eq rfl, fun base _ _ => ?_⟩
  have A1 := ok__law_cell_at (P := l.prog) (w := w) (base := base) T D__law_cell_at
  have A2 := ok__law_pool T D__law_pool A1
  have A3 := ok__law_take (P := l.prog) (w := w) (base := base) T D__law_take
  have A4 := ok__law_name (P := l.prog) (w := w) (base := base) T D__law_name
  have A5 := ok__law_leafB T D__law_leaf A3
  have A6 := ok__law_recipeB T D__law_recipe A3 A5 4
  have A7 := ok__law_houseB T D__law_house A2 A3 A4 A6
  have A8 := ok__law_otherB T D__law_other A2 A3 A4 A6
  have A9 := ok__law_settledB (P := l.prog) (w := w) (base := base) (Tb := []) (dm := 5) T D__law_settled D__law_look D__law_value 17
  have B1 := ok__law_freshB (n := 17) T D__law_fresh A9
  have B2 := ok__law_wishesB T D__law_wishes A3
  have B3 := ok__law_caseB (n := 17) (by decide) T D__law_case A2 A3 A7 A8 B2 B1
  have B4 := ok__law_paperB (P := l.prog) (w := w) (base := base) T D__law_paper
  have Q1 := ok_first_unlike (P := l.prog) (w := w) (base := base) T D_first_unlike
  have Q2 := ok_paper_by T D_paper_by Q1
  have Q4 := ok_has_truthsG (P := l.prog) (w := w) (base := base) T D_has_truths 14
  have Q5 := ok_paper_showsG T D_paper_shows Q2 Q4
  have R1 := ok__law_truths (P := l.prog) (w := w) (base := base) T D__law_truths 12
  have R2 := ok__law_others T D__law_others A3 R1
  have R3 := ok__law_alike32 (P := l.prog) (w := w) (base := base) T D__law_alike 14
  exact ok_law F_law T B3 B1 B4 A2 R2 Q5 R3
theorem walk {l : PySem.W.OpenLaw} {q : Program} {loose : List Str} {XP : (Str → Option Value) → Heap → Prop} {YP : World → Heap → Prop} {d : DefRec} {K : Params → PySem.W.Frag} (hn : l.most = some 63) (hdf : d.params.defaults = [])
    (hY : ∀ (w : World) (h : Heap), YP w h → (K w.params).In h)
    (F : ∀ (w : World) (mg : Str → Option Value) (fa : Addr) (h : Heap), (K w.params).In h → h.Ns mainGlobals mg → mg d.name = some (.ref fa) →
      ∃ fd : FuncData, (∀ (s : Shared) (u : Value), BindsTo s fd ⟨[u], []⟩ [("script", u)]) ∧ ∀ base : Heap, (K w.params).In base → base.Ns mainGlobals mg → FnOk l.prog w (K w.params) mg base CX0 123 fa fd ["script"] (spLaw (K w.params))) :
    PySem.W.WalkO q loose XP YP l.row.toRowW d [] (fun f vs => PySem.call f vs) :=
  L2.walk_of (n := 63) (k := 123) (x := "script") (CX := fun _ => CX0) (sp := fun w => spLaw (K w.params)) hn (by decide) hdf ⟨rfl, by decide, by decide⟩ hY F (fun _ _ a ns hl _ hS => ⟨a, ns, rfl, hS, hl, fun _ => rfl⟩) fun _ _ _ _ _ z => z
end Mad
open PySem PySem.W PyProof.Rows
set_option maxRecDepth 100000 in
set_option maxHeartbeats 0 in
theorem PySem.Challenge.cw_madeagain_k32_papers_judged_holds : PySem.Challenge.rw_madeagain_k32_papers_judged.Holds := by
  w_on; o_law; k_head; (case hw => w_witness2)
  k_fill
  refine Mad.walk (l := PySem.Challenge.rw_madeagain_k32_papers_judged) rfl rfl (fun w h Y => PySem.W.kIn_of Y) ?F
  case F =>
    intro w mg fa h KX G hmg
    refine' Mad.all_mk KX G hmg ?a_first_unlike ?l_first_unlike ?c_first_unlike ?k_first_unlike ?a_paper_by ?l_paper_by ?c_paper_by ?k_paper_by ?a_has_truths ?l_has_truths ?c_has_truths ?k_has_truths ?a_paper_shows ?l_paper_shows ?c_paper_shows ?k_paper_shows ?a__law_cell_at ?l__law_cell_at ?c__law_cell_at ?k__law_cell_at ?a__law_pool ?l__law_pool ?c__law_pool ?k__law_pool ?a__law_take ?l__law_take ?c__law_take ?k__law_take ?a__law_name ?l__law_name ?c__law_name ?k__law_name ?a__law_leaf ?l__law_leaf ?c__law_leaf ?k__law_leaf ?a__law_recipe ?l__law_recipe ?c__law_recipe ?k__law_recipe ?a__law_house ?l__law_house ?c__law_house ?k__law_house ?a__law_other ?l__law_other ?c__law_other ?k__law_other ?a__law_value ?l__law_value ?c__law_value ?k__law_value ?a__law_look ?l__law_look ?c__law_look ?k__law_look ?a__law_settled ?l__law_settled ?c__law_settled ?k__law_settled ?a__law_fresh ?l__law_fresh ?c__law_fresh ?k__law_fresh ?a__law_wishes ?l__law_wishes ?c__law_wishes ?k__law_wishes ?a__law_case ?l__law_case ?c__law_case ?k__law_case ?a__law_paper ?l__law_paper ?c__law_paper ?k__law_paper ?a__law_others ?l__law_others ?c__law_others ?k__law_others ?a__law_truths ?l__law_truths ?c__law_truths ?k__law_truths ?a__law_alike ?l__law_alike ?c__law_alike ?k__law_alike ?a_law ?l_law ?c_law ?k_law ?z_len ?z_list ?z_range ?z_tuple ?z_str ?z_int ?z_isinstance ?z_bool ?z_sum ?z_dict ?z_sorted ?z_zip ?z_enumerate ?z_min ?z_max ?z_set ?z_ValueError
    (case a_first_unlike => k_is)
    (case l_first_unlike => k_is)
    (case c_first_unlike => k_is)
    (case k_first_unlike => k_is)
    (case a_paper_by => k_is)
    (case l_paper_by => k_is)
    (case c_paper_by => k_is)
    (case k_paper_by => k_is)
    (case a_has_truths => k_is)
    (case l_has_truths => k_is)
    (case c_has_truths => k_is)
    (case k_has_truths => k_is)
    (case a_paper_shows => k_is)
    (case l_paper_shows => k_is)
    (case c_paper_shows => k_is)
    (case k_paper_shows => k_is)
    (case a__law_cell_at => k_is)
    (case l__law_cell_at => k_is)
    (case c__law_cell_at => k_is)
    (case k__law_cell_at => k_is)
    (case a__law_pool => k_is)
    (case l__law_pool => k_is)
    (case c__law_pool => k_is)
    (case k__law_pool => k_is)
    (case a__law_take => k_is)
    (case l__law_take => k_is)
    (case c__law_take => k_is)
    (case k__law_take => k_is)
    (case a__law_name => k_is)
    (case l__law_name => k_is)
    (case c__law_name => k_is)
    (case k__law_name => k_is)
    (case a__law_leaf => k_is)
    (case l__law_leaf => k_is)
    (case c__law_leaf => k_is)
    (case k__law_leaf => k_is)
    (case a__law_recipe => k_is)
    (case l__law_recipe => k_is)
    (case c__law_recipe => k_is)
    (case k__law_recipe => k_is)
    (case a__law_house => k_is)
    (case l__law_house => k_is)
    (case c__law_house => k_is)
    (case k__law_house => k_is)
    (case a__law_other => k_is)
    (case l__law_other => k_is)
    (case c__law_other => k_is)
    (case k__law_other => k_is)
    (case a__law_value => k_is)
    (case l__law_value => k_is)
    (case c__law_value => k_is)
    (case k__law_value => k_is)
    (case a__law_look => k_is)
    (case l__law_look => k_is)
    (case c__law_look => k_is)
    (case k__law_look => k_is)
    (case a__law_settled => k_is)
    (case l__law_settled => k_is)
    (case c__law_settled => k_is)
    (case k__law_settled => k_is)
    (case a__law_fresh => k_is)
    (case l__law_fresh => k_is)
    (case c__law_fresh => k_is)
    (case k__law_fresh => k_is)
    (case a__law_wishes => k_is)
    (case l__law_wishes => k_is)
    (case c__law_wishes => k_is)
    (case k__law_wishes => k_is)
    (case a__law_case => k_is)
    (case l__law_case => k_is)
    (case c__law_case => k_is)
    (case k__law_case => k_is)
    (case a__law_paper => k_is)
    (case l__law_paper => k_is)
    (case c__law_paper => k_is)
    (case k__law_paper => k_is)
    (case a__law_others => k_is)
    (case l__law_others => k_is)
    (case c__law_others => k_is)
    (case k__law_others => k_is)
    (case a__law_truths => k_is)
    (case l__law_truths => k_is)
    (case c__law_truths => k_is)
    (case k__law_truths => k_is)
    (case a__law_alike => k_is)
    (case l__law_alike => k_is)
    (case c__law_alike => k_is)
    (case k__law_alike => k_is)
    (case a_law => k_is)
    (case l_law => k_is)
    (case c_law => k_is)
    (case k_law => k_is)
    (case z_len => k_is)
    (case z_list => k_is)
    (case z_range => k_is)
    (case z_tuple => k_is)
    (case z_str => k_is)
    (case z_int => k_is)
    (case z_isinstance => k_is)
    (case z_bool => k_is)
    (case z_sum => k_is)
    (case z_dict => k_is)
    (case z_sorted => k_is)
    (case z_zip => k_is)
    (case z_enumerate => k_is)
    (case z_min => k_is)
    (case z_max => k_is)
    (case z_set => k_is)
    (case z_ValueError => k_is)
#print axioms PySem.Challenge.cw_madeagain_k32_papers_judged_holds
