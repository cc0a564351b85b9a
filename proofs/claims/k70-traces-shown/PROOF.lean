import PyProof.Rows.All
import Wide.All
import OpenK.AllK
import Wide.FinOn
import HandS.ForMost
import HandS.Wide
import HandS.IsInst
import HandS.Codes
import HandS.More
import HandS.Style
import HandS.TupMul
import HandS.TupAny
import HandS.Dict
import HandS.Iter
import HandS.SortInts
import HandS.SortOrd
import KE.KEqSeq
import HandS.Exc
import HandS.ExcOwn
import HandS.WordsExc
import KE.IntTextLaws
import KE.IntTextText
import HandS.ExcValue
import HandS.TryOnly
import HandS.ExcIs
import PyProof.StrOps2
import HandS.Strs
import HandS.NoneIn
import HandS.ReplaceLit
import HandS.ReplaceList
import HandS.Zip
import HandS.Deep
import HandS.StrMore
import HandS.Walk
import HandS.RaiseMore
import HandS.Lambda
import HandS.Nested
import HandS.EndTab
import HandS.ExcInit
import HandS.ExcField
import HandS.SetKeys
import KE.KExcIs
import KE.KEqNest
import HandS.Sort
import HandS.ListItems
import HandS.Finally
import PySem.Challenge.RW_madeagain_k70_traces_shown
set_option Elab.async false
set_option linter.all false
set_option maxRecDepth 100000
set_option maxHeartbeats 4000000
set_option pp.maxSteps 300
namespace Mad
open PySem PySem.Spec PyProof.Rows L2
def topS (i : Nat) : Stmt := PySem.Challenge.pw_madeagain_k70_traces_shown.main.body.getD i (.Pass ⟨0, 0, 0, 0⟩)
/-! ### short words over the layer -/
/-- the def x of the text stands in the module as st says -/
def IsDef (K : PySem.W.Frag) (mg : Str → Option Value) (x : Str) (st : Stmt) (ps : List Str) : Prop := ∃ (f : Addr) (fd : FuncData), Fun K x x st f fd ∧ mg x = some (.ref f) ∧ Binds K fd ps []
/-- the def x keeps the promise sp by at most k calls in one another -/
def Cal (P : Program) (w : World) (K : PySem.W.Frag) (mg : Str → Option Value) (base : Heap) (CX : CXT) (k : Nat) (x : Str) (ps : List Str) (sp : Sp) : Prop :=
  ∃ (f : Addr) (fd : FuncData), FnOk P w K mg base CX k f fd ps sp ∧ mg x = some (.ref f) ∧ PySem.W.keepIn K (.ref f) = true ∧ Binds K fd ps []
section
variable {P : Program} {w : World} {K : PySem.W.Frag} {mg : Str → Option Value} {base : Heap}
theorem Cal.mono {CX : CXT} {j k : Nat} {x : Str} {ps : List Str} {sp : Sp} (c : Cal P w K mg base CX j x ps sp) (h : j ≤ k) : Cal P w K mg base CX k x ps sp := by
  obtain ⟨f, fd, F, r⟩ := c
  exact ⟨f, fd, F.mono h, r⟩
theorem Cal.imp {CX : CXT} {k : Nat} {x : Str} {ps : List Str} {sp sp' : Sp} (c : Cal P w K mg base CX k x ps sp) (h : ∀ vs H Q E, sp' vs H Q E → sp vs H Q E) : Cal P w K mg base CX k x ps sp' := by
  obtain ⟨f, fd, F, r⟩ := c
  exact ⟨f, fd, F.imp h, r⟩
/-- of no depth none is asked -/
theorem cal_none {x : Str} {st : Stmt} {ps : List Str} {sp : Sp} {CX : CXT} {k : Nat} (D : IsDef K mg x st ps) (no : ∀ vs H Q E, ¬ sp vs H Q E) : Cal P w K mg base CX k x ps sp := by
  obtain ⟨f, fd, F, m, b⟩ := D
  exact ⟨f, fd, ⟨fun vs H Q E h => absurd h (no vs H Q E), fun A outer s H args us vs Q E _ _ _ _ h => absurd h (no vs H Q E)⟩, m, F.kp, b⟩
theorem IsDef.cal {x : Str} {st : Stmt} {N ps : List Str} {k : Nat} {sp : Sp} (D : IsDef K mg x st ps) (S : FnScope N ps (defScope st)) (len : ∀ vs H Q E, sp vs H Q E → vs.length = ps.length)
    (hbody : ∀ (f : Addr) (cdv : Value) (A : Around) (outer : List Env) (s : Shared) (H : Hp) (vs : List V) (Q : VK) (E : XK), Room k (A.deeper (envOfC x (defScope st) s.heap.objs.size f cdv)) → sp vs H Q E →
      ∃ t, PSs (cxOf CX0 P w K mg base N x (defScope st) f cdv A outer s H E).nox (defBody st) t ∧ t { nx := fun _ H' => Q .non H', rt := Q } (start N vs) H) : Cal P w K mg base CX0 (k + 1) x ps sp := by
  obtain ⟨f, fd, F, m, b⟩ := D
  exact ⟨f, fd, F.ok S len fun cdv A outer s H vs Q E => hbody f cdv A outer s H vs Q E, m, F.kp, b⟩
end
section
variable {X : Cx} {CX : CXT} {k : Nat} {ps : List Str} {sp : Sp} {E : XK} {x : Str} {p pos : Pos}
theorem pe_cal {e : Expr} {es : List Expr} {t : TA} (c : Cal X.prog X.w X.K X.mg X.base CX k x ps sp) (hr : Room k X.A) (hx : Passes CX X E) (ha : PA X (e :: es) t) (hg : Gl X x := by rfl)
    (hdb : (x == ("__debug__" : Str)) = false := by decide) (he : starEach (e :: es) X.env = (false, eval e X.env) :: starEach es X.env := by rfl) (hpl : (backTo pos (starEach es X.env)).any (·.1) = false := by rfl) :
    PE X (.Call (.Name x p) (e :: es) [] pos) (tCall sp [] E t) := by
  obtain ⟨f, fd, F, m, kp, b⟩ := c
  exact pe_call F hr hg m kp b .nil hx ha hdb he hpl
theorem pe_cal0 (c : Cal X.prog X.w X.K X.mg X.base CX k x ps sp) (hr : Room k X.A) (hx : Passes CX X E) (hg : Gl X x := by rfl) (hdb : (x == ("__debug__" : Str)) = false := by decide) :
    PE X (.Call (.Name x p) [] [] pos) (tCall sp [] E tNil) := by
  obtain ⟨f, fd, F, m, kp, b⟩ := c
  exact pe_call0 F hr hg m kp b .nil hx hdb
end
theorem le_line {n : Nat} (h : n ≤ 16777216) : n ≤ sizeLine := by rw [sizeLine_eq]; exact h
theorem lt_line {n : Nat} (h : n < 16777216) : n < sizeLine := by rw [sizeLine_eq]; exact h
theorem same_new {H : Hp} {p : Addr} (h : H p = none) (o : HO) : Same H (upd H p o) := fun b u q => by rw [upd_ne (ne_of_none q h)]; exact q
theorem same_upd {B H : Hp} {p : Addr} (s : Same B H) (h : B p = none) (o : HO) : Same B (upd H p o) := fun b u q => by
  have z : b ≠ p := fun e => by rw [e, h] at q; cases q
  rw [upd_ne z]; exact s _ _ q
theorem atI_at {α : Type} {xs : List α} {i : Int} {v : α} (h0 : 0 ≤ i) (h : xs[i.toNat]? = some v) : atI xs i = some v := by
  have e : i = ((i.toNat : Nat) : Int) := by omega
  rw [e]; exact atI_nat h
theorem ixN_at {n : Nat} {i : Int} (h0 : 0 ≤ i) (h : i < n) : ixN n i = some i.toNat := by
  unfold ixN
  rw [if_pos h0, if_pos h]
theorem int_at {ns : List Int} {i : Int} (h0 : 0 ≤ i) (h : i < ns.length) : ∃ v : Int, atI (ns.map V.int) i = some (.int v) := by
  have hk : i.toNat < ns.length := by omega
  exact ⟨ns[i.toNat], atI_at h0 (by rw [List.getElem?_map, List.getElem?_eq_getElem hk] <;> rfl)⟩
theorem if_true_eq {c : Bool} {A B : Prop} (h : c = true) (a : A) : if c = true then A else B := by rw [if_pos h]; exact a
theorem if_false_eq {c : Bool} {A B : Prop} (h : c = false) (b : B) : if c = true then A else B := by rw [h]; exact b
theorem not_true_eq {c : Bool} {A B : Prop} (h : c = true) (b : B) : if (!c) = true then A else B := by rw [h]; exact b
theorem not_false_eq {c : Bool} {A B : Prop} (h : c = false) (a : A) : if (!c) = true then A else B := by rw [h]; exact a
structure Txt (K : PySem.W.Frag) (mg : Str → Option Value) : Prop where
  b_len : mg "len" = none
  b_list : mg "list" = none
  b_range : mg "range" = none
  b_tuple : mg "tuple" = none
  b_str : mg "str" = none
  b_int : mg "int" = none
  b_isinstance : mg "isinstance" = none
  b_bool : mg "bool" = none
  b_sum : mg "sum" = none
  b_dict : mg "dict" = none
  b_sorted : mg "sorted" = none
  b_zip : mg "zip" = none
  b_enumerate : mg "enumerate" = none
  b_min : mg "min" = none
  b_max : mg "max" = none
  b_set : mg "set" = none
  b_ValueError : mg "ValueError" = none
/-! ### recipes as data -/
inductive Kd where
  | plus | minus | times | most
  deriving DecidableEq
def Kd.name : Kd → Str
  | .plus => "plus" | .minus => "minus" | .times => "times" | .most => "most"
inductive Rcp where
  | num (n : Int)
  | read (s : List Nat)
  | two (k : Kd) (a b : Rcp)
  | pick (a b c : Rcp)
  | choose (a : Rcp) (ns : List (List Nat))
def Rcp.dep : Rcp → Nat
  | .num _ => 1
  | .read _ => 1
  | .two _ a b => max a.dep b.dep + 1
  | .pick a b c => max a.dep (max b.dep c.dep) + 1
  | .choose a _ => a.dep + 1
def Rcp.siz : Rcp → Nat
  | .num _ => 1
  | .read _ => 1
  | .two _ a b => a.siz + b.siz + 1
  | .pick a b c => a.siz + b.siz + c.siz + 1
  | .choose a _ => a.siz + 1
/-- a name's signs -/
def Nm (s : List Nat) : Prop := 1 ≤ s.length ∧ s.length ≤ 8 ∧ ∀ c ∈ s, 97 ≤ c ∧ c ≤ 122
def Nms (ns : List (List Nat)) : Prop := 1 ≤ ns.length ∧ ns.length ≤ 9 ∧ ∀ s ∈ ns, Nm s
def Rcp.Good : Rcp → Prop
  | .num n => n.natAbs < 10 ^ 40
  | .read s => Nm s
  | .two _ a b => a.Good ∧ b.Good
  | .pick a b c => a.Good ∧ b.Good ∧ c.Good
  | .choose a ns => a.Good ∧ Nms ns
def txs (ns : List (List Nat)) : List V := (ns.map SX.S).map V.str
/-- the value v is the recipe r in H -/
def Rec (H : Hp) : Rcp → V → Prop
  | .num n, v => ∃ p, v = .ref p ∧ H p = some (.tup [.str "number", .int n])
  | .read s, v => ∃ p, v = .ref p ∧ H p = some (.tup [.str "read", .str (SX.S s)])
  | .two k a b, v => ∃ p x y, v = .ref p ∧ H p = some (.tup [.str k.name, x, y]) ∧ Rec H a x ∧ Rec H b y
  | .pick a b c, v => ∃ p x y z, v = .ref p ∧ H p = some (.tup [.str "pick", x, y, z]) ∧ Rec H a x ∧ Rec H b y ∧ Rec H c z
  | .choose a ns, v => ∃ p x q, v = .ref p ∧ H p = some (.tup [.str "choose", x, .ref q]) ∧ Rec H a x ∧ H q = some (.tup (txs ns))
/-- tuples stay -/
def Keep (H H' : Hp) : Prop := ∀ b xs, H b = some (.tup xs) → H' b = some (.tup xs)
theorem Keep.refl (H : Hp) : Keep H H := fun _ _ h => h
theorem Keep.trans {A B C : Hp} (h : Keep A B) (k : Keep B C) : Keep A C := fun b xs q => k b xs (h b xs q)
theorem same_keep {H H' : Hp} (s : Same H H') : Keep H H' := fun b xs q => s b _ q
theorem keep_lst {H : Hp} {l : Addr} {xs ys : List V} (h : H l = some (.lst xs)) : Keep H (upd H l (.lst ys)) := fun b zs q => by
  have z : b ≠ l := fun e => by rw [e, h] at q; cases q
  rw [upd_ne z]; exact q
theorem Rec.keep {H H' : Hp} (k : Keep H H') : ∀ {r : Rcp} {v : V}, Rec H r v → Rec H' r v
  | .num n, v, ⟨p, e, h⟩ => ⟨p, e, k _ _ h⟩
  | .read s, v, ⟨p, e, h⟩ => ⟨p, e, k _ _ h⟩
  | .two _ a b, v, ⟨p, x, y, e, h, ra, rb⟩ => ⟨p, x, y, e, k _ _ h, Rec.keep k ra, Rec.keep k rb⟩
  | .pick a b c, v, ⟨p, x, y, z, e, h, ra, rb, rc⟩ => ⟨p, x, y, z, e, k _ _ h, Rec.keep k ra, Rec.keep k rb, Rec.keep k rc⟩
  | .choose a ns, v, ⟨p, x, q, e, h, ra, hq⟩ => ⟨p, x, q, e, k _ _ h, Rec.keep k ra, k _ _ hq⟩
theorem Rec.same {H H' : Hp} (s : Same H H') {r : Rcp} {v : V} (h : Rec H r v) : Rec H' r v := h.keep (same_keep s)
theorem dep_pos : ∀ r : Rcp, 1 ≤ r.dep
  | .num _ => Nat.le_refl _
  | .read _ => Nat.le_refl _
  | .two _ _ _ => Nat.le_add_left _ _
  | .pick _ _ _ => Nat.le_add_left _ _
  | .choose _ _ => Nat.le_add_left _ _
theorem siz_pos : ∀ r : Rcp, 1 ≤ r.siz
  | .num _ => Nat.le_refl _
  | .read _ => Nat.le_refl _
  | .two _ _ _ => Nat.le_add_left _ _
  | .pick _ _ _ => Nat.le_add_left _ _
  | .choose _ _ => Nat.le_add_left _ _
theorem iteY {p A B : Prop} [Decidable p] (h : p) (a : A) : if decide p = true then A else B := by
  rw [if_pos (decide_eq_true h)]; exact a
theorem iteN {p A B : Prop} [Decidable p] (h : ¬p) (b : B) : if decide p = true then A else B := by
  rw [if_neg (fun z => h (of_decide_eq_true z))]; exact b
theorem txs_get {ns : List (List Nat)} {i : Nat} (h : i < ns.length) : (txs ns)[i]? = some (.str (SX.S ns[i])) := by
  unfold txs
  rw [List.getElem?_map, List.getElem?_map, List.getElem?_eq_getElem h]
  all_goals rfl
theorem txs_mem {ns : List (List Nat)} {x : V} (h : x ∈ txs ns) : ∃ s, s ∈ ns ∧ x = .str (SX.S s) := by
  obtain ⟨y, hy, rfl⟩ := List.mem_map.mp h
  obtain ⟨s, hs, rfl⟩ := List.mem_map.mp hy
  exact ⟨s, hs, rfl⟩
theorem txs_len (ns : List (List Nat)) : (txs ns).length = ns.length := by unfold txs; rw [List.length_map, List.length_map]
theorem txs_app (a b : List (List Nat)) : txs (a ++ b) = txs a ++ txs b := by unfold txs; rw [List.map_append, List.map_append]
/-- the signs, one by one -/
def ones (ss : List Nat) : List (List Nat) := ss.map fun c => [c]
theorem ones_flat (ss : List Nat) : (ones ss).flatten = ss := by
  induction ss with
  | nil => rfl
  | cons a r ih => show [a] ++ (ones r).flatten = _; rw [ih]; rfl
theorem ones_sum (ss : List Nat) : (((ones ss).map SX.S).map (·.length)).sum = ss.length := by
  induction ss with
  | nil => rfl
  | cons a r ih => show 1 + (((ones r).map SX.S).map (·.length)).sum = r.length + 1; rw [ih, Nat.add_comm]
theorem ones_len (ss : List Nat) : (ones ss).length = ss.length := List.length_map _
/-- the pick out of some things by a drawn number -/
theorem one_of {α : Type} {xs : List α} {v : Int} (h0 : 0 ≤ v) (h : v < xs.length) : ∃ x, x ∈ xs ∧ atI xs v = some x := by
  have hk : v.toNat < xs.length := by omega
  exact ⟨xs[v.toNat], List.getElem_mem hk, atI_at h0 (List.getElem?_eq_getElem hk)⟩
def letters : List Nat := [97, 98, 99, 100, 101, 102, 103, 104, 105, 106, 107, 108, 109, 110, 111, 112, 113, 114, 115, 116, 117, 118, 119, 120, 121, 122]
theorem letters_is : ("abcdefghijklmnopqrstuvwxyz" : Str) = SX.S letters := by decide +kernel
theorem letters_ok : ∀ c ∈ letters, 97 ≤ c ∧ c ≤ 122 := by decide
/-! ### rows of recipes -/
def Recs (H : Hp) : List Rcp → List V → Prop
  | [], [] => True
  | r :: rs, v :: vs => Rec H r v ∧ Recs H rs vs
  | _, _ => False
theorem Recs.keep {H H' : Hp} (k : Keep H H') : ∀ {rs : List Rcp} {vs : List V}, Recs H rs vs → Recs H' rs vs
  | [], [], _ => trivial
  | _ :: _, _ :: _, h => ⟨h.1.keep k, Recs.keep k h.2⟩
  | [], _ :: _, h => h.elim
  | _ :: _, [], h => h.elim
theorem Recs.len {H : Hp} : ∀ {rs : List Rcp} {vs : List V}, Recs H rs vs → vs.length = rs.length
  | [], [], _ => rfl
  | _ :: _, _ :: _, h => congrArg (· + 1) (Recs.len h.2)
  | [], _ :: _, h => h.elim
  | _ :: _, [], h => h.elim
theorem Recs.snoc {H : Hp} {r : Rcp} {v : V} (hr : Rec H r v) : ∀ {rs : List Rcp} {vs : List V}, Recs H rs vs → Recs H (rs ++ [r]) (vs ++ [v])
  | [], [], _ => ⟨hr, trivial⟩
  | _ :: _, _ :: _, h => ⟨h.1, Recs.snoc hr h.2⟩
  | [], _ :: _, h => h.elim
  | _ :: _, [], h => h.elim
theorem Recs.at {H : Hp} : ∀ {rs : List Rcp} {vs : List V} {i : Nat} {v : V}, Recs H rs vs → vs[i]? = some v → ∃ r, rs[i]? = some r ∧ Rec H r v
  | [], [], i, v, _, e => by simp at e
  | r :: _, _ :: _, 0, v, h, e => ⟨r, rfl, by cases e; exact h.1⟩
  | _ :: _, _ :: _, i + 1, v, h, e => Recs.at (i := i) h.2 (by simpa using e)
  | [], _ :: _, _, _, h, _ => h.elim
  | _ :: _, [], _, _, h, _ => h.elim
theorem Recs.get {H : Hp} {rs : List Rcp} {vs : List V} {i : Nat} (h : Recs H rs vs) (hi : i < rs.length) : ∃ v r, vs[i]? = some v ∧ rs[i]? = some r ∧ Rec H r v := by
  have hv : i < vs.length := by rw [h.len]; exact hi
  obtain ⟨r, e, hr⟩ := h.at (List.getElem?_eq_getElem hv)
  exact ⟨_, r, List.getElem?_eq_getElem hv, e, hr⟩
/-- a comprehension over a range with a step -/
theorem lcC {lo c : Int} {n : Nat} {g : TG} {tt : TT} {te : TE} {vs : List Nat} {σ : L2.St} {H1 : Hp} {D : Addr} {Qd : Hp → Prop} (Pv : Nat → Hp → Prop)
    (h0 : Pv 0 (upd H1 D (.lst [])))
    (hs : ∀ i H, i < n → Pv i H → g (.int (lo + (i : Nat) * c)) (wipe σ vs) H
      fun σ2 H2 => wipe σ2 vs = wipe σ vs ∧ tt σ2 H2
        fun b H3 => if b = true then te σ2 H3
          fun y H4 => ∃ acc, H4 D = some (.lst acc) ∧ acc.length < sizeLine ∧ Pv (i + 1) (upd H4 D (.lst (acc ++ [y])))
        else Pv (i + 1) H3)
    (hd : ∀ H, Pv n H → Qd H) :
    ∃ W : Nat → Nat → Hp → Prop, (∃ m, W 0 m (upd H1 D (.lst []))) ∧
      ∀ i m H, W i m H → ((Itc lo c n).stop i H ∧ Qd H) ∨ ((Itc lo c n).go i H ∧
        ∃ Nx : Hp → Prop, (∀ H', Nx H' → ∃ m', m' < m ∧ W (i + 1) m' H') ∧
          ∀ x H', (Itc lo c n).yld i H x H' → g x (wipe σ vs) H'
            fun σ2 H2 => wipe σ2 vs = wipe σ vs ∧ tt σ2 H2
              fun b H3 => if b = true then te σ2 H3
                fun y H4 => ∃ acc, H4 D = some (.lst acc) ∧ acc.length < sizeLine ∧ Nx (upd H4 D (.lst (acc ++ [y])))
              else Nx H3) := by
  refine ⟨fun i m H => m = n - i ∧ i ≤ n ∧ Pv i H, ⟨n, rfl, Nat.zero_le _, h0⟩, fun i m H w => ?_⟩
  obtain ⟨em, hi, p⟩ := w
  by_cases hlt : i < n
  · refine Or.inr ⟨hlt, Pv (i + 1), fun H' p' => ⟨n - (i + 1), by omega, rfl, hlt, p'⟩, fun x H' y => ?_⟩
    obtain ⟨e1, e2⟩ := y
    rw [e1, e2]
    exact hs i H hlt p
  · have e : i = n := by omega
    rw [e] at p
    exact Or.inl ⟨by show n ≤ i; omega, hd H p⟩
theorem cut_nat (xs : List V) {a b : Nat} (h : a ≤ b) : cutV xs (some (a : Int)) (some (b : Int)) = (xs.drop a).take (b - a) := by
  show (xs.drop (HT.sIx xs.length 0 (some (a : Int)))).take (HT.sIx xs.length xs.length (some (b : Int)) - HT.sIx xs.length 0 (some (a : Int))) = _
  rw [HT.sIx_nat, HT.sIx_nat]
  by_cases ha : a ≤ xs.length
  · rw [Nat.min_eq_left ha]
    by_cases hb : b ≤ xs.length
    · rw [Nat.min_eq_left hb]
    · rw [Nat.min_eq_right (by omega), List.take_of_length_le (by rw [List.length_drop]; omega), List.take_of_length_le (by rw [List.length_drop]; omega)]
  · have e1 : min a xs.length = xs.length := by omega
    rw [e1, List.drop_eq_nil_of_le (Nat.le_refl _), List.drop_eq_nil_of_le (by omega), List.take_nil, List.take_nil]
theorem cut_to (xs : List V) (b : Nat) : cutV xs none (some (b : Int)) = xs.take b := by
  show (xs.drop (HT.sIx xs.length 0 none)).take (HT.sIx xs.length xs.length (some (b : Int)) - HT.sIx xs.length 0 none) = _
  rw [HT.sIx_none, HT.sIx_nat, List.drop_zero, Nat.sub_zero]
  by_cases hb : b ≤ xs.length
  · rw [Nat.min_eq_left hb]
  · rw [Nat.min_eq_right (by omega), List.take_of_length_le (Nat.le_refl _), List.take_of_length_le (by omega)]
/-! ### any things as data -/
inductive Th where
  | non
  | bl (b : Bool)
  | int (i : Int)
  | str (s : List Nat)
  | tup (l : List Th)
  | lst (l : List Th)
  | dct
mutual
/-- the value stands for the thing in H -/
def Data (H : Hp) : Th → V → Prop
  | .non, v => v = .non
  | .bl b, v => v = .bl b
  | .int i, v => v = .int i
  | .str s, v => v = .str (SX.S s)
  | .tup l, v => ∃ p xs, v = .ref p ∧ H p = some (.tup xs) ∧ DataL H l xs
  | .lst l, v => ∃ p xs, v = .ref p ∧ H p = some (.lst xs) ∧ DataL H l xs
  | .dct, v => ∃ p kvs, v = .ref p ∧ H p = some (.dK kvs)
def DataL (H : Hp) : List Th → List V → Prop
  | [], xs => xs = []
  | t :: l, xs => ∃ x r, xs = x :: r ∧ Data H t x ∧ DataL H l r
end
mutual
theorem Data.same {H H' : Hp} (s : Same H H') : ∀ {t : Th} {v : V}, Data H t v → Data H' t v
  | .non, _, h => h
  | .bl _, _, h => h
  | .int _, _, h => h
  | .str _, _, h => h
  | .tup _, _, ⟨p, xs, e, hp, hl⟩ => ⟨p, xs, e, s _ _ hp, DataL.same s hl⟩
  | .lst _, _, ⟨p, xs, e, hp, hl⟩ => ⟨p, xs, e, s _ _ hp, DataL.same s hl⟩
  | .dct, _, ⟨p, kvs, e, hp⟩ => ⟨p, kvs, e, s _ _ hp⟩
theorem DataL.same {H H' : Hp} (s : Same H H') : ∀ {l : List Th} {xs : List V}, DataL H l xs → DataL H' l xs
  | [], _, h => h
  | _ :: _, _, ⟨x, r, e, h1, h2⟩ => ⟨x, r, e, Data.same s h1, DataL.same s h2⟩
end
theorem DataL.len {H : Hp} : ∀ {l : List Th} {xs : List V}, DataL H l xs → xs.length = l.length
  | [], _, h => by rw [show _ = [] from h]; rfl
  | _ :: _, _, ⟨x, r, e, _, h2⟩ => by rw [e, List.length_cons, DataL.len h2]; rfl
theorem DataL.at {H : Hp} : ∀ {l : List Th} {xs : List V} {i : Nat} {v : V}, DataL H l xs → xs[i]? = some v → ∃ t, l[i]? = some t ∧ Data H t v
  | [], _, i, v, h, e => by rw [show _ = [] from h] at e; simp at e
  | t :: _, _, 0, v, ⟨x, r, e1, h1, _⟩, e => by subst e1; cases e; exact ⟨t, rfl, h1⟩
  | _ :: _, _, i + 1, v, ⟨x, r, e1, _, h2⟩, e => by subst e1; exact DataL.at (i := i) h2 (by simpa using e)
theorem DataL.get {H : Hp} {l : List Th} {xs : List V} {i : Nat} {t : Th} (h : DataL H l xs) (e : l[i]? = some t) : ∃ v, xs[i]? = some v ∧ Data H t v := by
  have hi : i < xs.length := by
    rw [h.len]
    exact (List.getElem?_eq_some_iff.mp e).1
  obtain ⟨t', e', hd⟩ := h.at (List.getElem?_eq_getElem hi)
  rw [e] at e'
  cases e'
  exact ⟨_, List.getElem?_eq_getElem hi, hd⟩
theorem DataL.drop {H : Hp} : ∀ {l : List Th} {xs : List V} (n : Nat), DataL H l xs → DataL H (l.drop n) (xs.drop n)
  | _, _, 0, h => h
  | [], _, n + 1, h => by rw [show _ = [] from h]; exact rfl
  | _ :: _, _, n + 1, ⟨x, r, e, _, h2⟩ => by subst e; exact DataL.drop n h2
theorem DataL.take {H : Hp} : ∀ {l : List Th} {xs : List V} (n : Nat), DataL H l xs → DataL H (l.take n) (xs.take n)
  | _, _, 0, _ => rfl
  | [], _, n + 1, h => by rw [show _ = [] from h]; exact rfl
  | _ :: _, _, n + 1, ⟨x, r, e, h1, h2⟩ => by subst e; exact ⟨x, _, rfl, h1, DataL.take n h2⟩
theorem DataL.snoc {H : Hp} {t : Th} {v : V} (h : Data H t v) : ∀ {l : List Th} {xs : List V}, DataL H l xs → DataL H (l ++ [t]) (xs ++ [v])
  | [], _, e => by rw [show _ = [] from e]; exact ⟨v, [], rfl, h, rfl⟩
  | _ :: _, _, ⟨x, r, e, h1, h2⟩ => by subst e; exact ⟨x, _, rfl, h1, DataL.snoc h h2⟩
mutual
/-- without dicts -/
def Th.flat : Th → Bool
  | .dct => false
  | .tup l => Th.flatL l
  | .lst l => Th.flatL l
  | _ => true
def Th.flatL : List Th → Bool
  | [] => true
  | t :: l => t.flat && Th.flatL l
end
mutual
def Th.py : Th → PyData
  | .non => .none
  | .bl b => .bool b
  | .int i => .int i
  | .str s => .str (SX.S s)
  | .tup l => .tuple (Th.pyL l)
  | .lst l => .list (Th.pyL l)
  | .dct => .none
def Th.pyL : List Th → List PyData
  | [] => []
  | t :: l => t.py :: Th.pyL l
end
mutual
theorem Data.dp {K : PySem.W.Frag} {H : Hp} : ∀ {t : Th} {v : V}, t.flat = true → Data H t v → Dp K H v t.py
  | .non, _, _, h => by rw [show _ = V.non from h]; exact .non
  | .bl _, _, _, h => by rw [show _ = V.bl _ from h]; exact .bl _
  | .int _, _, _, h => by rw [show _ = V.int _ from h]; exact .int _
  | .str _, _, _, h => by rw [show _ = V.str _ from h]; exact .str _
  | .tup l, _, f, ⟨p, xs, e, hp, hl⟩ => by rw [e]; exact .tup (SqT.of hp) (DataL.dp f hl)
  | .lst l, _, f, ⟨p, xs, e, hp, hl⟩ => by rw [e]; exact .lst (SqL.of hp) (DataL.dp f hl)
theorem DataL.dp {K : PySem.W.Frag} {H : Hp} : ∀ {l : List Th} {xs : List V}, Th.flatL l = true → DataL H l xs → DpAll K H xs (Th.pyL l)
  | [], _, _, h => by rw [show _ = [] from h]; exact .nil
  | t :: l, _, f, ⟨x, r, e, h1, h2⟩ => by
    have f' : t.flat = true ∧ Th.flatL l = true := by
      have : (t.flat && Th.flatL l) = true := f
      exact Bool.and_eq_true_iff.mp this
    rw [e]
    exact .cons (Data.dp f'.1 h1) (DataL.dp f'.2 h2)
end
/-! ### what is a name, a recipe -/
def nmOk (s : List Nat) : Bool := decide (1 ≤ s.length) && decide (s.length ≤ 8) && s.all fun c => decide (97 ≤ c) && decide (c ≤ 122)
theorem nmOk_iff {s : List Nat} : nmOk s = true ↔ Nm s := by
  unfold nmOk Nm
  simp only [Bool.and_eq_true, decide_eq_true_eq, List.all_eq_true]
  exact ⟨fun ⟨⟨a, b⟩, c⟩ => ⟨a, b, c⟩, fun ⟨a, b, c⟩ => ⟨⟨a, b⟩, c⟩⟩
def Th.isNm : Th → Bool
  | .str s => nmOk s
  | _ => false
def Th.areNms : Th → Bool
  | .tup l => decide (1 ≤ l.length) && decide (l.length ≤ 9) && l.all Th.isNm
  | _ => false
def Th.isInt : Th → Bool
  | .int _ => true
  | _ => false
def w_number : List Nat := [110, 117, 109, 98, 101, 114]
def w_read : List Nat := [114, 101, 97, 100]
def w_pick : List Nat := [112, 105, 99, 107]
def w_choose : List Nat := [99, 104, 111, 111, 115, 101]
def w_plus : List Nat := [112, 108, 117, 115]
def w_minus : List Nat := [109, 105, 110, 117, 115]
def w_times : List Nat := [116, 105, 109, 101, 115]
def w_most : List Nat := [109, 111, 115, 116]
def twos : List (List Nat) := [w_plus, w_minus, w_times, w_most]
/-- the parts of a thing that has a recipe's form -/
def formParts (k : List Nat) (l : List Th) : Option (List Th) :=
  if k = w_number then (if l.length = 1 ∧ (l.headD .non).isInt = true then some [] else none)
  else if k = w_read then (if l.length = 1 ∧ (l.headD .non).isNm = true then some [] else none)
  else if k ∈ twos then (if l.length = 2 then some l else none)
  else if k = w_pick then (if l.length = 3 then some l else none)
  else if k = w_choose then (if l.length = 2 ∧ (l.getD 1 .non).areNms = true then some (l.take 1) else none)
  else none
def Th.parts : Th → Option (List Th)
  | .tup (.str k :: l) => formParts k l
  | _ => none
/-- all well formed, n deep at most -/
def Th.okay : Nat → Th → Bool
  | 0, _ => false
  | n + 1, t => match t.parts with
    | none => false
    | some ps => ps.all (Th.okay n)
def Th.count : Nat → Th → Nat
  | 0, _ => 1
  | n + 1, t => match t.parts with
    | none => 1
    | some ps => 1 + (ps.map (Th.count n)).sum
def Th.isRcp (t : Th) : Bool := t.okay 8 && decide (t.count 8 ≤ 100)
theorem count_pos : ∀ (n : Nat) (t : Th), 1 ≤ t.count n
  | 0, _ => Nat.le_refl _
  | n + 1, t => by
    unfold Th.count
    cases t.parts with
    | none => exact Nat.le_refl _
    | some ps => exact Nat.le_add_right _ _
theorem parts_tup {t : Th} {ps : List Th} (h : t.parts = some ps) : ∃ k l, t = .tup (.str k :: l) := by
  unfold Th.parts at h
  split at h
  · exact ⟨_, _, rfl⟩
  · cases h
/-- what the walk may meet: texts of ASCII signs, not too long; names without dicts -/
def tameS (s : List Nat) : Bool := decide (s.length ≤ 1000000) && s.all fun c => decide (c < 128)
def namesTame : List Th → Bool
  | [.str k, _, .tup m] => !decide (k = w_choose) || (Th.flatL m && SeqAt.shaped (.list (Th.pyL m)))
  | _ => true
mutual
def Th.tame : Th → Bool
  | .str s => tameS s
  | .tup l => Th.tameL l && decide (l.length ≤ 1000000) && namesTame l
  | _ => true
def Th.tameL : List Th → Bool
  | [] => true
  | t :: l => t.tame && Th.tameL l
end
theorem tameL_mem : ∀ {l : List Th}, Th.tameL l = true → ∀ t ∈ l, t.tame = true
  | [], _, t, h => by cases h
  | a :: l, f, t, h => by
    have f' : (a.tame && Th.tameL l) = true := f
    rw [Bool.and_eq_true] at f'
    rcases List.mem_cons.mp h with h | h
    · rw [h]; exact f'.1
    · exact tameL_mem f'.2 t h
theorem flatL_mem : ∀ {l : List Th}, Th.flatL l = true → ∀ t ∈ l, t.flat = true
  | [], _, t, h => by cases h
  | a :: l, f, t, h => by
    have f' : (a.flat && Th.flatL l) = true := f
    rw [Bool.and_eq_true] at f'
    rcases List.mem_cons.mp h with h | h
    · rw [h]; exact f'.1
    · exact flatL_mem f'.2 t h
theorem flatL_filter (p : Th → Bool) : ∀ {l : List Th}, Th.flatL l = true → Th.flatL (l.filter p) = true
  | [], _ => rfl
  | a :: l, f => by
    have f' : (a.flat && Th.flatL l) = true := f
    rw [Bool.and_eq_true] at f'
    rw [List.filter_cons]
    split
    · show (a.flat && Th.flatL (l.filter p)) = true
      rw [f'.1, flatL_filter p f'.2]; rfl
    · exact flatL_filter p f'.2
theorem shaped_parts {ds : List PyData} : SeqAt.shaped (.list ds) = true ↔ PyData.canLayAll0 ds = true ∧ PyData.depthAll ds + 1 ≤ 64 := by
  show (PyData.canLayAll0 ds && decide (PyData.depthAll ds + 1 ≤ 64)) = true ↔ _
  rw [Bool.and_eq_true, decide_eq_true_eq]
theorem py_filter (p : Th → Bool) : ∀ (l : List Th), PyData.canLayAll0 (Th.pyL l) = true → PyData.canLayAll0 (Th.pyL (l.filter p)) = true ∧ PyData.depthAll (Th.pyL (l.filter p)) ≤ PyData.depthAll (Th.pyL l)
  | [], _ => ⟨rfl, Nat.le_refl _⟩
  | a :: l, f => by
    have f' : (a.py.canLay0 && PyData.canLayAll0 (Th.pyL l)) = true := f
    rw [Bool.and_eq_true] at f'
    have ih := py_filter p l f'.2
    rw [List.filter_cons]
    split
    · refine ⟨?_, ?_⟩
      · show (a.py.canLay0 && PyData.canLayAll0 (Th.pyL (l.filter p))) = true
        rw [f'.1, ih.1]; rfl
      · show max a.py.depth (PyData.depthAll (Th.pyL (l.filter p))) ≤ max a.py.depth (PyData.depthAll (Th.pyL l))
        omega
    · refine ⟨ih.1, ?_⟩
      show _ ≤ max a.py.depth (PyData.depthAll (Th.pyL l))
      omega
theorem shaped_filter (p : Th → Bool) {l : List Th} (h : SeqAt.shaped (.list (Th.pyL l)) = true) : SeqAt.shaped (.list (Th.pyL (l.filter p))) = true := by
  rw [shaped_parts] at h ⊢
  have := py_filter p l h.1
  exact ⟨this.1, by omega⟩
def Th.tyName : Th → String
  | .non => "NoneType" | .bl _ => "bool" | .int _ => "int" | .str _ => "str" | .tup _ => "tuple" | .lst _ => "list" | .dct => "dict"
theorem Data.ty {K : PySem.W.Frag} {H : Hp} : ∀ {t : Th} {v : V}, Data H t v → TyX K H v (.type t.tyName)
  | .non, _, h => by rw [show _ = V.non from h]; exact .base .non
  | .bl _, _, h => by rw [show _ = V.bl _ from h]; exact .base (.bl _)
  | .int _, _, h => by rw [show _ = V.int _ from h]; exact .base (.int _)
  | .str _, _, h => by rw [show _ = V.str _ from h]; exact .base (.str _)
  | .tup l, _, ⟨p, xs, e, hp, hl⟩ => by rw [e]; exact .base (.tup hp)
  | .lst l, _, ⟨p, xs, e, hp, hl⟩ => by rw [e]; exact .base (.lst hp)
  | .dct, _, ⟨p, kvs, e, hp⟩ => by rw [e]; exact .base (.dK hp)
def Th.isTup : Th → Bool
  | .tup _ => true
  | _ => false
def Th.isStr : Th → Bool
  | .str _ => true
  | _ => false
def Th.isBl : Th → Bool
  | .bl _ => true
  | _ => false
def Th.isIntB : Th → Bool
  | .bl _ => true
  | .int _ => true
  | _ => false
theorem kit_tup {K : PySem.W.Frag} : ∀ t : Th, PySem.W.kitOne K (.type t.tyName) (.type "tuple") = some t.isTup
  | .non => kit_ty (show kitB "NoneType" "tuple" = some false by decide +kernel)
  | .bl _ => kit_ty (show kitB "bool" "tuple" = some false by decide +kernel)
  | .int _ => kit_ty (show kitB "int" "tuple" = some false by decide +kernel)
  | .str _ => kit_ty (show kitB "str" "tuple" = some false by decide +kernel)
  | .tup _ => kit_ty (show kitB "tuple" "tuple" = some true by decide +kernel)
  | .lst _ => kit_ty (show kitB "list" "tuple" = some false by decide +kernel)
  | .dct => kit_ty (show kitB "dict" "tuple" = some false by decide +kernel)
theorem kit_str {K : PySem.W.Frag} : ∀ t : Th, PySem.W.kitOne K (.type t.tyName) (.type "str") = some t.isStr
  | .non => kit_ty (show kitB "NoneType" "str" = some false by decide +kernel)
  | .bl _ => kit_ty (show kitB "bool" "str" = some false by decide +kernel)
  | .int _ => kit_ty (show kitB "int" "str" = some false by decide +kernel)
  | .str _ => kit_ty (show kitB "str" "str" = some true by decide +kernel)
  | .tup _ => kit_ty (show kitB "tuple" "str" = some false by decide +kernel)
  | .lst _ => kit_ty (show kitB "list" "str" = some false by decide +kernel)
  | .dct => kit_ty (show kitB "dict" "str" = some false by decide +kernel)
theorem kit_int {K : PySem.W.Frag} : ∀ t : Th, PySem.W.kitOne K (.type t.tyName) (.type "int") = some t.isIntB
  | .non => kit_ty (show kitB "NoneType" "int" = some false by decide +kernel)
  | .bl _ => kit_ty (show kitB "bool" "int" = some true by decide +kernel)
  | .int _ => kit_ty (show kitB "int" "int" = some true by decide +kernel)
  | .str _ => kit_ty (show kitB "str" "int" = some false by decide +kernel)
  | .tup _ => kit_ty (show kitB "tuple" "int" = some false by decide +kernel)
  | .lst _ => kit_ty (show kitB "list" "int" = some false by decide +kernel)
  | .dct => kit_ty (show kitB "dict" "int" = some false by decide +kernel)
theorem kit_bl {K : PySem.W.Frag} : ∀ t : Th, PySem.W.kitOne K (.type t.tyName) (.type "bool") = some t.isBl
  | .non => kit_ty (show kitB "NoneType" "bool" = some false by decide +kernel)
  | .bl _ => kit_ty (show kitB "bool" "bool" = some true by decide +kernel)
  | .int _ => kit_ty (show kitB "int" "bool" = some false by decide +kernel)
  | .str _ => kit_ty (show kitB "str" "bool" = some false by decide +kernel)
  | .tup _ => kit_ty (show kitB "tuple" "bool" = some false by decide +kernel)
  | .lst _ => kit_ty (show kitB "list" "bool" = some false by decide +kernel)
  | .dct => kit_ty (show kitB "dict" "bool" = some false by decide +kernel)
theorem isInt_is (t : Th) : (t.isIntB && !t.isBl) = t.isInt := by cases t <;> rfl
/-- a comprehension over a text -/
theorem lcS {z : Str} {g : TG} {tt : TT} {te : TE} {vs : List Nat} {σ : L2.St} {H1 : Hp} {D : Addr} {Qd : Hp → Prop} (Pv : Nat → Hp → Prop)
    (h0 : Pv 0 (upd H1 D (.lst [])))
    (hs : ∀ i c H, z.cps[i]? = some c → Pv i H → g (.str ⟨#[c]⟩) (wipe σ vs) H
      fun σ2 H2 => wipe σ2 vs = wipe σ vs ∧ tt σ2 H2
        fun b H3 => if b = true then te σ2 H3
          fun y H4 => ∃ acc, H4 D = some (.lst acc) ∧ acc.length < sizeLine ∧ Pv (i + 1) (upd H4 D (.lst (acc ++ [y])))
        else Pv (i + 1) H3)
    (hd : ∀ H, Pv z.cps.size H → Qd H) :
    ∃ W : Nat → Nat → Hp → Prop, (∃ m, W 0 m (upd H1 D (.lst []))) ∧
      ∀ i m H, W i m H → ((Its z).stop i H ∧ Qd H) ∨ ((Its z).go i H ∧
        ∃ Nx : Hp → Prop, (∀ H', Nx H' → ∃ m', m' < m ∧ W (i + 1) m' H') ∧
          ∀ x H', (Its z).yld i H x H' → g x (wipe σ vs) H'
            fun σ2 H2 => wipe σ2 vs = wipe σ vs ∧ tt σ2 H2
              fun b H3 => if b = true then te σ2 H3
                fun y H4 => ∃ acc, H4 D = some (.lst acc) ∧ acc.length < sizeLine ∧ Nx (upd H4 D (.lst (acc ++ [y])))
              else Nx H3) := by
  refine ⟨fun i m H => m = z.cps.size - i ∧ i ≤ z.cps.size ∧ Pv i H, ⟨z.cps.size, rfl, Nat.zero_le _, h0⟩, fun i m H w => ?_⟩
  obtain ⟨em, hi, p⟩ := w
  by_cases hlt : i < z.cps.size
  · refine Or.inr ⟨hlt, Pv (i + 1), fun H' p' => ⟨z.cps.size - (i + 1), by omega, rfl, hlt, p'⟩, fun x H' y => ?_⟩
    obtain ⟨e1, c, e2, e3⟩ := y
    rw [e1, e3]
    exact hs i c H e2 p
  · have e : i = z.cps.size := by omega
    rw [e] at p
    exact Or.inl ⟨by show z.cps.size ≤ i; omega, hd H p⟩
/-- a list of data against a new empty one -/
theorem eqv_nil (l : List Th) : PyData.eqv (.list (Th.pyL l)) (.list []) = l.isEmpty := by cases l <;> rfl
theorem kw {k : List Nat} {w : List Nat} {lit : Str} (h : lit = SX.S w) : V.str (SX.S k) = V.str lit ↔ k = w := by
  rw [h]
  exact ⟨fun e => SX.S_inj (by cases e; rfl), fun e => by rw [e]⟩
theorem q_number : ("number" : Str) = SX.S w_number := by decide +kernel
theorem q_read : ("read" : Str) = SX.S w_read := by decide +kernel
theorem q_pick : ("pick" : Str) = SX.S w_pick := by decide +kernel
theorem q_choose : ("choose" : Str) = SX.S w_choose := by decide +kernel
theorem q_plus : ("plus" : Str) = SX.S w_plus := by decide +kernel
theorem q_minus : ("minus" : Str) = SX.S w_minus := by decide +kernel
theorem q_times : ("times" : Str) = SX.S w_times := by decide +kernel
theorem q_most : ("most" : Str) = SX.S w_most := by decide +kernel
theorem in_twos (k : List Nat) : inV (.str (SX.S k)) [.str "plus", .str "minus", .str "times", .str "most"] = decide (k ∈ twos) := by
  rw [q_plus, q_minus, q_times, q_most]
  have e : ∀ w : List Nat, (SX.S w == SX.S k) = decide (k = w) := fun w => by
    rw [SX.S_beq_eq]
    exact decide_eq_decide.mpr ⟨Eq.symm, Eq.symm⟩
  show ((SX.S w_plus == SX.S k) || ((SX.S w_minus == SX.S k) || ((SX.S w_times == SX.S k) || ((SX.S w_most == SX.S k) || false)))) = _
  rw [e, e, e, e]
  unfold twos
  simp only [List.mem_cons, List.not_mem_nil, or_false]
  simp [Bool.decide_or]
theorem num_parts (k : List Nat) (h : k = w_number) (t1 : Th) : (t1.isInt = true → formParts k [t1] = some []) ∧ (t1.isInt = false → formParts k [t1] = none) := by
  unfold formParts
  rw [if_pos h]
  exact ⟨fun z => if_pos ⟨rfl, z⟩, fun z => if_neg fun y => by rw [show ([t1] : List Th).headD .non = t1 from rfl, z] at y; cases y.2⟩
theorem read_parts (k : List Nat) (h1 : k ≠ w_number) (h : k = w_read) (t1 : Th) : (t1.isNm = true → formParts k [t1] = some []) ∧ (t1.isNm = false → formParts k [t1] = none) := by
  unfold formParts
  rw [if_neg h1, if_pos h]
  exact ⟨fun z => if_pos ⟨rfl, z⟩, fun z => if_neg fun y => by rw [show ([t1] : List Th).headD .non = t1 from rfl, z] at y; cases y.2⟩
theorem one_none (k : List Nat) (h1 : k ≠ w_number) (h2 : k ≠ w_read) (t1 : Th) : formParts k [t1] = none := by
  unfold formParts
  rw [if_neg h1, if_neg h2]
  simp
theorem twos_parts (k : List Nat) (h : k ∈ twos) (t1 t2 : Th) : formParts k [t1, t2] = some [t1, t2] := by
  have n1 : k ≠ w_number := fun z => by rw [z] at h; revert h; decide
  have n2 : k ≠ w_read := fun z => by rw [z] at h; revert h; decide
  unfold formParts
  rw [if_neg n1, if_neg n2, if_pos h]
  rfl
theorem choose_parts (k : List Nat) (h : k = w_choose) (t1 t2 : Th) : (t2.areNms = true → formParts k [t1, t2] = some [t1]) ∧ (t2.areNms = false → formParts k [t1, t2] = none) := by
  have n1 : k ≠ w_number := by rw [h]; decide
  have n2 : k ≠ w_read := by rw [h]; decide
  have n3 : ¬ k ∈ twos := by rw [h]; decide
  have n4 : k ≠ w_pick := by rw [h]; decide
  unfold formParts
  rw [if_neg n1, if_neg n2, if_neg n3, if_neg n4, if_pos h]
  exact ⟨fun z => if_pos ⟨rfl, z⟩, fun z => if_neg fun y => by rw [show ([t1, t2] : List Th).getD 1 .non = t2 from rfl, z] at y; cases y.2⟩
theorem two_none (k : List Nat) (h1 : ¬ k ∈ twos) (h2 : k ≠ w_choose) (t1 t2 : Th) : formParts k [t1, t2] = none := by
  unfold formParts
  rw [if_neg h1, if_neg h2]
  simp
theorem pick_parts (k : List Nat) (h : k = w_pick) (t1 t2 t3 : Th) : formParts k [t1, t2, t3] = some [t1, t2, t3] := by
  have n1 : k ≠ w_number := by rw [h]; decide
  have n2 : k ≠ w_read := by rw [h]; decide
  have n3 : ¬ k ∈ twos := by rw [h]; decide
  unfold formParts
  rw [if_neg n1, if_neg n2, if_neg n3, if_pos h]
  rfl
theorem three_none (k : List Nat) (h1 : k ≠ w_pick) (t1 t2 t3 : Th) : formParts k [t1, t2, t3] = none := by
  unfold formParts
  rw [if_neg h1]
  simp
/-! ### recipes as things -/
def Kd.word : Kd → List Nat
  | .plus => w_plus | .minus => w_minus | .times => w_times | .most => w_most
theorem kd_word (k : Kd) : k.name = SX.S k.word := by cases k <;> decide +kernel
theorem kd_twos (k : Kd) : k.word ∈ twos := by cases k <;> decide
def nmsTh (ns : List (List Nat)) : List Th := ns.map Th.str
def Rcp.tail : Rcp → List Th × List Nat
  | .num n => ([.int n], w_number)
  | .read s => ([.str s], w_read)
  | _ => ([], [])
def Rcp.th : Rcp → Th
  | .num n => .tup [.str w_number, .int n]
  | .read s => .tup [.str w_read, .str s]
  | .two k a b => .tup [.str k.word, a.th, b.th]
  | .pick a b c => .tup [.str w_pick, a.th, b.th, c.th]
  | .choose a ns => .tup [.str w_choose, a.th, .tup (nmsTh ns)]
theorem nms_data (H : Hp) : ∀ ns : List (List Nat), DataL H (nmsTh ns) (txs ns)
  | [] => rfl
  | s :: ns => ⟨_, _, rfl, rfl, nms_data H ns⟩
theorem Rec.data {H : Hp} : ∀ {r : Rcp} {v : V}, Rec H r v → Data H r.th v
  | .num n, v, ⟨p, e, h⟩ => ⟨p, _, e, h, _, _, rfl, congrArg V.str q_number, _, _, rfl, rfl, rfl⟩
  | .read s, v, ⟨p, e, h⟩ => ⟨p, _, e, h, _, _, rfl, congrArg V.str q_read, _, _, rfl, rfl, rfl⟩
  | .two k a b, v, ⟨p, x, y, e, h, ra, rb⟩ => ⟨p, _, e, h, _, _, rfl, congrArg V.str (kd_word k), _, _, rfl, ra.data, _, _, rfl, rb.data, rfl⟩
  | .pick a b c, v, ⟨p, x, y, z, e, h, ra, rb, rc⟩ => ⟨p, _, e, h, _, _, rfl, congrArg V.str q_pick, _, _, rfl, ra.data, _, _, rfl, rb.data, _, _, rfl, rc.data, rfl⟩
  | .choose a ns, v, ⟨p, x, q, e, h, ra, hq⟩ => ⟨p, _, e, h, _, _, rfl, congrArg V.str q_choose, _, _, rfl, ra.data, _, _, rfl, ⟨q, _, rfl, hq, nms_data H ns⟩, rfl⟩
theorem Nm.tame {s : List Nat} (h : Nm s) : tameS s = true := by
  unfold tameS
  rw [Bool.and_eq_true, decide_eq_true_eq, List.all_eq_true]
  refine ⟨by have := h.2.1; omega, fun c hc => decide_eq_true ?_⟩
  have := h.2.2 c hc
  omega
theorem Nms.flat : ∀ {ns : List (List Nat)}, Th.flatL (nmsTh ns) = true
  | [] => rfl
  | s :: ns => by show (true && Th.flatL (nmsTh ns)) = true; rw [Nms.flat]; rfl
theorem nms_py : ∀ {ns : List (List Nat)}, (∀ s ∈ ns, Nm s) → PyData.canLayAll0 (Th.pyL (nmsTh ns)) = true ∧ PyData.depthAll (Th.pyL (nmsTh ns)) = 0
  | [], _ => ⟨rfl, rfl⟩
  | s :: ns, h => by
    have ih := nms_py (ns := ns) fun x hx => h x (List.mem_cons_of_mem _ hx)
    refine ⟨?_, ?_⟩
    · show ((SX.S s).cps.all (· < 0x110000) && PyData.canLayAll0 (Th.pyL (nmsTh ns))) = true
      rw [ih.1, Bool.and_true]
      have hs := (h s (List.mem_cons_self ..)).2.2
      rw [← Array.all_toList, List.all_eq_true]
      intro c hc
      have := hs c hc
      exact decide_eq_true (by omega)
    · show max 0 (PyData.depthAll (Th.pyL (nmsTh ns))) = 0
      rw [ih.2]
      rfl
theorem Nms.shaped {ns : List (List Nat)} (h : ∀ s ∈ ns, Nm s) : SeqAt.shaped (.list (Th.pyL (nmsTh ns))) = true := by
  rw [shaped_parts, (nms_py h).1, (nms_py h).2]
  exact ⟨rfl, by decide⟩
theorem nms_tame : ∀ {ns : List (List Nat)}, (∀ s ∈ ns, Nm s) → Th.tameL (nmsTh ns) = true
  | [], _ => rfl
  | s :: ns, h => by
    show (tameS s && Th.tameL (nmsTh ns)) = true
    rw [(h s (List.mem_cons_self ..)).tame, nms_tame fun x hx => h x (List.mem_cons_of_mem _ hx)]
    rfl
theorem tame_tup {l : List Th} (h : Th.tameL l = true) (hl : l.length ≤ 1000000) (hn : namesTame l = true) : (Th.tup l).tame = true := by
  show (Th.tameL l && decide (l.length ≤ 1000000) && namesTame l) = true
  rw [h, hn, decide_eq_true hl]
  rfl
theorem namesTame3 {k : List Nat} (hk : k ≠ w_choose) (a b : Th) : namesTame [.str k, a, b] = true := by
  cases b with
  | tup m => show (!decide (k = w_choose) || _) = true; rw [decide_eq_false hk]; rfl
  | _ => rfl
theorem namesTame4 (a b c d : Th) (r : List Th) : namesTame (a :: b :: c :: d :: r) = true := by cases a <;> cases c <;> rfl
theorem namesTame2 (a b : Th) : namesTame [a, b] = true := by cases a <;> rfl
theorem namesTameC {k : List Nat} {m : List Th} (a : Th) (h1 : Th.flatL m = true) (h2 : SeqAt.shaped (.list (Th.pyL m)) = true) : namesTame [.str k, a, .tup m] = true := by
  show (!decide (k = w_choose) || (Th.flatL m && SeqAt.shaped (.list (Th.pyL m)))) = true
  rw [h1, h2]; simp
theorem kd_nochoose (k : Kd) : k.word ≠ w_choose := by cases k <;> decide
theorem nms_names_tame {ns : List (List Nat)} (h : Nms ns) : (Th.tup (nmsTh ns)).tame = true := by
  refine tame_tup (nms_tame h.2.2) ?_ ?_
  · unfold nmsTh; rw [List.length_map]; have := h.2.1; omega
  · match ns with
    | [] => rfl
    | [a] => rfl
    | [a, b] => rfl
    | [a, b, c] => rfl
    | a :: b :: c :: d :: r => rfl
theorem Rcp.tame : ∀ {r : Rcp}, r.Good → r.th.tame = true
  | .num n, _ => tame_tup (by show (tameS w_number && (true && true)) = true; decide) (Nat.le_of_ble_eq_true rfl) rfl
  | .read s, h => tame_tup (by show (tameS w_read && (tameS s && true)) = true; rw [Nm.tame h]; decide) (Nat.le_of_ble_eq_true rfl) rfl
  | .two k a b, h => by
    refine tame_tup ?_ (Nat.le_of_ble_eq_true rfl) (namesTame3 (kd_nochoose k) _ _)
    show (tameS k.word && (a.th.tame && (b.th.tame && true))) = true
    rw [Rcp.tame h.1, Rcp.tame h.2]
    cases k <;> decide
  | .pick a b c, h => by
    refine tame_tup ?_ (Nat.le_of_ble_eq_true rfl) (namesTame4 _ _ _ _ _)
    show (tameS w_pick && (a.th.tame && (b.th.tame && (c.th.tame && true)))) = true
    rw [Rcp.tame h.1, Rcp.tame h.2.1, Rcp.tame h.2.2]
    decide
  | .choose a ns, h => by
    refine tame_tup ?_ (Nat.le_of_ble_eq_true rfl) (namesTameC _ Nms.flat (Nms.shaped h.2.2.2))
    show (tameS w_choose && (a.th.tame && ((Th.tup (nmsTh ns)).tame && true))) = true
    rw [Rcp.tame h.1, nms_names_tame h.2]
    decide
theorem nms_are {ns : List (List Nat)} (h : Nms ns) : (Th.tup (nmsTh ns)).areNms = true := by
  show (decide (1 ≤ (nmsTh ns).length) && decide ((nmsTh ns).length ≤ 9) && (nmsTh ns).all Th.isNm) = true
  have hl : (nmsTh ns).length = ns.length := List.length_map _
  rw [hl, decide_eq_true h.1, decide_eq_true h.2.1]
  show (nmsTh ns).all Th.isNm = true
  rw [List.all_eq_true]
  intro t ht
  obtain ⟨s, hs, rfl⟩ := List.mem_map.mp ht
  exact nmOk_iff.mpr (h.2.2 s hs)
def Rcp.subs : Rcp → List Rcp
  | .num _ => []
  | .read _ => []
  | .two _ a b => [a, b]
  | .pick a b c => [a, b, c]
  | .choose a _ => [a]
theorem Rcp.parts_th : ∀ {r : Rcp}, r.Good → r.th.parts = some (r.subs.map Rcp.th)
  | .num n, _ => (num_parts _ rfl _).1 rfl
  | .read s, h => (read_parts _ (by decide) rfl _).1 (nmOk_iff.mpr h)
  | .two k a b, _ => twos_parts _ (kd_twos k) _ _
  | .pick a b c, _ => pick_parts _ rfl _ _ _
  | .choose a ns, h => (choose_parts _ rfl _ _).1 (nms_are h.2)
theorem Rcp.subs_good : ∀ {r : Rcp}, r.Good → ∀ x ∈ r.subs, x.Good ∧ x.dep + 1 ≤ r.dep
  | .num n, _, x, hx => by cases hx
  | .read s, h, x, hx => by cases hx
  | .two k a b, h, x, hx => by
    have e : (Rcp.two k a b).dep = max a.dep b.dep + 1 := rfl
    simp only [Rcp.subs, List.mem_cons, List.not_mem_nil, or_false] at hx
    rcases hx with rfl | rfl
    · exact ⟨h.1, by omega⟩
    · exact ⟨h.2, by omega⟩
  | .pick a b c, h, x, hx => by
    have e : (Rcp.pick a b c).dep = max a.dep (max b.dep c.dep) + 1 := rfl
    simp only [Rcp.subs, List.mem_cons, List.not_mem_nil, or_false] at hx
    rcases hx with rfl | rfl | rfl
    · exact ⟨h.1, by omega⟩
    · exact ⟨h.2.1, by omega⟩
    · exact ⟨h.2.2, by omega⟩
  | .choose a ns, h, x, hx => by
    have e : (Rcp.choose a ns).dep = a.dep + 1 := rfl
    rw [List.mem_singleton.mp hx]
    exact ⟨h.1, by omega⟩
theorem Rcp.siz_subs : ∀ r : Rcp, r.siz = 1 + (r.subs.map Rcp.siz).sum
  | .num _ => rfl
  | .read _ => rfl
  | .two _ a b => by show a.siz + b.siz + 1 = 1 + (a.siz + (b.siz + 0)); omega
  | .pick a b c => by show a.siz + b.siz + c.siz + 1 = 1 + (a.siz + (b.siz + (c.siz + 0))); omega
  | .choose a _ => by show a.siz + 1 = 1 + (a.siz + 0); omega
theorem Rcp.okay : ∀ (n : Nat) {r : Rcp}, r.Good → r.dep ≤ n → r.th.okay n = true ∧ r.th.count n = r.siz
  | 0, r, _, h => by have := dep_pos r; omega
  | n + 1, r, hg, h => by
    have hp := r.parts_th hg
    have hs := r.subs_good hg
    refine ⟨?_, ?_⟩
    · show (match r.th.parts with | none => false | some ps => ps.all (Th.okay n)) = true
      rw [hp]
      show (r.subs.map Rcp.th).all (Th.okay n) = true
      rw [List.all_map, List.all_eq_true]
      intro x hx
      exact (Rcp.okay n (hs x hx).1 (by have := (hs x hx).2; omega)).1
    · show (match r.th.parts with | none => 1 | some ps => 1 + (ps.map (Th.count n)).sum) = r.siz
      rw [hp, Rcp.siz_subs r]
      show 1 + ((r.subs.map Rcp.th).map (Th.count n)).sum = _
      rw [List.map_map]
      congr 2
      exact List.map_congr_left fun x hx => (Rcp.okay n (hs x hx).1 (by have := (hs x hx).2; omega)).2
theorem Rcp.isRcp {r : Rcp} (hg : r.Good) (hd : r.dep ≤ 8) (hs : r.siz ≤ 100) : r.th.isRcp = true := by
  unfold Th.isRcp
  rw [(Rcp.okay 8 hg hd).1, (Rcp.okay 8 hg hd).2, decide_eq_true hs]
  rfl
theorem Rcp.flat : ∀ r : Rcp, r.th.flat = true
  | .num _ => rfl
  | .read _ => rfl
  | .two _ a b => by
    show (true && (a.th.flat && (b.th.flat && true))) = true
    rw [Rcp.flat a, Rcp.flat b]; rfl
  | .pick a b c => by
    show (true && (a.th.flat && (b.th.flat && (c.th.flat && true)))) = true
    rw [Rcp.flat a, Rcp.flat b, Rcp.flat c]; rfl
  | .choose a ns => by
    show (true && (a.th.flat && (Th.flatL (nmsTh ns) && true))) = true
    rw [Rcp.flat a, Nms.flat]; rfl
theorem nm_lay {s : List Nat} (h : Nm s) : (PyData.str (SX.S s)).canLay0 = true := by
  have := (nms_py (ns := [s]) fun x hx => by rw [List.mem_singleton.mp hx]; exact h).1
  have z : ((PyData.str (SX.S s)).canLay0 && true) = true := this
  rw [Bool.and_true] at z
  exact z
theorem str_lay {s : List Nat} (h : ∀ c ∈ s, c < 128) : (PyData.str (SX.S s)).canLay0 = true := by
  show (SX.S s).cps.all (· < 0x110000) = true
  rw [← Array.all_toList, List.all_eq_true]
  intro c hc
  have := h c hc
  exact decide_eq_true (by omega)
theorem Rcp.lays : ∀ {r : Rcp}, r.Good → r.th.py.canLay0 = true ∧ r.th.py.depth ≤ r.dep
  | .num n, _ => ⟨by show ((PyData.str (SX.S w_number)).canLay0 && ((PyData.int n).canLay0 && true)) = true; rw [str_lay (by decide)]; rfl, by show max 0 (max 0 0) + 1 ≤ 1; decide⟩
  | .read s, h => ⟨by show ((PyData.str (SX.S w_read)).canLay0 && ((PyData.str (SX.S s)).canLay0 && true)) = true; rw [nm_lay h, str_lay (s := w_read) (by decide)]; rfl, by show max 0 (max 0 0) + 1 ≤ 1; decide⟩
  | .two k a b, h => by
    have h1 := Rcp.lays h.1
    have h2 := Rcp.lays h.2
    refine ⟨?_, ?_⟩
    · show ((PyData.str (SX.S k.word)).canLay0 && (a.th.py.canLay0 && (b.th.py.canLay0 && true))) = true
      rw [h1.1, h2.1, str_lay (s := k.word) (by cases k <;> decide)]
      rfl
    · show max 0 (max a.th.py.depth (max b.th.py.depth 0)) + 1 ≤ max a.dep b.dep + 1
      omega
  | .pick a b c, h => by
    have h1 := Rcp.lays h.1
    have h2 := Rcp.lays h.2.1
    have h3 := Rcp.lays h.2.2
    refine ⟨?_, ?_⟩
    · show ((PyData.str (SX.S w_pick)).canLay0 && (a.th.py.canLay0 && (b.th.py.canLay0 && (c.th.py.canLay0 && true)))) = true
      rw [h1.1, h2.1, h3.1, str_lay (s := w_pick) (by decide)]
      rfl
    · show max 0 (max a.th.py.depth (max b.th.py.depth (max c.th.py.depth 0))) + 1 ≤ max a.dep (max b.dep c.dep) + 1
      omega
  | .choose a ns, h => by
    have h1 := Rcp.lays h.1
    have h2 := nms_py h.2.2.2
    have h3 := dep_pos a
    refine ⟨?_, ?_⟩
    · show ((PyData.str (SX.S w_choose)).canLay0 && (a.th.py.canLay0 && (PyData.canLayAll0 (Th.pyL (nmsTh ns)) && true))) = true
      rw [h1.1, h2.1, str_lay (s := w_choose) (by decide)]
      rfl
    · show max 0 (max a.th.py.depth (max (PyData.depthAll (Th.pyL (nmsTh ns)) + 1) 0)) + 1 ≤ a.dep + 1
      rw [h2.2]
      omega
theorem Rcp.shaped {r : Rcp} (hg : r.Good) (hd : r.dep ≤ 60) : SeqAt.shaped r.th.py = true := by
  have h := Rcp.lays hg
  show (r.th.py.canLay0 && decide (r.th.py.depth ≤ 64)) = true
  rw [h.1, decide_eq_true (by omega)]
  rfl
theorem Rcp.eqv {r : Rcp} (hg : r.Good) : PyData.eqv r.th.py r.th.py = true := SeqAt.eqv_refl _ (Rcp.lays hg).1
/-! ### rows of pairs -/
/-- rows of a name and a number each -/
def Prs (H : Hp) : List (List Nat × Int) → List V → Prop
  | [], [] => True
  | p :: ps, v :: vs => (∃ t, v = .ref t ∧ H t = some (.tup [.str (SX.S p.1), .int p.2])) ∧ Prs H ps vs
  | _, _ => False
theorem Prs.same {H H' : Hp} (k : Same H H') : ∀ {ps : List (List Nat × Int)} {vs : List V}, Prs H ps vs → Prs H' ps vs
  | [], [], _ => trivial
  | _ :: _, _ :: _, ⟨⟨t, e, ht⟩, h⟩ => ⟨⟨t, e, k _ _ ht⟩, Prs.same k h⟩
  | [], _ :: _, h => h.elim
  | _ :: _, [], h => h.elim
theorem Prs.keep {H H' : Hp} (k : Keep H H') : ∀ {ps : List (List Nat × Int)} {vs : List V}, Prs H ps vs → Prs H' ps vs
  | [], [], _ => trivial
  | _ :: _, _ :: _, ⟨⟨t, e, ht⟩, h⟩ => ⟨⟨t, e, k _ _ ht⟩, Prs.keep k h⟩
  | [], _ :: _, h => h.elim
  | _ :: _, [], h => h.elim
theorem Prs.len {H : Hp} : ∀ {ps : List (List Nat × Int)} {vs : List V}, Prs H ps vs → vs.length = ps.length
  | [], [], _ => rfl
  | _ :: _, _ :: _, h => congrArg (· + 1) (Prs.len h.2)
  | [], _ :: _, h => h.elim
  | _ :: _, [], h => h.elim
theorem Prs.at {H : Hp} : ∀ {ps : List (List Nat × Int)} {vs : List V} {i : Nat} {v : V}, Prs H ps vs → vs[i]? = some v → ∃ p t, ps[i]? = some p ∧ v = .ref t ∧ H t = some (.tup [.str (SX.S p.1), .int p.2])
  | [], [], i, v, _, e => by simp at e
  | p :: _, _ :: _, 0, v, h, e => by
    obtain ⟨⟨t, e1, ht⟩, _⟩ := h
    exact ⟨p, t, rfl, (Option.some.inj e).symm.trans e1, ht⟩
  | _ :: _, _ :: _, i + 1, v, h, e => Prs.at (i := i) h.2 (by simpa using e)
  | [], _ :: _, _, _, h, _ => h.elim
  | _ :: _, [], _, _, h, _ => h.elim
theorem Prs.snoc {H : Hp} {p : List Nat × Int} {t : Addr} (ht : H t = some (.tup [.str (SX.S p.1), .int p.2])) : ∀ {ps : List (List Nat × Int)} {vs : List V}, Prs H ps vs → Prs H (ps ++ [p]) (vs ++ [.ref t])
  | [], [], _ => ⟨⟨t, rfl, ht⟩, trivial⟩
  | _ :: _, _ :: _, h => ⟨h.1, Prs.snoc ht h.2⟩
  | [], _ :: _, h => h.elim
  | _ :: _, [], h => h.elim
theorem Prs.drop {H : Hp} : ∀ (n : Nat) {ps : List (List Nat × Int)} {vs : List V}, Prs H ps vs → Prs H (ps.drop n) (vs.drop n)
  | 0, _, _, h => h
  | _ + 1, [], [], h => h
  | n + 1, _ :: _, _ :: _, h => Prs.drop n h.2
  | _ + 1, [], _ :: _, h => h.elim
  | _ + 1, _ :: _, [], h => h.elim
theorem Prs.take {H : Hp} : ∀ (n : Nat) {ps : List (List Nat × Int)} {vs : List V}, Prs H ps vs → Prs H (ps.take n) (vs.take n)
  | 0, _, _, _ => trivial
  | _ + 1, [], [], h => h
  | n + 1, _ :: _, _ :: _, h => ⟨h.1, Prs.take n h.2⟩
  | _ + 1, [], _ :: _, h => h.elim
  | _ + 1, _ :: _, [], h => h.elim
/-! ### a recipe gone through with the numbers read: plain facts -/
abbrev Pr := List Nat × Int
inductive Res where
  | ok (v : Int) (n : Nat)
  | lack (s : List Nat)
  | bad
inductive Out where
  | read (s : List Nat)
  | worth (v : Int)
  | none
def Kd.ap : Kd → Int → Int → Int
  | .plus, a, b => a + b
  | .minus, a, b => a - b
  | .times, a, b => a * b
  | .most, a, b => if b > a then b else a
def seen (l : List Pr) (s : List Nat) : Option Int := (l.find? fun p => decide (p.1 = s)).map (·.2)
def lookG (rd : List Pr) (n : Nat) (s : List Nat) : Res :=
  match seen (rd.take n) s with
  | some v => .ok v n
  | none => match rd[n]? with
    | none => .lack s
    | some p => if p.1 = s then .ok p.2 (n + 1) else .bad
def Res.bind (r : Res) (f : Int → Nat → Res) : Res := match r with
  | .ok v n => f v n
  | .lack s => .lack s
  | .bad => .bad
def nthN (ns : List (List Nat)) (x : Int) : List Nat := ns.getD (x % (ns.length : Int)).toNat []
def go (rd : List Pr) : Rcp → Nat → Res
  | .num v, n => .ok v n
  | .read s, n => lookG rd n s
  | .two k a b, n => (go rd a n).bind fun x m => (go rd b m).bind fun y l => .ok (k.ap x y) l
  | .pick a b c, n => (go rd a n).bind fun x m => if x > 0 then go rd b m else go rd c m
  | .choose a ns, n => (go rd a n).bind fun x m => lookG rd m (nthN ns x)
def outOf (rd : List Pr) (r : Rcp) : Out := match go rd r 0 with
  | .ok v n => if n < rd.length then .none else .worth v
  | .lack s => .read s
  | .bad => .none
/-- names fine, numbers below 2 ^ 400 -/
def Rcp.Nb : Rcp → Prop
  | .num v => v.natAbs < 2 ^ 400
  | .read s => Nm s
  | .two _ a b => a.Nb ∧ b.Nb
  | .pick a b c => a.Nb ∧ b.Nb ∧ c.Nb
  | .choose a ns => a.Nb ∧ Nms ns
theorem nth_mem {ns : List (List Nat)} (h : 1 ≤ ns.length) (x : Int) : ∃ i : Nat, x % (ns.length : Int) = (i : Int) ∧ ns[i]? = some (nthN ns x) := by
  have h0 : 0 ≤ x % (ns.length : Int) := Int.emod_nonneg _ (by omega)
  have h1 : x % (ns.length : Int) < ns.length := Int.emod_lt_of_pos _ (by omega)
  refine ⟨(x % (ns.length : Int)).toNat, by omega, ?_⟩
  have hi : (x % (ns.length : Int)).toNat < ns.length := by omega
  unfold nthN
  rw [List.getD_eq_getElem?_getD, List.getElem?_eq_getElem hi]
  rfl
theorem seen_mem {l : List Pr} {s : List Nat} {v : Int} (h : seen l s = some v) : (s, v) ∈ l := by
  unfold seen at h
  cases e : l.find? fun p => decide (p.1 = s) with
  | none => rw [e] at h; cases h
  | some p =>
    rw [e] at h
    have h1 := List.mem_of_find?_eq_some e
    have h2 : p.1 = s := by
      have := List.find?_some e
      exact of_decide_eq_true this
    have h3 : p.2 = v := Option.some.inj h
    rw [← h2, ← h3]
    exact h1
theorem seen_none {l : List Pr} {s : List Nat} (h : seen l s = none) : ¬ s ∈ l.map (·.1) := fun z => by
  obtain ⟨p, hp, e⟩ := List.mem_map.mp z
  unfold seen at h
  rw [Option.map_eq_none_iff, List.find?_eq_none] at h
  exact h p hp (decide_eq_true e)
theorem seen_not {l : List Pr} {s : List Nat} (h : ¬ s ∈ l.map (·.1)) : seen l s = none := by
  unfold seen
  rw [Option.map_eq_none_iff, List.find?_eq_none]
  exact fun p hp e => h (List.mem_map.mpr ⟨p, hp, of_decide_eq_true e⟩)
theorem seen_cons (p : Pr) (l : List Pr) (s : List Nat) : seen (p :: l) s = if p.1 = s then some p.2 else seen l s := by
  unfold seen
  rw [List.find?_cons]
  by_cases c : p.1 = s
  · rw [if_pos c, decide_eq_true c]
    rfl
  · rw [if_neg c, decide_eq_false c]
theorem lookG_seen {rd : List Pr} {n : Nat} {s : List Nat} {v : Int} (e : seen (rd.take n) s = some v) : lookG rd n s = .ok v n := by unfold lookG; rw [e]
theorem lookG_last {rd : List Pr} {n : Nat} {s : List Nat} (e : seen (rd.take n) s = none) (e2 : rd[n]? = none) : lookG rd n s = .lack s := by unfold lookG; rw [e, e2]
theorem lookG_right {rd : List Pr} {n : Nat} {s : List Nat} {p : Pr} (e : seen (rd.take n) s = none) (e2 : rd[n]? = some p) (c : p.1 = s) : lookG rd n s = .ok p.2 (n + 1) := by unfold lookG; rw [e, e2]; exact if_pos c
theorem lookG_bad {rd : List Pr} {n : Nat} {s : List Nat} {p : Pr} (e : seen (rd.take n) s = none) (e2 : rd[n]? = some p) (c : ¬ p.1 = s) : lookG rd n s = .bad := by unfold lookG; rw [e, e2]; exact if_neg c
/-! #### the walk goes ahead, and no number grows too great -/
theorem lookG_ok {rd : List Pr} {n m : Nat} {s : List Nat} {v : Int} (hn : n ≤ rd.length) (h : lookG rd n s = .ok v m) : n ≤ m ∧ m ≤ rd.length ∧ (s, v) ∈ rd := by
  unfold lookG at h
  cases e : seen (rd.take n) s with
  | some w =>
    rw [e] at h
    cases h
    exact ⟨Nat.le_refl _, hn, List.mem_of_mem_take (seen_mem e)⟩
  | none =>
    rw [e] at h
    cases e2 : rd[n]? with
    | none => rw [e2] at h; cases h
    | some p =>
      rw [e2] at h
      by_cases c : p.1 = s
      · have h' : Res.ok p.2 (n + 1) = .ok v m := by have := h; simp only [if_pos c] at this; exact this
        cases h'
        have := (List.getElem?_eq_some_iff.mp e2).1
        exact ⟨Nat.le_succ _, this, by rw [← c]; exact List.mem_of_getElem? e2⟩
      · simp only [if_neg c] at h
        cases h
theorem bind_ok {r : Res} {f : Int → Nat → Res} {v : Int} {m : Nat} (h : r.bind f = .ok v m) : ∃ x l, r = .ok x l ∧ f x l = .ok v m := by
  cases r with
  | ok x l => exact ⟨x, l, rfl, h⟩
  | lack s => cases h
  | bad => cases h
theorem ap_small {k : Kd} {x y : Int} {e : Nat} (h1 : 1 ≤ e) (hx : x.natAbs < 2 ^ e) (hy : y.natAbs < 2 ^ e) : (k.ap x y).natAbs < 2 ^ (e + e) := by
  have hs : 2 ^ e + 2 ^ e ≤ 2 ^ (e + e) := by
    have h2 : 2 ^ e * 2 ≤ 2 ^ e * 2 ^ e := Nat.mul_le_mul_left _ (by
      have := Nat.pow_le_pow_right (show 0 < 2 by decide) h1
      simpa using this)
    rw [Nat.pow_add]
    omega
  cases k with
  | plus => show (x + y).natAbs < _; omega
  | minus => show (x - y).natAbs < _; omega
  | times =>
    show (x * y).natAbs < _
    rw [Int.natAbs_mul, Nat.pow_add]
    exact Nat.mul_lt_mul'' hx hy
  | most =>
    show (if y > x then y else x).natAbs < _
    split <;> omega
theorem go_ok {rd : List Pr} (hrd : ∀ p ∈ rd, p.2.natAbs < 2 ^ 400) : ∀ {r : Rcp} {n m : Nat} {v : Int}, r.Nb → n ≤ rd.length → go rd r n = .ok v m → n ≤ m ∧ m ≤ rd.length ∧ v.natAbs < 2 ^ (400 * 2 ^ r.dep)
  | .num w, n, m, v, hb, hn, h => by
    cases h
    exact ⟨Nat.le_refl _, hn, Nat.lt_of_lt_of_le hb (Nat.pow_le_pow_right (by decide) (by show 400 ≤ 400 * 2 ^ 1; decide))⟩
  | .read s, n, m, v, hb, hn, h => by
    obtain ⟨h1, h2, h3⟩ := lookG_ok hn h
    exact ⟨h1, h2, Nat.lt_of_lt_of_le (hrd _ h3) (Nat.pow_le_pow_right (by decide) (by show 400 ≤ 400 * 2 ^ 1; decide))⟩
  | .two k a b, n, m, v, hb, hn, h => by
    obtain ⟨x, l, ha, h2⟩ := bind_ok h
    obtain ⟨y, l2, hbb, h3⟩ := bind_ok h2
    cases h3
    obtain ⟨a1, a2, a3⟩ := go_ok hrd hb.1 hn ha
    obtain ⟨b1, b2, b3⟩ := go_ok hrd hb.2 a2 hbb
    have hx : x.natAbs < 2 ^ (400 * 2 ^ max a.dep b.dep) := Nat.lt_of_lt_of_le a3 (Nat.pow_le_pow_right (by decide) (Nat.mul_le_mul_left _ (Nat.pow_le_pow_right (by decide) (Nat.le_max_left ..))))
    have hy : y.natAbs < 2 ^ (400 * 2 ^ max a.dep b.dep) := Nat.lt_of_lt_of_le b3 (Nat.pow_le_pow_right (by decide) (Nat.mul_le_mul_left _ (Nat.pow_le_pow_right (by decide) (Nat.le_max_right ..))))
    have hp : 1 ≤ 2 ^ max a.dep b.dep := Nat.one_le_two_pow
    have := ap_small (k := k) (by omega) hx hy
    refine ⟨Nat.le_trans a1 b1, b2, ?_⟩
    show _ < 2 ^ (400 * 2 ^ (max a.dep b.dep + 1))
    rw [show 400 * 2 ^ (max a.dep b.dep + 1) = 400 * 2 ^ max a.dep b.dep + 400 * 2 ^ max a.dep b.dep by rw [Nat.pow_succ]; omega]
    exact this
  | .pick a b c, n, m, v, hb, hn, h => by
    obtain ⟨x, l, ha, h2⟩ := bind_ok h
    obtain ⟨a1, a2, a3⟩ := go_ok hrd hb.1 hn ha
    have mono : ∀ d, d ≤ (Rcp.pick a b c).dep → ∀ z : Int, z.natAbs < 2 ^ (400 * 2 ^ d) → z.natAbs < 2 ^ (400 * 2 ^ (Rcp.pick a b c).dep) := fun d hd z hz => Nat.lt_of_lt_of_le hz (Nat.pow_le_pow_right (by decide) (Nat.mul_le_mul_left _ (Nat.pow_le_pow_right (by decide) hd)))
    have e : (Rcp.pick a b c).dep = max a.dep (max b.dep c.dep) + 1 := rfl
    by_cases hx : x > 0
    · simp only [if_pos hx] at h2
      obtain ⟨b1, b2, b3⟩ := go_ok hrd hb.2.1 a2 h2
      exact ⟨Nat.le_trans a1 b1, b2, mono b.dep (by omega) _ b3⟩
    · simp only [if_neg hx] at h2
      obtain ⟨b1, b2, b3⟩ := go_ok hrd hb.2.2 a2 h2
      exact ⟨Nat.le_trans a1 b1, b2, mono c.dep (by omega) _ b3⟩
  | .choose a ns, n, m, v, hb, hn, h => by
    obtain ⟨x, l, ha, h2⟩ := bind_ok h
    obtain ⟨a1, a2, a3⟩ := go_ok hrd hb.1 hn ha
    obtain ⟨h4, h5, h6⟩ := lookG_ok a2 h2
    have hp : 1 ≤ 2 ^ (Rcp.choose a ns).dep := Nat.one_le_two_pow
    exact ⟨Nat.le_trans a1 h4, h5, Nat.lt_of_lt_of_le (hrd _ h6) (Nat.pow_le_pow_right (by decide) (by omega))⟩
/-! #### one more read behind the reads that were all looked for -/
theorem lookG_lack {rd : List Pr} {n : Nat} {s t : List Nat} (hn : n ≤ rd.length) (h : lookG rd n s = .lack t) : n = rd.length ∧ s = t ∧ seen rd s = none := by
  unfold lookG at h
  cases e : seen (rd.take n) s with
  | some w => rw [e] at h; cases h
  | none =>
    rw [e] at h
    cases e2 : rd[n]? with
    | none =>
      rw [e2] at h
      cases h
      have hl := List.getElem?_eq_none_iff.mp e2
      have : n = rd.length := by omega
      rw [this, List.take_length] at e
      exact ⟨this, rfl, e⟩
    | some p =>
      rw [e2] at h
      by_cases c : p.1 = s
      · simp only [if_pos c] at h; cases h
      · simp only [if_neg c] at h; cases h
theorem lookG_more {rd : List Pr} {n m : Nat} {s : List Nat} {v : Int} (q : Pr) (hn : n ≤ rd.length) (h : lookG rd n s = .ok v m) : lookG (rd ++ [q]) n s = .ok v m := by
  unfold lookG at h ⊢
  rw [List.take_append_of_le_length hn]
  cases e : seen (rd.take n) s with
  | some w => rw [e] at h; exact h
  | none =>
    rw [e] at h
    cases e2 : rd[n]? with
    | none => rw [e2] at h; cases h
    | some p =>
      rw [e2] at h
      have hl := (List.getElem?_eq_some_iff.mp e2).1
      rw [List.getElem?_append_left hl, e2]
      exact h
/-- with all reads gone, nothing is bad -/
theorem lookG_end {rd : List Pr} {s : List Nat} : (∃ v, lookG rd rd.length s = .ok v rd.length) ∨ lookG rd rd.length s = .lack s := by
  unfold lookG
  rw [List.take_length]
  cases e : seen rd s with
  | some w => exact .inl ⟨w, rfl⟩
  | none =>
    rw [List.getElem?_eq_none (Nat.le_refl _)]
    exact .inr rfl
theorem go_end {rd : List Pr} : ∀ {r : Rcp}, (∃ v, go rd r rd.length = .ok v rd.length) ∨ ∃ s, go rd r rd.length = .lack s
  | .num v => .inl ⟨v, rfl⟩
  | .read s => lookG_end.elim .inl fun h => .inr ⟨s, h⟩
  | .two k a b => by
    rcases go_end (rd := rd) (r := a) with ⟨x, hx⟩ | ⟨s, hs⟩
    · rcases go_end (rd := rd) (r := b) with ⟨y, hy⟩ | ⟨s, hs⟩
      · exact .inl ⟨k.ap x y, by unfold go; rw [hx]; show (go rd b rd.length).bind _ = _; rw [hy]; rfl⟩
      · exact .inr ⟨s, by unfold go; rw [hx]; show (go rd b rd.length).bind _ = _; rw [hs]; rfl⟩
    · exact .inr ⟨s, by unfold go; rw [hs]; rfl⟩
  | .pick a b c => by
    rcases go_end (rd := rd) (r := a) with ⟨x, hx⟩ | ⟨s, hs⟩
    · by_cases c0 : x > 0
      · rcases go_end (rd := rd) (r := b) with ⟨y, hy⟩ | ⟨s, hs⟩
        · exact .inl ⟨y, by unfold go; rw [hx]; show (if x > 0 then _ else _) = _; rw [if_pos c0, hy]⟩
        · exact .inr ⟨s, by unfold go; rw [hx]; show (if x > 0 then _ else _) = _; rw [if_pos c0, hs]⟩
      · rcases go_end (rd := rd) (r := c) with ⟨y, hy⟩ | ⟨s, hs⟩
        · exact .inl ⟨y, by unfold go; rw [hx]; show (if x > 0 then _ else _) = _; rw [if_neg c0, hy]⟩
        · exact .inr ⟨s, by unfold go; rw [hx]; show (if x > 0 then _ else _) = _; rw [if_neg c0, hs]⟩
    · exact .inr ⟨s, by unfold go; rw [hs]; rfl⟩
  | .choose a ns => by
    rcases go_end (rd := rd) (r := a) with ⟨x, hx⟩ | ⟨s, hs⟩
    · rcases lookG_end (rd := rd) (s := nthN ns x) with ⟨v, hv⟩ | hl
      · exact .inl ⟨v, by unfold go; rw [hx]; exact hv⟩
      · exact .inr ⟨_, by unfold go; rw [hx]; exact hl⟩
    · exact .inr ⟨s, by unfold go; rw [hs]; rfl⟩
theorem go_more {rd : List Pr} (q : Pr) : ∀ {r : Rcp} {n m : Nat} {v : Int}, n ≤ rd.length → go rd r n = .ok v m → go (rd ++ [q]) r n = .ok v m ∧ m ≤ rd.length
  | .num w, n, m, v, hn, h => by cases h; exact ⟨rfl, hn⟩
  | .read s, n, m, v, hn, h => ⟨lookG_more q hn h, (lookG_ok hn h).2.1⟩
  | .two k a b, n, m, v, hn, h => by
    obtain ⟨x, l, ha, h2⟩ := bind_ok h
    obtain ⟨y, l2, hb, h3⟩ := bind_ok h2
    cases h3
    obtain ⟨a1, a2⟩ := go_more q hn ha
    obtain ⟨b1, b2⟩ := go_more q a2 hb
    refine ⟨?_, b2⟩
    unfold go
    rw [a1]
    show (go (rd ++ [q]) b l).bind _ = _
    rw [b1]
    rfl
  | .pick a b c, n, m, v, hn, h => by
    obtain ⟨x, l, ha, h2⟩ := bind_ok h
    obtain ⟨a1, a2⟩ := go_more q hn ha
    unfold go
    rw [a1]
    show (if x > 0 then _ else _) = _ ∧ _
    by_cases c0 : x > 0
    · simp only [if_pos c0] at h2
      rw [if_pos c0]
      exact go_more q a2 h2
    · simp only [if_neg c0] at h2
      rw [if_neg c0]
      exact go_more q a2 h2
  | .choose a ns, n, m, v, hn, h => by
    obtain ⟨x, l, ha, h2⟩ := bind_ok h
    obtain ⟨a1, a2⟩ := go_more q hn ha
    unfold go
    rw [a1]
    exact ⟨lookG_more q a2 h2, (lookG_ok a2 h2).2.1⟩
theorem bind_lack {r : Res} {f : Int → Nat → Res} {s : List Nat} (h : r.bind f = .lack s) : r = .lack s ∨ ∃ x l, r = .ok x l ∧ f x l = .lack s := by
  cases r with
  | ok x l => exact .inr ⟨x, l, rfl, h⟩
  | lack s' => exact .inl h
  | bad => cases h
/-- where s lacked: with s read it comes to the end of the reads, or lacks another one -/
def Fine (rd : List Pr) (r : Res) : Prop := (∃ v, r = .ok v rd.length) ∨ ∃ s, r = .lack s
theorem look_next {rd : List Pr} {n : Nat} {s t : List Nat} (w : Int) (hn : n ≤ rd.length) (h : lookG rd n t = .lack s) : lookG (rd ++ [(s, w)]) n t = .ok w (rd ++ [(s, w)]).length := by
  obtain ⟨rfl, rfl, e⟩ := lookG_lack hn h
  unfold lookG
  rw [List.take_append_of_le_length (Nat.le_refl _), List.take_length, e, List.getElem?_append_right (Nat.le_refl _), Nat.sub_self]
  show (if t = t then Res.ok w (rd.length + 1) else .bad) = _
  rw [if_pos rfl, List.length_append]
  rfl
theorem go_next {rd : List Pr} {s : List Nat} (w : Int) : ∀ {r : Rcp} {n : Nat}, n ≤ rd.length → go rd r n = .lack s → Fine (rd ++ [(s, w)]) (go (rd ++ [(s, w)]) r n)
  | .num v, n, hn, h => by cases h
  | .read t, n, hn, h => .inl ⟨w, look_next w hn h⟩
  | .two k a b, n, hn, h => by
    rcases bind_lack h with ha | ⟨x, l, ha, h2⟩
    · rcases go_next w hn ha with ⟨v, hv⟩ | ⟨t, ht⟩
      · unfold go
        rw [hv]
        show Fine _ ((go (rd ++ [(s, w)]) b (rd ++ [(s, w)]).length).bind _)
        rcases go_end (rd := rd ++ [(s, w)]) (r := b) with ⟨y, hy⟩ | ⟨t, ht⟩
        · rw [hy]; exact .inl ⟨_, rfl⟩
        · rw [ht]; exact .inr ⟨_, rfl⟩
      · unfold go
        rw [ht]
        exact .inr ⟨_, rfl⟩
    · obtain ⟨a1, a2⟩ := go_more (s, w) hn ha
      unfold go
      rw [a1]
      show Fine _ ((go (rd ++ [(s, w)]) b l).bind _)
      rcases bind_lack h2 with hb | ⟨y, l2, hb, h3⟩
      · rcases go_next w a2 hb with ⟨v, hv⟩ | ⟨t, ht⟩
        · rw [hv]; exact .inl ⟨_, rfl⟩
        · rw [ht]; exact .inr ⟨_, rfl⟩
      · cases h3
  | .pick a b c, n, hn, h => by
    rcases bind_lack h with ha | ⟨x, l, ha, h2⟩
    · rcases go_next w hn ha with ⟨v, hv⟩ | ⟨t, ht⟩
      · unfold go
        rw [hv]
        show Fine _ (if v > 0 then go _ b _ else go _ c _)
        split
        · exact go_end
        · exact go_end
      · unfold go
        rw [ht]
        exact .inr ⟨_, rfl⟩
    · obtain ⟨a1, a2⟩ := go_more (s, w) hn ha
      unfold go
      rw [a1]
      show Fine _ (if x > 0 then go _ b _ else go _ c _)
      by_cases c0 : x > 0
      · simp only [if_pos c0] at h2
        rw [if_pos c0]
        exact go_next w a2 h2
      · simp only [if_neg c0] at h2
        rw [if_neg c0]
        exact go_next w a2 h2
  | .choose a ns, n, hn, h => by
    rcases bind_lack h with ha | ⟨x, l, ha, h2⟩
    · rcases go_next w hn ha with ⟨v, hv⟩ | ⟨t, ht⟩
      · unfold go
        rw [hv]
        exact lookG_end.elim .inl fun h => .inr ⟨_, h⟩
      · unfold go
        rw [ht]
        exact .inr ⟨_, rfl⟩
    · obtain ⟨a1, a2⟩ := go_more (s, w) hn ha
      unfold go
      rw [a1]
      exact .inl ⟨w, look_next w a2 h2⟩
/-- the names that a recipe may look for -/
def Rcp.nms : Rcp → List (List Nat)
  | .num _ => []
  | .read s => [s]
  | .two _ a b => a.nms ++ b.nms
  | .pick a b c => a.nms ++ (b.nms ++ c.nms)
  | .choose a ns => a.nms ++ ns
theorem go_name {rd : List Pr} {s : List Nat} : ∀ {r : Rcp} {n : Nat}, r.Nb → n ≤ rd.length → go rd r n = .lack s → s ∈ r.nms ∧ seen rd s = none
  | .num v, n, hb, hn, h => by cases h
  | .read t, n, hb, hn, h => by
    obtain ⟨_, e, e2⟩ := lookG_lack hn h
    exact ⟨by rw [← e]; exact List.mem_singleton.mpr rfl, by rw [← e]; exact e2⟩
  | .two k a b, n, hb, hn, h => by
    rcases bind_lack h with ha | ⟨x, l, ha, h2⟩
    · obtain ⟨h1, h2⟩ := go_name hb.1 hn ha
      exact ⟨List.mem_append_left _ h1, h2⟩
    · rcases bind_lack h2 with hbb | ⟨y, l2, hbb, h3⟩
      · obtain ⟨h1, h2⟩ := go_name hb.2 (go_more (s, 0) hn ha).2 hbb
        exact ⟨List.mem_append_right _ h1, h2⟩
      · cases h3
  | .pick a b c, n, hb, hn, h => by
    rcases bind_lack h with ha | ⟨x, l, ha, h2⟩
    · obtain ⟨h1, h2⟩ := go_name hb.1 hn ha
      exact ⟨List.mem_append_left _ h1, h2⟩
    · have hl := (go_more (s, 0) hn ha).2
      by_cases c0 : x > 0
      · simp only [if_pos c0] at h2
        obtain ⟨h1, h2⟩ := go_name hb.2.1 hl h2
        exact ⟨List.mem_append_right _ (List.mem_append_left _ h1), h2⟩
      · simp only [if_neg c0] at h2
        obtain ⟨h1, h2⟩ := go_name hb.2.2 hl h2
        exact ⟨List.mem_append_right _ (List.mem_append_right _ h1), h2⟩
  | .choose a ns, n, hb, hn, h => by
    rcases bind_lack h with ha | ⟨x, l, ha, h2⟩
    · obtain ⟨h1, h2⟩ := go_name hb.1 hn ha
      exact ⟨List.mem_append_left _ h1, h2⟩
    · obtain ⟨_, e, e2⟩ := lookG_lack (go_more (s, 0) hn ha).2 h2
      obtain ⟨i, _, hi⟩ := nth_mem hb.2.1 x
      exact ⟨List.mem_append_right _ (by rw [← e]; exact List.mem_of_getElem? hi), by rw [← e]; exact e2⟩
theorem nms_ok : ∀ {r : Rcp}, r.Nb → ∀ s ∈ r.nms, Nm s
  | .num _, _, s, h => nomatch h
  | .read t, hb, s, h => by rw [List.mem_singleton.mp h]; exact hb
  | .two _ a b, hb, s, h => (List.mem_append.mp h).elim (nms_ok hb.1 s) (nms_ok hb.2 s)
  | .pick a b c, hb, s, h => (List.mem_append.mp h).elim (nms_ok hb.1 s) fun h => (List.mem_append.mp h).elim (nms_ok hb.2.1 s) (nms_ok hb.2.2 s)
  | .choose a ns, hb, s, h => (List.mem_append.mp h).elim (nms_ok hb.1 s) (hb.2.2.2 s)
/-! ### rows of pairs as data -/
def pairTh (p : List Nat × Int) : Th := .tup [.str p.1, .int p.2]
theorem Prs.data {H : Hp} : ∀ {ps : List (List Nat × Int)} {vs : List V}, Prs H ps vs → DataL H (ps.map pairTh) vs
  | [], [], _ => rfl
  | _ :: _, _ :: _, ⟨⟨t, e, ht⟩, h⟩ => ⟨_, _, rfl, ⟨t, _, e, ht, _, _, rfl, rfl, _, _, rfl, rfl, rfl⟩, Prs.data h⟩
  | [], _ :: _, h => h.elim
  | _ :: _, [], h => h.elim
theorem prs_flat : ∀ ps : List (List Nat × Int), Th.flatL (ps.map pairTh) = true
  | [] => rfl
  | p :: ps => by
    show ((pairTh p).flat && Th.flatL (ps.map pairTh)) = true
    rw [prs_flat ps]
    rfl
theorem prs_lay : ∀ {ps : List (List Nat × Int)}, (∀ p ∈ ps, Nm p.1) → PyData.canLayAll0 (Th.pyL (ps.map pairTh)) = true ∧ PyData.depthAll (Th.pyL (ps.map pairTh)) ≤ 1
  | [], _ => ⟨rfl, Nat.zero_le _⟩
  | p :: ps, h => by
    obtain ⟨h1, h2⟩ := prs_lay fun q hq => h q (List.mem_cons_of_mem _ hq)
    have h3 := nm_lay (h p (List.mem_cons_self ..))
    refine ⟨?_, ?_⟩
    · show (((PyData.str (SX.S p.1)).canLay0 && ((PyData.int p.2).canLay0 && true)) && PyData.canLayAll0 (Th.pyL (ps.map pairTh))) = true
      rw [h1, h3]
      rfl
    · show max (max 0 (max 0 0) + 1) (PyData.depthAll (Th.pyL (ps.map pairTh))) ≤ 1
      omega
theorem prs_shaped {ps : List (List Nat × Int)} (h : ∀ p ∈ ps, Nm p.1) : SeqAt.shaped (.list (Th.pyL (ps.map pairTh))) = true := by
  obtain ⟨h1, h2⟩ := prs_lay h
  show (PyData.canLayAll0 (Th.pyL (ps.map pairTh)) && decide (PyData.depthAll (Th.pyL (ps.map pairTh)) + 1 ≤ 64)) = true
  rw [h1, decide_eq_true (by omega)]
  rfl
/-- names and numbers as a dict holds them -/
def kT (s : Str) : Key := Sum.inr s
def numsK (ps : List (List Nat × Int)) : List (Key × V) := ps.map fun p => (kT (SX.S p.1), .int p.2)
theorem kS_inj {a b : List Nat} (h : kT (SX.S a) = kT (SX.S b)) : a = b := by
  have e2 : SX.S a = SX.S b := Sum.inr.inj h
  exact beq_iff_eq.mp (by rw [← SX.S_beq]; exact beq_iff_eq.mpr e2)
theorem sne {a b : Str} (h : decide (a = b) = false) : ¬ V.str a = V.str b := fun z => (of_decide_eq_false h) (V.str.inj z)
theorem strS_inj {a b : List Nat} (h : V.str (SX.S a) = V.str (SX.S b)) : a = b := beq_iff_eq.mp (by rw [← SX.S_beq]; exact beq_iff_eq.mpr (V.str.inj h))
end Mad
/-! ### try .. except X as n, where the caught error is tracked behind the suite -/
namespace L2
open PySem PySem.Spec PyProof.Rows
def EzO (cls : Value) (d : Option Addr) (a : Addr) : HO := .ext fun h =>
  ∃ (oe : Obj) (vs : Array Value), h.get? a = some oe ∧ Zc cls d oe ∧
    oe.data = .fields vs
theorem ezO_ok {P : Program} {w : World} {H : Hp} {h : Heap} {a : Addr} {cls : Value} {d : Option Addr} {oe : Obj} {vs : Array Value}
    (e : h.get? a = some oe) (z : Zc cls d oe) (k : oe.data = .fields vs) : ObjOk P w H h a (EzO cls d a) :=
  ⟨⟨oe, vs, e, z, k⟩, ⟨oe, e⟩, fun _ _ y r => by
    obtain ⟨o, v, q, t⟩ := y
    exact ⟨o, v, r o q, t⟩⟩
section
variable {X : Cx} {pins : List (Addr × Obj)} {σ : St} {H : Hp} {B : Heap} {sI s' : Shared}
theorem Inv.landedT {a : Addr} {o : HO} (I : Inv X pins σ H sI) (nb : ∀ b u, sI.heap.get? b = some u → b ∉ frs X.stack → B.get? b = some u)
    (st : B.StaysIn s'.heap) (up : sI.heap.UpToSlots s'.heap) (os : s'.os = sI.os) (ag : AllBare s'.gens)
    (n0 : sI.heap.get? a = none) (na : H a = none) (new : ObjOk X.prog X.w (upd H a o) s'.heap a o) : Inv X pins σ (upd H a o) s' := by
  have nf : ∀ b ∈ frs X.stack, ∀ u, sI.heap.get? b = some u → ∃ sl, s'.heap.get? b = some { u with slots := sl } := by
    intro b hb u e
    obtain ⟨_, u', e', hd⟩ := I.stack.mem hb
    rw [e] at e'
    cases e'
    exact up b u e hd
  have U : Un (frs X.stack) [] H (upd H a o) sI.heap s'.heap := by
    refine ⟨fun b u e _ hb _ => st b u (nb b u e hb), fun b u e _ hb _ => nf b hb u e, fun b u e n _ => ?_, fun b u e _ => ?_, fun b xs q => ?_, fun b u xs q => ?_, fun b ps q => ?_⟩
    · have z : b ≠ a := fun z => by rw [z, n0] at e; cases e
      rw [upd_ne z]
      exact n
    · by_cases hb : b ∈ frs X.stack
      · obtain ⟨sl, q⟩ := nf b hb u e
        exact ⟨_, q⟩
      · exact ⟨u, st b u (nb b u e hb)⟩
    · rw [upd_ne (ne_of_none q na)]
      exact q
    · rw [upd_ne (ne_of_none q na)]
      exact q
    · exact ⟨#[], by rw [upd_ne (ne_of_none q na), q]; simp⟩
  have J := I.call (ch := []) (h' := s'.heap) (g' := s'.gens) (t' := s'.toks) (d' := s'.drawn) U
    (HOk.laidN ((I.inGround nb).kept st) (fun _ _ h => h) na new) ag (fun _ z => nomatch z)
  obtain ⟨a1, a2, a3, a4, a5⟩ := s'
  have e5 : a5 = sI.os := os
  subst e5
  exact J
theorem Inv.suiteN {s : Shared} (I : Inv X pins σ H s) (a : Addr) : Inv (X.suite a (X.pn ++ pins)) [] σ H s :=
  ⟨I.ok.suite _ _, I.os, I.bare, I.base, I.loc,
    I.cell, I.free, I.freeC,
    fun p hp => I.pin p (by rw [List.append_nil] at hp; exact hp), I.hok, I.len⟩
theorem Inv.unsuiteN {s : Shared} {a : Addr} (I : Inv (X.suite a (X.pn ++ pins)) [] σ H s) (ok : X.Ok) : Inv X pins σ H s :=
  ⟨ok, I.os, I.bare, I.base, I.loc,
    I.cell, I.free, I.freeC,
    fun p hp => I.pin p (List.mem_append_left _ hp), I.hok, I.len⟩
end
/-- what the clause wishes of an error of the body: slot i is n's; the error is tracked from here on -/
def wKeep (K : PySem.W.Frag) (c : Value) (i : Nat) (ts : Addr → Value → Option Addr → TS) (Wout : WX) (D : Ends) : WX := fun cls d σ H =>
  ∃ b, PySem.W.exmOne K cls c = some b ∧
    (b = true → ∀ a, H a = none → ts a cls d
      { nx := fun σ2 H2 => D.nx (σ2.set i none) H2, rt := D.rt, bk := fun σ2 H2 => D.bk (σ2.set i none) H2, ct := fun σ2 H2 => D.ct (σ2.set i none) H2 }
      (σ.set i (some (.ref a))) (upd H a (EzO cls d a))) ∧
    (b = false → Wout cls d σ H)
section
variable {X : Cx} {x n : Str} {c : Value} {i : Nat} {body suite : List Stmt} {b₀ : Stmt} {np pos pos' : Pos} {tb : WX → TS} {ts : Addr → Value → Option Addr → TS} {Wout : WX}
theorem ps_try_keep (hs : X.stack = X.env :: X.outer) (hf : X.env.frame = some X.env.locals) (hN : X.N.Nodup)
    (hi : X.N[i]? = some n) (hln : X.env.kindOf n = some .local) (hc : Names X x c) (tk : Takes X Wout)
    (hb : ∀ (W : WX) (pn : List (Addr × Obj)) (xe : Value → Shared → Prop), Takes (X.tr pn xe) W →
      PassesOwn (model X.prog X.w) X.A X.env xe → PSs (X.tr pn xe) body (tb W))
    (hsu : ∀ (a : Addr) (cls : Value) (d : Option Addr) (pn : List (Addr × Obj)),
      PSs (X.suite a pn) (b₀ :: suite) (ts a cls d)) :
    PS X (.Try body [.ExceptHandler (some (.Name x np)) (some n) (b₀ :: suite) pos'] [] [] pos)
      (fun D σ H => tb (wKeep X.K c i ts Wout D) D σ H) := by
  refine ⟨fun pins s σ H D I h => ?_⟩
  have okX := I.ok
  have hfr : X.A.frames = some (X.env :: X.outer) := by
    rw [okX.frames, hs]
  have hlc : Loc X.env.scope n := .inl hln
  refine wpAny_Try_except ?_
  refine wpAny_mono
    ((hb (wKeep X.K c i ts Wout D) (X.pn ++ pins)
      (fun e t1 => wpAny (model X.prog X.w) X.A (noteFrame e X.env)
        (fun _ t2 => wpAny (model X.prog X.w) X.A (setFlight e none)
          (fun _ t3 => wpAny (model X.prog X.w) X.A (handleBy e X.env [.ExceptHandler (some (.Name x np)) (some n) (b₀ :: suite) pos']) (SP X pins D) X.xe t3)
          X.xe t2)
        X.xe t1)
      (fun u t xx => ?_) PassesOwn.looking).run [] s σ H D (I.toTry _) h)
    (fun f s1 hsp => ?_) (fun e s1 he => he)
  · obtain ⟨a, B, sI, pn2, σ2, H2, cls, d, rfl, J0, nb, up, sky, na, os, ag, b, hb1, hyes, hno⟩ := xx
    have J : Inv X pins σ2 H2 sI := J0.ofTry okX
    have sky2 : Sky B (X.env :: X.outer) a (Zc cls d) X.env.locals t.heap := by
      rw [← hs]
      exact sky
    show wpAny (model X.prog X.w) X.A (noteFrame (.ref a) X.env) _ _ _
    refine Sky.land Zc.steady hfr hf sky2 fun h3 fl3 up3 => ?_
    have J3 : Inv X pins σ2 H2 { t with heap := h3 } :=
      J.landed nb fl3.1 (up.trans up3) os ag
    obtain ⟨oe3, vs3, he3, hz3, hd3⟩ := fl3.there
    have nfr : a ∉ frs (X.env :: X.outer) := fun hm => by
      obtain ⟨_, o', e', hnf⟩ := fl3.2.2.1.mem hm
      rw [he3] at e'
      cases e'
      exact hnf _ hd3
    have n0 : sI.heap.get? a = none := by
      cases q : sI.heap.get? a with
      | none => rfl
      | some u =>
        have z := nb a u q (by rw [hs]; exact nfr)
        rw [fl3.2.1] at z
        cases z
    have S3 := J3.suiteN a
    refine wpAny_handleBy_cons (codeAny_handlers_test ?_) (by intro q; cases q)
    have LT : PySem.W.Looks (model X.prog X.w) h3 (typeOf (.ref a)) cls := fun A Q E s k q =>
      wpAny_typeOf_ref (k _ _ he3) (by rw [hz3.1]; exact q)
    have LM := PySem.W.exm_one (M := model X.prog X.w) (J3.kIn) LT hb1
    have test : ∀ {Q : Value → Shared → Prop} {E : Value → Shared → Prop}, Q c { t with heap := h3 } →
        wpAny (model X.prog X.w) (X.A.mark (some (.ref a))) (eval (.Name x np) X.env) Q E { t with heap := h3 } := by
      intro Q E q
      obtain ⟨hg, hdbg, hm | ⟨hm, hv, hnn⟩⟩ := hc
      · exact ld_glob (X := X.suite a (X.pn ++ pins)) S3 hg hm q hdbg
      · exact ld_blt (X := X.suite a (X.pn ++ pins)) S3 hg hm hv q hnn hdbg
    refine test (LM.here ?_)
    cases b with
    | true =>
      refine codeAny_handlers_suite_as ?_
      refine HandSPX.lands_againZ fl3 fun h4 fl4 up4 => ?_
      obtain ⟨oe4, vs4, he4, hz4, hd4⟩ := fl4.there
      have J4 : Inv X pins σ2 (upd H2 a (EzO cls d a)) { t with heap := h4 } :=
        J.landedT nb fl4.1 ((up.trans up3).trans up4) os ag n0 na (ezO_ok he4 hz4 hd4)
      have S4 := J4.suiteN a
      refine store_ok (X := X.suite a (X.pn ++ pins)) (v := .ref a) S4 hN hi hlc rfl (fun s5 S5 => ?_) (.inr hln)
      refine wpAny_mono ((hsu a cls d (X.pn ++ pins)).run [] s5 _ _ _ S5 (hyes rfl a na)) (fun f s6 hsp => ?_) (fun _ _ z => False.elim z)
      have fin : ∀ {σ6 : St} {H6 : Hp} {Q : Shared → Prop}, Inv (X.suite a (X.pn ++ pins)) [] σ6 H6 s6 →
          (∀ s7, Inv X pins (σ6.set i none) H6 s7 → Q s7) →
          wpAny (model X.prog X.w) X.A (do bindName X.env n .none; unbindBehindTheSuite X.env n pos') (fun _ s7 => Q s7) X.xe s6 := by
        intro σ6 H6 Q S6 hq
        exact gone_ok (S6.unsuiteN okX) hN hi hln hq
      cases f with
      | ret u =>
        obtain ⟨v6, σ6, H6, S6, r6, q6⟩ := hsp
        exact fin S6 fun s7 J7 => ⟨_, _, _, J7, r6, q6⟩
      | next =>
        obtain ⟨σ6, H6, S6, q6⟩ := hsp
        exact fin S6 fun s7 J7 => ⟨_, _, J7, q6⟩
      | brk =>
        obtain ⟨σ6, H6, S6, q6⟩ := hsp
        exact fin S6 fun s7 J7 => ⟨_, _, J7, q6⟩
      | cont =>
        obtain ⟨σ6, H6, S6, q6⟩ := hsp
        exact fin S6 fun s7 J7 => ⟨_, _, J7, q6⟩
    | false =>
      show wpAny _ X.A (handleBy (.ref a) X.env []) _ _ _
      refine wpAny_handleBy_nil ?_
      obtain ⟨k1, k2, k3, oe, vs, T, oT, ts', he, hz, hd, h1, hr⟩ := id fl3
      unfold PySem.passOn
      refine wpAny_bind (wpAny_field he hd h1 ?_)
      rw [if_neg (show ¬ ((Value.ref T == Value.none) = true) from by simp)]
      have fin : wpAny (model X.prog X.w) X.A (setFlight (.ref a) X.env.frame)
          (fun _ t4 => wpAny (model X.prog X.w) X.A (throw (.ref a) : Sem Flow) (SP X pins D) X.xe t4) X.xe { t with heap := h3 } := by
        rw [hf]
        refine HandSPX.setFlight_upZ fl3 fun h4 hh4 up4 => wpAny_throw (tk _ _ ?_)
        exact ⟨a, B, sI, pins, σ2, H2, cls, d, rfl, J, nb,
          (up.trans up3).trans up4, .inr (.inr (by rw [hs]; exact hh4)), na, os, ag, hno rfl⟩
      first
        | exact wpAny_bind (wpAny_pure (wpAny_bind fin))
        | exact wpAny_bind fin
  · cases f with
    | next =>
      obtain ⟨σ2, H2, J2, q⟩ := hsp
      exact wpAny_execs_nil ⟨σ2, H2, J2.ofTry okX, q⟩
    | brk =>
      obtain ⟨σ2, H2, J2, q⟩ := hsp
      exact ⟨σ2, H2, J2.ofTry okX, q⟩
    | cont =>
      obtain ⟨σ2, H2, J2, q⟩ := hsp
      exact ⟨σ2, H2, J2.ofTry okX, q⟩
    | ret u =>
      obtain ⟨v, σ2, H2, J2, r, q⟩ := hsp
      exact ⟨v, σ2, H2, J2.ofTry okX, r, q⟩
end
/-- the object of a tracked error -/
theorem ezO_inst {X : Cx} {pins : List (Addr × Obj)} {σ : St} {H : Hp} {s : Shared} {a D : Addr} (I : Inv X pins σ H s) (h : H a = some (EzO (.ref D) none a)) :
    ∃ oe, PySem.W.InstAt s.heap a oe D none := by
  obtain ⟨⟨oe, vs, he, hz, hd⟩, _⟩ := (show ObjOk X.prog X.w H s.heap a (EzO (.ref D) none a) from I.hok a _ h)
  obtain ⟨oc, od, oda, osl⟩ := oe
  obtain ⟨h1, h2⟩ := hz
  dsimp only at h1 h2 hd
  subst h1 h2 hd
  exact ⟨_, he, rfl, rfl, trivial⟩
/-- isinstance(e, T), e a tracked error -/
def rIsX (K : PySem.W.Frag) : List V → Hp → VK → Prop := fun xs H Q => ∃ (a D : Addr) (c : V) (cv : Value) (b : Bool),
  xs = [.ref a, c] ∧ H a = some (EzO (.ref D) none a) ∧ ExcC K D ∧ ClsV c cv ∧
  PySem.W.kitOne K (.ref D) cv = some b ∧ Q (.bl b) H
/-- isinstance(e, (T1, T2)) -/
def rIsXT (K : PySem.W.Frag) : List V → Hp → VK → Prop := fun xs H Q => ∃ (a D tp : Addr) (cs : List V) (us : List Value) (b : Bool),
  xs = [.ref a, .ref tp] ∧ H tp = some (.tup cs) ∧ Paired ClsV cs us ∧ H a = some (EzO (.ref D) none a) ∧ ExcC K D ∧
  PySem.W.kitAny K (.ref D) us = some b ∧ Q (.bl b) H
section
variable {X : Cx}
theorem call_isX : CallR X (.builtin "isinstance") (rIsX X.K) := by
  intro pins s σ H xs us Q I r h
  obtain ⟨a, D, c, cv, b, rfl, hH, C, k, e, q⟩ := h
  obtain ⟨u1, u2, rfl, r1, r2⟩ := vals2 r
  have e2 := k.eq r2
  subst e2
  cases r1
  obtain ⟨oe, J⟩ := ezO_inst I hH
  exact PySem.W.kia_one (PySem.W.handS_kitx_exc C.hg C.hk C.hs C.hd C.ha C.hn C.ht C.hm) I.kIn J e (fun z => nomatch z)
    fun tk => ⟨.bl b, H, I.tok tk, rfl, q⟩
theorem call_isXT : CallR X (.builtin "isinstance") (rIsXT X.K) := by
  intro pins s σ H xs us Q I r h
  obtain ⟨a, D, tp, cs, ws, b, rfl, hT, k, hH, C, e, q⟩ := h
  obtain ⟨u1, u2, rfl, r1, r2⟩ := vals2 r
  cases r1
  cases (show u2 = Value.ref tp from r2)
  obtain ⟨oe, J⟩ := ezO_inst I hH
  obtain ⟨_, its, rv, o, h1, h2, n, h3⟩ := (show ObjOk X.prog X.w H s.heap tp (.tup cs) from I.hok tp _ hT)
  have e3 := ClsV.all k rv
  subst e3
  obtain ⟨oc, od, dt, sl⟩ := o
  simp only at h2 h3
  subst h2 h3
  exact PySem.W.kia_tup (PySem.W.handS_kitx_exc C.hg C.hk C.hs C.hd C.ha C.hn C.ht C.hm) I.kIn J h1 e (fun z => nomatch z)
    fun tk => ⟨.bl b, H, I.tok tk, rfl, q⟩
end
end L2
namespace Mad
open PySem PySem.Spec PyProof.Rows L2
/-! ### defs that raise, an own error class without a word of its own -/
theorem IsDef.calX2 {P : Program} {w : World} {K : PySem.W.Frag} {mg : Str → Option Value} {base : Heap} {x : Str} {st : Stmt} {N ps : List Str} {k : Nat} {sp : Sp} (D : IsDef K mg x st ps) (S : FnScope N ps (defScope st)) (len : ∀ vs H Q E, sp vs H Q E → vs.length = ps.length)
    (hbody : ∀ (f : Addr) (cdv : Value) (A : Around) (outer : List Env) (s : Shared) (H : Hp) (vs : List V) (Q : VK) (E : XK), Room k (A.deeper (envOfC x (defScope st) s.heap.objs.size f cdv)) → sp vs H Q E →
      ∃ t, PSs (cxOf (L2.CX P w) P w K mg base N x (defScope st) f cdv A outer s H E) (defBody st) t ∧ t { nx := fun _ H' => Q .non H', rt := Q } (start N vs) H) : Cal P w K mg base (L2.CX P w) (k + 1) x ps sp := by
  obtain ⟨f, fd, F, m, b⟩ := D
  exact ⟨f, fd, F.okX S len fun cdv A outer s H vs Q E => hbody f cdv A outer s H vs Q E, m, F.kp, b⟩
structure NoX (K : PySem.W.Frag) (mg : Str → Option Value) (n : Str) (C : Addr) : Prop where
  x : PySem.W.excIn K C [.type "ValueError", .type "Exception", .type "BaseException", .type "object"] "ValueError.__new__" = true
  g : mg n = some (.ref C)
  k : PySem.W.keepIn K (.ref C) = true
  b : PySem.W.subIn K (.ref C) (.type "BaseException") = some true
  t : PySem.W.typeIn K (.ref C) = some (.type "type")
theorem call_isXK {X : Cx} {K : PySem.W.Frag} (h : X.K = K) : CallR X (.builtin "isinstance") (rIsX K) := by
  subst h
  exact call_isX
/-! ### own classes: methods by their promises -/
/-- the method m of the class at C stands in the text as st says -/
def IsMet (K : PySem.W.Frag) (C : Addr) (m nm : Str) (st : Stmt) (ps : List Str) : Prop := ∃ (f : Addr) (fd : FuncData), Fun K m nm st f fd ∧ Meth K C m f ∧ Binds K fd ps []
def Met (P : Program) (w : World) (K : PySem.W.Frag) (mg : Str → Option Value) (base : Heap) (CX : CXT) (k : Nat) (C : Addr) (m : Str) (ps : List Str) (sp : Sp) : Prop := ∃ (f : Addr) (fd : FuncData), FnOk P w K mg base CX k f fd ps sp ∧ Meth K C m f ∧ Binds K fd ps []
section
variable {P : Program} {w : World} {K : PySem.W.Frag} {mg : Str → Option Value} {base : Heap} {C : Addr}
theorem Met.mono {CX : CXT} {j k : Nat} {m : Str} {ps : List Str} {sp : Sp} (c : Met P w K mg base CX j C m ps sp) (h : j ≤ k) : Met P w K mg base CX k C m ps sp := by
  obtain ⟨f, fd, F, r⟩ := c
  exact ⟨f, fd, F.mono h, r⟩
theorem met_none {m nm : Str} {st : Stmt} {ps : List Str} {sp : Sp} {CX : CXT} {k : Nat} (D : IsMet K C m nm st ps) (no : ∀ vs H Q E, ¬ sp vs H Q E) : Met P w K mg base CX k C m ps sp := by
  obtain ⟨f, fd, F, m, b⟩ := D
  exact ⟨f, fd, ⟨fun vs H Q E h => absurd h (no vs H Q E), fun A outer s H args us vs Q E _ _ _ _ h => absurd h (no vs H Q E)⟩, m, b⟩
theorem IsMet.met {m nm : Str} {st : Stmt} {N ps : List Str} {k : Nat} {sp : Sp} (D : IsMet K C m nm st ps) (S : FnScope N ps (defScope st)) (len : ∀ vs H Q E, sp vs H Q E → vs.length = ps.length)
    (hbody : ∀ (f : Addr) (cdv : Value) (A : Around) (outer : List Env) (s : Shared) (H : Hp) (vs : List V) (Q : VK) (E : XK), Room k (A.deeper (envOfC nm (defScope st) s.heap.objs.size f cdv)) → sp vs H Q E →
      ∃ t, PSs (cxOf CX0 P w K mg base N nm (defScope st) f cdv A outer s H E).nox (defBody st) t ∧ t { nx := fun _ H' => Q .non H', rt := Q } (start N vs) H) : Met P w K mg base CX0 (k + 1) C m ps sp := by
  obtain ⟨f, fd, F, m, b⟩ := D
  exact ⟨f, fd, F.ok S len fun cdv A outer s H vs Q E => hbody f cdv A outer s H vs Q E, m, b⟩
theorem IsMet.metX {m nm : Str} {st : Stmt} {N ps : List Str} {k : Nat} {sp : Sp} (D : IsMet K C m nm st ps) (S : FnScope N ps (defScope st)) (len : ∀ vs H Q E, sp vs H Q E → vs.length = ps.length)
    (hbody : ∀ (f : Addr) (cdv : Value) (A : Around) (outer : List Env) (s : Shared) (H : Hp) (vs : List V) (Q : VK) (E : XK), Room k (A.deeper (envOfC nm (defScope st) s.heap.objs.size f cdv)) → sp vs H Q E →
      ∃ t, PSs (cxOf (L2.CX P w) P w K mg base N nm (defScope st) f cdv A outer s H E) (defBody st) t ∧ t { nx := fun _ H' => Q .non H', rt := Q } (start N vs) H) : Met P w K mg base (L2.CX P w) (k + 1) C m ps sp := by
  obtain ⟨f, fd, F, m, b⟩ := D
  exact ⟨f, fd, F.okX S len fun cdv A outer s H vs Q E => hbody f cdv A outer s H vs Q E, m, b⟩
end
/-! ### functions made within a def and handed on: their cells as the callee finds them -/
open LamX NdefX
theorem cellsAt_un {fs : List Addr} {cl : List (Str × Addr)} {fr : List Str} {ws : List (Option V)} {h h' : Heap} {H H' : Hp} (C : CellsAt cl fr ws h H) (U : Un fs [] H H' h h') : CellsAt cl fr ws h' H' := by
  have kp : ∀ y c, cl.lookup y = some c → ∀ v, h.IsCell c v → h'.IsCell c v := fun y c e v ⟨o, ho, hd⟩ => by
    obtain ⟨sl, q⟩ := U.any ho (C.all y c e).1 (by simp)
    exact ⟨_, q, hd⟩
  refine ⟨C.len, fun y c e => ?_, C.inj, fun i y e => ?_⟩
  · obtain ⟨n, v, z⟩ := C.all y c e
    refine ⟨?_, v, kp y c e v z⟩
    obtain ⟨o, ho, _⟩ := z
    exact U.free c o ho n (by simp)
  · obtain ⟨c, hc, hv⟩ := C.has i y e
    refine ⟨c, hc, fun v ev => ?_⟩
    obtain ⟨u, r, z⟩ := hv v ev
    exact ⟨u, r, kp y c hc _ z⟩
/-- the def x, handed a function whose cells are told beside, keeps the promise sp -/
structure CalC (P : Program) (w : World) (K : PySem.W.Frag) (mg : Str → Option Value) (base : Heap) (CX : CXT) (k : Nat) (x : Str) (ps : List Str) (cl : List (Str × Addr)) (fr : List Str) (ws : List (Option V)) (sp : Sp) : Prop where
  ex : ∃ (f : Addr), mg x = some (.ref f) ∧ PySem.W.keepIn K (.ref f) = true
  len : ∀ vs H Q E, sp vs H Q E → vs.length = ps.length
  run : ∀ (f : Addr), mg x = some (.ref f) → ∀ (A : Around) (outer : List Env) (s : Shared) (H : Hp) (us : List Value) (vs : List V) (Q : VK) (E : XK), Room k A → Env0 P w K mg base A outer s H → CellsAt cl fr ws s.heap H → Vals vs us → sp vs H Q E →
    codeAny (model P w) A (.call (.ref f) ⟨us, []⟩) (CR CX outer P w H s Q E) s
section
variable {P : Program} {w : World} {K : PySem.W.Frag} {mg : Str → Option Value} {base : Heap} {cl : List (Str × Addr)} {fr : List Str} {ws : List (Option V)}
theorem CalC.mono {CX : CXT} {j k : Nat} {x : Str} {ps : List Str} {sp : Sp} (c : CalC P w K mg base CX j x ps cl fr ws sp) (h : j ≤ k) : CalC P w K mg base CX k x ps cl fr ws sp :=
  ⟨c.ex, c.len, fun f m A outer s H us vs Q E hr => c.run f m A outer s H us vs Q E (hr.mono h)⟩
theorem calC_none {x : Str} {st : Stmt} {ps : List Str} {sp : Sp} {CX : CXT} {k : Nat} (D : IsDef K mg x st ps) (no : ∀ vs H Q E, ¬ sp vs H Q E) : CalC P w K mg base CX k x ps cl fr ws sp := by
  obtain ⟨f, fd, F, m, b⟩ := D
  exact ⟨⟨f, m, F.kp⟩, fun vs H Q E h => absurd h (no vs H Q E), fun f m A outer s H us vs Q E _ _ _ _ h => absurd h (no vs H Q E)⟩
theorem calC_any {ι : Sort _} {x : Str} {st : Stmt} {ps : List Str} {sp : ι → Sp} {CX : CXT} {k : Nat} (D : IsDef K mg x st ps) (h : ∀ i, CalC P w K mg base CX k x ps cl fr ws (sp i)) : CalC P w K mg base CX k x ps cl fr ws (fun vs H Q E => ∃ i, sp i vs H Q E) := by
  obtain ⟨f, fd, F, m, b⟩ := D
  exact ⟨⟨f, m, F.kp⟩, fun vs H Q E ⟨i, q⟩ => (h i).len vs H Q E q, fun f m A outer s H us vs Q E hr e0 C r ⟨i, q⟩ => (h i).run f m A outer s H us vs Q E hr e0 C r q⟩
theorem IsDef.calC {x : Str} {st : Stmt} {N ps : List Str} {k : Nat} {sp : Sp} (D : IsDef K mg x st ps) (S : FnScope N ps (defScope st)) (len : ∀ vs H Q E, sp vs H Q E → vs.length = ps.length)
    (hbody : ∀ (f : Addr) (cdv : Value) (A : Around) (outer : List Env) (s : Shared) (H : Hp) (vs : List V) (Q : VK) (E : XK), Room k (A.deeper (envOfC x (defScope st) s.heap.objs.size f cdv)) → CellsAt cl fr ws s.heap H → sp vs H Q E →
      ∃ t, PSs (cxOf (L2.CX P w) P w K mg base N x (defScope st) f cdv A outer s H E) (defBody st) t ∧ t { nx := fun _ H' => Q .non H', rt := Q } (start N vs) H) : CalC P w K mg base (L2.CX P w) (k + 1) x ps cl fr ws sp := by
  obtain ⟨f, fd, F, m, b⟩ := D
  refine ⟨⟨f, m, F.kp⟩, len, fun f' m' A outer s H us vs Q E hr e0 C r hsp => ?_⟩
  have ef : f' = f := Value.ref.inj (Option.some.inj (m'.symm.trans m))
  subst ef
  obtain ⟨oc, od, kV, doc, pm, an, cdv, ct, osl, rfl, lk, hcd⟩ := F.ex
  have KX : K.In s.heap := e0.mod.kin.keeps fun b o e => (e0.bs b o e).1
  have hl := len _ _ _ _ hsp
  have hb := b s us KX (by rw [List.append_nil, ← r.length]; exact hl)
  rw [List.append_nil] at hb
  exact run_ofS lk hcd S hr e0 hb r hl fun hr' => hbody f' cdv A outer s H vs Q E hr' C hsp
/-- a method whose code object is known -/
def IsMetC (K : PySem.W.Frag) (C : Addr) (m nm : Str) (st : Stmt) (ps : List Str) (c : Addr) : Prop := ∃ (f : Addr) (fd : FuncData) (oc : Value) (od : Option Addr) (kV doc pm : Value) (an : Option Addr) (ct : Value) (osl : Array (Option Value)),
    fd = PySem.W.fnOf m nm (defArgs st) (defBody st) (defScope st) .none kV doc pm an (.ref c) ct ∧ K.lookup f = some ⟨oc, od, .func fd, osl⟩ ∧ PySem.W.codeIn K (.ref c) nm = true ∧ Meth K C m f ∧ Binds K fd ps []
theorem IsMetC.metX {C c : Addr} {m nm : Str} {st : Stmt} {N ps : List Str} {k : Nat} {sp : Sp} (D : IsMetC K C m nm st ps c) (S : FnScope N ps (defScope st)) (len : ∀ vs H Q E, sp vs H Q E → vs.length = ps.length)
    (hbody : ∀ (f : Addr) (A : Around) (outer : List Env) (s : Shared) (H : Hp) (vs : List V) (Q : VK) (E : XK), Room k (A.deeper (envOfC nm (defScope st) s.heap.objs.size f (.ref c))) → sp vs H Q E →
      ∃ t, PSs (cxOf (L2.CX P w) P w K mg base N nm (defScope st) f (.ref c) A outer s H E) (defBody st) t ∧ t { nx := fun _ H' => Q .non H', rt := Q } (start N vs) H) : Met P w K mg base (L2.CX P w) (k + 1) C m ps sp := by
  obtain ⟨f, fd, oc, od, kV, doc, pm, an, ct, osl, rfl, lk, hcd, M, b⟩ := D
  exact ⟨f, _, fn_of lk hcd S len fun A outer s H vs Q E hr hsp => hbody f A outer s H vs Q E hr hsp, M, b⟩
theorem IsMetC.none {C c : Addr} {m nm : Str} {st : Stmt} {ps : List Str} {k : Nat} {sp : Sp} {CX : CXT} (D : IsMetC K C m nm st ps c) (no : ∀ vs H Q E, ¬ sp vs H Q E) : Met P w K mg base CX k C m ps sp := by
  obtain ⟨f, fd, oc, od, kV, doc, pm, an, ct, osl, rfl, lk, hcd, M, b⟩ := D
  exact ⟨f, _, ⟨fun vs H Q E h => absurd h (no vs H Q E), fun A outer s H args us vs Q E _ _ _ _ h => absurd h (no vs H Q E)⟩, M, b⟩
end
section
variable {X : Cx} {CX : CXT} {k j i : Nat} {ps fr : List Str} {cl : List (Str × Addr)} {ws : List (Option V)} {sp : Sp} {E : XK} {x : Str} {p pos : Pos} {e : Expr} {es : List Expr} {t : TA}
theorem cells_now {pins : List (Addr × Obj)} {σ : L2.St} {H : Hp} {s : Shared} (hex : X.ex = []) (C : CellsAt cl fr ws X.s_0.heap X.H_0) (I : Inv X pins σ H s) : CellsAt cl fr ws s.heap H := by
  have U := I.base
  rw [hex] at U
  exact cellsAt_un C U
theorem run_fnC {pins : List (Addr × Obj)} {σ : L2.St} {H : Hp} {s : Shared} {Q : VK} {f : Addr} {us : List Value} {vs : List V} (F : CalC X.prog X.w X.K X.mg X.base CX k x ps cl fr ws sp) (hm : X.mg x = some (.ref f)) (hr : Room k X.A) (hx : Passes CX X E)
    (I : Inv X pins σ H s) (C : CellsAt cl fr ws s.heap H) (r : Vals vs us) (h : sp vs H Q E) : wpAny (model X.prog X.w) X.A (call (.ref f) us) (EP X pins σ Q) X.xe s := by
  refine wpAny_call (codeAny_mono (F.run f hm X.A X.stack s H us vs Q E hr I.env0 C r h) fun r s' hq => ?_)
  cases r with
  | error e => exact hx pins σ H s e s' I hq
  | ok fl =>
    cases fl with
    | ret u => exact I.after hq
    | next => exact False.elim hq
    | brk => exact False.elim hq
    | cont => exact False.elim hq
/-- f(.., g) within a def that was handed g -/
theorem pe_callC (c : CalC X.prog X.w X.K X.mg X.base CX k x ps cl fr ws sp) (hex : X.ex = []) (C : CellsAt cl fr ws X.s_0.heap X.H_0) (hr : Room k X.A) (hx : Passes CX X E) (ha : PA X (e :: es) t) (hg : Gl X x := by rfl)
    (hdb : (x == ("__debug__" : Str)) = false := by decide) (he : starEach (e :: es) X.env = (false, eval e X.env) :: starEach es X.env := by rfl) (hpl : (backTo pos (starEach es X.env)).any (·.1) = false := by rfl) :
    PE X (.Call (.Name x p) (e :: es) [] pos) (tCall sp [] E t) := by
  obtain ⟨f, hm, hk⟩ := c.ex
  refine ⟨fun pins s σ H Q I h => ?_⟩
  refine wpAny_Call_Name_kw (ld_glob I hg hm ?_ hdb)
  refine PySem.W.callWith_K (h₀ := X.base) I.ok.mod.kin hk (thn (ha.run pos pins s σ H _ I h) fun us s1 ⟨vs, H1, I1, r, q⟩ => ⟨I1.kIn, ?_⟩) he hpl
  have q : sp (vs ++ []) H1 Q E := q
  rw [List.append_nil] at q
  exact run_fnC c hm hr hx I1 (cells_now hex C I1) r q
/-- the same within the def that makes g: its cells are this frame's -/
def tCallM (js : List Nat) (sp : List (Option V) → Sp) (E : XK) (t : TA) : TE := fun σ H Q => t σ H fun vs H1 => sp (js.map (slotAt σ)) vs H1 Q E
theorem pe_callM {js : List Nat} {sp : List (Option V) → Sp} (c : ∀ ws, CalC X.prog X.w X.K X.mg X.base CX k x ps cl fr ws (sp ws)) (cp : X.Ok → Caps X cl fr js) (hr : Room k X.A) (hx : Passes CX X E) (ha : PA X (e :: es) t) (hg : Gl X x := by rfl)
    (hdb : (x == ("__debug__" : Str)) = false := by decide) (he : starEach (e :: es) X.env = (false, eval e X.env) :: starEach es X.env := by rfl) (hpl : (backTo pos (starEach es X.env)).any (·.1) = false := by rfl) :
    PE X (.Call (.Name x p) (e :: es) [] pos) (tCallM js sp E t) := by
  refine ⟨fun pins s σ H Q I h => ?_⟩
  obtain ⟨f, hm, hk⟩ := (c (js.map (slotAt σ))).ex
  refine wpAny_Call_Name_kw (ld_glob I hg hm ?_ hdb)
  refine PySem.W.callWith_K (h₀ := X.base) I.ok.mod.kin hk (thn (ha.run pos pins s σ H _ I h) fun us s1 ⟨vs, H1, I1, r, q⟩ => ⟨I1.kIn, ?_⟩) he hpl
  exact run_fnC (c _) hm hr hx I1 (cells_of I1 (cp I1.ok)) r q
/-- g(..), g handed in -/
def tCallV (i : Nat) (f : Addr) (F : NF) (ws : List (Option V)) (sp : List (Option V) → Sp) (E : XK) (t : TA) : TE := fun σ H Q => σ[i]? = some (some (.ref f)) ∧ H f = some (FnO f F) ∧
  t σ H fun vs H1 => H1 f = some (FnO f F) ∧ H1 F.c = some (CodeO F.c F.qual) ∧ sp ws vs H1 Q E
theorem pe_callV {f : Addr} {F : NF} {sp : List (Option V) → Sp} (Fn : NOk X.prog X.w X.K X.mg X.base CX k f F ps fr sp) (hex : X.ex = []) (C : CellsAt F.cl fr ws X.s_0.heap X.H_0) (hr : Room j X.A) (hk : k ≤ j) (hx : Passes CX X E) (ha : PA X (e :: es) t)
    (hN : X.N[i]? = some x := by rfl) (hv : Vis X.env.scope x := by first | exact Or.inl rfl | exact Or.inr (Or.inl rfl) | exact Or.inr (Or.inr rfl))
    (hd : (x == ("__debug__" : Str)) = false := by decide) (hcd : (x == ("__classdict__" : Str)) = false := by decide)
    (he : starEach (e :: es) X.env = (false, eval e X.env) :: starEach es X.env := by rfl) (hpl : (backTo pos (starEach es X.env)).any (·.1) = false := by rfl) :
    PE X (.Call (.Name x p) (e :: es) [] pos) (tCallV i f F ws sp E t) := by
  refine ⟨fun pins s σ H Q I h => ?_⟩
  obtain ⟨hs, hf, ht⟩ := h
  refine wpAny_Call_Name_kw (thn ((pe_var (pos := p) hN hv hd hcd).run pins s σ H (fun v H1 => v = .ref f ∧ H1 = H) I ⟨.ref f, hs, rfl, rfl⟩) fun u s1 ⟨v, H1, I1, r1, q1⟩ => ?_)
  obtain ⟨ev, eH⟩ := q1
  subst ev
  rw [eH] at I1
  obtain rfl : u = Value.ref f := r1
  refine PySem.W.callWith_F (first := []) (fnAt_of I1 hf) (thn (ha.run pos pins s1 σ H _ I1 ht) fun us s2 ⟨vs, H2, I2, r, h1, h2, q⟩ => ⟨fnAt_of I2 h1, ?_⟩) he hpl
  show wpAny _ _ (call (.ref f) us) _ _ _
  refine wpAny_call (codeAny_mono (Fn.run X.A X.stack s2 H2 us vs _ Q E (hr.mono hk) I2.env0 h1 h2 (cells_now hex C I2) r q) fun r s' hq => ?_)
  cases r with
  | error e => exact hx pins σ H2 s2 e s' I2 hq
  | ok fl =>
    cases fl with
    | ret u => exact I2.after hq
    | next => exact False.elim hq
    | brk => exact False.elim hq
    | cont => exact False.elim hq
/-- o.f, .. = e -/
def gFld (K : PySem.W.Frag) (f : Str) (ta : TE) : TG := fun y σ H Q => ta σ H fun x H1 => ∃ a C dx fs, x = .ref a ∧ H1 a = some (.ins C dx fs) ∧ Cls K C ∧ NoAttr K C f ∧ fs.length < 1000 ∧ Q σ (upd H1 a (.ins C dx (putF f y fs)))
theorem pg_fld {o : Expr} {ta : TE} {f : Str} (ho : PE X o ta) (ha : ∀ v, assign (.Attribute o f pos) X.env v = (do
      let ov ← holding [v] (eval o X.env)
      standAt pos.atName
      holding [v, ov] (setAttr ov f v)
      release [v, ov] []) := by intro _; rfl) : PG X (.Attribute o f pos) (gFld X.K f ta) := by
  refine ⟨fun pins s σ H v u Q I r h => ?_⟩
  rw [ha]
  refine wpAny_bind (wpAny_holding (thn (ho.run pins s σ H _ I h) fun ov s1 ⟨x, H1, I1, r1, a, C, dx, fs, ex, ea, c, n, l, q⟩ => ?_))
  subst ex
  obtain rfl : ov = Value.ref a := r1
  refine wpAny_bind (wpAny_standAt (wpAny_bind (wpAny_holding (setattr_ok I1 ea c n l r fun s2 I2 => ?_))))
  exact wpAny_release ⟨σ, _, I2, q⟩
/-- the field n of a tracked error -/
def tXk (K : PySem.W.Frag) (n : Str) (te : TE) : TE := fun σ H Q => te σ H fun x H1 => ∃ (a C dd : Addr) (fs : List (Str × V)) (v : V), x = .ref a ∧ H1 a = some (EzO (.ref C) (some dd) a) ∧ XfC K C ∧ PySem.W.findIn K (.ref C) n = some none ∧ H1 dd = some (.xd fs) ∧ fs.lookup n = some v ∧ Q v H1
theorem pe_xk {n : Str} {te : TE} (he : PE X e te) (hb : attributeBase e n X.env (eval e X.env) = eval e X.env := by rfl) : PE X (.Attribute e n pos) (tXk X.K n te) := by
  refine ⟨fun pins s σ H Q I h => ?_⟩
  refine attr_of hb (thn (he.run pins s σ H _ I h) fun u s1 hh => ?_)
  obtain ⟨x, H1, I1, rx, a, C, dd, fs, v, ex, ha, T, hno, ea, l, q⟩ := hh
  subst ex
  obtain rfl : u = Value.ref a := rx
  obtain ⟨⟨oe, vs, hoe, hz, hd⟩, _⟩ := (show ObjOk X.prog X.w H1 s1.heap a (EzO (.ref C) (some dd) a) from I1.hok a _ ha)
  have hx : ObjOk X.prog X.w H1 s1.heap dd (.xd fs) := I1.hok dd _ ea
  obtain ⟨mA, hns, hr⟩ := hx
  obtain ⟨od, ho, hl⟩ := lookIn_ns hns
  obtain ⟨u, hu, ru⟩ := RelO.some_of (v := v) (o := mA n) (by rw [← l]; exact hr n)
  have J : PySem.W.InstAt s1.heap a oe C (some od) := ⟨hoe, hz.1, by unfold PySem.W.notCls; rw [hd] <;> rfl, by rw [hz.2]; exact ho⟩
  exact HandSPX.exc_get I1.kIn J T.ga T.gg T.exC (PySem.W.findObj_own T.hdC hno rfl (by rw [hl, hu])) (handed_of ru) ⟨v, H1, I1.tok _, ru, q⟩
/-- isinstance(e, T), e a tracked error with or without a dict of its own -/
def XdAt (H : Hp) (d : Option Addr) : Prop := match d with
  | none => True
  | some dd => ∃ fs, H dd = some (.xd fs)
def rIsXd (K : PySem.W.Frag) : List V → Hp → VK → Prop := fun xs H Q => ∃ (a D : Addr) (d : Option Addr) (c : V) (cv : Value) (b : Bool),
  xs = [.ref a, c] ∧ H a = some (EzO (.ref D) d a) ∧ XdAt H d ∧ ExcC K D ∧ ClsV c cv ∧ PySem.W.kitOne K (.ref D) cv = some b ∧ Q (.bl b) H
theorem ezO_instd {pins : List (Addr × Obj)} {σ : L2.St} {H : Hp} {s : Shared} {a D : Addr} {d : Option Addr} (I : Inv X pins σ H s) (h : H a = some (EzO (.ref D) d a)) (hd : XdAt H d) : ∃ oe od, PySem.W.InstAt s.heap a oe D od := by
  cases d with
  | none =>
    obtain ⟨oe, J⟩ := ezO_inst I h
    exact ⟨oe, none, J⟩
  | some dd =>
    obtain ⟨fs, ea⟩ := hd
    obtain ⟨⟨oe, vs, hoe, hz, hd⟩, _⟩ := (show ObjOk X.prog X.w H s.heap a (EzO (.ref D) (some dd) a) from I.hok a _ h)
    have hx : ObjOk X.prog X.w H s.heap dd (.xd fs) := I.hok dd _ ea
    obtain ⟨mA, hns, hr⟩ := hx
    obtain ⟨od, ho, hl⟩ := lookIn_ns hns
    exact ⟨oe, some od, hoe, hz.1, by unfold PySem.W.notCls; rw [hd] <;> rfl, by rw [hz.2]; exact ho⟩
theorem call_isXd : CallR X (.builtin "isinstance") (rIsXd X.K) := by
  intro pins s σ H xs us Q I r h
  obtain ⟨a, D, d, c, cv, b, rfl, hH, hd, C, k, e, q⟩ := h
  obtain ⟨u1, u2, rfl, r1, r2⟩ := vals2 r
  have e2 := k.eq r2
  subst e2
  cases r1
  obtain ⟨oe, od, J⟩ := ezO_instd I hH hd
  have hcl : (PySem.W.clsIn X.K D).isSome = true := by obtain ⟨cd, hc, _⟩ := PySem.W.any_some C.hd; rw [hc]; rfl
  exact PySem.W.kia_one (PySem.W.kitx_exc hcl C.hg C.hk C.hs C.ha C.hn C.ht C.hm) I.kIn J e (fun z => nomatch z)
    fun tk => ⟨.bl b, H, I.tok tk, rfl, q⟩
theorem call_isXdK {K : PySem.W.Frag} (h : X.K = K) : CallR X (.builtin "isinstance") (rIsXd K) := by
  subst h
  exact call_isXd
end
/-! ### dicts of names and numbers -/
theorem val_seen (s : List Nat) : ∀ l : List Pr, valV (numsK l) (kT (SX.S s)) = (seen l s).map V.int
  | [] => rfl
  | p :: l => by
    rw [seen_cons]
    by_cases c : p.1 = s
    · rw [show numsK (p :: l) = (kT (SX.S p.1), V.int p.2) :: numsK l from rfl, valV_pos (by rw [c]), if_pos c]
      rfl
    · rw [show numsK (p :: l) = (kT (SX.S p.1), V.int p.2) :: numsK l from rfl, valV_neg (fun z => c (kS_inj z)), val_seen s l, if_neg c]
theorem nums_put {l : List Pr} {s : List Nat} {v : Int} (h : seen l s = none) : putK (numsK l) (kT (SX.S s)) (.int v) = numsK (l ++ [(s, v)]) := by
  rw [putK_new _ (by rw [val_seen, h]; rfl)]
  unfold numsK
  rw [List.map_append]
  rfl
theorem numsK_len (l : List Pr) : (numsK l).length = l.length := by unfold numsK; rw [List.length_map]
/-! ### worth_by: a recipe's worth by what a handed function tells of names -/
open LamX NdefX
inductive XErr where
  | noName (s : List Nat)
  | ring (l : List (List Nat))
inductive OutR (S : Type) where
  | ok (v : Int) (s : S)
  | err (e : XErr)
def OutR.bind {S : Type} (r : OutR S) (f : Int → S → OutR S) : OutR S := match r with
  | .ok v s => f v s
  | .err e => .err e
theorem OutR.bind_ok {S : Type} {r : OutR S} {f : Int → S → OutR S} {v : Int} {s : S} (h : r.bind f = .ok v s) : ∃ x t, r = .ok x t ∧ f x t = .ok v s := by
  cases r with
  | ok x t => exact ⟨x, t, rfl, h⟩
  | err e => cases h
/-- a recipe gone through, each name's worth by lk -/
def wk {S : Type} (lk : S → List Nat → OutR S) : Rcp → S → OutR S
  | .num v, s => .ok v s
  | .read t, s => lk s t
  | .two k a b, s => (wk lk a s).bind fun x s1 => (wk lk b s1).bind fun y s2 => .ok (k.ap x y) s2
  | .pick a b c, s => (wk lk a s).bind fun x s1 => if x > 0 then wk lk b s1 else wk lk c s1
  | .choose a ns, s => (wk lk a s).bind fun x s1 => lk s1 (nthN ns x)
/-- names fine -/
def Rcp.Wn : Rcp → Prop
  | .num _ => True
  | .read s => Nm s
  | .two _ a b => a.Wn ∧ b.Wn
  | .pick a b c => a.Wn ∧ b.Wn ∧ c.Wn
  | .choose a ns => a.Wn ∧ Nms ns
theorem good_wn : ∀ {r : Rcp}, r.Good → r.Wn
  | .num _, _ => trivial
  | .read _, h => h
  | .two _ _ _, h => ⟨good_wn h.1, good_wn h.2⟩
  | .pick _ _ _, h => ⟨good_wn h.1, good_wn h.2.1, good_wn h.2.2⟩
  | .choose _ _, h => ⟨good_wn h.1, h.2⟩
/-- a bound of the bits of what a recipe comes to, the reads below 2 ^ b -/
def Rcp.bits (b : Nat) : Rcp → Nat
  | .num n => n.natAbs.log2 + 1
  | .read _ => b
  | .two .times x y => x.bits b + y.bits b
  | .two .most x y => max (x.bits b) (y.bits b)
  | .two _ x y => max (x.bits b) (y.bits b) + 1
  | .pick x y z => max (x.bits b) (max (y.bits b) (z.bits b))
  | .choose x _ => max (x.bits b) b
theorem bits_pos {b : Nat} (hb : 0 < b) : ∀ r : Rcp, 0 < r.bits b
  | .num _ => Nat.succ_pos _
  | .read _ => hb
  | .two k x y => by
    have hx := bits_pos hb x
    have hy := bits_pos hb y
    cases k <;> simp only [Rcp.bits] <;> omega
  | .pick x y z => by
    have hx := bits_pos hb x
    simp only [Rcp.bits]; omega
  | .choose x _ => by simp only [Rcp.bits]; omega
theorem bits_sub {b : Nat} {k : Kd} {x y : Rcp} : x.bits b ≤ (Rcp.two k x y).bits b ∧ y.bits b ≤ (Rcp.two k x y).bits b := by
  cases k <;> simp only [Rcp.bits] <;> omega
theorem pow_mono {a b n : Nat} (h : n < 2 ^ a) (le : a ≤ b) : n < 2 ^ b := Nat.lt_of_lt_of_le h (Nat.pow_le_pow_right (by decide) le)
theorem max_small {x y : Int} {b : Nat} (hx : x.natAbs < 2 ^ b) (hy : y.natAbs < 2 ^ b) : (if y > x then y else x).natAbs < 2 ^ b := by split <;> assumption
theorem ap_bits {b : Nat} {k : Kd} {x y : Rcp} {v w : Int} (hx : v.natAbs < 2 ^ x.bits b) (hy : w.natAbs < 2 ^ y.bits b) : (k.ap v w).natAbs < 2 ^ (Rcp.two k x y).bits b := by
  have hx' := pow_mono hx (Nat.le_max_left _ (y.bits b))
  have hy' := pow_mono hy (Nat.le_max_right (x.bits b) _)
  cases k with
  | plus =>
    show (v + w).natAbs < 2 ^ (max (x.bits b) (y.bits b) + 1)
    rw [Nat.pow_succ]
    omega
  | minus =>
    show (v - w).natAbs < 2 ^ (max (x.bits b) (y.bits b) + 1)
    rw [Nat.pow_succ]
    omega
  | times =>
    show (v * w).natAbs < 2 ^ (x.bits b + y.bits b)
    rw [Int.natAbs_mul, Nat.pow_add]
    exact Nat.mul_lt_mul'' hx hy
  | most => exact max_small hx' hy'
/-- what a recipe comes to, the worths of names by f: no memory -/
def Rcp.Ev (f : List Nat → Int → Prop) : Rcp → Int → Prop
  | .num n, v => v = n
  | .read t, v => f t v
  | .two k x y, v => ∃ a c, x.Ev f a ∧ y.Ev f c ∧ v = k.ap a c
  | .pick x y z, v => ∃ a, x.Ev f a ∧ ((a > 0 → y.Ev f v) ∧ (¬ a > 0 → z.Ev f v))
  | .choose x ns, v => ∃ a, x.Ev f a ∧ f (nthN ns a) v
/-- no product on the way is too great for the machine -/
def Rcp.Fit (f : List Nat → Int → Prop) : Rcp → Prop
  | .num _ => True
  | .read _ => True
  | .two k x y => x.Fit f ∧ ∀ a, x.Ev f a → y.Fit f ∧ ∀ c, y.Ev f c → k = .times → CMulW a c
  | .pick x y z => x.Fit f ∧ ∀ a, x.Ev f a → ((a > 0 → y.Fit f) ∧ (¬ a > 0 → z.Fit f))
  | .choose x _ => x.Fit f
theorem Rcp.Ev.mono {f g : List Nat → Int → Prop} (hg : ∀ t x, f t x → g t x) : ∀ {r : Rcp} {v : Int}, r.Ev f v → r.Ev g v
  | .num _, v, h => h
  | .read t, v, h => hg t v h
  | .two _ _ _, v, ⟨a, c, h1, h2, e⟩ => ⟨a, c, h1.mono hg, h2.mono hg, e⟩
  | .pick _ _ _, v, ⟨a, h1, h2, h3⟩ => ⟨a, h1.mono hg, fun c => (h2 c).mono hg, fun c => (h3 c).mono hg⟩
  | .choose _ _, v, ⟨a, h1, h2⟩ => ⟨a, h1.mono hg, hg _ _ h2⟩
theorem Rcp.Fit.mono {f g : List Nat → Int → Prop} (hg : ∀ t x, f t x → g t x) : ∀ {r : Rcp}, r.Fit g → r.Fit f
  | .num _, _ => trivial
  | .read _, _ => trivial
  | .two _ _ _, ⟨h1, h2⟩ => ⟨h1.mono hg, fun a ha => ⟨(h2 a (ha.mono hg)).1.mono hg, fun c hc => (h2 a (ha.mono hg)).2 c (hc.mono hg)⟩⟩
  | .pick _ _ _, ⟨h1, h2⟩ => ⟨h1.mono hg, fun a ha => ⟨fun c => ((h2 a (ha.mono hg)).1 c).mono hg, fun c => ((h2 a (ha.mono hg)).2 c).mono hg⟩⟩
  | .choose x _, h => Fit.mono (r := x) hg h
theorem Rcp.Ev.small {f : List Nat → Int → Prop} {b : Nat} (hf : ∀ t v, f t v → v.natAbs < 2 ^ b) : ∀ {r : Rcp} {v : Int}, r.Ev f v → v.natAbs < 2 ^ r.bits b
  | .num n, v, h => by
    rw [show v = n from h]
    exact Nat.lt_log2_self
  | .read t, v, h => hf t v h
  | .two k x y, v, h => by
    obtain ⟨a, c, h1, h2, rfl⟩ := h
    exact ap_bits (h1.small hf) (h2.small hf)
  | .pick x y z, v, h => by
    obtain ⟨a, h1, h2, h3⟩ := h
    by_cases c : a > 0
    · exact pow_mono ((h2 c).small hf) (by simp only [Rcp.bits]; omega)
    · exact pow_mono ((h3 c).small hf) (by simp only [Rcp.bits]; omega)
  | .choose x ns, v, h => by
    obtain ⟨a, h1, h2⟩ := h
    exact pow_mono (hf _ _ h2) (by simp only [Rcp.bits]; omega)
theorem Rcp.Fit.of_bits {f : List Nat → Int → Prop} {b : Nat} (hb : 0 < b) (hf : ∀ t v, f t v → v.natAbs < 2 ^ b) : ∀ {r : Rcp}, r.bits b ≤ 1000000 → r.Fit f
  | .num _, _ => trivial
  | .read _, _ => trivial
  | .two k x y, h => by
    have hs := bits_sub (b := b) (k := k) (x := x) (y := y)
    refine ⟨Fit.of_bits hb hf (by omega), fun a ha => ⟨Fit.of_bits hb hf (by omega), fun c hc e => ?_⟩⟩
    subst e
    exact wide_mul (ha.small hf) (hc.small hf) (bits_pos hb x) (bits_pos hb y) h
  | .pick x y z, h => by
    have e : (Rcp.pick x y z).bits b = max (x.bits b) (max (y.bits b) (z.bits b)) := rfl
    exact ⟨Fit.of_bits hb hf (by omega), fun a _ => ⟨fun _ => Fit.of_bits hb hf (by omega), fun _ => Fit.of_bits hb hf (by omega)⟩⟩
  | .choose x ns, h => by
    have e : (Rcp.choose x ns).bits b = max (x.bits b) b := rfl
    exact Fit.of_bits (r := x) hb hf (by omega)
section
variable {S : Type} {lk : S → List Nat → OutR S} {J : S → Prop} {f : List Nat → Int → Prop}
/-- what a look keeps -/
def LkOk (lk : S → List Nat → OutR S) (J : S → Prop) (f : List Nat → Int → Prop) : Prop := ∀ s t v s', J s → Nm t → lk s t = .ok v s' → J s' ∧ f t v
theorem wk_ok (hlk : LkOk lk J f) : ∀ {r : Rcp} {s s' : S} {v : Int}, r.Wn → J s → wk lk r s = .ok v s' → J s' ∧ r.Ev f v
  | .num n, s, s', v, _, hj, h => by
    cases h
    exact ⟨hj, rfl⟩
  | .read t, s, s', v, hw, hj, h => hlk s t v s' hj hw h
  | .two k x y, s, s', v, hw, hj, h => by
    obtain ⟨a, s1, h1, h2⟩ := OutR.bind_ok h
    obtain ⟨c, s2, h3, h4⟩ := OutR.bind_ok h2
    cases h4
    obtain ⟨j1, b1⟩ := wk_ok hlk hw.1 hj h1
    obtain ⟨j2, b2⟩ := wk_ok hlk hw.2 j1 h3
    exact ⟨j2, a, c, b1, b2, rfl⟩
  | .pick x y z, s, s', v, hw, hj, h => by
    obtain ⟨a, s1, h1, h2⟩ := OutR.bind_ok h
    obtain ⟨j1, b1⟩ := wk_ok hlk hw.1 hj h1
    by_cases c : a > 0
    · simp only [if_pos c] at h2
      obtain ⟨j2, b2⟩ := wk_ok hlk hw.2.1 j1 h2
      exact ⟨j2, a, b1, fun _ => b2, fun n => absurd c n⟩
    · simp only [if_neg c] at h2
      obtain ⟨j2, b2⟩ := wk_ok hlk hw.2.2 j1 h2
      exact ⟨j2, a, b1, fun n => absurd n c, fun _ => b2⟩
  | .choose x ns, s, s', v, hw, hj, h => by
    obtain ⟨a, s1, h1, h2⟩ := OutR.bind_ok h
    obtain ⟨j1, b1⟩ := wk_ok hlk hw.1 hj h1
    obtain ⟨i, _, hi⟩ := nth_mem hw.2.1 a
    obtain ⟨j2, b2⟩ := hlk s1 _ v s' j1 (hw.2.2.2 _ (List.mem_of_getElem? hi)) h2
    exact ⟨j2, a, b1, b2⟩
end
/-- how the memory changes while names are looked for: what is not the reckoner's stays -/
structure FrOk {S : Type} (At : S → Hp → Prop) (Fr : Hp → Hp → Prop) : Prop where
  refl : ∀ H, Fr H H
  trans : ∀ {A B C}, Fr A B → Fr B C → Fr A C
  keep : ∀ {s H H'}, At s H → Fr H H' → Keep H H'
  ext : ∀ {s H H' b phi}, At s H → Fr H H' → H b = some (.ext phi) → H' b = some (.ext phi)
def TellW {S : Type} (At : S → Hp → Prop) (Fr : Hp → Hp → Prop) (Er : XErr → XK → Hp → Prop) (Q : VK) (E : XK) (H : Hp) : OutR S → Prop
  | .ok v s => ∀ H', Fr H H' → At s H' → Q (.int v) H'
  | .err x => ∀ H', Fr H H' → Er x E H'
theorem TellW.from {S : Type} {At : S → Hp → Prop} {Fr : Hp → Hp → Prop} {Er : XErr → XK → Hp → Prop} {Q : VK} {E : XK} {H H1 : Hp} {o : OutR S} (F : FrOk At Fr) (h : TellW At Fr Er Q E H o) (f : Fr H H1) : TellW At Fr Er Q E H1 o := by
  cases o with
  | ok v s => exact fun H' g a => h H' (F.trans f g) a
  | err x => exact fun H' g => h H' (F.trans f g)
/-- the promise of the handed function -/
def spLk {S : Type} (At : S → Hp → Prop) (Fr : Hp → Hp → Prop) (Er : XErr → XK → Hp → Prop) (J : S → Prop) (lk : S → List Nat → OutR S) (WS : List (Option V)) : List (Option V) → Sp := fun ws vs H Q E => ws = WS ∧ ∃ (t : List Nat) (s : S), vs = [.str (SX.S t)] ∧ At s H ∧ J s ∧ Nm t ∧ TellW At Fr Er Q E H (lk s t)
def spWB {S : Type} (At : S → Hp → Prop) (Fr : Hp → Hp → Prop) (Er : XErr → XK → Hp → Prop) (J : S → Prop) (lk : S → List Nat → OutR S) (f : Addr) (F : NF) (g : List Nat → Int → Prop) (j : Nat) : Sp := fun vs H Q E => ∃ (v : V) (r : Rcp) (s : S), vs = [v, .ref f] ∧ Rec H r v ∧ r.Wn ∧ r.dep ≤ j ∧ r.Fit g ∧ At s H ∧ J s ∧
  H f = some (FnO f F) ∧ H F.c = some (CodeO F.c F.qual) ∧ TellW At Fr Er Q E H (wk lk r s)
def spPut : Sp := fun vs H Q _ => ∃ (k : Kd) (x y : Int), vs = [.str k.name, .int x, .int y] ∧ (k = .times → CMulW x y) ∧ Q (.int (k.ap x y)) H
theorem dep1 {k : Kd} {a b : Rcp} {j : Nat} (h : (Rcp.two k a b).dep ≤ j + 1) : a.dep ≤ j ∧ b.dep ≤ j := by
  have e : (Rcp.two k a b).dep = max a.dep b.dep + 1 := rfl
  omega
section
variable {P : Program} {w : World} {K : PySem.W.Frag} {mg : Str → Option Value} {base : Heap}
end
/-! ### the reckoner: plain facts -/
theorem sub_lenR {α : Type} [DecidableEq α] : ∀ {l m : List α}, l.Nodup → (∀ x ∈ l, x ∈ m) → l.length ≤ m.length
  | [], _, _, _ => Nat.zero_le _
  | a :: l, m, nd, h => by
    obtain ⟨h1, h2⟩ := List.nodup_cons.mp nd
    have ha := h a (List.mem_cons_self ..)
    have := sub_lenR (m := m.erase a) h2 fun x hx => (List.mem_erase_of_ne (fun e => h1 (by rw [← e]; exact hx))).mpr (h x (List.mem_cons_of_mem _ hx))
    rw [List.length_erase_of_mem ha] at this
    have : 0 < m.length := List.length_pos_of_mem ha
    show l.length + 1 ≤ m.length
    omega
abbrev RcpNm := List Nat × Rcp
structure House where
  given : List Pr
  recs : List RcpNm
def rcpOf (l : List RcpNm) (s : List Nat) : Option Rcp := (l.find? fun p => decide (p.1 = s)).map (·.2)
/-- worths known, what was read for them, what is being looked for -/
structure RkS where
  known : List Pr
  read : List (List Nat × List Pr)
  asked : List (List Nat)
/-- a key's worth put down, where it stood or behind -/
def putA {α : Type} (l : List (List Nat × α)) (s : List Nat) (v : α) : List (List Nat × α) := if (l.any fun p => decide (p.1 = s)) = true then l.map (fun p => if p.1 = s then (p.1, v) else p) else l ++ [(s, v)]
def setd (own : List Pr) (t : List Nat) (v : Int) : List Pr := match seen own t with
  | some _ => own
  | none => putA own t v
def lkOwn (lk : RkS → List Nat → OutR RkS) (p : RkS × List Pr) (t : List Nat) : OutR (RkS × List Pr) := match lk p.1 t with
  | .ok v s => .ok v (s, setd p.2 t v)
  | .err e => .err e
def lkR (h : House) : Nat → RkS → List Nat → OutR RkS
  | 0, _, _ => .err (.ring [])
  | n + 1, s, t => match seen s.known t with
    | some v => .ok v s
    | none => match seen h.given t with
      | some v => .ok v { s with known := putA s.known t v }
      | none => match rcpOf h.recs t with
        | none => .err (.noName t)
        | some r => if t ∈ s.asked then .err (.ring (s.asked.drop (s.asked.idxOf t) ++ [t])) else
          match wk (lkOwn (lkR h n)) r ({ s with asked := s.asked ++ [t] }, []) with
          | .ok v p => .ok v { known := putA p.1.known t v, read := putA p.1.read t p.2, asked := p.1.asked.dropLast }
          | .err e => .err e
theorem putA_new {α : Type} {l : List (List Nat × α)} {s : List Nat} (v : α) (h : ¬ s ∈ l.map (·.1)) : putA l s v = l ++ [(s, v)] := by
  unfold putA
  rw [if_neg]
  intro z
  obtain ⟨p, hp, e⟩ := List.any_eq_true.mp z
  exact h (List.mem_map.mpr ⟨p, hp, of_decide_eq_true e⟩)
theorem putA_keys {α : Type} (l : List (List Nat × α)) (s : List Nat) (v : α) : (putA l s v).map (·.1) = if s ∈ l.map (·.1) then l.map (·.1) else l.map (·.1) ++ [s] := by
  unfold putA
  by_cases h : s ∈ l.map (·.1)
  · rw [if_pos h, if_pos]
    · rw [List.map_map]
      refine List.map_congr_left fun p _ => ?_
      show (if p.1 = s then (p.1, v) else p).1 = p.1
      split <;> rfl
    · obtain ⟨p, hp, e⟩ := List.mem_map.mp h
      exact List.any_eq_true.mpr ⟨p, hp, decide_eq_true e⟩
  · rw [if_neg h, if_neg, List.map_append]
    · rfl
    · intro z
      obtain ⟨p, hp, e⟩ := List.any_eq_true.mp z
      exact h (List.mem_map.mpr ⟨p, hp, of_decide_eq_true e⟩)
theorem putA_len {α : Type} (l : List (List Nat × α)) (s : List Nat) (v : α) : (putA l s v).length = if s ∈ l.map (·.1) then l.length else l.length + 1 := by
  have := congrArg List.length (putA_keys l s v)
  rw [List.length_map] at this
  rw [this]
  split
  · rw [List.length_map]
  · rw [List.length_append, List.length_map]; rfl
theorem mem_putA {α : Type} {l : List (List Nat × α)} {s : List Nat} {v : α} {p : List Nat × α} (h : p ∈ putA l s v) : p = (s, v) ∨ p ∈ l := by
  unfold putA at h
  split at h
  · obtain ⟨q, hq, e⟩ := List.mem_map.mp h
    by_cases c : q.1 = s
    · rw [if_pos c] at e
      exact .inl (by rw [← e, c])
    · rw [if_neg c] at e
      exact .inr (e ▸ hq)
  · exact (List.mem_append.mp h).elim .inr fun h => .inl (List.mem_singleton.mp h)
theorem rcpOf_mem {l : List RcpNm} {s : List Nat} {r : Rcp} (h : rcpOf l s = some r) : (s, r) ∈ l := by
  unfold rcpOf at h
  cases e : l.find? fun p => decide (p.1 = s) with
  | none => rw [e] at h; cases h
  | some p =>
    rw [e] at h
    have h1 := List.mem_of_find?_eq_some e
    have h2 : p.1 = s := by
      have := List.find?_some e
      exact of_decide_eq_true this
    have h3 : p.2 = r := Option.some.inj h
    rw [← h2, ← h3]
    exact h1
/-! #### growth: how great the worths become -/
theorem bits_mono {a b : Nat} (h : a ≤ b) : ∀ r : Rcp, r.bits a ≤ r.bits b
  | .num _ => Nat.le_refl _
  | .read _ => h
  | .two k x y => by
    have hx := bits_mono h x
    have hy := bits_mono h y
    cases k <;> simp only [Rcp.bits] <;> omega
  | .pick x y z => by
    have hx := bits_mono h x
    have hy := bits_mono h y
    have hz := bits_mono h z
    simp only [Rcp.bits]; omega
  | .choose x _ => by
    have hx := bits_mono h x
    simp only [Rcp.bits]; omega
theorem putA_nd {α : Type} {l : List (List Nat × α)} {s : List Nat} {v : α} (h : (l.map (·.1)).Nodup) : ((putA l s v).map (·.1)).Nodup := by
  rw [putA_keys]
  split
  · exact h
  · rename_i c
    exact List.nodup_append.mpr ⟨h, List.nodup_cons.mpr ⟨(fun z => nomatch z), List.nodup_nil⟩, fun a ha b hb e => c (by rw [List.mem_singleton.mp hb] at e; rw [← e]; exact ha)⟩
theorem putA_mem {α : Type} {l : List (List Nat × α)} {s u : List Nat} {v : α} : u ∈ (putA l s v).map (·.1) ↔ u ∈ l.map (·.1) ∨ u = s := by
  rw [putA_keys]
  split
  · rename_i c
    exact ⟨.inl, fun h => h.elim id fun e => by rw [e]; exact c⟩
  · rw [List.mem_append, List.mem_singleton]
theorem mem_setd {own : List Pr} {t : List Nat} {v : Int} {q : Pr} (h : q ∈ setd own t v) : q = (t, v) ∨ q ∈ own := by
  unfold setd at h
  split at h
  · exact .inr h
  · exact mem_putA h
/-! ### worths by themselves: no memory of what was asked -/
theorem bind_okI {S : Type} {r : OutR S} {f : Int → S → OutR S} {x : Int} {s : S} (h : r = .ok x s) : r.bind f = f x s := by rw [h]; rfl
def dnL (f : List Nat → Option Int) (o : List Pr) (t : List Nat) : OutR (List Pr) := match f t with
  | some v => .ok v (setd o t v)
  | none => .err (.noName t)
def val (h : House) : Nat → List Nat → Option Int
  | 0, _ => none
  | n + 1, t => match seen h.given t with
    | some v => some v
    | none => match rcpOf h.recs t with
      | none => none
      | some r => match wk (dnL (val h n)) r [] with
        | .ok v _ => some v
        | .err _ => none
theorem dnL_ok {f : List Nat → Option Int} {o o' : List Pr} {t : List Nat} {v : Int} (h : dnL f o t = .ok v o') : f t = some v ∧ o' = setd o t v := by
  unfold dnL at h
  cases e : f t with
  | none => rw [e] at h; cases h
  | some x => rw [e] at h; cases h; exact ⟨rfl, rfl⟩
theorem dnL_some {f : List Nat → Option Int} {t : List Nat} {v : Int} (h : f t = some v) (o : List Pr) : dnL f o t = .ok v (setd o t v) := by unfold dnL; rw [h]
theorem seen_key {l : List Pr} {t : List Nat} {v : Int} (h : seen l t = some v) : t ∈ l.map (·.1) := List.mem_map.mpr ⟨_, seen_mem h, rfl⟩
theorem setd_keys {o : List Pr} {t u : List Nat} {v : Int} : u ∈ (setd o t v).map (·.1) ↔ u ∈ o.map (·.1) ∨ u = t := by
  unfold setd
  cases e : seen o t with
  | some x => exact ⟨.inl, fun h => h.elim id fun e2 => by rw [e2]; exact seen_key e⟩
  | none => exact putA_mem
/-- what is read grows; only what is read matters -/
theorem wk_agree {f : List Nat → Option Int} : ∀ {r : Rcp} {o o' : List Pr} {v : Int}, wk (dnL f) r o = .ok v o' → (∀ u ∈ o.map (·.1), u ∈ o'.map (·.1)) ∧ ∀ g : List Nat → Option Int, (∀ t x, f t = some x → t ∈ o'.map (·.1) → g t = some x) → wk (dnL g) r o = .ok v o' := by
  have look : ∀ {t : List Nat} {o o' : List Pr} {v : Int}, dnL f o t = .ok v o' → (∀ u ∈ o.map (·.1), u ∈ o'.map (·.1)) ∧ ∀ g : List Nat → Option Int, (∀ t x, f t = some x → t ∈ o'.map (·.1) → g t = some x) → dnL g o t = .ok v o' := by
    intro t o o' v h
    obtain ⟨e, rfl⟩ := dnL_ok h
    exact ⟨fun u hu => setd_keys.mpr (.inl hu), fun g hg => dnL_some (hg t v e (setd_keys.mpr (.inr rfl))) o⟩
  intro r
  induction r with
  | num n => intro o o' v h; cases h; exact ⟨fun _ h => h, fun g _ => rfl⟩
  | read t => exact fun h => look h
  | two k a b ia ib =>
    intro o o' v h
    obtain ⟨x, o1, h1, h2⟩ := OutR.bind_ok h
    obtain ⟨y, o2, h3, h4⟩ := OutR.bind_ok h2
    cases h4
    obtain ⟨k1, g1⟩ := ia h1
    obtain ⟨k2, g2⟩ := ib h3
    exact ⟨fun u hu => k2 u (k1 u hu), fun g hg => by
      show (wk (dnL g) a o).bind _ = _
      rw [bind_okI (g1 g fun t x e ht => hg t x e (k2 t ht)), bind_okI (g2 g hg)]⟩
  | pick a b c ia ib ic =>
    intro o o' v h
    obtain ⟨x, o1, h1, h2⟩ := OutR.bind_ok h
    obtain ⟨k1, g1⟩ := ia h1
    by_cases z : x > 0
    · simp only [if_pos z] at h2
      obtain ⟨k2, g2⟩ := ib h2
      exact ⟨fun u hu => k2 u (k1 u hu), fun g hg => by
        show (wk (dnL g) a o).bind _ = _
        rw [bind_okI (g1 g fun t x e ht => hg t x e (k2 t ht)), if_pos z, g2 g hg]⟩
    · simp only [if_neg z] at h2
      obtain ⟨k2, g2⟩ := ic h2
      exact ⟨fun u hu => k2 u (k1 u hu), fun g hg => by
        show (wk (dnL g) a o).bind _ = _
        rw [bind_okI (g1 g fun t x e ht => hg t x e (k2 t ht)), if_neg z, g2 g hg]⟩
  | choose a ns ia =>
    intro o o' v h
    obtain ⟨x, o1, h1, h2⟩ := OutR.bind_ok h
    obtain ⟨k1, g1⟩ := ia h1
    obtain ⟨k2, g2⟩ := look h2
    exact ⟨fun u hu => k2 u (k1 u hu), fun g hg => by
      show (wk (dnL g) a o).bind _ = _
      rw [bind_okI (g1 g fun t x e ht => hg t x e (k2 t ht)), g2 g hg]⟩
theorem wk_mono {f g : List Nat → Option Int} (hg : ∀ t x, f t = some x → g t = some x) {r : Rcp} {o o' : List Pr} {v : Int} (h : wk (dnL f) r o = .ok v o') : wk (dnL g) r o = .ok v o' := (wk_agree h).2 g fun t x e _ => hg t x e
/-- what is read was told by f -/
theorem wk_told {f : List Nat → Option Int} : ∀ {r : Rcp} {o o' : List Pr} {v : Int}, (∀ p ∈ o, f p.1 = some p.2) → wk (dnL f) r o = .ok v o' → ∀ p ∈ o', f p.1 = some p.2 := by
  have look : ∀ {t : List Nat} {o o' : List Pr} {v : Int}, (∀ p ∈ o, f p.1 = some p.2) → dnL f o t = .ok v o' → ∀ p ∈ o', f p.1 = some p.2 := by
    intro t o o' v ho h p hp
    obtain ⟨e, rfl⟩ := dnL_ok h
    rcases mem_setd hp with rfl | hp
    · exact e
    · exact ho p hp
  intro r
  induction r with
  | num n => intro o o' v ho h; cases h; exact ho
  | read t => exact fun ho h => look ho h
  | two k a b ia ib =>
    intro o o' v ho h
    obtain ⟨x, o1, h1, h2⟩ := OutR.bind_ok h
    obtain ⟨y, o2, h3, h4⟩ := OutR.bind_ok h2
    cases h4
    exact ib (ia ho h1) h3
  | pick a b c ia ib ic =>
    intro o o' v ho h
    obtain ⟨x, o1, h1, h2⟩ := OutR.bind_ok h
    by_cases z : x > 0
    · simp only [if_pos z] at h2
      exact ib (ia ho h1) h2
    · simp only [if_neg z] at h2
      exact ic (ia ho h1) h2
  | choose a ns ia =>
    intro o o' v ho h
    obtain ⟨x, o1, h1, h2⟩ := OutR.bind_ok h
    exact look (ia ho h1) h2
theorem setd_nd {o : List Pr} {t : List Nat} {v : Int} (h : (o.map (·.1)).Nodup) : ((setd o t v).map (·.1)).Nodup := by
  unfold setd
  cases e : seen o t with
  | some x => exact h
  | none => exact putA_nd h
theorem wk_nd {f : List Nat → Option Int} : ∀ {r : Rcp} {o o' : List Pr} {v : Int}, (o.map (·.1)).Nodup → wk (dnL f) r o = .ok v o' → (o'.map (·.1)).Nodup := by
  have look : ∀ {t : List Nat} {o o' : List Pr} {v : Int}, (o.map (·.1)).Nodup → dnL f o t = .ok v o' → (o'.map (·.1)).Nodup := by
    intro t o o' v ho h
    obtain ⟨e, rfl⟩ := dnL_ok h
    exact setd_nd ho
  intro r
  induction r with
  | num n => intro o o' v ho h; cases h; exact ho
  | read t => exact fun ho h => look ho h
  | two k a b ia ib =>
    intro o o' v ho h
    obtain ⟨x, o1, h1, h2⟩ := OutR.bind_ok h
    obtain ⟨y, o2, h3, h4⟩ := OutR.bind_ok h2
    cases h4
    exact ib (ia ho h1) h3
  | pick a b c ia ib ic =>
    intro o o' v ho h
    obtain ⟨x, o1, h1, h2⟩ := OutR.bind_ok h
    by_cases z : x > 0
    · simp only [if_pos z] at h2
      exact ib (ia ho h1) h2
    · simp only [if_neg z] at h2
      exact ic (ia ho h1) h2
  | choose a ns ia =>
    intro o o' v ho h
    obtain ⟨x, o1, h1, h2⟩ := OutR.bind_ok h
    exact look (ia ho h1) h2
theorem val_succ {h : House} {n : Nat} {t : List Nat} : val h (n + 1) t = match seen h.given t with
    | some v => some v
    | none => match rcpOf h.recs t with
      | none => none
      | some r => match wk (dnL (val h n)) r [] with
        | .ok v _ => some v
        | .err _ => none := rfl
theorem val_mono {h : House} : ∀ {n : Nat} {t : List Nat} {v : Int}, val h n t = some v → val h (n + 1) t = some v
  | 0, t, v, e => by cases e
  | n + 1, t, v, e => by
    rw [val_succ] at e ⊢
    cases e1 : seen h.given t with
    | some x => rw [e1] at e; exact e
    | none =>
      rw [e1] at e
      cases e2 : rcpOf h.recs t with
      | none => rw [e2] at e; cases e
      | some r =>
        rw [e2] at e
        cases e3 : wk (dnL (val h n)) r [] with
        | err x => simp only [e3] at e; cases e
        | ok w o =>
          simp only [e3] at e
          simp only [wk_mono (fun t x e => val_mono e) e3]
          exact e
theorem val_le {h : House} {t : List Nat} {v : Int} {n m : Nat} (le : n ≤ m) (e : val h n t = some v) : val h m t = some v := by
  induction le with
  | refl => exact e
  | step _ ih => exact val_mono ih
def Val (h : House) (t : List Nat) (v : Int) : Prop := ∃ n, val h n t = some v
theorem Val.det {h : House} {t : List Nat} {v w : Int} (a : Val h t v) (b : Val h t w) : v = w := by
  obtain ⟨n, a⟩ := a
  obtain ⟨m, b⟩ := b
  have := (val_le (Nat.le_max_left n m) a).symm.trans (val_le (Nat.le_max_right n m) b)
  exact Option.some.inj this
def Rds (h : House) (t : List Nat) (own : List Pr) : Prop := seen h.given t = none ∧ ∃ r n v, rcpOf h.recs t = some r ∧ wk (dnL (val h n)) r [] = .ok v own
theorem Rds.det {h : House} {t : List Nat} {v w : List Pr} (a : Rds h t v) (b : Rds h t w) : v = w := by
  obtain ⟨_, r, n, x, e1, a⟩ := a
  obtain ⟨_, r2, m, y, e2, b⟩ := b
  obtain rfl : r = r2 := Option.some.inj (e1.symm.trans e2)
  have := (wk_mono (fun _ _ e => val_le (Nat.le_max_left n m) e) a).symm.trans (wk_mono (fun _ _ e => val_le (Nat.le_max_right n m) e) b)
  cases this
  rfl
theorem Rds.val {h : House} {t : List Nat} {own : List Pr} (a : Rds h t own) : ∀ p ∈ own, Val h p.1 p.2 := by
  obtain ⟨_, r, n, x, e1, a⟩ := a
  exact fun p hp => ⟨n, wk_told (fun p (h : p ∈ ([] : List Pr)) => nomatch h) a p hp⟩
theorem Rds.nd {h : House} {t : List Nat} {own : List Pr} (a : Rds h t own) : (own.map (·.1)).Nodup := by
  obtain ⟨_, r, n, x, e1, a⟩ := a
  exact wk_nd (o := []) List.nodup_nil a
theorem Val.given {h : House} {t : List Nat} {v : Int} (e : seen h.given t = some v) : Val h t v := ⟨1, by rw [val_succ, e]⟩
theorem Val.work {h : House} {t : List Nat} {v : Int} {r : Rcp} {n : Nat} {own : List Pr} (e : seen h.given t = none) (e2 : rcpOf h.recs t = some r) (e3 : wk (dnL (val h n)) r [] = .ok v own) : Val h t v := ⟨n + 1, by rw [val_succ, e, e2]; simp only [e3]⟩
/-- a name with a worth is given, or worked with what it reads -/
theorem Val.rds {h : House} {t : List Nat} {v : Int} (a : Val h t v) (e : seen h.given t = none) : ∃ own, Rds h t own ∧ ∃ r n, rcpOf h.recs t = some r ∧ wk (dnL (val h n)) r [] = .ok v own := by
  obtain ⟨n, a⟩ := a
  cases n with
  | zero => cases a
  | succ n =>
    rw [val_succ, e] at a
    cases e2 : rcpOf h.recs t with
    | none => rw [e2] at a; cases a
    | some r =>
      rw [e2] at a
      cases e3 : wk (dnL (val h n)) r [] with
      | err x => simp only [e3] at a; cases a
      | ok w o =>
        simp only [e3] at a
        cases a
        exact ⟨o, ⟨e, r, n, v, e2, e3⟩, r, n, rfl, e3⟩
theorem Ev_wk {h : House} : ∀ {r : Rcp} {v : Int}, r.Ev (Val h) v → ∀ o, ∃ n o', wk (dnL (val h n)) r o = .ok v o'
  | .num n, v, e, o => ⟨0, o, by rw [show v = n from e]; rfl⟩
  | .read t, v, ⟨n, e⟩, o => ⟨n, _, dnL_some e o⟩
  | .two k x y, v, ⟨a, c, h1, h2, e⟩, o => by
    obtain ⟨n1, o1, g1⟩ := Ev_wk h1 o
    obtain ⟨n2, o2, g2⟩ := Ev_wk h2 o1
    refine ⟨max n1 n2, o2, ?_⟩
    show (wk (dnL _) x o).bind _ = _
    rw [bind_okI (wk_mono (fun _ _ e => val_le (Nat.le_max_left _ _) e) g1), bind_okI (wk_mono (fun _ _ e => val_le (Nat.le_max_right _ _) e) g2), e]
  | .pick x y z, v, ⟨a, h1, h2, h3⟩, o => by
    obtain ⟨n1, o1, g1⟩ := Ev_wk h1 o
    by_cases c : a > 0
    · obtain ⟨n2, o2, g2⟩ := Ev_wk (h2 c) o1
      refine ⟨max n1 n2, o2, ?_⟩
      show (wk (dnL _) x o).bind _ = _
      rw [bind_okI (wk_mono (fun _ _ e => val_le (Nat.le_max_left _ _) e) g1), if_pos c, wk_mono (fun _ _ e => val_le (Nat.le_max_right _ _) e) g2]
    · obtain ⟨n2, o2, g2⟩ := Ev_wk (h3 c) o1
      refine ⟨max n1 n2, o2, ?_⟩
      show (wk (dnL _) x o).bind _ = _
      rw [bind_okI (wk_mono (fun _ _ e => val_le (Nat.le_max_left _ _) e) g1), if_neg c, wk_mono (fun _ _ e => val_le (Nat.le_max_right _ _) e) g2]
  | .choose x ns, v, ⟨a, h1, n2, e⟩, o => by
    obtain ⟨n1, o1, g1⟩ := Ev_wk h1 o
    refine ⟨max n1 n2, setd o1 (nthN ns a) v, ?_⟩
    show (wk (dnL _) x o).bind _ = _
    rw [bind_okI (wk_mono (fun _ _ e => val_le (Nat.le_max_left _ _) e) g1), dnL_some (val_le (Nat.le_max_right _ _) e) o1]
theorem wk_ev {f : List Nat → Option Int} : ∀ {r : Rcp} {o o' : List Pr} {v : Int}, wk (dnL f) r o = .ok v o' → r.Ev (fun t x => f t = some x ∧ t ∈ o'.map (·.1)) v := by
  have look : ∀ {t : List Nat} {o o' : List Pr} {v : Int}, dnL f o t = .ok v o' → f t = some v ∧ t ∈ o'.map (·.1) := by
    intro t o o' v h
    obtain ⟨e, rfl⟩ := dnL_ok h
    exact ⟨e, setd_keys.mpr (.inr rfl)⟩
  intro r
  induction r with
  | num n => intro o o' v h; cases h; rfl
  | read t => exact fun h => look h
  | two k a b ia ib =>
    intro o o' v h
    obtain ⟨x, o1, h1, h2⟩ := OutR.bind_ok h
    obtain ⟨y, o2, h3, h4⟩ := OutR.bind_ok h2
    cases h4
    have k2 := (wk_agree h3).1
    exact ⟨x, y, (ia h1).mono fun t x e => ⟨e.1, k2 t e.2⟩, ib h3, rfl⟩
  | pick a b c ia ib ic =>
    intro o o' v h
    obtain ⟨x, o1, h1, h2⟩ := OutR.bind_ok h
    by_cases z : x > 0
    · simp only [if_pos z] at h2
      have k2 := (wk_agree h2).1
      exact ⟨x, (ia h1).mono fun t x e => ⟨e.1, k2 t e.2⟩, fun _ => ib h2, fun n => absurd z n⟩
    · simp only [if_neg z] at h2
      have k2 := (wk_agree h2).1
      exact ⟨x, (ia h1).mono fun t x e => ⟨e.1, k2 t e.2⟩, fun n => absurd n z, fun _ => ic h2⟩
  | choose a ns ia =>
    intro o o' v h
    obtain ⟨x, o1, h1, h2⟩ := OutR.bind_ok h
    obtain ⟨e, rfl⟩ := dnL_ok h2
    exact ⟨x, (ia h1).mono fun t x e => ⟨e.1, setd_keys.mpr (.inl e.2)⟩, e, setd_keys.mpr (.inr rfl)⟩
theorem Val.work_ev {h : House} {t : List Nat} {v : Int} {r : Rcp} (e : seen h.given t = none) (e2 : rcpOf h.recs t = some r) (e3 : r.Ev (Val h) v) : Val h t v := by
  obtain ⟨n, o, g⟩ := Ev_wk e3 []
  exact .work e e2 g
/-- a house of good names and recipes -/
structure HouseN (dm : Nat) (h : House) (beta : Nat → Nat) : Prop where
  rcp : ∀ p ∈ h.recs, Nm p.1 ∧ p.2.Wn ∧ p.2.dep ≤ dm
  gvn : ∀ p ∈ h.given, Nm p.1
/-- no product on the way is too great for the machine -/
structure HouseOk (dm : Nat) (h : House) (beta : Nat → Nat) : Prop where
  n : HouseN dm h beta
  fit : ∀ p ∈ h.recs, seen h.given p.1 = none → p.2.Fit (Val h)
theorem HouseOk.rcp {dm : Nat} {h : House} {beta : Nat → Nat} (H : HouseOk dm h beta) : ∀ p ∈ h.recs, Nm p.1 ∧ p.2.Wn ∧ p.2.dep ≤ dm := H.n.rcp
def emptyS : RkS := ⟨[], [], []⟩
structure RkOk (h : House) (beta : Nat → Nat) (s : RkS) : Prop where
  nd : (s.asked ++ s.read.map (·.1)).Nodup
  sub : ∀ t ∈ s.asked ++ s.read.map (·.1), t ∈ h.recs.map (·.1)
  val : ∀ p ∈ s.known, Nm p.1 ∧ Val h p.1 p.2
  rds : ∀ p ∈ s.read, ∀ q ∈ p.2, Nm q.1
  kn : ∀ t ∈ s.read.map (·.1), t ∈ s.known.map (·.1)
  kd : (s.known.map (·.1)).Nodup
  ks : ∀ t ∈ s.known.map (·.1), t ∈ h.given.map (·.1) ++ h.recs.map (·.1)
theorem RkOk.len {h : House} {beta : Nat → Nat} {s : RkS} (o : RkOk h beta s) : s.asked.length + s.read.length ≤ h.recs.length := by
  have := sub_lenR o.nd o.sub
  rw [List.length_append, List.length_map, List.length_map] at this
  exact this
theorem RkOk.klen {h : House} {beta : Nat → Nat} {s : RkS} (o : RkOk h beta s) : s.known.length ≤ h.given.length + h.recs.length := by
  have := sub_lenR o.kd o.ks
  rw [List.length_append, List.length_map, List.length_map, List.length_map] at this
  exact this
/-- what one look for t does to a state -/
structure Step (h : House) (beta : Nat → Nat) (s : RkS) (t : List Nat) (v : Int) (s' : RkS) : Prop where
  ok : RkOk h beta s'
  mono : ∀ u ∈ s.known.map (·.1), u ∈ s'.known.map (·.1)
  got : t ∈ s'.known.map (·.1)
  asked : s'.asked = s.asked
  le : s.read.length ≤ s'.read.length
  worth : Val h t v
/-- what a recipe has read so far -/
structure OwnOk (beta : Nat → Nat) (s : RkS) (own : List Pr) : Prop where
  nd : (own.map (·.1)).Nodup
  kn : ∀ u ∈ own.map (·.1), u ∈ s.known.map (·.1)
  sm : ∀ q ∈ own, Nm q.1
theorem OwnOk.nil (beta : Nat → Nat) (s : RkS) : OwnOk beta s [] := ⟨List.nodup_nil, (fun _ h => nomatch h), fun _ h => nomatch h⟩
theorem OwnOk.len {h : House} {beta : Nat → Nat} {s : RkS} {own : List Pr} (o : OwnOk beta s own) (k : RkOk h beta s) : own.length ≤ h.given.length + h.recs.length := by
  have := sub_lenR o.nd o.kn
  rw [List.length_map, List.length_map] at this
  exact Nat.le_trans this k.klen
theorem seen_at {l : List Pr} (nd : (l.map (·.1)).Nodup) {i : Nat} {p : Pr} (h : l[i]? = some p) : seen l p.1 = some p.2 := by
  induction l generalizing i with
  | nil => simp at h
  | cons a l ih =>
    obtain ⟨n1, n2⟩ := List.nodup_cons.mp nd
    rw [seen_cons]
    cases i with
    | zero =>
      have : a = p := by simpa using h
      rw [if_pos (by rw [this]), this]
    | succ i =>
      have h' : l[i]? = some p := by simpa using h
      rw [if_neg (fun e => n1 (by show a.1 ∈ _; rw [e]; exact List.mem_map.mpr ⟨p, List.mem_of_getElem? h', rfl⟩)), ih n2 h']
theorem OwnOk.seen_at {beta : Nat → Nat} {s : RkS} {own : List Pr} (o : OwnOk beta s own) {i : Nat} {p : Pr} (h : own[i]? = some p) : seen own p.1 = some p.2 := Mad.seen_at o.nd h
theorem OwnOk.look {h : House} {beta : Nat → Nat} {s s' : RkS} {own : List Pr} {t : List Nat} {v : Int} (o : OwnOk beta s own) (ht : Nm t) (st : Step h beta s t v s') : OwnOk beta s' (setd own t v) := by
  have old : OwnOk beta s' own := ⟨o.nd, fun u hu => st.mono u (o.kn u hu), o.sm⟩
  unfold setd
  split
  · exact old
  · refine ⟨putA_nd old.nd, fun u hu => ?_, fun q hq => ?_⟩
    · rcases putA_mem.mp hu with hu | rfl
      · exact old.kn u hu
      · exact st.got
    · rcases mem_putA hq with rfl | hq
      · exact ht
      · exact old.sm q hq
theorem wk_step {h : House} {beta : Nat → Nat} {lk : RkS → List Nat → OutR RkS} {A : List (List Nat)} (hlk : ∀ s t v s', RkOk h beta s → s.asked = A → Nm t → lk s t = .ok v s' → Step h beta s t v s') :
    ∀ {r : Rcp} {p p' : RkS × List Pr} {v : Int}, r.Wn → RkOk h beta p.1 → p.1.asked = A → OwnOk beta p.1 p.2 → wk (lkOwn lk) r p = .ok v p' →
      RkOk h beta p'.1 ∧ p'.1.asked = A ∧ (p.1.read.length ≤ p'.1.read.length ∧ ∀ u ∈ p.1.known.map (·.1), u ∈ p'.1.known.map (·.1)) ∧ OwnOk beta p'.1 p'.2 ∧ r.Ev (Val h) v := by
  have look : ∀ {t : List Nat} {p p' : RkS × List Pr} {v : Int}, Nm t → RkOk h beta p.1 → p.1.asked = A → OwnOk beta p.1 p.2 → lkOwn lk p t = .ok v p' →
      RkOk h beta p'.1 ∧ p'.1.asked = A ∧ (p.1.read.length ≤ p'.1.read.length ∧ ∀ u ∈ p.1.known.map (·.1), u ∈ p'.1.known.map (·.1)) ∧ OwnOk beta p'.1 p'.2 ∧ Val h t v := by
    intro t p p' v ht ho ha hq e
    unfold lkOwn at e
    cases e1 : lk p.1 t with
    | err x => rw [e1] at e; cases e
    | ok w s =>
      rw [e1] at e
      cases e
      have st := hlk p.1 t v s ho ha ht e1
      exact ⟨st.ok, st.asked.trans ha, ⟨st.le, st.mono⟩, hq.look ht st, st.worth⟩
  intro r
  induction r with
  | num n =>
    intro p p' v _ ho ha hq e
    cases e
    exact ⟨ho, ha, ⟨Nat.le_refl _, fun _ h => h⟩, hq, rfl⟩
  | read t => exact fun hw ho ha hq e => look hw ho ha hq e
  | two k x y ix iy =>
    intro p p' v hw ho ha hq e
    obtain ⟨a, p1, h1, h2⟩ := OutR.bind_ok e
    obtain ⟨c, p2, h3, h4⟩ := OutR.bind_ok h2
    cases h4
    obtain ⟨o1, a1, l1, q1, b1⟩ := ix hw.1 ho ha hq h1
    obtain ⟨o2, a2, l2, q2, b2⟩ := iy hw.2 o1 a1 q1 h3
    exact ⟨o2, a2, ⟨Nat.le_trans l1.1 l2.1, fun u hu => l2.2 u (l1.2 u hu)⟩, q2, a, c, b1, b2, rfl⟩
  | pick x y z ix iy iz =>
    intro p p' v hw ho ha hq e
    obtain ⟨a, p1, h1, h2⟩ := OutR.bind_ok e
    obtain ⟨o1, a1, l1, q1, b1⟩ := ix hw.1 ho ha hq h1
    by_cases c : a > 0
    · simp only [if_pos c] at h2
      obtain ⟨o2, a2, l2, q2, b2⟩ := iy hw.2.1 o1 a1 q1 h2
      exact ⟨o2, a2, ⟨Nat.le_trans l1.1 l2.1, fun u hu => l2.2 u (l1.2 u hu)⟩, q2, a, b1, fun _ => b2, fun n => absurd c n⟩
    · simp only [if_neg c] at h2
      obtain ⟨o2, a2, l2, q2, b2⟩ := iz hw.2.2 o1 a1 q1 h2
      exact ⟨o2, a2, ⟨Nat.le_trans l1.1 l2.1, fun u hu => l2.2 u (l1.2 u hu)⟩, q2, a, b1, fun n => absurd n c, fun _ => b2⟩
  | choose x ns ix =>
    intro p p' v hw ho ha hq e
    obtain ⟨a, p1, h1, h2⟩ := OutR.bind_ok e
    obtain ⟨o1, a1, l1, q1, b1⟩ := ix hw.1 ho ha hq h1
    obtain ⟨i, _, hi⟩ := nth_mem hw.2.1 a
    obtain ⟨o2, a2, l2, q2, b2⟩ := look (hw.2.2.2 _ (List.mem_of_getElem? hi)) o1 a1 q1 h2
    exact ⟨o2, a2, ⟨Nat.le_trans l1.1 l2.1, fun u hu => l2.2 u (l1.2 u hu)⟩, q2, a, b1, b2⟩
theorem RkOk.ask {h : House} {beta : Nat → Nat} {s : RkS} (ho : RkOk h beta s) {t : List Nat} {r : Rcp} (e3 : rcpOf h.recs t = some r) (e1 : seen s.known t = none) (c : ¬ t ∈ s.asked) : RkOk h beta { s with asked := s.asked ++ [t] } ∧ ¬ t ∈ s.read.map (·.1) := by
  have ct : ¬ t ∈ s.read.map (·.1) := fun z => seen_none e1 (ho.kn t z)
  refine ⟨⟨?_, fun u hu => ?_, ho.val, ho.rds, ho.kn, ho.kd, ho.ks⟩, ct⟩
  · show ((s.asked ++ [t]) ++ s.read.map (·.1)).Nodup
    have : ((s.asked ++ [t]) ++ s.read.map (·.1)).Perm (t :: (s.asked ++ s.read.map (·.1))) := by
      rw [List.append_assoc]
      exact List.perm_middle
    exact this.nodup_iff.mpr (List.nodup_cons.mpr ⟨fun z => (List.mem_append.mp z).elim c ct, ho.nd⟩)
  · have hu : u ∈ (s.asked ++ [t]) ++ s.read.map (·.1) := hu
    rcases List.mem_append.mp hu with hu | hu
    · rcases List.mem_append.mp hu with hu | hu
      · exact ho.sub u (List.mem_append_left _ hu)
      · rw [List.mem_singleton.mp hu]
        exact List.mem_map.mpr ⟨_, rcpOf_mem e3, rfl⟩
    · exact ho.sub u (List.mem_append_right _ hu)
/-- behind the work of t: it is settled -/
theorem RkOk.done {dm : Nat} {h : House} {beta : Nat → Nat} (H : HouseN dm h beta) {A : List (List Nat)} {s : RkS} (ho : RkOk h beta s) {t : List Nat} {r : Rcp} {own : List Pr} {v : Int} (e3 : rcpOf h.recs t = some r) (ha : s.asked = A ++ [t]) (hq : OwnOk beta s own) (e2 : seen h.given t = none) (hv : r.Ev (Val h) v) :
    (putA s.read t own).length = s.read.length + 1 ∧ RkOk h beta ⟨putA s.known t v, putA s.read t own, s.asked.dropLast⟩ ∧ Val h t v := by
  have hmem := rcpOf_mem e3
  have nd := ho.nd
  rw [ha] at nd
  have ct : ¬ t ∈ s.read.map (·.1) := fun z => (List.nodup_append.mp nd).2.2 t (List.mem_append_right _ (List.mem_singleton.mpr rfl)) t z rfl
  have hl : (putA s.read t own).length = s.read.length + 1 := by rw [putA_len, if_neg ct]
  have hv2 : Val h t v := .work_ev e2 e3 hv
  refine ⟨hl, ⟨?_, fun u hu => ?_, fun p hp => ?_, fun p hp q hq' => ?_, fun u hu => ?_, putA_nd ho.kd, fun u hu => ?_⟩, hv2⟩
  · show (s.asked.dropLast ++ (putA s.read t own).map (·.1)).Nodup
    rw [ha, List.dropLast_concat, putA_keys, if_neg ct, ← List.append_assoc]
    have : ((A ++ s.read.map (·.1)) ++ [t]).Perm ((A ++ [t]) ++ s.read.map (·.1)) := by
      rw [List.append_assoc, List.append_assoc]
      exact List.Perm.append_left _ List.perm_append_comm
    exact this.nodup_iff.mpr nd
  · have hu : u ∈ s.asked.dropLast ++ (putA s.read t own).map (·.1) := hu
    rw [ha, List.dropLast_concat, putA_keys, if_neg ct] at hu
    have sub := ho.sub
    rw [ha] at sub
    rcases List.mem_append.mp hu with hu | hu
    · exact sub u (List.mem_append_left _ (List.mem_append_left _ hu))
    · rcases List.mem_append.mp hu with hu | hu
      · exact sub u (List.mem_append_right _ hu)
      · exact sub u (List.mem_append_left _ (List.mem_append_right _ hu))
  · rcases mem_putA hp with rfl | hp
    · exact ⟨(H.rcp _ hmem).1, hv2⟩
    · exact ho.val p hp
  · rcases mem_putA hp with rfl | hp
    · exact hq.sm q hq'
    · exact ho.rds p hp q hq'
  · have hu : u ∈ (putA s.read t own).map (·.1) := hu
    show u ∈ (putA s.known t v).map (·.1)
    rcases putA_mem.mp hu with hu | hu
    · exact putA_mem.mpr (.inl (ho.kn u hu))
    · exact putA_mem.mpr (.inr hu)
  · rcases putA_mem.mp hu with hu | rfl
    · exact ho.ks u hu
    · exact List.mem_append_right _ (List.mem_map.mpr ⟨_, hmem, rfl⟩)
theorem lkR_step {dm : Nat} {h : House} {beta : Nat → Nat} (H : HouseN dm h beta) : ∀ (n : Nat) (s : RkS) (t : List Nat) (v : Int) (s' : RkS), RkOk h beta s → Nm t → lkR h n s t = .ok v s' → Step h beta s t v s'
  | 0, s, t, v, s', _, _, e => by cases e
  | n + 1, s, t, v, s', ho, ht, e => by
    unfold lkR at e
    cases e1 : seen s.known t with
    | some x =>
      rw [e1] at e
      cases e
      exact ⟨ho, fun _ h => h, List.mem_map.mpr ⟨_, seen_mem e1, rfl⟩, rfl, Nat.le_refl _, (ho.val _ (seen_mem e1)).2⟩
    | none =>
      rw [e1] at e
      cases e2 : seen h.given t with
      | some x =>
        rw [e2] at e
        cases e
        have hx : Val h t v := .given e2
        refine ⟨⟨ho.nd, ho.sub, fun p hp => ?_, ho.rds, fun u hu => putA_mem.mpr (.inl (ho.kn u hu)), putA_nd ho.kd, fun u hu => ?_⟩, fun u hu => putA_mem.mpr (.inl hu), putA_mem.mpr (.inr rfl), rfl, Nat.le_refl _, hx⟩
        · rcases mem_putA hp with rfl | hp
          · exact ⟨ht, hx⟩
          · exact ho.val p hp
        · rcases putA_mem.mp hu with hu | rfl
          · exact ho.ks u hu
          · exact List.mem_append_left _ (List.mem_map.mpr ⟨_, seen_mem e2, rfl⟩)
      | none =>
        rw [e2] at e
        cases e3 : rcpOf h.recs t with
        | none => rw [e3] at e; cases e
        | some r =>
          rw [e3] at e
          by_cases c : t ∈ s.asked
          · simp only [if_pos c] at e
            cases e
          · simp only [if_neg c] at e
            cases e4 : wk (lkOwn (lkR h n)) r ({ s with asked := s.asked ++ [t] }, []) with
            | err x => rw [e4] at e; cases e
            | ok w p =>
              rw [e4] at e
              cases e
              obtain ⟨ho1, ct⟩ := ho.ask e3 e1 c
              obtain ⟨o2, a2, l2, q2, b2⟩ := wk_step (A := s.asked ++ [t]) (fun s t v s' o _ ht e => lkR_step H n s t v s' o ht e) (H.rcp _ (rcpOf_mem e3)).2.1 (p := ({ s with asked := s.asked ++ [t] }, [])) ho1 rfl (OwnOk.nil _ _) e4
              obtain ⟨d1, d2, d3⟩ := o2.done H e3 a2 q2 e2 b2
              refine ⟨d2, fun u hu => putA_mem.mpr (.inl (l2.2 u hu)), putA_mem.mpr (.inr rfl), ?_, ?_, d3⟩
              · show p.1.asked.dropLast = s.asked
                rw [a2, List.dropLast_concat]
              · show s.read.length ≤ (putA p.1.read t p.2).length
                rw [d1]
                exact Nat.le_succ_of_le l2.1
theorem emptyOk (h : House) (beta : Nat → Nat) : RkOk h beta emptyS := ⟨List.nodup_nil, (fun _ h => nomatch h), (fun _ h => nomatch h), (fun _ h => nomatch h), (fun _ h => nomatch h), List.nodup_nil, fun _ h => nomatch h⟩
/-! ### what the reckoner knows is so; houses whose worths are not too great -/
/-! #### what the reckoner knows is so -/
structure Coh (h : House) (s : RkS) : Prop where
  kn : ∀ p ∈ s.known, Val h p.1 p.2
  rd : ∀ p ∈ s.read, Rds h p.1 p.2
  kr : ∀ u ∈ s.known.map (·.1), u ∈ h.given.map (·.1) ∨ u ∈ s.read.map (·.1)
theorem Coh.empty (h : House) : Coh h emptyS := ⟨(fun _ h => nomatch h), (fun _ h => nomatch h), fun _ h => nomatch h⟩
theorem lkOwn_ok {lk : RkS → List Nat → OutR RkS} {p p' : RkS × List Pr} {t : List Nat} {v : Int} (e : lkOwn lk p t = .ok v p') : lk p.1 t = .ok v p'.1 ∧ p'.2 = setd p.2 t v := by
  unfold lkOwn at e
  cases e1 : lk p.1 t with
  | err x => rw [e1] at e; cases e
  | ok w s => rw [e1] at e; cases e; exact ⟨rfl, rfl⟩
theorem wk_sound {h : House} {lk : RkS → List Nat → OutR RkS} (hlk : ∀ s t v s', Coh h s → lk s t = .ok v s' → Val h t v ∧ Coh h s') :
    ∀ {r : Rcp} {p p' : RkS × List Pr} {v : Int}, Coh h p.1 → wk (lkOwn lk) r p = .ok v p' → Coh h p'.1 ∧ ∃ m, wk (dnL (val h m)) r p.2 = .ok v p'.2 := by
  have look : ∀ {t : List Nat} {p p' : RkS × List Pr} {v : Int}, Coh h p.1 → lkOwn lk p t = .ok v p' → Coh h p'.1 ∧ ∃ m, dnL (val h m) p.2 t = .ok v p'.2 := by
    intro t p p' v c e
    obtain ⟨e1, e2⟩ := lkOwn_ok e
    obtain ⟨⟨m, hm⟩, c'⟩ := hlk _ _ _ _ c e1
    exact ⟨c', m, by rw [e2]; exact dnL_some hm _⟩
  have two : ∀ {r1 : Rcp} {o o1 : List Pr} {x : Int} {m k : Nat}, wk (dnL (val h m)) r1 o = .ok x o1 → m ≤ k → wk (dnL (val h k)) r1 o = .ok x o1 := fun e le => wk_mono (fun _ _ e => val_le le e) e
  intro r
  induction r with
  | num n => intro p p' v c e; cases e; exact ⟨c, 0, rfl⟩
  | read t => exact fun c e => look c e
  | two k a b ia ib =>
    intro p p' v c e
    obtain ⟨x, o1, h1, h2⟩ := OutR.bind_ok e
    obtain ⟨y, o2, h3, h4⟩ := OutR.bind_ok h2
    cases h4
    obtain ⟨c1, m1, g1⟩ := ia c h1
    obtain ⟨c2, m2, g2⟩ := ib c1 h3
    refine ⟨c2, max m1 m2, ?_⟩
    show (wk (dnL _) a p.2).bind _ = _
    rw [bind_okI (two g1 (Nat.le_max_left _ _)), bind_okI (two g2 (Nat.le_max_right _ _))]
  | pick a b d ia ib id =>
    intro p p' v c e
    obtain ⟨x, o1, h1, h2⟩ := OutR.bind_ok e
    obtain ⟨c1, m1, g1⟩ := ia c h1
    by_cases z : x > 0
    · simp only [if_pos z] at h2
      obtain ⟨c2, m2, g2⟩ := ib c1 h2
      refine ⟨c2, max m1 m2, ?_⟩
      show (wk (dnL _) a p.2).bind _ = _
      rw [bind_okI (two g1 (Nat.le_max_left _ _)), if_pos z, two g2 (Nat.le_max_right _ _)]
    · simp only [if_neg z] at h2
      obtain ⟨c2, m2, g2⟩ := id c1 h2
      refine ⟨c2, max m1 m2, ?_⟩
      show (wk (dnL _) a p.2).bind _ = _
      rw [bind_okI (two g1 (Nat.le_max_left _ _)), if_neg z, two g2 (Nat.le_max_right _ _)]
  | choose a ns ia =>
    intro p p' v c e
    obtain ⟨x, o1, h1, h2⟩ := OutR.bind_ok e
    obtain ⟨c1, m1, g1⟩ := ia c h1
    obtain ⟨c2, m2, g2⟩ := look c1 h2
    obtain ⟨g3, g4⟩ := dnL_ok g2
    refine ⟨c2, max m1 m2, ?_⟩
    show (wk (dnL _) a p.2).bind _ = _
    rw [bind_okI (two g1 (Nat.le_max_left _ _)), g4]
    exact dnL_some (val_le (Nat.le_max_right _ _) g3) _
theorem lkR_sound {h : House} : ∀ (n : Nat) (s : RkS) (t : List Nat) (v : Int) (s' : RkS), Coh h s → lkR h n s t = .ok v s' → Val h t v ∧ Coh h s'
  | 0, s, t, v, s', _, e => by cases e
  | n + 1, s, t, v, s', c, e => by
    unfold lkR at e
    cases e1 : seen s.known t with
    | some x =>
      rw [e1] at e
      cases e
      exact ⟨c.kn _ (seen_mem e1), c⟩
    | none =>
      rw [e1] at e
      cases e2 : seen h.given t with
      | some x =>
        rw [e2] at e
        cases e
        refine ⟨.given e2, ⟨fun p hp => ?_, c.rd, fun u hu => ?_⟩⟩
        · rcases mem_putA hp with rfl | hp
          · exact .given e2
          · exact c.kn p hp
        · rcases putA_mem.mp hu with hu | rfl
          · exact c.kr u hu
          · exact .inl (seen_key e2)
      | none =>
        rw [e2] at e
        cases e3 : rcpOf h.recs t with
        | none => rw [e3] at e; cases e
        | some r =>
          rw [e3] at e
          by_cases z : t ∈ s.asked
          · simp only [if_pos z] at e
            cases e
          · simp only [if_neg z] at e
            cases e4 : wk (lkOwn (lkR h n)) r ({ s with asked := s.asked ++ [t] }, []) with
            | err x => rw [e4] at e; cases e
            | ok w p =>
              rw [e4] at e
              cases e
              have c0 : Coh h { s with asked := s.asked ++ [t] } := ⟨c.kn, c.rd, c.kr⟩
              obtain ⟨c1, m, g⟩ := wk_sound (fun s t v s' => lkR_sound n s t v s') (p := ({ s with asked := s.asked ++ [t] }, [])) c0 e4
              have vt : Val h t v := .work e2 e3 g
              refine ⟨vt, ⟨fun q hq => ?_, fun q hq => ?_, fun u hu => ?_⟩⟩
              · rcases mem_putA hq with rfl | hq
                · exact vt
                · exact c1.kn q hq
              · rcases mem_putA hq with rfl | hq
                · exact ⟨e2, r, m, v, e3, g⟩
                · exact c1.rd q hq
              · rcases putA_mem.mp hu with hu | rfl
                · exact (c1.kr u hu).imp id fun h => putA_mem.mpr (.inl h)
                · exact .inr (putA_mem.mpr (.inr rfl))
/-! #### what has a worth is told -/
theorem wk_total {h : House} {beta : Nat → Nat} {lk : RkS → List Nat → OutR RkS} {k : Nat} {A : List (List Nat)} (hlk : ∀ s t v, RkOk h beta s → Coh h s → s.asked = A → Nm t → val h k t = some v → ∃ s', lk s t = .ok v s' ∧ RkOk h beta s' ∧ Coh h s' ∧ s'.asked = A) :
    ∀ {r : Rcp} {p : RkS × List Pr} {v : Int} {o' : List Pr}, r.Wn → RkOk h beta p.1 → Coh h p.1 → p.1.asked = A → wk (dnL (val h k)) r p.2 = .ok v o' → ∃ s', wk (lkOwn lk) r p = .ok v (s', o') ∧ RkOk h beta s' ∧ Coh h s' ∧ s'.asked = A := by
  have look : ∀ {t : List Nat} {p : RkS × List Pr} {v : Int} {o' : List Pr}, Nm t → RkOk h beta p.1 → Coh h p.1 → p.1.asked = A → dnL (val h k) p.2 t = .ok v o' → ∃ s', lkOwn lk p t = .ok v (s', o') ∧ RkOk h beta s' ∧ Coh h s' ∧ s'.asked = A := by
    intro t p v o' ht o c a e
    obtain ⟨e1, rfl⟩ := dnL_ok e
    obtain ⟨s', g, r1⟩ := hlk _ t v o c a ht e1
    exact ⟨s', by unfold lkOwn; rw [g], r1⟩
  intro r
  induction r with
  | num n => intro p v o' _ o c a e; cases e; exact ⟨p.1, rfl, o, c, a⟩
  | read t => exact fun w o c a e => look w o c a e
  | two kd a b ia ib =>
    intro p v o' w o c ha e
    obtain ⟨x, o1, h1, h2⟩ := OutR.bind_ok e
    obtain ⟨y, o2, h3, h4⟩ := OutR.bind_ok h2
    cases h4
    obtain ⟨s1, g1, q1, c1, a1⟩ := ia w.1 o c ha h1
    obtain ⟨s2, g2, q2, c2, a2⟩ := ib (p := (s1, o1)) w.2 q1 c1 a1 h3
    refine ⟨s2, ?_, q2, c2, a2⟩
    show (wk (lkOwn lk) a p).bind _ = _
    rw [bind_okI g1, bind_okI g2]
  | pick a b d ia ib id =>
    intro p v o' w o c ha e
    obtain ⟨x, o1, h1, h2⟩ := OutR.bind_ok e
    obtain ⟨s1, g1, q1, c1, a1⟩ := ia w.1 o c ha h1
    by_cases z : x > 0
    · simp only [if_pos z] at h2
      obtain ⟨s2, g2, q2, c2, a2⟩ := ib (p := (s1, o1)) w.2.1 q1 c1 a1 h2
      refine ⟨s2, ?_, q2, c2, a2⟩
      show (wk (lkOwn lk) a p).bind _ = _
      rw [bind_okI g1, if_pos z, g2]
    · simp only [if_neg z] at h2
      obtain ⟨s2, g2, q2, c2, a2⟩ := id (p := (s1, o1)) w.2.2 q1 c1 a1 h2
      refine ⟨s2, ?_, q2, c2, a2⟩
      show (wk (lkOwn lk) a p).bind _ = _
      rw [bind_okI g1, if_neg z, g2]
  | choose a ns ia =>
    intro p v o' w o c ha e
    obtain ⟨x, o1, h1, h2⟩ := OutR.bind_ok e
    obtain ⟨s1, g1, q1, c1, a1⟩ := ia w.1 o c ha h1
    obtain ⟨i, _, hi⟩ := nth_mem w.2.1 x
    obtain ⟨s2, g2, q2, c2, a2⟩ := look (p := (s1, o1)) (w.2.2.2 _ (List.mem_of_getElem? hi)) q1 c1 a1 h2
    refine ⟨s2, ?_, q2, c2, a2⟩
    show (wk (lkOwn lk) a p).bind _ = _
    rw [bind_okI g1, g2]
/-- the least depth at which a worth is found -/
theorem val_least {h : House} {t : List Nat} {v : Int} : ∀ {m : Nat}, val h m t = some v → ∃ k, k + 1 ≤ m ∧ val h (k + 1) t = some v ∧ val h k t = none
  | 0, e => by cases e
  | m + 1, e => by
    cases e1 : val h m t with
    | none => exact ⟨m, Nat.le_refl _, e, e1⟩
    | some w =>
      obtain rfl : w = v := Option.some.inj ((val_mono e1).symm.trans e)
      obtain ⟨k, h1, h2⟩ := val_least e1
      exact ⟨k, by omega, h2⟩
theorem val_none_le {h : House} {t : List Nat} {k m : Nat} (le : k ≤ m) (e : val h m t = none) : val h k t = none := by
  cases e1 : val h k t with
  | none => rfl
  | some v => rw [val_le le e1] at e; cases e
theorem lkR_total {dm : Nat} {h : House} {beta : Nat → Nat} (HH : HouseN dm h beta) : ∀ (n : Nat) (s : RkS) (t : List Nat) (m : Nat) (v : Int), RkOk h beta s → Coh h s → Nm t → val h m t = some v → (∀ a ∈ s.asked, val h m a = none) → h.recs.length + 1 ≤ s.asked.length + n → ∃ s', lkR h n s t = .ok v s'
  | 0, s, t, m, v, o, c, ht, e, ha, hn => by
    have := o.len
    omega
  | n + 1, s, t, m, v, o, c, ht, e, ha, hn => by
    obtain ⟨k, hk, ek, nk⟩ := val_least e
    unfold lkR
    cases e1 : seen s.known t with
    | some x =>
      obtain rfl : x = v := (c.kn _ (seen_mem e1)).det ⟨m, e⟩
      exact ⟨s, rfl⟩
    | none =>
      have ek' := ek
      rw [val_succ] at ek'
      cases e2 : seen h.given t with
      | some x =>
        rw [e2] at ek'
        cases ek'
        exact ⟨_, rfl⟩
      | none =>
        rw [e2] at ek'
        cases e3 : rcpOf h.recs t with
        | none => rw [e3] at ek'; cases ek'
        | some r =>
          rw [e3] at ek'
          have z : ¬ t ∈ s.asked := fun z => by rw [ha t z] at e; cases e
          simp only [if_neg z]
          cases e4 : wk (dnL (val h k)) r [] with
          | err x => simp only [e4] at ek'; cases ek'
          | ok w own =>
            simp only [e4] at ek'
            cases ek'
            obtain ⟨o1, ct⟩ := o.ask e3 e1 z
            have c0 : Coh h { s with asked := s.asked ++ [t] } := ⟨c.kn, c.rd, c.kr⟩
            have wn := (HH.rcp _ (rcpOf_mem e3)).2.1
            obtain ⟨s2, g2, _⟩ := wk_total (lk := lkR h n) (k := k) (A := s.asked ++ [t]) (beta := beta) (fun s1 u x q1 d1 a1 hu eu => by
              obtain ⟨s', g⟩ := lkR_total HH n s1 u k x q1 d1 hu eu (fun a hm => by
                rw [a1] at hm
                rcases List.mem_append.mp hm with hm | hm
                · exact val_none_le (by omega) (ha a hm)
                · rw [List.mem_singleton.mp hm]; exact nk) (by rw [a1, List.length_append]; simp only [List.length_cons, List.length_nil]; omega)
              have st := lkR_step HH n s1 u x s' q1 hu g
              exact ⟨s', g, st.ok, (lkR_sound n s1 u x s' d1 g).2, st.asked.trans a1⟩) (p := ({ s with asked := s.asked ++ [t] }, [])) wn o1 c0 rfl e4
            rw [g2]
            exact ⟨_, rfl⟩
/-! #### houses whose worths grow by how many are worked -/
structure HouseB (dm : Nat) (h : House) (beta : Nat → Nat) : Prop where
  rcp : ∀ p ∈ h.recs, Nm p.1 ∧ p.2.Wn ∧ p.2.dep ≤ dm ∧ ∀ c, c + 1 ≤ h.recs.length → p.2.bits (beta c) ≤ beta (c + 1)
  gvn : ∀ p ∈ h.given, Nm p.1 ∧ p.2.natAbs < 2 ^ beta 0
  mono : ∀ c d, c ≤ d → beta c ≤ beta d
  pos : 0 < beta 0
  top : ∀ p ∈ h.recs, p.2.bits (beta h.recs.length) ≤ 1000000
structure RkB (beta : Nat → Nat) (s : RkS) : Prop where
  val : ∀ p ∈ s.known, p.2.natAbs < 2 ^ beta s.read.length
theorem HouseB.n {dm : Nat} {h : House} {beta : Nat → Nat} (H : HouseB dm h beta) : HouseN dm h beta := ⟨fun p hp => ⟨(H.rcp p hp).1, (H.rcp p hp).2.1, (H.rcp p hp).2.2.1⟩, fun p hp => (H.gvn p hp).1⟩
theorem wk_stepB {dm : Nat} {h : House} {beta : Nat → Nat} (H : HouseB dm h beta) {lk : RkS → List Nat → OutR RkS} {A : List (List Nat)} (hlk : ∀ s t v s', RkOk h beta s → RkB beta s → s.asked = A → Nm t → lk s t = .ok v s' → Step h beta s t v s' ∧ RkB beta s' ∧ v.natAbs < 2 ^ beta s'.read.length) :
    ∀ {r : Rcp} {p p' : RkS × List Pr} {v : Int}, r.Wn → RkOk h beta p.1 → RkB beta p.1 → p.1.asked = A → wk (lkOwn lk) r p = .ok v p' →
      RkOk h beta p'.1 ∧ RkB beta p'.1 ∧ p'.1.asked = A ∧ p.1.read.length ≤ p'.1.read.length ∧ v.natAbs < 2 ^ r.bits (beta p'.1.read.length) := by
  have look : ∀ {t : List Nat} {p p' : RkS × List Pr} {v : Int}, Nm t → RkOk h beta p.1 → RkB beta p.1 → p.1.asked = A → lkOwn lk p t = .ok v p' →
      RkOk h beta p'.1 ∧ RkB beta p'.1 ∧ p'.1.asked = A ∧ p.1.read.length ≤ p'.1.read.length ∧ v.natAbs < 2 ^ beta p'.1.read.length := by
    intro t p p' v ht ho hb ha e
    obtain ⟨e1, _⟩ := lkOwn_ok e
    obtain ⟨st, b, sm⟩ := hlk _ _ _ _ ho hb ha ht e1
    exact ⟨st.ok, b, st.asked.trans ha, st.le, sm⟩
  intro r
  induction r with
  | num n =>
    intro p p' v _ ho hb ha e
    cases e
    exact ⟨ho, hb, ha, Nat.le_refl _, Nat.lt_log2_self⟩
  | read t => exact fun hw ho hb ha e => look hw ho hb ha e
  | two k x y ix iy =>
    intro p p' v hw ho hb ha e
    obtain ⟨a, p1, h1, h2⟩ := OutR.bind_ok e
    obtain ⟨c, p2, h3, h4⟩ := OutR.bind_ok h2
    cases h4
    obtain ⟨o1, q1, a1, l1, b1⟩ := ix hw.1 ho hb ha h1
    obtain ⟨o2, q2, a2, l2, b2⟩ := iy hw.2 o1 q1 a1 h3
    exact ⟨o2, q2, a2, Nat.le_trans l1 l2, ap_bits (pow_mono b1 (bits_mono (H.mono _ _ l2) x)) b2⟩
  | pick x y z ix iy iz =>
    intro p p' v hw ho hb ha e
    obtain ⟨a, p1, h1, h2⟩ := OutR.bind_ok e
    obtain ⟨o1, q1, a1, l1, b1⟩ := ix hw.1 ho hb ha h1
    by_cases c : a > 0
    · simp only [if_pos c] at h2
      obtain ⟨o2, q2, a2, l2, b2⟩ := iy hw.2.1 o1 q1 a1 h2
      exact ⟨o2, q2, a2, Nat.le_trans l1 l2, pow_mono b2 (by simp only [Rcp.bits]; omega)⟩
    · simp only [if_neg c] at h2
      obtain ⟨o2, q2, a2, l2, b2⟩ := iz hw.2.2 o1 q1 a1 h2
      exact ⟨o2, q2, a2, Nat.le_trans l1 l2, pow_mono b2 (by simp only [Rcp.bits]; omega)⟩
  | choose x ns ix =>
    intro p p' v hw ho hb ha e
    obtain ⟨a, p1, h1, h2⟩ := OutR.bind_ok e
    obtain ⟨o1, q1, a1, l1, b1⟩ := ix hw.1 ho hb ha h1
    obtain ⟨i, _, hi⟩ := nth_mem hw.2.1 a
    obtain ⟨o2, q2, a2, l2, b2⟩ := look (p := p1) (hw.2.2.2 _ (List.mem_of_getElem? hi)) o1 q1 a1 h2
    exact ⟨o2, q2, a2, Nat.le_trans l1 l2, pow_mono b2 (by simp only [Rcp.bits]; omega)⟩
theorem lkR_stepB {dm : Nat} {h : House} {beta : Nat → Nat} (H : HouseB dm h beta) : ∀ (n : Nat) (s : RkS) (t : List Nat) (v : Int) (s' : RkS), RkOk h beta s → RkB beta s → Nm t → lkR h n s t = .ok v s' → RkB beta s' ∧ v.natAbs < 2 ^ beta s'.read.length
  | 0, s, t, v, s', _, _, _, e => by cases e
  | n + 1, s, t, v, s', ho, hb, ht, e => by
    unfold lkR at e
    cases e1 : seen s.known t with
    | some x =>
      rw [e1] at e
      cases e
      exact ⟨hb, hb.val _ (seen_mem e1)⟩
    | none =>
      rw [e1] at e
      cases e2 : seen h.given t with
      | some x =>
        rw [e2] at e
        cases e
        have hx := pow_mono (H.gvn _ (seen_mem e2)).2 (H.mono _ _ (Nat.zero_le s.read.length))
        refine ⟨⟨fun p hp => ?_⟩, hx⟩
        rcases mem_putA hp with rfl | hp
        · exact hx
        · exact hb.val p hp
      | none =>
        rw [e2] at e
        cases e3 : rcpOf h.recs t with
        | none => rw [e3] at e; cases e
        | some r =>
          rw [e3] at e
          by_cases c : t ∈ s.asked
          · simp only [if_pos c] at e
            cases e
          · simp only [if_neg c] at e
            cases e4 : wk (lkOwn (lkR h n)) r ({ s with asked := s.asked ++ [t] }, []) with
            | err x => rw [e4] at e; cases e
            | ok w p =>
              rw [e4] at e
              cases e
              have hmem := rcpOf_mem e3
              obtain ⟨ho1, _⟩ := ho.ask e3 e1 c
              obtain ⟨o2, q2, a2, l2, b2⟩ := wk_stepB H (A := s.asked ++ [t]) (fun s t v s' o b _ ht e => ⟨lkR_step H.n n s t v s' o ht e, lkR_stepB H n s t v s' o b ht e⟩) (H.rcp _ hmem).2.1 (p := ({ s with asked := s.asked ++ [t] }, [])) ho1 ⟨hb.val⟩ rfl e4
              have nd := o2.nd
              rw [a2] at nd
              have ct : ¬ t ∈ p.1.read.map (·.1) := fun z => (List.nodup_append.mp nd).2.2 t (List.mem_append_right _ (List.mem_singleton.mpr rfl)) t z rfl
              have hl : (putA p.1.read t p.2).length = p.1.read.length + 1 := by rw [putA_len, if_neg ct]
              have hc : p.1.read.length + 1 ≤ h.recs.length := by
                have := o2.len
                rw [a2, List.length_append] at this
                simp only [List.length_cons, List.length_nil] at this
                omega
              have hv2 : v.natAbs < 2 ^ beta (p.1.read.length + 1) := pow_mono b2 ((H.rcp _ hmem).2.2.2 _ hc)
              refine ⟨⟨fun q hq => ?_⟩, by show v.natAbs < 2 ^ beta (putA p.1.read t p.2).length; rw [hl]; exact hv2⟩
              show q.2.natAbs < 2 ^ beta (putA p.1.read t p.2).length
              rw [hl]
              rcases mem_putA hq with rfl | hq
              · exact hv2
              · exact pow_mono (q2.val q hq) (H.mono _ _ (Nat.le_succ _))
theorem HouseB.small {dm : Nat} {h : House} {beta : Nat → Nat} (H : HouseB dm h beta) {t : List Nat} {v : Int} (ht : Nm t) (hv : Val h t v) : v.natAbs < 2 ^ beta h.recs.length := by
  obtain ⟨m, hm⟩ := hv
  obtain ⟨s, e⟩ := lkR_total H.n (h.recs.length + 1) emptyS t m v (emptyOk h beta) (Coh.empty h) ht hm (fun a ha => nomatch ha) (by show _ ≤ 0 + _; omega)
  have st := lkR_step H.n _ _ _ _ _ (emptyOk h beta) ht e
  have := st.ok.len
  exact pow_mono (lkR_stepB H _ _ _ _ _ (emptyOk h beta) ⟨fun _ h => nomatch h⟩ ht e).2 (H.mono _ _ (by omega))
theorem Rcp.Ev.nm {f : List Nat → Int → Prop} : ∀ {r : Rcp} {v : Int}, r.Wn → r.Ev f v → r.Ev (fun t x => Nm t ∧ f t x) v
  | .num _, v, _, h => h
  | .read _, v, w, h => ⟨w, h⟩
  | .two _ _ _, v, w, ⟨a, c, h1, h2, e⟩ => ⟨a, c, h1.nm w.1, h2.nm w.2, e⟩
  | .pick _ _ _, v, w, ⟨a, h1, h2, h3⟩ => ⟨a, h1.nm w.1, fun c => (h2 c).nm w.2.1, fun c => (h3 c).nm w.2.2⟩
  | .choose _ _, v, w, ⟨a, h1, h2⟩ => ⟨a, h1.nm w.1, by obtain ⟨i, _, hi⟩ := nth_mem w.2.1 a; exact w.2.2.2 _ (List.mem_of_getElem? hi), h2⟩
theorem Rcp.Fit.nm {f : List Nat → Int → Prop} : ∀ {r : Rcp}, r.Wn → r.Fit (fun t x => Nm t ∧ f t x) → r.Fit f
  | .num _, _, _ => trivial
  | .read _, _, _ => trivial
  | .two _ _ _, w, ⟨h1, h2⟩ => ⟨h1.nm w.1, fun a ha => ⟨(h2 a (ha.nm w.1)).1.nm w.2, fun c hc => (h2 a (ha.nm w.1)).2 c (hc.nm w.2)⟩⟩
  | .pick _ _ _, w, ⟨h1, h2⟩ => ⟨h1.nm w.1, fun a ha => ⟨fun c => ((h2 a (ha.nm w.1)).1 c).nm w.2.1, fun c => ((h2 a (ha.nm w.1)).2 c).nm w.2.2⟩⟩
  | .choose x _, w, h => Fit.nm (r := x) w.1 h
theorem HouseB.ok {dm : Nat} {h : House} {beta : Nat → Nat} (H : HouseB dm h beta) : HouseOk dm h beta := ⟨H.n, fun p hp _ => Rcp.Fit.nm (H.rcp p hp).2.1 (Rcp.Fit.of_bits (Nat.lt_of_lt_of_le H.pos (H.mono _ _ (Nat.zero_le _))) (fun t v ⟨ht, hv⟩ => H.small ht hv) (H.top p hp))⟩
/-! ### own errors with a field -/
theorem hu65 {k : Nat} {A : Around} (r : Room k A) : A.units + 65 < cLine := by have := r.un; omega
structure OwnX (K : PySem.W.Frag) (mg : Str → Option Value) (n f : Str) (C fI : Addr) : Prop where
  oex : OexC K C
  iC : PySem.W.findIn K (.ref C) "__init__" = some (some (.ref fI))
  tI : PySem.W.typeIn K (.ref fI) = some (.type "function")
  g : mg n = some (.ref C)
  no : PySem.W.findIn K (.ref C) f = some none
  xf : XfC K C
def spNNI (C : Addr) : Sp := fun vs H Q _ => ∃ (a : Addr) (v : V), vs = [.ref a, v] ∧ H a = some (exo a C none) ∧ ∀ dx, H dx = none → dx ≠ a → Q .non (upd (upd H dx (exd dx [(("name" : Str), v)])) a (exo a C (some dx)))
def spRgI (C : Addr) : Sp := fun vs H Q _ => ∃ (a L : Addr) (xs : List V), vs = [.ref a, .ref L] ∧ H a = some (exo a C none) ∧ H L = some (.lst xs) ∧ ∀ M dx, H M = none → M ≠ a → dx ≠ M → H dx = none → dx ≠ a →
  Q .non (upd (upd (upd H M (.lst xs)) dx (exd dx [(("ring" : Str), .ref M)])) a (exo a C (some dx)))
/-- what is due where an error of the reckoning flies -/
def ErK (CN CR : Addr) (x : XErr) (E : XK) (H : Hp) : Prop := match x with
  | .noName s => ∀ d G, Same H G → H d = none → G d = some (.xd [(("name" : Str), .str (SX.S s))]) → E (.ref CN) (some d) G
  | .ring l => ∀ d L G, Same H G → H d = none → H L = none → G d = some (.xd [(("ring" : Str), .ref L)]) → G L = some (.lst (txs l)) → E (.ref CR) (some d) G
theorem flown {H : Hp} {a dx : Addr} {u v w : HO} (h1 : H a = none) (h2 : H dx = none) : Same H (upd (del (upd (upd H dx u) a v) a) dx w) := fun b o e => by
  rw [upd_ne (ne_of_none e h2), del_ne (ne_of_none e h1), upd_ne (ne_of_none e h1), upd_ne (ne_of_none e h2)]
  exact e
section
variable {P : Program} {w : World} {K : PySem.W.Frag} {mg : Str → Option Value} {base : Heap} {C fI : Addr}
abbrev s_NoName___init__ : Stmt := inClass (topS 3) 0
abbrev N_NoName___init__ : List Str := ["self", "name"]
theorem sc_NoName___init__ : FnScope N_NoName___init__ ["self", "name"] (defScope s_NoName___init__) := ⟨rfl, rfl, rfl, by decide +kernel, rfl, by decide +kernel, by decide +kernel⟩

theorem ok_NoName_init (T : Txt K mg) (Z : OwnX K mg "NoName" "name" C fI) {fd : FuncData} (F : Fun K "__init__" "NoName.__init__" s_NoName___init__ fI fd) : FnOk P w K mg base CX0 1 fI fd ["self", "name"] (spNNI C) := by
  refine F.ok sc_NoName___init__ (fun vs H Q E h => ?_) (fun cdv A outer s H vs Q E hr h => ?_)
  · obtain ⟨a, v, rfl, _⟩ := h
    rfl
  obtain ⟨a, v, rfl, ha, q⟩ := h
  refine ⟨_, (pss_one (ps_ost (pv 0) (pv 1))), ?_⟩
  exact ⟨_, rfl, _, rfl, a, C, rfl, Z.oex, Z.no, .inl ⟨ha, fun dx n ne => q dx n ne⟩⟩
end
/-! ### names in lists; dicts by names -/
theorem strV_eq (a b : List Nat) : eqV (.str (SX.S a)) (.str (SX.S b)) = decide (a = b) := by
  show (SX.S a == SX.S b) = _
  rw [SX.S_beq]
  by_cases c : a = b
  · rw [c, beq_self_eq_true, decide_eq_true rfl]
  · rw [beq_eq_false_iff_ne.mpr c, decide_eq_false c]
theorem in_txs (t : List Nat) (ns : List (List Nat)) : inV (.str (SX.S t)) (txs ns) = decide (t ∈ ns) := by
  induction ns with
  | nil => rfl
  | cons a r ih =>
    show (eqV (.str (SX.S a)) (.str (SX.S t)) || inV (.str (SX.S t)) (txs r)) = _
    rw [ih, strV_eq]
    by_cases c : a = t
    · rw [decide_eq_true c, Bool.true_or, decide_eq_true (by rw [c]; exact List.mem_cons_self ..)]
    · rw [decide_eq_false c, Bool.false_or]
      by_cases d : t ∈ r
      · rw [decide_eq_true d, decide_eq_true (List.mem_cons_of_mem _ d)]
      · rw [decide_eq_false d, decide_eq_false (fun z => (List.mem_cons.mp z).elim (fun e => c e.symm) d)]
theorem txs_flat (ns : List (List Nat)) : (txs ns).all flatV = true := List.all_eq_true.mpr fun x hx => by
  obtain ⟨s, _, rfl⟩ := txs_mem hx
  rfl
theorem txs_drop (ns : List (List Nat)) (k : Nat) : (txs ns).drop k = txs (ns.drop k) := by unfold txs; rw [List.map_drop, List.map_drop]
theorem cutV_from (xs : List V) (a : Nat) : cutV xs (some (a : Int)) none = xs.drop a := by
  show (xs.drop (HT.sIx xs.length 0 (some (a : Int)))).take (HT.sIx xs.length xs.length none - HT.sIx xs.length 0 (some (a : Int))) = _
  rw [HT.sIx_none, HT.sIx_nat]
  by_cases ha : a ≤ xs.length
  · rw [Nat.min_eq_left ha, List.take_of_length_le (by rw [List.length_drop]; omega)]
  · rw [Nat.min_eq_right (by omega), List.drop_eq_nil_of_le (Nat.le_refl _), List.drop_eq_nil_of_le (by omega), List.take_nil]
/-- the first place of a name -/
theorem first_at {t : List Nat} : ∀ {ns : List (List Nat)}, t ∈ ns → ns[ns.idxOf t]? = some t ∧ ∀ m s, m < ns.idxOf t → ns[m]? = some s → ¬ s = t
  | [], h => nomatch h
  | a :: r, h => by
    rw [List.idxOf_cons]
    by_cases c : a = t
    · rw [c, beq_self_eq_true, cond_true]
      exact ⟨rfl, fun m s hm => absurd hm (Nat.not_lt_zero _)⟩
    · rw [beq_eq_false_iff_ne.mpr c, cond_false]
      have hr : t ∈ r := (List.mem_cons.mp h).elim (fun e => absurd e.symm c) id
      obtain ⟨h1, h2⟩ := first_at hr
      refine ⟨by simpa using h1, fun m s hm e => ?_⟩
      cases m with
      | zero =>
        have : a = s := by simpa using e
        rw [← this]
        exact c
      | succ m => exact h2 m s (by omega) (by simpa using e)
/-- a dict's pairs stand for pairs of a name and a thing -/
def KvR {α : Type} (R : α → V → Prop) : List (List Nat × α) → List (Key × V) → Prop
  | [], [] => True
  | p :: l, q :: m => q.1 = kT (SX.S p.1) ∧ R p.2 q.2 ∧ KvR R l m
  | _, _ => False
section
variable {α : Type} {R R' : α → V → Prop}
theorem KvR.imp (h : ∀ a v, R a v → R' a v) : ∀ {l : List (List Nat × α)} {m : List (Key × V)}, KvR R l m → KvR R' l m
  | [], [], _ => trivial
  | _ :: _, _ :: _, ⟨a, b, c⟩ => ⟨a, h _ _ b, KvR.imp h c⟩
  | [], _ :: _, h => h.elim
  | _ :: _, [], h => h.elim
theorem KvR.len : ∀ {l : List (List Nat × α)} {m : List (Key × V)}, KvR R l m → m.length = l.length
  | [], [], _ => rfl
  | _ :: _, _ :: _, ⟨_, _, c⟩ => congrArg (· + 1) (KvR.len c)
  | [], _ :: _, h => h.elim
  | _ :: _, [], h => h.elim
theorem KvR.snoc {t : List Nat} {a : α} {v : V} (r : R a v) : ∀ {l : List (List Nat × α)} {m : List (Key × V)}, KvR R l m → KvR R (l ++ [(t, a)]) (m ++ [(kT (SX.S t), v)])
  | [], [], _ => ⟨rfl, r, trivial⟩
  | _ :: _, _ :: _, ⟨x, y, z⟩ => ⟨x, y, KvR.snoc r z⟩
  | [], _ :: _, h => h.elim
  | _ :: _, [], h => h.elim
theorem KvR.any {t : List Nat} : ∀ {l : List (List Nat × α)} {m : List (Key × V)}, KvR R l m → (m.any fun kv => decide (kv.1 = kT (SX.S t))) = (l.any fun p => decide (p.1 = t))
  | [], [], _ => rfl
  | p :: l, q :: m, ⟨x, _, z⟩ => by
    show (decide (q.1 = kT (SX.S t)) || m.any _) = (decide (p.1 = t) || l.any _)
    rw [KvR.any z, x]
    by_cases c : p.1 = t
    · rw [c, decide_eq_true rfl, decide_eq_true rfl]
    · rw [decide_eq_false c, decide_eq_false fun e => c (kS_inj e)]
  | [], _ :: _, h => h.elim
  | _ :: _, [], h => h.elim
theorem KvR.put {t : List Nat} {a : α} {v : V} (r : R a v) {l : List (List Nat × α)} {m : List (Key × V)} (h : KvR R l m) : KvR R (putA l t a) (putK m (kT (SX.S t)) v) := by
  unfold putA putK
  rw [h.any]
  split
  · have key : ∀ {l : List (List Nat × α)} {m : List (Key × V)}, KvR R l m → KvR R (l.map fun p => if p.1 = t then (p.1, a) else p) (m.map fun kv => if kv.1 = kT (SX.S t) then (kv.1, v) else kv) := by
      intro l
      induction l with
      | nil =>
        intro m h
        cases m with
        | nil => trivial
        | cons _ _ => exact h.elim
      | cons p l ih =>
        intro m h
        cases m with
        | nil => exact h.elim
        | cons q m =>
          obtain ⟨x, y, z⟩ := h
          rw [List.map_cons, List.map_cons]
          by_cases c : p.1 = t
          · rw [if_pos c, if_pos (by rw [x, c])]
            exact ⟨x, r, ih z⟩
          · rw [if_neg c, if_neg (by rw [x]; exact fun e => c (kS_inj e))]
            exact ⟨x, y, ih z⟩
    exact key h
  · exact h.snoc r
def getA (l : List (List Nat × α)) (t : List Nat) : Option α := (l.find? fun p => decide (p.1 = t)).map (·.2)
theorem getA_cons (p : List Nat × α) (l : List (List Nat × α)) (t : List Nat) : getA (p :: l) t = if p.1 = t then some p.2 else getA l t := by
  unfold getA
  rw [List.find?_cons]
  by_cases c : p.1 = t
  · rw [if_pos c, decide_eq_true c]
    rfl
  · rw [if_neg c, decide_eq_false c]
theorem KvR.get {t : List Nat} : ∀ {l : List (List Nat × α)} {m : List (Key × V)}, KvR R l m → (getA l t = none ∧ valV m (kT (SX.S t)) = none) ∨ ∃ a v, getA l t = some a ∧ valV m (kT (SX.S t)) = some v ∧ R a v
  | [], [], _ => .inl ⟨rfl, rfl⟩
  | p :: l, q :: m, ⟨x, y, z⟩ => by
    rw [getA_cons]
    by_cases c : p.1 = t
    · rw [if_pos c, valV_pos (by rw [x, c])]
      exact .inr ⟨_, _, rfl, rfl, y⟩
    · rw [if_neg c, valV_neg (by rw [x]; exact fun e => c (kS_inj e))]
      exact KvR.get z
  | [], _ :: _, h => h.elim
  | _ :: _, [], h => h.elim
theorem KvR.at {l : List (List Nat × α)} {m : List (Key × V)} {i : Nat} {k : Key} {v : V} (h : KvR R l m) (e : m[i]? = some (k, v)) : ∃ p, l[i]? = some p ∧ k = kT (SX.S p.1) ∧ R p.2 v := by
  induction l generalizing m i with
  | nil =>
    cases m with
    | nil => simp at e
    | cons _ _ => exact h.elim
  | cons p l ih =>
    cases m with
    | nil => exact h.elim
    | cons q m =>
      obtain ⟨x, y, z⟩ := h
      cases i with
      | zero =>
        have e' : q = (k, v) := by simpa using e
        rw [e'] at x y
        exact ⟨p, rfl, x, y⟩
      | succ i => exact ih z (by simpa using e)
end
theorem kvR_keys {α : Type} {R : α → V → Prop} : ∀ {l : List (List Nat × α)} {m : List (Key × V)}, KvR R l m → m.map (fun kv => kV kv.1) = txs (l.map (·.1))
  | [], [], _ => rfl
  | p :: l, q :: m, ⟨x, _, z⟩ => by
    show kV q.1 :: m.map _ = .str (SX.S p.1) :: txs (l.map (·.1))
    rw [kvR_keys z, x]
    rfl
  | [], _ :: _, h => h.elim
  | _ :: _, [], h => h.elim
theorem numsR (l : List Pr) : KvR (fun (x : Int) v => v = .int x) l (numsK l) := by
  induction l with
  | nil => trivial
  | cons p l ih => exact ⟨rfl, rfl, ih⟩
theorem numsR_eq : ∀ {l : List Pr} {m : List (Key × V)}, KvR (fun (x : Int) v => v = .int x) l m → m = numsK l
  | [], [], _ => rfl
  | p :: l, q :: m, ⟨x, y, z⟩ => by
    rw [numsR_eq z]
    show q :: numsK l = (kT (SX.S p.1), V.int p.2) :: numsK l
    rw [← x, ← y]
  | [], _ :: _, h => h.elim
  | _ :: _, [], h => h.elim
theorem nums_putA (l : List Pr) (t : List Nat) (v : Int) : putK (numsK l) (kT (SX.S t)) (.int v) = numsK (putA l t v) := numsR_eq (KvR.put (R := fun (x : Int) v => v = .int x) (a := v) rfl (numsR l))
theorem seen_put {l : List Pr} {t u : List Nat} {v : Int} : seen (putA l t v) u = if t = u then some v else seen l u := by
  have none_of : ∀ {l : List Pr}, ¬ (l.any fun p => decide (p.1 = t)) = true → seen l t = none := fun {l} h => by
    unfold seen
    rw [List.find?_eq_none.mpr fun p hp c => h (List.any_eq_true.mpr ⟨p, hp, c⟩)]
    rfl
  unfold putA
  by_cases c : (l.any fun p => decide (p.1 = t)) = true
  · rw [if_pos c]
    induction l with
    | nil => simp at c
    | cons p l ih =>
      rw [List.map_cons, seen_cons, seen_cons]
      by_cases h1 : p.1 = t
      · rw [if_pos h1]
        by_cases h2 : t = u
        · rw [if_pos (by rw [h1, h2]), if_pos h2]
        · rw [if_neg (by rw [h1]; exact h2), if_neg h2, if_neg (by rw [h1]; exact h2)]
          by_cases c2 : (l.any fun p => decide (p.1 = t)) = true
          · rw [ih c2, if_neg h2]
          · have e : l.map (fun p => if p.1 = t then (p.1, v) else p) = l := by
              have key : ∀ p ∈ l, (if p.1 = t then (p.1, v) else p) = p := fun p hp => if_neg fun z => c2 (List.any_eq_true.mpr ⟨p, hp, decide_eq_true z⟩)
              exact (List.map_congr_left key).trans (List.map_id' l)
            rw [e]
      · rw [if_neg h1]
        have c2 : (l.any fun p => decide (p.1 = t)) = true := by
          rw [List.any_cons, decide_eq_false h1, Bool.false_or] at c
          exact c
        by_cases h2 : p.1 = u
        · rw [if_pos h2, if_pos h2, if_neg (fun z => h1 (by rw [h2, z]))]
        · rw [if_neg h2, if_neg h2, ih c2]
  · rw [if_neg c]
    have app : ∀ {l : List Pr} {q : Pr}, seen (l ++ [q]) u = match seen l u with | some x => some x | none => if q.1 = u then some q.2 else none := by
      intro l q
      induction l with
      | nil =>
        rw [List.nil_append, seen_cons]
        rfl
      | cons p l ih =>
        rw [List.cons_append, seen_cons, seen_cons, ih]
        by_cases h : p.1 = u
        · rw [if_pos h, if_pos h]
        · rw [if_neg h, if_neg h]
    rw [app]
    by_cases h2 : t = u
    · subst h2
      rw [none_of c, if_pos rfl]
    · simp only [if_neg h2]
      cases seen l u <;> rfl
/-- looks for one name after another -/
def lkAll (h : House) (n : Nat) : RkS → List (List Nat) → OutR RkS
  | s, [] => .ok 0 s
  | s, t :: ts => match lkR h n s t with
    | .ok _ s' => lkAll h n s' ts
    | .err e => .err e
theorem lkAll_snoc {h : House} {n : Nat} {t : List Nat} : ∀ {ts : List (List Nat)} {s s' : RkS} {v : Int}, lkAll h n s ts = .ok v s' → lkAll h n s (ts ++ [t]) = match lkR h n s' t with
    | .ok _ s2 => .ok 0 s2
    | .err e => .err e
  | [], s, s', v, e => by
    cases e
    rfl
  | u :: ts, s, s', v, e => by
    unfold lkAll at e
    show (match lkR h n s u with | .ok _ s' => lkAll h n s' (ts ++ [t]) | .err e => .err e) = _
    cases e1 : lkR h n s u with
    | err x => rw [e1] at e; cases e
    | ok w s1 =>
      rw [e1] at e
      exact lkAll_snoc e
theorem lkAll_err {h : House} {n : Nat} {x : XErr} {us : List (List Nat)} : ∀ {ts : List (List Nat)} {s : RkS}, lkAll h n s ts = .err x → lkAll h n s (ts ++ us) = .err x
  | [], s, e => by cases e
  | u :: ts, s, e => by
    unfold lkAll at e
    show (match lkR h n s u with | .ok _ s' => lkAll h n s' (ts ++ us) | .err e => .err e) = _
    cases e1 : lkR h n s u with
    | err y => rw [e1] at e; exact e
    | ok w s1 =>
      rw [e1] at e
      exact lkAll_err e
theorem KvR.mem {α : Type} {R : α → V → Prop} : ∀ {l : List (List Nat × α)} {m : List (Key × V)}, KvR R l m → ∀ q ∈ m, ∃ a, R a q.2
  | [], [], _, _, h => nomatch h
  | p :: l, q :: m, ⟨_, y, z⟩, r, hr => by
    rcases List.mem_cons.mp hr with rfl | hr
    · exact ⟨_, y⟩
    · exact KvR.mem z r hr
  | [], _ :: _, h, _, _ => h.elim
  | _ :: _, [], h, _, _ => h.elim
/-! ### the class Reckoner walked -/
open LamX NdefX
structure RkT (K : PySem.W.Frag) (mg : Str → Option Value) (C fI : Addr) : Prop where
  cl : Cls K C
  nG : NoAttr K C "given"
  nR : NoAttr K C "recipes"
  nK : NoAttr K C "known"
  nF : NoAttr K C "read_for"
  nA : NoAttr K C "asked"
  g : mg "Reckoner" = some (.ref C)
  mkI : Mk K C fI
/-- all but the tables and the things of S stay; the tables of Tb are tables still -/
def FrS (Tb : List NTab) (S : List Addr) (H H' : Hp) : Prop := (∀ x u, x ∉ S → (∀ ps, u ≠ .tbl ps) → H x = some u → H' x = some u) ∧ (∀ b, H' b = none → H b = none) ∧ (TabsN Tb H → TabsN Tb H')
section
variable {Tb : List NTab}
theorem FrS.refl (S : List Addr) (H : Hp) : FrS Tb S H H := ⟨fun _ _ _ _ h => h, fun _ h => h, fun h => h⟩
theorem FrS.trans {S : List Addr} {A B C : Hp} (f : FrS Tb S A B) (g : FrS Tb S B C) : FrS Tb S A C := ⟨fun x u n t h => g.1 x u n t (f.1 x u n t h), fun b h => f.2.1 b (g.2.1 b h), fun h => g.2.2 (f.2.2 h)⟩
theorem FrS.of {S : List Addr} {A B : Hp} (s : Same A B) : FrS Tb S A B := ⟨fun x u _ _ h => s x u h, fun b h => s.free h, fun t => t.ext s⟩
theorem FrS.mono {S S' : List Addr} {A B : Hp} (f : FrS Tb S A B) (h : ∀ x ∈ S, x ∈ S') : FrS Tb S' A B := ⟨fun x u n t e => f.1 x u (fun m => n (h x m)) t e, f.2⟩
/-- a dict or a list -/
def DL (H : Hp) (a : Addr) : Prop := (∃ kvs, H a = some (.dK kvs)) ∨ ∃ xs, H a = some (.lst xs)
theorem DL.tab {H : Hp} {a : Addr} {o : HO} (d : DL H a) (t : TabsN Tb H) : TabsN Tb (upd H a o) := fun p hp => by
  obtain ⟨ps, t1, t2, t3⟩ := t p hp
  refine ⟨ps, ?_, t2, fun pos cv hc => ?_⟩
  · rw [upd_ne (fun z => by rcases d with ⟨_, d⟩ | ⟨_, d⟩ <;> rw [z, d] at t1 <;> cases t1)]
    exact t1
  · obtain ⟨c, e1, e2⟩ := t3 pos cv hc
    refine ⟨c, e1, ?_⟩
    rw [upd_ne (fun z => by rcases d with ⟨_, d⟩ | ⟨_, d⟩ <;> rw [z, d] at e2 <;> cases e2)]
    exact e2
theorem FrS.upd {S : List Addr} {H : Hp} {a : Addr} {o : HO} (h : a ∈ S) (d : DL H a) : FrS Tb S H (upd H a o) := ⟨fun x u n _ e => by rw [upd_ne (fun z => n (by rw [z]; exact h))]; exact e, fun b h' => by
  unfold L2.upd at h'
  split at h'
  · cases h'
  · exact h', d.tab⟩
theorem FrS.ext {S : List Addr} {H H' : Hp} (e : ExtN H H') (n : ∀ b, H' b = none → H b = none) (t : TabsN Tb H') : FrS Tb S H H' := ⟨fun x u _ t h => e x u h t, n, fun _ => t⟩
end
theorem Rd.mp {H H' : Hp} {a : Addr} {k : List (Key × V)} (h : ∀ o, H a = some o → (∀ ps, o ≠ .tbl ps) → H' a = some o) (r : Rd H a (.dK k)) : Rd H' a (.dK k) := r.imp (fun e => h _ e (fun _ z => by cases z)) fun ⟨o, e⟩ => ⟨o, h _ e (fun _ z => by cases z)⟩
theorem DGet.rd {H : Hp} {a : Addr} {k : Key} {kvs : List (Key × V)} (r : Rd H a (.dK kvs)) : DGet H a (kV k) (valV kvs k) := .inl ⟨_, k, r, rfl, rfl⟩
/-- where a reckoner stands -/
structure RkA where
  R : Addr
  gD : Addr
  rD : Addr
  kD : Addr
  fD : Addr
  aL : Addr
  B : Hp
def RkA.own (A : RkA) : List Addr := [A.kD, A.fD, A.aL]
def RdsV (H : Hp) (aL : Addr) (B : Hp) (rd : List Pr) (v : V) : Prop := ∃ L xs, v = .ref L ∧ L ≠ aL ∧ B L = none ∧ H L = some (.lst xs) ∧ Prs H rd xs
structure RkAt (C : Addr) (Tb : List NTab) (A : RkA) (h : House) (s : RkS) (H : Hp) : Prop where
  ins : ∃ dx fs, H A.R = some (.ins C dx fs) ∧ fs.lookup ("given" : Str) = some (.ref A.gD) ∧ fs.lookup ("recipes" : Str) = some (.ref A.rD) ∧ fs.lookup ("known" : Str) = some (.ref A.kD) ∧ fs.lookup ("read_for" : Str) = some (.ref A.fD) ∧ fs.lookup ("asked" : Str) = some (.ref A.aL) ∧ fs.lookup ("look_for" : Str) = none
  gv : H A.gD = some (.dK (numsK h.given))
  rc : ∃ kvs, Rd H A.rD (.dK kvs) ∧ KvR (Rec H) h.recs kvs
  kn : H A.kD = some (.dK (numsK s.known))
  rd : ∃ kvs, H A.fD = some (.dK kvs) ∧ KvR (RdsV H A.aL A.B) s.read kvs
  ask : H A.aL = some (.lst (txs s.asked))
  tab : TabsN Tb H
  bas : ∀ b, H b = none → A.B b = none
  ne : A.kD ≠ A.fD ∧ A.gD ≠ A.kD ∧ A.gD ≠ A.fD ∧ A.rD ≠ A.kD ∧ A.rD ≠ A.fD
  rn : ∀ kvs, H A.fD = some (.dK kvs) → (kvs.map (·.2)).Nodup
theorem FrS.keep {Tb : List NTab} {S : List Addr} {H H' : Hp} (f : FrS Tb S H H') (hS : ∀ x ∈ S, ∀ xs, H x ≠ some (.tup xs)) : Keep H H' := fun b ys e => f.1 b _ (fun m => hS b m ys e) (fun ps z => by cases z) e
theorem RdsV.fr {Tb : List NTab} {S : List Addr} {H H' : Hp} {aL : Addr} {B : Hp} {rd : List Pr} {v : V} (f : FrS Tb S H H') (k : Keep H H') (hl : ∀ L xs, H L = some (.lst xs) → L ≠ aL → L ∉ S) (h : RdsV H aL B rd v) : RdsV H' aL B rd v := by
  obtain ⟨L, xs, e, n, nb, hL, hP⟩ := h
  exact ⟨L, xs, e, n, nb, f.1 L _ (hl L xs hL n) (fun ps z => by cases z) hL, hP.keep k⟩
theorem RkAt.fr {C : Addr} {Tb : List NTab} {A : RkA} {h : House} {s : RkS} {S : List Addr} {H H' : Hp} (a : RkAt C Tb A h s H) (f : FrS Tb S H H') (hS : ∀ x ∈ S, (∀ xs, H x ≠ some (.tup xs)) ∧ x ≠ A.R ∧ x ≠ A.gD ∧ x ≠ A.rD ∧ x ≠ A.kD ∧ x ≠ A.fD ∧ x ≠ A.aL ∧ ∀ xs, H x ≠ some (.lst xs)) : RkAt C Tb A h s H' := by
  have st : ∀ {x : Addr} {u : HO}, x ∉ S → (∀ ps, u ≠ .tbl ps) → H x = some u → H' x = some u := fun n t e => f.1 _ _ n t e
  have k := f.keep fun x hx => (hS x hx).1
  obtain ⟨dx, fs, h1, h2⟩ := a.ins
  obtain ⟨kvs, h3, h4⟩ := a.rc
  obtain ⟨kvs2, h5, h6⟩ := a.rd
  refine ⟨⟨dx, fs, st (fun m => (hS _ m).2.1 rfl) (fun _ z => by cases z) h1, h2⟩, st (fun m => (hS _ m).2.2.1 rfl) (fun _ z => by cases z) a.gv, ⟨kvs, Rd.mp (fun o e t => st (fun m => (hS _ m).2.2.2.1 rfl) t e) h3, h4.imp fun r v q => q.keep k⟩, st (fun m => (hS _ m).2.2.2.2.1 rfl) (fun _ z => by cases z) a.kn,
    ⟨kvs2, st (fun m => (hS _ m).2.2.2.2.2.1 rfl) (fun _ z => by cases z) h5, h6.imp fun r v q => q.fr f k fun L xs e _ m => (hS _ m).2.2.2.2.2.2.2 xs e⟩, st (fun m => (hS _ m).2.2.2.2.2.2.1 rfl) (fun _ z => by cases z) a.ask, f.2.2 a.tab, (fun b e => a.bas b (f.2.1 b e)), a.ne, fun kvs e => by
      rw [st (fun m => (hS _ m).2.2.2.2.2.1 rfl) (fun _ z => by cases z) h5] at e
      cases e
      exact a.rn _ h5⟩
theorem RkAt.same {C : Addr} {Tb : List NTab} {A : RkA} {h : House} {s : RkS} {H H' : Hp} (a : RkAt C Tb A h s H) (sm : Same H H') : RkAt C Tb A h s H' := a.fr (S := []) (FrS.of sm) (fun _ h => nomatch h)
/-- a dict of its own is no part of it -/
theorem RkAt.ownD {C : Addr} {Tb : List NTab} {A : RkA} {h : House} {s : RkS} {H H' : Hp} {D : Addr} {kvs : List (Key × V)} (a : RkAt C Tb A h s H) (f : FrS Tb [D] H H') (hD : H D = some (.dK kvs)) (n1 : D ≠ A.gD) (n2 : D ≠ A.rD) (n3 : D ≠ A.kD) (n4 : D ≠ A.fD) : RkAt C Tb A h s H'   := a.fr f fun x hx => by
  rw [List.mem_singleton.mp hx]
  obtain ⟨dx, fs, h1, _⟩ := a.ins
  refine ⟨fun xs e => (by rw [hD] at e; cases e), fun z => (by rw [z, h1] at hD; cases hD), n1, n2, n3, n4, fun z => (by rw [z, a.ask] at hD; cases hD), fun xs e => (by rw [hD] at e; cases e)⟩
theorem RkAt.keepOwn {C : Addr} {Tb : List NTab} {A : RkA} {h : House} {s : RkS} {H H' : Hp} (a : RkAt C Tb A h s H) (f : FrS Tb A.own H H') : Keep H H' := f.keep fun x hx xs e => by
  obtain ⟨kvs, h5, _⟩ := a.rd
  rcases List.mem_cons.mp hx with rfl | hx
  · rw [a.kn] at e; cases e
  rcases List.mem_cons.mp hx with rfl | hx
  · rw [h5] at e; cases e
  rw [List.mem_singleton.mp hx, a.ask] at e
  cases e
theorem RkAt.extOwn {C : Addr} {Tb : List NTab} {A : RkA} {h : House} {s : RkS} {H H' : Hp} {b : Addr} {phi : Heap → Prop} (a : RkAt C Tb A h s H) (f : FrS Tb A.own H H') (e : H b = some (.ext phi)) : H' b = some (.ext phi) := f.1 b _ (fun hx => by
  obtain ⟨kvs, h5, _⟩ := a.rd
  rcases List.mem_cons.mp hx with rfl | hx
  · rw [a.kn] at e; cases e
  rcases List.mem_cons.mp hx with rfl | hx
  · rw [h5] at e; cases e
  rw [List.mem_singleton.mp hx, a.ask] at e
  cases e) (fun ps z => by cases z) e
/-- a worth known more -/
theorem RkAt.known {C : Addr} {Tb : List NTab} {A : RkA} {h : House} {s : RkS} {H : Hp} (a : RkAt C Tb A h s H) (t : List Nat) (v : Int) : RkAt C Tb A h { s with known := putA s.known t v } (upd H A.kD (.dK (numsK (putA s.known t v)))) := by
  obtain ⟨n1, n2, n3, n4, n5⟩ := a.ne
  obtain ⟨dx, fs, h1, h2⟩ := a.ins
  obtain ⟨kvs, h3, h4⟩ := a.rc
  obtain ⟨kvs2, h5, h6⟩ := a.rd
  have f : FrS Tb [A.kD] H (upd H A.kD (.dK (numsK (putA s.known t v)))) := FrS.upd (List.mem_singleton.mpr rfl) (.inl ⟨_, a.kn⟩)
  have k : Keep H (upd H A.kD (.dK (numsK (putA s.known t v)))) := f.keep fun x hx xs e => by rw [List.mem_singleton.mp hx, a.kn] at e; cases e
  refine ⟨⟨dx, fs, ?_, h2⟩, ?_, ⟨kvs, ?_, h4.imp fun r v q => q.keep k⟩, upd_same, ⟨kvs2, ?_, h6.imp fun r v q => q.fr f k fun L xs e _ m => by rw [List.mem_singleton.mp m, a.kn] at e; cases e⟩, ?_, f.2.2 a.tab, (fun b e => a.bas b (f.2.1 b e)), a.ne, fun kvs e => a.rn kvs (by rw [upd_ne n1.symm] at e; exact e)⟩
  · rw [upd_ne (fun z => by rw [z, a.kn] at h1; cases h1)]; exact h1
  · rw [upd_ne n2]; exact a.gv
  · exact Rd.mp (fun o e _ => by rw [upd_ne n4]; exact e) h3
  · rw [upd_ne n1.symm]; exact h5
  · rw [upd_ne (fun z => by have := a.ask; rw [z, a.kn] at this; cases this)]; exact a.ask
/-- other names asked -/
theorem RkAt.asking {C : Addr} {Tb : List NTab} {A : RkA} {h : House} {s : RkS} {H : Hp} (a : RkAt C Tb A h s H) (ns : List (List Nat)) : RkAt C Tb A h { s with asked := ns } (upd H A.aL (.lst (txs ns))) := by
  obtain ⟨dx, fs, h1, h2⟩ := a.ins
  obtain ⟨kvs, h3, h4⟩ := a.rc
  obtain ⟨kvs2, h5, h6⟩ := a.rd
  have f : FrS Tb [A.aL] H (upd H A.aL (.lst (txs ns))) := FrS.upd (List.mem_singleton.mpr rfl) (.inr ⟨_, a.ask⟩)
  have k : Keep H (upd H A.aL (.lst (txs ns))) := keep_lst a.ask
  refine ⟨⟨dx, fs, ?_, h2⟩, ?_, ⟨kvs, ?_, h4.imp fun r v q => q.keep k⟩, ?_, ⟨kvs2, ?_, h6.imp fun r v q => q.fr f k fun L xs e n m => n (List.mem_singleton.mp m)⟩, upd_same, f.2.2 a.tab, (fun b e => a.bas b (f.2.1 b e)), a.ne, fun kvs e => a.rn kvs (by rw [upd_ne (fun z => by rw [z, a.ask] at h5; cases h5)] at e; exact e)⟩
  · rw [upd_ne (fun z => by rw [z, a.ask] at h1; cases h1)]; exact h1
  · rw [upd_ne (fun z => by have := a.gv; rw [z, a.ask] at this; cases this)]; exact a.gv
  · exact Rd.mp (fun o e _ => by rw [upd_ne (fun z => by rcases h3 with h3 | ⟨_, h3⟩ <;> (rw [z, a.ask] at h3; cases h3))]; exact e) h3
  · rw [upd_ne (fun z => by have := a.kn; rw [z, a.ask] at this; cases this)]; exact a.kn
  · rw [upd_ne (fun z => by rw [z, a.ask] at h5; cases h5)]; exact h5
/-- reads put down -/
theorem RkAt.reads {C : Addr} {Tb : List NTab} {A : RkA} {h : House} {s : RkS} {H : Hp} (a : RkAt C Tb A h s H) {kvs2 : List (Key × V)} (h5 : H A.fD = some (.dK kvs2)) (h6 : KvR (RdsV H A.aL A.B) s.read kvs2) (t : List Nat) {own : List Pr} {v : V} (hv : RdsV H A.aL A.B own v) (hnew : ∀ q ∈ kvs2, q.2 ≠ v) (hnt : ¬ t ∈ s.read.map (·.1)) : RkAt C Tb A h { s with read := putA s.read t own } (upd H A.fD (.dK (putK kvs2 (kT (SX.S t)) v))) := by
  obtain ⟨n1, n2, n3, n4, n5⟩ := a.ne
  obtain ⟨dx, fs, h1, h2⟩ := a.ins
  obtain ⟨kvs, h3, h4⟩ := a.rc
  have f : FrS Tb [A.fD] H (upd H A.fD (.dK (putK kvs2 (kT (SX.S t)) v))) := FrS.upd (List.mem_singleton.mpr rfl) (.inl ⟨_, h5⟩)
  have k : Keep H (upd H A.fD (.dK (putK kvs2 (kT (SX.S t)) v))) := f.keep fun x hx xs e => by rw [List.mem_singleton.mp hx, h5] at e; cases e
  have up : ∀ r v, RdsV H A.aL A.B r v → RdsV (upd H A.fD (.dK (putK kvs2 (kT (SX.S t)) v))) A.aL A.B r v := fun r v q => by
    have f : FrS Tb [A.fD] H (upd H A.fD (.dK (putK kvs2 (kT (SX.S t)) v))) := FrS.upd (List.mem_singleton.mpr rfl) (.inl ⟨_, h5⟩)
    exact q.fr f (f.keep fun x hx xs e => by rw [List.mem_singleton.mp hx, h5] at e; cases e) fun L xs e n m => by rw [List.mem_singleton.mp m, h5] at e; cases e
  refine ⟨⟨dx, fs, ?_, h2⟩, ?_, ⟨kvs, ?_, h4.imp fun r v q => q.keep k⟩, ?_, ⟨_, upd_same, (KvR.put hv h6).imp fun r x q => ?_⟩, ?_, f.2.2 a.tab, (fun b e => a.bas b (f.2.1 b e)), a.ne, fun kvs e => ?_⟩
  · rw [upd_ne (fun z => by rw [z, h5] at h1; cases h1)]; exact h1
  · rw [upd_ne n3]; exact a.gv
  · exact Rd.mp (fun o e _ => by rw [upd_ne n5]; exact e) h3
  · rw [upd_ne n1]; exact a.kn
  · exact q.fr f k fun L xs e n m => by rw [List.mem_singleton.mp m, h5] at e; cases e
  · rw [upd_ne (fun z => by have := a.ask; rw [z, h5] at this; cases this)]; exact a.ask
  · rw [upd_same] at e
    cases e
    unfold putK
    rw [if_neg (by
      rw [h6.any]
      intro z
      obtain ⟨p, hp, e2⟩ := List.any_eq_true.mp z
      exact hnt (List.mem_map.mpr ⟨p, hp, of_decide_eq_true e2⟩)), List.map_append]
    refine List.nodup_append.mpr ⟨a.rn _ h5, List.nodup_cons.mpr ⟨(fun z => nomatch z), List.nodup_nil⟩, fun x hx y hy e2 => ?_⟩
    obtain ⟨q2, hq2, rfl⟩ := List.mem_map.mp hx
    rw [List.mem_singleton.mp hy] at e2
    exact hnew q2 hq2 e2
def lvR (dm n : Nat) : Nat := n * (dm + 2) + 1
/-- look_for's promise, by n names in one another -/
def spLF (C CN CR : Addr) (Tb : List NTab) (dm n : Nat) : Sp := fun vs H Q E => ∃ (A : RkA) (h : House) (beta : Nat → Nat) (s : RkS) (t : List Nat), vs = [.ref A.R, .str (SX.S t)] ∧ HouseOk dm h beta ∧ h.given.length + h.recs.length ≤ 100000 ∧ RkAt C Tb A h s H ∧ RkOk h beta s ∧ h.recs.length + 1 ≤ s.asked.length + n ∧ Nm t ∧
  TellW (fun s' H' => RkAt C Tb A h s' H') (FrS Tb A.own) (ErK CN CR) Q E H (lkR h n s t)
/-! ### look_for -/
open LamX NdefX
def At2 (C : Addr) (Tb : List NTab) (A : RkA) (h : House) (D : Addr) : RkS × List Pr → Hp → Prop := fun p H => RkAt C Tb A h p.1 H ∧ H D = some (.dK (numsK p.2)) ∧ D ≠ A.gD ∧ D ≠ A.rD ∧ D ≠ A.kD ∧ D ≠ A.fD
def J2 (h : House) (beta : Nat → Nat) (B : List (List Nat)) : RkS × List Pr → Prop := fun p => RkOk h beta p.1 ∧ p.1.asked = B ∧ OwnOk beta p.1 p.2
theorem At2.not {C : Addr} {Tb : List NTab} {A : RkA} {h : House} {D : Addr} {p : RkS × List Pr} {H : Hp} (a : At2 C Tb A h D p H) {x : Addr} (hx : x ∈ D :: A.own) : (∃ kvs, H x = some (.dK kvs)) ∨ ∃ xs, H x = some (.lst xs) := by
  obtain ⟨kvs, h5, _⟩ := a.1.rd
  rcases List.mem_cons.mp hx with rfl | hx
  · exact .inl ⟨_, a.2.1⟩
  rcases List.mem_cons.mp hx with rfl | hx
  · exact .inl ⟨_, a.1.kn⟩
  rcases List.mem_cons.mp hx with rfl | hx
  · exact .inl ⟨_, h5⟩
  rw [List.mem_singleton.mp hx]
  exact .inr ⟨_, a.1.ask⟩
theorem frOk2 (C : Addr) (Tb : List NTab) (A : RkA) (h : House) (D : Addr) : FrOk (At2 C Tb A h D) (FrS Tb (D :: A.own)) where
  refl := FrS.refl _
  trans := FrS.trans
  keep := fun a f => f.keep fun x hx xs e => by
    rcases a.not hx with ⟨_, z⟩ | ⟨_, z⟩ <;> rw [z] at e <;> cases e
  ext := fun a f e => f.1 _ _ (fun hx => by rcases a.not hx with ⟨_, z⟩ | ⟨_, z⟩ <;> rw [z] at e <;> cases e) (fun ps z => by cases z) e
/-! ### look_for walked -/
open LamX NdefX
theorem flown2 {H : Hp} {a dx : Addr} {x u v w : HO} (h1 : H a = none) (h2 : H dx = none) : Same H (upd (del (upd (upd (upd H a x) dx u) a v) a) dx w) := fun b o e => by
  rw [upd_ne (ne_of_none e h2), del_ne (ne_of_none e h1), upd_ne (ne_of_none e h1), upd_ne (ne_of_none e h2), upd_ne (ne_of_none e h1)]
  exact e
theorem FrS.drop {Tb : List NTab} {D : Addr} {S : List Addr} {H H' : Hp} (f : FrS Tb (D :: S) H H') (n : H D = none) : FrS Tb S H H' := ⟨fun x u m t e => f.1 x u (fun z => (List.mem_cons.mp z).elim (fun z => by rw [z, n] at e; cases e) m) t e, f.2⟩
theorem txs_snoc (ns : List (List Nat)) (t : List Nat) : txs ns ++ [.str (SX.S t)] = txs (ns ++ [t]) := by rw [txs_app]; rfl
theorem txs_pop (ns : List (List Nat)) (t : List Nat) : (txs (ns ++ [t])).dropLast = txs ns ∧ (txs (ns ++ [t]))[(txs (ns ++ [t])).length - 1]? = some (.str (SX.S t)) := by
  rw [← txs_snoc]
  refine ⟨List.dropLast_concat, ?_⟩
  rw [List.length_append, List.getElem?_append_right (by simp)]
  simp
theorem rcp_seen (l : List RcpNm) (t : List Nat) : getA l t = rcpOf l t := rfl
/-! ### a reckoner made; worth_of, reads_of -/
open LamX NdefX
theorem putF_le (f : Str) (v : V) : ∀ fs : List (Str × V), (putF f v fs).length ≤ fs.length + 1
  | [] => Nat.le_refl _
  | (g, y) :: r => by
    unfold putF
    by_cases c : g = f
    · rw [if_pos c]
      exact Nat.le_succ _
    · rw [if_neg c]
      exact Nat.succ_le_succ (putF_le f v r)
/-- what __init__ leaves -/
def spRkI (C : Addr) : Sp := fun vs H Q _ => ∃ (R dx p gD rD : Addr), vs = [.ref R, .ref p] ∧ H R = some (.ins C dx []) ∧ H p = some (.tup [.ref gD, .ref rD]) ∧
  ∀ (kD fD aL : Addr) (H' : Hp), H kD = none → H fD = none → H aL = none → kD ≠ fD → (∃ fs, H' R = some (.ins C dx fs) ∧ fs.lookup ("given" : Str) = some (.ref gD) ∧ fs.lookup ("recipes" : Str) = some (.ref rD) ∧ fs.lookup ("known" : Str) = some (.ref kD) ∧ fs.lookup ("read_for" : Str) = some (.ref fD) ∧ fs.lookup ("asked" : Str) = some (.ref aL) ∧ fs.lookup ("look_for" : Str) = none) →
    H' kD = some (.dK []) → H' fD = some (.dK []) → H' aL = some (.lst []) → (∀ b o, b ≠ R → H b = some o → H' b = some o) → Q .non H'
/-- a house stands at v -/
def HouseAt (H : Hp) (h : House) (v : V) : Prop := ∃ (p gD rD : Addr) (kvs : List (Key × V)), v = .ref p ∧ H p = some (.tup [.ref gD, .ref rD]) ∧ H gD = some (.dK (numsK h.given)) ∧ Rd H rD (.dK kvs) ∧ KvR (Rec H) h.recs kvs
theorem HouseAt.same {H H' : Hp} {h : House} {v : V} (a : HouseAt H h v) (s : Same H H') : HouseAt H' h v := by
  obtain ⟨p, gD, rD, kvs, e, h1, h2, h3, h4⟩ := a
  exact ⟨p, gD, rD, kvs, e, s _ _ h1, s _ _ h2, Rd.mp (fun _ e _ => s _ _ e) h3, h4.imp fun r v q => q.same s⟩
/-- what worth_of tells: the worth, or the error flies -/
def TellO2 (Tb : List NTab) (CN CR : Addr) (Q : VK) (E : XK) (H : Hp) (o : OutR RkS) (R : RkS → Int → V → Hp → Prop) : Prop := match o with
  | .ok v s => ∀ x H', FrS Tb [] H H' → R s v x H' → Q x H'
  | .err e => ∀ H', FrS Tb [] H H' → ErK CN CR e E H'
def spWorthOf (CN CR : Addr) (Tb : List NTab) (dm n : Nat) : Sp := fun vs H Q E => ∃ (v : V) (h : House) (beta : Nat → Nat) (t : List Nat), vs = [v, .str (SX.S t)] ∧ HouseOk dm h beta ∧ h.given.length + h.recs.length ≤ 100000 ∧ h.recs.length + 1 ≤ n ∧ HouseAt H h v ∧ TabsN Tb H ∧ Nm t ∧
  TellO2 Tb CN CR Q E H (lkR h n emptyS t) fun _ v x _ => x = .int v
/-- the reads put down for t, [] of a given one -/
def readsFor (s : RkS) (t : List Nat) : List Pr := (getA s.read t).getD []
def spReadsOf (CN CR : Addr) (Tb : List NTab) (dm n : Nat) : Sp := fun vs H Q E => ∃ (v : V) (h : House) (beta : Nat → Nat) (t : List Nat), vs = [v, .str (SX.S t)] ∧ HouseOk dm h beta ∧ h.given.length + h.recs.length ≤ 100000 ∧ h.recs.length + 1 ≤ n ∧ HouseAt H h v ∧ TabsN Tb H ∧ Nm t ∧
  TellO2 Tb CN CR Q E H (lkR h n emptyS t) fun s _ x H' => ∃ L xs, x = .ref L ∧ H L = none ∧ H' L = some (.lst xs) ∧ Prs H' (readsFor s t) xs
section
variable {P : Program} {w : World} {K : PySem.W.Frag} {mg : Str → Option Value} {base : Heap} {C fI CN CR : Addr} {Tb : List NTab}
theorem rd_ne {H : Hp} {a b : Addr} {u : HO} (r : Rd H a u) (n : H b = none) : a ≠ b := fun z => by rcases r with r | ⟨_, r⟩ <;> (rw [z, n] at r; cases r)
theorem rk_made {C R dx gD rD kD fD aL p : Addr} {Tb : List NTab} {h : House} {H H1 : Hp} {kvs : List (Key × V)} (nR : H R = none) (ndx : H dx = none) (hp : H p = some (.tup [.ref gD, .ref rD])) (hg : H gD = some (.dK (numsK h.given))) (hrd : Rd H rD (.dK kvs)) (hrr : KvR (Rec H) h.recs kvs) (hT : TabsN Tb H)
    (nk : upd (upd H dx (.own R)) R (.ins C dx []) kD = none) (nf : upd (upd H dx (.own R)) R (.ins C dx []) fD = none) (na : upd (upd H dx (.own R)) R (.ins C dx []) aL = none) (nkf : kD ≠ fD)
    (hfs : ∃ fs, H1 R = some (.ins C dx fs) ∧ fs.lookup ("given" : Str) = some (.ref gD) ∧ fs.lookup ("recipes" : Str) = some (.ref rD) ∧ fs.lookup ("known" : Str) = some (.ref kD) ∧ fs.lookup ("read_for" : Str) = some (.ref fD) ∧ fs.lookup ("asked" : Str) = some (.ref aL) ∧ fs.lookup ("look_for" : Str) = none)
    (hk : H1 kD = some (.dK [])) (hf : H1 fD = some (.dK [])) (ha : H1 aL = some (.lst [])) (hs : ∀ b o, b ≠ R → upd (upd H dx (.own R)) R (.ins C dx []) b = some o → H1 b = some o) :
    RkAt C Tb ⟨R, gD, rD, kD, fD, aL, H⟩ h emptyS H1 ∧ Same H H1 ∧ H kD = none ∧ H fD = none ∧ H aL = none := by
  have sm : Same H H1 := fun b o e => hs b o (ne_of_none e nR) (by rw [upd_ne (ne_of_none e nR), upd_ne (ne_of_none e ndx)]; exact e)
  have fr : ∀ {x}, upd (upd H dx (.own R)) R (.ins C dx []) x = none → H x = none := fun {x} e => by
    have n1 : x ≠ R := fun z => by rw [z, upd_same] at e; cases e
    rw [upd_ne n1] at e
    have n2 : x ≠ dx := fun z => by rw [z, upd_same] at e; cases e
    rwa [upd_ne n2] at e
  obtain ⟨fs, h1, h2⟩ := hfs
  refine ⟨⟨⟨dx, fs, h1, h2⟩, sm _ _ hg, ⟨kvs, Rd.mp (fun _ e _ => sm _ _ e) hrd, hrr.imp fun r v q => q.same sm⟩, hk, ⟨[], hf, trivial⟩, ha, hT.ext sm, (fun b e => sm.free e), ⟨nkf, ?_, ?_, ?_, ?_⟩, fun kvs e => by rw [hf] at e; cases e; exact List.nodup_nil⟩, sm, fr nk, fr nf, fr na⟩
  · exact ne_of_none hg (fr nk)
  · exact ne_of_none hg (fr nf)
  · exact rd_ne hrd (fr nk)
  · exact rd_ne hrd (fr nf)
/-- what a new reckoner works changes nothing that stood ahead of it -/
theorem FrS.news {Tb : List NTab} {A : RkA} {H H' : Hp} (f : FrS Tb A.own H H') {B : Hp} (s : Same B H) (n1 : B A.kD = none) (n2 : B A.fD = none) (n3 : B A.aL = none) : FrS Tb [] B H' :=
  ⟨fun x u _ t e => f.1 x u (fun hx => by
    rcases List.mem_cons.mp hx with rfl | hx
    · rw [n1] at e; cases e
    rcases List.mem_cons.mp hx with rfl | hx
    · rw [n2] at e; cases e
    rw [List.mem_singleton.mp hx, n3] at e
    cases e) t (s _ _ e), fun b e => s.free (f.2.1 b e), fun t => f.2.2 (t.ext s)⟩
end
/-! ### frames with tables, further -/
open LamX NdefX
section
variable {Tb : List NTab}
theorem FrS.seq {K : PySem.W.Frag} {S : List Addr} {H H' : Hp} {a : Addr} {xs : List V} (f : FrS Tb S H H') (n : a ∉ S) (h : SqL K H a xs) : SqL K H' a xs := h.imp (fun r => r.imp (fun r => f.1 _ _ n (fun _ z => nomatch z) r) fun ⟨o, r⟩ => ⟨o, f.1 _ _ n (fun _ z => nomatch z) r⟩) id
theorem FrS.dropAll {S : List Addr} {H H' : Hp} (f : FrS Tb S H H') (h : ∀ x ∈ S, H x = none) : FrS Tb [] H H' := ⟨fun x u _ t e => f.1 x u (fun m => by rw [h x m] at e; cases e) t e, f.2⟩
theorem FrS.dict1 {H H' : Hp} {p : Addr} {k : List (Key × V)} (h1 : H p = some (.dK k)) (h2 : ∀ b u, b ≠ p → H b = some u → H' b = some u) (h3 : ∀ b, H' b = none → H b = none) : FrS Tb [p] H H' :=
  ⟨fun x u n _ e => h2 x u (fun z => n (by rw [z]; exact List.mem_singleton.mpr rfl)) e, h3, fun t q hq => by
    obtain ⟨ps, t1, t2, t3⟩ := t q hq
    refine ⟨ps, h2 _ _ (fun z => by rw [z, h1] at t1; cases t1) t1, t2, fun pos cv hc => ?_⟩
    obtain ⟨c, e1, e2⟩ := t3 pos cv hc
    exact ⟨c, e1, h2 _ _ (fun z => by rw [z, h1] at e2; cases e2) e2⟩⟩
end
theorem FrS.trans' {Tb : List NTab} {R p : Addr} {A B C : Hp} {k : List (Key × V)} {o : HO} (f : FrS Tb [] A B) (g : FrS Tb [p] B C) (h : C R = some (.dK k)) : FrS Tb [R, p] A (L2.upd C R o) :=
  (FrS.mono f (fun _ h => nomatch h)).trans ((g.mono fun _ h => List.mem_cons_of_mem _ h).trans (FrS.upd List.mem_cons_self (.inl ⟨_, h⟩)))
/-! ### reckoners at rest -/
/-! #### in which order the records come, and where what is known comes from -/
structure Ord (h : House) (s : RkS) : Prop where
  at_ : ∀ i p, s.read[i]? = some p → ∀ u ∈ p.2.map (·.1), u ∈ h.given.map (·.1) ∨ u ∈ (s.read.take i).map (·.1)
  kno : ∀ p ∈ s.read, ∀ u ∈ p.2.map (·.1), u ∈ s.known.map (·.1)
/-- what one look adds -/
structure Grow (s s' : RkS) (t : List (List Nat)) : Prop where
  pre : ∃ l, s'.read = s.read ++ l
  src : ∀ u ∈ s'.known.map (·.1), u ∈ s.known.map (·.1) ∨ u ∈ t ∨ ∃ p ∈ s'.read, u ∈ p.2.map (·.1)
theorem Grow.refl (s : RkS) (t : List (List Nat)) : Grow s s t := ⟨⟨[], (List.append_nil _).symm⟩, fun _ h => .inl h⟩
theorem Grow.trans {s s1 s2 : RkS} {t t1 t2 : List (List Nat)} (f : Grow s s1 t1) (g : Grow s1 s2 t2) (h1 : ∀ u ∈ t1, u ∈ t) (h2 : ∀ u ∈ t2, u ∈ t) : Grow s s2 t := by
  obtain ⟨l1, e1⟩ := f.pre
  obtain ⟨l2, e2⟩ := g.pre
  refine ⟨⟨l1 ++ l2, by rw [e2, e1, List.append_assoc]⟩, fun u hu => ?_⟩
  rcases g.src u hu with hu | hu | hu
  · rcases f.src u hu with hu | hu | ⟨p, hp, hu⟩
    · exact .inl hu
    · exact .inr (.inl (h1 u hu))
    · exact .inr (.inr ⟨p, by rw [e2]; exact List.mem_append_left _ hp, hu⟩)
  · exact .inr (.inl (h2 u hu))
  · exact .inr (.inr hu)
theorem wk_grow {dm : Nat} {h : House} {beta : Nat → Nat} (HH : HouseN dm h beta) {lk : RkS → List Nat → OutR RkS} {A : List (List Nat)}
    (hlk : ∀ s t v s', RkOk h beta s → Coh h s → Ord h s → s.asked = A → Nm t → lk s t = .ok v s' → Step h beta s t v s' ∧ Coh h s' ∧ Ord h s' ∧ Grow s s' [t]) :
    ∀ {r : Rcp} {p p' : RkS × List Pr} {v : Int}, r.Wn → RkOk h beta p.1 → Coh h p.1 → Ord h p.1 → p.1.asked = A → wk (lkOwn lk) r p = .ok v p' → RkOk h beta p'.1 ∧ Coh h p'.1 ∧ Ord h p'.1 ∧ p'.1.asked = A ∧ Grow p.1 p'.1 (p'.2.map (·.1)) ∧ ∀ u ∈ p.2.map (·.1), u ∈ p'.2.map (·.1) := by
  have look : ∀ {t : List Nat} {p p' : RkS × List Pr} {v : Int}, Nm t → RkOk h beta p.1 → Coh h p.1 → Ord h p.1 → p.1.asked = A → lkOwn lk p t = .ok v p' → RkOk h beta p'.1 ∧ Coh h p'.1 ∧ Ord h p'.1 ∧ p'.1.asked = A ∧ Grow p.1 p'.1 (p'.2.map (·.1)) ∧ ∀ u ∈ p.2.map (·.1), u ∈ p'.2.map (·.1) := by
    intro t p p' v ht o c od a e
    obtain ⟨e1, e2⟩ := lkOwn_ok e
    obtain ⟨st, c1, o1, g1⟩ := hlk _ _ _ _ o c od a ht e1
    rw [e2]
    exact ⟨st.ok, c1, o1, st.asked.trans a, g1.trans (Grow.refl _ _) (fun u hu => by rw [List.mem_singleton.mp hu]; exact setd_keys.mpr (.inr rfl)) (fun _ h => h), fun u hu => setd_keys.mpr (.inl hu)⟩
  intro r
  induction r with
  | num n => intro p p' v _ o c od a e; cases e; exact ⟨o, c, od, a, Grow.refl _ _, fun _ h => h⟩
  | read t => exact fun w o c od a e => look w o c od a e
  | two kd a b ia ib =>
    intro p p' v w o c od ha e
    obtain ⟨x, p1, h1, h2⟩ := OutR.bind_ok e
    obtain ⟨y, p2, h3, h4⟩ := OutR.bind_ok h2
    cases h4
    obtain ⟨o1, c1, d1, a1, g1, k1⟩ := ia w.1 o c od ha h1
    obtain ⟨o2, c2, d2, a2, g2, k2⟩ := ib w.2 o1 c1 d1 a1 h3
    exact ⟨o2, c2, d2, a2, g1.trans g2 k2 (fun _ h => h), fun u hu => k2 u (k1 u hu)⟩
  | pick a b d ia ib id =>
    intro p p' v w o c od ha e
    obtain ⟨x, p1, h1, h2⟩ := OutR.bind_ok e
    obtain ⟨o1, c1, d1, a1, g1, k1⟩ := ia w.1 o c od ha h1
    by_cases z : x > 0
    · simp only [if_pos z] at h2
      obtain ⟨o2, c2, d2, a2, g2, k2⟩ := ib w.2.1 o1 c1 d1 a1 h2
      exact ⟨o2, c2, d2, a2, g1.trans g2 k2 (fun _ h => h), fun u hu => k2 u (k1 u hu)⟩
    · simp only [if_neg z] at h2
      obtain ⟨o2, c2, d2, a2, g2, k2⟩ := id w.2.2 o1 c1 d1 a1 h2
      exact ⟨o2, c2, d2, a2, g1.trans g2 k2 (fun _ h => h), fun u hu => k2 u (k1 u hu)⟩
  | choose a ns ia =>
    intro p p' v w o c od ha e
    obtain ⟨x, p1, h1, h2⟩ := OutR.bind_ok e
    obtain ⟨o1, c1, d1, a1, g1, k1⟩ := ia w.1 o c od ha h1
    obtain ⟨i, _, hi⟩ := nth_mem w.2.1 x
    obtain ⟨o2, c2, d2, a2, g2, k2⟩ := look (w.2.2.2 _ (List.mem_of_getElem? hi)) o1 c1 d1 a1 h2
    exact ⟨o2, c2, d2, a2, g1.trans g2 k2 (fun _ h => h), fun u hu => k2 u (k1 u hu)⟩
theorem lkR_grow {dm : Nat} {h : House} {beta : Nat → Nat} (HH : HouseN dm h beta) : ∀ (n : Nat) (s : RkS) (t : List Nat) (v : Int) (s' : RkS), RkOk h beta s → Coh h s → Ord h s → Nm t → lkR h n s t = .ok v s' → Ord h s' ∧ Grow s s' [t]
  | 0, s, t, v, s', _, _, _, _, e => by cases e
  | n + 1, s, t, v, s', o, c, od, ht, e => by
    have e0 := e
    unfold lkR at e
    cases e1 : seen s.known t with
    | some x =>
      rw [e1] at e
      cases e
      exact ⟨od, Grow.refl _ _⟩
    | none =>
      rw [e1] at e
      cases e2 : seen h.given t with
      | some x =>
        rw [e2] at e
        cases e
        refine ⟨⟨od.at_, fun p hp u hu => putA_mem.mpr (.inl (od.kno p hp u hu))⟩, ⟨[], (List.append_nil _).symm⟩, fun u hu => ?_⟩
        rcases putA_mem.mp hu with hu | rfl
        · exact .inl hu
        · exact .inr (.inl (List.mem_singleton.mpr rfl))
      | none =>
        rw [e2] at e
        cases e3 : rcpOf h.recs t with
        | none => rw [e3] at e; cases e
        | some r =>
          rw [e3] at e
          by_cases z : t ∈ s.asked
          · simp only [if_pos z] at e
            cases e
          · simp only [if_neg z] at e
            cases e4 : wk (lkOwn (lkR h n)) r ({ s with asked := s.asked ++ [t] }, []) with
            | err x => rw [e4] at e; cases e
            | ok w p =>
              rw [e4] at e
              cases e
              obtain ⟨o1, _⟩ := o.ask e3 e1 z
              have c0 : Coh h { s with asked := s.asked ++ [t] } := ⟨c.kn, c.rd, c.kr⟩
              have wn := (HH.rcp _ (rcpOf_mem e3)).2.1
              obtain ⟨o2, c2, d2, a2, g2, _⟩ := wk_grow HH (lk := lkR h n) (A := s.asked ++ [t]) (fun s1 u x s2 q1 b1 d1 a1 hu eu => by
                obtain ⟨x1, x2⟩ := lkR_grow HH n s1 u x s2 q1 b1 d1 hu eu
                exact ⟨lkR_step HH n s1 u x s2 q1 hu eu, (lkR_sound n s1 u x s2 b1 eu).2, x1, x2⟩) (p := ({ s with asked := s.asked ++ [t] }, [])) wn o1 c0 ⟨od.at_, od.kno⟩ rfl e4
              obtain ⟨_, _, _, q2, _⟩ := wk_step (lk := lkR h n) (A := s.asked ++ [t]) (fun s1 u x s2 q1 a1 hu eu => lkR_step HH n s1 u x s2 q1 hu eu) (p := ({ s with asked := s.asked ++ [t] }, [])) wn o1 rfl (OwnOk.nil _ _) e4
              have ct : ¬ t ∈ p.1.read.map (·.1) := fun z2 => (List.nodup_append.mp o2.nd).2.2 t (by rw [a2]; exact List.mem_append_right _ (List.mem_singleton.mpr rfl)) t z2 rfl
              have er : putA p.1.read t p.2 = p.1.read ++ [(t, p.2)] := putA_new _ ct
              obtain ⟨l, el⟩ := g2.pre
              refine ⟨⟨fun i q hq u hu => ?_, fun q hq u hu => ?_⟩, ⟨l ++ [(t, p.2)], ?_⟩, fun u hu => ?_⟩
              · have hq : (putA p.1.read t p.2)[i]? = some q := hq
                show _ ∨ u ∈ ((putA p.1.read t p.2).take i).map (·.1)
                rw [er] at hq ⊢
                by_cases hi : i < p.1.read.length
                · rw [List.getElem?_append_left hi] at hq
                  rw [List.take_append_of_le_length (Nat.le_of_lt hi)]
                  exact d2.at_ i q hq u hu
                · have : i = p.1.read.length := by
                    have := (List.getElem?_eq_some_iff.mp hq).1
                    rw [List.length_append] at this
                    simp only [List.length_cons, List.length_nil] at this
                    omega
                  subst this
                  rw [List.getElem?_append_right (Nat.le_refl _), Nat.sub_self] at hq
                  cases hq
                  rw [List.take_append_of_le_length (Nat.le_refl _), List.take_length]
                  exact c2.kr u (q2.kn u hu)
              · have hq : q ∈ putA p.1.read t p.2 := hq
                refine putA_mem.mpr (.inl ?_)
                rcases mem_putA hq with rfl | hq
                · exact q2.kn u hu
                · exact d2.kno q hq u hu
              · show putA p.1.read t p.2 = _
                rw [er, el, List.append_assoc]
              · show _ ∨ _ ∨ ∃ q ∈ putA p.1.read t p.2, _
                rw [er]
                rcases putA_mem.mp hu with hu | rfl
                · rcases g2.src u hu with hu | hu | ⟨q, hq, hu⟩
                  · exact .inl hu
                  · exact .inr (.inr ⟨(t, p.2), List.mem_append_right _ (List.mem_singleton.mpr rfl), hu⟩)
                  · exact .inr (.inr ⟨q, List.mem_append_left _ hq, hu⟩)
                · exact .inr (.inl (List.mem_singleton.mpr rfl))
/-- a reckoner at rest -/
structure Rest (h : House) (beta : Nat → Nat) (s : RkS) : Prop where
  ok : RkOk h beta s
  coh : Coh h s
  ord : Ord h s
  no : s.asked = []
theorem Rest.empty (h : House) (beta : Nat → Nat) : Rest h beta emptyS := ⟨emptyOk h beta, Coh.empty h, ⟨fun i p e => by simp [emptyS] at e, fun p hp => by simp [emptyS] at hp⟩, rfl⟩
theorem Rest.look {dm : Nat} {h : House} {beta : Nat → Nat} (HH : HouseOk dm h beta) {n : Nat} {s s' : RkS} {t : List Nat} {v : Int} (r : Rest h beta s) (ht : Nm t) (e : lkR h n s t = .ok v s') : Rest h beta s' ∧ Val h t v ∧ Grow s s' [t] ∧ t ∈ s'.known.map (·.1) ∧ ∀ u ∈ s.known.map (·.1), u ∈ s'.known.map (·.1) := by
  have st := lkR_step HH.n n s t v s' r.ok ht e
  obtain ⟨v1, c1⟩ := lkR_sound n s t v s' r.coh e
  obtain ⟨o1, g1⟩ := lkR_grow HH.n n s t v s' r.ok r.coh r.ord ht e
  exact ⟨⟨st.ok, c1, o1, st.asked.trans r.no⟩, v1, g1, st.got, st.mono⟩
theorem Rest.told {dm : Nat} {h : House} {beta : Nat → Nat} (HH : HouseOk dm h beta) {n : Nat} {s : RkS} {t : List Nat} {v : Int} (r : Rest h beta s) (ht : Nm t) (hv : Val h t v) (hn : h.recs.length + 1 ≤ n) : ∃ s', lkR h n s t = .ok v s' := by
  obtain ⟨m, hm⟩ := hv
  exact lkR_total HH.n n s t m v r.ok r.coh ht hm (fun a ha => by rw [r.no] at ha; cases ha) (by rw [r.no]; simpa using hn)
/-- the worth alone is told just where there is one -/
theorem alone_ok {dm : Nat} {h : House} {beta : Nat → Nat} (HH : HouseOk dm h beta) {n : Nat} {t : List Nat} {v : Int} (ht : Nm t) (hn : h.recs.length + 1 ≤ n) : (∃ s, lkR h n emptyS t = .ok v s) ↔ Val h t v :=
  ⟨fun ⟨_, e⟩ => ((Rest.empty h beta).look HH ht e).2.1, fun hv => (Rest.empty h beta).told HH ht hv hn⟩
/-- its reads -/
theorem alone_reads {dm : Nat} {h : House} {beta : Nat → Nat} (HH : HouseOk dm h beta) {n : Nat} {t : List Nat} {v : Int} {s : RkS} (ht : Nm t) (e : lkR h n emptyS t = .ok v s) : (seen h.given t = none ∧ Rds h t (readsFor s t)) ∨ (∃ x, seen h.given t = some x) ∧ readsFor s t = [] := by
  obtain ⟨r, hv, g, got, _⟩ := (Rest.empty h beta).look HH ht e
  have hr : ∀ own, getA s.read t = some own → Rds h t own := fun own e1 => by
    unfold getA at e1
    cases e2 : s.read.find? fun p => decide (p.1 = t) with
    | none => rw [e2] at e1; cases e1
    | some p =>
      rw [e2] at e1
      cases e1
      have := r.coh.rd p (List.mem_of_find?_eq_some e2)
      have h2 : p.1 = t := by
        have := List.find?_some e2
        exact of_decide_eq_true this
      rw [h2] at this
      exact this
  cases e1 : seen h.given t with
  | some x =>
    refine .inr ⟨⟨x, rfl⟩, ?_⟩
    unfold readsFor
    cases e2 : getA s.read t with
    | none => rfl
    | some own => have := (hr own e2).1; rw [e1] at this; cases this
  | none =>
    refine .inl ⟨rfl, ?_⟩
    have : t ∈ s.read.map (·.1) := (r.coh.kr t got).resolve_left fun z => by
      obtain ⟨p, hp, e3⟩ := List.mem_map.mp z
      unfold seen at e1
      rw [Option.map_eq_none_iff, List.find?_eq_none] at e1
      exact e1 p hp (decide_eq_true e3)
    unfold readsFor
    cases e2 : getA s.read t with
    | some own => exact hr own e2
    | none =>
      unfold getA at e2
      rw [Option.map_eq_none_iff, List.find?_eq_none] at e2
      obtain ⟨p, hp, e3⟩ := List.mem_map.mp this
      exact absurd (decide_eq_true e3) (e2 p hp)
end Mad
/-! ### tuples, lists made: what is told is a heap that keeps all -/
namespace L2
open PySem PySem.Spec PyProof.Rows
/-! one step of a walk, with the slots told anew -/
theorem in_name {i : Nat} {v : V} {σ σ' : St} {H : Hp} {Q : St → Hp → Prop} (e : σ.set i (some v) = σ') (h : Q σ' H) : gName i v σ H Q := by
  subst e
  exact h
theorem in_nx {nx bk ct : St → Hp → Prop} {rt : VK} {σ : St} {H : Hp} (h : nx σ H) : Ends.nx (Ends.mk nx rt bk ct) σ H := h
theorem in_seq {t u : TS} {D : Ends} {σ : St} {H : Hp} (h : t { D with nx := u D } σ H) : tSeq t u D σ H := h
theorem in_asg {te : TE} {g : TG} {D : Ends} {σ : St} {H : Hp} (h : te σ H fun x H1 => g x σ H1 D.nx) : tAsg te g D σ H := h
def SameU (A B : Hp) : Prop := ∀ b u, A b = some u → B b = some u
def tTupA (t : TA) : TE := fun σ H Q => t σ H fun xs H1 => xs.length ≤ sizeLine ∧ ∀ p H2, H1 p = none → SameU H1 H2 → H2 p = some (.tup xs) → Q (.ref p) H2
def tLstA (t : TA) : TE := fun σ H Q => t σ H fun xs H1 => xs.length ≤ sizeLine ∧ ∀ p H2, H1 p = none → SameU H1 H2 → H2 p = some (.lst xs) → Q (.ref p) H2
theorem sameU_new {H : Hp} {p : Addr} (h : H p = none) (o : HO) : SameU H (upd H p o) := fun b u q => by rw [upd_ne (ne_of_none q h)]; exact q
section
variable {X : Cx} {es : List Expr} {t : TA} {pos : Pos}
theorem pe_tupA {x1} (h : PA X es t) : PE X (.Tuple es x1 pos) (tTupA t) := by
  refine ⟨fun pins s σ H Q I hq => ?_⟩
  refine wpAny_Tuple_spliced (thn (h.run pos pins s σ H _ I hq) fun us s1 ⟨xs, H1, I1, r, z, q⟩ => ⟨by rw [← r.length]; exact z, ?_⟩)
  have hf : H1 s1.heap.objs.size = none := I1.hok.fresh (Nat.le_refl _)
  refine ⟨.ref s1.heap.objs.size, upd H1 s1.heap.objs.size (.tup xs), I1.laid (t' := s1.toks) (fun b u e => Heap.get?_push_of_some _ e) (Nat.le_refl _) ?_, rfl, q _ _ hf (sameU_new hf _) upd_same⟩
  exact ⟨z, us, r, ⟨_, Heap.get?_push_size _ rfl, rfl, _, rfl⟩⟩
theorem pe_lstA (h : PA X es t) : PE X (.List es pos) (tLstA t) := by
  refine ⟨fun pins s σ H Q I hq => ?_⟩
  refine wpAny_List_spliced (thn (h.run pos pins s σ H _ I hq) fun us s1 ⟨xs, H1, I1, r, z, q⟩ => ⟨by rw [← r.length]; exact z, ?_⟩)
  have hf : H1 s1.heap.objs.size = none := I1.hok.fresh (Nat.le_refl _)
  refine ⟨.ref s1.heap.objs.size, upd H1 s1.heap.objs.size (.lst xs), I1.laid (t' := s1.toks) (fun b u e => Heap.get?_push_of_some _ e) (Nat.le_refl _) ?_, rfl, q _ _ hf (sameU_new hf _) upd_same⟩
  exact ⟨z, us, 0, r, Heap.get?_push_size _ rfl⟩
def rCatU : R2 := fun x y H Q => ∃ l b xs zs, x = .ref l ∧ y = .ref b ∧ H l = some (.lst xs) ∧ H b = some (.lst zs) ∧ xs.length + zs.length ≤ sizeLine ∧ ∀ p H2, H p = none → SameU H H2 → H2 p = some (.lst (xs ++ zs)) → Q (.ref p) H2
theorem op_catU : OpR X (binaryOp .Add) rCatU := by
  intro pins s σ H x y v u Q I rx ry h
  obtain ⟨l, b, xs, zs, e1, e2, h1, h2, h3, q⟩ := h
  exact op_cat pins s σ H x y v u Q I rx ry ⟨l, b, xs, zs, e1, e2, h1, h2, h3, fun p np => q p _ np (sameU_new np _) upd_same⟩
end
end L2
namespace Mad
open PySem PySem.Spec PyProof.Rows L2
end Mad
/-! ### sorted of texts, any number of them: over the library's sort by any order -/
namespace MadSort
open PySem PyProof.Rows Srt SrtO
section
variable {prog : Program} {w : World} {A : Around} {s : Shared}
def tx : Value → List Nat
  | .str x _ => x.cps.toList
  | _ => []
def ltT (v u : Value) : Bool := decide (tx v < tx u)
theorem swoT : Swo ltT := by
  refine ⟨fun x y h => ?_, fun x y z h1 h2 => ?_⟩
  · have a : tx x < tx y := of_decide_eq_true h
    exact decide_eq_false (List.lt_asymm a)
  · have a : ¬ tx y < tx x := of_decide_eq_false h1
    have b : ¬ tx z < tx y := of_decide_eq_false h2
    exact decide_eq_false (List.not_lt.mpr (List.le_trans (List.not_lt.mp a) (List.not_lt.mp b)))
theorem memT : ∀ {vs : List Value} {ss : List Str}, StrsAre vs ss → ∀ v ∈ vs, ∃ x t, v = Value.str x t
  | _, _, .nil, v, h => by cases h
  | _, _, .cons y t r, v, h => by
    rcases List.mem_cons.mp h with e | e
    · exact ⟨y, t, e⟩
    · exact memT r v e
def ofTx (v : Value) : Str := ⟨(tx v).toArray⟩
theorem areT : ∀ {vs : List Value}, (∀ v ∈ vs, ∃ x t, v = Value.str x t) → StrsAre vs (vs.map ofTx)
  | [], _ => .nil
  | v :: vs, h => by
    obtain ⟨x, t, e⟩ := h v (List.mem_cons_self ..)
    subst e
    have ih := areT fun u hu => h u (List.mem_cons_of_mem _ hu)
    have ex : ofTx (Value.str x t) = x := by
      show (⟨x.cps.toList.toArray⟩ : Str) = x
      cases x; simp
    rw [List.map_cons, ex]
    exact .cons x t ih
theorem backT : ∀ {vs : List Value} {ss : List Str}, StrsAre vs ss → vs.map ofTx = ss
  | _, _, .nil => rfl
  | _, _, .cons y t r => by
    have ex : ofTx (Value.str y t) = y := by
      show (⟨y.cps.toList.toArray⟩ : Str) = y
      cases y; simp
    rw [List.map_cons, ex, backT r]
theorem sortableT {a : Addr} {vs : List Value} {ss : List Str} (hS : StrsAre vs ss) (h2 : 2 ≤ vs.length) : SortableO prog w A s a vs ltT := by
  intro h' _
  refine ⟨oneType', fun Q E hq => ?_, fun p q hp hq => ?_⟩
  · cases vs with
    | nil => simp at h2
    | cons v1 r =>
      cases r with
      | nil => simp at h2
      | cons v2 r =>
        rw [keyKind_strs hS]
        exact wpAny_pure hq
  · obtain ⟨x, t, e⟩ := memT hS _ hp
    obtain ⟨y, u, e'⟩ := memT hS _ hq
    show wpAny (model prog w) A (keyLt' oneType' p.1 q.1) (fun r s' => s' = _ ∧ r = ltT p.1 q.1) (fun _ _ => False) _
    rw [e, e', keyLt'_oneType]
    exact oneLt_str ⟨rfl, rfl⟩
theorem outT {vs out : List Value} {ss : List Str} (hS : StrsAre vs ss) (h1 : Srtd ltT out) (h2 : Stb ltT out vs) : StrsAre out (out.map ofTx) ∧ (out.map ofTx).Perm ss ∧ (out.map ofTx).Pairwise (fun x y => ¬ y.cps.toList < x.cps.toList) := by
  refine ⟨areT fun v hv => memT hS v (h2.perm.mem_iff.mp hv), ?_, ?_⟩
  · have z := h2.perm.map ofTx
    rwa [backT hS] at z
  · refine List.pairwise_map.mpr (h1.imp fun {x y} h => ?_)
    have z : ¬ tx y < tx x := of_decide_eq_false h
    show ¬ ((tx y).toArray.toList < (tx x).toArray.toList)
    simpa using z
end
end MadSort
namespace Mad
open PySem PySem.Spec PyProof.Rows L2
/-- texts in order -/
def Rising (ys : List (List Nat)) : Prop := ys.Pairwise fun x y => ¬ y < x
def rSortT (K : PySem.W.Frag) : List V → Hp → VK → Prop := fun vs H Q => ∃ (a : Addr) (ns : List (List Nat)), vs = [V.ref a] ∧ SqL K H a (txs ns) ∧
  ∀ (ys : List (List Nat)) (p : Addr), ys.Perm ns → Rising ys → H p = none → Q (.ref p) (upd H p (.lst (txs ys)))
/-- a dict of names -/
def nmKeys (kvs : List (Key × V)) (ns : List (List Nat)) : Prop := kvs.map (·.1) = ns.map fun s => Sum.inr (SX.S s)
def rSortTD (_ : PySem.W.Frag) : List V → Hp → VK → Prop := fun vs H Q => ∃ (a : Addr) (kvs : List (Key × V)) (ns : List (List Nat)), vs = [V.ref a] ∧ H a = some (.dK kvs) ∧ nmKeys kvs ns ∧
  ∀ (ys : List (List Nat)) (p : Addr), ys.Perm ns → Rising ys → H p = none → Q (.ref p) (upd H p (.lst (txs ys)))
theorem strs_back {ys : List Str} {ns : List (List Nat)} (hp : ys.Perm (ns.map SX.S)) (hs : ys.Pairwise fun x y => ¬ y.cps.toList < x.cps.toList) : ∃ zs : List (List Nat), ys = zs.map SX.S ∧ zs.Perm ns ∧ Rising zs := by
  refine ⟨ys.map (fun y => y.cps.toList), ?_, ?_, ?_⟩
  · rw [List.map_map]
    have : (SX.S ∘ fun y : Str => y.cps.toList) = id := by funext y; exact SX.S_tl y
    rw [this, List.map_id]
  · have z := hp.map (fun y : Str => y.cps.toList)
    rw [List.map_map] at z
    have : ((fun y : Str => y.cps.toList) ∘ SX.S) = id := by funext s; rfl
    rwa [this, List.map_id] at z
  · exact List.pairwise_map.mpr hs
section
variable {X : Cx}
theorem cr_sortT : CallR X (.builtin "sorted") (rSortT X.K) := by
  intro pins s σ H vs us Q I r h
  obtain ⟨a, ns, rfl, hs, q⟩ := h
  obtain ⟨its, rv, hl, hz⟩ := I.list hs
  rw [Vals.ref1 r]
  have hi := Vals.strs (xs := ns.map SX.S) rv
  have hlen0 := rv.length
  refine SrtO.sorted_ord MadSort.swoT hl.isList (by rw [← rv.length]; exact hz) (fun h2 h₁ a' _ _ => MadSort.sortableT hi h2) fun out h1 h2 => ?_
  obtain ⟨k1, k2, k3⟩ := MadSort.outT hi h1 h2
  obtain ⟨ep, he'⟩ := PyProof.Rows.sortedAll_at s.heap its out.toArray
  obtain ⟨zs, ez, zp, zr⟩ := strs_back k2 k3
  rw [ez] at k1
  have hlen : (txs zs).length ≤ sizeLine := by
    rw [txs_len, zp.length_eq]
    rw [txs_len] at hz
    exact hz
  exact ⟨.ref _, upd H (s.heap.objs.size + 1) (.lst (txs zs)), I.laid (t' := s.toks) (fun _ _ => PyProof.Rows.sortedAll_old) (Nat.le_succ _) ⟨hlen, out, ep, vals_of_strs k1, he'⟩, rfl, q zs _ zp zr (I.hok.fresh (Nat.le_succ _))⟩
theorem cr_sortTD (hcalm : X.calm = true) : CallR X (.builtin "sorted") (rSortTD X.K) := by
  intro pins s σ H xs us Q I r h
  obtain ⟨a, kvs, ns, ex, hd0, hk0, q⟩ := h
  subst ex
  obtain ⟨u, eu, rx⟩ := vals1 r
  subst eu
  cases rx
  have hd : Rd H a (.dK kvs) := .inl hd0
  obtain ⟨z, lo, vs, rel, dd⟩ := dk_rd I.hok hd
  obtain ⟨ep, hat⟩ := dd.dictAt
  have hkeys : vs.map (·.1) = (ns.map SX.S).map Sum.inr := by
    rw [rel.keys.symm, hk0, List.map_map]
    rfl
  have hl : vs.length = ns.length := by
    have e := congrArg List.length hkeys
    simpa using e
  have hkl : kvs.length = ns.length := by
    have e := congrArg List.length hk0
    simpa using e
  have h16 : vs.length ≤ sizeLine := by rw [hl, ← hkl]; exact z
  refine Calls.call_function_entry PyProof.Rows.kind_sorted PyProof.Rows.plain_sorted PyProof.Rows.entry_sorted (PyProof.Rows.args_sorted1 _) ?_
  unfold Builtin.«sorted»
  refine wpAny_bind (m := checkCount "sorted" 1 1 _) (wpAny_pure ?_)
  refine wpAny_bind ?_
  refine PySem.W.kdu_collect (A := X.A.in1) (PySem.W.kdl_dict (knd := mixKind X.prog X.w) (kvs := vs) (ep := ep) lo) (I.ok.hd hcalm) hat h16 fun h' tk acc hk hacc => ?_
  have hal : acc.toList.length = (ns.map SX.S).length := by
    rw [Array.length_toList, hacc.1, hl, List.length_map]
  have hS : StrsAre acc.toList (ns.map SX.S) := by
    refine strs_at hal fun j v e => ?_
    obtain ⟨k, x, e1, e2⟩ := hacc.2 j v (by rw [← Array.getElem?_toList]; exact e)
    have e3 : (vs.map (·.1))[j]? = some k := by
      rw [List.getElem?_map, e1]
      rfl
    rw [hkeys, List.getElem?_map] at e3
    cases e4 : (ns.map SX.S)[j]? with
    | none => rw [e4] at e3; cases e3
    | some y =>
      rw [e4] at e3
      have e5 : Sum.inr y = k := Option.some.inj e3
      subst e5
      obtain ⟨t, ev⟩ := Value.isStrOf_shape (x := y) (v := v) e2
      exact ⟨y, t, rfl, ev⟩
  have I1 : Inv X pins σ H { s with heap := h', toks := tk } := I.kept hk
  have hz2 : acc.toList.length ≤ sizeLine := by rw [hal, List.length_map, ← hkl]; exact z
  refine wpAny_bind (wpAny_newList ?_ hz2)
  have hoL : (h'.push (seqObj "list" acc.toList.toArray 0)).get? h'.objs.size = some (seqObj "list" acc.toList.toArray 0) := Heap.get?_push_size _ rfl
  show wpAny _ _ _ _ _ { s with heap := h'.push (seqObj "list" acc.toList.toArray 0), toks := tk }
  refine wpAny_bind (wpAny_holding (wpAny_call_entry PyProof.Rows.slot_list_sort ⟨_, hoL, rfl⟩ PyProof.Rows.entry_list_sort ?_ (PyProof.Rows.args_list_sort _)))
  refine SrtO.list_sort_ord MadSort.swoT hoL hz2 (fun h2 => MadSort.sortableT hS h2) fun out h1 h2 => ⟨_, rfl, ?_⟩
  obtain ⟨k1, k2, k3⟩ := MadSort.outT hS h1 h2
  obtain ⟨zs, ez, zp, zr⟩ := strs_back k2 k3
  rw [ez] at k1
  obtain ⟨e', he'⟩ := PyProof.Rows.sortedHeap_at (vs := acc.toList) (out := out.toArray) hoL
  have hlen : (txs zs).length ≤ sizeLine := by
    rw [txs_len, zp.length_eq, ← hkl]
    exact z
  refine wpAny_pure ⟨_, rfl, .ref h'.objs.size, upd H h'.objs.size (.lst (txs zs)), I1.laid (t' := tk) (fun b u e => ?_) (Nat.le_refl _) ?_, rfl, q zs _ zp zr (I1.hok.fresh (Nat.le_refl _))⟩
  · have hb : b < h'.objs.size := Heap.lt_size e
    rw [PyProof.Rows.sortedHeap_old (Nat.ne_of_lt hb) (by rw [size_push']; exact Nat.lt_succ_of_lt hb)]
    exact Heap.get?_push_of_some _ e
  · exact ⟨hlen, out, e', vals_of_strs k1, he'⟩
end
/-- xs.extend(t), t a tuple -/
def rExtendT : V → List V → Hp → VK → Prop := fun x vs H Q => ∃ l b xs zs, x = .ref l ∧ vs = [.ref b] ∧ H l = some (.lst xs) ∧ H b = some (.tup zs) ∧ xs.length + zs.length ≤ sizeLine ∧ Q .non (upd H l (.lst (xs ++ zs)))
theorem list_extend_by_tuple (l : Addr) (items : Array Value) (n : Nat) (b : Addr) (items2 : Array Value) (n2 : Nat) (dd : Option Addr) (sl : Array (Option Value))
    (hs0 : ¬(!items.isEmpty && Builtin.List.listTooLong (items.size + items2.size)) = true)
    (hs1 : items.size ≤ sizeLine)
    (hs2 : items.size + items2.size ≤ sizeLine + 1) :
    Meets (Builtin.«list.extend» ⟨[.ref l, .ref b], []⟩) (fun _ R s =>
      s.heap.get? l = some { cls := .type "list", dict := none, data := .seq items n, slots := #[] } ∧
      s.heap.get? b = some { cls := .type "tuple", dict := dd, data := .seq items2 n2, slots := sl } ∧
      R (.ok (.ret Value.none)) { s with heap := s.heap.update l (Obj.mapSeq fun x => x ++ items2), toks := s.toks }) :=
  .of_wp fun prog w A R s h => by
    obtain ⟨hp, g, d, tk, os⟩ := s
    obtain ⟨hl, hb, h⟩ := h
    have f1 := AutoSeq1.idx_int
    have f2 := AutoSeq1.sub_tuple_tuple
    have f3 := AutoSeq1.sub_list_list
    have f4 := AutoSeq1.sub_tuple_list
    have f5 := AutoSeq1.sub_list_tuple
    have hz' : (items ++ items2).size ≤ sizeLine + 1 := by rw [Array.size_append]; exact hs2
    wp_walk using (wpAny_updateSeq hl rfl (hz := hs1) (_hz' := hz')), wpAny_loadPart' hl, wpAny_loadPart' hb
    exact ⟨_, rfl, h⟩
section
variable {X : Cx}
theorem mt_extendT : MtM X "list.extend" rExtendT := by
  intro pins s σ H x vs v us Q I rx rv h
  obtain ⟨l, b, xs, zs, rfl, rfl, hH, hB, hz, q⟩ := h
  cases rx
  obtain ⟨u, rfl, ru⟩ := rv.one
  cases ru
  obtain ⟨z, its, n, r, hl, e⟩ := I.lstM hH
  obtain ⟨its2, r2, ⟨⟨cls, dd, data, sl⟩, ho, hc, n2, hd⟩, hs2⟩ := I.tuple (SqT.of (K := X.K) hB)
  simp only at hc hd
  subst hc hd
  have hl2 : its2.length = zs.length := r2.length.symm
  have hsz : its.toArray.size + its2.toArray.size ≤ sizeLine := by rw [List.size_toArray, List.size_toArray]; omega
  have hlong : ¬ (!its.toArray.isEmpty && Builtin.List.listTooLong (its.toArray.size + its2.toArray.size)) = true := by
    rw [notLongL hsz, Bool.and_false]; exact Bool.false_ne_true
  refine call_meets F.slot_list_extend ⟨_, e, rfl⟩ F.entry_list_extend (F.args_list_extend_2 _ _)
    (list_extend_by_tuple l its.toArray n b its2.toArray n2 dd sl hlong (by rw [List.size_toArray]; omega) (by omega)) ⟨e, ho, ?_⟩
  refine ⟨.non, _, I.lset (its' := its ++ its2) hH e (by simp) (r.append r2) ?_, rfl, q⟩
  rw [List.length_append]; omega
end
/-! ### the names of a recipe -/
def Rcp.all : Rcp → List (List Nat)
  | .num _ => []
  | .read s => [s]
  | .two _ a b => a.all ++ b.all
  | .pick a b c => a.all ++ (b.all ++ c.all)
  | .choose a ns => a.all ++ ns
/-- those of its own -/
def Rcp.own : Rcp → List (List Nat)
  | .read s => [s]
  | .choose _ ns => ns
  | _ => []
theorem all_good : ∀ {r : Rcp}, r.Good → ∀ s ∈ r.all, Nm s
  | .num _, _, s, h => by cases h
  | .read _, hg, s, h => by rw [List.mem_singleton.mp h]; exact hg
  | .two _ a b, hg, s, h => by
    rcases List.mem_append.mp h with h | h
    · exact all_good hg.1 s h
    · exact all_good hg.2 s h
  | .pick a b c, hg, s, h => by
    rcases List.mem_append.mp h with h | h
    · exact all_good hg.1 s h
    rcases List.mem_append.mp h with h | h
    · exact all_good hg.2.1 s h
    · exact all_good hg.2.2 s h
  | .choose a ns, hg, s, h => by
    rcases List.mem_append.mp h with h | h
    · exact all_good hg.1 s h
    · exact hg.2.2.2 s h
theorem all_len : ∀ {r : Rcp}, r.Good → r.all.length ≤ 9 * r.siz
  | .num _, _ => Nat.zero_le _
  | .read _, _ => (by decide : 1 ≤ 9 * 1)
  | .two _ a b, hg => by
    have h1 := all_len hg.1
    have h2 := all_len hg.2
    show (a.all ++ b.all).length ≤ 9 * (a.siz + b.siz + 1)
    rw [List.length_append]; omega
  | .pick a b c, hg => by
    have h1 := all_len hg.1
    have h2 := all_len hg.2.1
    have h3 := all_len hg.2.2
    show (a.all ++ (b.all ++ c.all)).length ≤ 9 * (a.siz + b.siz + c.siz + 1)
    rw [List.length_append, List.length_append]; omega
  | .choose a ns, hg => by
    have h1 := all_len hg.1
    have h2 := hg.2.2.1
    show (a.all ++ ns).length ≤ 9 * (a.siz + 1)
    rw [List.length_append]; omega
theorem own_len {r : Rcp} (hg : r.Good) : r.own.length ≤ 9 := by
  cases r with
  | choose a ns => exact hg.2.2.1
  | read s => exact (by decide : 1 ≤ 9)
  | _ => exact Nat.zero_le _
theorem own_good {r : Rcp} (hg : r.Good) : ∀ s ∈ r.own, Nm s := by
  cases r with
  | choose a ns => exact hg.2.2.2
  | read s => intro z hz; rw [List.mem_singleton.mp hz]; exact hg
  | _ => intro z hz; cases hz
theorem mem_all (r : Rcp) (s : List Nat) : s ∈ r.all ↔ s ∈ r.own ∨ ∃ x ∈ r.subs, s ∈ x.all := by
  cases r with
  | num n => simp [Rcp.all, Rcp.own, Rcp.subs]
  | read z => simp [Rcp.all, Rcp.own, Rcp.subs]
  | two k a b => simp [Rcp.all, Rcp.own, Rcp.subs]
  | pick a b c => simp [Rcp.all, Rcp.own, Rcp.subs]
  | choose a ns => simp [Rcp.all, Rcp.own, Rcp.subs]; exact Or.comm
/-- texts, each behind the one before -/
def SI (ys : List (List Nat)) : Prop := ys.Pairwise fun x y => x < y
theorem lt_tri {x y : List Nat} (h1 : ¬ x < y) (h2 : ¬ y < x) : x = y := List.le_antisymm (List.not_lt.mp h2) (List.not_lt.mp h1)
theorem si_of : ∀ {ys : List (List Nat)}, Rising ys → ys.Nodup → SI ys
  | [], _, _ => List.Pairwise.nil
  | y :: ys, h, n => by
    obtain ⟨h1, h2⟩ := List.pairwise_cons.mp h
    obtain ⟨n1, n2⟩ := List.nodup_cons.mp n
    refine List.pairwise_cons.mpr ⟨fun z hz => Decidable.byContradiction fun q => ?_, si_of h2 n2⟩
    have := lt_tri q (h1 z hz)
    rw [this] at n1
    exact n1 hz
theorem si_ext : ∀ {xs ys : List (List Nat)}, SI xs → SI ys → (∀ s, s ∈ xs ↔ s ∈ ys) → xs = ys
  | [], [], _, _, _ => rfl
  | [], y :: ys, _, _, h => by have := (h y).mpr (List.mem_cons_self ..); cases this
  | x :: xs, [], _, _, h => by have := (h x).mp (List.mem_cons_self ..); cases this
  | x :: xs, y :: ys, hx, hy, h => by
    obtain ⟨x1, x2⟩ := List.pairwise_cons.mp hx
    obtain ⟨y1, y2⟩ := List.pairwise_cons.mp hy
    have e : x = y := by
      rcases List.mem_cons.mp ((h x).mp (List.mem_cons_self ..)) with e | m
      · exact e
      rcases List.mem_cons.mp ((h y).mpr (List.mem_cons_self ..)) with e | m'
      · exact e.symm
      exact absurd (x1 y m') (List.lt_asymm (y1 x m))
    subst e
    have t : xs = ys := si_ext x2 y2 fun s => by
      constructor
      · intro m
        rcases List.mem_cons.mp ((h s).mp (List.mem_cons_of_mem _ m)) with e | m'
        · rw [e] at m
          exact absurd (x1 x m) (List.lt_irrefl x)
        · exact m'
      · intro m
        rcases List.mem_cons.mp ((h s).mpr (List.mem_cons_of_mem _ m)) with e | m'
        · rw [e] at m
          exact absurd (y1 x m) (List.lt_irrefl x)
        · exact m'
    rw [t]
theorem si_snoc {d0 : List (List Nat)} {s z : List Nat} (h : SI (d0 ++ [s])) (h2 : s < z) : SI (d0 ++ [s] ++ [z]) := by
  refine List.pairwise_append.mpr ⟨h, List.pairwise_singleton _ _, fun a ha b hb => ?_⟩
  rw [List.mem_singleton.mp hb]
  rcases List.mem_append.mp ha with m | m
  · exact List.lt_trans ((List.pairwise_append.mp h).2.2 a m s (List.mem_singleton.mpr rfl)) h2
  · rw [List.mem_singleton.mp m]; exact h2
/-- the keys of a dict of names -/
def keyN (s : List Nat) : Key := Sum.inr (SX.S s)
theorem keyN_inj {a b : List Nat} (h : keyN a = keyN b) : a = b := by
  have e : SX.S a = SX.S b := Sum.inr.inj h
  have := congrArg (fun y : Str => y.cps.toList) e
  exact this
theorem keyN_ne {a b : List Nat} (h : a ≠ b) : ¬ keyN a = keyN b := fun e => h (keyN_inj e)
/-- the dict of the names ns, each once -/
def NDict (kvs : List (Key × V)) (ns : List (List Nat)) : Prop := nmKeys kvs ns ∧ ns.Nodup
theorem nd_any {kvs : List (Key × V)} {ns : List (List Nat)} (h : nmKeys kvs ns) (s : List Nat) : (kvs.any fun kv => decide (kv.1 = keyN s)) = decide (s ∈ ns) := by
  have e : (kvs.any fun kv => decide (kv.1 = keyN s)) = (kvs.map (·.1)).any fun k => decide (k = keyN s) := by rw [List.any_map]; rfl
  rw [e, h, List.any_map]
  clear e h
  induction ns with
  | nil => rfl
  | cons a r ih =>
    rw [List.any_cons, ih]
    by_cases z : a = s
    · subst z
      simp
      exact .inl rfl
    · have : decide (s ∈ a :: r) = decide (s ∈ r) := by
        simp only [List.mem_cons]
        congr 1
        exact propext ⟨fun q => q.resolve_left fun w => z w.symm, .inr⟩
      rw [this]
      have : ((fun k => decide (k = keyN s)) ∘ fun s => Sum.inr (SX.S s)) a = false := decide_eq_false (keyN_ne z)
      rw [this, Bool.false_or]
theorem NDict.put {kvs : List (Key × V)} {ns : List (List Nat)} (h : NDict kvs ns) (s : List Nat) (v : V) : ∃ ns', NDict (putK kvs (keyN s) v) ns' ∧ (∀ x, x ∈ ns' ↔ x ∈ ns ∨ x = s) ∧ ns'.length ≤ ns.length + 1 := by
  obtain ⟨hk, hn⟩ := h
  by_cases m : s ∈ ns
  · refine ⟨ns, ⟨?_, hn⟩, fun x => ⟨.inl, fun q => q.elim id fun e => e ▸ m⟩, Nat.le_succ _⟩
    unfold putK nmKeys
    rw [if_pos (by rw [nd_any hk]; exact decide_eq_true m), List.map_map, ← hk]
    refine List.map_congr_left fun p _ => ?_
    show (if p.1 = keyN s then (p.1, v) else p).1 = p.1
    by_cases e : p.1 = keyN s
    · rw [if_pos e]
    · rw [if_neg e]
  · refine ⟨ns ++ [s], ⟨?_, ?_⟩, fun x => by rw [List.mem_append, List.mem_singleton], by rw [List.length_append]; exact Nat.le_refl _⟩
    · unfold putK nmKeys
      rw [if_neg (by rw [nd_any hk, decide_eq_false m]; exact Bool.false_ne_true), List.map_append, hk, List.map_append]
      rfl
    · exact nd_snoc hn m
theorem SI.nodup {ys : List (List Nat)} (h : SI ys) : ys.Nodup := List.Pairwise.imp (fun {a b} q (e : a = b) => by rw [e] at q; exact List.lt_irrefl b q) h
/-! ### new dicts of names over frames; looks, one after another -/
open LamX NdefX
theorem FrS.put0 {Tb : List NTab} {B X : Hp} {a : Addr} {o : HO} (f : FrS Tb [] B X) (n : B a = none) (d : DL X a) : FrS Tb [] B (L2.upd X a o) :=
  ((FrS.mono f fun _ h => nomatch h).trans (FrS.upd (S := [a]) (List.mem_singleton.mpr rfl) d)).dropAll fun x hx => by rw [List.mem_singleton.mp hx]; exact n
theorem FrS.at {Tb : List NTab} {B X : Hp} (f : FrS Tb [] B X) {x : Addr} {o : HO} (h : B x = some o) (t : ∀ ps, o ≠ .tbl ps) : X x = some o := f.1 x o (fun z => nomatch z) t h
theorem FrS.lst {Tb : List NTab} {B X : Hp} (f : FrS Tb [] B X) {x : Addr} {l : List V} (h : B x = some (.lst l)) : X x = some (.lst l) := f.at h fun _ z => nomatch z
theorem FrS.tup {Tb : List NTab} {B X : Hp} (f : FrS Tb [] B X) {x : Addr} {l : List V} (h : B x = some (.tup l)) : X x = some (.tup l) := f.at h fun _ z => nomatch z
theorem FrS.dk {Tb : List NTab} {B X : Hp} (f : FrS Tb [] B X) {x : Addr} {l : List (Key × V)} (h : B x = some (.dK l)) : X x = some (.dK l) := f.at h fun _ z => nomatch z
theorem FrS.kp {Tb : List NTab} {B X : Hp} (f : FrS Tb [] B X) : Keep B X := fun _ _ e => f.tup e
theorem FrS.house {Tb : List NTab} {B X : Hp} (f : FrS Tb [] B X) {h : House} {v : V} (a : HouseAt B h v) : HouseAt X h v := by
  obtain ⟨p, gD, rD, kvs, e, h1, h2, h3, h4⟩ := a
  exact ⟨p, gD, rD, kvs, e, f.tup h1, f.dk h2, Rd.mp (fun _ e t => f.at e t) h3, h4.imp fun r v q => q.keep f.kp⟩
theorem upd_self {H : Hp} {a : Addr} {o : HO} (h : H a = some o) : L2.upd H a o = H := by
  funext b
  by_cases c : b = a
  · rw [c, upd_same, h]
  · rw [upd_ne c]
theorem rise_ext : ∀ {xs ys : List (List Nat)}, Rising xs → Rising ys → xs.Nodup → ys.Nodup → (∀ s, s ∈ xs ↔ s ∈ ys) → xs = ys := by
  have anti : ∀ {x y : List Nat}, ¬ x < y → ¬ y < x → x = y := fun h1 h2 => List.le_antisymm (List.not_lt.mp h2) (List.not_lt.mp h1)
  intro xs
  induction xs with
  | nil =>
    intro ys _ _ _ _ h
    cases ys with
    | nil => rfl
    | cons y ys => exact absurd ((h y).mpr List.mem_cons_self) (fun z => nomatch z)
  | cons x xs ih =>
    intro ys hx hy nx ny h
    cases ys with
    | nil => exact absurd ((h x).mp List.mem_cons_self) (fun z => nomatch z)
    | cons y ys =>
      obtain ⟨x1, x2⟩ := List.pairwise_cons.mp hx
      obtain ⟨y1, y2⟩ := List.pairwise_cons.mp hy
      obtain ⟨n1, n2⟩ := List.nodup_cons.mp nx
      obtain ⟨m1, m2⟩ := List.nodup_cons.mp ny
      have e : x = y := by
        rcases List.mem_cons.mp ((h x).mp List.mem_cons_self) with e | m
        · exact e
        rcases List.mem_cons.mp ((h y).mpr List.mem_cons_self) with e | m'
        · exact e.symm
        exact anti (y1 x m) (x1 y m')
      subst e
      rw [ih x2 y2 n2 m2 fun s => ⟨fun hs => ((List.mem_cons.mp ((h s).mp (List.mem_cons_of_mem _ hs))).resolve_left fun e => n1 (e ▸ hs)), fun hs => ((List.mem_cons.mp ((h s).mpr (List.mem_cons_of_mem _ hs))).resolve_left fun e => m1 (e ▸ hs))⟩]
theorem nd_val {kvs : List (Key × V)} {ns : List (List Nat)} (h : nmKeys kvs ns) (s : List Nat) : (valV kvs (kT (SX.S s))).isSome = decide (s ∈ ns) := by
  rw [← nd_any h]
  clear h
  induction kvs with
  | nil => rfl
  | cons p r ih =>
    rw [List.any_cons]
    by_cases c : p.1 = kT (SX.S s)
    · rw [valV_pos c, decide_eq_true (show p.1 = keyN s from c)]
      rfl
    · rw [valV_neg c, decide_eq_false (show ¬ p.1 = keyN s from c), ih]
      rfl
theorem nd_len {kvs : List (Key × V)} {ns : List (List Nat)} (h : nmKeys kvs ns) : kvs.length = ns.length := by
  have := congrArg List.length h
  rwa [List.length_map, List.length_map] at this
theorem kvR_nm {α : Type} {R : α → V → Prop} : ∀ {l : List (List Nat × α)} {m : List (Key × V)}, KvR R l m → nmKeys m (l.map (·.1))
  | [], [], _ => rfl
  | p :: l, q :: m, ⟨x, _, z⟩ => by
    show q.1 :: m.map _ = Sum.inr (SX.S p.1) :: _
    rw [x, kvR_nm z]
    rfl
  | [], _ :: _, h => h.elim
  | _ :: _, [], h => h.elim
theorem lkAll_rest {dm : Nat} {h : House} {beta : Nat → Nat} (HH : HouseOk dm h beta) {n : Nat} : ∀ {ts : List (List Nat)} {s s' : RkS} {v : Int}, Rest h beta s → (∀ t ∈ ts, Nm t) → lkAll h n s ts = .ok v s' → Rest h beta s' ∧ Grow s s' ts ∧ (∀ t ∈ ts, t ∈ s'.known.map (·.1)) ∧ ∀ u ∈ s.known.map (·.1), u ∈ s'.known.map (·.1)
  | [], s, s', v, r, _, e => by
    cases e
    exact ⟨r, Grow.refl _ _, (fun _ h => nomatch h), fun _ h => h⟩
  | t :: ts, s, s', v, r, hn, e => by
    unfold lkAll at e
    cases e1 : lkR h n s t with
    | err x => rw [e1] at e; cases e
    | ok w s1 =>
      rw [e1] at e
      obtain ⟨r1, _, g1, k1, m1⟩ := r.look HH (hn t List.mem_cons_self) e1
      obtain ⟨r2, g2, k2, m2⟩ := lkAll_rest HH r1 (fun u hu => hn u (List.mem_cons_of_mem _ hu)) e
      exact ⟨r2, g1.trans g2 (fun u hu => by rw [List.mem_singleton.mp hu]; exact List.mem_cons_self) (fun u hu => List.mem_cons_of_mem _ hu), fun u hu => (List.mem_cons.mp hu).elim (fun z => by rw [z]; exact m2 _ k1) (k2 u), fun u hu => m2 u (m1 u hu)⟩
theorem lkAll_total {dm : Nat} {h : House} {beta : Nat → Nat} (HH : HouseOk dm h beta) {n : Nat} (hn : h.recs.length + 1 ≤ n) : ∀ {ts : List (List Nat)} {s : RkS}, Rest h beta s → (∀ t ∈ ts, Nm t ∧ ∃ v, Val h t v) → ∃ s', lkAll h n s ts = .ok 0 s'
  | [], s, _, _ => ⟨s, rfl⟩
  | t :: ts, s, r, ht => by
    obtain ⟨hm, v, hv⟩ := ht t List.mem_cons_self
    obtain ⟨s1, e1⟩ := r.told HH hm hv hn
    obtain ⟨s2, e2⟩ := lkAll_total HH hn (r.look HH hm e1).1 fun u hu => ht u (List.mem_cons_of_mem _ hu)
    refine ⟨s2, ?_⟩
    show (match lkR h n s t with | .ok _ s' => lkAll h n s' ts | .err e => .err e) = _
    rw [e1]
    exact e2
theorem known_val {h : House} {beta : Nat → Nat} {s : RkS} (r : Rest h beta s) {u : List Nat} (hu : u ∈ s.known.map (·.1)) : ∃ x, seen s.known u = some x ∧ Val h u x := by
  cases e : seen s.known u with
  | none => exact absurd hu (seen_none e)
  | some x => exact ⟨x, rfl, r.coh.kn _ (seen_mem e)⟩
/-! ### data and errors over frames with tables -/
open LamX NdefX
theorem KvR.self {α : Type} {R : α → V → Prop} : ∀ {l : List (List Nat × α)} {m : List (Key × V)}, KvR R l m → (l.map (·.1)).Nodup → ∀ q ∈ m, ∃ a : α, valV m q.1 = some q.2 ∧ R a q.2
  | [], [], _, _, _, hq => nomatch hq
  | p :: l, q :: m, ⟨x, y, z⟩, nd, r, hr => by
    obtain ⟨n1, n2⟩ := List.nodup_cons.mp nd
    rcases List.mem_cons.mp hr with rfl | hr
    · exact ⟨_, valV_pos rfl, y⟩
    · obtain ⟨a, h1, h2⟩ := KvR.self z n2 r hr
      refine ⟨a, ?_, h2⟩
      obtain ⟨i, hi, e⟩ := List.mem_iff_getElem.mp hr
      obtain ⟨p2, e1, e2, _⟩ := KvR.at (i := i) (k := r.1) (v := r.2) z (by rw [List.getElem?_eq_getElem hi, e])
      rw [valV_neg (by
        rw [x, e2]
        exact fun e => n1 (by show p.1 ∈ _; rw [kS_inj e]; exact List.mem_map.mpr ⟨p2, List.mem_of_getElem? e1, rfl⟩))]
      exact h1
  | [], _ :: _, h, _, _, _ => h.elim
  | _ :: _, [], h, _, _, _ => h.elim
theorem Rec.ref {H : Hp} : ∀ {r : Rcp} {v : V}, Rec H r v → ∃ a, v = .ref a
  | .num _, _, ⟨p, e, _⟩ => ⟨p, e⟩
  | .read _, _, ⟨p, e, _⟩ => ⟨p, e⟩
  | .two _ _ _, _, ⟨p, _, _, e, _⟩ => ⟨p, e⟩
  | .pick _ _ _, _, ⟨p, _, _, _, e, _⟩ => ⟨p, e⟩
  | .choose _ _, _, ⟨p, _, _, e, _⟩ => ⟨p, e⟩
mutual
theorem Data.fr {H H' : Hp} (s : ∀ x u, (∀ ps, u ≠ .tbl ps) → H x = some u → H' x = some u) : ∀ {t : Th} {v : V}, Data H t v → Data H' t v
  | .non, _, h => h
  | .bl _, _, h => h
  | .int _, _, h => h
  | .str _, _, h => h
  | .tup _, _, ⟨p, xs, e, hp, hl⟩ => ⟨p, xs, e, s _ _ (fun _ z => by cases z) hp, DataL.fr s hl⟩
  | .lst _, _, ⟨p, xs, e, hp, hl⟩ => ⟨p, xs, e, s _ _ (fun _ z => by cases z) hp, DataL.fr s hl⟩
  | .dct, _, ⟨p, kvs, e, hp⟩ => ⟨p, kvs, e, s _ _ (fun _ z => by cases z) hp⟩
theorem DataL.fr {H H' : Hp} (s : ∀ x u, (∀ ps, u ≠ .tbl ps) → H x = some u → H' x = some u) : ∀ {l : List Th} {xs : List V}, DataL H l xs → DataL H' l xs
  | [], _, h => h
  | _ :: _, _, ⟨x, r, e, h1, h2⟩ => ⟨x, r, e, Data.fr s h1, DataL.fr s h2⟩
end
def spLawT (K : PySem.W.Frag) (Tb : List NTab) : Sp := fun vs H Q _ => ∃ (a : Addr) (ns : List Int), vs = [.ref a] ∧ SqL K H a (ns.map V.int) ∧ ns.length ≤ 63 ∧ TabsN Tb H ∧ ∀ H', Q (.bl true) H'
theorem txs_take (ns : List (List Nat)) (k : Nat) : (txs ns).take k = txs (ns.take k) := by unfold txs; rw [List.map_take, List.map_take]
end Mad
/-! ### deep equality of lists, tuples and dicts, where it holds -/
namespace L2
open PySem PySem.Spec PyProof.Rows PySem.SeqAt
open PySem.AutoSeq1 (wpAny_loadPart')
section
variable {prog : Program} {w : World}
/-- two tuples alike item by item are not unlike -/
theorem tup_alikeN (l b : Addr) (u v : Array Value) (n n2 : Nat) (d1 d2 : Option Addr) (sl sl2 : Array (Option Value)) :
    MeetsIn prog w (Builtin.«tuple.__ne__» ⟨[.ref l, .ref b], []⟩) (fun A R s => s.heap.get? l = some ⟨.type "tuple", d1, .seq u n, sl⟩ ∧ s.heap.get? b = some ⟨.type "tuple", d2, .seq v n2, sl2⟩ ∧
      (∀ p ∈ u.toList.zip v.toList, PySem.SeqAt.EqIn prog w A.in1 s p.1 p.2 true) ∧ u.size = v.size ∧ R (.ok (.ret (.bool false))) s) :=
  .of_wp fun A R s h => by
    obtain ⟨hp, g, dr, tk, os⟩ := s
    obtain ⟨e1, e2, he, hz, hR⟩ := h
    have isT := PySem.AutoSeq1.sub_tuple_tuple
    wp_walk using wpAny_loadPart' e1, wpAny_loadPart' e2, wpAny_forIn_list _ (fun todo st s' => st.1 = none ∧ s' = ⟨hp, g, dr, tk, os⟩ ∧ ∀ p ∈ todo, PySem.SeqAt.EqIn prog w A.in1 ⟨hp, g, dr, tk, os⟩ p.1 p.2 true) _
    case turn =>
      rintro ⟨y, x⟩ todo st s' ⟨h0, rfl, hr⟩
      refine wpAny_bind (hr (y, x) List.mem_cons_self _ _ ?_)
      wp_walk
      exact ⟨rfl, rfl, fun p hm => hr p (List.mem_cons_of_mem _ hm)⟩
    case fin =>
      rintro ⟨b1, b2⟩ s' ⟨h0, rfl, _⟩
      simp only at h0
      subst h0
      wp_walk
      exact ⟨_, rfl, by simpa [Builtin.Tuple.tupleCompareSizes, hz] using hR⟩
    case h => exact ⟨rfl, rfl, he⟩
/-- the turns of two lists alike from i on -/
theorem lst_turnsN (l b : Addr) (u v : Array Value) (n n2 : Nat) (d1 d2 : Option Addr) (sl sl2 : Array (Option Value)) (k : Nat) : ∀ i : Nat, u.size - i = k →
    MeetsIn prog w (Builtin.«list.__eq__.loop» ⟨[.ref l, .ref b, rawInt i, rawInt 3], []⟩) (fun A R s => s.heap.get? l = some ⟨.type "list", d1, .seq u n, sl⟩ ∧ s.heap.get? b = some ⟨.type "list", d2, .seq v n2, sl2⟩ ∧
      (∀ j (h1 : j < u.size) (h2 : j < v.size), PySem.SeqAt.EqIn prog w A.in1 s u[j] v[j] true) ∧ u.size = v.size ∧ R (.ok (.ret (.bool false))) s) := by
  induction k with
  | zero =>
    intro i hk A R s h
    obtain ⟨hp, g, dr, tk, os⟩ := s
    obtain ⟨e1, e2, he, hz, hR⟩ := h
    wp_walk using wpAny_loadPart' e1, wpAny_loadPart' e2
    have a1 : u[((i : Nat) : Int).toNat]? = none := by simp; omega
    have a2 : v[((i : Nat) : Int).toNat]? = none := by simp; omega
    rw [a1, a2]
    wp_walk using wpAny_loadPart' e1, wpAny_loadPart' e2
    show R (.ok (.ret (.bool (u.size != v.size)))) _
    simpa [hz] using hR
  | succ k ih =>
    intro i hk A R s h
    obtain ⟨hp, g, dr, tk, os⟩ := s
    obtain ⟨e1, e2, he, hz, hR⟩ := h
    wp_walk using wpAny_loadPart' e1, wpAny_loadPart' e2
    have l1 : i < u.size := by omega
    have l2 : i < v.size := by omega
    have a1 : u[((i : Nat) : Int).toNat]? = some u[i] := by simp [l1]
    have a2 : v[((i : Nat) : Int).toNat]? = some v[i] := by simp [l2]
    have nx : ((i : Int) + 1) = ((i + 1 : Nat) : Int) := by push_cast; rfl
    rw [a1, a2]
    refine wpAny_bind (he i l1 l2 _ _ ?_)
    wp_walk
    rw [nx]
    refine ⟨PySem.plainId_quiet PySem.MeetsSeq3.plain_eq_loop _, codeAny_builtin PySem.MeetsSeq3.entry_eq_loop ?_⟩
    rw [Around.under_plainId PySem.MeetsSeq3.plain_eq_loop _]
    exact ih (i + 1) (by omega) A R _ ⟨e1, e2, he, hz, hR⟩
theorem lst_alikeN (l b : Addr) (u v : Array Value) (n n2 : Nat) (d1 d2 : Option Addr) (sl sl2 : Array (Option Value)) :
    MeetsIn prog w (Builtin.«list.__ne__» ⟨[.ref l, .ref b], []⟩) (fun A R s => s.heap.get? l = some ⟨.type "list", d1, .seq u n, sl⟩ ∧ s.heap.get? b = some ⟨.type "list", d2, .seq v n2, sl2⟩ ∧
      (∀ j (h1 : j < u.size) (h2 : j < v.size), PySem.SeqAt.EqIn prog w A.in1 s u[j] v[j] true) ∧ u.size = v.size ∧ R (.ok (.ret (.bool false))) s) := by
  intro A R s h
  obtain ⟨hp, g, dr, tk, os⟩ := s
  obtain ⟨e1, e2, he, hz, hR⟩ := h
  have isL := PySem.AutoSeq1.sub_list_list
  have same : ¬ (u.size != v.size) = true := by simp [hz]
  wp_walk using wpAny_loadPart' e1, wpAny_loadPart' e2
  refine ⟨PySem.plainId_quiet PySem.MeetsSeq3.plain_eq_loop _, codeAny_builtin PySem.MeetsSeq3.entry_eq_loop ?_⟩
  rw [Around.under_plainId PySem.MeetsSeq3.plain_eq_loop _]
  exact lst_turnsN l b u v n n2 d1 d2 sl sl2 _ 0 rfl A R _ ⟨e1, e2, he, hz, hR⟩
theorem ne_lsts {A : Around} {E Q : Value → Shared → Prop} {s : Shared} {l b : Addr} {u v : Array Value} (hl : s.heap.IsList l u) (hb : s.heap.IsList b v) (hz : u.size = v.size) (hu : A.units < cLine)
    (he : ∀ j (h1 : j < u.size) (h2 : j < v.size), PySem.SeqAt.EqIn prog w A.in1 s u[j] v[j] true) (h : Q (.bool false) s) : wpAny (model prog w) A (richCompare .NotEq (.ref l) (.ref b)) Q E s := by
  obtain ⟨⟨c1, d1, a1, sl1⟩, o1, k1, n1, t1⟩ := id hl
  obtain ⟨⟨c2, d2, a2, sl2⟩, o2, k2, n2, t2⟩ := id hb
  simp only at k1 t1 k2 t2
  subst k1 t1 k2 t2
  refine wpAny_richCompare_same_room (T := "list") (op := .NotEq) ⟨_, o1, rfl⟩ ⟨_, o2, rfl⟩ PySem.F.slot_list_ne ?_ hu
  exact call_meetsIn PySem.F.slot_list_ne ⟨_, o1, rfl⟩ PySem.F.entry_list_ne (PySem.F.args_list_ne_2 _ _) (lst_alikeN l b u v n1 n2 d1 d2 sl1 sl2) ⟨o1, o2, he, hz, (fun z => nomatch z), h⟩
theorem ne_tups {A : Around} {E Q : Value → Shared → Prop} {s : Shared} {l b : Addr} {u v : Array Value} (hl : s.heap.IsTuple l u) (hb : s.heap.IsTuple b v) (hz : u.size = v.size) (hu : A.units < cLine)
    (he : ∀ p ∈ u.toList.zip v.toList, PySem.SeqAt.EqIn prog w A.in1 s p.1 p.2 true) (h : Q (.bool false) s) : wpAny (model prog w) A (richCompare .NotEq (.ref l) (.ref b)) Q E s := by
  obtain ⟨⟨c1, d1, a1, sl1⟩, o1, k1, n1, t1⟩ := id hl
  obtain ⟨⟨c2, d2, a2, sl2⟩, o2, k2, n2, t2⟩ := id hb
  simp only at k1 t1 k2 t2
  subst k1 t1 k2 t2
  refine wpAny_richCompare_same_room (T := "tuple") (op := .NotEq) ⟨_, o1, rfl⟩ ⟨_, o2, rfl⟩ PySem.F.slot_tuple_ne ?_ hu
  exact call_meetsIn PySem.F.slot_tuple_ne ⟨_, o1, rfl⟩ PySem.F.entry_tuple_ne (PySem.F.args_tuple_ne_2 _ _) (tup_alikeN l b u v n1 n2 d1 d2 sl1 sl2) ⟨o1, o2, he, hz, (fun z => nomatch z), h⟩
end
/-- alike: lists, tuples, dicts of things that are F -/
def EqRG (K : PySem.W.Frag) (H : Hp) (F : V → V → Prop) (x y : V) : Prop :=
  (∃ a b xs ys, x = .ref a ∧ y = .ref b ∧ SqL K H a xs ∧ SqL K H b ys ∧ Paired F xs ys) ∨ (∃ a b xs ys, x = .ref a ∧ y = .ref b ∧ SqT K H a xs ∧ SqT K H b ys ∧ Paired F xs ys) ∨
    ∃ a b ks ls, x = .ref a ∧ y = .ref b ∧ H a = some (.dK ks) ∧ H b = some (.dK ls) ∧ ks.length = ls.length ∧ ∀ p ∈ ks, ∃ u, valV ls p.1 = some u ∧ F p.2 u
/-- alike, n levels deep -/
def EqG (K : PySem.W.Frag) (H : Hp) : Nat → V → V → Prop
  | 0 => fun _ _ => False
  | n + 1 => fun x y => (x = y ∧ flatB x = true) ∨ (∃ a, x = .ref a ∧ y = .ref a) ∨ (64 ≤ n ∧ ∃ d e, Dp K H x d ∧ Dp K H y e ∧ SeqAt.shaped d = true ∧ SeqAt.shaped e = true ∧ PyData.eqv d e = true) ∨ EqRG K H (EqG K H n) x y
theorem EqG.refl_ref {K : PySem.W.Frag} {H : Hp} {n : Nat} (a : Addr) : EqG K H (n + 1) (.ref a) (.ref a) := .inr (.inl ⟨a, rfl, rfl⟩)
theorem EqG.flat {K : PySem.W.Frag} {H : Hp} {n : Nat} {x : V} (f : flatB x = true) : EqG K H (n + 1) x x := .inl ⟨rfl, f⟩
theorem EqG.any {K : PySem.W.Frag} {H : Hp} {n : Nat} {x : V} (h : flatB x = true ∨ ∃ a, x = .ref a) : EqG K H (n + 1) x x := h.elim EqG.flat fun ⟨a, e⟩ => by rw [e]; exact EqG.refl_ref a
section
variable {X : Cx} {pins : List (Addr × Obj)} {σ : L2.St} {H : Hp} {s : Shared}
theorem items_in {F : V → V → Prop} {P : Program} {w : World} {A : Around} (ih : ∀ x y v u, F x y → RelV x v → RelV y u → PySem.SeqAt.EqIn P w A s v u true) : ∀ {xs ys : List V} {us ws : List Value}, Paired F xs ys → Vals xs us → Vals ys ws → us.length = ws.length ∧ ∀ p ∈ us.zip ws, PySem.SeqAt.EqIn P w A s p.1 p.2 true
  | _, _, _, _, .nil, .nil, .nil => ⟨rfl, fun _ h => nomatch h⟩
  | _, _, _, _, .cons a b, .cons r1 q1, .cons r2 q2 => by
    obtain ⟨l, k⟩ := items_in ih b q1 q2
    refine ⟨congrArg (· + 1) l, fun p hp => ?_⟩
    rcases List.mem_cons.mp hp with rfl | hp
    · exact ih _ _ _ _ a r1 r2
    · exact k p hp
theorem zip_at {P : Value → Value → Prop} {us ws : List Value} (h : ∀ p ∈ us.zip ws, P p.1 p.2) (j : Nat) (h1 : j < us.length) (h2 : j < ws.length) : P us[j] ws[j] := by
  have hz : j < (us.zip ws).length := by rw [List.length_zip]; omega
  have := h _ (List.getElem_mem hz)
  rw [List.getElem_zip] at this
  exact this
theorem hits_in {F : V → V → Prop} {P : Program} {w : World} {A : Around} (ih : ∀ x y v u, F x y → RelV x v → RelV y u → PySem.SeqAt.EqIn P w A s v u true) {ls : List (Key × V)} {vb : List (Key × Value)} (rb : KV ls vb) {ks : List (Key × V)}
    {va : List (Key × Value)} (ra : KV ks va) : (∀ p ∈ ks, ∃ u, valV ls p.1 = some u ∧ F p.2 u) → PySem.W.KeqHitsIn P w A s vb va true := by
  unfold KV at ra
  induction ra with
  | nil => exact fun _ => .nil
  | @cons p q ps qs h t k =>
    intro hp
    obtain ⟨h1, h2⟩ := h
    obtain ⟨u, e, f⟩ := hp p List.mem_cons_self
    obtain ⟨y, hy, ry⟩ := (show RelO (some u) (valueAt vb p.1) by rw [← e]; exact rb.val p.1).some_of
    obtain ⟨key, v⟩ := q
    cases (show p.1 = key from h1)
    exact .hit (e := true) (b := true) (r := qs) hy (ih _ _ _ _ f h2 ry) (k fun p' hm => hp p' (List.mem_cons_of_mem _ hm))
/-- the comparison itself, both ways -/
theorem eqRG_run (I : Inv X pins σ H s) {A : Around} {F : V → V → Prop} (hu : A.units < cLine) (ih : ∀ x y v u, F x y → RelV x v → RelV y u → PySem.SeqAt.EqIn X.prog X.w A.in1 s v u true) {x y : V} {v u : Value} (h : EqRG X.K H F x y) (rx : RelV x v) (ry : RelV y u)
    (E Q : Value → Shared → Prop) (q : Q (.bool true) s) : wpAny (model X.prog X.w) A (richCompare .Eq v u) Q E s := by
  rcases h with ⟨a, b, xs, ys, rfl, rfl, ha, hb, hp⟩ | ⟨a, b, xs, ys, rfl, rfl, ha, hb, hp⟩ | ⟨a, b, ks, ls, rfl, rfl, ha, hb, hl, hp⟩
  · cases rx
    cases ry
    obtain ⟨us, r1, p1, _⟩ := I.list ha
    obtain ⟨ws, r2, p2, _⟩ := I.list hb
    obtain ⟨hz, k⟩ := items_in ih hp r1 r2
    refine PySem.SeqAt.rcIn_lists (e := fun _ => true) p1.isList p2.isList (by simpa using hz) hu (fun j h1 h2 => ?_) ?_
    · simpa using zip_at (P := fun p q => PySem.SeqAt.EqIn X.prog X.w A.in1 s p q true) k j (by simpa using h1) (by simpa using h2)
    · rw [List.all_eq_true.mpr fun _ _ => rfl]
      exact q
  · cases rx
    cases ry
    obtain ⟨us, r1, p1⟩ := I.tuple ha
    obtain ⟨ws, r2, p2⟩ := I.tuple hb
    obtain ⟨hz, k⟩ := items_in ih hp r1 r2
    refine PySem.SeqAt.rcIn_tuples (e := fun _ => true) p1.1 p2.1 hu (fun j h1 h2 => ?_) ?_
    · simpa using zip_at (P := fun p q => PySem.SeqAt.EqIn X.prog X.w A.in1 s p q true) k j (by simpa using h1) (by simpa using h2)
    · rw [List.all_eq_true.mpr fun _ _ => rfl, show us.toArray.size = ws.toArray.size by simpa using hz]
      simpa using q
  · cases rx
    cases ry
    obtain ⟨_, ya, va, ra, da⟩ := (show ObjOk X.prog X.w H s.heap a (.dK ks) from I.hok a _ ha)
    obtain ⟨_, yb, vb, rb, db⟩ := (show ObjOk X.prog X.w H s.heap b (.dK ls) from I.hok b _ hb)
    refine PySem.W.keq_eqIn (knd := mixKind X.prog X.w) (r := true) ya yb da db hu (fun _ => hits_in ih rb ra hp) ?_
    rw [show va.length = vb.length by rw [← ra.length, ← rb.length]; exact hl]
    simpa using q
theorem eqG_run (I : Inv X pins σ H s) : ∀ (n : Nat) (A : Around), A.units + n + 64 < cLine → ∀ (x y : V) (v u : Value), EqG X.K H n x y → RelV x v → RelV y u → PySem.SeqAt.EqIn X.prog X.w A s v u true
  | 0, _, _, _, _, _, _, h, _, _ => (show False from h).elim
  | n + 1, A, hu, x, y, v, u, h, rx, ry => by
    rcases h with ⟨rfl, f⟩ | ⟨a, rfl, rfl⟩ | ⟨hn, d, e, hd, he, sd, se, eq⟩ | h
    · exact (PySem.SeqAt.EqAt.inModel (eqAt_same rx ry f) _ _)
    · cases rx
      cases ry
      exact PySem.SeqAt.EqAt.inModel (SeqAt.EqAt.same _) _ _
    · obtain ⟨as, r1⟩ := Dp.reads I d x v hd rx
      obtain ⟨bs, r2⟩ := Dp.reads I e y u he ry
      have := PySem.SeqAt.eqAt_reads d e A s v u as bs r1 r2 (SeqAt.canLay_of_shaped sd) (SeqAt.canLay_of_shaped se) (SeqAt.room_of_shaped sd (by omega))
      rw [eq] at this
      exact PySem.SeqAt.EqAt.inModel this _ _
    · have step := eqRG_run I (A := A) (by omega) (eqG_run I n A.in1 (by show A.units + 1 + n + 64 < cLine; omega)) h rx ry
      obtain ⟨a, b, rfl, rfl⟩ : ∃ a b, x = .ref a ∧ y = .ref b := by
        rcases h with ⟨a, b, _, _, e1, e2, _⟩ | ⟨a, b, _, _, e1, e2, _⟩ | ⟨a, b, _, _, e1, e2, _⟩ <;> exact ⟨a, b, e1, e2⟩
      cases rx
      cases ry
      by_cases e : a = b
      · subst e
        exact PySem.SeqAt.EqAt.inModel (SeqAt.EqAt.same _) _ _
      · exact PySem.SeqAt.EqIn.of_refs e step
end
/-- a == b, a != b of lists, tuples, dicts that are alike -/
def rEqG (K : PySem.W.Frag) : R2 := fun x y H Q => EqRG K H (EqG K H 80) x y ∧ Q (.bl true) H
def rNeG (K : PySem.W.Frag) : R2 := fun x y H Q => ((∃ a b xs ys, x = .ref a ∧ y = .ref b ∧ SqL K H a xs ∧ SqL K H b ys ∧ Paired (EqG K H 80) xs ys) ∨ (∃ a b xs ys, x = .ref a ∧ y = .ref b ∧ SqT K H a xs ∧ SqT K H b ys ∧ Paired (EqG K H 80) xs ys)) ∧ Q (.bl false) H
section
variable {X : Cx}
theorem op_eqG (hu : X.A.units + 199 < cLine) : OpR X (compareOp .Eq) (rEqG X.K) := by
  intro pins s σ H x y v u Q I rx ry h
  obtain ⟨h, q⟩ := h
  exact eqRG_run I (A := X.A) (by omega) (eqG_run I 80 X.A.in1 (by show X.A.units + 1 + 80 + 64 < cLine; omega)) h rx ry _ _ ⟨.bl true, H, I, rfl, q⟩
theorem op_neG (hu : X.A.units + 199 < cLine) : OpR X (compareOp .NotEq) (rNeG X.K) := by
  intro pins s σ H x y v u Q I rx ry h
  obtain ⟨h, q⟩ := h
  have ih := eqG_run I 80 X.A.in1 (by show X.A.units + 1 + 80 + 64 < cLine; omega)
  rcases h with ⟨a, b, xs, ys, rfl, rfl, ha, hb, hp⟩ | ⟨a, b, xs, ys, rfl, rfl, ha, hb, hp⟩
  · cases rx
    cases ry
    obtain ⟨us, r1, p1, _⟩ := I.list ha
    obtain ⟨ws, r2, p2, _⟩ := I.list hb
    obtain ⟨hz, k⟩ := items_in ih hp r1 r2
    refine ne_lsts p1.isList p2.isList (by simpa using hz) (by omega) (fun j h1 h2 => ?_) ⟨.bl false, H, I, rfl, q⟩
    simpa using zip_at (P := fun p q => PySem.SeqAt.EqIn X.prog X.w X.A.in1 s p q true) k j (by simpa using h1) (by simpa using h2)
  · cases rx
    cases ry
    obtain ⟨us, r1, p1⟩ := I.tuple ha
    obtain ⟨ws, r2, p2⟩ := I.tuple hb
    obtain ⟨hz, k⟩ := items_in ih hp r1 r2
    exact ne_tups p1.1 p2.1 (by simpa using hz) (by omega) (fun p hm => k p (by simpa using hm)) ⟨.bl false, H, I, rfl, q⟩
theorem hu199 {k : Nat} {A : Around} (r : Room k A) : A.units + 199 < cLine := by have := r.un; omega
end
end L2
namespace Mad
open PySem PySem.Spec PyProof.Rows L2
end Mad
/-! ### more of what is made: told by a heap that keeps all -/
namespace L2
open PySem PySem.Spec PyProof.Rows
def tDNewA : TE := fun _ H Q => ∀ p H2, H p = none → SameU H H2 → H2 p = some (.dK []) → Q (.ref p) H2
def rSlLA (K : PySem.W.Frag) : V → Option Int → Option Int → Hp → VK → Prop := fun x lo hi H Q => ∃ a xs, x = .ref a ∧ SqL K H a xs ∧ ∀ p H2, H p = none → SameU H H2 → H2 p = some (.lst (cutV xs lo hi)) → Q (.ref p) H2
def rListA (K : PySem.W.Frag) : List V → Hp → VK → Prop := fun xs H Q => ∃ p ys, xs = [.ref p] ∧ (SqL K H p ys ∨ SqT K H p ys) ∧ ∀ l H2, H l = none → SameU H H2 → H2 l = some (.lst ys) → Q (.ref l) H2
def rListDA : List V → Hp → VK → Prop := fun xs H Q => ∃ (a : Addr) (kvs : List (Key × V)), xs = [.ref a] ∧ Rd H a (.dK kvs) ∧ ∀ p H2, H p = none → SameU H H2 → H2 p = some (.lst (kvs.map fun kv => kV kv.1)) → Q (.ref p) H2
def rSortedPA (K : PySem.W.Frag) : List V → Hp → VK → Prop := fun vs H Q => ∃ a xs, vs = [V.ref a] ∧ SqL K H a xs ∧ (∀ x ∈ xs, ∃ t i j, x = V.ref t ∧ H t = some (.tup [.int i, .int j])) ∧
  ∀ ys p H2, ys.Perm xs → H p = none → SameU H H2 → H2 p = some (.lst ys) → Q (.ref p) H2
def rDictDA : List V → Hp → VK → Prop := fun xs H Q => ∃ (a : Addr) (kvs : List (Key × V)), xs = [.ref a] ∧ Rd H a (.dK kvs) ∧ ∀ p H2, H p = none → SameU H H2 → H2 p = some (.dK kvs) → Q (.ref p) H2
def rDictPA (K : PySem.W.Frag) : List V → Hp → VK → Prop := fun xs H Q => ∃ (a : Addr) (ps : List Addr) (kvs : List (Key × V)), xs = [.ref a] ∧ SqL K H a (ps.map V.ref) ∧ Paired (fun p kv => SqT K H p [kV kv.1, kv.2]) ps kvs ∧ ∀ p H2, H p = none → SameU H H2 → H2 p = some (.dK (mergeK [] kvs)) → Q (.ref p) H2
section
variable {X : Cx} {pos : Pos}
theorem call_dictPA {K : PySem.W.Frag} (h : X.K = K) (hcalm : X.calm = true) : CallR X (.type "dict") (rDictPA K) := by
  subst h
  intro pins s σ H xs us Q I r h
  obtain ⟨a, ps, kvs, e, hq, hp, q⟩ := h
  exact call_dictP hcalm pins s σ H xs us Q I r ⟨a, ps, kvs, e, hq, hp, fun p np => q p _ np (sameU_new np _) upd_same⟩
theorem call_dictDA : CallR X (.type "dict") rDictDA := by
  intro pins s σ H xs us Q I r h
  obtain ⟨a, kvs, e, hd, q⟩ := h
  exact call_dictD pins s σ H xs us Q I r ⟨a, kvs, e, hd, fun p np => q p _ np (sameU_new np _) upd_same⟩
theorem op_neDK {K : PySem.W.Frag} (h : X.K = K) (hu : X.A.units + 64 < cLine) : OpR X (compareOp .NotEq) (rNeD K) := by
  subst h
  exact op_neD hu
theorem op_eqDK {K : PySem.W.Frag} (h : X.K = K) (hu : X.A.units + 64 < cLine) : OpR X (compareOp .Eq) (rEqD K) := by
  subst h
  exact op_eqD hu
theorem pe_dnewA : PE X (.Dict [] [] pos) tDNewA := ⟨fun pins s σ H Q I h => pe_dnewK.run pins s σ H Q I fun p np => h p _ np (sameU_new np _) upd_same⟩
theorem sl_listA : SlR X (rSlLA X.K) := by
  intro pins s σ H x v vl vu lo hi sl Q I rx hs pl pu h
  obtain ⟨a, xs, e, hx, q⟩ := h
  exact sl_list pins s σ H x v vl vu lo hi sl Q I rx hs pl pu ⟨a, xs, e, hx, fun p np => q p _ np (sameU_new np _) upd_same⟩
theorem call_listA : CallR X (.type "list") (rListA X.K) := by
  intro pins s σ H xs us Q I r h
  obtain ⟨p, ys, e, hq, q⟩ := h
  exact call_list_of pins s σ H xs us Q I r ⟨p, ys, e, hq, fun l nl => q l _ nl (sameU_new nl _) upd_same⟩
theorem call_listDA (hcalm : X.calm = true) : CallR X (.type "list") rListDA := by
  intro pins s σ H xs us Q I r h
  obtain ⟨p, ys, e, hq, q⟩ := h
  exact call_listD hcalm pins s σ H xs us Q I r ⟨p, ys, e, hq, fun l nl => q l _ nl (sameU_new nl _) upd_same⟩
theorem cr_sortedPA : CallR X (.builtin "sorted") (rSortedPA X.K) := by
  intro pins s σ H vs us Q I r h
  obtain ⟨a, xs, e, hs, hx, q⟩ := h
  exact cr_sortedP pins s σ H vs us Q I r ⟨a, xs, e, hs, hx, fun ys p pm np => q ys p _ pm np (sameU_new np _) upd_same⟩
end
end L2
namespace Mad
open PySem PySem.Spec PyProof.Rows L2
/-! ### sorted of texts, told by a heap that keeps all -/
def rSortTA (K : PySem.W.Frag) : List V → Hp → VK → Prop := fun vs H Q => ∃ (a : Addr) (ns : List (List Nat)), vs = [V.ref a] ∧ SqL K H a (txs ns) ∧
  ∀ (ys : List (List Nat)) (p : Addr) (H2 : Hp), ys.Perm ns → Rising ys → H p = none → SameU H H2 → H2 p = some (.lst (txs ys)) → Q (.ref p) H2
def rSortTDA : List V → Hp → VK → Prop := fun vs H Q => ∃ (a : Addr) (kvs : List (Key × V)) (ns : List (List Nat)), vs = [V.ref a] ∧ H a = some (.dK kvs) ∧ nmKeys kvs ns ∧
  ∀ (ys : List (List Nat)) (p : Addr) (H2 : Hp), ys.Perm ns → Rising ys → H p = none → SameU H H2 → H2 p = some (.lst (txs ys)) → Q (.ref p) H2
theorem cr_sortTA {X : Cx} : CallR X (.builtin "sorted") (rSortTA X.K) := by
  intro pins s σ H vs us Q I r h
  obtain ⟨a, ns, e, hs, q⟩ := h
  exact cr_sortT pins s σ H vs us Q I r ⟨a, ns, e, hs, fun ys p pm ri np => q ys p _ pm ri np (sameU_new np _) upd_same⟩
theorem cr_sortTDA {X : Cx} (hcalm : X.calm = true) : CallR X (.builtin "sorted") rSortTDA := by
  intro pins s σ H vs us Q I r h
  obtain ⟨a, kvs, ns, e, hd, hk, q⟩ := h
  exact cr_sortTD hcalm pins s σ H vs us Q I r ⟨a, kvs, ns, e, hd, hk, fun ys p pm ri np => q ys p _ pm ri np (sameU_new np _) upd_same⟩
end Mad
/-! ### d.update(e) of two dicts; d != e of dicts that are alike -/
namespace PySem.W
open PySem PySem.Spec PyProof.Rows PySem.SeqAt
theorem keq_neIn {K : Type} [DecidableEq K] {prog : Program} {w : World} {knd : KeyKind prog w K} {s : Shared} {A : Around} {E : Value → Shared → Prop} {a b : Addr} {ka kb : List (K × Value)} {r : Bool} {Q : Value → Shared → Prop} (ha : (a == sysModules) = false) (hb : (b == sysModules) = false)
    (da : s.heap.DictOf knd a ka) (db : s.heap.DictOf knd b kb) (hu : A.units < cLine) (hits : ka.length = kb.length → KeqHitsIn prog w A.in1 s kb ka r) (h : Q (.bool (!(ka.length == kb.length && r))) s) :
    wpAny (model prog w) A (compareOp .NotEq (.ref a) (.ref b)) Q E s := by
  refine wpAny_richCompare_same_room (op := .NotEq) da.typeIs db.typeIs PySem.F.slot_dict_ne (wpAny_call_entry PySem.F.slot_dict_ne da.typeIs PySem.F.entry_dict_ne ?_ (PySem.F.args_dict_ne_2 _ _)) hu
  show wpAny _ _ (Builtin.Dict.dictSlotArgs "__ne__" ⟨[.ref a, .ref b], []⟩ >>= _) _ _ s
  refine wpAny_bind ?_
  unfold Builtin.Dict.dictSlotArgs
  refine wpAny_bind (wpAny_notOrdered_dict da.typeIs ?_)
  show wpAny _ _ (pure (Value.ref a, Value.ref b)) _ _ s
  refine wpAny_pure ?_
  refine wpAny_bind (wpAny_isInstance (T := "dict") db.typeIs PySem.F.sub_dict_dict ?_)
  simp only [Bool.not_true, Bool.false_eq_true, if_false]
  refine wpAny_bind (wpAny_pure (wpAny_bind (wpAny_pure ?_)))
  refine wpAny_bind (keq_samePairsIn ha hb da db hits ?_)
  refine wpAny_pure ⟨_, rfl, ?_, ?_⟩
  · exact fun x => nomatch x
  · simpa using h
end PySem.W
namespace L2
open PySem PySem.Spec PyProof.Rows
section
variable {X : Cx}
/-- a != b of dicts that are alike -/
def rNeGD (K : PySem.W.Frag) : R2 := fun x y H Q => (∃ a b ks ls, x = .ref a ∧ y = .ref b ∧ H a = some (.dK ks) ∧ H b = some (.dK ls) ∧ ks.length = ls.length ∧ ∀ p ∈ ks, ∃ u, valV ls p.1 = some u ∧ EqG K H 80 p.2 u) ∧ Q (.bl false) H
theorem op_neGD (hu : X.A.units + 199 < cLine) : OpR X (compareOp .NotEq) (rNeGD X.K) := by
  intro pins s σ H x y v u Q I rx ry h
  obtain ⟨⟨a, b, ks, ls, rfl, rfl, ha, hb, hl, hp⟩, q⟩ := h
  cases rx
  cases ry
  obtain ⟨_, ya, va, ra, da⟩ := (show ObjOk X.prog X.w H s.heap a (.dK ks) from I.hok a _ ha)
  obtain ⟨_, yb, vb, rb, db⟩ := (show ObjOk X.prog X.w H s.heap b (.dK ls) from I.hok b _ hb)
  have ih := eqG_run I 80 X.A.in1 (by show X.A.units + 1 + 80 + 64 < cLine; omega)
  refine PySem.W.keq_neIn (knd := mixKind X.prog X.w) (r := true) ya yb da db (by omega) (fun _ => hits_in ih rb ra hp) ?_
  have : (!(va.length == vb.length && true)) = false := by rw [show va.length = vb.length by rw [← ra.length, ← rb.length]; exact hl]; simp
  rw [this]
  exact ⟨.bl false, H, I, rfl, q⟩
end
section
variable {X : Cx} {pins : List (Addr × Obj)} {σ : St} {H : Hp} {s : Shared} {a b : Addr} {kvs ls : List (Key × V)} {A : Around} {E : Value → Shared → Prop}
theorem d_upd {Q : Value → Shared → Prop} (I : Inv X pins σ H s) (e : H a = some (.dK kvs)) (e2 : Rd H b (.dK ls)) (hne : a ≠ b) (hl : kvs.length + ls.length ≤ sizeLine)
    (h : ∀ s', Inv X pins σ (upd H a (.dK (mergeK kvs ls))) s' → Q .none s') : wpAny (model X.prog X.w) A (call (.builtin "dict.update") [.ref a, .ref b]) Q E s := by
  obtain ⟨z, hd, vs, rel, dd⟩ := dk_of I.hok e
  obtain ⟨z2, hd2, vs2, rel2, dd2⟩ := dk_rd I.hok e2
  refine call_meetsIn PySem.F.slot_dict_update dd.typeIs PySem.F.entry_dict_update (PySem.F.args_dict_update_2 _ _) (meets_dict_update (mixKind X.prog X.w) a b hne hd2) ⟨vs, vs2, dd, dd2, by rw [← rel.length, ← rel2.length]; exact hl, fun h' dd' _ hs => h _ ?_⟩
  have he : ∃ q, h'.get? a = some q := let ⟨q, _, _, hq, _⟩ := dd'; ⟨q, hq⟩
  exact d_write (t' := s.toks) I (by rw [e]; exact True.intro) hs he (dk_new (Nat.le_trans (length_mergeK _ _) hl) hd (rel2.merge rel) dd')
end
def tDUpd (td ty : TE) : TE := fun σ H Q => td σ H fun x H1 => ∃ a, x = .ref a ∧ IsD H1 a ∧ ty σ H1 fun y H2 => ∃ b kvs ls, y = .ref b ∧ H2 a = some (.dK kvs) ∧ Rd H2 b (.dK ls) ∧ a ≠ b ∧ kvs.length + ls.length ≤ sizeLine ∧ Q .non (upd H2 a (.dK (mergeK kvs ls)))
section
variable {X : Cx} {o e : Expr} {apos cpos : Pos} {td ty : TE}
theorem pe_dupd (ho : PE X o td) (he : PE X e ty) (m : M1 X o "update" apos e cpos) : PE X (.Call (.Attribute o "update" apos) [e] [] cpos) (tDUpd td ty) := by
  refine ⟨fun pins s σ H Q I h => ?_⟩
  refine wpAny_Call_method m.base m.few m.line PySem.F.plainAttrs_dict PySem.F.slot_dict_update PySem.F.type_dict_update (thn (ho.run pins s σ H _ I h) fun u s1 ⟨x, H1, I1, rx, a, ex, d, q1⟩ => ?_)
  subst ex
  obtain rfl : u = Value.ref a := rx
  obtain ⟨t1, t2, _⟩ := isD_at I1 d
  refine ⟨t1, t2, ?_⟩
  rw [m.trees]
  refine Calls.callWith_builtin rfl (Calls.evalArgs_plain (Calls.spliced_cons (thn (he.run pins s1 σ H1 _ I1 q1) fun iv s2 ⟨y, H2, I2, ry, b, kvs, ls, ey, ea, eb, ne, l, q2⟩ => Calls.spliced_nil ?_)))
  subst ey
  obtain rfl : iv = Value.ref b := ry
  exact d_upd I2 ea eb ne l fun s3 I3 => ⟨.non, _, I3, rfl, q2⟩
end
end L2
namespace Mad
open PySem PySem.Spec PyProof.Rows L2
/-! ### dicts put together -/
def merA {α : Type} (l m : List (List Nat × α)) : List (List Nat × α) := m.foldl (fun a p => putA a p.1 p.2) l
theorem merA_keys {α : Type} {u : List Nat} : ∀ {m l : List (List Nat × α)}, u ∈ (merA l m).map (·.1) ↔ u ∈ l.map (·.1) ∨ u ∈ m.map (·.1)
  | [], l => ⟨.inl, fun h => h.elim id fun h => nomatch h⟩
  | p :: m, l => by
    show u ∈ (merA (putA l p.1 p.2) m).map (·.1) ↔ _
    rw [merA_keys, putA_mem, List.map_cons, List.mem_cons, or_assoc]
theorem merA_nd {α : Type} : ∀ {m l : List (List Nat × α)}, (l.map (·.1)).Nodup → ((merA l m).map (·.1)).Nodup
  | [], l, h => h
  | p :: m, l, h => merA_nd (m := m) (putA_nd h)
theorem mem_merA {α : Type} {q : List Nat × α} : ∀ {m l : List (List Nat × α)}, q ∈ merA l m → q ∈ l ∨ q ∈ m
  | [], l, h => .inl h
  | p :: m, l, h => by
    rcases mem_merA (m := m) h with h | h
    · rcases mem_putA h with rfl | h
      · exact .inr List.mem_cons_self
      · exact .inl h
    · exact .inr (List.mem_cons_of_mem _ h)
theorem KvR.merge {α : Type} {R : α → V → Prop} : ∀ {m : List (List Nat × α)} {k : List (Key × V)} {l : List (List Nat × α)} {j : List (Key × V)}, KvR R m k → KvR R l j → KvR R (merA l m) (mergeK j k)
  | [], [], l, j, _, h => h
  | p :: m, q :: k, l, j, ⟨x, y, z⟩, h => by
    show KvR R (merA (putA l p.1 p.2) m) (mergeK (putK j q.1 q.2) k)
    rw [x]
    exact KvR.merge z (h.put y)
  | [], _ :: _, _, _, h, _ => h.elim
  | _ :: _, [], _, _, h, _ => h.elim
theorem nums_merge (l m : List Pr) : mergeK (numsK l) (numsK m) = numsK (merA l m) := numsR_eq (KvR.merge (numsR m) (numsR l))
/-! ### recipes alike as data are the same; texts tell recipes apart -/
theorem eqv_head {k k' : List Nat} {l l' : List PyData} (h : PyData.eqv (.tuple (.str (SX.S k) :: l)) (.tuple (.str (SX.S k') :: l')) = true) : k = k' ∧ PyData.eqvAll l l' = true := by
  have e : ((SX.S k == SX.S k') && PyData.eqvAll l l') = true := h
  rw [Bool.and_eq_true, SX.S_beq] at e
  exact ⟨beq_iff_eq.mp e.1, e.2⟩
theorem eqv_cons {x y : PyData} {l l' : List PyData} (h : PyData.eqvAll (x :: l) (y :: l') = true) : PyData.eqv x y = true ∧ PyData.eqvAll l l' = true := by
  have e : (PyData.eqv x y && PyData.eqvAll l l') = true := h
  rw [Bool.and_eq_true] at e
  exact e
theorem eqv_str {a b : List Nat} (h : PyData.eqv (.str (SX.S a)) (.str (SX.S b)) = true) : a = b := by
  have e : (SX.S a == SX.S b) = true := h
  rw [SX.S_beq] at e
  exact beq_iff_eq.mp e
theorem eqv_nms : ∀ {ns ms : List (List Nat)}, PyData.eqvAll (Th.pyL (nmsTh ns)) (Th.pyL (nmsTh ms)) = true → ns = ms
  | [], [], _ => rfl
  | [], _ :: _, h => by cases h
  | _ :: _, [], h => by cases h
  | a :: ns, b :: ms, h => by
    obtain ⟨h1, h2⟩ := eqv_cons h
    rw [eqv_str h1, eqv_nms h2]
theorem kd_inj {k k' : Kd} (h : k.word = k'.word) : k = k' := by cases k <;> cases k' <;> first | rfl | (exact absurd h (by decide))
theorem eqv_rcp : ∀ {r s : Rcp}, PyData.eqv r.th.py s.th.py = true → r = s
  | .num n, .num m, h => by
    have e : (n == m) = true := (eqv_cons (eqv_head h).2).1
    rw [beq_iff_eq.mp e]
  | .read a, .read b, h => by rw [eqv_str (eqv_cons (eqv_head h).2).1]
  | .two k a b, .two k' a' b', h => by
    obtain ⟨h1, h2⟩ := eqv_head h
    obtain ⟨h3, h4⟩ := eqv_cons h2
    rw [kd_inj h1, eqv_rcp h3, eqv_rcp (eqv_cons h4).1]
  | .pick a b c, .pick a' b' c', h => by
    obtain ⟨h3, h4⟩ := eqv_cons (eqv_head h).2
    obtain ⟨h5, h6⟩ := eqv_cons h4
    rw [eqv_rcp h3, eqv_rcp h5, eqv_rcp (eqv_cons h6).1]
  | .choose a ns, .choose a' ms, h => by
    obtain ⟨h3, h4⟩ := eqv_cons (eqv_head h).2
    have h5 : PyData.eqvAll (Th.pyL (nmsTh ns)) (Th.pyL (nmsTh ms)) = true := (eqv_cons h4).1
    rw [eqv_rcp h3, eqv_nms h5]
  | .num _, .read _, h => absurd (eqv_head h).1 (by decide)
  | .num _, .two k _ _, h => absurd (eqv_head h).1 (by cases k <;> decide)
  | .num _, .pick _ _ _, h => absurd (eqv_head h).1 (by decide)
  | .num _, .choose _ _, h => absurd (eqv_head h).1 (by decide)
  | .read _, .num _, h => absurd (eqv_head h).1 (by decide)
  | .read _, .two k _ _, h => absurd (eqv_head h).1 (by cases k <;> decide)
  | .read _, .pick _ _ _, h => absurd (eqv_head h).1 (by decide)
  | .read _, .choose _ _, h => absurd (eqv_head h).1 (by decide)
  | .two k _ _, .num _, h => absurd (eqv_head h).1 (by cases k <;> decide)
  | .two k _ _, .read _, h => absurd (eqv_head h).1 (by cases k <;> decide)
  | .two k _ _, .pick _ _ _, h => absurd (eqv_head h).1 (by cases k <;> decide)
  | .two k _ _, .choose _ _, h => absurd (eqv_head h).1 (by cases k <;> decide)
  | .pick _ _ _, .num _, h => absurd (eqv_head h).1 (by decide)
  | .pick _ _ _, .read _, h => absurd (eqv_head h).1 (by decide)
  | .pick _ _ _, .two k _ _, h => absurd (eqv_head h).1 (by cases k <;> decide)
  | .pick _ _ _, .choose _ _, h => absurd (eqv_head h).1 (by decide)
  | .choose _ _, .num _, h => absurd (eqv_head h).1 (by decide)
  | .choose _ _, .read _, h => absurd (eqv_head h).1 (by decide)
  | .choose _ _, .two k _ _, h => absurd (eqv_head h).1 (by cases k <;> decide)
  | .choose _ _, .pick _ _ _, h => absurd (eqv_head h).1 (by decide)
/-! ### working name by name: what is looked for behind what was read -/
theorem OutR.bind_err {S : Type} {r : OutR S} {f : Int → S → OutR S} {e : XErr} (h : r.bind f = .err e) : r = .err e ∨ ∃ x s, r = .ok x s ∧ f x s = .err e := by
  cases r with
  | ok x s => exact .inr ⟨x, s, rfl, h⟩
  | err y => exact .inl h
theorem bind_errI {S : Type} {r : OutR S} {f : Int → S → OutR S} {e : XErr} (h : r = .err e) : r.bind f = .err e := by rw [h]; rfl
/-- a look that puts down what it tells -/
def lkO {S : Type} (lk : S → List Nat → OutR S) (p : S × List Pr) (t : List Nat) : OutR (S × List Pr) := match lk p.1 t with
  | .ok v s => .ok v (s, setd p.2 t v)
  | .err e => .err e
theorem lkO_ok {S : Type} {lk : S → List Nat → OutR S} {s s' : S} {own : List Pr} {t : List Nat} {v : Int} (e : lk s t = .ok v s') : lkO lk (s, own) t = .ok v (s', setd own t v) := by
  unfold lkO
  rw [show lk (s, own).1 t = _ from e]
theorem lkO_err {S : Type} {lk : S → List Nat → OutR S} {s : S} {own : List Pr} {t : List Nat} {x : XErr} (e : lk s t = .err x) : lkO lk (s, own) t = .err x := by
  unfold lkO
  rw [show lk (s, own).1 t = _ from e]
theorem setd_seen {own : List Pr} {t : List Nat} {v x : Int} (e : seen own t = some x) : setd own t v = own := by unfold setd; rw [e]
theorem setd_new {own : List Pr} {t : List Nat} {v : Int} (e : seen own t = none) : setd own t v = own ++ [(t, v)] := by
  unfold setd
  rw [e]
  exact putA_new v (seen_none e)
theorem seen_app {l m : List Pr} {t : List Nat} : seen (l ++ m) t = match seen l t with
  | some v => some v
  | none => seen m t := by
  induction l with
  | nil => rfl
  | cons p l ih =>
    rw [List.cons_append, seen_cons, seen_cons]
    by_cases c : p.1 = t
    · rw [if_pos c, if_pos c]
    · rw [if_neg c, if_neg c, ih]
theorem seen_more {l m : List Pr} {t : List Nat} {v : Int} (e : seen l t = some v) : seen (l ++ m) t = some v := by rw [seen_app, e]
theorem seen_setd {own : List Pr} {t u : List Nat} {v x : Int} (e : seen own u = some x) : seen (setd own t v) u = some x := by
  cases e2 : seen own t with
  | some y => rw [setd_seen e2]; exact e
  | none => rw [setd_new e2]; exact seen_more e
theorem dnL_none {f : List Nat → Option Int} {o : List Pr} {t : List Nat} {e : XErr} (h : dnL f o t = .err e) : f t = none ∧ e = .noName t := by
  unfold dnL at h
  cases e1 : f t with
  | some v => rw [e1] at h; cases h
  | none => rw [e1] at h; cases h; exact ⟨rfl, rfl⟩
section
variable {S : Type} {lk : S → List Nat → OutR S}
/-- all that is looked for is known -/
theorem wk_have {s : S} {own : List Pr} (hK : ∀ u x, seen own u = some x → lk s u = .ok x s) : ∀ {r : Rcp} {o o' : List Pr} {v : Int}, wk (dnL (seen own)) r o = .ok v o' → wk (lkO lk) r (s, own) = .ok v (s, own) := by
  have look : ∀ {t : List Nat} {o o' : List Pr} {v : Int}, dnL (seen own) o t = .ok v o' → lkO lk (s, own) t = .ok v (s, own) := by
    intro t o o' v h
    obtain ⟨e, _⟩ := dnL_ok h
    rw [lkO_ok (hK t v e), setd_seen e]
  intro r
  induction r with
  | num n => intro o o' v h; cases h; rfl
  | read t => exact fun h => look h
  | two k a b ia ib =>
    intro o o' v h
    obtain ⟨x, o1, h1, h2⟩ := OutR.bind_ok h
    obtain ⟨y, o2, h3, h4⟩ := OutR.bind_ok h2
    cases h4
    show (wk (lkO lk) a (s, own)).bind _ = _
    rw [bind_okI (ia h1), bind_okI (ib h3)]
  | pick a b c ia ib ic =>
    intro o o' v h
    obtain ⟨x, o1, h1, h2⟩ := OutR.bind_ok h
    show (wk (lkO lk) a (s, own)).bind _ = _
    rw [bind_okI (ia h1)]
    by_cases z : x > 0
    · simp only [if_pos z] at h2 ⊢
      exact ib h2
    · simp only [if_neg z] at h2 ⊢
      exact ic h2
  | choose a ns ia =>
    intro o o' v h
    obtain ⟨x, o1, h1, h2⟩ := OutR.bind_ok h
    show (wk (lkO lk) a (s, own)).bind _ = _
    rw [bind_okI (ia h1)]
    exact look h2
/-- the first name that is not known -/
theorem wk_lack {s : S} {own : List Pr} (hK : ∀ u x, seen own u = some x → lk s u = .ok x s) : ∀ {r : Rcp} {o : List Pr} {e : XErr}, wk (dnL (seen own)) r o = .err e → ∃ t, e = .noName t ∧ seen own t = none ∧ (∀ e', lk s t = .err e' → wk (lkO lk) r (s, own) = .err e') ∧
    ∀ x s', lk s t = .ok x s' → (∀ u y, seen (setd own t x) u = some y → lk s' u = .ok y s') → wk (lkO lk) r (s, own) = wk (lkO lk) r (s', setd own t x) := by
  have look : ∀ {t : List Nat} {o : List Pr} {e : XErr}, dnL (seen own) o t = .err e → e = .noName t ∧ seen own t = none ∧ (∀ e', lk s t = .err e' → lkO lk (s, own) t = .err e') ∧
      ∀ x s', lk s t = .ok x s' → (∀ u y, seen (setd own t x) u = some y → lk s' u = .ok y s') → lkO lk (s, own) t = lkO lk (s', setd own t x) t := by
    intro t o e h
    obtain ⟨e1, rfl⟩ := dnL_none h
    refine ⟨rfl, e1, fun e' h' => lkO_err h', fun x s' h' k' => ?_⟩
    have e2 : seen (setd own t x) t = some x := by rw [setd_new e1, seen_app, e1, seen_cons, if_pos rfl]
    rw [lkO_ok h', lkO_ok (k' t x e2), setd_seen e2]
  have up : ∀ {a : Rcp} {o o1 : List Pr} {x : Int} {t : List Nat} {y : Int} {s' : S}, wk (dnL (seen own)) a o = .ok x o1 → (∀ u z, seen (setd own t y) u = some z → lk s' u = .ok z s') → wk (lkO lk) a (s', setd own t y) = .ok x (s', setd own t y) :=
    fun h k' => wk_have k' (wk_mono (fun u z e => seen_setd e) h)
  intro r
  induction r with
  | num n => intro o e h; cases h
  | read t => exact fun h => ⟨t, look h⟩
  | two k a b ia ib =>
    intro o e h
    rcases OutR.bind_err h with h1 | ⟨x, o1, h1, h2⟩
    · obtain ⟨t, e1, e2, g1, g2⟩ := ia h1
      refine ⟨t, e1, e2, fun e' h' => bind_errI (g1 e' h'), fun x s' h' k' => ?_⟩
      show (wk (lkO lk) a (s, own)).bind _ = (wk (lkO lk) a (s', setd own t x)).bind _
      rw [g2 x s' h' k']
    · rcases OutR.bind_err h2 with h3 | ⟨y, o2, h3, h4⟩
      · obtain ⟨t, e1, e2, g1, g2⟩ := ib h3
        refine ⟨t, e1, e2, fun e' h' => ?_, fun y s' h' k' => ?_⟩
        · show (wk (lkO lk) a (s, own)).bind _ = _
          rw [bind_okI (wk_have hK h1), bind_errI (g1 e' h')]
        · show (wk (lkO lk) a (s, own)).bind _ = (wk (lkO lk) a (s', setd own t y)).bind _
          rw [bind_okI (wk_have hK h1), bind_okI (up h1 k'), g2 y s' h' k']
      · cases h4
  | pick a b c ia ib ic =>
    intro o e h
    rcases OutR.bind_err h with h1 | ⟨x, o1, h1, h2⟩
    · obtain ⟨t, e1, e2, g1, g2⟩ := ia h1
      refine ⟨t, e1, e2, fun e' h' => bind_errI (g1 e' h'), fun x s' h' k' => ?_⟩
      show (wk (lkO lk) a (s, own)).bind _ = (wk (lkO lk) a (s', setd own t x)).bind _
      rw [g2 x s' h' k']
    · by_cases z : x > 0
      · simp only [if_pos z] at h2
        obtain ⟨t, e1, e2, g1, g2⟩ := ib h2
        refine ⟨t, e1, e2, fun e' h' => ?_, fun y s' h' k' => ?_⟩
        · show (wk (lkO lk) a (s, own)).bind _ = _
          rw [bind_okI (wk_have hK h1), if_pos z, g1 e' h']
        · show (wk (lkO lk) a (s, own)).bind _ = (wk (lkO lk) a (s', setd own t y)).bind _
          rw [bind_okI (wk_have hK h1), bind_okI (up h1 k'), if_pos z, if_pos z, g2 y s' h' k']
      · simp only [if_neg z] at h2
        obtain ⟨t, e1, e2, g1, g2⟩ := ic h2
        refine ⟨t, e1, e2, fun e' h' => ?_, fun y s' h' k' => ?_⟩
        · show (wk (lkO lk) a (s, own)).bind _ = _
          rw [bind_okI (wk_have hK h1), if_neg z, g1 e' h']
        · show (wk (lkO lk) a (s, own)).bind _ = (wk (lkO lk) a (s', setd own t y)).bind _
          rw [bind_okI (wk_have hK h1), bind_okI (up h1 k'), if_neg z, if_neg z, g2 y s' h' k']
  | choose a ns ia =>
    intro o e h
    rcases OutR.bind_err h with h1 | ⟨x, o1, h1, h2⟩
    · obtain ⟨t, e1, e2, g1, g2⟩ := ia h1
      refine ⟨t, e1, e2, fun e' h' => bind_errI (g1 e' h'), fun x s' h' k' => ?_⟩
      show (wk (lkO lk) a (s, own)).bind _ = (wk (lkO lk) a (s', setd own t x)).bind _
      rw [g2 x s' h' k']
    · obtain ⟨e1, e2, g1, g2⟩ := look h2
      refine ⟨nthN ns x, e1, e2, fun e' h' => ?_, fun y s' h' k' => ?_⟩
      · show (wk (lkO lk) a (s, own)).bind _ = _
        rw [bind_okI (wk_have hK h1)]
        exact g1 e' h'
      · show (wk (lkO lk) a (s, own)).bind _ = (wk (lkO lk) a (s', setd own (nthN ns x) y)).bind _
        rw [bind_okI (wk_have hK h1), bind_okI (up h1 k')]
        exact g2 y s' h' k'
end
/-- what is looked for, name by name -/
theorem wk_pre {f : List Nat → Option Int} : ∀ {r : Rcp} {o o' : List Pr} {v : Int}, (o.map (·.1)).Nodup → (∀ p ∈ o, f p.1 = some p.2) → wk (dnL f) r o = .ok v o' → ∃ ext, o' = o ++ ext ∧ ∀ i p, ext[i]? = some p → wk (dnL (seen (o ++ ext.take i))) r o = .err (.noName p.1) := by
  have look : ∀ {t : List Nat} {o o' : List Pr} {v : Int}, (o.map (·.1)).Nodup → (∀ p ∈ o, f p.1 = some p.2) → dnL f o t = .ok v o' → ∃ ext, o' = o ++ ext ∧ ∀ i p, ext[i]? = some p → dnL (seen (o ++ ext.take i)) o t = .err (.noName p.1) := by
    intro t o o' v nd ho h
    obtain ⟨e, rfl⟩ := dnL_ok h
    cases e1 : seen o t with
    | some x =>
      refine ⟨[], by rw [setd_seen e1, List.append_nil], fun i p hi => ?_⟩
      simp at hi
    | none =>
      refine ⟨[(t, v)], setd_new e1, fun i p hi => ?_⟩
      cases i with
      | zero =>
        have : (t, v) = p := by simpa using hi
        subst this
        unfold dnL
        rw [List.take_zero, List.append_nil, e1]
      | succ i => simp at hi
  -- the part ahead, done with what it told and more
  have again : ∀ {a : Rcp} {o o1 m : List Pr} {x : Int}, (o1.map (·.1)).Nodup → (∀ p ∈ o, f p.1 = some p.2) → wk (dnL f) a o = .ok x o1 → wk (dnL (seen (o1 ++ m))) a o = .ok x o1 := by
    intro a o o1 m x nd ho h
    refine (wk_agree h).2 _ fun u y e hu => ?_
    obtain ⟨p, hp, ep⟩ := List.mem_map.mp hu
    have h2 := wk_told ho h p hp
    rw [show p.1 = u from ep, e] at h2
    obtain ⟨i, hi⟩ := List.mem_iff_getElem?.mp hp
    have := seen_at nd hi
    rw [show p.1 = u from ep] at this
    rw [seen_more this, ← Option.some.inj h2]
  have both : ∀ {e1 e2 : List Pr} {i : Nat}, e1.length ≤ i → (e1 ++ e2).take i = e1 ++ e2.take (i - e1.length) := fun {e1 e2 i} h => by
    rw [List.take_append, List.take_of_length_le h]
  intro r
  induction r with
  | num n => intro o o' v nd ho h; cases h; exact ⟨[], (List.append_nil _).symm, fun i p hi => by simp at hi⟩
  | read t => exact fun nd ho h => look nd ho h
  | two k a b ia ib =>
    intro o o' v nd ho h
    obtain ⟨x, o1, h1, h2⟩ := OutR.bind_ok h
    obtain ⟨y, o2, h3, h4⟩ := OutR.bind_ok h2
    cases h4
    have nd1 := wk_nd nd h1
    have ho1 := wk_told ho h1
    obtain ⟨e1, rfl, g1⟩ := ia nd ho h1
    obtain ⟨e2, rfl, g2⟩ := ib nd1 ho1 h3
    refine ⟨e1 ++ e2, List.append_assoc .., fun i p hi => ?_⟩
    by_cases c : i < e1.length
    · rw [List.getElem?_append_left c] at hi
      show (wk _ a o).bind _ = _
      rw [List.take_append_of_le_length (Nat.le_of_lt c)]
      exact bind_errI (g1 i p hi)
    · rw [List.getElem?_append_right (by omega)] at hi
      show (wk _ a o).bind _ = _
      rw [both (by omega), ← List.append_assoc, bind_okI (again nd1 ho h1)]
      exact bind_errI (g2 _ p hi)
  | pick a b c ia ib ic =>
    intro o o' v nd ho h
    obtain ⟨x, o1, h1, h2⟩ := OutR.bind_ok h
    have nd1 := wk_nd nd h1
    have ho1 := wk_told ho h1
    obtain ⟨e1, rfl, g1⟩ := ia nd ho h1
    by_cases z : x > 0
    · simp only [if_pos z] at h2
      obtain ⟨e2, rfl, g2⟩ := ib nd1 ho1 h2
      refine ⟨e1 ++ e2, List.append_assoc .., fun i p hi => ?_⟩
      by_cases c : i < e1.length
      · rw [List.getElem?_append_left c] at hi
        show (wk _ a o).bind _ = _
        rw [List.take_append_of_le_length (Nat.le_of_lt c)]
        exact bind_errI (g1 i p hi)
      · rw [List.getElem?_append_right (by omega)] at hi
        show (wk _ a o).bind _ = _
        rw [both (by omega), ← List.append_assoc, bind_okI (again nd1 ho h1), if_pos z]
        exact g2 _ p hi
    · simp only [if_neg z] at h2
      obtain ⟨e2, rfl, g2⟩ := ic nd1 ho1 h2
      refine ⟨e1 ++ e2, List.append_assoc .., fun i p hi => ?_⟩
      by_cases c : i < e1.length
      · rw [List.getElem?_append_left c] at hi
        show (wk _ a o).bind _ = _
        rw [List.take_append_of_le_length (Nat.le_of_lt c)]
        exact bind_errI (g1 i p hi)
      · rw [List.getElem?_append_right (by omega)] at hi
        show (wk _ a o).bind _ = _
        rw [both (by omega), ← List.append_assoc, bind_okI (again nd1 ho h1), if_neg z]
        exact g2 _ p hi
  | choose a ns ia =>
    intro o o' v nd ho h
    obtain ⟨x, o1, h1, h2⟩ := OutR.bind_ok h
    have nd1 := wk_nd nd h1
    have ho1 := wk_told ho h1
    obtain ⟨e1, rfl, g1⟩ := ia nd ho h1
    obtain ⟨e2, rfl, g2⟩ := look nd1 ho1 h2
    refine ⟨e1 ++ e2, List.append_assoc .., fun i p hi => ?_⟩
    by_cases c : i < e1.length
    · rw [List.getElem?_append_left c] at hi
      show (wk _ a o).bind _ = _
      rw [List.take_append_of_le_length (Nat.le_of_lt c)]
      exact bind_errI (g1 i p hi)
    · rw [List.getElem?_append_right (by omega)] at hi
      show (wk _ a o).bind _ = _
      rw [both (by omega), ← List.append_assoc, bind_okI (again nd1 ho h1)]
      exact g2 _ p hi
/-- a record that a recipe makes -/
structure TrueRec (r : Rcp) (rd : List Pr) (w : Int) : Prop where
  nd : (rd.map (·.1)).Nodup
  run : wk (dnL (seen rd)) r [] = .ok w rd
theorem TrueRec.lacks {r : Rcp} {rd : List Pr} {w : Int} (T : TrueRec r rd w) {i : Nat} {p : Pr} (h : rd[i]? = some p) : wk (dnL (seen (rd.take i))) r [] = .err (.noName p.1) := by
  obtain ⟨ext, e, g⟩ := wk_pre (o := []) List.nodup_nil (fun _ h => nomatch h) T.run
  rw [List.nil_append] at e
  subst e
  exact g i p h
theorem Rds.true {h : House} {t : List Nat} {own : List Pr} (a : Rds h t own) {r : Rcp} (e : rcpOf h.recs t = some r) : ∃ v, Val h t v ∧ TrueRec r own v := by
  obtain ⟨a1, r2, n, v, e2, a2⟩ := a
  obtain rfl : r2 = r := Option.some.inj (e2.symm.trans e)
  have nd := wk_nd (o := []) List.nodup_nil a2
  refine ⟨v, .work a1 e2 a2, nd, (wk_agree a2).2 _ fun u y e hu => ?_⟩
  obtain ⟨p, hp, ep⟩ := List.mem_map.mp hu
  have h2 := wk_told (f := Mad.val h n) (fun p (h : p ∈ ([] : List Pr)) => nomatch h) a2 p hp
  rw [show p.1 = u from ep, e] at h2
  obtain ⟨i, hi⟩ := List.mem_iff_getElem?.mp hp
  have := seen_at nd hi
  rw [show p.1 = u from ep] at this
  rw [this, ← Option.some.inj h2]
/-- a true record whose reads all are as they are now is the record of now -/
theorem TrueRec.now {h : House} {t : List Nat} {r : Rcp} {rd : List Pr} {w : Int} (T : TrueRec r rd w) (a1 : seen h.given t = none) (e : rcpOf h.recs t = some r) (hr : ∀ p ∈ rd, Val h p.1 p.2) : Val h t w ∧ Rds h t rd := by
  have ex : ∃ N, ∀ p ∈ rd, val h N p.1 = some p.2 := by
    have : ∀ l : List Pr, (∀ p ∈ l, Val h p.1 p.2) → ∃ N, ∀ p ∈ l, val h N p.1 = some p.2 := by
      intro l
      induction l with
      | nil => exact fun _ => ⟨0, fun _ h => nomatch h⟩
      | cons p l ih =>
        intro hl
        obtain ⟨n, e⟩ := hl p List.mem_cons_self
        obtain ⟨N, hN⟩ := ih fun q hq => hl q (List.mem_cons_of_mem _ hq)
        refine ⟨max n N, fun q hq => ?_⟩
        rcases List.mem_cons.mp hq with rfl | hq
        · exact val_le (Nat.le_max_left _ _) e
        · exact val_le (Nat.le_max_right _ _) (hN q hq)
    exact this rd hr
  obtain ⟨N, hN⟩ := ex
  have key := (wk_agree T.run).2 (val h N) fun u x e _ => hN _ (seen_mem e)
  exact ⟨.work a1 e key, ⟨a1, r, N, w, e, key⟩⟩
/-! #### going over the reads of a record, then working -/
section
variable {S : Type} {lk : S → List Nat → OutR S} {Kn : S → List Nat → Int → Prop}
/-- what a look tells is known from then on, and looking for it again changes nothing -/
structure Rem (lk : S → List Nat → OutR S) (Inv : S → Prop) (Kn : S → List Nat → Int → Prop) : Prop where
  same : ∀ s u x, Inv s → Kn s u x → lk s u = .ok x s
  got : ∀ s u x s', Inv s → Nm u → lk s u = .ok x s' → Inv s' ∧ Kn s' u x ∧ ∀ t y, Kn s t y → Kn s' t y
def alR (lk : S → List Nat → OutR S) : List Pr → S → XErr ⊕ (Bool × S)
  | [], s => .inr (true, s)
  | p :: ps, s => match lk s p.1 with
    | .err e => .inl e
    | .ok v s' => if v = p.2 then alR lk ps s' else .inr (false, s')
theorem seen_pre {rd : List Pr} (nd : (rd.map (·.1)).Nodup) {i : Nat} {p : Pr} (h : rd[i]? = some p) : seen (rd.take i) p.1 = none := by
  refine seen_not fun z => ?_
  obtain ⟨q, hq, e⟩ := List.mem_map.mp z
  obtain ⟨j, hj⟩ := List.mem_iff_getElem?.mp hq
  have jl : j < (rd.take i).length := (List.getElem?_eq_some_iff.mp hj).1
  rw [List.length_take] at jl
  rw [List.getElem?_take_of_lt (by omega)] at hj
  obtain ⟨hi, ei⟩ := List.getElem?_eq_some_iff.mp h
  obtain ⟨hj', ej⟩ := List.getElem?_eq_some_iff.mp hj
  have h1 : (rd.map (·.1))[i]'(by rw [List.length_map]; exact hi) = (rd.map (·.1))[j]'(by rw [List.length_map]; exact hj') := by
    rw [List.getElem_map, List.getElem_map, ei, ej]
    exact e.symm
  have := (List.getElem_inj nd).mp h1
  omega
variable {Inv : S → Prop}
/-- begun anew where the first names are known -/
theorem wk_restart (R : Rem lk Inv Kn) {r : Rcp} {rd : List Pr} {w : Int} (T : TrueRec r rd w) {s : S} (hi : Inv s) : ∀ i, i ≤ rd.length → (∀ p ∈ rd.take i, Kn s p.1 p.2) → wk (lkO lk) r (s, []) = wk (lkO lk) r (s, rd.take i)
  | 0, _, _ => by rw [List.take_zero]
  | i + 1, hl, hk => by
    have hlt : i < rd.length := by omega
    have hp := List.getElem?_eq_getElem hlt
    have e1 : rd.take (i + 1) = rd.take i ++ [rd[i]] := by rw [List.take_add_one, hp]; rfl
    have hk' : ∀ p ∈ rd.take i, Kn s p.1 p.2 := fun p h => hk p (by rw [e1]; exact List.mem_append_left _ h)
    rw [wk_restart R T hi i (by omega) hk']
    obtain ⟨t, et, en, _, g⟩ := wk_lack (lk := lk) (s := s) (own := rd.take i) (fun u x e => R.same s u x hi (hk' _ (seen_mem e))) (T.lacks hp)
    cases et
    have hs : setd (rd.take i) rd[i].1 rd[i].2 = rd.take (i + 1) := by rw [setd_new en, e1]
    have := g rd[i].2 s (R.same s _ _ hi (hk _ (by rw [e1]; exact List.mem_append_right _ (List.mem_singleton.mpr rfl)))) (fun u y e => by
      rw [hs] at e
      exact R.same s u y hi (hk _ (seen_mem e)))
    rw [this, hs]
/-- the reads of a record gone over: as working would -/
theorem al_run (R : Rem lk Inv Kn) {r : Rcp} {rd : List Pr} {w : Int} (T : TrueRec r rd w) (hn : ∀ p ∈ rd, Nm p.1) : ∀ (k i : Nat) (s : S), rd.length = i + k → Inv s → (∀ p ∈ rd.take i, Kn s p.1 p.2) → match alR lk (rd.drop i) s with
    | .inl e => wk (lkO lk) r (s, rd.take i) = .err e
    | .inr (true, s') => wk (lkO lk) r (s, rd.take i) = .ok w (s', rd) ∧ Inv s' ∧ (∀ p ∈ rd, Kn s' p.1 p.2) ∧ ∀ t y, Kn s t y → Kn s' t y
    | .inr (false, s') => wk (lkO lk) r (s, rd.take i) = wk (lkO lk) r (s', []) ∧ Inv s' ∧ (∃ p ∈ rd, ∃ v, v ≠ p.2 ∧ Kn s' p.1 v) ∧ ∀ t y, Kn s t y → Kn s' t y
  | 0, i, s, hl, hi, hk => by
    rw [List.drop_eq_nil_of_le (by omega)]
    show wk (lkO lk) r (s, rd.take i) = .ok w (s, rd) ∧ _
    rw [List.take_of_length_le (by omega)] at hk ⊢
    exact ⟨wk_have (fun u x e => R.same s u x hi (hk _ (seen_mem e))) T.run, hi, hk, fun _ _ h => h⟩
  | k + 1, i, s, hl, hi, hk => by
    have hlt : i < rd.length := by omega
    have hp := List.getElem?_eq_getElem hlt
    have e1 : rd.take (i + 1) = rd.take i ++ [rd[i]] := by rw [List.take_add_one, hp]; rfl
    have hm : rd[i] ∈ rd := List.getElem_mem hlt
    rw [List.drop_eq_getElem_cons hlt]
    obtain ⟨t, et, en, g0, g⟩ := wk_lack (lk := lk) (s := s) (own := rd.take i) (fun u x e => R.same s u x hi (hk _ (seen_mem e))) (T.lacks hp)
    cases et
    unfold alR
    cases e : lk s rd[i].1 with
    | err x => exact g0 x e
    | ok v s' =>
      obtain ⟨hi', k1, k2⟩ := R.got s _ v s' hi (hn _ hm) e
      have kset : ∀ u y, seen (setd (rd.take i) rd[i].1 v) u = some y → lk s' u = .ok y s' := fun u y e => by
        rw [setd_new en] at e
        rcases List.mem_append.mp (seen_mem e) with h | h
        · exact R.same s' u y hi' (k2 _ _ (hk _ h))
        · cases List.mem_singleton.mp h
          exact R.same s' _ _ hi' k1
      have step := g v s' e kset
      by_cases c : v = rd[i].2
      · simp only [if_pos c]
        have hk' : ∀ p ∈ rd.take (i + 1), Kn s' p.1 p.2 := fun p h => by
          rw [e1] at h
          rcases List.mem_append.mp h with h | h
          · exact k2 _ _ (hk _ h)
          · rw [List.mem_singleton.mp h, ← c]; exact k1
        have ih := al_run R T hn k (i + 1) s' (by omega) hi' hk'
        have es : setd (rd.take i) rd[i].1 v = rd.take (i + 1) := by rw [setd_new en, e1, c]
        rw [step, es]
        cases e3 : alR lk (rd.drop (i + 1)) s' with
        | inl x => rw [e3] at ih; exact ih
        | inr q =>
          obtain ⟨b, s2⟩ := q
          rw [e3] at ih
          cases b with
          | true => exact ⟨ih.1, ih.2.1, ih.2.2.1, fun t y h => ih.2.2.2 t y (k2 t y h)⟩
          | false => exact ⟨ih.1, ih.2.1, ih.2.2.1, fun t y h => ih.2.2.2 t y (k2 t y h)⟩
      · simp only [if_neg c]
        refine ⟨?_, hi', ⟨rd[i], hm, v, c, k1⟩, k2⟩
        rw [step, wk_restart R T hi' i (by omega) fun p h => k2 _ _ (hk _ h)]
        obtain ⟨t, et, en2, _, g2⟩ := wk_lack (lk := lk) (s := s') (own := rd.take i) (fun u x e => R.same s' u x hi' (k2 _ _ (hk _ (seen_mem e)))) (T.lacks hp)
        cases et
        exact (g2 v s' (R.same s' _ _ hi' k1) kset).symm
end
/-! ### builds from records: plain facts -/
abbrev Row := List Pr × Rcp × Int
abbrev Old := List (List Nat × Row)
structure AgS where
  known : List Pr
  book : Old
  made : List (List Nat)
  kept : List (List Nat)
  going : List (List Nat)
def AgS.rk (s : AgS) : RkS := ⟨s.known, s.book.map fun p => (p.1, p.2.1), s.going⟩
def AgS.keep (s : AgS) (t : List Nat) (o : Row) : AgS := { known := putA s.known t o.2.2, book := putA s.book t o, made := s.made, kept := s.kept ++ [t], going := s.going.dropLast }
def AgS.make (s : AgS) (t : List Nat) (o : Row) : AgS := { known := putA s.known t o.2.2, book := putA s.book t o, made := s.made ++ [t], kept := s.kept, going := s.going.dropLast }
def sameR (a b : Rcp) : Bool := PyData.eqv a.th.py b.th.py
def alike (lk : AgS → List Nat → OutR AgS) (old : Old) (t : List Nat) (r : Rcp) (s : AgS) : XErr ⊕ (Bool × AgS) := match getA old t with
  | none => .inr (false, s)
  | some o => if sameR o.2.1 r = true then alR lk o.1 s else .inr (false, s)
def settled (lk : AgS → List Nat → OutR AgS) (old : Old) (t : List Nat) (r : Rcp) (x : XErr ⊕ (Bool × AgS)) : OutR AgS := match x with
  | .inl e => .err e
  | .inr (true, s) => match getA old t with
    | none => .err (.ring [])
    | some o => .ok o.2.2 (s.keep t o)
  | .inr (false, s) => match wk (lkO lk) r (s, []) with
    | .err e => .err e
    | .ok v p => .ok v (p.1.make t (p.2, r, v))
def agR (h : House) (old : Old) : Nat → AgS → List Nat → OutR AgS
  | 0, _, _ => .err (.ring [])
  | n + 1, s, t => match seen s.known t with
    | some v => .ok v s
    | none => match seen h.given t with
      | some v => .ok v { s with known := putA s.known t v }
      | none => match rcpOf h.recs t with
        | none => .err (.noName t)
        | some r => if t ∈ s.going then .err (.ring (s.going.drop (s.going.idxOf t) ++ [t])) else
          settled (agR h old n) old t r (alike (agR h old n) old t r { s with going := s.going ++ [t] })
/-- of the recipes that the house has the records are true -/
def OldOk (h : House) (old : Old) : Prop := ∀ t o r, getA old t = some o → rcpOf h.recs t = some r → sameR o.2.1 r = true → TrueRec r o.1 o.2.2 ∧ ∀ p ∈ o.1, Nm p.1
/-- there is a record by the same recipe whose reads all are as they are now -/
def GoodRec (h : House) (old : Old) (t : List Nat) : Prop := ∃ o r, getA old t = some o ∧ rcpOf h.recs t = some r ∧ sameR o.2.1 r = true ∧ ∀ p ∈ o.1, Val h p.1 p.2
open Classical in
noncomputable def isGood (h : House) (old : Old) (t : List Nat) : Bool := decide (GoodRec h old t)
theorem isGood_t {h : House} {old : Old} {t : List Nat} (g : GoodRec h old t) : isGood h old t = true := by
  classical
  unfold isGood
  exact decide_eq_true g
theorem isGood_f {h : House} {old : Old} {t : List Nat} (g : ¬ GoodRec h old t) : isGood h old t = false := by
  classical
  unfold isGood
  exact decide_eq_false g
structure AgOk (h : House) (beta : Nat → Nat) (old : Old) (s : AgS) : Prop where
  rk : RkOk h beta s.rk
  coh : Coh h s.rk
  rows : ∀ p ∈ s.book, rcpOf h.recs p.1 = some p.2.2.1 ∧ seen s.known p.1 = some p.2.2.2
  kept : s.kept = (s.book.map (·.1)).filter (isGood h old)
  made : s.made = (s.book.map (·.1)).filter fun t => !isGood h old t
theorem putA_map {α β : Type} (f : α → β) (l : List (List Nat × α)) (t : List Nat) (a : α) : (putA l t a).map (fun p => (p.1, f p.2)) = putA (l.map fun p => (p.1, f p.2)) t (f a) := by
  unfold putA
  have e : ((l.map fun p => (p.1, f p.2)).any fun p => decide (p.1 = t)) = l.any fun p => decide (p.1 = t) := by rw [List.any_map]; rfl
  rw [e]
  split
  · rw [List.map_map, List.map_map]
    refine List.map_congr_left fun p _ => ?_
    show ((fun p : List Nat × α => (p.1, f p.2)) (if p.1 = t then (p.1, a) else p)) = if p.1 = t then (p.1, f a) else (p.1, f p.2)
    split <;> rfl
  · rw [List.map_append]; rfl
theorem rk_put (s : AgS) (t : List Nat) (o : Row) : (putA s.book t o).map (fun p => (p.1, p.2.1)) = putA s.rk.read t o.1 := putA_map (fun x : Row => x.1) s.book t o
theorem seen_putA {l : List Pr} {t u : List Nat} {v : Int} : seen (putA l t v) u = if u = t then some v else seen l u := by
  by_cases hm : t ∈ l.map (·.1)
  · unfold putA
    rw [if_pos (by obtain ⟨p, hp, e⟩ := List.mem_map.mp hm; exact List.any_eq_true.mpr ⟨p, hp, decide_eq_true e⟩)]
    have key : ∀ l : List Pr, (t ∈ l.map (·.1) ∨ u ≠ t) → seen (l.map fun p => if p.1 = t then (p.1, v) else p) u = if u = t then some v else seen l u := by
      intro l
      induction l with
      | nil => intro h; rcases h with h | h; · exact nomatch h
               · rw [if_neg h]; rfl
      | cons p l ih =>
        intro h
        rw [List.map_cons, seen_cons, seen_cons]
        by_cases c : p.1 = t
        · rw [if_pos c]
          by_cases d : u = t
          · rw [if_pos d, if_pos (c.trans d.symm)]
          · rw [if_neg d, if_neg (fun z => d (z.symm.trans c)), if_neg (fun z => d (z.symm.trans c)), ih (.inr d), if_neg d]
        · rw [if_neg c]
          by_cases d : p.1 = u
          · rw [if_pos d, if_pos d, if_neg fun z => c (d.trans z)]
          · rw [if_neg d, if_neg d]
            exact ih (h.imp (fun h => (List.mem_cons.mp h).resolve_left fun z => c z.symm) id)
    by_cases d : u = t
    · exact key l (.inl ‹_›)
    · exact key l (.inr d)
  · rw [putA_new v hm, seen_app]
    by_cases d : u = t
    · rw [if_pos d, d, seen_not hm, seen_cons, if_pos rfl]
    · rw [if_neg d]
      cases e : seen l u with
      | some x => rfl
      | none => rw [seen_cons, if_neg fun z => d z.symm]; rfl
theorem lkO_is (lk : RkS → List Nat → OutR RkS) : lkO lk = lkOwn lk := by
  funext p t
  unfold lkO lkOwn
  cases lk p.1 t <;> rfl
/-- two lookers that tell alike -/
theorem wk_sim {S1 S2 : Type} {l1 : S1 → List Nat → OutR S1} {l2 : S2 → List Nat → OutR S2} {R : S1 → S2 → Prop} (hl : ∀ a b t, R a b → Nm t → match l2 b t with
    | .err e => l1 a t = .err e
    | .ok v b' => ∃ a', l1 a t = .ok v a' ∧ R a' b') : ∀ {r : Rcp} {a : S1} {b : S2} {o : List Pr}, r.Wn → R a b → match wk (lkO l2) r (b, o) with
    | .err e => wk (lkO l1) r (a, o) = .err e
    | .ok v p => ∃ a', wk (lkO l1) r (a, o) = .ok v (a', p.2) ∧ R a' p.1 := by
  have look : ∀ {t : List Nat} {a : S1} {b : S2} {o : List Pr}, Nm t → R a b → match lkO l2 (b, o) t with
      | .err e => lkO l1 (a, o) t = .err e
      | .ok v p => ∃ a', lkO l1 (a, o) t = .ok v (a', p.2) ∧ R a' p.1 := by
    intro t a b o ht hr
    have := hl a b t hr ht
    cases e : l2 b t with
    | err x =>
      rw [e] at this
      rw [lkO_err e]
      exact lkO_err this
    | ok v b' =>
      rw [e] at this
      obtain ⟨a', e1, r1⟩ := this
      rw [lkO_ok e]
      exact ⟨a', lkO_ok e1, r1⟩
  intro r
  induction r with
  | num n => intro a b o _ hr; exact ⟨a, rfl, hr⟩
  | read t => exact fun hw hr => look hw hr
  | two k x y ix iy =>
    intro a b o hw hr
    have h1 := ix (o := o) hw.1 hr
    show match (wk (lkO l2) x (b, o)).bind _ with | .err e => (wk (lkO l1) x (a, o)).bind _ = .err e | .ok v p => ∃ a', (wk (lkO l1) x (a, o)).bind _ = .ok v (a', p.2) ∧ R a' p.1
    cases e : wk (lkO l2) x (b, o) with
    | err z => rw [e] at h1; exact bind_errI h1
    | ok v p =>
      rw [e] at h1
      obtain ⟨a1, e1, r1⟩ := h1
      have h2 := iy (o := p.2) hw.2 r1
      rw [show (OutR.ok v p).bind _ = _ from rfl, bind_okI e1]
      show match (wk (lkO l2) y (p.1, p.2)).bind _ with | .err e => (wk (lkO l1) y (a1, p.2)).bind _ = .err e | .ok v p' => ∃ a', (wk (lkO l1) y (a1, p.2)).bind _ = .ok v (a', p'.2) ∧ R a' p'.1
      cases e2 : wk (lkO l2) y (p.1, p.2) with
      | err z => rw [e2] at h2; exact bind_errI h2
      | ok w q =>
        rw [e2] at h2
        obtain ⟨a2, e3, r2⟩ := h2
        exact ⟨a2, bind_okI e3, r2⟩
  | pick x y z ix iy iz =>
    intro a b o hw hr
    have h1 := ix (o := o) hw.1 hr
    show match (wk (lkO l2) x (b, o)).bind _ with | .err e => (wk (lkO l1) x (a, o)).bind _ = .err e | .ok v p => ∃ a', (wk (lkO l1) x (a, o)).bind _ = .ok v (a', p.2) ∧ R a' p.1
    cases e : wk (lkO l2) x (b, o) with
    | err z => rw [e] at h1; exact bind_errI h1
    | ok v p =>
      rw [e] at h1
      obtain ⟨a1, e1, r1⟩ := h1
      rw [bind_okI e1]
      refine (show match (if v > 0 then wk (lkO l2) y p else wk (lkO l2) z p) with | .err e => (if v > 0 then wk (lkO l1) y (a1, p.2) else wk (lkO l1) z (a1, p.2)) = .err e | .ok w q => ∃ a', (if v > 0 then wk (lkO l1) y (a1, p.2) else wk (lkO l1) z (a1, p.2)) = .ok w (a', q.2) ∧ R a' q.1 from ?_)
      by_cases c : v > 0
      · simp only [if_pos c]
        exact iy (o := p.2) hw.2.1 r1
      · simp only [if_neg c]
        exact iz (o := p.2) hw.2.2 r1
  | choose x ns ix =>
    intro a b o hw hr
    have h1 := ix (o := o) hw.1 hr
    show match (wk (lkO l2) x (b, o)).bind _ with | .err e => (wk (lkO l1) x (a, o)).bind _ = .err e | .ok v p => ∃ a', (wk (lkO l1) x (a, o)).bind _ = .ok v (a', p.2) ∧ R a' p.1
    cases e : wk (lkO l2) x (b, o) with
    | err z => rw [e] at h1; exact bind_errI h1
    | ok v p =>
      rw [e] at h1
      obtain ⟨a1, e1, r1⟩ := h1
      rw [show (OutR.ok v p).bind _ = _ from rfl, bind_okI e1]
      obtain ⟨i, _, hi⟩ := nth_mem hw.2.1 v
      exact look (o := p.2) (hw.2.2.2 _ (List.mem_of_getElem? hi)) r1
/-! #### a build from records tells what a fresh build tells -/
theorem AgOk.empty (h : House) (beta : Nat → Nat) (old : Old) : AgOk h beta old ⟨[], [], [], [], []⟩ := ⟨emptyOk h beta, Coh.empty h, (fun _ h => nomatch h), rfl, rfl⟩
theorem AgOk.kn {h : House} {beta : Nat → Nat} {old : Old} {s : AgS} (o : AgOk h beta old s) {u : List Nat} {x : Int} (e : seen s.known u = some x) : Val h u x := o.coh.kn _ (seen_mem e)
/-- what is known stays known -/
theorem kn_keep {h : House} {s s' : RkS} (c : Coh h s) (c' : Coh h s') (mono : ∀ u ∈ s.known.map (·.1), u ∈ s'.known.map (·.1)) {u : List Nat} {x : Int} (e : seen s.known u = some x) : seen s'.known u = some x := by
  have hm := mono u (seen_key e)
  cases e2 : seen s'.known u with
  | none => exact absurd hm (seen_none e2)
  | some y =>
    have h1 : Val h u x := c.kn _ (seen_mem e)
    have h2 : Val h u y := c'.kn _ (seen_mem e2)
    rw [h1.det h2]
theorem AgOk.put {h : House} {beta : Nat → Nat} {old : Old} {s : AgS} {A : List (List Nat)} {t : List Nat} {o : Row} {dm : Nat} (HH : HouseN dm h beta) (k : AgOk h beta old s) (ha : s.going = A ++ [t]) (e1 : seen h.given t = none) (e2 : rcpOf h.recs t = some o.2.1) (hv : Val h t o.2.2) (hr : Rds h t o.1) (hn : ∀ p ∈ o.1, Nm p.1) :
    RkOk h beta ⟨putA s.known t o.2.2, putA s.rk.read t o.1, s.going.dropLast⟩ ∧ Coh h ⟨putA s.known t o.2.2, putA s.rk.read t o.1, s.going.dropLast⟩ ∧ (putA s.book t o).map (·.1) = s.book.map (·.1) ++ [t] ∧ (∀ p ∈ putA s.book t o, rcpOf h.recs p.1 = some p.2.2.1 ∧ seen (putA s.known t o.2.2) p.1 = some p.2.2.2) := by
  have nd := k.rk.nd
  have hrk : s.rk.asked = A ++ [t] := ha
  rw [hrk] at nd
  have ct : ¬ t ∈ s.rk.read.map (·.1) := fun z => (List.nodup_append.mp nd).2.2 t (List.mem_append_right _ (List.mem_singleton.mpr rfl)) t z rfl
  have eb : s.rk.read.map (·.1) = s.book.map (·.1) := by
    show (s.book.map fun p => (p.1, p.2.1)).map (·.1) = _
    rw [List.map_map]
    rfl
  have kn : ∀ {u x}, seen s.known u = some x → seen (putA s.known t o.2.2) u = some x := fun {u x} e => by
    rw [seen_putA]
    by_cases c : u = t
    · rw [if_pos c, (show Val h u x from k.kn e).det (by rw [c]; exact hv)]
    · rw [if_neg c, e]
  have hmem := rcpOf_mem e2
  refine ⟨⟨?_, fun u hu => ?_, fun p hp => ?_, fun p hp q hq => ?_, fun u hu => ?_, putA_nd k.rk.kd, fun u hu => ?_⟩, ⟨fun p hp => ?_, fun p hp => ?_, fun u hu => ?_⟩, ?_, fun p hp => ?_⟩
  · show (s.going.dropLast ++ (putA s.rk.read t o.1).map (·.1)).Nodup
    rw [ha, List.dropLast_concat, putA_keys, if_neg ct, ← List.append_assoc]
    have : ((A ++ s.rk.read.map (·.1)) ++ [t]).Perm ((A ++ [t]) ++ s.rk.read.map (·.1)) := by
      rw [List.append_assoc, List.append_assoc]
      exact List.Perm.append_left _ List.perm_append_comm
    exact this.nodup_iff.mpr nd
  · have hu : u ∈ s.going.dropLast ++ (putA s.rk.read t o.1).map (·.1) := hu
    rw [ha, List.dropLast_concat, putA_keys, if_neg ct] at hu
    have sub := k.rk.sub
    rw [hrk] at sub
    rcases List.mem_append.mp hu with hu | hu
    · exact sub u (List.mem_append_left _ (List.mem_append_left _ hu))
    · rcases List.mem_append.mp hu with hu | hu
      · exact sub u (List.mem_append_right _ hu)
      · exact sub u (List.mem_append_left _ (List.mem_append_right _ hu))
  · rcases mem_putA hp with rfl | hp
    · exact ⟨(HH.rcp _ hmem).1, hv⟩
    · exact k.rk.val p hp
  · rcases mem_putA hp with rfl | hp
    · exact hn q hq
    · exact k.rk.rds p hp q hq
  · rcases putA_mem.mp hu with hu | hu
    · exact putA_mem.mpr (.inl (k.rk.kn u hu))
    · exact putA_mem.mpr (.inr hu)
  · rcases putA_mem.mp hu with hu | rfl
    · exact k.rk.ks u hu
    · exact List.mem_append_right _ (List.mem_map.mpr ⟨_, hmem, rfl⟩)
  · rcases mem_putA hp with rfl | hp
    · exact hv
    · exact k.coh.kn p hp
  · rcases mem_putA hp with rfl | hp
    · exact hr
    · exact k.coh.rd p hp
  · rcases putA_mem.mp hu with hu | rfl
    · exact (k.coh.kr u hu).imp id fun h => putA_mem.mpr (.inl h)
    · exact .inr (putA_mem.mpr (.inr rfl))
  · rw [putA_keys, if_neg (by rw [← eb]; exact ct)]
  · rcases mem_putA hp with rfl | hp
    · exact ⟨e2, by rw [seen_putA, if_pos rfl]⟩
    · exact ⟨(k.rows p hp).1, kn (k.rows p hp).2⟩
theorem AgOk.doneK {h : House} {beta : Nat → Nat} {old : Old} {s : AgS} {A : List (List Nat)} {t : List Nat} {o : Row} {dm : Nat} (HH : HouseN dm h beta) (k : AgOk h beta old s) (ha : s.going = A ++ [t]) (e1 : seen h.given t = none) (e2 : rcpOf h.recs t = some o.2.1) (hv : Val h t o.2.2) (hr : Rds h t o.1) (hn : ∀ p ∈ o.1, Nm p.1) (g : GoodRec h old t) : AgOk h beta old (s.keep t o) := by
  obtain ⟨a, b, c, d⟩ := k.put HH ha e1 e2 hv hr hn
  have gb := isGood_t g
  refine ⟨?_, ?_, d, ?_, ?_⟩
  · show RkOk h beta ⟨putA s.known t o.2.2, (putA s.book t o).map _, s.going.dropLast⟩
    rw [rk_put]; exact a
  · show Coh h ⟨putA s.known t o.2.2, (putA s.book t o).map _, s.going.dropLast⟩
    rw [rk_put]; exact b
  · show s.kept ++ [t] = ((putA s.book t o).map (·.1)).filter _
    rw [c, List.filter_append, k.kept, List.filter_cons_of_pos gb]; rfl
  · show s.made = ((putA s.book t o).map (·.1)).filter _
    rw [c, List.filter_append, k.made, List.filter_cons_of_neg (by rw [gb]; decide)]; exact (List.append_nil _).symm
theorem AgOk.doneM {h : House} {beta : Nat → Nat} {old : Old} {s : AgS} {A : List (List Nat)} {t : List Nat} {o : Row} {dm : Nat} (HH : HouseN dm h beta) (k : AgOk h beta old s) (ha : s.going = A ++ [t]) (e1 : seen h.given t = none) (e2 : rcpOf h.recs t = some o.2.1) (hv : Val h t o.2.2) (hr : Rds h t o.1) (hn : ∀ p ∈ o.1, Nm p.1) (g : ¬ GoodRec h old t) : AgOk h beta old (s.make t o) := by
  obtain ⟨a, b, c, d⟩ := k.put HH ha e1 e2 hv hr hn
  have gb := isGood_f g
  refine ⟨?_, ?_, d, ?_, ?_⟩
  · show RkOk h beta ⟨putA s.known t o.2.2, (putA s.book t o).map _, s.going.dropLast⟩
    rw [rk_put]; exact a
  · show Coh h ⟨putA s.known t o.2.2, (putA s.book t o).map _, s.going.dropLast⟩
    rw [rk_put]; exact b
  · show s.kept = ((putA s.book t o).map (·.1)).filter _
    rw [c, List.filter_append, k.kept, List.filter_cons_of_neg (by rw [gb]; decide)]; exact (List.append_nil _).symm
  · show s.made ++ [t] = ((putA s.book t o).map (·.1)).filter _
    rw [c, List.filter_append, k.made, List.filter_cons_of_pos (by rw [gb]; decide)]; rfl
theorem Rem.of_sim {h : House} {beta : Nat → Nat} {old : Old} {dm n : Nat} (HH : HouseN dm h beta) {A : List (List Nat)} (hA : h.recs.length + 1 ≤ A.length + n)
    (ih : ∀ s t, AgOk h beta old s → s.going = A → Nm t → match lkR h n s.rk t with
      | .err e => agR h old n s t = .err e
      | .ok v k => ∃ s', agR h old n s t = .ok v s' ∧ s'.rk = k ∧ AgOk h beta old s') :
    Rem (agR h old n) (fun s => AgOk h beta old s ∧ s.going = A) (fun s u x => seen s.known u = some x) := by
  refine ⟨fun s u x ⟨o, ha⟩ e => ?_, fun s u x s' ⟨o, ha⟩ hu e => ?_⟩
  · cases n with
    | zero =>
      have := o.rk.len
      rw [show s.rk.asked = s.going from rfl, ha] at this
      omega
    | succ n =>
      unfold agR
      rw [e]
  · have := ih s u o ha hu
    cases e1 : lkR h n s.rk u with
    | err z => rw [e1] at this; rw [show agR h old n s u = _ from this] at e; cases e
    | ok v k =>
      rw [e1] at this
      obtain ⟨s2, e2, rfl, o2⟩ := this
      rw [e] at e2
      cases e2
      have st := lkR_step HH n s.rk u x s'.rk o.rk hu e1
      refine ⟨⟨o2, st.asked.trans ha⟩, ?_, fun t y hk => kn_keep o.coh o2.coh st.mono hk⟩
      cases e3 : seen s'.known u with
      | none => exact absurd st.got (seen_none e3)
      | some y =>
        have h1 : Val h u y := o2.kn e3
        rw [h1.det st.worth]
theorem agR_sim {dm : Nat} {h : House} {beta : Nat → Nat} {old : Old} (HH : HouseN dm h beta) (hO : OldOk h old) : ∀ (n : Nat) (s : AgS) (t : List Nat), AgOk h beta old s → Nm t → h.recs.length + 1 ≤ s.going.length + n → match lkR h n s.rk t with
    | .err e => agR h old n s t = .err e
    | .ok v k => ∃ s', agR h old n s t = .ok v s' ∧ s'.rk = k ∧ AgOk h beta old s'
  | 0, s, t, o, _, hn => by
    have := o.rk.len
    have e : s.rk.asked = s.going := rfl
    rw [e] at this
    omega
  | n + 1, s, t, o, ht, hn => by
    unfold lkR agR
    rw [show s.rk.known = s.known from rfl]
    cases e1 : seen s.known t with
    | some v => exact ⟨s, rfl, rfl, o⟩
    | none =>
      cases e2 : seen h.given t with
      | some v =>
        have hx : Val h t v := .given e2
        have st := lkR_step HH (n + 1) s.rk t v { s.rk with known := putA s.known t v } o.rk ht (by unfold lkR; rw [show s.rk.known = s.known from rfl, e1, e2])
        have cc := (lkR_sound (h := h) (n + 1) s.rk t v { s.rk with known := putA s.known t v } o.coh (by unfold lkR; rw [show s.rk.known = s.known from rfl, e1, e2])).2
        exact ⟨_, rfl, rfl, st.ok, cc, fun p hp => ⟨(o.rows p hp).1, kn_keep o.coh cc st.mono (o.rows p hp).2⟩, o.kept, o.made⟩
      | none =>
        cases e3 : rcpOf h.recs t with
        | none => rfl
        | some r =>
          rw [show s.rk.asked = s.going from rfl]
          by_cases c : t ∈ s.going
          · simp only [if_pos c]
          · simp only [if_neg c]
            obtain ⟨ho1, ct⟩ := o.rk.ask e3 e1 c
            have hmem := rcpOf_mem e3
            obtain ⟨_, hwn, hdp⟩ := HH.rcp _ hmem
            have o1 : AgOk h beta old { s with going := s.going ++ [t] } := ⟨ho1, ⟨o.coh.kn, o.coh.rd, o.coh.kr⟩, o.rows, o.kept, o.made⟩
            have hA : h.recs.length + 1 ≤ (s.going ++ [t]).length + n := by
              rw [List.length_append]
              show _ ≤ s.going.length + 1 + n
              omega
            have ih : ∀ s1 u, AgOk h beta old s1 → s1.going = s.going ++ [t] → Nm u → match lkR h n s1.rk u with
                | .err e => agR h old n s1 u = .err e
                | .ok v k => ∃ s', agR h old n s1 u = .ok v s' ∧ s'.rk = k ∧ AgOk h beta old s' := fun s1 u q ga hu => agR_sim HH hO n s1 u q hu (by rw [ga]; exact hA)
            have R := Rem.of_sim HH hA ih
            -- working tells what the reckoner's working tells
            have work := wk_sim (l1 := agR h old n) (l2 := lkR h n) (R := fun a b => a.rk = b ∧ AgOk h beta old a ∧ a.going = s.going ++ [t]) (fun a b u hr hu => by
              obtain ⟨rfl, q, ga⟩ := hr
              have := ih a u q ga hu
              cases e : lkR h n a.rk u with
              | err z => rw [e] at this; exact this
              | ok v k =>
                rw [e] at this
                obtain ⟨a', e4, rfl, q'⟩ := this
                exact ⟨a', e4, rfl, q', (lkR_step HH n a.rk u v a'.rk q.rk hu e).asked.trans ga⟩) (r := r) (a := { s with going := s.going ++ [t] }) (b := { s.rk with asked := s.going ++ [t] }) (o := []) hwn ⟨rfl, o1, rfl⟩
            rw [lkO_is] at work
            -- what a made record comes to
            have fresh : ∀ {v : Int} {p : RkS × List Pr}, wk (lkOwn (lkR h n)) r ({ s.rk with asked := s.going ++ [t] }, []) = .ok v p → Val h t v ∧ Rds h t p.2 ∧ ∀ q ∈ p.2, Nm q.1 := fun {v p} e => by
              obtain ⟨o4, a4, l4, w4, b4⟩ := wk_step (A := s.going ++ [t]) (fun s t v s' o _ ht e => lkR_step HH n s t v s' o ht e) hwn (p := ({ s.rk with asked := s.going ++ [t] }, [])) ho1 rfl (OwnOk.nil _ _) e
              obtain ⟨c4, m, g4⟩ := wk_sound (fun s t v s' => lkR_sound n s t v s') (p := ({ s.rk with asked := s.going ++ [t] }, [])) o1.coh e
              exact ⟨.work e2 e3 g4, ⟨e2, r, m, v, e3, g4⟩, w4.sm⟩
            have notNone : getA old t = none → ¬ GoodRec h old t := fun e5 ⟨o', _, g, _⟩ => by rw [e5] at g; cases g
            have notSame : ∀ ro, getA old t = some ro → sameR ro.2.1 r = false → ¬ GoodRec h old t := fun ro e5 e6 ⟨o', r', g1, g2, g3, _⟩ => by
              rw [e5] at g1
              rw [e3] at g2
              cases g1
              cases g2
              rw [e6] at g3
              cases g3
            have bad : ∀ (s1 : AgS) (z : XErr), wk (lkO (agR h old n)) r (s1, []) = .err z → settled (agR h old n) old t r (.inr (false, s1)) = .err z := fun s1 z e => by
              show (match wk (lkO (agR h old n)) r (s1, []) with | .err e => OutR.err e | .ok v p => .ok v (p.1.make t (p.2, r, v))) = .err z
              rw [e]
            have run : ∀ ro, getA old t = some ro → sameR ro.2.1 r = true → _ := fun ro e5 e6 => al_run R (hO t ro r e5 e3 e6).1 (hO t ro r e5 e3 e6).2 ro.1.length 0 { s with going := s.going ++ [t] } (by omega) ⟨o1, rfl⟩ (fun p h => by rw [List.take_zero] at h; cases h)
            cases e4 : wk (lkOwn (lkR h n)) r ({ s.rk with asked := s.going ++ [t] }, []) with
            | err z =>
              rw [e4] at work
              have e4' : wk (lkOwn (lkR h n)) r (({ known := s.known, read := s.rk.read, asked := s.going ++ [t] } : RkS), []) = _ := e4
              rw [e4']
              show settled (agR h old n) old t r (alike (agR h old n) old t r { s with going := s.going ++ [t] }) = .err z
              unfold alike
              cases e5 : getA old t with
              | none => exact bad _ z work
              | some ro =>
                cases e6 : sameR ro.2.1 r with
                | false =>
                  simp only [e6, Bool.false_eq_true, if_false]
                  exact bad _ z work
                | true =>
                  simp only [e6, if_true]
                  have run := run ro e5 e6
                  rw [List.drop_zero, List.take_zero] at run
                  cases e7 : alR (agR h old n) ro.1 { s with going := s.going ++ [t] } with
                  | inl y =>
                    rw [e7] at run
                    have := run.symm.trans work
                    cases this
                    rfl
                  | inr q =>
                    obtain ⟨b, s2⟩ := q
                    rw [e7] at run
                    cases b with
                    | false => exact bad _ z (run.1.symm.trans work)
                    | true =>
                      have := run.1.symm.trans work
                      cases this
            | ok v p =>
              rw [e4] at work
              obtain ⟨a', e8, er, q, ga⟩ := work
              obtain ⟨hv, hr, hnm⟩ := fresh e4
              have e4' : wk (lkOwn (lkR h n)) r (({ known := s.known, read := s.rk.read, asked := s.going ++ [t] } : RkS), []) = _ := e4
              rw [e4']
              show ∃ s', settled (agR h old n) old t r (alike (agR h old n) old t r { s with going := s.going ++ [t] }) = .ok v s' ∧ s'.rk = { known := putA p.1.known t v, read := putA p.1.read t p.2, asked := p.1.asked.dropLast } ∧ AgOk h beta old s'
              have made : ∀ s1 : AgS, wk (lkO (agR h old n)) r (s1, []) = .ok v (a', p.2) → ¬ GoodRec h old t → ∃ s', settled (agR h old n) old t r (.inr (false, s1)) = .ok v s' ∧ s'.rk = { known := putA p.1.known t v, read := putA p.1.read t p.2, asked := p.1.asked.dropLast } ∧ AgOk h beta old s' := fun s1 es ng => by
                refine ⟨a'.make t (p.2, r, v), ?_, ?_, q.doneM HH ga e2 e3 hv hr hnm ng⟩
                · show (match wk (lkO (agR h old n)) r (s1, []) with | .err e => OutR.err e | .ok v p => .ok v (p.1.make t (p.2, r, v))) = _
                  rw [es]
                · show (⟨putA a'.known t v, (putA a'.book t (p.2, r, v)).map _, a'.going.dropLast⟩ : RkS) = _
                  rw [rk_put, ← er]
                  rfl
              unfold alike
              cases e5 : getA old t with
              | none => exact made _ e8 (notNone e5)
              | some ro =>
                cases e6 : sameR ro.2.1 r with
                | false =>
                  simp only [e6, Bool.false_eq_true, if_false]
                  exact made _ e8 (notSame ro e5 e6)
                | true =>
                  simp only [e6, if_true]
                  have run := run ro e5 e6
                  rw [List.drop_zero, List.take_zero] at run
                  have req : ro.2.1 = r := eqv_rcp e6
                  cases e7 : alR (agR h old n) ro.1 { s with going := s.going ++ [t] } with
                  | inl y =>
                    rw [e7] at run
                    have := run.symm.trans e8
                    cases this
                  | inr q7 =>
                    obtain ⟨b, s2⟩ := q7
                    rw [e7] at run
                    cases b with
                    | false =>
                      obtain ⟨r1, ⟨q2, ga2⟩, ⟨p', hp, v', hne, hkn⟩, _⟩ := run
                      refine made s2 (r1.symm.trans e8) fun ⟨o', r', g1, g2, g3, g4⟩ => ?_
                      rw [e5] at g1
                      cases g1
                      exact hne ((q2.kn hkn).det (g4 p' hp))
                    | true =>
                      obtain ⟨r1, ⟨q2, ga2⟩, hkn, _⟩ := run
                      obtain ⟨ew, ea⟩ := OutR.ok.inj (r1.symm.trans e8)
                      obtain ⟨ea1, ea2⟩ := Prod.mk.inj ea
                      subst ea1
                      refine ⟨s2.keep t ro, ?_, ?_, q2.doneK HH ga2 e2 (by rw [req]; exact e3) (by rw [ew]; exact hv) (by rw [ea2]; exact hr) (by rw [ea2]; exact hnm) ⟨ro, r, e5, e3, e6, fun p hp => q2.kn (hkn p hp)⟩⟩
                      · show (match getA old t with | none => OutR.err (.ring []) | some o => .ok o.2.2 (s2.keep t o)) = _
                        rw [e5, ← ew]
                      · show (⟨putA s2.known t ro.2.2, (putA s2.book t ro).map _, s2.going.dropLast⟩ : RkS) = _
                        rw [rk_put, ← er, ew, ea2]
                        rfl
/-! ### rows of records -/
open LamX NdefX
/-- the rows of what was worked: reads, recipe, worth -/
def rowOf (h : House) (s : RkS) (p : List Nat × List Pr) : List Nat × (List Pr × Rcp × Int) := (p.1, (p.2, (rcpOf h.recs p.1).getD (.num 0), (seen s.known p.1).getD 0))
def RowR (H : Hp) (r : List Pr × Rcp × Int) (v : V) : Prop := ∃ T rv L xs, v = .ref T ∧ H T = some (.tup [rv, .ref L, .int r.2.2]) ∧ Rec H r.2.1 rv ∧ H L = some (.lst xs) ∧ Prs H r.1 xs
theorem RowR.st {H H' : Hp} (k : Keep H H') (l : ∀ b xs, H b = some (.lst xs) → H' b = some (.lst xs)) {r : List Pr × Rcp × Int} {v : V} (h : RowR H r v) : RowR H' r v := by
  obtain ⟨T, rv, L, xs, e, h1, h2, h3, h4⟩ := h
  exact ⟨T, rv, L, xs, e, k _ _ h1, h2.keep k, l _ _ h3, h4.keep k⟩
theorem kvR_own {α : Type} {R : α → V → Prop} : ∀ {l : List (List Nat × α)} {m : List (Key × V)}, KvR R l m → (l.map (·.1)).Nodup → ∀ q ∈ m, valV m q.1 = some q.2
  | [], [], _, _, _, hq => nomatch hq
  | p :: l, q :: m, ⟨x, y, z⟩, nd, r, hr => by
    obtain ⟨n1, n2⟩ := List.nodup_cons.mp nd
    rcases List.mem_cons.mp hr with rfl | hr
    · exact valV_pos rfl
    · have h1 := kvR_own z n2 r hr
      obtain ⟨i, hi, e⟩ := List.mem_iff_getElem.mp hr
      obtain ⟨p2, e1, e2, _⟩ := KvR.at (i := i) (k := r.1) (v := r.2) z (by rw [List.getElem?_eq_getElem hi, e])
      rw [valV_neg (by
        rw [x, e2]
        exact fun e => n1 (by show p.1 ∈ _; rw [kS_inj e]; exact List.mem_map.mpr ⟨p2, List.mem_of_getElem? e1, rfl⟩))]
      exact h1
  | [], _ :: _, h, _, _, _ => h.elim
  | _ :: _, [], h, _, _, _ => h.elim
/-- the lists of reads of the rows are new, and told apart from one another and from what else is told -/
def Apart (H0 H : Hp) (kD rD nL : Addr) (kvs : List (Key × V)) : Prop := kD ≠ rD ∧ ∃ fkv : List (Key × V), (fkv.map (·.2)).Nodup ∧ ∀ (i : Nat) (k : Key) (v : V), kvs[i]? = some (k, v) → ∃ (T : Addr) (rv : V) (L : Addr) (y : V) (k' : Key), v = V.ref T ∧ H T = some (.tup [rv, V.ref L, y]) ∧ fkv[i]? = some (k', V.ref L) ∧ H0 L = none ∧ L ≠ nL
theorem Apart.list {H0 H : Hp} {kD rD nL : Addr} {kvs : List (Key × V)} (a : Apart H0 H kD rD nL kvs) : kD ≠ rD ∧ ∃ Ls : List Addr, Ls.length = kvs.length ∧ Ls.Nodup ∧ (∀ L ∈ Ls, H0 L = none ∧ L ≠ nL) ∧ ∀ (i : Nat) (k : Key) (v : V), kvs[i]? = some (k, v) → ∃ (T : Addr) (rv : V) (L : Addr) (y : V), v = V.ref T ∧ H T = some (.tup [rv, V.ref L, y]) ∧ Ls[i]? = some L := by
  obtain ⟨n, fkv, nd, h⟩ := a
  have ex : ∀ i : Fin kvs.length, ∃ (L T : Addr) (rv y : V) (k' : Key), kvs[i].2 = V.ref T ∧ H T = some (.tup [rv, V.ref L, y]) ∧ fkv[i.val]? = some (k', V.ref L) ∧ H0 L = none ∧ L ≠ nL := fun i => by
    obtain ⟨T, rv, L, y, k', h1, h2, h3, h4, h5⟩ := h i.val kvs[i].1 kvs[i].2 (List.getElem?_eq_getElem i.isLt)
    exact ⟨L, T, rv, y, k', h1, h2, h3, h4, h5⟩
  obtain ⟨g, hg⟩ : ∃ g : Fin kvs.length → Addr, ∀ i, ∃ (T : Addr) (rv y : V) (k' : Key), kvs[i].2 = V.ref T ∧ H T = some (.tup [rv, V.ref (g i), y]) ∧ fkv[i.val]? = some (k', V.ref (g i)) ∧ H0 (g i) = none ∧ g i ≠ nL := ⟨fun i => Classical.choose (ex i), fun i => Classical.choose_spec (ex i)⟩
  refine ⟨n, List.ofFn g, List.length_ofFn, ?_, fun L hL => ?_, fun i k v e => ?_⟩
  · refine List.pairwise_iff_getElem.mpr fun i j hi hj hij e => ?_
    rw [List.length_ofFn] at hi hj
    rw [List.getElem_ofFn, List.getElem_ofFn] at e
    obtain ⟨_, _, _, k1, _, _, e1, _⟩ := hg ⟨i, hi⟩
    obtain ⟨_, _, _, k2, _, _, e2, _⟩ := hg ⟨j, hj⟩
    rw [← e] at e2
    have h1 : (fkv.map (·.2))[i]? = some (V.ref (g ⟨i, hi⟩)) := by rw [List.getElem?_map, e1]; rfl
    have h2 : (fkv.map (·.2))[j]? = some (V.ref (g ⟨i, hi⟩)) := by rw [List.getElem?_map, e2]; rfl
    obtain ⟨b1, c1⟩ := List.getElem?_eq_some_iff.mp h1
    obtain ⟨b2, c2⟩ := List.getElem?_eq_some_iff.mp h2
    have := (List.getElem_inj nd).mp (c1.trans c2.symm)
    omega
  · obtain ⟨i, hi, e⟩ := List.mem_iff_getElem.mp hL
    rw [List.getElem_ofFn] at e
    rw [List.length_ofFn] at hi
    obtain ⟨_, _, _, _, _, _, _, e4, e5⟩ := hg ⟨i, hi⟩
    rw [← e]
    exact ⟨e4, e5⟩
  · obtain ⟨hi, e1⟩ := List.getElem?_eq_some_iff.mp e
    obtain ⟨T, rv, y, k', e2, e3, e4, e5, e6⟩ := hg ⟨i, hi⟩
    refine ⟨T, rv, _, y, ?_, e3, ?_⟩
    · rw [← e2]
      show v = kvs[i].2
      rw [e1]
    · rw [List.getElem?_eq_getElem (by rw [List.length_ofFn]; exact hi), List.getElem_ofFn]
/-! ### the class Again walked -/
open LamX NdefX
theorem Rcp.laysW : ∀ {r : Rcp}, r.Wn → r.th.py.canLay0 = true ∧ r.th.py.depth ≤ r.dep
  | .num n, _ => ⟨by show ((PyData.str (SX.S w_number)).canLay0 && ((PyData.int n).canLay0 && true)) = true; rw [str_lay (by decide)]; rfl, by show max 0 (max 0 0) + 1 ≤ 1; decide⟩
  | .read s, h => ⟨by show ((PyData.str (SX.S w_read)).canLay0 && ((PyData.str (SX.S s)).canLay0 && true)) = true; rw [nm_lay h, str_lay (s := w_read) (by decide)]; rfl, by show max 0 (max 0 0) + 1 ≤ 1; decide⟩
  | .two k a b, h => by
    have h1 := Rcp.laysW h.1
    have h2 := Rcp.laysW h.2
    refine ⟨?_, ?_⟩
    · show ((PyData.str (SX.S k.word)).canLay0 && (a.th.py.canLay0 && (b.th.py.canLay0 && true))) = true
      rw [h1.1, h2.1, str_lay (s := k.word) (by cases k <;> decide)]
      rfl
    · show max 0 (max a.th.py.depth (max b.th.py.depth 0)) + 1 ≤ max a.dep b.dep + 1
      omega
  | .pick a b c, h => by
    have h1 := Rcp.laysW h.1
    have h2 := Rcp.laysW h.2.1
    have h3 := Rcp.laysW h.2.2
    refine ⟨?_, ?_⟩
    · show ((PyData.str (SX.S w_pick)).canLay0 && (a.th.py.canLay0 && (b.th.py.canLay0 && (c.th.py.canLay0 && true)))) = true
      rw [h1.1, h2.1, h3.1, str_lay (s := w_pick) (by decide)]
      rfl
    · show max 0 (max a.th.py.depth (max b.th.py.depth (max c.th.py.depth 0))) + 1 ≤ max a.dep (max b.dep c.dep) + 1
      omega
  | .choose a ns, h => by
    have h1 := Rcp.laysW h.1
    have h2 := nms_py h.2.2.2
    have h3 := dep_pos a
    refine ⟨?_, ?_⟩
    · show ((PyData.str (SX.S w_choose)).canLay0 && (a.th.py.canLay0 && (PyData.canLayAll0 (Th.pyL (nmsTh ns)) && true))) = true
      rw [h1.1, h2.1, str_lay (s := w_choose) (by decide)]
      rfl
    · show max 0 (max a.th.py.depth (max (PyData.depthAll (Th.pyL (nmsTh ns)) + 1) 0)) + 1 ≤ a.dep + 1
      rw [h2.2]
      omega
theorem Rcp.shapedW {r : Rcp} (hg : r.Wn) (hd : r.dep ≤ 60) : SeqAt.shaped r.th.py = true := by
  have h := Rcp.laysW hg
  show (r.th.py.canLay0 && decide (r.th.py.depth ≤ 64)) = true
  rw [h.1, decide_eq_true (by omega)]
  rfl
structure AgT (K : PySem.W.Frag) (mg : Str → Option Value) (C fI : Addr) : Prop where
  cl : Cls K C
  nG : NoAttr K C "given"
  nR : NoAttr K C "recipes"
  nO : NoAttr K C "old"
  nW : NoAttr K C "worths"
  nB : NoAttr K C "record_book"
  nM : NoAttr K C "made_list"
  nK : NoAttr K C "kept_list"
  nA : NoAttr K C "going"
  g : mg "Again" = some (.ref C)
  mkI : Mk K C fI
/-- where a build from records stands, and what stood ahead of it -/
structure AgA where
  R : Addr
  gD : Addr
  rD : Addr
  oD : Addr
  wD : Addr
  bD : Addr
  mL : Addr
  kL : Addr
  aL : Addr
  B : Hp
def AgA.own (A : AgA) : List Addr := [A.wD, A.bD, A.mL, A.kL, A.aL]
/-- the house and the records handed in -/
structure AgB (A : AgA) (h : House) (old : Old) : Prop where
  gv : A.B A.gD = some (.dK (numsK h.given))
  rc : ∃ kvs, Rd A.B A.rD (.dK kvs) ∧ KvR (Rec A.B) h.recs kvs
  od : ∃ kvs, Rd A.B A.oD (.dK kvs) ∧ KvR (RowR A.B) old kvs
  wf : ∀ t o, getA old t = some o → o.2.1.Wn ∧ o.2.1.dep ≤ 60
/-- a row told: its list of reads is L, and new -/
def RowB (A : AgA) (H : Hp) (r : Row × Addr) (v : V) : Prop := ∃ T rv xs, v = .ref T ∧ H T = some (.tup [rv, .ref r.2, .int r.1.2.2]) ∧ Rec H r.1.2.1 rv ∧ A.B r.2 = none ∧ r.2 ≠ A.mL ∧ r.2 ≠ A.kL ∧ r.2 ≠ A.aL ∧ H r.2 = some (.lst xs) ∧ Prs H r.1.1 xs
abbrev Bl := List (List Nat × (Row × Addr))
structure AgAt (C : Addr) (Tb : List NTab) (A : AgA) (s : AgS) (H : Hp) : Prop where
  ins : ∃ dx fs, H A.R = some (.ins C dx fs) ∧ fs.lookup ("given" : Str) = some (.ref A.gD) ∧ fs.lookup ("recipes" : Str) = some (.ref A.rD) ∧ fs.lookup ("old" : Str) = some (.ref A.oD) ∧ fs.lookup ("worths" : Str) = some (.ref A.wD) ∧ fs.lookup ("record_book" : Str) = some (.ref A.bD) ∧ fs.lookup ("made_list" : Str) = some (.ref A.mL) ∧ fs.lookup ("kept_list" : Str) = some (.ref A.kL) ∧ fs.lookup ("going" : Str) = some (.ref A.aL) ∧
    fs.lookup ("settle" : Str) = none ∧ fs.lookup ("is_alike" : Str) = none ∧ fs.lookup ("kept_record" : Str) = none ∧ fs.lookup ("made_record" : Str) = none
  fr : FrS Tb [] A.B H
  new : A.B A.wD = none ∧ A.B A.bD = none ∧ A.B A.mL = none ∧ A.B A.kL = none ∧ A.B A.aL = none
  wn : H A.wD = some (.dK (numsK s.known))
  bk : ∃ kvs, ∃ bl : Bl, H A.bD = some (.dK kvs) ∧ bl.map (fun p => (p.1, p.2.1)) = s.book ∧ (bl.map fun p => p.2.2).Nodup ∧ KvR (RowB A H) bl kvs
  md : H A.mL = some (.lst (txs s.made))
  kp : H A.kL = some (.lst (txs s.kept))
  ask : H A.aL = some (.lst (txs s.going))
  tab : TabsN Tb H
  ne : A.wD ≠ A.bD ∧ A.mL ≠ A.kL ∧ A.mL ≠ A.aL ∧ A.kL ≠ A.aL
theorem RowB.mp {A : AgA} {H H' : Hp} (k : Keep H H') (l : ∀ b xs, b ≠ A.mL → b ≠ A.kL → b ≠ A.aL → H b = some (.lst xs) → H' b = some (.lst xs)) {r : Row × Addr} {v : V} (h : RowB A H r v) : RowB A H' r v := by
  obtain ⟨T, rv, xs, e, h1, h2, h3, n1, n2, n3, h4, h5⟩ := h
  exact ⟨T, rv, xs, e, k _ _ h1, h2.keep k, h3, n1, n2, n3, l _ _ n1 n2 n3 h4, h5.keep k⟩
theorem KvR.each {α : Type} {R : α → V → Prop} : ∀ {l : List (List Nat × α)} {m : List (Key × V)}, KvR R l m → ∀ p ∈ l, ∃ q, q ∈ m ∧ R p.2 q.2
  | [], [], _, _, hp => nomatch hp
  | p :: l, q :: m, ⟨_, y, z⟩, r, hr => by
    rcases List.mem_cons.mp hr with rfl | hr
    · exact ⟨q, List.mem_cons_self, y⟩
    · obtain ⟨q2, h1, h2⟩ := KvR.each z r hr
      exact ⟨q2, List.mem_cons_of_mem _ h1, h2⟩
  | [], _ :: _, h, _, _ => h.elim
  | _ :: _, [], h, _, _ => h.elim
section
variable {C : Addr} {Tb : List NTab} {A : AgA} {s : AgS} {H H' : Hp}
theorem AgAt.same (a : AgAt C Tb A s H) (sm : Same H H') : AgAt C Tb A s H' := by
  obtain ⟨dx, fs, h1, h2⟩ := a.ins
  obtain ⟨kvs, bl, h3, h4, h5, h6⟩ := a.bk
  exact ⟨⟨dx, fs, sm _ _ h1, h2⟩, a.fr.trans (FrS.of sm), a.new, sm _ _ a.wn, ⟨kvs, bl, sm _ _ h3, h4, h5, h6.imp fun r v q => q.mp (same_keep sm) fun b xs _ _ _ e => sm _ _ e⟩, sm _ _ a.md, sm _ _ a.kp, sm _ _ a.ask, a.tab.ext sm, a.ne⟩
/-- other dicts may change, and tables -/
theorem AgAt.frame {S : List Addr} (a : AgAt C Tb A s H) (f : FrS Tb S H H') (hS : ∀ x ∈ S, A.B x = none ∧ (∃ kvs, H x = some (.dK kvs)) ∧ x ≠ A.wD ∧ x ≠ A.bD) : AgAt C Tb A s H' := by
  have st : ∀ {x : Addr} {u : HO}, x ∉ S → (∀ ps, u ≠ .tbl ps) → H x = some u → H' x = some u := fun n t e => f.1 _ _ n t e
  have nd : ∀ {x : Addr} {u : HO}, (∀ kvs, u ≠ .dK kvs) → H x = some u → x ∉ S := fun hu e m => by
    obtain ⟨_, ⟨kvs, e2⟩, _⟩ := hS _ m
    rw [e2] at e
    exact hu _ (Option.some.inj e).symm
  have k : Keep H H' := fun b ys e => st (nd (fun _ z => by cases z) e) (fun _ z => by cases z) e
  have l : ∀ b xs, H b = some (.lst xs) → H' b = some (.lst xs) := fun b xs e => st (nd (fun _ z => by cases z) e) (fun _ z => by cases z) e
  obtain ⟨dx, fs, h1, h2⟩ := a.ins
  obtain ⟨kvs, bl, h3, h4, h5, h6⟩ := a.bk
  exact ⟨⟨dx, fs, st (nd (fun _ z => by cases z) h1) (fun _ z => by cases z) h1, h2⟩, ((FrS.mono a.fr fun _ h => nomatch h).trans f).dropAll fun x hx => (hS x hx).1, a.new, st (fun m => (hS _ m).2.2.1 rfl) (fun _ z => by cases z) a.wn,
    ⟨kvs, bl, st (fun m => (hS _ m).2.2.2 rfl) (fun _ z => by cases z) h3, h4, h5, h6.imp fun r v q => q.mp k fun b xs _ _ _ e => l b xs e⟩, l _ _ a.md, l _ _ a.kp, l _ _ a.ask, f.2.2 a.tab, a.ne⟩
theorem AgAt.ownDL (a : AgAt C Tb A s H) {x : Addr} (hx : x ∈ A.own) : A.B x = none ∧ ((∃ kvs, H x = some (.dK kvs)) ∨ ∃ xs, H x = some (.lst xs)) := by
  obtain ⟨kvs, bl, h3, _⟩ := a.bk
  obtain ⟨n1, n2, n3, n4, n5⟩ := a.new
  unfold AgA.own at hx
  rcases List.mem_cons.mp hx with rfl | hx
  · exact ⟨n1, .inl ⟨_, a.wn⟩⟩
  rcases List.mem_cons.mp hx with rfl | hx
  · exact ⟨n2, .inl ⟨_, h3⟩⟩
  rcases List.mem_cons.mp hx with rfl | hx
  · exact ⟨n3, .inr ⟨_, a.md⟩⟩
  rcases List.mem_cons.mp hx with rfl | hx
  · exact ⟨n4, .inr ⟨_, a.kp⟩⟩
  rw [List.mem_singleton.mp hx]
  exact ⟨n5, .inr ⟨_, a.ask⟩⟩
/-- what any store to its own does not touch -/
theorem AgAt.rest (a : AgAt C Tb A s H) {x : Addr} {o : HO} (hx : x ∈ A.own) (hl : (∃ xs, H x = some (.lst xs)) → x = A.mL ∨ x = A.kL ∨ x = A.aL) :
    (∃ dx fs, upd H x o A.R = some (.ins C dx fs) ∧ fs.lookup ("given" : Str) = some (.ref A.gD) ∧ fs.lookup ("recipes" : Str) = some (.ref A.rD) ∧ fs.lookup ("old" : Str) = some (.ref A.oD) ∧ fs.lookup ("worths" : Str) = some (.ref A.wD) ∧ fs.lookup ("record_book" : Str) = some (.ref A.bD) ∧ fs.lookup ("made_list" : Str) = some (.ref A.mL) ∧ fs.lookup ("kept_list" : Str) = some (.ref A.kL) ∧ fs.lookup ("going" : Str) = some (.ref A.aL) ∧
      fs.lookup ("settle" : Str) = none ∧ fs.lookup ("is_alike" : Str) = none ∧ fs.lookup ("kept_record" : Str) = none ∧ fs.lookup ("made_record" : Str) = none) ∧
    FrS Tb [] A.B (upd H x o) ∧ TabsN Tb (upd H x o) ∧ Keep H (upd H x o) ∧ FrS Tb A.own H (upd H x o) ∧ ∀ r v, RowB A H r v → RowB A (upd H x o) r v := by
  obtain ⟨nx, dl⟩ := a.ownDL hx
  obtain ⟨dx, fs, h1, h2⟩ := a.ins
  have k : Keep H (upd H x o) := fun b ys e => by
    rw [upd_ne (fun z => by rcases dl with ⟨_, d⟩ | ⟨_, d⟩ <;> rw [z, d] at e <;> cases e)]
    exact e
  refine ⟨⟨dx, fs, ?_, h2⟩, a.fr.put0 nx dl, DL.tab dl a.tab, k, FrS.upd hx dl, fun r v q => q.mp k fun b xs n1 n2 n3 e => ?_⟩
  · rw [upd_ne (fun z => by rcases dl with ⟨_, d⟩ | ⟨_, d⟩ <;> rw [z, d] at h1 <;> cases h1)]
    exact h1
  · rw [upd_ne (fun z => ?_)]
    · exact e
    · rcases hl ⟨xs, z ▸ e⟩ with rfl | rfl | rfl
      · exact n1 z
      · exact n2 z
      · exact n3 z
/-- a worth known more -/
theorem AgAt.known (a : AgAt C Tb A s H) (t : List Nat) (v : Int) : AgAt C Tb A { s with known := putA s.known t v } (upd H A.wD (.dK (numsK (putA s.known t v)))) := by
  obtain ⟨n1, n2, n3, n4⟩ := a.ne
  obtain ⟨r1, r2, r3, r4, _, r5⟩ := a.rest (x := A.wD) (o := .dK (numsK (putA s.known t v))) (by unfold AgA.own; simp) fun ⟨xs, e⟩ => by rw [a.wn] at e; cases e
  obtain ⟨kvs, bl, h3, h4, h5, h6⟩ := a.bk
  have ls : ∀ {b xs}, H b = some (.lst xs) → upd H A.wD (.dK (numsK (putA s.known t v))) b = some (.lst xs) := fun {b xs} e => by rw [upd_ne (fun z => by rw [z, a.wn] at e; cases e)]; exact e
  exact ⟨r1, r2, a.new, upd_same, ⟨kvs, bl, by rw [upd_ne n1.symm]; exact h3, h4, h5, h6.imp r5⟩, ls a.md, ls a.kp, ls a.ask, r3, a.ne⟩
theorem AgAt.asking (a : AgAt C Tb A s H) (ns : List (List Nat)) : AgAt C Tb A { s with going := ns } (upd H A.aL (.lst (txs ns))) := by
  obtain ⟨n1, n2, n3, n4⟩ := a.ne
  obtain ⟨r1, r2, r3, r4, _, r5⟩ := a.rest (x := A.aL) (o := .lst (txs ns)) (by unfold AgA.own; simp) fun _ => .inr (.inr rfl)
  obtain ⟨kvs, bl, h3, h4, h5, h6⟩ := a.bk
  have ds : ∀ {b xs}, H b = some (.dK xs) → upd H A.aL (.lst (txs ns)) b = some (.dK xs) := fun {b xs} e => by rw [upd_ne (fun z => by rw [z, a.ask] at e; cases e)]; exact e
  exact ⟨r1, r2, a.new, ds a.wn, ⟨kvs, bl, ds h3, h4, h5, h6.imp r5⟩, by rw [upd_ne n3]; exact a.md, by rw [upd_ne n4]; exact a.kp, upd_same, r3, a.ne⟩
theorem AgAt.making (a : AgAt C Tb A s H) (ns : List (List Nat)) : AgAt C Tb A { s with made := ns } (upd H A.mL (.lst (txs ns))) := by
  obtain ⟨n1, n2, n3, n4⟩ := a.ne
  obtain ⟨r1, r2, r3, r4, _, r5⟩ := a.rest (x := A.mL) (o := .lst (txs ns)) (by unfold AgA.own; simp) fun _ => .inl rfl
  obtain ⟨kvs, bl, h3, h4, h5, h6⟩ := a.bk
  have ds : ∀ {b xs}, H b = some (.dK xs) → upd H A.mL (.lst (txs ns)) b = some (.dK xs) := fun {b xs} e => by rw [upd_ne (fun z => by rw [z, a.md] at e; cases e)]; exact e
  exact ⟨r1, r2, a.new, ds a.wn, ⟨kvs, bl, ds h3, h4, h5, h6.imp r5⟩, upd_same, by rw [upd_ne n2.symm]; exact a.kp, by rw [upd_ne n3.symm]; exact a.ask, r3, a.ne⟩
theorem AgAt.keeping (a : AgAt C Tb A s H) (ns : List (List Nat)) : AgAt C Tb A { s with kept := ns } (upd H A.kL (.lst (txs ns))) := by
  obtain ⟨n1, n2, n3, n4⟩ := a.ne
  obtain ⟨r1, r2, r3, r4, _, r5⟩ := a.rest (x := A.kL) (o := .lst (txs ns)) (by unfold AgA.own; simp) fun _ => .inr (.inl rfl)
  obtain ⟨kvs, bl, h3, h4, h5, h6⟩ := a.bk
  have ds : ∀ {b xs}, H b = some (.dK xs) → upd H A.kL (.lst (txs ns)) b = some (.dK xs) := fun {b xs} e => by rw [upd_ne (fun z => by rw [z, a.kp] at e; cases e)]; exact e
  exact ⟨r1, r2, a.new, ds a.wn, ⟨kvs, bl, ds h3, h4, h5, h6.imp r5⟩, by rw [upd_ne n2]; exact a.md, upd_same, by rw [upd_ne n4.symm]; exact a.ask, r3, a.ne⟩
/-- a row put down for a new name, its list of reads a new one -/
theorem AgAt.booking (a : AgAt C Tb A s H) {kvs : List (Key × V)} (e : H A.bD = some (.dK kvs)) {t : List Nat} {o : Row} {L : Addr} {v : V} (hr : RowB A H (o, L) v) (hnew : ∀ q ∈ kvs, ∀ T rv y, q.2 = V.ref T → H T = some (.tup [rv, V.ref L, y]) → False) (hnt : ¬ t ∈ s.book.map (·.1)) :
    AgAt C Tb A { s with book := putA s.book t o } (upd H A.bD (.dK (putK kvs (kT (SX.S t)) v))) := by
  obtain ⟨n1, n2, n3, n4⟩ := a.ne
  obtain ⟨r1, r2, r3, r4, _, r5⟩ := a.rest (x := A.bD) (o := .dK (putK kvs (kT (SX.S t)) v)) (by unfold AgA.own; simp) fun ⟨xs, e2⟩ => by rw [e] at e2; cases e2
  obtain ⟨kvs', bl, h3, h4, h5, h6⟩ := a.bk
  rw [e] at h3
  cases h3
  have ls : ∀ {b xs}, H b = some (.lst xs) → upd H A.bD (.dK (putK kvs (kT (SX.S t)) v)) b = some (.lst xs) := fun {b xs} e2 => by rw [upd_ne (fun z => by rw [z, e] at e2; cases e2)]; exact e2
  have hk : bl.map (·.1) = s.book.map (·.1) := by rw [← h4, List.map_map]; rfl
  refine ⟨r1, r2, a.new, by rw [upd_ne n1]; exact a.wn, ⟨_, putA bl t (o, L), upd_same, ?_, ?_, (KvR.put (a := (o, L)) hr h6).imp r5⟩, ls a.md, ls a.kp, ls a.ask, r3, a.ne⟩
  · rw [putA_map (fun x : Row × Addr => x.1) bl t (o, L), h4]
  · rw [putA_new _ (by rw [hk]; exact hnt), List.map_append]
    refine List.nodup_append.mpr ⟨h5, List.nodup_cons.mpr ⟨(fun z => nomatch z), List.nodup_nil⟩, fun x hx y hy e2 => ?_⟩
    obtain ⟨p, hp, rfl⟩ := List.mem_map.mp hx
    rw [List.mem_singleton.mp hy] at e2
    obtain ⟨q, hq, T, rv, xs, e3, e4, _⟩ := KvR.each h6 p hp
    exact hnew q hq T rv _ e3 (e2 ▸ e4)
end
def lvA (dm n : Nat) : Nat := n * (dm + 3) + 1
/-- what is handed to a build from records, and where it stands -/
structure AgPre (C : Addr) (Tb : List NTab) (dm : Nat) (A : AgA) (h : House) (old : Old) (beta : Nat → Nat) (s : AgS) (H : Hp) : Prop where
  HH : HouseOk dm h beta
  OO : OldOk h old
  AB : AgB A h old
  sz : h.given.length + h.recs.length ≤ 100000
  at_ : AgAt C Tb A s H
  ok : AgOk h beta old s
/-- settle's promise, by n names in one another -/
def spSet (C CN CR : Addr) (Tb : List NTab) (dm n : Nat) : Sp := fun vs H Q E => ∃ (A : AgA) (h : House) (old : Old) (beta : Nat → Nat) (s : AgS) (t : List Nat), vs = [.ref A.R, .str (SX.S t)] ∧ AgPre C Tb dm A h old beta s H ∧ h.recs.length + 1 ≤ s.going.length + n ∧ Nm t ∧
  TellW (fun s' H' => AgAt C Tb A s' H') (FrS Tb A.own) (ErK CN CR) Q E H (agR h old n s t)
def spAl (C CN CR : Addr) (Tb : List NTab) (dm n : Nat) : Sp := fun vs H Q E => ∃ (A : AgA) (h : House) (old : Old) (beta : Nat → Nat) (s : AgS) (t : List Nat) (r : Rcp), vs = [.ref A.R, .str (SX.S t)] ∧ AgPre C Tb dm A h old beta s H ∧ h.recs.length + 1 ≤ s.going.length + n ∧ Nm t ∧ rcpOf h.recs t = some r ∧
  match alike (agR h old n) old t r s with
    | .inl e => ∀ H', FrS Tb A.own H H' → ErK CN CR e E H'
    | .inr (b, s') => ∀ H', FrS Tb A.own H H' → AgAt C Tb A s' H' → Q (.bl b) H'
def spKeptR (C : Addr) (Tb : List NTab) : Sp := fun vs H Q _ => ∃ (A : AgA) (h : House) (old : Old) (s : AgS) (t : List Nat) (o : Row), vs = [.ref A.R, .str (SX.S t)] ∧ AgB A h old ∧ AgAt C Tb A s H ∧ getA old t = some o ∧
  ∀ (T L : Addr) (rv : V) (xs : List V) (H' : Hp), Same H H' → H L = none → H' T = some (.tup [rv, .ref L, .int o.2.2]) → Rec H' o.2.1 rv → H' L = some (.lst xs) → Prs H' o.1 xs → Q (.ref T) H'
def spMadeR (C CN CR : Addr) (Tb : List NTab) (dm n : Nat) : Sp := fun vs H Q E => ∃ (A : AgA) (h : House) (old : Old) (beta : Nat → Nat) (s : AgS) (t : List Nat) (r : Rcp), vs = [.ref A.R, .str (SX.S t)] ∧ AgPre C Tb dm A h old beta s H ∧ h.recs.length + 1 ≤ s.going.length + n ∧ Nm t ∧ rcpOf h.recs t = some r ∧ seen h.given t = none ∧
  match wk (lkO (agR h old n)) r (s, []) with
    | .err e => ∀ H', FrS Tb A.own H H' → ErK CN CR e E H'
    | .ok v p => ∀ (T L : Addr) (rv : V) (xs : List V) (X H' : Hp), FrS Tb A.own H X → AgAt C Tb A p.1 X → Same X H' → X L = none → H' T = some (.tup [rv, .ref L, .int v]) → Rec H' r rv → H' L = some (.lst xs) → Prs H' p.2 xs → Q (.ref T) H'
/-! ### the methods of Again beneath settle -/
open LamX NdefX
def AgAt2 (C : Addr) (Tb : List NTab) (A : AgA) (D : Addr) : AgS × List Pr → Hp → Prop := fun p H => AgAt C Tb A p.1 H ∧ H D = some (.dK (numsK p.2)) ∧ A.B D = none ∧ D ≠ A.wD ∧ D ≠ A.bD
def AgJ (h : House) (beta : Nat → Nat) (old : Old) (G : List (List Nat)) : AgS × List Pr → Prop := fun p => AgOk h beta old p.1 ∧ p.1.going = G ∧ OwnOk beta p.1.rk p.2
theorem AgAt2.not {C : Addr} {Tb : List NTab} {A : AgA} {D : Addr} {p : AgS × List Pr} {H : Hp} (a : AgAt2 C Tb A D p H) {x : Addr} (hx : x ∈ D :: A.own) : (∃ kvs, H x = some (.dK kvs)) ∨ ∃ xs, H x = some (.lst xs) := by
  rcases List.mem_cons.mp hx with rfl | hx
  · exact .inl ⟨_, a.2.1⟩
  · exact (a.1.ownDL hx).2
theorem frOkA (C : Addr) (Tb : List NTab) (A : AgA) (D : Addr) : FrOk (AgAt2 C Tb A D) (FrS Tb (D :: A.own)) where
  refl := FrS.refl _
  trans := FrS.trans
  keep := fun a f => f.keep fun x hx xs e => by
    rcases a.not hx with ⟨_, z⟩ | ⟨_, z⟩ <;> rw [z] at e <;> cases e
  ext := fun a f e => f.1 _ _ (fun hx => by rcases a.not hx with ⟨_, z⟩ | ⟨_, z⟩ <;> rw [z] at e <;> cases e) (fun ps z => by cases z) e
/-- one look, by the reckoner's -/
theorem agR_step {dm : Nat} {h : House} {beta : Nat → Nat} {old : Old} (HH : HouseN dm h beta) (hO : OldOk h old) {n : Nat} {s s' : AgS} {t : List Nat} {v : Int} (o : AgOk h beta old s) (ht : Nm t) (hn : h.recs.length + 1 ≤ s.going.length + n) (e : agR h old n s t = .ok v s') :
    AgOk h beta old s' ∧ Step h beta s.rk t v s'.rk ∧ s'.going = s.going ∧ lkR h n s.rk t = .ok v s'.rk := by
  have sim := agR_sim HH hO n s t o ht hn
  cases e1 : lkR h n s.rk t with
  | err z => rw [e1] at sim; rw [show agR h old n s t = _ from sim] at e; cases e
  | ok w k =>
    rw [e1] at sim
    obtain ⟨s2, e2, rfl, o2⟩ := sim
    rw [e] at e2
    cases e2
    have st := lkR_step HH n s.rk t v s'.rk o.rk ht e1
    exact ⟨o2, st, st.asked, rfl⟩
section
variable {P : Program} {w : World} {K : PySem.W.Frag} {mg : Str → Option Value} {base : Heap} {C fI CN fN CR fR cL PL : Addr} {Tb : List NTab}
end
/-! ### settle -/
open LamX NdefX
theorem alR_cons {S : Type} (lk : S → List Nat → OutR S) (p : Pr) (ps : List Pr) (s : S) : alR lk (p :: ps) s = match lk s p.1 with | .err e => .inl e | .ok v s' => if v = p.2 then alR lk ps s' else .inr (false, s') := rfl
theorem RowR.st' {H H' : Hp} (k : Keep H H') (l : ∀ b xs, H b = some (.lst xs) → H' b = some (.lst xs)) {r : Row} {v : V} (h : RowR H r v) : RowR H' r v := h.st k l
section
variable {P : Program} {w : World} {K : PySem.W.Frag} {mg : Str → Option Value} {base : Heap} {C fI CN fN CR fR cL PL : Addr} {Tb : List NTab}
end
/-! ### a record made -/
open LamX NdefX
section
variable {P : Program} {w : World} {K : PySem.W.Frag} {mg : Str → Option Value} {base : Heap} {C fI CN fN CR fR cL PL : Addr} {Tb : List NTab}
end
/-! ### settle walked -/
open LamX NdefX
theorem agR_succ (h : House) (old : Old) (n : Nat) (s : AgS) (t : List Nat) : agR h old (n + 1) s t = match seen s.known t with
    | some v => .ok v s
    | none => match seen h.given t with
      | some v => .ok v { s with known := putA s.known t v }
      | none => match rcpOf h.recs t with
        | none => .err (.noName t)
        | some r => if t ∈ s.going then .err (.ring (s.going.drop (s.going.idxOf t) ++ [t])) else
          settled (agR h old n) old t r (alike (agR h old n) old t r { s with going := s.going ++ [t] }) := rfl
theorem dropLast_app (A : List (List Nat)) (t : List Nat) : (A ++ [t]).dropLast = A := List.dropLast_concat
theorem alike_ok {dm : Nat} {h : House} {beta : Nat → Nat} {old : Old} (HH : HouseN dm h beta) (hO : OldOk h old) {n : Nat} {s s' : AgS} {t : List Nat} {r : Rcp} {b : Bool} (o : AgOk h beta old s) (hn : h.recs.length + 1 ≤ s.going.length + n) (er : rcpOf h.recs t = some r) (e : alike (agR h old n) old t r s = .inr (b, s')) :
    AgOk h beta old s' ∧ s'.going = s.going ∧ (b = true → ∃ o, getA old t = some o ∧ o.2.1 = r ∧ TrueRec r o.1 o.2.2 ∧ (∀ p ∈ o.1, Nm p.1) ∧ ∀ p ∈ o.1, Val h p.1 p.2) := by
  unfold alike at e
  cases e5 : getA old t with
  | none =>
    rw [e5] at e
    cases e
    exact ⟨o, rfl, fun z => nomatch z⟩
  | some ro =>
    rw [e5] at e
    cases e6 : sameR ro.2.1 r with
    | false =>
      simp only [e6, Bool.false_eq_true, if_false] at e
      cases e
      exact ⟨o, rfl, fun z => nomatch z⟩
    | true =>
      simp only [e6, if_true] at e
      obtain ⟨TR, hnr⟩ := hO t ro r e5 er e6
      have R := Rem.of_sim HH (old := old) (beta := beta) (A := s.going) hn fun s1 u q1 ga hu => agR_sim HH hO n s1 u q1 hu (by rw [ga]; exact hn)
      have run := al_run R TR hnr ro.1.length 0 s (by omega) ⟨o, rfl⟩ (fun p h => by rw [List.take_zero] at h; cases h)
      rw [List.drop_zero, e] at run
      cases b with
      | false => exact ⟨run.2.1.1, run.2.1.2, fun z => nomatch z⟩
      | true => exact ⟨run.2.1.1, run.2.1.2, fun _ => ⟨ro, rfl, eqv_rcp e6, TR, hnr, fun p hp => run.2.1.1.kn (run.2.2.1 p hp)⟩⟩
section
variable {P : Program} {w : World} {K : PySem.W.Frag} {mg : Str → Option Value} {base : Heap} {C fI CN fN CR fR cL PL : Addr} {Tb : List NTab}
end
/-! ### a build from records made; build_again -/
open LamX NdefX
def spAgI (C : Addr) : Sp := fun vs H Q _ => ∃ (R dx p gD rD oD : Addr), vs = [.ref R, .ref p, .ref oD] ∧ H R = some (.ins C dx []) ∧ H p = some (.tup [.ref gD, .ref rD]) ∧
  ∀ (wD bD mL kL aL : Addr) (H' : Hp), H wD = none → H bD = none → H mL = none → H kL = none → H aL = none → (wD ≠ bD ∧ mL ≠ kL ∧ mL ≠ aL ∧ kL ≠ aL) →
    (∃ fs, H' R = some (.ins C dx fs) ∧ fs.lookup ("given" : Str) = some (.ref gD) ∧ fs.lookup ("recipes" : Str) = some (.ref rD) ∧ fs.lookup ("old" : Str) = some (.ref oD) ∧ fs.lookup ("worths" : Str) = some (.ref wD) ∧ fs.lookup ("record_book" : Str) = some (.ref bD) ∧ fs.lookup ("made_list" : Str) = some (.ref mL) ∧ fs.lookup ("kept_list" : Str) = some (.ref kL) ∧ fs.lookup ("going" : Str) = some (.ref aL) ∧
      fs.lookup ("settle" : Str) = none ∧ fs.lookup ("is_alike" : Str) = none ∧ fs.lookup ("kept_record" : Str) = none ∧ fs.lookup ("made_record" : Str) = none) →
    H' wD = some (.dK []) → H' bD = some (.dK []) → H' mL = some (.lst []) → H' kL = some (.lst []) → H' aL = some (.lst []) → (∀ b o, b ≠ R → H b = some o → H' b = some o) → Q .non H'
/-- only the instance at R changed, and more stands -/
structure InAt (H : Hp) (R C dx : Addr) (fs : List (Str × V)) (X : Hp) : Prop where
  ins : X R = some (.ins C dx fs)
  st : ∀ b o, b ≠ R → H b = some o → X b = some o
  nR : ∃ o, H R = some o
theorem InAt.put {H X : Hp} {R C dx : Addr} {fs gs : List (Str × V)} (i : InAt H R C dx fs X) : InAt H R C dx gs (upd X R (.ins C dx gs)) := ⟨upd_same, fun b o n e => by rw [upd_ne n]; exact i.st b o n e, i.nR⟩
theorem InAt.same {H X Y : Hp} {R C dx : Addr} {fs : List (Str × V)} (i : InAt H R C dx fs X) (s : Same X Y) : InAt H R C dx fs Y := ⟨s _ _ i.ins, fun b o n e => s _ _ (i.st b o n e), i.nR⟩
theorem InAt.new {H X : Hp} {R C dx p : Addr} {fs : List (Str × V)} (i : InAt H R C dx fs X) (n : X p = none) : H p = none ∧ p ≠ R := by
  have h1 : p ≠ R := fun z => by rw [z, i.ins] at n; cases n
  refine ⟨?_, h1⟩
  cases e : H p with
  | none => rfl
  | some o => rw [i.st p o h1 e] at n; cases n
def OldAt (H : Hp) (old : Old) (oD : Addr) : Prop := ∃ kvs, Rd H oD (.dK kvs) ∧ KvR (RowR H) old kvs
/-- a row told: its list of reads is new -/
def RowN (H H' : Hp) (mL kL : Addr) (r : Row × Addr) (v : V) : Prop := ∃ T rv xs, v = .ref T ∧ H' T = some (.tup [rv, .ref r.2, .int r.1.2.2]) ∧ Rec H' r.1.2.1 rv ∧ H r.2 = none ∧ r.2 ≠ mL ∧ r.2 ≠ kL ∧ H' r.2 = some (.lst xs) ∧ Prs H' r.1.1 xs
def spAgain (K : PySem.W.Frag) (CN CR : Addr) (Tb : List NTab) (dm n : Nat) : Sp := fun vs H Q E => ∃ (v : V) (oD wv : Addr) (h : House) (old : Old) (beta : Nat → Nat) (ts : List (List Nat)), vs = [v, .ref oD, .ref wv] ∧ HouseOk dm h beta ∧ OldOk h old ∧ (∀ t o, getA old t = some o → o.2.1.Wn ∧ o.2.1.dep ≤ 60) ∧ h.given.length + h.recs.length ≤ 100000 ∧ h.recs.length + 1 ≤ n ∧ HouseAt H h v ∧ OldAt H old oD ∧ TabsN Tb H ∧
  SqL K H wv (txs ts) ∧ (∀ t ∈ ts, Nm t) ∧ match lkAll h n emptyS ts with
    | .ok _ s => ∀ (T kD rD mL kL : Addr) (kvs : List (Key × V)) (bl : Bl) (H' : Hp), FrS Tb [] H H' → RkOk h beta s → Coh h s → H T = none → H kD = none → H rD = none → H mL = none → H kL = none → kD ≠ rD → mL ≠ kL → H' T = some (.tup [.ref kD, .ref rD, .ref mL, .ref kL]) → H' kD = some (.dK (numsK s.known)) → H' rD = some (.dK kvs) →
        bl.map (fun p => (p.1, p.2.1)) = s.read.map (rowOf h s) → (bl.map fun p => p.2.2).Nodup → KvR (RowN H H' mL kL) bl kvs → H' mL = some (.lst (txs ((s.read.map (·.1)).filter fun t => !isGood h old t))) → H' kL = some (.lst (txs ((s.read.map (·.1)).filter (isGood h old)))) → Q (.ref T) H'
    | .err e => ∀ H', FrS Tb [] H H' → ErK CN CR e E H'
section
variable {P : Program} {w : World} {K : PySem.W.Frag} {mg : Str → Option Value} {base : Heap} {C fI CN CR : Addr} {Tb : List NTab}
end
/-! ### the names within a recipe -/
/-- the names within a recipe -/
def Rcp.Wi (S : List Nat → Prop) : Rcp → Prop
  | .num _ => True
  | .read t => S t
  | .two _ a b => a.Wi S ∧ b.Wi S
  | .pick a b c => a.Wi S ∧ b.Wi S ∧ c.Wi S
  | .choose a ns => a.Wi S ∧ ∀ t ∈ ns, S t
theorem Rcp.Ev.wi {f : List Nat → Int → Prop} {S : List Nat → Prop} : ∀ {r : Rcp} {v : Int}, r.Wn → r.Wi S → r.Ev f v → r.Ev (fun t x => S t ∧ f t x) v
  | .num _, v, _, _, h => h
  | .read _, v, _, w, h => ⟨w, h⟩
  | .two _ _ _, v, n, w, ⟨a, c, h1, h2, e⟩ => ⟨a, c, h1.wi n.1 w.1, h2.wi n.2 w.2, e⟩
  | .pick _ _ _, v, n, w, ⟨a, h1, h2, h3⟩ => ⟨a, h1.wi n.1 w.1, fun c => (h2 c).wi n.2.1 w.2.1, fun c => (h3 c).wi n.2.2 w.2.2⟩
  | .choose _ _, v, n, w, ⟨a, h1, h2⟩ => ⟨a, h1.wi n.1 w.1, by obtain ⟨i, _, hi⟩ := nth_mem n.2.1 a; exact w.2 _ (List.mem_of_getElem? hi), h2⟩
theorem Rcp.Fit.wi {f : List Nat → Int → Prop} {S : List Nat → Prop} : ∀ {r : Rcp}, r.Wn → r.Wi S → r.Fit (fun t x => S t ∧ f t x) → r.Fit f
  | .num _, _, _, _ => trivial
  | .read _, _, _, _ => trivial
  | .two _ _ _, n, w, ⟨h1, h2⟩ => ⟨h1.wi n.1 w.1, fun a ha => ⟨(h2 a (ha.wi n.1 w.1)).1.wi n.2 w.2, fun c hc => (h2 a (ha.wi n.1 w.1)).2 c (hc.wi n.2 w.2)⟩⟩
  | .pick _ _ _, n, w, ⟨h1, h2⟩ => ⟨h1.wi n.1 w.1, fun a ha => ⟨fun c => ((h2 a (ha.wi n.1 w.1)).1 c).wi n.2.1 w.2.1, fun c => ((h2 a (ha.wi n.1 w.1)).2 c).wi n.2.2 w.2.2⟩⟩
  | .choose x _, n, w, h => Fit.wi (r := x) n.1 w.1 h
theorem Rcp.Wi.imp {S S' : List Nat → Prop} (h : ∀ t, S t → S' t) : ∀ {r : Rcp}, r.Wi S → r.Wi S'
  | .num _, _ => trivial
  | .read _, w => h _ w
  | .two _ _ _, w => ⟨w.1.imp h, w.2.imp h⟩
  | .pick _ _ _, w => ⟨w.1.imp h, w.2.1.imp h, w.2.2.imp h⟩
  | .choose _ _, w => ⟨w.1.imp h, fun t ht => h t (w.2 t ht)⟩
/-! ### worths bounded by names -/
def maxN : List Nat → Nat
  | [] => 0
  | a :: l => max a (maxN l)
theorem maxN_ge {l : List Nat} {a : Nat} (h : a ∈ l) : a ≤ maxN l := by
  induction l with
  | nil => exact nomatch h
  | cons b l ih =>
    show a ≤ max b (maxN l)
    rcases List.mem_cons.mp h with rfl | h
    · exact Nat.le_max_left _ _
    · exact Nat.le_trans (ih h) (Nat.le_max_right _ _)
theorem maxN_le {l : List Nat} {b : Nat} (h : ∀ a ∈ l, a ≤ b) : maxN l ≤ b := by
  induction l with
  | nil => exact Nat.zero_le _
  | cons a l ih =>
    show max a (maxN l) ≤ b
    exact Nat.max_le.mpr ⟨h a List.mem_cons_self, ih fun x hx => h x (List.mem_cons_of_mem _ hx)⟩
/-- a bound of the bits of what a recipe comes to, the read of u below 2 ^ f u -/
def Rcp.bitsN (f : List Nat → Nat) : Rcp → Nat
  | .num n => n.natAbs.log2 + 1
  | .read t => f t
  | .two .times x y => x.bitsN f + y.bitsN f
  | .two .most x y => max (x.bitsN f) (y.bitsN f)
  | .two _ x y => max (x.bitsN f) (y.bitsN f) + 1
  | .pick x y z => max (x.bitsN f) (max (y.bitsN f) (z.bitsN f))
  | .choose x ns => max (x.bitsN f) (maxN (ns.map f))
theorem bitsN_pos {f : List Nat → Nat} (hf : ∀ u, 0 < f u) : ∀ r : Rcp, 0 < r.bitsN f
  | .num _ => Nat.succ_pos _
  | .read t => hf t
  | .two k x y => by
    have hx := bitsN_pos hf x
    have hy := bitsN_pos hf y
    cases k <;> simp only [Rcp.bitsN] <;> omega
  | .pick x y z => by
    have hx := bitsN_pos hf x
    simp only [Rcp.bitsN]; omega
  | .choose x ns => by
    have hx := bitsN_pos hf x
    simp only [Rcp.bitsN]; omega
theorem apN {f : List Nat → Nat} {k : Kd} {x y : Rcp} {v w : Int} (hx : v.natAbs < 2 ^ x.bitsN f) (hy : w.natAbs < 2 ^ y.bitsN f) : (k.ap v w).natAbs < 2 ^ (Rcp.two k x y).bitsN f := by
  have hx' := pow_mono hx (Nat.le_max_left _ (y.bitsN f))
  have hy' := pow_mono hy (Nat.le_max_right (x.bitsN f) _)
  cases k with
  | plus =>
    show (v + w).natAbs < 2 ^ (max (x.bitsN f) (y.bitsN f) + 1)
    rw [Nat.pow_succ]
    omega
  | minus =>
    show (v - w).natAbs < 2 ^ (max (x.bitsN f) (y.bitsN f) + 1)
    rw [Nat.pow_succ]
    omega
  | times =>
    show (v * w).natAbs < 2 ^ (x.bitsN f + y.bitsN f)
    rw [Int.natAbs_mul, Nat.pow_add]
    exact Nat.mul_lt_mul'' hx hy
  | most => exact max_small hx' hy'
theorem Rcp.Ev.smallN {F : List Nat → Int → Prop} {f : List Nat → Nat} (hf : ∀ t v, F t v → v.natAbs < 2 ^ f t) : ∀ {r : Rcp} {v : Int}, r.Wn → r.Ev F v → v.natAbs < 2 ^ r.bitsN f
  | .num n, v, _, h => by
    rw [show v = n from h]
    exact Nat.lt_log2_self
  | .read t, v, _, h => hf t v h
  | .two k x y, v, w, h => by
    obtain ⟨a, c, h1, h2, rfl⟩ := h
    exact apN (h1.smallN hf w.1) (h2.smallN hf w.2)
  | .pick x y z, v, w, h => by
    obtain ⟨a, h1, h2, h3⟩ := h
    by_cases c : a > 0
    · exact pow_mono ((h2 c).smallN hf w.2.1) (by simp only [Rcp.bitsN]; omega)
    · exact pow_mono ((h3 c).smallN hf w.2.2) (by simp only [Rcp.bitsN]; omega)
  | .choose x ns, v, w, h => by
    obtain ⟨a, h1, h2⟩ := h
    obtain ⟨i, _, hi⟩ := nth_mem w.2.1 a
    have := maxN_ge (List.mem_map.mpr ⟨_, List.mem_of_getElem? hi, rfl⟩ : f (nthN ns a) ∈ ns.map f)
    exact pow_mono (hf _ _ h2) (by simp only [Rcp.bitsN]; omega)
theorem Rcp.Fit.of_bitsN {F : List Nat → Int → Prop} {f : List Nat → Nat} (hp : ∀ u, 0 < f u) (hf : ∀ t v, F t v → v.natAbs < 2 ^ f t) : ∀ {r : Rcp}, r.Wn → r.bitsN f ≤ 1000000 → r.Fit F
  | .num _, _, _ => trivial
  | .read _, _, _ => trivial
  | .two k x y, w, h => by
    have hs : x.bitsN f ≤ (Rcp.two k x y).bitsN f ∧ y.bitsN f ≤ (Rcp.two k x y).bitsN f := by cases k <;> simp only [Rcp.bitsN] <;> omega
    refine ⟨Fit.of_bitsN hp hf w.1 (by omega), fun a ha => ⟨Fit.of_bitsN hp hf w.2 (by omega), fun c hc e => ?_⟩⟩
    subst e
    exact wide_mul (ha.smallN hf w.1) (hc.smallN hf w.2) (bitsN_pos hp x) (bitsN_pos hp y) h
  | .pick x y z, w, h => by
    have e : (Rcp.pick x y z).bitsN f = max (x.bitsN f) (max (y.bitsN f) (z.bitsN f)) := rfl
    exact ⟨Fit.of_bitsN hp hf w.1 (by omega), fun a _ => ⟨fun _ => Fit.of_bitsN hp hf w.2.1 (by omega), fun _ => Fit.of_bitsN hp hf w.2.2 (by omega)⟩⟩
  | .choose x ns, w, h => by
    have e : (Rcp.choose x ns).bitsN f = max (x.bitsN f) (maxN (ns.map f)) := rfl
    exact Fit.of_bitsN (r := x) hp hf w.1 (by omega)
/-- no product stands in a recipe -/
def Rcp.NoT : Rcp → Prop
  | .two k x y => k ≠ .times ∧ x.NoT ∧ y.NoT
  | .pick x y z => x.NoT ∧ y.NoT ∧ z.NoT
  | .choose x _ => x.NoT
  | _ => True
theorem Rcp.Fit.noT {F : List Nat → Int → Prop} : ∀ {r : Rcp}, r.NoT → r.Fit F
  | .num _, _ => trivial
  | .read _, _ => trivial
  | .two _ _ _, h => ⟨Fit.noT h.2.1, fun _ _ => ⟨Fit.noT h.2.2, fun _ _ e => absurd e h.1⟩⟩
  | .pick _ _ _, h => ⟨Fit.noT h.1, fun _ _ => ⟨fun _ => Fit.noT h.2.1, fun _ => Fit.noT h.2.2⟩⟩
  | .choose x _, h => Fit.noT (r := x) h
/-- a house whose worths are bounded by names -/
structure HouseW (dm : Nat) (h : House) (f : List Nat → Nat) : Prop where
  rcp : ∀ p ∈ h.recs, Nm p.1 ∧ p.2.Wn ∧ p.2.dep ≤ dm ∧ p.2.bitsN f ≤ f p.1 ∧ p.2.bitsN f ≤ 1000000
  gvn : ∀ p ∈ h.given, Nm p.1 ∧ p.2.natAbs < 2 ^ f p.1
  pos : ∀ u, 0 < f u
theorem HouseW.small {dm : Nat} {h : House} {f : List Nat → Nat} (H : HouseW dm h f) : ∀ (n : Nat) {t : List Nat} {v : Int}, val h n t = some v → v.natAbs < 2 ^ f t
  | 0, t, v, e => by cases e
  | n + 1, t, v, e => by
    rw [val_succ] at e
    cases e1 : seen h.given t with
    | some x =>
      rw [e1] at e
      cases e
      exact (H.gvn _ (seen_mem e1)).2
    | none =>
      rw [e1] at e
      cases e2 : rcpOf h.recs t with
      | none => rw [e2] at e; cases e
      | some r =>
        rw [e2] at e
        cases e3 : wk (dnL (val h n)) r [] with
        | err x => simp only [e3] at e; cases e
        | ok w o =>
          simp only [e3] at e
          cases e
          obtain ⟨_, wn, _, b1, _⟩ := H.rcp _ (rcpOf_mem e2)
          exact pow_mono (((wk_ev e3).mono fun t x e => e.1).smallN (F := fun t x => val h n t = some x) (fun t v e => H.small n e) wn) b1
theorem HouseW.ok {dm : Nat} {h : House} {f : List Nat → Nat} (H : HouseW dm h f) (beta : Nat → Nat) : HouseOk dm h beta :=
  ⟨⟨fun p hp => ⟨(H.rcp p hp).1, (H.rcp p hp).2.1, (H.rcp p hp).2.2.1⟩, fun p hp => (H.gvn p hp).1⟩, fun p hp _ => Rcp.Fit.of_bitsN H.pos (fun t v ⟨n, e⟩ => H.small n e) (H.rcp p hp).2.1 (H.rcp p hp).2.2.2.2⟩
/-! ### the laws' own houses: numbers, recipes -/
open LamX NdefX
/-- a recipe out of the names ns, d deep -/
structure MadeR (ns : List (List Nat)) (d : Nat) (r : Rcp) : Prop where
  gd : r.Good
  wi : r.Wi (· ∈ ns)
  dp : r.dep ≤ d + 1
  bt : ∀ (f : List Nat → Nat) (b c : Nat), (∀ u ∈ ns, f u ≤ b) → (∀ u, ns.head? = some u → f u ≤ c) → 2 ≤ c → 2 ≤ b → r.bitsN f ≤ b + d * (c + 1)
  b2 : ∀ b, 3 ≤ b → r.bits b ≤ (d + 1) * b
theorem three_bits {n : Int} (hn : n.natAbs ≤ 3) : n.natAbs.log2 + 1 ≤ 2 := by
  have : n.natAbs = 0 ∨ n.natAbs = 1 ∨ n.natAbs = 2 ∨ n.natAbs = 3 := by omega
  rcases this with e | e | e | e <;> rw [e] <;> decide
theorem MadeR.num {ns : List (List Nat)} {n : Int} (hn : n.natAbs ≤ 3) (d : Nat) : MadeR ns d (.num n) :=
  ⟨Nat.lt_of_le_of_lt hn (by decide), trivial, Nat.le_add_left _ _, fun f b c _ _ _ h2 => by have := three_bits hn; show n.natAbs.log2 + 1 ≤ _; omega, fun b h => by have := three_bits hn; have := Nat.le_mul_of_pos_left b (show 0 < d + 1 from Nat.succ_pos d); show n.natAbs.log2 + 1 ≤ _; omega⟩
theorem MadeR.read {ns : List (List Nat)} (hN : ∀ u ∈ ns, Nm u) {t : List Nat} (h : t ∈ ns) (d : Nat) : MadeR ns d (.read t) :=
  ⟨hN t h, h, Nat.le_add_left _ _, fun f b c hb _ _ _ => by show f t ≤ _; have := hb t h; omega, fun b _ => by have := Nat.le_mul_of_pos_left b (show 0 < d + 1 from Nat.succ_pos d); show b ≤ _; exact this⟩
section
variable {ns : List (List Nat)} {d : Nat} {x y z : Rcp}
theorem mul_step (d c : Nat) : (d + 1) * (c + 1) = d * (c + 1) + (c + 1) := by rw [Nat.add_mul, Nat.one_mul]
theorem mul_up (d b : Nat) : (d + 1 + 1) * b = (d + 1) * b + b := by rw [Nat.add_mul (d + 1), Nat.one_mul]
theorem MadeR.two {k : Kd} (hk : k ≠ .times) (hx : MadeR ns d x) (hy : MadeR ns d y) : MadeR ns (d + 1) (.two k x y) :=
  ⟨⟨hx.gd, hy.gd⟩, ⟨hx.wi, hy.wi⟩, by have := hx.dp; have := hy.dp; show max x.dep y.dep + 1 ≤ d + 1 + 1; omega, fun f b c hb hc h1 h2 => by
    have a1 := hx.bt f b c hb hc h1 h2
    have a2 := hy.bt f b c hb hc h1 h2
    rw [mul_step]
    cases k with
    | times => exact absurd rfl hk
    | plus => show max (x.bitsN f) (y.bitsN f) + 1 ≤ _; omega
    | minus => show max (x.bitsN f) (y.bitsN f) + 1 ≤ _; omega
    | most => show max (x.bitsN f) (y.bitsN f) ≤ _; omega, fun b h => by
    have a1 := hx.b2 b h
    have a2 := hy.b2 b h
    rw [mul_up]
    cases k with
    | times => exact absurd rfl hk
    | plus => show max (x.bits b) (y.bits b) + 1 ≤ _; omega
    | minus => show max (x.bits b) (y.bits b) + 1 ≤ _; omega
    | most => show max (x.bits b) (y.bits b) ≤ _; omega⟩
theorem MadeR.times (hx : MadeR ns d x) {l : Rcp} (hl : MadeR (ns.take 1) 0 l) : MadeR ns (d + 1) (.two .times x l) := by
  refine ⟨⟨hx.gd, hl.gd⟩, ⟨hx.wi, hl.wi.imp fun t ht => List.mem_of_mem_take ht⟩, by have := hx.dp; have := hl.dp; show max x.dep l.dep + 1 ≤ d + 1 + 1; omega, fun f b c hb hc h1 h2 => ?_, fun b h => by have a1 := hx.b2 b h; have a2 := hl.b2 b h; rw [mul_up]; show x.bits b + l.bits b ≤ _; omega⟩
  · have a1 := hx.bt f b c hb hc h1 h2
    have h0 : ∀ u ∈ ns.take 1, f u ≤ c := fun u hu => by
      cases ns with
      | nil => exact nomatch hu
      | cons a r =>
        have : u = a := List.mem_singleton.mp hu
        rw [this]
        exact hc a rfl
    have a2 := hl.bt f c c h0 (fun u hu => by
      cases ns with
      | nil => exact nomatch hu
      | cons a r =>
        have : a = u := Option.some.inj hu
        rw [← this]
        exact hc a rfl) h1 h1
    rw [mul_step]
    show x.bitsN f + l.bitsN f ≤ _
    omega
theorem MadeR.pick (hx : MadeR ns d x) (hy : MadeR ns d y) (hz : MadeR ns d z) : MadeR ns (d + 1) (.pick x y z) :=
  ⟨⟨hx.gd, hy.gd, hz.gd⟩, ⟨hx.wi, hy.wi, hz.wi⟩, by have := hx.dp; have := hy.dp; have := hz.dp; show max x.dep (max y.dep z.dep) + 1 ≤ d + 1 + 1; omega, fun f b c hb hc h1 h2 => by
    have a1 := hx.bt f b c hb hc h1 h2
    have a2 := hy.bt f b c hb hc h1 h2
    have a3 := hz.bt f b c hb hc h1 h2
    rw [mul_step]
    show max (x.bitsN f) (max (y.bitsN f) (z.bitsN f)) ≤ _
    omega, fun b h => by
    have a1 := hx.b2 b h
    have a2 := hy.b2 b h
    have a3 := hz.b2 b h
    rw [mul_up]
    show max (x.bits b) (max (y.bits b) (z.bits b)) ≤ _
    omega⟩
theorem MadeR.choose (hx : MadeR ns d x) {ms : List (List Nat)} (hm : ∀ u ∈ ms, u ∈ ns) (hM : Nms ms) : MadeR ns (d + 1) (.choose x ms) :=
  ⟨⟨hx.gd, hM⟩, ⟨hx.wi, hm⟩, by have := hx.dp; show x.dep + 1 ≤ d + 1 + 1; omega, fun f b c hb hc h1 h2 => by
    have a1 := hx.bt f b c hb hc h1 h2
    have a2 : maxN (ms.map f) ≤ b := maxN_le fun a ha => by obtain ⟨u, hu, rfl⟩ := List.mem_map.mp ha; exact hb u (hm u hu)
    rw [mul_step]
    show max (x.bitsN f) (maxN (ms.map f)) ≤ _
    omega, fun b h => by
    have a1 := hx.b2 b h
    rw [mul_up]
    show max (x.bits b) b ≤ _
    have := Nat.le_mul_of_pos_left b (show 0 < d + 1 from Nat.succ_pos d)
    omega⟩
end
/-- a cell of the script, or a number of its own -/
def spCellA (K : PySem.W.Frag) : Sp := fun vs H Q _ => ∃ (a : Addr) (ns : List Int) (k : Int), vs = [.ref a, .int k] ∧ SqL K H a (ns.map V.int) ∧ ns.length ≤ 63 ∧ 0 ≤ k ∧ k ≤ 100000 ∧ ∀ v, Q (.int v) H
def spMixA : Sp := fun vs H Q _ => ∃ (c k : Int), vs = [.int c, .int k] ∧ 0 ≤ k ∧ k ≤ 100000 ∧ ∀ v, Q (.int v) H
def spRcpA (n : Nat) : Sp := fun vs H Q _ => ∃ (c : Int) (L : Addr) (ns : List (List Nat)) (d : Nat), vs = [.int c, .ref L, .int (d : Int)] ∧ d + 1 ≤ n ∧ d ≤ 3 ∧ H L = some (.lst (txs ns)) ∧ ns.length ≤ 100 ∧ (∀ u ∈ ns, Nm u) ∧ ∀ (H' : Hp) (T : Addr) (rv : V) (r : Rcp) (c' : Int), Same H H' → H' T = some (.tup [rv, .int c']) → MadeR ns d r → Rec H' r rv → Q (.ref T) H'
/-! ### the laws' own houses -/
open LamX NdefX
def wtA (u : List Nat) : Nat := match u with
  | [c] => if 120 ≤ c then 20 else 20 + 70 * (c - 96)
  | _ => 20
def rkA (u : List Nat) : Nat := match u with
  | [c] => if 120 ≤ c then 0 else c - 96
  | _ => 0
/-- a house of names that look ahead alone -/
structure HouseG (h : House) : Prop where
  rcp : ∀ p ∈ h.recs, Nm p.1 ∧ p.2.Good ∧ p.2.dep ≤ 5 ∧ p.2.bitsN wtA ≤ wtA p.1 ∧ p.2.Wi fun u => u ∈ h.given.map (·.1) ++ h.recs.map (·.1) ∧ rkA u < rkA p.1
  gvn : ∀ p ∈ h.given, Nm p.1 ∧ p.2.natAbs < 2 ^ 20
  nd : (h.given.map (·.1) ++ h.recs.map (·.1)).Nodup
theorem wtA_ge (u : List Nat) : 20 ≤ wtA u ∧ wtA u ≤ 100000 ∨ 20 ≤ wtA u := by
  unfold wtA
  split
  · split <;> omega
  · exact .inr (Nat.le_refl _)
theorem wtA_20 (u : List Nat) : 20 ≤ wtA u := (wtA_ge u).elim (·.1) id
theorem nm_rk {u : List Nat} (h : Nm u) : wtA u ≤ 2000 := by
  unfold wtA
  split
  · rename_i c
    have := h.2.2 c (List.mem_singleton.mpr rfl)
    split <;> omega
  · omega
theorem HouseG.w {h : House} (G : HouseG h) : HouseW 5 h wtA :=
  ⟨fun p hp => by
    obtain ⟨a, b, c, d, _⟩ := G.rcp p hp
    exact ⟨a, good_wn b, c, d, by have := nm_rk a; omega⟩, fun p hp => ⟨(G.gvn p hp).1, Nat.lt_of_lt_of_le (G.gvn p hp).2 (Nat.pow_le_pow_right (by decide) (wtA_20 _))⟩, fun u => Nat.lt_of_lt_of_le (by decide) (wtA_20 u)⟩
theorem HouseG.ok {h : House} (G : HouseG h) (beta : Nat → Nat) : HouseOk 5 h beta := G.w.ok beta
theorem Ev_total {F : List Nat → Int → Prop} {S : List Nat → Prop} (hS : ∀ u, S u → ∃ v, F u v) : ∀ {r : Rcp}, r.Wn → r.Wi S → ∃ v, r.Ev F v
  | .num n, _, _ => ⟨n, rfl⟩
  | .read t, _, w => hS t w
  | .two k x y, n, w => by
    obtain ⟨a, ha⟩ := Ev_total hS n.1 w.1
    obtain ⟨b, hb⟩ := Ev_total hS n.2 w.2
    exact ⟨k.ap a b, a, b, ha, hb, rfl⟩
  | .pick x y z, n, w => by
    obtain ⟨a, ha⟩ := Ev_total hS n.1 w.1
    by_cases c : a > 0
    · obtain ⟨b, hb⟩ := Ev_total hS n.2.1 w.2.1
      exact ⟨b, a, ha, fun _ => hb, fun z => absurd c z⟩
    · obtain ⟨b, hb⟩ := Ev_total hS n.2.2 w.2.2
      exact ⟨b, a, ha, fun z => absurd z c, fun _ => hb⟩
  | .choose x ns, n, w => by
    obtain ⟨a, ha⟩ := Ev_total hS n.1 w.1
    obtain ⟨i, _, hi⟩ := nth_mem n.2.1 a
    obtain ⟨b, hb⟩ := hS _ (w.2 _ (List.mem_of_getElem? hi))
    exact ⟨b, a, ha, hb⟩
theorem rcpOf_ndA {l : List RcpNm} (nd : (l.map (·.1)).Nodup) {p : RcpNm} (h : p ∈ l) : rcpOf l p.1 = some p.2 := by
  induction l with
  | nil => exact nomatch h
  | cons q l ih =>
    obtain ⟨n1, n2⟩ := List.nodup_cons.mp nd
    rw [show rcpOf (q :: l) p.1 = if q.1 = p.1 then some q.2 else rcpOf l p.1 from getA_cons q l p.1]
    rcases List.mem_cons.mp h with rfl | h
    · rw [if_pos rfl]
    · rw [if_neg fun e => n1 (by show q.1 ∈ _; rw [e]; exact List.mem_map.mpr ⟨p, h, rfl⟩), ih n2 h]
/-- each name has a worth -/
theorem HouseG.val {h : House} (G : HouseG h) : ∀ (n : Nat) (u : List Nat), rkA u < n → u ∈ h.given.map (·.1) ++ h.recs.map (·.1) → ∃ v, Val h u v
  | 0, u, hn, _ => absurd hn (Nat.not_lt_zero _)
  | n + 1, u, hn, hu => by
    cases e : seen h.given u with
    | some v => exact ⟨v, .given e⟩
    | none =>
      have hr : u ∈ h.recs.map (·.1) := (List.mem_append.mp hu).resolve_left (seen_none e)
      obtain ⟨p, hp, rfl⟩ := List.mem_map.mp hr
      obtain ⟨_, gd, _, _, wi⟩ := G.rcp p hp
      have e2 := rcpOf_ndA (List.nodup_append.mp G.nd).2.1 hp
      obtain ⟨v, hv⟩ := Ev_total (F := Val h) (fun w hw => G.val n w (by have := hw.2; omega) hw.1) (good_wn gd) wi
      exact ⟨v, .work_ev e e2 hv⟩
theorem HouseG.has {h : House} (G : HouseG h) {u : List Nat} (hu : u ∈ h.given.map (·.1) ++ h.recs.map (·.1)) : ∃ v, Val h u v := G.val (rkA u + 1) u (Nat.lt_succ_self _) hu
def xyz : List (List Nat) := [[120], [121], [122]]
def lets (k : Nat) : List (List Nat) := (List.range k).map fun j => [97 + j]
theorem lets_succ (k : Nat) : lets (k + 1) = lets k ++ [[97 + k]] := by unfold lets; rw [List.range_succ, List.map_append]; rfl
theorem lets_mem {k : Nat} {u : List Nat} (h : u ∈ lets k) : ∃ j, j < k ∧ u = [97 + j] := by
  obtain ⟨j, hj, e⟩ := List.mem_map.mp h
  exact ⟨j, List.mem_range.mp hj, e.symm⟩
theorem nm_let {c : Nat} (h : 97 ≤ c ∧ c ≤ 122) : Nm [c] := ⟨Nat.le_refl 1, (by show 1 ≤ 8; decide), fun x hx => by rw [List.mem_singleton.mp hx]; exact h⟩
/-- a house as the laws draw it -/
structure HouseL (h : House) (m : Nat) : Prop where
  m1 : 1 ≤ m
  m8 : m ≤ 8
  gk : h.given.map (·.1) = xyz
  gv : ∀ p ∈ h.given, p.2.natAbs ≤ 3
  rk : h.recs.map (·.1) = lets m
  rc : ∀ k p, h.recs[k]? = some p → MadeR (xyz ++ lets k) 3 p.2
theorem lets_nd (k : Nat) : (lets k).Nodup := by
  unfold lets
  refine List.pairwise_map.mpr (List.Pairwise.imp (fun {a b} h e => h (by have := List.cons.inj e; omega)) List.nodup_range)
theorem xyz_lets_nd {m : Nat} (h : m ≤ 22) : (xyz ++ lets m).Nodup := by
  refine List.nodup_append.mpr ⟨by decide, lets_nd m, fun x hx y hy e => ?_⟩
  obtain ⟨j, hj, rfl⟩ := lets_mem hy
  rw [e] at hx
  unfold xyz at hx
  simp only [List.mem_cons, List.not_mem_nil, or_false, List.cons.injEq, and_true] at hx
  omega
/-- what a drawn recipe of names ahead is -/
theorem MadeR.ahead {k : Nat} (hk : k < 23) {r : Rcp} (M : MadeR (xyz ++ lets k) 3 r) {S : List Nat → Prop} (hS : ∀ u, u ∈ xyz ++ lets k → S u) : r.Good ∧ r.dep ≤ 4 ∧ r.bitsN wtA ≤ wtA [97 + k] - 1 ∧ r.Wi fun u => S u ∧ rkA u < rkA [97 + k] := by
  have wk : wtA [97 + k] = 20 + 70 * (k + 1) := by
    show (if 120 ≤ 97 + k then 20 else 20 + 70 * (97 + k - 96)) = _
    rw [if_neg (by omega)]
    omega
  have rk : rkA [97 + k] = k + 1 := by
    show (if 120 ≤ 97 + k then 0 else 97 + k - 96) = _
    rw [if_neg (by omega)]
    omega
  have low : ∀ u, u ∈ xyz ++ lets k → wtA u ≤ 20 + 70 * k ∧ rkA u ≤ k := fun u hu => by
    rcases List.mem_append.mp hu with hu | hu
    · have h1 : ∀ u ∈ xyz, wtA u = 20 ∧ rkA u = 0 := by decide
      obtain ⟨a, b⟩ := h1 u hu
      omega
    · obtain ⟨j, hj, rfl⟩ := lets_mem hu
      refine ⟨?_, ?_⟩
      · show (if 120 ≤ 97 + j then 20 else 20 + 70 * (97 + j - 96)) ≤ _
        split <;> omega
      · show (if 120 ≤ 97 + j then 0 else 97 + j - 96) ≤ _
        split <;> omega
  refine ⟨M.gd, M.dp, ?_, M.wi.imp fun u hu => ⟨hS u hu, by rw [rk]; have := (low u hu).2; omega⟩⟩
  have := M.bt wtA (20 + 70 * k) 20 (fun u hu => (low u hu).1) (fun u hu => by
    have : u = [120] := (Option.some.inj hu).symm
    rw [this]
    decide) (by decide) (by omega)
  rw [wk]
  omega
theorem HouseL.g {h : House} {m : Nat} (L : HouseL h m) : HouseG h := by
  have hk : h.given.map (·.1) ++ h.recs.map (·.1) = xyz ++ lets m := by rw [L.gk, L.rk]
  have := L.m8
  refine ⟨fun p hp => ?_, fun p hp => ?_, by rw [hk]; exact xyz_lets_nd (by omega)⟩
  · obtain ⟨k, hk2⟩ := List.mem_iff_getElem?.mp hp
    have hl : h.recs.length = m := by have := congrArg List.length L.rk; rw [List.length_map] at this; rw [this]; unfold lets; rw [List.length_map, List.length_range]
    have hkl : k < m := by rw [← hl]; exact (List.getElem?_eq_some_iff.mp hk2).1
    have e : p.1 = [97 + k] := by
      have h1 : (h.recs.map (·.1))[k]? = some p.1 := by rw [List.getElem?_map, hk2]; rfl
      rw [L.rk] at h1
      unfold lets at h1
      rw [List.getElem?_map, List.getElem?_range hkl] at h1
      exact (Option.some.inj h1).symm
    obtain ⟨a, b, c, d⟩ := (L.rc k p hk2).ahead (by omega) (S := fun u => u ∈ xyz ++ lets m) (fun u hu => by
      rcases List.mem_append.mp hu with hu | hu
      · exact List.mem_append_left _ hu
      · obtain ⟨j, hj, rfl⟩ := lets_mem hu
        exact List.mem_append_right _ (List.mem_map.mpr ⟨j, List.mem_range.mpr (by omega), rfl⟩))
    rw [e, hk]
    exact ⟨nm_let ⟨by omega, by omega⟩, a, by omega, by omega, d⟩
  · have : p.1 ∈ xyz := by rw [← L.gk]; exact List.mem_map.mpr ⟨p, hp, rfl⟩
    refine ⟨?_, Nat.lt_of_le_of_lt (L.gv p hp) (by decide)⟩
    have h1 : ∀ u ∈ xyz, 1 ≤ u.length ∧ u.length ≤ 8 ∧ ∀ c ∈ u, 97 ≤ c ∧ c ≤ 122 := by decide
    exact h1 _ this
/-- told: two new dicts, a new tuple of both -/
def spHouseA (K : PySem.W.Frag) : Sp := fun vs H Q _ => ∃ (a : Addr) (ns : List Int) (start : Int), vs = [.ref a, .int start, .bl false] ∧ SqL K H a (ns.map V.int) ∧ ns.length ≤ 63 ∧ 0 ≤ start ∧ start ≤ 900 ∧
  ∀ (U G R : Addr) (h : House) (m : Nat) (kvs : List (Key × V)) (H' : Hp), Same H H' → H U = none → H G = none → H R = none → H' U = some (.tup [.ref G, .ref R]) → H' G = some (.dK (numsK h.given)) → H' R = some (.dK kvs) → KvR (Rec H') h.recs kvs → HouseL h m → Q (.ref U) H'
theorem nd_take {α : Type} {l : List α} (nd : l.Nodup) {i : Nat} {x : α} (h : l[i]? = some x) : ¬ x ∈ l.take i := fun z => by
  obtain ⟨j, hj⟩ := List.mem_iff_getElem?.mp z
  have jl : j < (l.take i).length := (List.getElem?_eq_some_iff.mp hj).1
  rw [List.length_take] at jl
  rw [List.getElem?_take_of_lt (by omega)] at hj
  obtain ⟨hi, ei⟩ := List.getElem?_eq_some_iff.mp h
  obtain ⟨hj', ej⟩ := List.getElem?_eq_some_iff.mp hj
  have := (List.getElem_inj nd).mp (ei.trans ej.symm)
  omega
theorem sign_of {z : Str} {l : List Nat} (e : z = SX.S l) {i : Int} {n : Nat} (hi : i = (n : Int)) (h : n < l.length) : 0 ≤ i ∧ i < (z.length : Int) ∧ z.cps[i.toNat]? = some l[n] := by
  subst e
  refine ⟨by omega, by rw [SX.S_len]; omega, ?_⟩
  show l.toArray[i.toNat]? = _
  rw [List.getElem?_toArray, show i.toNat = n by omega, List.getElem?_eq_getElem h]
theorem xyz_txt : ("xyz" : Str) = SX.S [120, 121, 122] := by decide +kernel
theorem abc_txt : ("abcdefgh" : Str) = SX.S [97, 98, 99, 100, 101, 102, 103, 104] := by decide +kernel
theorem abc_at {j : Nat} (h : j < 8) : ([97, 98, 99, 100, 101, 102, 103, 104] : List Nat)[j]'h = 97 + j := by
  have : ∀ j : Fin 8, ([97, 98, 99, 100, 101, 102, 103, 104] : List Nat)[j.val]'j.isLt = 97 + j.val := by decide
  exact this ⟨j, h⟩
/-! ### the laws' own fresh builds -/
open LamX NdefX
structure LA where
  S : Addr
  W : Addr
  Rc : Addr
  O : Addr
  Pn : Addr
  Rs : Addr
  B : Hp
def LA.own (L : LA) : List Addr := [L.W, L.Rc, L.O, L.Pn, L.Rs]
def stK (L : LA) : List (Key × V) := [(kT "worths", .ref L.W), (kT "records", .ref L.Rc), (kT "order", .ref L.O), (kT "open", .ref L.Pn), (kT "reads", .ref L.Rs)]
theorem stK_get (L : LA) : valV (stK L) (kT "worths") = some (.ref L.W) ∧ valV (stK L) (kT "records") = some (.ref L.Rc) ∧ valV (stK L) (kT "order") = some (.ref L.O) ∧ valV (stK L) (kT "open") = some (.ref L.Pn) ∧ valV (stK L) (kT "reads") = some (.ref L.Rs) := by
  have h1 : decide (kT "worths" = kT "records") = false := by decide +kernel
  have h2 : decide (kT "worths" = kT "order") = false := by decide +kernel
  have h3 : decide (kT "worths" = kT "open") = false := by decide +kernel
  have h4 : decide (kT "worths" = kT "reads") = false := by decide +kernel
  have h5 : decide (kT "records" = kT "order") = false := by decide +kernel
  have h6 : decide (kT "records" = kT "open") = false := by decide +kernel
  have h7 : decide (kT "records" = kT "reads") = false := by decide +kernel
  have h8 : decide (kT "order" = kT "open") = false := by decide +kernel
  have h9 : decide (kT "order" = kT "reads") = false := by decide +kernel
  have ha : decide (kT "open" = kT "reads") = false := by decide +kernel
  refine ⟨rfl, ?_, ?_, ?_, ?_⟩
  all_goals simp only [valV, stK, List.find?_cons, h1, h2, h3, h4, h5, h6, h7, h8, h9, ha, decide_true, Option.map_some]
/-- a row told: its list of reads is none of the state's -/
def RowL (L : LA) (stk : List Addr) (H : Hp) (r : Row × Addr) (v : V) : Prop := ∃ T rv xs, v = .ref T ∧ H T = some (.tup [rv, .ref r.2, .int r.1.2.2]) ∧ Rec H r.1.2.1 rv ∧ L.B r.2 = none ∧ r.2 ∉ [L.O, L.Pn, L.Rs] ++ stk ∧ H r.2 = some (.lst xs) ∧ Prs H r.1.1 xs
theorem RowL.mp {L : LA} {stk stk' : List Addr} {H H' : Hp} (k : Keep H H') (l : ∀ b xs, b ∉ [L.O, L.Pn, L.Rs] ++ stk → H b = some (.lst xs) → H' b = some (.lst xs) ∧ b ∉ [L.O, L.Pn, L.Rs] ++ stk') {r : Row × Addr} {v : V} (h : RowL L stk H r v) : RowL L stk' H' r v := by
  obtain ⟨T, rv, xs, e, h1, h2, h3, n, h4, h5⟩ := h
  exact ⟨T, rv, xs, e, k _ _ h1, h2.keep k, h3, (l _ _ n h4).2, (l _ _ n h4).1, h5.keep k⟩
structure LAt (Tb : List NTab) (L : LA) (s : AgS) (stk : List Addr) (H : Hp) : Prop where
  st : H L.S = some (.dK (stK L))
  fr : FrS Tb [] L.B H
  new : L.B L.W = none ∧ L.B L.Rc = none ∧ L.B L.O = none ∧ L.B L.Pn = none ∧ L.B L.Rs = none
  wn : H L.W = some (.dK (numsK s.known))
  bk : ∃ kvs, ∃ bl : Bl, H L.Rc = some (.dK kvs) ∧ bl.map (fun p => (p.1, p.2.1)) = s.book ∧ (bl.map fun p => p.2.2).Nodup ∧ KvR (RowL L stk H) bl kvs
  or_ : H L.O = some (.lst (txs s.made))
  pn : H L.Pn = some (.lst (txs s.going))
  rs : H L.Rs = some (.lst (stk.map V.ref))
  sk : ∀ q ∈ stk, q ∉ [L.O, L.Pn, L.Rs] ∧ L.B q = none ∧ ∃ xs, H q = some (.lst xs)
  ne : L.W ≠ L.Rc ∧ L.S ≠ L.W ∧ L.S ≠ L.Rc ∧ L.O ≠ L.Pn ∧ L.O ≠ L.Rs ∧ L.Pn ≠ L.Rs
section
variable {Tb : List NTab} {L : LA} {s : AgS} {stk : List Addr} {H H' : Hp}
theorem LAt.same (a : LAt Tb L s stk H) (sm : Same H H') : LAt Tb L s stk H' := by
  obtain ⟨kvs, bl, h3, h4, h5, h6⟩ := a.bk
  exact ⟨sm _ _ a.st, a.fr.trans (FrS.of sm), a.new, sm _ _ a.wn, ⟨kvs, bl, sm _ _ h3, h4, h5, h6.imp fun r v q => q.mp (same_keep sm) fun b xs n e => ⟨sm _ _ e, n⟩⟩, sm _ _ a.or_, sm _ _ a.pn, sm _ _ a.rs, fun q hq => ⟨(a.sk q hq).1, (a.sk q hq).2.1, by obtain ⟨xs, e⟩ := (a.sk q hq).2.2; exact ⟨xs, sm _ _ e⟩⟩, a.ne⟩
theorem LAt.ownDL (a : LAt Tb L s stk H) {x : Addr} (hx : x ∈ L.own) : L.B x = none ∧ x ≠ L.S ∧ ((∃ kvs, H x = some (.dK kvs)) ∨ ((∃ xs, H x = some (.lst xs)) ∧ x ∈ [L.O, L.Pn, L.Rs])) := by
  obtain ⟨kvs, bl, h3, _⟩ := a.bk
  obtain ⟨n1, n2, n3, n4, n5⟩ := a.new
  have ls : ∀ {x xs}, H x = some (.lst xs) → x ≠ L.S := fun e z => by rw [z, a.st] at e; cases e
  unfold LA.own at hx
  rcases List.mem_cons.mp hx with rfl | hx
  · exact ⟨n1, a.ne.2.1.symm, .inl ⟨_, a.wn⟩⟩
  rcases List.mem_cons.mp hx with rfl | hx
  · exact ⟨n2, a.ne.2.2.1.symm, .inl ⟨_, h3⟩⟩
  rcases List.mem_cons.mp hx with rfl | hx
  · exact ⟨n3, ls a.or_, .inr ⟨⟨_, a.or_⟩, by simp⟩⟩
  rcases List.mem_cons.mp hx with rfl | hx
  · exact ⟨n4, ls a.pn, .inr ⟨⟨_, a.pn⟩, by simp⟩⟩
  rw [List.mem_singleton.mp hx]
  exact ⟨n5, ls a.rs, .inr ⟨⟨_, a.rs⟩, by simp⟩⟩
/-- what any store to its own does not touch -/
theorem LAt.rest (a : LAt Tb L s stk H) {x : Addr} {o : HO} (hx : x ∈ L.own) :
    upd H x o L.S = some (.dK (stK L)) ∧ FrS Tb [] L.B (upd H x o) ∧ Keep H (upd H x o) ∧ FrS Tb L.own H (upd H x o) ∧ (∀ r v, RowL L stk H r v → RowL L stk (upd H x o) r v) ∧ ∀ q ∈ stk, q ∉ [L.O, L.Pn, L.Rs] ∧ L.B q = none ∧ ∃ xs, upd H x o q = some (.lst xs) := by
  obtain ⟨nx, ns, dl⟩ := a.ownDL hx
  have dl' : DL H x := dl.imp id fun h => h.1
  have k : Keep H (upd H x o) := fun b ys e => by
    rw [upd_ne (fun z => by rcases dl' with ⟨_, d⟩ | ⟨_, d⟩ <;> rw [z, d] at e <;> cases e)]
    exact e
  have l : ∀ b xs, b ∉ [L.O, L.Pn, L.Rs] → H b = some (.lst xs) → upd H x o b = some (.lst xs) := fun b xs n e => by
    rw [upd_ne (fun z => ?_)]
    · exact e
    · rcases dl with ⟨_, d⟩ | ⟨_, d⟩
      · rw [z, d] at e; cases e
      · exact n (z ▸ d)
  refine ⟨by rw [upd_ne ns.symm]; exact a.st, a.fr.put0 nx dl', k, FrS.upd hx dl', fun r v q => q.mp k fun b xs n e => ⟨l b xs (fun z => n (List.mem_append_left _ z)) e, n⟩, fun q hq => ?_⟩
  obtain ⟨h1, h2, xs, e⟩ := a.sk q hq
  exact ⟨h1, h2, xs, l q xs h1 e⟩
theorem LAt.known (a : LAt Tb L s stk H) (t : List Nat) (v : Int) : LAt Tb L { s with known := putA s.known t v } stk (upd H L.W (.dK (numsK (putA s.known t v)))) := by
  obtain ⟨n1, n2, n3, n4, n5, n6⟩ := a.ne
  obtain ⟨r1, r2, r3, _, r5, r6⟩ := a.rest (x := L.W) (o := .dK (numsK (putA s.known t v))) (by unfold LA.own; simp)
  obtain ⟨kvs, bl, h3, h4, h5, h6⟩ := a.bk
  have ls : ∀ {b xs}, H b = some (.lst xs) → upd H L.W (.dK (numsK (putA s.known t v))) b = some (.lst xs) := fun {b xs} e => by rw [upd_ne (fun z => by rw [z, a.wn] at e; cases e)]; exact e
  exact ⟨r1, r2, a.new, upd_same, ⟨kvs, bl, by rw [upd_ne n1.symm]; exact h3, h4, h5, h6.imp r5⟩, ls a.or_, ls a.pn, ls a.rs, r6, a.ne⟩
theorem LAt.asking (a : LAt Tb L s stk H) (ns : List (List Nat)) : LAt Tb L { s with going := ns } stk (upd H L.Pn (.lst (txs ns))) := by
  obtain ⟨n1, n2, n3, n4, n5, n6⟩ := a.ne
  obtain ⟨r1, r2, r3, _, r5, r6⟩ := a.rest (x := L.Pn) (o := .lst (txs ns)) (by unfold LA.own; simp)
  obtain ⟨kvs, bl, h3, h4, h5, h6⟩ := a.bk
  have ds : ∀ {b xs}, H b = some (.dK xs) → upd H L.Pn (.lst (txs ns)) b = some (.dK xs) := fun {b xs} e => by rw [upd_ne (fun z => by rw [z, a.pn] at e; cases e)]; exact e
  exact ⟨r1, r2, a.new, ds a.wn, ⟨kvs, bl, ds h3, h4, h5, h6.imp r5⟩, by rw [upd_ne n4]; exact a.or_, upd_same, by rw [upd_ne n6.symm]; exact a.rs, r6, a.ne⟩
theorem LAt.making (a : LAt Tb L s stk H) (ns : List (List Nat)) : LAt Tb L { s with made := ns } stk (upd H L.O (.lst (txs ns))) := by
  obtain ⟨n1, n2, n3, n4, n5, n6⟩ := a.ne
  obtain ⟨r1, r2, r3, _, r5, r6⟩ := a.rest (x := L.O) (o := .lst (txs ns)) (by unfold LA.own; simp)
  obtain ⟨kvs, bl, h3, h4, h5, h6⟩ := a.bk
  have ds : ∀ {b xs}, H b = some (.dK xs) → upd H L.O (.lst (txs ns)) b = some (.dK xs) := fun {b xs} e => by rw [upd_ne (fun z => by rw [z, a.or_] at e; cases e)]; exact e
  exact ⟨r1, r2, a.new, ds a.wn, ⟨kvs, bl, ds h3, h4, h5, h6.imp r5⟩, upd_same, by rw [upd_ne n4.symm]; exact a.pn, by rw [upd_ne n5.symm]; exact a.rs, r6, a.ne⟩
/-- a list more on the pile -/
theorem LAt.push (a : LAt Tb L s stk H) {q : Addr} {xs : List V} (eq : H q = some (.lst xs)) (nB : L.B q = none) (nq : q ∉ [L.O, L.Pn, L.Rs]) (nr : ∀ kvs, H L.Rc = some (.dK kvs) → ∀ x ∈ kvs, ∀ T rv y, x.2 = V.ref T → H T = some (.tup [rv, V.ref q, y]) → False) : LAt Tb L s (stk ++ [q]) (upd H L.Rs (.lst ((stk ++ [q]).map V.ref))) := by
  obtain ⟨n1, n2, n3, n4, n5, n6⟩ := a.ne
  obtain ⟨r1, r2, r3, _, r5, r6⟩ := a.rest (x := L.Rs) (o := .lst ((stk ++ [q]).map V.ref)) (by unfold LA.own; simp)
  obtain ⟨kvs, bl, h3, h4, h5, h6⟩ := a.bk
  have ds : ∀ {b xs}, H b = some (.dK xs) → upd H L.Rs (.lst ((stk ++ [q]).map V.ref)) b = some (.dK xs) := fun {b xs} e => by rw [upd_ne (fun z => by rw [z, a.rs] at e; cases e)]; exact e
  have nqR : q ≠ L.Rs := fun z => nq (by rw [z]; simp)
  have each : ∀ p ∈ bl, p.2.2 ≠ q := fun p hp e => by
    obtain ⟨x, hx, T, rv, ys, e3, e4, _⟩ := KvR.each h6 p hp
    exact nr kvs h3 x hx T rv _ e3 (e ▸ e4)
  refine ⟨r1, r2, a.new, ds a.wn, ⟨kvs, bl, ds h3, h4, h5, ?_⟩, by rw [upd_ne n5]; exact a.or_, by rw [upd_ne n6]; exact a.pn, upd_same, fun p hp => ?_, a.ne⟩
  · have : ∀ {l : Bl} {m : List (Key × V)}, (∀ p ∈ l, p.2.2 ≠ q) → KvR (RowL L stk H) l m → KvR (RowL L (stk ++ [q]) (upd H L.Rs (.lst ((stk ++ [q]).map V.ref)))) l m := by
      intro l
      induction l with
      | nil => intro m _ h; cases m with
        | nil => exact trivial
        | cons _ _ => exact h.elim
      | cons p l ih => intro m hn h; cases m with
        | nil => exact h.elim
        | cons x m =>
          refine ⟨h.1, ?_, ih (fun y hy => hn y (List.mem_cons_of_mem _ hy)) h.2.2⟩
          obtain ⟨T, rv, ys, e, g1, g2, g3, n, g4, g5⟩ := r5 _ _ h.2.1
          refine ⟨T, rv, ys, e, g1, g2, g3, fun z => ?_, g4, g5⟩
          rw [← List.append_assoc] at z
          rcases List.mem_append.mp z with z | z
          · exact n z
          · exact hn p List.mem_cons_self (List.mem_singleton.mp z)
    exact this each h6
  · rcases List.mem_append.mp hp with hp | hp
    · exact r6 p hp
    · rw [List.mem_singleton.mp hp]
      exact ⟨nq, nB, xs, by rw [upd_ne nqR]; exact eq⟩
/-- the topmost list taken off the pile -/
theorem LAt.pop {q : Addr} (a : LAt Tb L s (stk ++ [q]) H) : LAt Tb L s stk (upd H L.Rs (.lst (stk.map V.ref))) := by
  obtain ⟨n1, n2, n3, n4, n5, n6⟩ := a.ne
  obtain ⟨r1, r2, r3, _, r5, r6⟩ := a.rest (x := L.Rs) (o := .lst (stk.map V.ref)) (by unfold LA.own; simp)
  obtain ⟨kvs, bl, h3, h4, h5, h6⟩ := a.bk
  have ds : ∀ {b xs}, H b = some (.dK xs) → upd H L.Rs (.lst (stk.map V.ref)) b = some (.dK xs) := fun {b xs} e => by rw [upd_ne (fun z => by rw [z, a.rs] at e; cases e)]; exact e
  exact ⟨r1, r2, a.new, ds a.wn, ⟨kvs, bl, ds h3, h4, h5, h6.imp fun r v q => (r5 r v q).mp (Keep.refl _) fun b xs n e => ⟨e, fun z => n (by rw [← List.append_assoc]; exact List.mem_append_left _ z)⟩⟩, by rw [upd_ne n5]; exact a.or_, by rw [upd_ne n6]; exact a.pn, upd_same, fun p hp => r6 p (List.mem_append_left _ hp), a.ne⟩
/-- something put down in the topmost list -/
theorem LAt.top {q : Addr} (a : LAt Tb L s (stk ++ [q]) H) (ys : List V) : LAt Tb L s (stk ++ [q]) (upd H q (.lst ys)) := by
  obtain ⟨kvs, bl, h3, h4, h5, h6⟩ := a.bk
  obtain ⟨nq, nB, xs, eq⟩ := a.sk q (List.mem_append_right _ (List.mem_singleton.mpr rfl))
  have dl : DL H q := .inr ⟨_, eq⟩
  have k : Keep H (upd H q (.lst ys)) := keep_lst eq
  have ds : ∀ {b xs}, H b = some (.dK xs) → upd H q (.lst ys) b = some (.dK xs) := fun {b xs} e => by rw [upd_ne (fun z => by rw [z, eq] at e; cases e)]; exact e
  have nn : ∀ {x}, x ∈ [L.O, L.Pn, L.Rs] → x ≠ q := fun hx z => nq (z ▸ hx)
  refine ⟨ds a.st, a.fr.put0 nB dl, a.new, ds a.wn, ⟨kvs, bl, ds h3, h4, h5, h6.imp fun r v p => p.mp k fun b zs n e => ⟨by rw [upd_ne (fun z => n (List.mem_append_right _ (List.mem_append_right _ (List.mem_singleton.mpr z))))]; exact e, n⟩⟩, by rw [upd_ne (nn (by simp))]; exact a.or_, by rw [upd_ne (nn (by simp))]; exact a.pn, by rw [upd_ne (nn (by simp))]; exact a.rs, fun p hp => ?_, a.ne⟩
  obtain ⟨g1, g2, zs, g3⟩ := a.sk p hp
  refine ⟨g1, g2, ?_⟩
  by_cases c : p = q
  · exact ⟨ys, by rw [c, upd_same]⟩
  · exact ⟨zs, by rw [upd_ne c]; exact g3⟩
/-- a row put down -/
theorem LAt.booking (a : LAt Tb L s stk H) {kvs : List (Key × V)} (e : H L.Rc = some (.dK kvs)) {t : List Nat} {o : Row} {q : Addr} {v : V} (hr : RowL L stk H (o, q) v) (hnew : ∀ x ∈ kvs, ∀ T rv y, x.2 = V.ref T → H T = some (.tup [rv, V.ref q, y]) → False) (hnt : ¬ t ∈ s.book.map (·.1)) :
    LAt Tb L { s with book := putA s.book t o } stk (upd H L.Rc (.dK (putK kvs (kT (SX.S t)) v))) := by
  obtain ⟨n1, n2, n3, n4, n5, n6⟩ := a.ne
  obtain ⟨r1, r2, r3, _, r5, r6⟩ := a.rest (x := L.Rc) (o := .dK (putK kvs (kT (SX.S t)) v)) (by unfold LA.own; simp)
  obtain ⟨kvs', bl, h3, h4, h5, h6⟩ := a.bk
  rw [e] at h3
  cases h3
  have ls : ∀ {b xs}, H b = some (.lst xs) → upd H L.Rc (.dK (putK kvs (kT (SX.S t)) v)) b = some (.lst xs) := fun {b xs} e2 => by rw [upd_ne (fun z => by rw [z, e] at e2; cases e2)]; exact e2
  have hk : bl.map (·.1) = s.book.map (·.1) := by rw [← h4, List.map_map]; rfl
  refine ⟨r1, r2, a.new, by rw [upd_ne n1]; exact a.wn, ⟨_, putA bl t (o, q), upd_same, ?_, ?_, (KvR.put (a := (o, q)) hr h6).imp r5⟩, ls a.or_, ls a.pn, ls a.rs, r6, a.ne⟩
  · rw [putA_map (fun x : Row × Addr => x.1) bl t (o, q), h4]
  · rw [putA_new _ (by rw [hk]; exact hnt), List.map_append]
    refine List.nodup_append.mpr ⟨h5, List.nodup_cons.mpr ⟨(fun z => nomatch z), List.nodup_nil⟩, fun x hx y hy e2 => ?_⟩
    obtain ⟨p, hp, rfl⟩ := List.mem_map.mp hx
    rw [List.mem_singleton.mp hy] at e2
    obtain ⟨x, hq, T, rv, xs, e3, e4, _⟩ := KvR.each h6 p hp
    exact hnew x hq T rv _ e3 (e2 ▸ e4)
end
/-! ### a pair in a row of pairs -/
theorem prs_any {q : Pr} : ∀ {ps : List Pr}, q ∈ ps → (Th.pyL (ps.map pairTh)).any (fun z => PyData.eqv z (pairTh q).py) = true
  | p :: ps, h => by
    show (PyData.eqv (pairTh p).py (pairTh q).py || (Th.pyL (ps.map pairTh)).any fun z => PyData.eqv z (pairTh q).py) = true
    rcases List.mem_cons.mp h with rfl | h
    · rw [show PyData.eqv (pairTh q).py (pairTh q).py = true by
        show ((SX.S q.1 == SX.S q.1) && ((q.2 == q.2) && true)) = true
        rw [SX.S_beq, beq_self_eq_true, beq_self_eq_true]
        rfl]
      rfl
    · rw [prs_any h, Bool.or_true]
theorem prs_not {q : Pr} : ∀ {ps : List Pr}, ¬ q.1 ∈ ps.map (·.1) → (Th.pyL (ps.map pairTh)).any (fun z => PyData.eqv z (pairTh q).py) = false
  | [], _ => rfl
  | p :: ps, h => by
    show (PyData.eqv (pairTh p).py (pairTh q).py || (Th.pyL (ps.map pairTh)).any fun z => PyData.eqv z (pairTh q).py) = false
    rw [show PyData.eqv (pairTh p).py (pairTh q).py = false by
      show ((SX.S p.1 == SX.S q.1) && ((p.2 == q.2) && true)) = false
      rw [SX.S_beq, beq_eq_false_iff_ne.mpr (fun e => h (by rw [List.map_cons, e]; exact List.mem_cons_self ..))]
      rfl, prs_not fun e => h (List.mem_cons_of_mem _ e)]
    rfl
theorem one_shaped {p : Pr} (h : Nm p.1) : SeqAt.shaped (pairTh p).py = true := by
  show (((PyData.str (SX.S p.1)).canLay0 && ((PyData.int p.2).canLay0 && true)) && decide (max 0 (max 0 0) + 1 ≤ 64)) = true
  rw [nm_lay h]
  rfl
/-! ### the laws' own fresh builds walked -/
open LamX NdefX
theorem OldOk.nil (h : House) : OldOk h [] := fun t o r e => by cases e
/-- what has been read is known with just that worth -/
def Cons (s : AgS) (own : List Pr) : Prop := ∀ p ∈ own, seen s.known p.1 = some p.2
def LJ (h : House) (beta : Nat → Nat) (G : List (List Nat)) : AgS × List Pr → Prop := fun p => AgOk h beta [] p.1 ∧ p.1.going = G ∧ OwnOk beta p.1.rk p.2 ∧ Cons p.1 p.2
theorem lj_look {dm n : Nat} {h : House} {beta : Nat → Nat} (HH : HouseN dm h beta) {G : List (List Nat)} (hG : h.recs.length + 1 ≤ G.length + n) : LkOk (lkO (agR h [] n)) (LJ h beta G) (Val h) := fun p u v p' hJ hu e => by
  obtain ⟨sp, op⟩ := p
  cases e1 : agR h [] n sp u with
  | err x => rw [lkO_err e1] at e; cases e
  | ok v' s' =>
    rw [lkO_ok e1] at e
    cases e
    obtain ⟨o1, s1, g1, _⟩ := agR_step HH (OldOk.nil h) hJ.1 hu (by rw [hJ.2.1]; exact hG) e1
    refine ⟨⟨o1, g1.trans hJ.2.1, hJ.2.2.1.look hu s1, fun p hp => ?_⟩, s1.worth⟩
    rcases mem_setd hp with rfl | hp
    · cases e2 : seen s'.known u with
      | none => exact absurd s1.got (seen_none e2)
      | some y =>
        have h1 : Val h u y := o1.kn e2
        show some y = some v
        rw [h1.det s1.worth]
    · exact kn_keep hJ.1.coh o1.coh s1.mono (hJ.2.2.2 p hp)
/-- where a house stands ahead of the build, and what is so of it -/
structure LPre (Tb : List NTab) (dm : Nat) (L : LA) (h : House) (beta : Nat → Nat) (hv : V) (s : AgS) (stk : List Addr) (H : Hp) : Prop where
  HH : HouseOk dm h beta
  ha : HouseAt L.B h hv
  sz : h.given.length + h.recs.length ≤ 100000
  at_ : LAt Tb L s stk H
  ok : AgOk h beta [] s
  sl : stk.length ≤ s.going.length + 1
def spLLook (Tb : List NTab) (dm n : Nat) : Sp := fun vs H Q _ => ∃ (L : LA) (h : House) (beta : Nat → Nat) (hv : V) (s : AgS) (stk : List Addr) (t : List Nat) (v : Int) (s' : AgS), vs = [hv, .str (SX.S t), .ref L.S] ∧ LPre Tb dm L h beta hv s stk H ∧ h.recs.length + 1 ≤ s.going.length + n ∧ Nm t ∧ agR h [] n s t = .ok v s' ∧
  ∀ H', FrS Tb L.own H H' → LAt Tb L s' stk H' → Q (.int v) H'
def spLRead (Tb : List NTab) (dm n : Nat) : Sp := fun vs H Q _ => ∃ (L : LA) (h : House) (beta : Nat → Nat) (hv : V) (s : AgS) (own : List Pr) (stk : List Addr) (q : Addr) (xs : List V) (t : List Nat) (v : Int) (p' : AgS × List Pr), vs = [hv, .str (SX.S t), .ref L.S] ∧ LPre Tb dm L h beta hv s (stk ++ [q]) H ∧ h.recs.length + 1 ≤ s.going.length + n ∧ Nm t ∧
  LJ h beta s.going (s, own) ∧ q ∉ stk ∧ H q = some (.lst xs) ∧ Prs H own xs ∧ lkO (agR h [] n) (s, own) t = .ok v p' ∧
  ∀ H' xs', FrS Tb (q :: L.own) H H' → LAt Tb L p'.1 (stk ++ [q]) H' → H' q = some (.lst xs') → Prs H' p'.2 xs' → Q (.int v) H'
def spLWork (Tb : List NTab) (dm n j : Nat) : Sp := fun vs H Q _ => ∃ (L : LA) (h : House) (beta : Nat → Nat) (hv rv : V) (r : Rcp) (s : AgS) (own : List Pr) (stk : List Addr) (q : Addr) (xs : List V) (v : Int) (p' : AgS × List Pr), vs = [hv, rv, .ref L.S] ∧ LPre Tb dm L h beta hv s (stk ++ [q]) H ∧ h.recs.length + 1 ≤ s.going.length + n ∧ Rec H r rv ∧ r.Wn ∧ r.dep ≤ j ∧ r.Fit (Val h) ∧
  LJ h beta s.going (s, own) ∧ q ∉ stk ∧ H q = some (.lst xs) ∧ Prs H own xs ∧ wk (lkO (agR h [] n)) r (s, own) = .ok v p' ∧
  ∀ H' xs', FrS Tb (q :: L.own) H H' → LAt Tb L p'.1 (stk ++ [q]) H' → H' q = some (.lst xs') → Prs H' p'.2 xs' → Q (.int v) H'
theorem LPre.next {Tb : List NTab} {dm : Nat} {L : LA} {h : House} {beta : Nat → Nat} {hv : V} {s s' : AgS} {stk : List Addr} {H H' : Hp} (p : LPre Tb dm L h beta hv s stk H) (a : LAt Tb L s' stk H') (o : AgOk h beta [] s') (g : s'.going = s.going) : LPre Tb dm L h beta hv s' stk H' := ⟨p.HH, p.ha, p.sz, a, o, by rw [g]; exact p.sl⟩
theorem FrS.top {Tb : List NTab} {L : LA} {s : AgS} {stk : List Addr} {q : Addr} {H H' : Hp} (a : LAt Tb L s (stk ++ [q]) H) (f : FrS Tb (q :: L.own) H H') : Keep H H' := f.keep fun x hx xs e => by
  rcases List.mem_cons.mp hx with rfl | hx
  · obtain ⟨_, _, ys, e2⟩ := a.sk x (List.mem_append_right _ (List.mem_singleton.mpr rfl))
    rw [e2] at e
    cases e
  · rcases (a.ownDL hx).2.2 with ⟨_, z⟩ | ⟨⟨_, z⟩, _⟩ <;> rw [z] at e <;> cases e
theorem LAt.topNot {Tb : List NTab} {L : LA} {s : AgS} {stk : List Addr} {q : Addr} {H : Hp} (a : LAt Tb L s (stk ++ [q]) H) : q ∉ L.own := fun z => by
  obtain ⟨h1, _, ys, e2⟩ := a.sk q (List.mem_append_right _ (List.mem_singleton.mpr rfl))
  rcases (a.ownDL z).2.2 with ⟨_, w⟩ | ⟨_, w⟩
  · rw [w] at e2; cases e2
  · exact h1 w
theorem atI_last {xs : List V} {v : V} : atI (xs ++ [v]) (-1) = some v := by
  have h2 : ixN (xs ++ [v]).length (-1) = some xs.length := by
    unfold ixN
    rw [if_neg (by decide), if_pos (by rw [List.length_append]; simp only [List.length_cons, List.length_nil]; omega)]
    rw [List.length_append]
    simp only [List.length_cons, List.length_nil]
    congr 1
    omega
  unfold atI
  rw [h2]
  show (xs ++ [v])[xs.length]? = some v
  rw [List.getElem?_append_right (Nat.le_refl _), Nat.sub_self]
  rfl
/-! ### look and fresh walked -/
open LamX NdefX
theorem stk_none {Tb : List NTab} {L : LA} {s : AgS} {stk : List Addr} {H : Hp} (a : LAt Tb L s stk H) {q : Addr} (n : H q = none) : q ∉ stk ∧ q ∉ [L.O, L.Pn, L.Rs] ∧ L.B q = none := by
  refine ⟨fun z => ?_, fun z => ?_, a.fr.2.1 q n⟩
  · obtain ⟨_, _, xs, e⟩ := a.sk q z
    rw [n] at e
    cases e
  · simp only [List.mem_cons, List.not_mem_nil, or_false] at z
    rcases z with z | z | z
    · rw [z, a.or_] at n; cases n
    · rw [z, a.pn] at n; cases n
    · rw [z, a.rs] at n; cases n
theorem last_pop (stk : List Addr) (q : Addr) : ((stk ++ [q]).map V.ref).dropLast = stk.map V.ref ∧ ((stk ++ [q]).map V.ref)[((stk ++ [q]).map V.ref).length - 1]? = some (.ref q) := by
  rw [List.map_append]
  refine ⟨List.dropLast_concat, ?_⟩
  rw [List.length_append, List.getElem?_append_right (by simp)]
  simp
theorem merge_st (L : LA) : mergeK [] (stK L) = stK L := by
  have h1 : decide (kT "worths" = kT "records") = false := by decide +kernel
  have h2 : decide (kT "worths" = kT "order") = false := by decide +kernel
  have h3 : decide (kT "worths" = kT "open") = false := by decide +kernel
  have h4 : decide (kT "worths" = kT "reads") = false := by decide +kernel
  have h5 : decide (kT "records" = kT "order") = false := by decide +kernel
  have h6 : decide (kT "records" = kT "open") = false := by decide +kernel
  have h7 : decide (kT "records" = kT "reads") = false := by decide +kernel
  have h8 : decide (kT "order" = kT "open") = false := by decide +kernel
  have h9 : decide (kT "order" = kT "reads") = false := by decide +kernel
  have ha : decide (kT "open" = kT "reads") = false := by decide +kernel
  simp only [mergeK, stK, List.foldl_cons, List.foldl_nil, putK, List.any_nil, List.any_cons, List.nil_append, List.cons_append, h1, h2, h3, h4, h5, h6, h7, h8, h9, ha, Bool.or_false, if_neg Bool.false_ne_true]
def spLState : Sp := fun vs H Q _ => vs = [] ∧ ∀ (L : LA) (H' : Hp), L.B = H → Same H H' → H L.S = none → H L.W = none → H L.Rc = none → H L.O = none → H L.Pn = none → H L.Rs = none → (L.W ≠ L.Rc ∧ L.S ≠ L.W ∧ L.S ≠ L.Rc ∧ L.O ≠ L.Pn ∧ L.O ≠ L.Rs ∧ L.Pn ≠ L.Rs) →
  H' L.S = some (.dK (stK L)) → H' L.W = some (.dK []) → H' L.Rc = some (.dK []) → H' L.O = some (.lst []) → H' L.Pn = some (.lst []) → H' L.Rs = some (.lst []) → Q (.ref L.S) H'
def spLFresh (K : PySem.W.Frag) (Tb : List NTab) (dm n : Nat) : Sp := fun vs H Q _ => ∃ (h : House) (beta : Nat → Nat) (hv : V) (wv : Addr) (ts : List (List Nat)) (v0 : Int) (s0 : RkS), vs = [hv, .ref wv] ∧ HouseOk dm h beta ∧ HouseAt H h hv ∧ h.given.length + h.recs.length ≤ 100000 ∧ h.recs.length + 1 ≤ n ∧ SqL K H wv (txs ts) ∧ (∀ t ∈ ts, Nm t) ∧ lkAll h n emptyS ts = .ok v0 s0 ∧
  ∀ (L : LA) (s : AgS) (H' : Hp), L.B = H → H L.S = none → FrS Tb [] H H' → LAt Tb L s [] H' → AgOk h beta [] s → s.rk = s0 → s.going = [] → Q (.ref L.S) H'
/-! ### rows as data -/
open LamX NdefX
/-- rows as data -/
def rowTh (r : List Pr × Rcp × Int) : Th := .tup [r.2.1.th, .lst (r.1.map pairTh), .int r.2.2]
theorem RowR.data {H : Hp} {r : List Pr × Rcp × Int} {v : V} (h : RowR H r v) : Data H (rowTh r) v := by
  obtain ⟨T, rv, L, xs, e, h1, h2, h3, h4⟩ := h
  exact ⟨T, _, e, h1, _, _, rfl, h2.data, _, _, rfl, ⟨L, xs, rfl, h3, h4.data⟩, _, _, rfl, rfl, rfl⟩
theorem rowTh_flat (r : List Pr × Rcp × Int) : (rowTh r).flat = true := by
  show (r.2.1.th.flat && (Th.flatL (r.1.map pairTh) && true)) = true
  rw [Rcp.flat, prs_flat]
  rfl
theorem rowTh_shaped {r : List Pr × Rcp × Int} (hg : r.2.1.Good) (hd : r.2.1.dep ≤ 60) (hn : ∀ p ∈ r.1, Nm p.1) : SeqAt.shaped (rowTh r).py = true := by
  obtain ⟨a1, a2⟩ := Rcp.lays hg
  obtain ⟨b1, b2⟩ := prs_lay hn
  show ((r.2.1.th.py.canLay0 && (PyData.canLayAll0 (Th.pyL (r.1.map pairTh)) && true)) && decide (max r.2.1.th.py.depth (max (PyData.depthAll (Th.pyL (r.1.map pairTh)) + 1) 0) + 1 ≤ 64)) = true
  rw [a1, b1, decide_eq_true (by omega)]
  rfl
/-! ### what a fresh build and a build from records have alike -/
open LamX NdefX
/-- there is a record by the same recipe whose reads all have the worths read -/
def alB (ws : List Pr) (old : Old) (t : List Nat) (r : Rcp) : Bool := match getA old t with
  | none => false
  | some o => sameR o.2.1 r && o.1.all fun p => decide (seen ws p.1 = some p.2)
theorem alB_good {h : House} {beta : Nat → Nat} {old : Old} {s : RkS} (R : Rest h beta s) (hO : OldOk h old) {t : List Nat} {r : Rcp} (ht : t ∈ s.read.map (·.1)) (er : rcpOf h.recs t = some r) : alB s.known old t r = isGood h old t := by
  by_cases g : GoodRec h old t
  · rw [isGood_t g]
    obtain ⟨o, r', e1, e2, e3, e4⟩ := g
    rw [er] at e2
    obtain rfl := Option.some.inj e2
    unfold alB
    rw [e1]
    show (sameR o.2.1 r && o.1.all fun p => decide (seen s.known p.1 = some p.2)) = true
    rw [e3, Bool.true_and]
    refine List.all_eq_true.mpr fun p hp => decide_eq_true ?_
    obtain ⟨T, _⟩ := hO t o r e1 er e3
    obtain ⟨q, hq, rfl⟩ := List.mem_map.mp ht
    have hr := R.coh.rd _ hq
    obtain ⟨_, h2⟩ := T.now hr.1 er e4
    have e5 := hr.det h2
    have hk := R.ord.kno _ hq p.1 (by rw [e5]; exact List.mem_map.mpr ⟨p, hp, rfl⟩)
    obtain ⟨x, hx, hv⟩ := known_val R hk
    rw [show seen s.known p.1 = some x from hx, hv.det (e4 p hp)]
  · rw [isGood_f g]
    unfold alB
    cases e1 : getA old t with
    | none => rfl
    | some o =>
      show (sameR o.2.1 r && o.1.all fun p => decide (seen s.known p.1 = some p.2)) = false
      cases e3 : sameR o.2.1 r with
      | false => rfl
      | true =>
        rw [Bool.true_and]
        cases e6 : o.1.all fun p => decide (seen s.known p.1 = some p.2) with
        | false => rfl
        | true =>
          exact absurd ⟨o, r, e1, er, e3, fun p hp => R.coh.kn _ (seen_mem (of_decide_eq_true (List.all_eq_true.mp e6 p hp)))⟩ g
/-- the rows are those of what is known -/
theorem book_rows {h : House} {beta : Nat → Nat} {old : Old} {s : AgS} (o : AgOk h beta old s) : s.rk.read.map (rowOf h s.rk) = s.book := by
  show (s.book.map fun p => (p.1, p.2.1)).map (rowOf h s.rk) = s.book
  rw [List.map_map]
  refine (List.map_congr_left fun p hp => ?_).trans (List.map_id _)
  obtain ⟨a, b⟩ := o.rows p hp
  show (p.1, (p.2.1, (rcpOf h.recs p.1).getD (.num 0), (seen s.known p.1).getD 0)) = id p
  rw [a, b]
  rfl
/-- no records: all is made -/
theorem made_all {h : House} {beta : Nat → Nat} {s : AgS} (o : AgOk h beta [] s) : s.made = s.book.map (·.1) := by
  rw [o.made]
  refine List.filter_eq_self.mpr fun t _ => ?_
  rw [isGood_f fun ⟨_, _, e, _⟩ => nomatch e]
  rfl
theorem rowTh_shapedW {r : Row} (hg : r.2.1.Wn) (hd : r.2.1.dep ≤ 60) (hn : ∀ p ∈ r.1, Nm p.1) : SeqAt.shaped (rowTh r).py = true := by
  obtain ⟨a1, a2⟩ := Rcp.laysW hg
  obtain ⟨b1, b2⟩ := prs_lay hn
  show ((r.2.1.th.py.canLay0 && (PyData.canLayAll0 (Th.pyL (r.1.map pairTh)) && true)) && decide (max r.2.1.th.py.depth (max (PyData.depthAll (Th.pyL (r.1.map pairTh)) + 1) 0) + 1 ≤ 64)) = true
  rw [a1, b1, decide_eq_true (by omega)]
  rfl
/-- the same rows, laid twice -/
theorem KvR.each' {α : Type} {R : α → V → Prop} : ∀ {l : List (List Nat × α)} {m : List (Key × V)}, KvR R l m → ∀ {i : Nat} {p : List Nat × α}, l[i]? = some p → ∃ q, m[i]? = some q ∧ q.1 = kT (SX.S p.1) ∧ R p.2 q.2
  | [], [], _, _, _, h => by simp at h
  | p :: l, q :: m, ⟨a, b, c⟩, 0, x, h => by
    simp only [List.getElem?_cons_zero, Option.some.injEq] at h
    subst h
    exact ⟨q, rfl, a, b⟩
  | p :: l, q :: m, ⟨a, b, c⟩, i + 1, x, h => by
    simp only [List.getElem?_cons_succ] at h
    obtain ⟨y, h1, h2⟩ := KvR.each' c h
    exact ⟨y, by simpa using h1, h2⟩
  | [], _ :: _, h, _, _, _ => h.elim
  | _ :: _, [], h, _, _, _ => h.elim
theorem rows_same {K : PySem.W.Frag} {H : Hp} {n : Nat} (hn : 64 ≤ n) {l : List (List Nat × Row)} {ks ls : List (Key × V)} (rl : KvR (RowR H) l ks) (rm : KvR (RowR H) l ls) (nd : (l.map (·.1)).Nodup) (sh : ∀ p ∈ l, SeqAt.shaped (rowTh p.2).py = true) :
    ks.length = ls.length ∧ ∀ p ∈ ks, ∃ u, valV ls p.1 = some u ∧ L2.EqG K H (n + 1) p.2 u := by
  refine ⟨by rw [rl.len, rm.len], fun p hp => ?_⟩
  obtain ⟨i, hi, e⟩ := List.mem_iff_getElem.mp hp
  obtain ⟨k, x⟩ := p
  obtain ⟨q, hq, rfl, hx⟩ := rl.at (i := i) (k := k) (v := x) (by rw [List.getElem?_eq_getElem hi, e])
  have hqm := List.mem_of_getElem? hq
  obtain ⟨y, hy, hr⟩ := KvR.each' rm hq
  refine ⟨y.2, ?_, .inr (.inr (.inl ⟨hn, (rowTh q.2).py, (rowTh q.2).py, Data.dp (rowTh_flat _) hx.data, Data.dp (rowTh_flat _) hr.2.data, sh q hqm, sh q hqm, SeqAt.eqv_refl _ (SeqAt.canLay_of_shaped (sh q hqm))⟩))⟩
  have := kvR_own rm nd y (List.mem_of_getElem? hy)
  rw [hr.1] at this
  exact this
/-- the same worths, laid twice -/
theorem nums_same {K : PySem.W.Frag} {H : Hp} {n : Nat} {l : List Pr} (nd : (l.map (·.1)).Nodup) : (numsK l).length = (numsK l).length ∧ ∀ p ∈ numsK l, ∃ u, valV (numsK l) p.1 = some u ∧ L2.EqG K H (n + 1) p.2 u := by
  refine ⟨rfl, fun p hp => ?_⟩
  obtain ⟨q, hq, rfl⟩ := List.mem_map.mp hp
  refine ⟨.int q.2, ?_, EqG.flat rfl⟩
  show valV (numsK l) (kT (SX.S q.1)) = _
  obtain ⟨i, hi⟩ := List.mem_iff_getElem?.mp hq
  rw [val_seen, seen_at nd hi]
  rfl
/-! ### texts alike -/
theorem paired_txs {K : PySem.W.Frag} {H : Hp} {n : Nat} : ∀ l : List (List Nat), Paired (L2.EqG K H (n + 1)) (txs l) (txs l)
  | [] => .nil
  | _ :: l => .cons (EqG.flat rfl) (paired_txs l)
/-! ### the law's judge of what is told -/
open LamX NdefX
theorem op_notIn_seqK {X : Cx} {K : PySem.W.Frag} (h : X.K = K) : OpR X (compareOp .NotIn) (rIn K true) := by
  subst h
  exact op_notIn_seq
theorem OldAt.fr {Tb : List NTab} {B X : Hp} {old : Old} {oD : Addr} (f : FrS Tb [] B X) (o : OldAt B old oD) : OldAt X old oD := by
  obtain ⟨kvs, h1, h2⟩ := o
  exact ⟨kvs, Rd.mp (fun _ e t => f.at e t) h1, h2.imp fun r v q => q.st f.kp fun b xs e => f.lst e⟩
/-- what is told of a build from records -/
def ToldA (H : Hp) (T : Addr) (kn : List Pr) (bk : List (List Nat × Row)) (g : List Nat → Bool) : Prop := ∃ kD rD mL kL kvs, H T = some (.tup [.ref kD, .ref rD, .ref mL, .ref kL]) ∧ H kD = some (.dK (numsK kn)) ∧ H rD = some (.dK kvs) ∧ KvR (RowR H) bk kvs ∧ H mL = some (.lst (txs ((bk.map (·.1)).filter fun t => !g t))) ∧ H kL = some (.lst (txs ((bk.map (·.1)).filter g)))
theorem ToldA.same {H H' : Hp} {T : Addr} {kn : List Pr} {bk : List (List Nat × Row)} {g : List Nat → Bool} (t : ToldA H T kn bk g) (s : Same H H') : ToldA H' T kn bk g := by
  obtain ⟨kD, rD, mL, kL, kvs, h1, h2, h3, h4, h5, h6⟩ := t
  exact ⟨kD, rD, mL, kL, kvs, s _ _ h1, s _ _ h2, s _ _ h3, h4.imp fun r v q => q.st (same_keep s) fun b xs e => s _ _ e, s _ _ h5, s _ _ h6⟩
/-- what the law's own fresh build tells -/
def FrshA (H : Hp) (S : Addr) (kn : List Pr) (bk : List (List Nat × Row)) : Prop := ∃ (L : LA) (kvs : List (Key × V)), S = L.S ∧ H L.S = some (.dK (stK L)) ∧ H L.W = some (.dK (numsK kn)) ∧ H L.Rc = some (.dK kvs) ∧ KvR (RowR H) bk kvs ∧ H L.O = some (.lst (txs (bk.map (·.1))))
theorem FrshA.same {H H' : Hp} {S : Addr} {kn : List Pr} {bk : List (List Nat × Row)} (t : FrshA H S kn bk) (s : Same H H') : FrshA H' S kn bk := by
  obtain ⟨L, kvs, e, h1, h2, h3, h4, h5⟩ := t
  exact ⟨L, kvs, e, s _ _ h1, s _ _ h2, s _ _ h3, h4.imp fun r v q => q.st (same_keep s) fun b xs e => s _ _ e, s _ _ h5⟩
/-- rows of a house -/
structure RowsOk (h : House) (kn : List Pr) (bk : List (List Nat × Row)) : Prop where
  kd : (kn.map (·.1)).Nodup
  bd : (bk.map (·.1)).Nodup
  row : ∀ p ∈ bk, rcpOf h.recs p.1 = some p.2.2.1 ∧ p.2.2.1.Wn ∧ p.2.2.1.dep ≤ 60 ∧ ∀ q ∈ p.2.1, Nm q.1
  few : bk.length ≤ 100000
def spLJudged : Sp := fun vs H Q _ => ∃ (h : House) (old : Old) (hv : V) (T oD S : Addr) (kn : List Pr) (bk : List (List Nat × Row)) (g : List Nat → Bool), vs = [.ref T, hv, .ref oD, .ref S] ∧ HouseAt H h hv ∧ OldAt H old oD ∧ ToldA H T kn bk g ∧ FrshA H S kn bk ∧ RowsOk h kn bk ∧
  (∀ t o, getA old t = some o → o.2.1.Wn ∧ o.2.1.dep ≤ 60) ∧ (∀ p ∈ bk, alB kn old p.1 p.2.2.1 = g p.1) ∧ ∀ H', Same H H' → Q (.bl true) H'
theorem filter_step {g : List Nat → Bool} {l : List (List Nat)} {i : Nat} {t : List Nat} (h : l[i]? = some t) : (l.take (i + 1)).filter g = (l.take i).filter g ++ if g t then [t] else [] := by
  rw [List.take_add_one, h, List.filter_append]
  congr 1
  show [t].filter g = _
  rw [List.filter_cons, List.filter_nil]
theorem txs_at' {l : List (List Nat)} {i : Nat} {x : V} (h : (txs l)[i]? = some x) : ∃ t, l[i]? = some t ∧ x = .str (SX.S t) := by
  have hi : i < l.length := by
    have := (List.getElem?_eq_some_iff.mp h).1
    rwa [txs_len] at this
  rw [txs_get hi] at h
  exact ⟨l[i], List.getElem?_eq_getElem hi, (Option.some.inj h).symm⟩
/-! ### houses changed -/
open LamX NdefX
/-- every recipe is of names ahead of its own -/
structure HouseM (h : House) (m : Nat) : Prop where
  m8 : m ≤ 8
  nd : (h.given.map (·.1) ++ h.recs.map (·.1)).Nodup
  gv : ∀ p ∈ h.given, p.1 ∈ xyz ++ lets m ∧ p.2.natAbs ≤ 1000
  rc : ∀ p ∈ h.recs, ∃ k, k < m ∧ p.1 = [97 + k] ∧ MadeR (xyz ++ lets k) 3 p.2
  all : ∀ u ∈ xyz ++ lets m, u ∈ h.given.map (·.1) ++ h.recs.map (·.1)
theorem names_nm {m : Nat} (h : m ≤ 22) {u : List Nat} (hu : u ∈ xyz ++ lets m) : Nm u := by
  rcases List.mem_append.mp hu with hu | hu
  · have h1 : ∀ u ∈ xyz, 1 ≤ u.length ∧ u.length ≤ 8 ∧ ∀ c ∈ u, 97 ≤ c ∧ c ≤ 122 := by decide
    exact h1 _ hu
  · obtain ⟨j, hj, rfl⟩ := lets_mem hu
    exact nm_let ⟨by omega, by omega⟩
theorem HouseM.g {h : House} {m : Nat} (M : HouseM h m) : HouseG h := by
  have m8 := M.m8
  refine ⟨fun p hp => ?_, fun p hp => ?_, M.nd⟩
  · obtain ⟨k, hk, e, mr⟩ := M.rc p hp
    obtain ⟨a, b, c, d⟩ := mr.ahead (by omega) (S := fun u => u ∈ h.given.map (·.1) ++ h.recs.map (·.1)) (fun u hu => M.all u (by
      rcases List.mem_append.mp hu with hu | hu
      · exact List.mem_append_left _ hu
      · obtain ⟨j, hj, rfl⟩ := lets_mem hu
        exact List.mem_append_right _ (List.mem_map.mpr ⟨j, List.mem_range.mpr (by omega), rfl⟩)))
    rw [e]
    exact ⟨nm_let ⟨by omega, by omega⟩, a, by omega, by omega, d⟩
  · obtain ⟨a, b⟩ := M.gv p hp
    exact ⟨names_nm (by omega) a, Nat.lt_of_le_of_lt b (by decide)⟩
theorem HouseL.each {h : House} {m : Nat} (L : HouseL h m) : ∀ p ∈ h.recs, ∃ k, k < m ∧ p.1 = [97 + k] ∧ MadeR (xyz ++ lets k) 3 p.2 := fun p hp => by
  obtain ⟨k, hk2⟩ := List.mem_iff_getElem?.mp hp
  have hl : h.recs.length = m := by have := congrArg List.length L.rk; rw [List.length_map] at this; rw [this]; unfold lets; rw [List.length_map, List.length_range]
  have hkl : k < m := by rw [← hl]; exact (List.getElem?_eq_some_iff.mp hk2).1
  have e : p.1 = [97 + k] := by
    have h1 : (h.recs.map (·.1))[k]? = some p.1 := by rw [List.getElem?_map, hk2]; rfl
    rw [L.rk] at h1
    unfold lets at h1
    rw [List.getElem?_map, List.getElem?_range hkl] at h1
    exact (Option.some.inj h1).symm
  exact ⟨k, hkl, e, L.rc k p hk2⟩
/-- numbers and recipes exchanged -/
theorem HouseM.of {g : List Pr} {rc : List RcpNm} {m : Nat} (m8 : m ≤ 8) (gk : g.map (·.1) = xyz) (gv : ∀ p ∈ g, p.2.natAbs ≤ 1000) (rk : rc.map (·.1) = lets m) (hr : ∀ p ∈ rc, ∃ k, k < m ∧ p.1 = [97 + k] ∧ MadeR (xyz ++ lets k) 3 p.2) : HouseM ⟨g, rc⟩ m := by
  have hk : g.map (·.1) ++ rc.map (·.1) = xyz ++ lets m := by rw [gk, rk]
  exact ⟨m8, by rw [hk]; exact xyz_lets_nd (by omega), fun p hp => ⟨List.mem_append_left _ (by rw [← gk]; exact List.mem_map.mpr ⟨p, hp, rfl⟩), gv p hp⟩, hr, fun u hu => by rw [hk]; exact hu⟩
def dropR {α : Type} (l : List (List Nat × α)) (t : List Nat) : List (List Nat × α) := l.filter fun p => decide (p.1 ≠ t)
theorem KvR.dropR {α : Type} {R : α → V → Prop} (t : List Nat) : ∀ {l : List (List Nat × α)} {m : List (Key × V)}, KvR R l m → KvR R (dropR l t) (dropK m (kT (SX.S t)))
  | [], [], _ => trivial
  | p :: l, q :: m, ⟨a, b, c⟩ => by
    have ih := KvR.dropR t c
    unfold Mad.dropR dropK at ih ⊢
    rw [List.filter_cons, List.filter_cons]
    by_cases e : p.1 = t
    · rw [if_neg (by simp [e]), if_neg (by rw [a, e]; simp)]
      exact ih
    · have : q.1 ≠ kT (SX.S t) := fun z => e (kS_inj (a.symm.trans z))
      rw [if_pos (decide_eq_true e), if_pos (decide_eq_true this)]
      exact ⟨a, b, ih⟩
  | [], _ :: _, h => h.elim
  | _ :: _, [], h => h.elim
/-- a name with a recipe given instead -/
theorem HouseM.gave {g : List Pr} {rc : List RcpNm} {m : Nat} (M : HouseM ⟨g, rc⟩ m) {t : List Nat} (ht : t ∈ rc.map (·.1)) {v : Int} (hv : v.natAbs ≤ 1000) : HouseM ⟨g ++ [(t, v)], dropR rc t⟩ m := by
  obtain ⟨n1, n2, n3⟩ := List.nodup_append.mp M.nd
  have hin : t ∈ xyz ++ lets m := by
    obtain ⟨p, hp, rfl⟩ := List.mem_map.mp ht
    obtain ⟨k, hk, e, _⟩ := M.rc p hp
    rw [e]
    exact List.mem_append_right _ (List.mem_map.mpr ⟨k, List.mem_range.mpr hk, rfl⟩)
  have sub : ∀ p ∈ dropR rc t, p ∈ rc ∧ p.1 ≠ t := fun p hp => by
    obtain ⟨a, b⟩ := List.mem_filter.mp hp
    exact ⟨a, of_decide_eq_true b⟩
  refine ⟨M.m8, ?_, fun p hp => ?_, fun p hp => M.rc p (sub p hp).1, fun u hu => ?_⟩
  · show ((g ++ [(t, v)]).map (·.1) ++ (dropR rc t).map (·.1)).Nodup
    rw [List.map_append]
    refine List.nodup_append.mpr ⟨List.nodup_append.mpr ⟨n1, List.nodup_cons.mpr ⟨(fun z => nomatch z), List.nodup_nil⟩, fun x hx y hy e => ?_⟩, List.Sublist.nodup (List.Sublist.map _ List.filter_sublist) n2, fun x hx y hy e => ?_⟩
    · rw [List.mem_singleton.mp hy] at e
      exact n3 x hx t ht e
    · obtain ⟨p, hp, rfl⟩ := List.mem_map.mp hy
      rcases List.mem_append.mp hx with hx | hx
      · exact n3 x hx p.1 (List.mem_map.mpr ⟨p, (sub p hp).1, rfl⟩) e
      · rw [List.mem_singleton.mp hx] at e
        exact (sub p hp).2 e.symm
  · rcases List.mem_append.mp hp with hp | hp
    · exact M.gv p hp
    · rw [List.mem_singleton.mp hp]
      exact ⟨hin, hv⟩
  · show u ∈ (g ++ [(t, v)]).map (·.1) ++ (dropR rc t).map (·.1)
    rw [List.map_append]
    rcases List.mem_append.mp (M.all u hu) with h | h
    · exact List.mem_append_left _ (List.mem_append_left _ h)
    · by_cases e : u = t
      · rw [e]
        exact List.mem_append_left _ (List.mem_append_right _ (List.mem_singleton.mpr rfl))
      · obtain ⟨p, hp, rfl⟩ := List.mem_map.mp h
        exact List.mem_append_right _ (List.mem_map.mpr ⟨p, List.mem_filter.mpr ⟨hp, decide_eq_true e⟩, rfl⟩)
/-! ### d == {} -/
def rEqE : R2 := fun x y H Q => ∃ a b ks, x = .ref a ∧ y = .ref b ∧ H a = some (.dK ks) ∧ H b = some (.dK []) ∧ Q (.bl ks.isEmpty) H
theorem op_eqE {X : Cx} (hu : X.A.units < cLine) : OpR X (compareOp .Eq) rEqE := by
  intro pins s σ H x y v u Q I rx ry h
  obtain ⟨a, b, ks, rfl, rfl, ea, eb, q⟩ := h
  obtain rfl : v = Value.ref a := rx
  obtain rfl : u = Value.ref b := ry
  obtain ⟨_, ya, va, ra, da⟩ := (show ObjOk X.prog X.w H s.heap a (.dK ks) from I.hok a _ ea)
  obtain ⟨_, yb, vb, rb, db⟩ := (show ObjOk X.prog X.w H s.heap b (.dK []) from I.hok b _ eb)
  have la : ks.length = va.length := ra.length
  have lb : 0 = vb.length := rb.length
  refine PySem.W.keq_eq (knd := mixKind X.prog X.w) (r := true) ya yb da db hu (fun e => ?_) (fin_bl I q ?_)
  · cases va with
    | nil => exact .nil
    | cons _ _ => rw [← lb] at e; cases e
  · rw [← la, ← lb]
    cases ks with
    | nil => rfl
    | cons _ _ => rfl
/-- a row that its recipe comes to -/
structure TrueRow (p : List Nat × Row) : Prop where
  tr : TrueRec p.2.2.1 p.2.1 p.2.2.2
  nm : ∀ q ∈ p.2.1, Nm q.1
  gd : p.2.2.1.Good
  dp : p.2.2.1.dep ≤ 5
theorem getA_mem {α : Type} {l : List (List Nat × α)} {t : List Nat} {o : α} (h : getA l t = some o) : (t, o) ∈ l := by
  unfold getA at h
  cases e5 : l.find? fun p => decide (p.1 = t) with
  | none => rw [e5] at h; cases h
  | some p5 =>
    rw [e5] at h
    have h5 : p5.1 = t := by
      have := List.find?_some e5
      exact of_decide_eq_true this
    have h6 : p5.2 = o := Option.some.inj h
    have := List.mem_of_find?_eq_some e5
    rw [← h5, ← h6]
    exact this
theorem OldOk.of_true {h : House} {bk : Old} (hr : ∀ p ∈ bk, TrueRow p) : OldOk h bk := fun t o r e1 e2 e3 => by
  have T := hr _ (getA_mem e1)
  have : o.2.1 = r := eqv_rcp e3
  exact ⟨this ▸ T.tr, T.nm⟩
/-- the rows of a fresh build -/
theorem AgOk.rows_true {h : House} {beta : Nat → Nat} {old : Old} {s : AgS} (o : AgOk h beta old s) (hg : ∀ p ∈ h.recs, p.2.Good ∧ p.2.dep ≤ 5) : ∀ p ∈ s.book, TrueRow p := fun p hp => by
  obtain ⟨a, b⟩ := o.rows p hp
  have hq : (p.1, p.2.1) ∈ s.rk.read := List.mem_map.mpr ⟨p, hp, rfl⟩
  have hr := o.coh.rd _ hq
  obtain ⟨v, hv, T⟩ := Rds.true hr a
  have : v = p.2.2.2 := hv.det (o.kn b)
  obtain ⟨g, d⟩ := hg _ (rcpOf_mem a)
  exact ⟨this ▸ T, fun q hq' => o.rk.rds _ hq q hq', g, d⟩
theorem huE {k : Nat} {A : Around} (r : Room k A) : A.units < cLine := by have := r.un; omega
/-! ### fresh builds and builds from records of the laws' houses -/
open LamX NdefX
def nmsH (h : House) : List (List Nat) := h.given.map (·.1) ++ h.recs.map (·.1)
def rowsH (h : House) (s : RkS) : List (List Nat × Row) := s.read.map (rowOf h s)
def bet0 : Nat → Nat := fun _ => 0
theorem HouseG.nm {h : House} (G : HouseG h) {u : List Nat} (hu : u ∈ nmsH h) : Nm u := by
  rcases List.mem_append.mp hu with hu | hu
  · obtain ⟨p, hp, rfl⟩ := List.mem_map.mp hu
    exact (G.gvn p hp).1
  · obtain ⟨p, hp, rfl⟩ := List.mem_map.mp hu
    exact (G.rcp p hp).1
structure Done (h : House) (n : Nat) (ts : List (List Nat)) (s : RkS) : Prop where
  e : lkAll h n emptyS ts = .ok 0 s
  rest : Rest h bet0 s
  got : ∀ t ∈ ts, t ∈ s.known.map (·.1)
theorem done_of {h : House} (G : HouseG h) {n : Nat} (hn : h.recs.length + 1 ≤ n) {ts : List (List Nat)} (hts : ∀ t ∈ ts, t ∈ nmsH h) : ∃ s, Done h n ts s := by
  have nms : ∀ t ∈ ts, Nm t := fun t ht => G.nm (hts t ht)
  obtain ⟨s, e⟩ := lkAll_total (G.ok bet0) hn (Rest.empty h bet0) (ts := ts) fun t ht => ⟨nms t ht, G.has (hts t ht)⟩
  obtain ⟨r, _, g, _⟩ := lkAll_rest (G.ok bet0) (Rest.empty h bet0) nms e
  exact ⟨s, e, r, g⟩
/-- what a row of a build is -/
theorem row_of {h : House} (G : HouseG h) {s : RkS} (R : Rest h bet0 s) : ∀ p ∈ rowsH h s, TrueRow p ∧ rcpOf h.recs p.1 = some p.2.2.1 ∧ Rds h p.1 p.2.1 ∧ Val h p.1 p.2.2.2 ∧ seen s.known p.1 = some p.2.2.2 ∧ p.1 ∈ s.read.map (·.1) := fun p hp => by
  obtain ⟨q, hq, rfl⟩ := List.mem_map.mp hp
  have hr := R.coh.rd q hq
  obtain ⟨v, e, hv⟩ := known_val R (R.ok.kn q.1 (List.mem_map.mpr ⟨q, hq, rfl⟩))
  obtain ⟨r, er⟩ : ∃ r, rcpOf h.recs q.1 = some r := ⟨_, hr.2.choose_spec.choose_spec.choose_spec.1⟩
  obtain ⟨v', hv', T⟩ := Rds.true hr er
  have ev : v' = v := hv'.det hv
  have e1 : (rowOf h s q).2.2.1 = r := by show (rcpOf h.recs q.1).getD _ = r; rw [er]; rfl
  have e2 : (rowOf h s q).2.2.2 = v := by show (seen s.known q.1).getD _ = v; rw [e]; rfl
  obtain ⟨_, gd, dp, _⟩ := G.rcp _ (rcpOf_mem er)
  exact ⟨⟨by rw [e1, e2, ← ev]; exact T, fun x hx => R.ok.rds q hq x hx, by rw [e1]; exact gd, by rw [e1]; exact dp⟩, by rw [e1]; exact er, hr, by rw [e2]; exact hv, by rw [e2]; exact e, List.mem_map.mpr ⟨q, hq, rfl⟩⟩
theorem rowsH_keys (h : House) (s : RkS) : (rowsH h s).map (·.1) = s.read.map (·.1) := by
  show (s.read.map _).map _ = _
  rw [List.map_map]
  rfl
theorem rows_ok {h : House} (G : HouseG h) {s : RkS} (R : Rest h bet0 s) (few : h.recs.length ≤ 1000) : RowsOk h s.known (rowsH h s) := by
  refine ⟨R.ok.kd, by rw [rowsH_keys]; exact (List.nodup_append.mp R.ok.nd).2.1, fun p hp => ?_, ?_⟩
  · obtain ⟨T, a, _⟩ := row_of G R p hp
    exact ⟨a, good_wn T.gd, Nat.le_trans T.dp (by decide), T.nm⟩
  · have h1 := R.ok.len
    have h2 : (rowsH h s).length = s.read.length := List.length_map _
    omega
/-- judged alike -/
theorem rows_judged {h : House} (G : HouseG h) {s : RkS} (R : Rest h bet0 s) {old : Old} (hO : OldOk h old) : ∀ p ∈ rowsH h s, alB s.known old p.1 p.2.2.1 = isGood h old p.1 := fun p hp => by
  obtain ⟨_, a, _, _, _, m⟩ := row_of G R p hp
  exact alB_good R hO m a
theorem KvR.mapB {Rr : Row × Addr → V → Prop} {R' : Row → V → Prop} (hi : ∀ r v, Rr r v → R' r.1 v) : ∀ {l : Bl} {m : List (Key × V)}, KvR Rr l m → KvR R' (l.map fun p => (p.1, p.2.1)) m
  | [], [], _ => trivial
  | p :: l, q :: m, ⟨a, b, c⟩ => ⟨a, hi _ _ b, KvR.mapB hi c⟩
  | [], _ :: _, h => h.elim
  | _ :: _, [], h => h.elim
section
variable {K : PySem.W.Frag} {Tb : List NTab} {n : Nat} {h : House} {X : Hp} {hv : V} {wv : Addr} {ts : List (List Nat)} {Q : VK} {E : XK}
theorem fresh_told {L : LA} {s' : AgS} {s : RkS} {H' : Hp} (a : LAt Tb L s' [] H') (o : AgOk h bet0 [] s') (es : s'.rk = s) : FrshA H' L.S s.known (rowsH h s) := by
  subst es
  obtain ⟨kvs, bl, h3, h4, h5, h6⟩ := a.bk
  refine ⟨L, kvs, rfl, a.st, a.wn, h3, ?_, ?_⟩
  · have eb : rowsH h s'.rk = s'.book := book_rows o
    rw [eb, ← h4]
    exact KvR.mapB (fun r v ⟨T, rv, xs, e, g1, g2, g3, g4, g5, g6⟩ => ⟨T, rv, _, xs, e, g1, g2, g5, g6⟩) h6
  · rw [rowsH_keys]
    have : s'.made = s'.rk.read.map (·.1) := by
      rw [made_all o]
      show s'.book.map (·.1) = (s'.book.map fun p => (p.1, p.2.1)).map (·.1)
      rw [List.map_map]
      rfl
    rw [← this]
    exact a.or_
theorem fresh_call (G : HouseG h) (few : h.given.length + h.recs.length ≤ 1000) (hn : h.recs.length + 1 ≤ n) (ha : HouseAt X h hv) (hW : SqL K X wv (txs ts)) (hts : ∀ t ∈ ts, t ∈ nmsH h)
    (q : ∀ (s : RkS) (S : Addr) (X' : Hp), Done h n ts s → X S = none → FrS Tb [] X X' → FrshA X' S s.known (rowsH h s) → Q (.ref S) X') : spLFresh K Tb 5 n [hv, .ref wv] X Q E := by
  obtain ⟨s, D⟩ := done_of G hn hts
  refine ⟨h, bet0, hv, wv, ts, 0, s, rfl, G.ok bet0, ha, by omega, hn, hW, fun t ht => G.nm (hts t ht), D.e, fun L s' H' lB nS f a o es _ => ?_⟩
  exact q s L.S H' D nS f (fresh_told a o es)
/-- what is told of a build from records: its lists are new -/
def ToldN (X X' : Hp) (T : Addr) (kn : List Pr) (bk : List (List Nat × Row)) (g : List Nat → Bool) : Prop := ∃ kD rD mL kL kvs bl, X' T = some (.tup [.ref kD, .ref rD, .ref mL, .ref kL]) ∧ X' kD = some (.dK (numsK kn)) ∧ X' rD = some (.dK kvs) ∧ bl.map (fun p => (p.1, p.2.1)) = bk ∧ (bl.map fun p => p.2.2).Nodup ∧ KvR (RowN X X' mL kL) bl kvs ∧
  X' mL = some (.lst (txs ((bk.map (·.1)).filter fun t => !g t))) ∧ X' kL = some (.lst (txs ((bk.map (·.1)).filter g))) ∧ X kD = none ∧ X rD = none ∧ X mL = none ∧ X kL = none ∧ kD ≠ rD ∧ mL ≠ kL
theorem ToldN.a {X X' : Hp} {T : Addr} {kn : List Pr} {bk : List (List Nat × Row)} {g : List Nat → Bool} (t : ToldN X X' T kn bk g) : ToldA X' T kn bk g := by
  obtain ⟨kD, rD, mL, kL, kvs, bl, h1, h2, h3, h4, h5, h6, h7, h8, _⟩ := t
  exact ⟨kD, rD, mL, kL, kvs, h1, h2, h3, h4 ▸ KvR.mapB (fun r v ⟨T, rv, xs, e, g1, g2, g3, g4, g5, g6, g7⟩ => ⟨T, rv, _, xs, e, g1, g2, g6, g7⟩) h6, h7, h8⟩
theorem again_told {s : RkS} {X X' : Hp} {T kD rD mL kL : Addr} {kvs : List (Key × V)} {bl : Bl} {g : List Nat → Bool} (nk : X kD = none) (nr : X rD = none) (nm : X mL = none) (nl : X kL = none) (ne1 : kD ≠ rD) (ne2 : mL ≠ kL) (eT : X' T = some (.tup [.ref kD, .ref rD, .ref mL, .ref kL])) (ek : X' kD = some (.dK (numsK s.known))) (er : X' rD = some (.dK kvs)) (hb : bl.map (fun p => (p.1, p.2.1)) = s.read.map (rowOf h s)) (hd : (bl.map fun p => p.2.2).Nodup) (hk : KvR (RowN X X' mL kL) bl kvs)
    (em : X' mL = some (.lst (txs ((s.read.map (·.1)).filter fun t => !g t)))) (el : X' kL = some (.lst (txs ((s.read.map (·.1)).filter g)))) : ToldN X X' T s.known (rowsH h s) g :=
  ⟨kD, rD, mL, kL, kvs, bl, eT, ek, er, hb, hd, hk, by rw [rowsH_keys]; exact em, by rw [rowsH_keys]; exact el, nk, nr, nm, nl, ne1, ne2⟩
end
/-! ### what stays, what is good -/
open LamX NdefX
theorem nx_post {t : TS} {D : Ends} {σ : L2.St} {H : Hp} (Post : L2.St → Hp → Prop) (h1 : ∀ nx : L2.St → Hp → Prop, (∀ σ X, Post σ X → nx σ X) → t { D with nx := nx } σ H) (h2 : ∀ σ X, Post σ X → D.nx σ X) : t D σ H := h1 D.nx h2
theorem ToldA.fr {Tb : List NTab} {X X' : Hp} {T : Addr} {kn : List Pr} {bk : List (List Nat × Row)} {g : List Nat → Bool} (f : FrS Tb [] X X') (t : ToldA X T kn bk g) : ToldA X' T kn bk g := by
  obtain ⟨kD, rD, mL, kL, kvs, h1, h2, h3, h4, h5, h6⟩ := t
  exact ⟨kD, rD, mL, kL, kvs, f.tup h1, f.dk h2, f.dk h3, h4.imp fun r v q => q.st f.kp fun b xs e => f.lst e, f.lst h5, f.lst h6⟩
theorem FrshA.fr {Tb : List NTab} {X X' : Hp} {S : Addr} {kn : List Pr} {bk : List (List Nat × Row)} (f : FrS Tb [] X X') (t : FrshA X S kn bk) : FrshA X' S kn bk := by
  obtain ⟨L, kvs, e, h1, h2, h3, h4, h5⟩ := t
  exact ⟨L, kvs, e, f.dk h1, f.dk h2, f.dk h3, h4.imp fun r v q => q.st f.kp fun b xs e => f.lst e, f.lst h5⟩
/-- records, not locked -/
def OldU (X : Hp) (bk : Old) (oD : Addr) : Prop := ∃ okv, X oD = some (.dK okv) ∧ KvR (RowR X) bk okv
theorem OldU.fr {Tb : List NTab} {X X' : Hp} {bk : Old} {oD : Addr} (f : FrS Tb [] X X') (o : OldU X bk oD) : OldU X' bk oD := by
  obtain ⟨kvs, h1, h2⟩ := o
  exact ⟨kvs, f.dk h1, h2.imp fun r v q => q.st f.kp fun b xs e => f.lst e⟩
theorem OldU.at {X : Hp} {bk : Old} {oD : Addr} (o : OldU X bk oD) : OldAt X bk oD := by
  obtain ⟨kvs, h1, h2⟩ := o
  exact ⟨kvs, .inl h1, h2⟩
theorem FrshA.old {X : Hp} {S : Addr} {kn : List Pr} {bk : List (List Nat × Row)} (t : FrshA X S kn bk) : ∃ oD, OldU X bk oD ∧ DGet X S (.str "records") (some (.ref oD)) := by
  obtain ⟨L, kvs, rfl, h1, h2, h3, h4, h5⟩ := t
  exact ⟨L.Rc, ⟨kvs, h3, h4⟩, (stK_get L).2.1 ▸ DGet.k (k := kT "records") h1⟩
/-- rows that their recipes come to, each name once -/
structure TrueOld (bk : Old) : Prop where
  row : ∀ p ∈ bk, TrueRow p
  nd : (bk.map (·.1)).Nodup
theorem TrueOld.ok {bk : Old} (t : TrueOld bk) (h : House) : OldOk h bk := OldOk.of_true t.row
theorem TrueOld.wf {bk : Old} (t : TrueOld bk) : ∀ u o, getA bk u = some o → o.2.1.Wn ∧ o.2.1.dep ≤ 60 := fun u o e => by
  have := t.row _ (getA_mem e)
  exact ⟨good_wn this.gd, Nat.le_trans this.dp (by decide)⟩
theorem TrueOld.sh {bk : Old} (t : TrueOld bk) : ∀ p ∈ bk, SeqAt.shaped (rowTh p.2).py = true := fun p hp => by
  have := t.row p hp
  exact rowTh_shapedW (good_wn this.gd) (Nat.le_trans this.dp (by decide)) this.nm
theorem Done.old {h : House} (G : HouseG h) {n : Nat} {ts : List (List Nat)} {s : RkS} (D : Done h n ts s) : TrueOld (rowsH h s) := ⟨fun p hp => (row_of G D.rest p hp).1, by rw [rowsH_keys]; exact (List.nodup_append.mp D.rest.ok.nd).2.1⟩
theorem Done.det {h : House} {n : Nat} {ts : List (List Nat)} {s s' : RkS} (D : Done h n ts s) (D' : Done h n ts s') : s' = s := by
  have := D'.e
  rw [D.e] at this
  exact (OutR.ok.inj this).2.symm
theorem getA_nd {α : Type} {l : List (List Nat × α)} (nd : (l.map (·.1)).Nodup) {p : List Nat × α} (h : p ∈ l) : getA l p.1 = some p.2 := by
  cases e : getA l p.1 with
  | none =>
    unfold getA at e
    rw [Option.map_eq_none_iff, List.find?_eq_none] at e
    exact absurd (decide_eq_true rfl) (e p h)
  | some o =>
    have hm := getA_mem e
    obtain ⟨i, hi, e1⟩ := List.mem_iff_getElem.mp h
    obtain ⟨j, hj, e2⟩ := List.mem_iff_getElem.mp hm
    have hij : i = j := by
      have a1 : (l.map (·.1))[i]'(by rw [List.length_map]; exact hi) = p.1 := by rw [List.getElem_map, e1]
      have a2 : (l.map (·.1))[j]'(by rw [List.length_map]; exact hj) = p.1 := by rw [List.getElem_map, e2]
      exact (List.getElem_inj nd).mp (a1.trans a2.symm)
    subst hij
    rw [e1] at e2
    rw [e2]
theorem sameR_refl {r : Rcp} (h : r.Good) : sameR r r = true := by
  unfold sameR
  exact SeqAt.eqv_refl _ (Rcp.laysW (good_wn h)).1
/-- its own records are all good -/
theorem good_self {h : House} (G : HouseG h) {s : RkS} (R : Rest h bet0 s) : ∀ t ∈ (rowsH h s).map (·.1), isGood h (rowsH h s) t = true := fun t ht => by
  obtain ⟨p, hp, rfl⟩ := List.mem_map.mp ht
  obtain ⟨T, a, hr, _⟩ := row_of G R p hp
  have nd : ((rowsH h s).map (·.1)).Nodup := by rw [rowsH_keys]; exact (List.nodup_append.mp R.ok.nd).2.1
  exact isGood_t ⟨p.2, p.2.2.1, getA_nd nd hp, a, sameR_refl T.gd, hr.val⟩
theorem made_none {h : House} (G : HouseG h) {s : RkS} (R : Rest h bet0 s) : (((rowsH h s).map (·.1)).filter fun t => !isGood h (rowsH h s) t) = [] := by
  refine List.filter_eq_nil_iff.mpr fun t ht => ?_
  rw [good_self G R t ht]
  decide
theorem rowsH_len {h : House} {s : RkS} (R : Rest h bet0 s) : (rowsH h s).length ≤ h.recs.length := by
  have h1 := R.ok.len
  have h2 : (rowsH h s).length = s.read.length := List.length_map _
  omega
theorem reads_len {h : House} {s : RkS} (R : Rest h bet0 s) : ∀ p ∈ rowsH h s, p.2.1.length ≤ h.given.length + h.recs.length := fun p hp => by
  obtain ⟨q, hq, rfl⟩ := List.mem_map.mp hp
  have h1 := sub_lenR (R.coh.rd q hq).nd fun u hu => R.ord.kno q hq u hu
  have h2 := R.ok.klen
  rw [List.length_map, List.length_map] at h1
  show q.2.length ≤ _
  omega
/-- a row whose list is none of the bad ones -/
def RowS (Bad : Addr → Prop) (H : Hp) (r : Row) (v : V) : Prop := ∃ T rv L xs, v = .ref T ∧ H T = some (.tup [rv, .ref L, .int r.2.2]) ∧ Rec H r.2.1 rv ∧ ¬ Bad L ∧ H L = some (.lst xs) ∧ Prs H r.1 xs
theorem RowS.mp {Bad : Addr → Prop} {H H' : Hp} (k : Keep H H') (l : ∀ b xs, ¬ Bad b → H b = some (.lst xs) → H' b = some (.lst xs)) {r : Row} {v : V} (h : RowS Bad H r v) : RowS Bad H' r v := by
  obtain ⟨T, rv, L, xs, e, h1, h2, h3, h4, h5⟩ := h
  exact ⟨T, rv, L, xs, e, k _ _ h1, h2.keep k, h3, l _ _ h3 h4, h5.keep k⟩
theorem RowS.r {Bad : Addr → Prop} {H : Hp} {r : Row} {v : V} (h : RowS Bad H r v) : RowR H r v := by
  obtain ⟨T, rv, L, xs, e, h1, h2, h3, h4, h5⟩ := h
  exact ⟨T, rv, L, xs, e, h1, h2, h4, h5⟩
theorem RowR.s {Bad : Addr → Prop} {H : Hp} (hb : ∀ b xs, H b = some (.lst xs) → ¬ Bad b) {r : Row} {v : V} (h : RowR H r v) : RowS Bad H r v := by
  obtain ⟨T, rv, L, xs, e, h1, h2, h4, h5⟩ := h
  exact ⟨T, rv, L, xs, e, h1, h2, hb _ _ h4, h4, h5⟩
theorem put_next {l : Old} {i : Nat} {p : List Nat × Row} (nd : (l.map (·.1)).Nodup) (h : l[i]? = some p) : putA (l.take i) p.1 p.2 = l.take (i + 1) := by
  rw [putA_new _ (by
    rw [List.map_take]
    exact nd_take nd (by rw [List.getElem?_map, h]; rfl)), List.take_add_one, h]
  rfl
/-- records whose rows' lists are none of the bad ones -/
def OldS (Bad : Addr → Prop) (X : Hp) (bk : Old) (oD : Addr) : Prop := ∃ okv, X oD = some (.dK okv) ∧ KvR (RowS Bad X) bk okv
theorem OldS.u {Bad : Addr → Prop} {X : Hp} {bk : Old} {oD : Addr} (o : OldS Bad X bk oD) : OldU X bk oD := by
  obtain ⟨kvs, h1, h2⟩ := o
  exact ⟨kvs, h1, h2.imp fun r v q => q.r⟩
theorem OldS.fr {Bad : Addr → Prop} {Tb : List NTab} {X X' : Hp} {bk : Old} {oD : Addr} (f : FrS Tb [] X X') (o : OldS Bad X bk oD) : OldS Bad X' bk oD := by
  obtain ⟨kvs, h1, h2⟩ := o
  exact ⟨kvs, f.dk h1, h2.imp fun r v q => q.mp f.kp fun b xs _ e => f.lst e⟩
theorem OldS.less {Bad Bad' : Addr → Prop} {X : Hp} {bk : Old} {oD : Addr} (hb : ∀ b, Bad' b → Bad b) (o : OldS Bad X bk oD) : OldS Bad' X bk oD := by
  obtain ⟨kvs, h1, h2⟩ := o
  exact ⟨kvs, h1, h2.imp fun r v ⟨T, rv, L, xs, e, g1, g2, g3, g4, g5⟩ => ⟨T, rv, L, xs, e, g1, g2, fun z => g3 (hb _ z), g4, g5⟩⟩
/-- a bad list changed -/
theorem OldS.updL {Bad : Addr → Prop} {X : Hp} {bk : Old} {oD L : Addr} {xs ys : List V} (hL : Bad L) (e : X L = some (.lst xs)) (o : OldS Bad X bk oD) : OldS Bad (upd X L (.lst ys)) bk oD := by
  obtain ⟨kvs, h1, h2⟩ := o
  exact ⟨kvs, by rw [upd_ne (fun z => by rw [z, e] at h1; cases h1)]; exact h1, h2.imp fun r v q => q.mp (keep_lst e) fun b zs hn e2 => by rw [upd_ne (fun z => hn (by rw [z]; exact hL))]; exact e2⟩
theorem fresh_old {Tb : List NTab} {h : House} {L : LA} {s' : AgS} {s : RkS} {H' : Hp} (a : LAt Tb L s' [] H') (o : AgOk h bet0 [] s') (es : s'.rk = s) : OldS (fun b => L.B b ≠ none) H' (rowsH h s) L.Rc ∧ DGet H' L.S (.str "records") (some (.ref L.Rc)) := by
  subst es
  obtain ⟨kvs, bl, h3, h4, h5, h6⟩ := a.bk
  refine ⟨⟨kvs, h3, ?_⟩, (stK_get L).2.1 ▸ DGet.k (k := kT "records") a.st⟩
  have eb : rowsH h s'.rk = s'.book := book_rows o
  rw [eb, ← h4]
  exact KvR.mapB (fun r v ⟨T, rv, xs, e, g1, g2, g3, g4, g5, g6⟩ => ⟨T, rv, _, xs, e, g1, g2, fun z => z g3, g5, g6⟩) h6
/-- all recipes' names wished for: all have records -/
theorem Done.allIn {h : House} (G : HouseG h) {n : Nat} {ts : List (List Nat)} {s : RkS} (D : Done h n ts s) {u : List Nat} (hu : u ∈ ts) (hr : u ∈ h.recs.map (·.1)) : u ∈ (rowsH h s).map (·.1) := by
  rw [rowsH_keys]
  refine (D.rest.coh.kr u (D.got u hu)).resolve_left fun z => ?_
  exact (List.nodup_append.mp G.nd).2.2 u z u hr rfl
theorem dict_kp {X : Hp} {a : Addr} {k : List (Key × V)} (o : HO) (e : X a = some (.dK k)) : Keep X (upd X a o) ∧ ∀ b xs, X b = some (.lst xs) → upd X a o b = some (.lst xs) :=
  ⟨fun b ys e2 => by rw [upd_ne (fun z => by rw [z, e] at e2; cases e2)]; exact e2, fun b xs e2 => by rw [upd_ne (fun z => by rw [z, e] at e2; cases e2)]; exact e2⟩
theorem TrueOld.put {bk : Old} {t : List Nat} {o : Row} (h : TrueOld bk) (ho : TrueRow (t, o)) : TrueOld (putA bk t o) := by
  refine ⟨fun p hp => ?_, ?_⟩
  · rcases mem_putA hp with rfl | hp
    · exact ho
    · exact h.row p hp
  · rw [putA_keys]
    split
    · exact h.nd
    · rename_i c
      exact List.nodup_append.mpr ⟨h.nd, List.nodup_cons.mpr ⟨(fun z => nomatch z), List.nodup_nil⟩, fun x hx y hy e => c (by rw [List.mem_singleton.mp hy] at e; exact e ▸ hx)⟩
theorem putA_le {α : Type} (l : List (List Nat × α)) (t : List Nat) (o : α) : (putA l t o).length ≤ l.length + 1 := by
  have := congrArg List.length (putA_keys l t o)
  rw [List.length_map] at this
  rw [this]
  split
  · rw [List.length_map]; omega
  · rw [List.length_append, List.length_map]; exact Nat.le_refl _
theorem getA_put {α : Type} {l : List (List Nat × α)} {t u : List Nat} {v : α} : getA (putA l t v) u = if u = t then some v else getA l u := by
  unfold getA
  have h1 : ∀ (l : List (List Nat × α)), ((l.map fun p : List Nat × α => if p.1 = t then (p.1, v) else p).find? fun p : List Nat × α => decide (p.1 = u)).map (fun p : List Nat × α => p.2) = if u = t ∧ t ∈ l.map (·.1) then some v else (l.find? fun p => decide (p.1 = u)).map (fun p : List Nat × α => p.2) := by
    intro l
    induction l with
    | nil =>
      rw [if_neg (fun z => nomatch z.2)]
      rfl
    | cons p l ih =>
      rw [List.map_cons, List.find?_cons, List.find?_cons]
      by_cases c : p.1 = t
      · rw [if_pos c]
        by_cases d : p.1 = u
        · have ut : u = t := d.symm.trans c
          show Option.map (fun p : List Nat × α => p.2) (match decide (p.1 = u) with | true => some (p.1, v) | false => _) = _
          rw [decide_eq_true d, if_pos ⟨ut, by rw [← c]; exact List.mem_cons_self⟩]
          rfl
        · show Option.map (fun p : List Nat × α => p.2) (match decide (p.1 = u) with | true => some (p.1, v) | false => List.find? (fun p : List Nat × α => decide (p.1 = u)) (l.map fun p : List Nat × α => if p.1 = t then (p.1, v) else p)) = _
          rw [decide_eq_false d]
          have nut : u ≠ t := fun e => d (c.trans e.symm)
          show (List.find? (fun p : List Nat × α => decide (p.1 = u)) (l.map fun p : List Nat × α => if p.1 = t then (p.1, v) else p)).map (·.2) = _
          rw [ih, if_neg (fun z => nut z.1), if_neg (fun z => nut z.1)]
      · rw [if_neg c]
        by_cases d : p.1 = u
        · have nut : u ≠ t := fun e => c (d.trans e)
          rw [decide_eq_true d, if_neg (fun z => nut z.1)]
        · rw [decide_eq_false d]
          show (List.find? (fun p : List Nat × α => decide (p.1 = u)) (l.map fun p : List Nat × α => if p.1 = t then (p.1, v) else p)).map (·.2) = if u = t ∧ t ∈ (p :: l).map (·.1) then some v else (List.find? (fun p => decide (p.1 = u)) l).map (·.2)
          rw [ih]
          by_cases e : u = t ∧ t ∈ l.map (·.1)
          · rw [if_pos e, if_pos ⟨e.1, List.mem_cons_of_mem _ e.2⟩]
          · rw [if_neg e, if_neg fun z => e ⟨z.1, (List.mem_cons.mp z.2).resolve_left fun y => c y.symm⟩]
  by_cases c : t ∈ l.map (·.1)
  · unfold putA
    rw [if_pos (by
      obtain ⟨p, hp, e⟩ := List.mem_map.mp c
      exact List.any_eq_true.mpr ⟨p, hp, decide_eq_true e⟩), h1]
    by_cases d : u = t
    · rw [if_pos ⟨d, c⟩, if_pos d]
    · rw [if_neg (fun z => d z.1), if_neg d]
  · rw [putA_new v c, List.find?_append]
    by_cases d : u = t
    · have : l.find? (fun p => decide (p.1 = u)) = none := List.find?_eq_none.mpr fun p hp e => c (List.mem_map.mpr ⟨p, hp, (of_decide_eq_true e).trans d⟩)
      rw [this, if_pos d, d]
      simp
    · rw [if_neg d]
      have : [(t, v)].find? (fun p => decide (p.1 = u)) = none := List.find?_eq_none.mpr fun p hp e => d (by rw [List.mem_singleton.mp hp] at e; exact (of_decide_eq_true e).symm)
      rw [this, Option.or_none]
/-! ### houses of any recipes with fine names: their rows -/
open LamX NdefX
/-- a row that its recipe comes to, with numbers of any size -/
structure TrueRowW (p : List Nat × Row) : Prop where
  tr : TrueRec p.2.2.1 p.2.1 p.2.2.2
  nm : ∀ q ∈ p.2.1, Nm q.1
  wn : p.2.2.1.Wn
  dp : p.2.2.1.dep ≤ 60
theorem TrueRow.w {p : List Nat × Row} (t : TrueRow p) : TrueRowW p := ⟨t.tr, t.nm, good_wn t.gd, Nat.le_trans t.dp (by decide)⟩
structure TrueOldW (bk : Old) : Prop where
  row : ∀ p ∈ bk, TrueRowW p
  nd : (bk.map (·.1)).Nodup
theorem OldOk.of_trueW {h : House} {old : Old} (t : ∀ p ∈ old, TrueRowW p) : OldOk h old := fun u o r e er es => by
  have hm := t _ (getA_mem e)
  have : o.2.1 = r := eqv_rcp es
  rw [← this]
  exact ⟨hm.tr, hm.nm⟩
theorem TrueOldW.ok {bk : Old} (t : TrueOldW bk) (h : House) : OldOk h bk := OldOk.of_trueW t.row
theorem TrueOldW.wf {bk : Old} (t : TrueOldW bk) : ∀ u o, getA bk u = some o → o.2.1.Wn ∧ o.2.1.dep ≤ 60 := fun u o e => ⟨(t.row _ (getA_mem e)).wn, (t.row _ (getA_mem e)).dp⟩
theorem TrueOldW.sh {bk : Old} (t : TrueOldW bk) : ∀ p ∈ bk, SeqAt.shaped (rowTh p.2).py = true := fun p hp => rowTh_shapedW (t.row p hp).wn (t.row p hp).dp (t.row p hp).nm
theorem TrueOldW.mer {bk bk' : Old} (t : TrueOldW bk) (t' : TrueOldW bk') : TrueOldW (merA bk bk') := ⟨fun p hp => (mem_merA hp).elim (t.row p) (t'.row p), merA_nd t.nd⟩
/-- a house whose reckoning is told -/
structure HouseX (dm : Nat) (h : House) : Prop where
  ok : HouseOk dm h bet0
  d60 : dm ≤ 60
  nd : (h.given.map (·.1) ++ h.recs.map (·.1)).Nodup
  few : h.given.length + h.recs.length ≤ 1000
theorem HouseOk.mono {dm dm' : Nat} {h : House} {beta beta' : Nat → Nat} (H : HouseOk dm h beta) (le : dm ≤ dm') : HouseOk dm' h beta' := ⟨⟨fun p hp => ⟨(H.n.rcp p hp).1, (H.n.rcp p hp).2.1, Nat.le_trans (H.n.rcp p hp).2.2 le⟩, H.n.gvn⟩, H.fit⟩
theorem HouseX.nm {dm : Nat} {h : House} (G : HouseX dm h) {u : List Nat} (hu : u ∈ nmsH h) : Nm u := by
  rcases List.mem_append.mp hu with hu | hu
  · obtain ⟨p, hp, rfl⟩ := List.mem_map.mp hu
    exact G.ok.n.gvn p hp
  · obtain ⟨p, hp, rfl⟩ := List.mem_map.mp hu
    exact (G.ok.n.rcp p hp).1
theorem row_ofX {dm : Nat} {h : House} (G : HouseX dm h) {s : RkS} (R : Rest h bet0 s) : ∀ p ∈ rowsH h s, TrueRowW p ∧ rcpOf h.recs p.1 = some p.2.2.1 ∧ Rds h p.1 p.2.1 ∧ Val h p.1 p.2.2.2 ∧ seen s.known p.1 = some p.2.2.2 ∧ p.1 ∈ s.read.map (·.1) := fun p hp => by
  obtain ⟨q, hq, rfl⟩ := List.mem_map.mp hp
  have hr := R.coh.rd q hq
  obtain ⟨v, e, hv⟩ := known_val R (R.ok.kn q.1 (List.mem_map.mpr ⟨q, hq, rfl⟩))
  obtain ⟨r, er⟩ : ∃ r, rcpOf h.recs q.1 = some r := ⟨_, hr.2.choose_spec.choose_spec.choose_spec.1⟩
  obtain ⟨v', hv', T⟩ := Rds.true hr er
  have ev : v' = v := hv'.det hv
  have e1 : (rowOf h s q).2.2.1 = r := by show (rcpOf h.recs q.1).getD _ = r; rw [er]; rfl
  have e2 : (rowOf h s q).2.2.2 = v := by show (seen s.known q.1).getD _ = v; rw [e]; rfl
  obtain ⟨_, wn, dp⟩ := G.ok.n.rcp _ (rcpOf_mem er)
  exact ⟨⟨by rw [e1, e2, ← ev]; exact T, fun x hx => R.ok.rds q hq x hx, by rw [e1]; exact wn, by rw [e1]; exact Nat.le_trans dp G.d60⟩, by rw [e1]; exact er, hr, by rw [e2]; exact hv, by rw [e2]; exact e, List.mem_map.mpr ⟨q, hq, rfl⟩⟩
theorem old_ofX {dm : Nat} {h : House} (G : HouseX dm h) {s : RkS} (R : Rest h bet0 s) : TrueOldW (rowsH h s) := ⟨fun p hp => (row_ofX G R p hp).1, by rw [rowsH_keys]; exact (List.nodup_append.mp R.ok.nd).2.1⟩
theorem rows_okX {dm : Nat} {h : House} (G : HouseX dm h) {s : RkS} (R : Rest h bet0 s) : RowsOk h s.known (rowsH h s) := by
  refine ⟨R.ok.kd, by rw [rowsH_keys]; exact (List.nodup_append.mp R.ok.nd).2.1, fun p hp => ?_, ?_⟩
  · obtain ⟨T, a, _⟩ := row_ofX G R p hp
    exact ⟨a, T.wn, T.dp, T.nm⟩
  · have h1 := R.ok.len
    have h2 : (rowsH h s).length = s.read.length := List.length_map _
    have := G.few
    omega
theorem done_ofX {dm : Nat} {h : House} (G : HouseX dm h) {n : Nat} (hn : h.recs.length + 1 ≤ n) {ts : List (List Nat)} (hts : ∀ t ∈ ts, Nm t ∧ ∃ v, Val h t v) : ∃ s, Done h n ts s := by
  obtain ⟨s, e⟩ := lkAll_total G.ok hn (Rest.empty h bet0) (ts := ts) hts
  obtain ⟨r, _, g, _⟩ := lkAll_rest G.ok (Rest.empty h bet0) (fun t ht => (hts t ht).1) e
  exact ⟨s, e, r, g⟩
theorem HouseG.x {h : House} (G : HouseG h) (few : h.given.length + h.recs.length ≤ 1000) : HouseX 5 h := ⟨G.ok bet0, by decide, G.nd, few⟩
/-! ### builds from a store: plain facts -/
open LamX NdefX
inductive OutE (S : Type) where
  | ok (v : Int) (s : S)
  | err (e : XErr) (s : S)
structure StS where
  known : List Pr
  book : Old
  going : List (List Nat)
  held : List Row
  made : List (List Nat)
  kept : List (List Nat)
def StS.rk (s : StS) : RkS := ⟨s.known, s.book.map fun p => (p.1, p.2.1), s.going⟩
def workE (look : StS → List Nat → OutE StS) (r : Rcp) : Nat → StS → List Pr → OutE (StS × List Pr)
  | 0, s, own => .err (.ring []) (s, own)
  | m + 1, s, own => match outOf own r with
    | .worth v => .ok v (s, own)
    | .read u => match look s u with
      | .ok v s' => workE look r m s' (own ++ [(u, v)])
      | .err e s' => .err e (s', own)
    | .none => .err (.ring []) (s, own)
open Classical in
noncomputable def StS.done (s : StS) (t : List Nat) (o : Row) : StS :=
  if o ∈ s.held then { known := putA s.known t o.2.2, book := putA s.book t o, going := s.going.dropLast, held := s.held, made := s.made, kept := s.kept ++ [t] }
  else { known := putA s.known t o.2.2, book := putA s.book t o, going := s.going.dropLast, held := s.held ++ [o], made := s.made ++ [t], kept := s.kept }
noncomputable def finE (t : List Nat) (r : Rcp) : OutE (StS × List Pr) → OutE StS
  | .ok v p => .ok v (p.1.done t (p.2, r, v))
  | .err e p => .err e p.1
noncomputable def stR (h : House) : Nat → StS → List Nat → OutE StS
  | 0, s, _ => .err (.ring []) s
  | n + 1, s, t => match seen s.known t with
    | some v => .ok v s
    | none => match seen h.given t with
      | some v => .ok v { s with known := putA s.known t v }
      | none => match rcpOf h.recs t with
        | none => .err (.noName t) s
        | some r => if t ∈ s.going then .err (.ring (s.going.drop (s.going.idxOf t) ++ [t])) s else
          finE t r (workE (stR h n) r (r.nms.length + 1) { s with going := s.going ++ [t] } [])
/-! #### going on where a name lacked -/
theorem setd_in {own : List Pr} {u : List Nat} {v x : Int} (h : seen own u = some x) : setd own u v = own := by
  unfold setd
  rw [h]
theorem seen_in {own : List Pr} (nd : (own.map (·.1)).Nodup) {p : Pr} (hp : p ∈ own) : seen own p.1 = some p.2 := by
  obtain ⟨i, hi⟩ := List.mem_iff_getElem?.mp hp
  exact seen_at nd hi
structure LkK (lk : RkS → List Nat → OutR RkS) (J : RkS → Prop) : Prop where
  known : ∀ {s u v}, J s → seen s.known u = some v → lk s u = .ok v s
  step : ∀ {s u v s'}, J s → Nm u → lk s u = .ok v s' → J s' ∧ (∀ u x, seen s.known u = some x → seen s'.known u = some x) ∧ seen s'.known u = some v
section
variable {lk : RkS → List Nat → OutR RkS} {J : RkS → Prop}
theorem look_res1 (L : LkK lk J) {s : RkS} {own : List Pr} (hj : J s) (nd : (own.map (·.1)).Nodup) (kn : ∀ p ∈ own, seen s.known p.1 = some p.2) {n m : Nat} {u : List Nat} {v : Int} (hn : n ≤ own.length) (e : lookG own n u = .ok v m) : lkOwn lk (s, own) u = .ok v (s, own) := by
  obtain ⟨_, _, h⟩ := lookG_ok hn e
  unfold lkOwn
  show (match lk s u with | .ok v s => OutR.ok v (s, setd own u v) | .err e => .err e) = _
  rw [L.known hj (kn _ h)]
  show OutR.ok v (s, setd own u v) = _
  rw [setd_in (seen_in nd h)]
theorem resume1 (L : LkK lk J) {s : RkS} {own : List Pr} (hj : J s) (nd : (own.map (·.1)).Nodup) (kn : ∀ p ∈ own, seen s.known p.1 = some p.2) : ∀ {x : Rcp} {n m : Nat} {v : Int}, n ≤ own.length → go own x n = .ok v m → wk (lkOwn lk) x (s, own) = .ok v (s, own)
  | .num w, n, m, v, hn, h => by cases h; rfl
  | .read u, n, m, v, hn, h => look_res1 L hj nd kn hn h
  | .two k a b, n, m, v, hn, h => by
    obtain ⟨x, l, ha, h2⟩ := bind_ok h
    obtain ⟨y, l2, hb, h3⟩ := bind_ok h2
    cases h3
    have hl := (go_more ([], 0) hn ha).2
    show (wk (lkOwn lk) a (s, own)).bind _ = _
    rw [resume1 L hj nd kn hn ha]
    show (wk (lkOwn lk) b (s, own)).bind _ = _
    rw [resume1 L hj nd kn hl hb]
    rfl
  | .pick a b c, n, m, v, hn, h => by
    obtain ⟨x, l, ha, h2⟩ := bind_ok h
    have hl := (go_more ([], 0) hn ha).2
    show (wk (lkOwn lk) a (s, own)).bind _ = _
    rw [resume1 L hj nd kn hn ha]
    show (if x > 0 then wk (lkOwn lk) b (s, own) else wk (lkOwn lk) c (s, own)) = _
    by_cases c0 : x > 0
    · simp only [if_pos c0] at h2 ⊢
      exact resume1 L hj nd kn hl h2
    · simp only [if_neg c0] at h2 ⊢
      exact resume1 L hj nd kn hl h2
  | .choose a ns, n, m, v, hn, h => by
    obtain ⟨x, l, ha, h2⟩ := bind_ok h
    have hl := (go_more ([], 0) hn ha).2
    show (wk (lkOwn lk) a (s, own)).bind _ = _
    rw [resume1 L hj nd kn hn ha]
    exact look_res1 L hj nd kn hl h2
def goOn (lk : RkS → List Nat → OutR RkS) (f : RkS × List Pr → OutR (RkS × List Pr)) (s : RkS) (own : List Pr) (u : List Nat) : OutR (RkS × List Pr) := match lk s u with
  | .ok v s' => f (s', own ++ [(u, v)])
  | .err e => .err e
theorem look_res2 (L : LkK lk J) {s : RkS} {own : List Pr} (hj : J s) {n : Nat} {t u : List Nat} (ht : Nm t) (hn : n ≤ own.length) (e : lookG own n t = .lack u) : lkOwn lk (s, own) t = goOn lk (fun p => lkOwn lk p t) s own u := by
  obtain ⟨_, rfl, h⟩ := lookG_lack hn e
  have e0 : ∀ (s : RkS) (own : List Pr), lkOwn lk (s, own) t = match lk s t with | .ok v s => OutR.ok v (s, setd own t v) | .err e => .err e := fun _ _ => rfl
  unfold goOn
  rw [e0]
  cases e1 : lk s t with
  | err x => rfl
  | ok v s' =>
    obtain ⟨j', _, k'⟩ := L.step hj ht e1
    show OutR.ok v (s', setd own t v) = lkOwn lk (s', own ++ [(t, v)]) t
    rw [e0, L.known j' k', setd_new h]
    show _ = OutR.ok v (s', setd (own ++ [(t, v)]) t v)
    have : seen (own ++ [(t, v)]) t = some v := by
      unfold seen at h ⊢
      rw [Option.map_eq_none_iff] at h
      rw [List.find?_append, h]
      rw [Option.none_or, List.find?_cons, decide_eq_true rfl]
      rfl
    rw [setd_in this]
theorem snoc_ok {own : List Pr} {u : List Nat} {v : Int} {s s' : RkS} (nd : (own.map (·.1)).Nodup) (e : seen own u = none) (kn : ∀ p ∈ own, seen s.known p.1 = some p.2) (mo : ∀ u x, seen s.known u = some x → seen s'.known u = some x) (g : seen s'.known u = some v) : ((own ++ [(u, v)]).map (·.1)).Nodup ∧ ∀ p ∈ own ++ [(u, v)], seen s'.known p.1 = some p.2 := by
  refine ⟨?_, fun p hp => ?_⟩
  · rw [List.map_append]
    exact List.nodup_append.mpr ⟨nd, List.nodup_cons.mpr ⟨(fun z => nomatch z), List.nodup_nil⟩, fun a ha b hb e2 => seen_none e (by have hb' : b = u := List.mem_singleton.mp hb; rw [← hb', ← e2]; exact ha)⟩
  · rcases List.mem_append.mp hp with hp | hp
    · exact mo _ _ (kn p hp)
    · rw [List.mem_singleton.mp hp]
      exact g
theorem go_lack {own : List Pr} : ∀ {x : Rcp} {n : Nat} {u : List Nat}, x.Wn → n ≤ own.length → go own x n = .lack u → seen own u = none ∧ Nm u
  | .num v, n, u, _, hn, h => by cases h
  | .read t, n, u, hw, hn, h => by
    obtain ⟨_, rfl, e⟩ := lookG_lack hn h
    exact ⟨e, hw⟩
  | .two k a b, n, u, hw, hn, h => by
    rcases bind_lack h with ha | ⟨x, l, ha, h2⟩
    · exact go_lack hw.1 hn ha
    · rcases bind_lack h2 with hb | ⟨y, l2, hb, h3⟩
      · exact go_lack hw.2 (go_more ([], 0) hn ha).2 hb
      · cases h3
  | .pick a b c, n, u, hw, hn, h => by
    rcases bind_lack h with ha | ⟨x, l, ha, h2⟩
    · exact go_lack hw.1 hn ha
    · have hl := (go_more ([], 0) hn ha).2
      by_cases c0 : x > 0
      · simp only [if_pos c0] at h2
        exact go_lack hw.2.1 hl h2
      · simp only [if_neg c0] at h2
        exact go_lack hw.2.2 hl h2
  | .choose a ns, n, u, hw, hn, h => by
    rcases bind_lack h with ha | ⟨x, l, ha, h2⟩
    · exact go_lack hw.1 hn ha
    · obtain ⟨_, e, e2⟩ := lookG_lack (go_more ([], 0) hn ha).2 h2
      obtain ⟨i, _, hi⟩ := nth_mem hw.2.1 x
      exact ⟨by rw [← e]; exact e ▸ e2, by rw [← e]; exact hw.2.2.2 _ (List.mem_of_getElem? hi)⟩
theorem resume2 (L : LkK lk J) {s : RkS} {own : List Pr} (hj : J s) (nd : (own.map (·.1)).Nodup) (kn : ∀ p ∈ own, seen s.known p.1 = some p.2) : ∀ {x : Rcp} {n : Nat} {u : List Nat}, x.Wn → n ≤ own.length → go own x n = .lack u → wk (lkOwn lk) x (s, own) = goOn lk (wk (lkOwn lk) x) s own u
  | .num w, n, u, _, hn, h => by cases h
  | .read t, n, u, hw, hn, h => look_res2 L hj hw hn h
  | .two k a b, n, u, hw, hn, h => by
    rcases bind_lack h with ha | ⟨x, l, ha, h2⟩
    · show (wk (lkOwn lk) a (s, own)).bind _ = _
      rw [resume2 L hj nd kn hw.1 hn ha]
      unfold goOn
      cases lk s u <;> rfl
    · have hl := (go_more ([], 0) hn ha).2
      rcases bind_lack h2 with hb | ⟨y, l2, hb, h3⟩
      · obtain ⟨e0, hu⟩ := go_lack hw.2 hl hb
        show (wk (lkOwn lk) a (s, own)).bind _ = _
        rw [resume1 L hj nd kn hn ha]
        show (wk (lkOwn lk) b (s, own)).bind _ = _
        rw [resume2 L hj nd kn hw.2 hl hb]
        unfold goOn
        cases e1 : lk s u with
        | err z => rfl
        | ok v s' =>
          obtain ⟨j', mo, g⟩ := L.step hj hu e1
          obtain ⟨nd', kn'⟩ := snoc_ok nd e0 kn mo g
          show (wk (lkOwn lk) b (s', own ++ [(u, v)])).bind _ = (wk (lkOwn lk) a (s', own ++ [(u, v)])).bind _
          rw [resume1 L j' nd' kn' (by rw [List.length_append]; omega) (go_more (u, v) hn ha).1]
          rfl
      · cases h3
  | .pick a b c, n, u, hw, hn, h => by
    rcases bind_lack h with ha | ⟨x, l, ha, h2⟩
    · show (wk (lkOwn lk) a (s, own)).bind _ = _
      rw [resume2 L hj nd kn hw.1 hn ha]
      unfold goOn
      cases lk s u <;> rfl
    · have hl := (go_more ([], 0) hn ha).2
      have h2' : (if x > 0 then go own b l else go own c l) = .lack u := h2
      have hu : seen own u = none ∧ Nm u := by
        by_cases c0 : x > 0
        · rw [if_pos c0] at h2'; exact go_lack hw.2.1 hl h2'
        · rw [if_neg c0] at h2'; exact go_lack hw.2.2 hl h2'
      show (wk (lkOwn lk) a (s, own)).bind _ = _
      rw [resume1 L hj nd kn hn ha]
      show (if x > 0 then wk (lkOwn lk) b (s, own) else wk (lkOwn lk) c (s, own)) = _
      have e3 : (if x > 0 then wk (lkOwn lk) b (s, own) else wk (lkOwn lk) c (s, own)) = goOn lk (fun p => if x > 0 then wk (lkOwn lk) b p else wk (lkOwn lk) c p) s own u := by
        by_cases c0 : x > 0
        · rw [if_pos c0] at h2' ⊢
          rw [resume2 L hj nd kn hw.2.1 hl h2']
          unfold goOn
          cases lk s u with
          | err z => rfl
          | ok v s' => show _ = if x > 0 then _ else _; rw [if_pos c0]
        · rw [if_neg c0] at h2' ⊢
          rw [resume2 L hj nd kn hw.2.2 hl h2']
          unfold goOn
          cases lk s u with
          | err z => rfl
          | ok v s' => show _ = if x > 0 then _ else _; rw [if_neg c0]
      rw [e3]
      unfold goOn
      cases e1 : lk s u with
      | err z => rfl
      | ok v s' =>
        obtain ⟨j', mo, g⟩ := L.step hj hu.2 e1
        obtain ⟨nd', kn'⟩ := snoc_ok nd hu.1 kn mo g
        show _ = (wk (lkOwn lk) a (s', own ++ [(u, v)])).bind _
        rw [resume1 L j' nd' kn' (by rw [List.length_append]; omega) (go_more (u, v) hn ha).1]
        rfl
  | .choose a ns, n, u, hw, hn, h => by
    rcases bind_lack h with ha | ⟨x, l, ha, h2⟩
    · show (wk (lkOwn lk) a (s, own)).bind _ = _
      rw [resume2 L hj nd kn hw.1 hn ha]
      unfold goOn
      cases lk s u <;> rfl
    · have hl := (go_more ([], 0) hn ha).2
      obtain ⟨i, _, hi⟩ := nth_mem hw.2.1 x
      have hm : Nm (nthN ns x) := hw.2.2.2 _ (List.mem_of_getElem? hi)
      obtain ⟨_, e0, e2⟩ := lookG_lack hl h2
      show (wk (lkOwn lk) a (s, own)).bind _ = _
      rw [resume1 L hj nd kn hn ha]
      show lkOwn lk (s, own) (nthN ns x) = _
      rw [look_res2 L hj hm hl h2]
      unfold goOn
      cases e1 : lk s u with
      | err z => rfl
      | ok v s' =>
        obtain ⟨j', mo, g⟩ := L.step hj (e0 ▸ hm) e1
        obtain ⟨nd', kn'⟩ := snoc_ok nd (e0 ▸ e2) kn mo g
        show _ = (wk (lkOwn lk) a (s', own ++ [(u, v)])).bind _
        rw [resume1 L j' nd' kn' (by rw [List.length_append]; omega) (go_more (u, v) hn ha).1]
        rfl
end
/-! ### what behind tells: small words (cut from K50a, K50b, K50c) -/
def Small (rd : List Pr) : Prop := ∀ p ∈ rd, Nm p.1 ∧ p.2.natAbs < 2 ^ 400
theorem go_small {rd : List Pr} (hs : Small rd) {r : Rcp} {n m : Nat} {v : Int} (hb : r.Nb) (hd : r.dep ≤ 9) (hn : n ≤ rd.length) (h : go rd r n = .ok v m) : n ≤ m ∧ m ≤ rd.length ∧ ∃ e, 0 < e ∧ e ≤ 204800 ∧ v.natAbs < 2 ^ e := by
  obtain ⟨h1, h2, h3⟩ := go_ok (fun p hp => (hs p hp).2) hb hn h
  have h4 : 2 ^ r.dep ≤ 2 ^ 9 := Nat.pow_le_pow_right (by decide) hd
  have h5 : 1 ≤ 2 ^ r.dep := Nat.one_le_two_pow
  have h6 : (2 : Nat) ^ 9 = 512 := by decide
  exact ⟨h1, h2, 400 * 2 ^ r.dep, by omega, by omega, h3⟩
def TellO (Q : VK) (qn : Hp → Prop) (o : Out) (H : Hp) : Prop :=
  (∀ s t H', o = .read s → Same H H' → H' t = some (.tup [.str "read", .str (SX.S s)]) → Q (.ref t) H') ∧ (∀ x t H', o = .worth x → Same H H' → H' t = some (.tup [.str "worth", .int x]) → Q (.ref t) H') ∧ (∀ H', o = .none → Same H H' → qn H')
theorem out_ok {rd : List Pr} {r : Rcp} {v : Int} {m : Nat} (h : go rd r 0 = .ok v m) : outOf rd r = if m < rd.length then .none else .worth v := by unfold outOf; rw [h]
theorem out_lack {rd : List Pr} {r : Rcp} {s : List Nat} (h : go rd r 0 = .lack s) : outOf rd r = .read s := by unfold outOf; rw [h]
theorem out_bad {rd : List Pr} {r : Rcp} (h : go rd r 0 = .bad) : outOf rd r = .none := by unfold outOf; rw [h]
theorem out_next {rd : List Pr} {r : Rcp} {s : List Nat} (w : Int) (h : outOf rd r = .read s) : go rd r 0 = .lack s ∧ ((∃ t, outOf (rd ++ [(s, w)]) r = .read t) ∨ ∃ v, outOf (rd ++ [(s, w)]) r = .worth v) := by
  have hg : go rd r 0 = .lack s := by
    unfold outOf at h
    cases e : go rd r 0 with
    | ok v n =>
      rw [e] at h
      by_cases c : n < rd.length
      · simp only [if_pos c] at h; cases h
      · simp only [if_neg c] at h; cases h
    | lack t => rw [e] at h; cases h; rfl
    | bad => rw [e] at h; cases h
  refine ⟨hg, ?_⟩
  rcases go_next w (Nat.zero_le _) hg with ⟨v, hv⟩ | ⟨t, ht⟩
  · exact .inr ⟨v, (out_ok hv).trans (if_neg (by omega))⟩
  · exact .inl ⟨t, out_lack ht⟩
theorem out_first (r : Rcp) : (∃ t, outOf [] r = .read t) ∨ ∃ v, outOf [] r = .worth v := by
  rcases go_end (rd := []) (r := r) with ⟨v, hv⟩ | ⟨t, ht⟩
  · exact .inr ⟨v, (out_ok hv).trans (if_neg (by show ¬ 0 < 0; omega))⟩
  · exact .inl ⟨t, out_lack ht⟩
/-! #### records that a store holds -/
structure GoodRow (o : Row) : Prop where
  rcp : o.2.1.th.isRcp = true
  wn : o.2.1.Wn
  nb : o.2.1.Nb
  dp : o.2.1.dep ≤ 8
  sm : Small o.1
  out : outOf o.1 o.2.1 = .worth o.2.2
theorem out_worth {rd : List Pr} {r : Rcp} {v : Int} (h : outOf rd r = .worth v) : ∃ m, go rd r 0 = .ok v m ∧ rd.length ≤ m := by
  unfold outOf at h
  cases e : go rd r 0 with
  | ok x n =>
    rw [e] at h
    by_cases c : n < rd.length
    · simp only [if_pos c] at h; cases h
    · simp only [if_neg c] at h; cases h; exact ⟨n, rfl, by omega⟩
  | lack s => rw [e] at h; cases h
  | bad => rw [e] at h; cases h
theorem out_read {rd : List Pr} {r : Rcp} {u : List Nat} (h : outOf rd r = .read u) : go rd r 0 = .lack u := by
  unfold outOf at h
  cases e : go rd r 0 with
  | ok x n =>
    rw [e] at h
    by_cases c : n < rd.length
    · simp only [if_pos c] at h; cases h
    · simp only [if_neg c] at h; cases h
  | lack s => rw [e] at h; cases h; rfl
  | bad => rw [e] at h; cases h
theorem go_okL {rd : List Pr} {r : Rcp} {n m : Nat} {v : Int} (hn : n ≤ rd.length) (h : go rd r n = .ok v m) : n ≤ m ∧ m ≤ rd.length := by
  refine ⟨?_, (go_more ([], 0) hn h).2⟩
  revert n m v
  induction r with
  | num w => intro n m v hn h; cases h; exact Nat.le_refl _
  | read s => intro n m v hn h; exact (lookG_ok hn h).1
  | two k a b iha ihb =>
    intro n m v hn h
    obtain ⟨x, l, ha, h2⟩ := bind_ok h
    obtain ⟨y, l2, hb, h3⟩ := bind_ok h2
    cases h3
    exact Nat.le_trans (iha hn ha) (ihb (go_more ([], 0) hn ha).2 hb)
  | pick a b c iha ihb ihc =>
    intro n m v hn h
    obtain ⟨x, l, ha, h2⟩ := bind_ok h
    have hl := (go_more ([], 0) hn ha).2
    by_cases c0 : x > 0
    · simp only [if_pos c0] at h2; exact Nat.le_trans (iha hn ha) (ihb hl h2)
    · simp only [if_neg c0] at h2; exact Nat.le_trans (iha hn ha) (ihc hl h2)
  | choose a ns iha =>
    intro n m v hn h
    obtain ⟨x, l, ha, h2⟩ := bind_ok h
    exact Nat.le_trans (iha hn ha) (lookG_ok (go_more ([], 0) hn ha).2 h2).1
/-- each read stands once -/
theorem look_nd {rd : List Pr} {n m : Nat} {u : List Nat} {v : Int} (nd : ((rd.take n).map (·.1)).Nodup) (h : lookG rd n u = .ok v m) : ((rd.take m).map (·.1)).Nodup := by
  unfold lookG at h
  cases e : seen (rd.take n) u with
  | some w => rw [e] at h; cases h; exact nd
  | none =>
    rw [e] at h
    cases e2 : rd[n]? with
    | none => rw [e2] at h; cases h
    | some p =>
      rw [e2] at h
      by_cases c : p.1 = u
      · simp only [if_pos c] at h
        cases h
        rw [List.take_add_one, e2, List.map_append]
        exact List.nodup_append.mpr ⟨nd, List.nodup_cons.mpr ⟨(fun z => nomatch z), List.nodup_nil⟩, fun a ha b hb e3 => seen_none e (by have hb' : b = p.1 := List.mem_singleton.mp hb; rw [← c, ← hb', ← e3]; exact ha)⟩
      · simp only [if_neg c] at h; cases h
theorem go_nd {rd : List Pr} : ∀ {r : Rcp} {n m : Nat} {v : Int}, n ≤ rd.length → ((rd.take n).map (·.1)).Nodup → go rd r n = .ok v m → ((rd.take m).map (·.1)).Nodup
  | .num w, n, m, v, hn, nd, h => by cases h; exact nd
  | .read s, n, m, v, hn, nd, h => look_nd nd h
  | .two k a b, n, m, v, hn, nd, h => by
    obtain ⟨x, l, ha, h2⟩ := bind_ok h
    obtain ⟨y, l2, hb, h3⟩ := bind_ok h2
    cases h3
    exact go_nd (go_more ([], 0) hn ha).2 (go_nd hn nd ha) hb
  | .pick a b c, n, m, v, hn, nd, h => by
    obtain ⟨x, l, ha, h2⟩ := bind_ok h
    have hl := (go_more ([], 0) hn ha).2
    by_cases c0 : x > 0
    · simp only [if_pos c0] at h2; exact go_nd hl (go_nd hn nd ha) h2
    · simp only [if_neg c0] at h2; exact go_nd hl (go_nd hn nd ha) h2
  | .choose a ns, n, m, v, hn, nd, h => by
    obtain ⟨x, l, ha, h2⟩ := bind_ok h
    exact look_nd (go_nd hn nd ha) h2
theorem out_nd {rd : List Pr} {r : Rcp} {v : Int} (h : outOf rd r = .worth v) : (rd.map (·.1)).Nodup := by
  obtain ⟨m, e, hm⟩ := out_worth h
  have := go_nd (Nat.zero_le _) (by rw [List.take_zero]; exact List.nodup_nil) e
  rwa [List.take_of_length_le hm] at this
/-- behind the first reads of a record the next one is looked for -/
theorem look_cut {rd : List Pr} {n m i : Nat} {u : List Nat} {v : Int} {p : Pr} (hi : n ≤ i) (him : i < m) (hp : rd[i]? = some p) (h : lookG rd n u = .ok v m) : lookG (rd.take i) n u = .lack p.1 := by
  have hil := (List.getElem?_eq_some_iff.mp hp).1
  unfold lookG at h ⊢
  rw [List.take_take, Nat.min_eq_left hi]
  cases e : seen (rd.take n) u with
  | some w => rw [e] at h; cases h; omega
  | none =>
    rw [e] at h
    cases e2 : rd[n]? with
    | none => rw [e2] at h; cases h
    | some q =>
      rw [e2] at h
      by_cases c : q.1 = u
      · simp only [if_pos c] at h
        cases h
        obtain rfl : i = n := by omega
        rw [hp] at e2
        cases e2
        rw [List.getElem?_eq_none (by rw [List.length_take]; omega), ← c]
      · simp only [if_neg c] at h; cases h
theorem look_same {rd : List Pr} {n m i : Nat} {u : List Nat} {v : Int} (hn : n ≤ i) (hm : m ≤ i) (h : lookG rd n u = .ok v m) : lookG (rd.take i) n u = .ok v m := by
  unfold lookG at h ⊢
  rw [List.take_take, Nat.min_eq_left hn]
  cases e : seen (rd.take n) u with
  | some w => rw [e] at h; exact h
  | none =>
    rw [e] at h
    cases e2 : rd[n]? with
    | none => rw [e2] at h; cases h
    | some q =>
      rw [e2] at h
      by_cases c : q.1 = u
      · have h3 := h
        simp only [if_pos c] at h3
        cases h3
        rw [List.getElem?_take_of_lt (by omega), e2]
        exact h
      · simp only [if_neg c] at h; cases h
theorem go_same {rd : List Pr} : ∀ {r : Rcp} {n m i : Nat} {v : Int}, i ≤ rd.length → n ≤ i → m ≤ i → go rd r n = .ok v m → go (rd.take i) r n = .ok v m
  | .num w, n, m, i, v, hl, hn, hm, h => h
  | .read s, n, m, i, v, hl, hn, hm, h => look_same hn hm h
  | .two k a b, n, m, i, v, hl, hn, hm, h => by
    obtain ⟨x, l, ha, h2⟩ := bind_ok h
    obtain ⟨y, l2, hb, h3⟩ := bind_ok h2
    cases h3
    have h0 := go_okL (Nat.le_trans hn hl) ha
    have h1 := go_okL h0.2 hb
    show (go (rd.take i) a n).bind _ = _
    rw [go_same hl hn (by omega) ha]
    show (go (rd.take i) b l).bind _ = _
    rw [go_same hl (by omega) hm hb]
    rfl
  | .pick a b c, n, m, i, v, hl, hn, hm, h => by
    obtain ⟨x, l, ha, h2⟩ := bind_ok h
    have h0 := go_okL (Nat.le_trans hn hl) ha
    have h2' : (if x > 0 then go rd b l else go rd c l) = .ok v m := h2
    have h1 : l ≤ m := by
      by_cases c0 : x > 0
      · rw [if_pos c0] at h2'; exact (go_okL h0.2 h2').1
      · rw [if_neg c0] at h2'; exact (go_okL h0.2 h2').1
    show (go (rd.take i) a n).bind _ = _
    rw [go_same hl hn (by omega) ha]
    show (if x > 0 then go (rd.take i) b l else go (rd.take i) c l) = _
    by_cases c0 : x > 0
    · rw [if_pos c0] at h2' ⊢; exact go_same hl (by omega) hm h2'
    · rw [if_neg c0] at h2' ⊢; exact go_same hl (by omega) hm h2'
  | .choose a ns, n, m, i, v, hl, hn, hm, h => by
    obtain ⟨x, l, ha, h2⟩ := bind_ok h
    have h0 := go_okL (Nat.le_trans hn hl) ha
    have h1 := (lookG_ok h0.2 h2).1
    show (go (rd.take i) a n).bind _ = _
    rw [go_same hl hn (by omega) ha]
    exact look_same (by omega) hm h2
theorem go_cut {rd : List Pr} {p : Pr} : ∀ {r : Rcp} {n m i : Nat} {v : Int}, n ≤ i → i < m → rd[i]? = some p → go rd r n = .ok v m → go (rd.take i) r n = .lack p.1
  | .num w, n, m, i, v, hn, hm, hp, h => by cases h; omega
  | .read s, n, m, i, v, hn, hm, hp, h => look_cut hn hm hp h
  | .two k a b, n, m, i, v, hn, hm, hp, h => by
    have hil := (List.getElem?_eq_some_iff.mp hp).1
    obtain ⟨x, l, ha, h2⟩ := bind_ok h
    obtain ⟨y, l2, hb, h3⟩ := bind_ok h2
    cases h3
    show (go (rd.take i) a n).bind _ = _
    by_cases c : i < l
    · rw [go_cut hn c hp ha]
      rfl
    · rw [go_same (Nat.le_of_lt hil) hn (by omega) ha]
      show (go (rd.take i) b l).bind _ = _
      rw [go_cut (by omega) hm hp hb]
      rfl
  | .pick a b c, n, m, i, v, hn, hm, hp, h => by
    have hil := (List.getElem?_eq_some_iff.mp hp).1
    obtain ⟨x, l, ha, h2⟩ := bind_ok h
    have h2' : (if x > 0 then go rd b l else go rd c l) = .ok v m := h2
    show (go (rd.take i) a n).bind _ = _
    by_cases c1 : i < l
    · rw [go_cut hn c1 hp ha]
      rfl
    · rw [go_same (Nat.le_of_lt hil) hn (by omega) ha]
      show (if x > 0 then go (rd.take i) b l else go (rd.take i) c l) = _
      by_cases c0 : x > 0
      · rw [if_pos c0] at h2' ⊢; exact go_cut (by omega) hm hp h2'
      · rw [if_neg c0] at h2' ⊢; exact go_cut (by omega) hm hp h2'
  | .choose a ns, n, m, i, v, hn, hm, hp, h => by
    have hil := (List.getElem?_eq_some_iff.mp hp).1
    obtain ⟨x, l, ha, h2⟩ := bind_ok h
    show (go (rd.take i) a n).bind _ = _
    by_cases c1 : i < l
    · rw [go_cut hn c1 hp ha]
      rfl
    · rw [go_same (Nat.le_of_lt hil) hn (by omega) ha]
      exact look_cut (by omega) hm hp h2
theorem out_cut {rd : List Pr} {r : Rcp} {v : Int} {i : Nat} {p : Pr} (h : outOf rd r = .worth v) (hp : rd[i]? = some p) : outOf (rd.take i) r = .read p.1 := by
  obtain ⟨m, e, hm⟩ := out_worth h
  have hil := (List.getElem?_eq_some_iff.mp hp).1
  have := go_cut (Nat.zero_le i) (by omega : i < m) hp e
  unfold outOf
  rw [this]
/-- reads that were all looked for, in this order -/
def Part (own : List Pr) (r : Rcp) : Prop := Fine own (go own r 0)
theorem Part.nil (r : Rcp) : Part [] r := go_end (rd := []) (r := r)
theorem Part.cases {own : List Pr} {r : Rcp} (h : Part own r) : (∃ v, go own r 0 = .ok v own.length ∧ outOf own r = .worth v) ∨ ∃ u, go own r 0 = .lack u ∧ outOf own r = .read u := by
  rcases h with ⟨v, h⟩ | ⟨u, h⟩
  · exact .inl ⟨v, h, by unfold outOf; rw [h]; exact if_neg (Nat.lt_irrefl _)⟩
  · exact .inr ⟨u, h, by unfold outOf; rw [h]⟩
theorem Part.next {own : List Pr} {r : Rcp} {u : List Nat} (w : Int) (h : go own r 0 = .lack u) : Part (own ++ [(u, w)]) r := go_next w (Nat.zero_le _) h
theorem go_ev {own : List Pr} {F : List Nat → Int → Prop} (hF : ∀ p ∈ own, F p.1 p.2) : ∀ {r : Rcp} {n m : Nat} {v : Int}, n ≤ own.length → go own r n = .ok v m → r.Ev F v
  | .num w, n, m, v, hn, h => by cases h; rfl
  | .read s, n, m, v, hn, h => hF _ (lookG_ok hn h).2.2
  | .two k a b, n, m, v, hn, h => by
    obtain ⟨x, l, ha, h2⟩ := bind_ok h
    obtain ⟨y, l2, hb, h3⟩ := bind_ok h2
    cases h3
    exact ⟨x, y, go_ev hF hn ha, go_ev hF (go_more ([], 0) hn ha).2 hb, rfl⟩
  | .pick a b c, n, m, v, hn, h => by
    obtain ⟨x, l, ha, h2⟩ := bind_ok h
    have hl := (go_more ([], 0) hn ha).2
    have h2' : (if x > 0 then go own b l else go own c l) = .ok v m := h2
    refine ⟨x, go_ev hF hn ha, fun c0 => ?_, fun c0 => ?_⟩
    · rw [if_pos c0] at h2'; exact go_ev hF hl h2'
    · rw [if_neg c0] at h2'; exact go_ev hF hl h2'
  | .choose a ns, n, m, v, hn, h => by
    obtain ⟨x, l, ha, h2⟩ := bind_ok h
    exact ⟨x, go_ev hF hn ha, hF _ (lookG_ok (go_more ([], 0) hn ha).2 h2).2.2⟩
/-! ### the class Going -/
structure GoT (K : PySem.W.Frag) (mg : Str → Option Value) (C fI : Addr) : Prop where
  cl : Cls K C
  nR : NoAttr K C "reads"
  nH : NoAttr K C "had"
  nL : NoAttr K C "lacking"
  g : mg "Going" = some (.ref C)
  mkI : Mk K C fI
def ObG (H : Hp) (g C R D : Addr) (lk : V) : Prop := ∃ dx fs, H g = some (.ins C dx fs) ∧ fs.lookup ("reads" : Str) = some (.ref R) ∧ fs.lookup ("had" : Str) = some (.ref D) ∧ fs.lookup ("lacking" : Str) = some lk ∧
  fs.lookup ("look" : Str) = none ∧ fs.lookup ("worth" : Str) = none ∧ fs.lookup ("two" : Str) = none ∧ fs.length = 3
theorem ObG.same {H H' : Hp} {g C R D : Addr} {lk : V} (h : ObG H g C R D lk) (s : H' g = H g) : ObG H' g C R D lk := by
  obtain ⟨dx, fs, h1, h2⟩ := h
  exact ⟨dx, fs, s.trans h1, h2⟩
theorem putF_len {f : Str} {v x : V} : ∀ {fs : List (Str × V)}, fs.lookup f = some x → (putF f v fs).length = fs.length
  | [], h => by cases h
  | (g, y) :: r, h => by
    unfold putF
    by_cases c : g = f
    · rw [if_pos c]
      rfl
    · rw [if_neg c]
      have hb : (f == g) = false := beq_eq_false_iff_ne.mpr fun z => c z.symm
      have h' : r.lookup f = some x := by
        rw [List.lookup, hb] at h
        exact h
      show (putF f v r).length + 1 = r.length + 1
      rw [putF_len h']
theorem ObG.lack {H : Hp} {g C R D : Addr} {lk : V} (h : ObG H g C R D lk) (x : V) : ∃ dx fs, H g = some (.ins C dx fs) ∧ fs.length < 1000 ∧ ObG (upd H g (.ins C dx (putF "lacking" x fs))) g C R D x := by
  obtain ⟨dx, fs, h1, h2, h3, h4, h5, h6, h7, h8⟩ := h
  refine ⟨dx, fs, h1, by omega, dx, putF "lacking" x fs, upd_same, ?_, ?_, ?_, ?_, ?_, ?_, ?_⟩
  · rw [lookup_putF, if_neg (by decide +kernel)]; exact h2
  · rw [lookup_putF, if_neg (by decide +kernel)]; exact h3
  · rw [lookup_putF, if_pos rfl]
  · rw [lookup_putF, if_neg (by decide +kernel)]; exact h5
  · rw [lookup_putF, if_neg (by decide +kernel)]; exact h6
  · rw [lookup_putF, if_neg (by decide +kernel)]; exact h7
  · rw [putF_len h4]; exact h8
def Fr2 (a b : Addr) (H H' : Hp) : Prop := ∀ x u, x ≠ a → x ≠ b → H x = some u → H' x = some u
theorem Fr2.refl (a b : Addr) (H : Hp) : Fr2 a b H H := fun _ _ _ _ e => e
theorem Fr2.trans {a b : Addr} {A B C : Hp} (h : Fr2 a b A B) (k : Fr2 a b B C) : Fr2 a b A C := fun x u n m e => k x u n m (h x u n m e)
theorem Fr2.of {a b : Addr} {A B : Hp} (h : Same A B) : Fr2 a b A B := fun x u _ _ e => h x u e
/-- a Going in the work: n reads of rd were looked for -/
def StG (C : Addr) (H : Hp) (g R D : Addr) (rd : List Pr) (n : Nat) : Prop := ObG H g C R D .non ∧ H D = some (.dK (numsK (rd.take n))) ∧ ∃ xs, H R = some (.lst xs) ∧ Prs H rd xs
theorem StG.keep {C : Addr} {H H' : Hp} {g R D : Addr} {rd : List Pr} {n : Nat} (k : StG C H g R D rd n) (f : Fr2 g D H H') : Keep H H' := by
  obtain ⟨⟨dx, fs, h1, _⟩, h2, _⟩ := k
  exact fun b ys e => f b _ (fun z => by rw [z, h1] at e; cases e) (fun z => by rw [z, h2] at e; cases e) e
def TellG (Q : VK) (E : XK) (C CN : Addr) (rd : List Pr) (g R D : Addr) (H : Hp) (res : Res) : Prop :=
  (∀ v m H', res = .ok v m → Fr2 g D H H' → StG C H' g R D rd m → Q (.int v) H') ∧
  (∀ t H', res = .lack t → Fr2 g D H H' → ObG H' g C R D (.str (SX.S t)) → Q .non H') ∧
  (∀ H', res = .bad → Fr2 g D H H' → E (.ref CN) none H')
def spGInit (C : Addr) : Sp := fun vs H Q _ => ∃ (g R dx : Addr), vs = [.ref g, .ref R] ∧ H g = some (.ins C dx []) ∧ ∀ (D : Addr) (H' : Hp), H D = none → ObG H' g C R D .non → H' D = some (.dK []) → (∀ b o, b ≠ g → H b = some o → H' b = some o) → Q .non H'
def spGLook (C CN : Addr) : Sp := fun vs H Q E => ∃ (g R D : Addr) (s : List Nat) (rd : List Pr) (n : Nat), vs = [.ref g, .str (SX.S s)] ∧ StG C H g R D rd n ∧ n ≤ rd.length ∧ rd.length ≤ 1000000 ∧ TellG Q E C CN rd g R D H (lookG rd n s)
section
variable {P : Program} {w : World} {K : PySem.W.Frag} {mg : Str → Option Value} {base : Heap} {C fI CN : Addr}
abbrev s_Going___init__ : Stmt := inClass (topS 6) 0
abbrev N_Going___init__ : List Str := ["self", "reads"]
theorem sc_Going___init__ : FnScope N_Going___init__ ["self", "reads"] (defScope s_Going___init__) := ⟨rfl, rfl, rfl, by decide +kernel, rfl, by decide +kernel, by decide +kernel⟩

theorem ok_Going_init (T : Txt K mg) (ZGoing : GoT K mg C fI) {fd : FuncData} (F : Fun K "__init__" "Going.__init__" s_Going___init__ fI fd) : FnOk P w K mg base CX0 1 fI fd ["self", "reads"] (spGInit C) := by
  refine F.ok sc_Going___init__ (fun vs H Q E h => ?_) (fun cdv A outer s H vs Q E hr h => ?_)
  · obtain ⟨g, R, dx, rfl, _⟩ := h
    rfl
  obtain ⟨g, R, dx, rfl, hg, q⟩ := h
  refine ⟨_, (pss_cons (ps_fld (pv 0) (pv 1) rfl)
      (pss_cons (ps_fld (pv 0) pe_dnewK rfl)
      (pss_one (ps_fld (pv 0) pe_non rfl)))), ?_⟩
  refine ⟨_, rfl, _, rfl, g, C, dx, _, rfl, hg, ZGoing.cl, ZGoing.nR, (by show 0 < 1000; decide), ?_⟩
  refine fun D nD => ?_
  have ngD : g ≠ D := ne_of_none (H := upd H g (.ins C dx (putF "reads" (.ref R) []))) upd_same nD
  refine ⟨_, rfl, g, C, dx, _, rfl, (by rw [upd_ne ngD]; exact upd_same), ZGoing.cl, ZGoing.nH, (by show 1 < 1000; decide), _, rfl, g, C, dx, _, rfl, upd_same, ZGoing.cl, ZGoing.nL, ?_, ?_⟩
  · show (putF "had" (.ref D) [(("reads" : Str), V.ref R)]).length < 1000
    unfold putF
    rw [if_neg (by decide +kernel)]
    show 2 < 1000
    decide
  have e3 : putF "lacking" .non (putF "had" (.ref D) (putF "reads" (.ref R) [])) = ([("reads", .ref R), ("had", .ref D), ("lacking", .non)] : List (Str × V)) := by
    show putF "lacking" .non (putF "had" (.ref D) [(("reads" : Str), V.ref R)]) = _
    rw [show putF "had" (.ref D) [(("reads" : Str), V.ref R)] = [(("reads" : Str), V.ref R), ("had", .ref D)] by unfold putF; rw [if_neg (by decide +kernel)]; rfl]
    unfold putF
    rw [if_neg (by decide +kernel)]
    unfold putF
    rw [if_neg (by decide +kernel)]
    rfl
  have nD0 : H D = none := by rw [upd_ne ngD.symm] at nD; exact nD
  refine q D _ nD0 ⟨dx, _, upd_same, ?_⟩ (by rw [upd_ne ngD.symm, upd_ne ngD.symm]; exact upd_same) (fun b o nb e => ?_)
  · have lk : ∀ f : Str, (putF "lacking" V.non (putF "had" (.ref D) (putF "reads" (.ref R) []))).lookup f = if f = "lacking" then some .non else if f = "had" then some (.ref D) else if f = "reads" then some (.ref R) else none := fun f => by
      rw [lookup_putF, lookup_putF, lookup_putF]
      rfl
    refine ⟨?_, ?_, ?_, ?_, ?_, ?_, by rw [e3]; rfl⟩
    · rw [lk, if_neg (by decide +kernel), if_neg (by decide +kernel), if_pos rfl]
    · rw [lk, if_neg (by decide +kernel), if_pos rfl]
    · rw [lk, if_pos rfl]
    · rw [lk, if_neg (by decide +kernel), if_neg (by decide +kernel), if_neg (by decide +kernel)]
    · rw [lk, if_neg (by decide +kernel), if_neg (by decide +kernel), if_neg (by decide +kernel)]
    · rw [lk, if_neg (by decide +kernel), if_neg (by decide +kernel), if_neg (by decide +kernel)]
  · rw [upd_ne nb, upd_ne nb, upd_ne (fun z => by rw [z, nD0] at e; cases e), upd_ne nb]
    exact e
abbrev s_Going_look : Stmt := inClass (topS 6) 1
abbrev N_Going_look : List Str := ["self", "name", "read", "number"]
theorem sc_Going_look : FnScope N_Going_look ["self", "name"] (defScope s_Going_look) := ⟨rfl, rfl, rfl, by decide +kernel, rfl, by decide +kernel, by decide +kernel⟩

theorem ok_Going_look (T : Txt K mg) (ZGoing : GoT K mg C fI) (XNoRead : NoX K mg "NoRead" CN) (D : IsMet K C "look" "Going.look" s_Going_look ["self", "name"]) : Met P w K mg base (L2.CX P w) 1 C "look" ["self", "name"] (spGLook C CN) := by
  refine D.metX sc_Going_look (fun vs H Q E h => ?_) (fun f cdv A outer s H vs Q E hr h => ?_)
  · obtain ⟨g, R, D, s, rd, n, rfl, _⟩ := h
    rfl
  obtain ⟨g, R, D, s0, rd, n, rfl, ⟨hO, hD, xs, hR, hP⟩, hn, h100, q1, q2, q3⟩ := h
  have hu : (cxOf (L2.CX P w) P w K mg base N_Going_look "Going.look" (defScope s_Going_look) f cdv A outer s H E).A.units + 1 < cLine := Nat.lt_of_le_of_lt (Nat.add_le_add_left (by decide : 1 ≤ 64) _) hr.units
  refine ⟨_, (pss_cons (ps_if (pt_cmp (pc_din hu (pv 1) (pe_fld (pv 0) rfl)))
        (pss_one (ps_ret (pe_dget hu (pe_fld (pv 0) rfl) (pv 1) (fun _ _ => rfl))))
        pss_nil)
      (pss_cons (ps_if (pt_cmpR op_eq (pe_callB call_lenD (by rfl) T.b_len PySem.boot_len (pa_cons (pe_fld (pv 0) rfl) pa_nil)) (pe_callB call_len_seq (by rfl) T.b_len PySem.boot_len (pa_cons (pe_fld (pv 0) rfl) pa_nil)) (nomark _))
        (pss_cons (ps_fld (pv 0) (pv 1) rfl)
      (pss_one (ps_ret pe_non)))
        pss_nil)
      (pss_cons (ps_asg (pe_ix (r := rIxL K) ix_list (pe_fld (pv 0) rfl) (pe_callB call_lenD (by rfl) T.b_len PySem.boot_len (pa_cons (pe_fld (pv 0) rfl) pa_nil)) (fun _ _ => rfl)) (pg_tup rfl (pgs_cons (pg_name (i := 2) sc_Going_look.nd rfl (Or.inl rfl)) (pgs_cons (pg_name (i := 3) sc_Going_look.nd rfl (Or.inl rfl)) pgs_nil))))
      (pss_cons (ps_if (pt_cmpR op_ne (pv 2) (pv 1) (nomark _))
        (pss_one (ps_raise rfl (takes_of rfl rfl rfl rfl) (pmk_own PySem.F.excBase_ValueError XNoRead.x XNoRead.g XNoRead.k (raises_own XNoRead.b XNoRead.t) rfl)))
        pss_nil)
      (pss_cons (ps_dput hu (pe_fld (pv 0) rfl) (pv 1) (pv 3) rfl)
      (pss_one (ps_ret (pv 3)))))))), ?_⟩
  obtain ⟨dx, fs, hg, l1, l2, l3, l4, l5, l6, l7⟩ := id hO
  have ngD : g ≠ D := fun z => by rw [z, hD] at hg; cases hg
  have hln : (numsK (rd.take n)).length = n := by rw [numsK_len, List.length_take]; omega
  have hxl := hP.len
  refine ⟨_, rfl, _, rfl, g, C, dx, _, _, rfl, hg, ZGoing.cl, ZGoing.nH, l2, D, _, rfl, DGet.k (k := kT (SX.S s0)) hD, _, rfl, ?_⟩
  rw [val_seen]
  cases e : seen (rd.take n) s0 with
  | some v =>
    have dV : DGet H D (.str (SX.S s0)) (some (.int v)) := (show valV (numsK (rd.take n)) (kT (SX.S s0)) = some (.int v) by rw [val_seen, e]; rfl) ▸ DGet.k (k := kT (SX.S s0)) hD
    refine iteT ?_
    exact ⟨_, rfl, g, C, dx, _, _, rfl, hg, ZGoing.cl, ZGoing.nH, l2, _, rfl, D, _, rfl, dV, q1 v n H (lookG_seen e) (Fr2.refl g D H) ⟨hO, hD, xs, hR, hP⟩⟩
  | none =>
    refine iteF ?_
    refine ⟨_, rfl, g, C, dx, _, _, rfl, hg, ZGoing.cl, ZGoing.nH, l2, D, _, rfl, hD, _, rfl, g, C, dx, _, _, rfl, hg, ZGoing.cl, ZGoing.nR, l1, R, _, rfl, .inl (SqL.of hR), rfl, _, rfl, ?_⟩
    rw [hln, hxl]
    by_cases c : n = rd.length
    · refine iteY (by rw [c]) ?_
      obtain ⟨dx', fs', hg', hl', hO'⟩ := hO.lack (.str (SX.S s0))
      refine ⟨_, rfl, _, rfl, g, C, dx', _, rfl, hg', ZGoing.cl, ZGoing.nL, hl', ?_⟩
      exact q2 s0 _ (lookG_last e (List.getElem?_eq_none (by omega))) (fun x u n1 _ e => by rw [upd_ne n1]; exact e) hO'
    · refine iteN (fun z => c (by have := V.int.inj z; omega)) ?_
      have hlt : n < rd.length := by omega
      have e2 : rd[n]? = some rd[n] := List.getElem?_eq_getElem hlt
      obtain ⟨p, hp⟩ : ∃ p, p = rd[n] := ⟨_, rfl⟩
      rw [← hp] at e2
      have hxn : xs[n]? = some xs[n] := List.getElem?_eq_getElem (by omega)
      obtain ⟨p', t, hp', ht0, ht⟩ := hP.at hxn
      obtain rfl : p' = p := Option.some.inj (hp'.symm.trans e2)
      rw [ht0] at hxn
      refine ⟨_, rfl, g, C, dx, _, _, rfl, hg, ZGoing.cl, ZGoing.nR, l1, _, rfl, g, C, dx, _, _, rfl, hg, ZGoing.cl, ZGoing.nH, l2, D, _, rfl, hD, R, _, _, _, rfl, rfl, SqL.of hR, by rw [hln]; exact atI_nat hxn, t, _, rfl, SqT.of ht, rfl, _, _, rfl, _, _, rfl, rfl, ?_⟩
      refine ⟨_, rfl, _, rfl, rfl, _, rfl, ?_⟩
      by_cases cp : p'.1 = s0
      · refine not_true_eq (decide_eq_true (by rw [cp])) ?_
        have etk : rd.take (n + 1) = rd.take n ++ [(s0, p'.2)] := by
          rw [List.take_add_one, e2, ← cp]
          rfl
        refine ⟨_, rfl, _, rfl, g, C, dx, _, _, rfl, hg, ZGoing.cl, ZGoing.nH, l2, _, rfl, D, _, rfl, DPut.k (k := kT (SX.S s0)) hD (lt_line (by omega)), ?_⟩
        rw [nums_put e, ← etk]
        have nRD : R ≠ D := fun z => by rw [z, hD] at hR; cases hR
        refine ⟨_, rfl, q1 p'.2 (n + 1) _ (lookG_right e e2 cp) (fun x u _ n2 e => by rw [upd_ne n2]; exact e) ⟨hO.same (upd_ne ngD), upd_same, xs, by rw [upd_ne nRD]; exact hR, hP.keep fun b zs e => ?_⟩⟩
        have nb : b ≠ D := fun z => by rw [z, hD] at e; cases e
        rw [upd_ne nb]
        exact e
      · refine not_false_eq (decide_eq_false fun z => cp (strS_inj z)) ?_
        exact q3 _ (lookG_bad e e2 cp) (Fr2.refl g D H)
end
/-! ### Going through a recipe; behind -/
theorem StG.same {C : Addr} {H H' : Hp} {g R D : Addr} {rd : List Pr} {n : Nat} (k : StG C H g R D rd n) (s : Same H H') : StG C H' g R D rd n := by
  obtain ⟨⟨dx, fs, h1, h2⟩, h3, xs, h4, h5⟩ := k
  exact ⟨⟨dx, fs, s _ _ h1, h2⟩, s _ _ h3, xs, s _ _ h4, h5.same s⟩
def spGTwo (C CN : Addr) (j : Nat) : Sp := fun vs H Q E => ∃ (g R D : Addr) (k : Kd) (x : Int) (v : V) (b : Rcp) (rd : List Pr) (m e : Nat), vs = [.ref g, .str k.name, .int x, v] ∧ Rec H b v ∧ b.Nb ∧ b.dep ≤ j ∧ b.dep ≤ 9 ∧ StG C H g R D rd m ∧ m ≤ rd.length ∧ rd.length ≤ 1000000 ∧ Small rd ∧ 0 < e ∧ e ≤ 204800 ∧ x.natAbs < 2 ^ e ∧
  TellG Q E C CN rd g R D H ((go rd b m).bind fun y l => .ok (k.ap x y) l)
def spGWorth (C CN : Addr) (j : Nat) : Sp := fun vs H Q E => ∃ (g R D : Addr) (v : V) (r : Rcp) (rd : List Pr) (n : Nat), vs = [.ref g, v] ∧ Rec H r v ∧ r.Nb ∧ r.dep ≤ j ∧ r.dep ≤ 9 ∧ StG C H g R D rd n ∧ n ≤ rd.length ∧ rd.length ≤ 1000000 ∧ Small rd ∧ TellG Q E C CN rd g R D H (go rd r n)
section
variable {P : Program} {w : World} {K : PySem.W.Frag} {mg : Str → Option Value} {base : Heap} {C fI CN : Addr}
abbrev s_Going_two : Stmt := inClass (topS 6) 2
abbrev N_Going_two : List Str := ["self", "kind", "one", "r", "other"]
theorem sc_Going_two : FnScope N_Going_two ["self", "kind", "one", "r"] (defScope s_Going_two) := ⟨rfl, rfl, rfl, by decide +kernel, rfl, by decide +kernel, by decide +kernel⟩

theorem ok_Going_two {j : Nat} (T : Txt K mg) (ZGoing : GoT K mg C fI) (D : IsMet K C "two" "Going.two" s_Going_two ["self", "kind", "one", "r"]) (MW : Met P w K mg base (L2.CX P w) (2 * j + 1) C "worth" ["self", "r"] (spGWorth C CN j)) :
    Met P w K mg base (L2.CX P w) (2 * j + 2) C "two" ["self", "kind", "one", "r"] (spGTwo C CN j) := by
  obtain ⟨f_w, fd_w, F_Going_worth, M_Going_worth, B_Going_worth⟩ := MW
  refine D.metX sc_Going_two (fun vs H Q E h => ?_) (fun f cdv A outer s H vs Q E hr h => ?_)
  · obtain ⟨g, R, D, k, x, v, b, rd, m, e, rfl, _⟩ := h
    rfl
  obtain ⟨g, R, D, k, x, v, b, rd, m, e, rfl, hRc, hNb, hd, h9, hS, hm, h100, hsm, e0, e1, ex, q1, q2, q3⟩ := h
  refine ⟨_, (pss_cons (ps_set (i := 4) sc_Going_two.nd rfl (Or.inl rfl) (pe_meth (pv 0) ZGoing.cl M_Going_worth F_Going_worth (hr.mono (by first | decide | omega)) B_Going_worth .nil (passes_call (takes_of rfl rfl rfl rfl) (fun _ _ _ _ h => h)) (pa_cons (pv 3) pa_nil)))
      (pss_cons (ps_if (pt_cmpR op_isN (pv 4) pe_non (nomark _))
        (pss_one (ps_ret pe_non))
        pss_nil)
      (pss_cons (ps_if (pt_cmpR op_eq (pv 1) pe_str (nomark _))
        (pss_one (ps_ret (pe_op op_add (pv 2) (pv 4))))
        pss_nil)
      (pss_cons (ps_if (pt_cmpR op_eq (pv 1) pe_str (nomark _))
        (pss_one (ps_ret (pe_op op_sub (pv 2) (pv 4))))
        pss_nil)
      (pss_cons (ps_if (pt_cmpR op_eq (pv 1) pe_str (nomark _))
        (pss_one (ps_ret (pe_op op_mulW (pv 2) (pv 4))))
        pss_nil)
      (pss_one (ps_ret (pe_callB (call_max2 rfl) (by rfl) T.b_max (by decide +kernel) (pa_cons (pv 2) (pa_cons (pv 4) pa_nil)))))))))), ?_⟩
  obtain ⟨dx, fs, hg, _, _, _, _, l5, _⟩ := hS.1
  refine ⟨_, rfl, g, dx, fs, rfl, hg, l5, _, rfl, g, R, D, v, b, rd, m, rfl, hRc, hNb, hd, h9, hS, hm, h100, hsm, ?_, ?_, ?_⟩
  · intro y l H1 h1 f1 S1
    obtain ⟨_, _, d, d0, d1, dy⟩ := go_small hsm hNb h9 hm h1
    have q1' := q1 (k.ap x y) l H1 (by rw [h1]; rfl) f1 S1
    refine ⟨_, rfl, rfl, _, rfl, iteN (fun z => by cases z) ?_⟩
    cases k with
    | plus => exact ⟨_, rfl, rfl, _, rfl, iteY rfl ⟨_, rfl, _, rfl, _, _, rfl, rfl, q1'⟩⟩
    | minus => exact ⟨_, rfl, rfl, _, rfl, iteN (sne (by decide +kernel)) ⟨_, rfl, rfl, _, rfl, iteY rfl ⟨_, rfl, _, rfl, _, _, rfl, rfl, q1'⟩⟩⟩
    | times => exact ⟨_, rfl, rfl, _, rfl, iteN (sne (by decide +kernel)) ⟨_, rfl, rfl, _, rfl, iteN (sne (by decide +kernel)) ⟨_, rfl, rfl, _, rfl, iteY rfl ⟨_, rfl, _, rfl, _, _, rfl, rfl, wide_mul ex dy e0 d0 (by omega), q1'⟩⟩⟩⟩
    | most => exact ⟨_, rfl, rfl, _, rfl, iteN (sne (by decide +kernel)) ⟨_, rfl, rfl, _, rfl, iteN (sne (by decide +kernel)) ⟨_, rfl, rfl, _, rfl, iteN (sne (by decide +kernel)) ⟨_, rfl, _, rfl, _, _, rfl, q1'⟩⟩⟩⟩
  · intro t H1 h1 f1 O1
    exact ⟨_, rfl, rfl, _, rfl, iteY rfl (q2 t H1 (by rw [h1]; rfl) f1 O1)⟩
  · intro H1 h1 f1
    exact q3 H1 (by rw [h1]; rfl) f1
abbrev s_Going_worth : Stmt := inClass (topS 6) 3
abbrev N_Going_worth : List Str := ["self", "r", "one"]
theorem sc_Going_worth : FnScope N_Going_worth ["self", "r"] (defScope s_Going_worth) := ⟨rfl, rfl, rfl, by decide +kernel, rfl, by decide +kernel, by decide +kernel⟩

theorem ok_Going_worth (T : Txt K mg) (ZGoing : GoT K mg C fI) (D : IsMet K C "worth" "Going.worth" s_Going_worth ["self", "r"]) (D2 : IsMet K C "two" "Going.two" s_Going_two ["self", "kind", "one", "r"]) (ML : Met P w K mg base (L2.CX P w) 1 C "look" ["self", "name"] (spGLook C CN)) :
    ∀ j, Met P w K mg base (L2.CX P w) (2 * j + 1) C "worth" ["self", "r"] (spGWorth C CN j)
  | 0 => met_none D fun vs H Q E h => by
    obtain ⟨_, _, _, _, r, _, _, _, _, _, hd, _⟩ := h
    have := dep_pos r
    omega
  | j + 1 => by
    have MW := ok_Going_worth T ZGoing D D2 ML j
    have M2 := ok_Going_two T ZGoing D2 MW
    obtain ⟨f_w, fd_w, F_Going_worth, M_Going_worth, B_Going_worth⟩ := MW
    obtain ⟨f_t, fd_t, F_Going_two, M_Going_two, B_Going_two⟩ := M2
    obtain ⟨f_l, fd_l, F_Going_look, M_Going_look, B_Going_look⟩ := ML
    refine D.metX (k := 2 * j + 2) sc_Going_worth (fun vs H Q E h => ?_) (fun f cdv A outer s H vs Q E hr h => ?_)
    · obtain ⟨g, R, D, v, r, rd, n, rfl, _⟩ := h
      rfl
    obtain ⟨g, R, D, v, r, rd, n, rfl, hRc, hNb, hd, h9, hS, hn, h100, hsm, q1, q2, q3⟩ := h
    refine ⟨_, (pss_cons (ps_if (pt_cmpR op_eq (pe_ix (r := rIxT K) ix_tup (pv 1) pe_int (fun _ _ => rfl)) pe_str (nomark _))
        (pss_one (ps_ret (pe_ix (r := rIxT K) ix_tup (pv 1) pe_int (fun _ _ => rfl))))
        pss_nil)
      (pss_cons (ps_if (pt_cmpR op_eq (pe_ix (r := rIxT K) ix_tup (pv 1) pe_int (fun _ _ => rfl)) pe_str (nomark _))
        (pss_one (ps_ret (pe_meth (pv 0) ZGoing.cl M_Going_look F_Going_look (hr.mono (by first | decide | omega)) B_Going_look .nil (passes_call (takes_of rfl rfl rfl rfl) (fun _ _ _ _ h => h)) (pa_cons (pe_ix (r := rIxT K) ix_tup (pv 1) pe_int (fun _ _ => rfl)) pa_nil))))
        pss_nil)
      (pss_cons (ps_set (i := 2) sc_Going_worth.nd rfl (Or.inl rfl) (pe_meth (pv 0) ZGoing.cl M_Going_worth F_Going_worth (hr.mono (by first | decide | omega)) B_Going_worth .nil (passes_call (takes_of rfl rfl rfl rfl) (fun _ _ _ _ h => h)) (pa_cons (pe_ix (r := rIxT K) ix_tup (pv 1) pe_int (fun _ _ => rfl)) pa_nil)))
      (pss_cons (ps_if (pt_cmpR op_isN (pv 2) pe_non (nomark _))
        (pss_one (ps_ret pe_non))
        pss_nil)
      (pss_cons (ps_if (pt_cmpR op_eq (pe_ix (r := rIxT K) ix_tup (pv 1) pe_int (fun _ _ => rfl)) pe_str (nomark _))
        (pss_one (ps_ret (pe_meth (pv 0) ZGoing.cl M_Going_look F_Going_look (hr.mono (by first | decide | omega)) B_Going_look .nil (passes_call (takes_of rfl rfl rfl rfl) (fun _ _ _ _ h => h)) (pa_cons (pe_ix (r := rIxT K) ix_tup (pe_ix (r := rIxT K) ix_tup (pv 1) pe_int (fun _ _ => rfl)) (pe_op op_mod (pv 2) (pe_callB call_len_seq (by rfl) T.b_len PySem.boot_len (pa_cons (pe_ix (r := rIxT K) ix_tup (pv 1) pe_int (fun _ _ => rfl)) pa_nil))) (fun _ _ => rfl)) pa_nil))))
        pss_nil)
      (pss_cons (ps_if (pt_cmpR op_eq (pe_ix (r := rIxT K) ix_tup (pv 1) pe_int (fun _ _ => rfl)) pe_str (nomark _))
        (pss_one (ps_ret (pe_meth (pv 0) ZGoing.cl M_Going_worth F_Going_worth (hr.mono (by first | decide | omega)) B_Going_worth .nil (passes_call (takes_of rfl rfl rfl rfl) (fun _ _ _ _ h => h)) (pa_cons (pe_ix (r := rIxT K) ix_tup (pv 1) (pe_op op_add pe_int (pe_callTy call_int1 (by rfl) T.b_int (by decide +kernel) (pa_cons (pe_cmpR op_le (pv 2) pe_int (nomark _)) pa_nil))) (fun _ _ => rfl)) pa_nil))))
        pss_nil)
      (pss_one (ps_ret (pe_meth (pv 0) ZGoing.cl M_Going_two F_Going_two (hr.mono (by first | decide | omega)) B_Going_two .nil (passes_call (takes_of rfl rfl rfl rfl) (fun _ _ _ _ h => h)) (pa_cons (pe_ix (r := rIxT K) ix_tup (pv 1) pe_int (fun _ _ => rfl)) (pa_cons (pv 2) (pa_cons (pe_ix (r := rIxT K) ix_tup (pv 1) pe_int (fun _ _ => rfl)) pa_nil)))))))))))), ?_⟩
    obtain ⟨dx, fs, hg, _, _, _, l4, l5, l6, _⟩ := id hS.1
    cases r with
    | num x =>
      obtain ⟨p, rfl, hp⟩ := hRc
      refine ⟨_, rfl, p, _, _, _, rfl, rfl, SqT.of hp, rfl, rfl, _, rfl, iteY rfl ?_⟩
      exact ⟨_, rfl, p, _, _, _, rfl, rfl, SqT.of hp, rfl, q1 x n H rfl (Fr2.refl g D H) hS⟩
    | read s0 =>
      obtain ⟨p, rfl, hp⟩ := hRc
      refine ⟨_, rfl, p, _, _, _, rfl, rfl, SqT.of hp, rfl, rfl, _, rfl, iteN (sne (by decide +kernel)) ?_⟩
      refine ⟨_, rfl, p, _, _, _, rfl, rfl, SqT.of hp, rfl, rfl, _, rfl, iteY rfl ?_⟩
      exact ⟨_, rfl, g, dx, fs, rfl, hg, l4, _, rfl, p, _, _, _, rfl, rfl, SqT.of hp, rfl, g, R, D, s0, rd, n, rfl, hS, hn, h100, q1, q2, q3⟩
    | two k a b =>
      obtain ⟨p, x, y, rfl, hp, ha, hb⟩ := hRc
      have hd1 : a.dep ≤ j ∧ b.dep ≤ j ∧ a.dep ≤ 9 ∧ b.dep ≤ 9 := by
        have e : (Rcp.two k a b).dep = max a.dep b.dep + 1 := rfl
        omega
      refine ⟨_, rfl, p, _, _, _, rfl, rfl, SqT.of hp, rfl, rfl, _, rfl, iteN (sne (by cases k <;> decide +kernel)) ?_⟩
      refine ⟨_, rfl, p, _, _, _, rfl, rfl, SqT.of hp, rfl, rfl, _, rfl, iteN (sne (by cases k <;> decide +kernel)) ?_⟩
      refine ⟨_, rfl, g, dx, fs, rfl, hg, l5, _, rfl, p, _, _, _, rfl, rfl, SqT.of hp, rfl, g, R, D, x, a, rd, n, rfl, ha, hNb.1, hd1.1, hd1.2.2.1, hS, hn, h100, hsm, ?_⟩
      refine ⟨fun vx m H1 h1 f1 S1 => ?_, fun t H1 h1 f1 O1 => ⟨_, rfl, rfl, _, rfl, iteY rfl (q2 t H1 (by show Res.bind _ _ = _; rw [h1]; rfl) f1 O1)⟩, fun H1 h1 f1 => q3 H1 (by show Res.bind _ _ = _; rw [h1]; rfl) f1⟩
      obtain ⟨_, hm, e1, e10, e11, e12⟩ := go_small hsm hNb.1 hd1.2.2.1 hn h1
      have k1 := hS.keep f1
      have hp1 := k1 _ _ hp
      obtain ⟨dx1, fs1, hg1, _, _, _, l41, l51, l61, _⟩ := id S1.1
      have e0 : go rd (.two k a b) n = (go rd b m).bind fun vy l => .ok (k.ap vx vy) l := by show Res.bind _ _ = _; rw [h1]; rfl
      rw [e0] at q1 q2 q3
      refine ⟨_, rfl, rfl, _, rfl, iteN (fun z => by cases z) ?_⟩
      refine ⟨_, rfl, p, _, _, _, rfl, rfl, SqT.of hp1, rfl, rfl, _, rfl, iteN (sne (by cases k <;> decide +kernel)) ?_⟩
      refine ⟨_, rfl, p, _, _, _, rfl, rfl, SqT.of hp1, rfl, rfl, _, rfl, iteN (sne (by cases k <;> decide +kernel)) ?_⟩
      refine ⟨_, rfl, g, dx1, fs1, rfl, hg1, l61, _, rfl, p, _, _, _, rfl, rfl, SqT.of hp1, rfl, _, rfl, _, rfl, p, _, _, _, rfl, rfl, SqT.of hp1, rfl, g, R, D, k, vx, y, b, rd, m, e1, rfl, hb.keep k1, hNb.2, hd1.2.1, hd1.2.2.2, S1, hm, h100, hsm, e10, e11, e12, ?_⟩
      exact ⟨fun v m' H' h f S => q1 v m' H' h (f1.trans f) S, fun t H' h f O => q2 t H' h (f1.trans f) O, fun H' h f => q3 H' h (f1.trans f)⟩
    | pick a b c =>
      obtain ⟨p, x, y, z, rfl, hp, ha, hb, hc⟩ := hRc
      have hd1 : a.dep ≤ j ∧ b.dep ≤ j ∧ c.dep ≤ j ∧ a.dep ≤ 9 ∧ b.dep ≤ 9 ∧ c.dep ≤ 9 := by
        have e : (Rcp.pick a b c).dep = max a.dep (max b.dep c.dep) + 1 := rfl
        omega
      refine ⟨_, rfl, p, _, _, _, rfl, rfl, SqT.of hp, rfl, rfl, _, rfl, iteN (sne (by decide +kernel)) ?_⟩
      refine ⟨_, rfl, p, _, _, _, rfl, rfl, SqT.of hp, rfl, rfl, _, rfl, iteN (sne (by decide +kernel)) ?_⟩
      refine ⟨_, rfl, g, dx, fs, rfl, hg, l5, _, rfl, p, _, _, _, rfl, rfl, SqT.of hp, rfl, g, R, D, x, a, rd, n, rfl, ha, hNb.1, hd1.1, hd1.2.2.2.1, hS, hn, h100, hsm, ?_⟩
      refine ⟨fun vx m H1 h1 f1 S1 => ?_, fun t H1 h1 f1 O1 => ⟨_, rfl, rfl, _, rfl, iteY rfl (q2 t H1 (by show Res.bind _ _ = _; rw [h1]; rfl) f1 O1)⟩, fun H1 h1 f1 => q3 H1 (by show Res.bind _ _ = _; rw [h1]; rfl) f1⟩
      obtain ⟨_, hm, _⟩ := go_small hsm hNb.1 hd1.2.2.2.1 hn h1
      have k1 := hS.keep f1
      have hp1 := k1 _ _ hp
      obtain ⟨dx1, fs1, hg1, _, _, _, l41, l51, l61, _⟩ := id S1.1
      have e0 : go rd (.pick a b c) n = if vx > 0 then go rd b m else go rd c m := by show Res.bind _ _ = _; rw [h1]; rfl
      rw [e0] at q1 q2 q3
      refine ⟨_, rfl, rfl, _, rfl, iteN (fun z => by cases z) ?_⟩
      refine ⟨_, rfl, p, _, _, _, rfl, rfl, SqT.of hp1, rfl, rfl, _, rfl, iteN (sne (by decide +kernel)) ?_⟩
      refine ⟨_, rfl, p, _, _, _, rfl, rfl, SqT.of hp1, rfl, rfl, _, rfl, iteY rfl ?_⟩
      by_cases c0 : vx > 0
      · rw [if_pos c0] at q1 q2 q3
        refine ⟨_, rfl, g, dx1, fs1, rfl, hg1, l51, _, rfl, _, rfl, _, _, rfl, rfl, .inr ⟨_, rfl, _, _, rfl, rfl, p, _, _, y, rfl, rfl, SqT.of hp1, ?_, g, R, D, y, b, rd, m, rfl, hb.keep k1, hNb.2.1, hd1.2.1, hd1.2.2.2.2.1, S1, hm, h100, hsm, ?_⟩⟩
        · show atI [.str "pick", x, y, z] (2 + (if decide (vx ≤ 0) = true then 1 else 0)) = _
          rw [if_neg (fun z => by have := of_decide_eq_true z; omega)]
          rfl
        · exact ⟨fun v m' H' h f S => q1 v m' H' h (f1.trans f) S, fun t H' h f O => q2 t H' h (f1.trans f) O, fun H' h f => q3 H' h (f1.trans f)⟩
      · rw [if_neg c0] at q1 q2 q3
        refine ⟨_, rfl, g, dx1, fs1, rfl, hg1, l51, _, rfl, _, rfl, _, _, rfl, rfl, .inr ⟨_, rfl, _, _, rfl, rfl, p, _, _, z, rfl, rfl, SqT.of hp1, ?_, g, R, D, z, c, rd, m, rfl, hc.keep k1, hNb.2.2, hd1.2.2.1, hd1.2.2.2.2.2, S1, hm, h100, hsm, ?_⟩⟩
        · show atI [.str "pick", x, y, z] (2 + (if decide (vx ≤ 0) = true then 1 else 0)) = _
          rw [if_pos (decide_eq_true (by omega))]
          rfl
        · exact ⟨fun v m' H' h f S => q1 v m' H' h (f1.trans f) S, fun t H' h f O => q2 t H' h (f1.trans f) O, fun H' h f => q3 H' h (f1.trans f)⟩
    | choose a ns =>
      obtain ⟨p, x, t2, rfl, hp, ha, ht2⟩ := hRc
      have hd1 : a.dep ≤ j ∧ a.dep ≤ 9 := by
        have e : (Rcp.choose a ns).dep = a.dep + 1 := rfl
        omega
      refine ⟨_, rfl, p, _, _, _, rfl, rfl, SqT.of hp, rfl, rfl, _, rfl, iteN (sne (by decide +kernel)) ?_⟩
      refine ⟨_, rfl, p, _, _, _, rfl, rfl, SqT.of hp, rfl, rfl, _, rfl, iteN (sne (by decide +kernel)) ?_⟩
      refine ⟨_, rfl, g, dx, fs, rfl, hg, l5, _, rfl, p, _, _, _, rfl, rfl, SqT.of hp, rfl, g, R, D, x, a, rd, n, rfl, ha, hNb.1, hd1.1, hd1.2, hS, hn, h100, hsm, ?_⟩
      refine ⟨fun vx m H1 h1 f1 S1 => ?_, fun t H1 h1 f1 O1 => ⟨_, rfl, rfl, _, rfl, iteY rfl (q2 t H1 (by show Res.bind _ _ = _; rw [h1]; rfl) f1 O1)⟩, fun H1 h1 f1 => q3 H1 (by show Res.bind _ _ = _; rw [h1]; rfl) f1⟩
      obtain ⟨_, hm, _⟩ := go_small hsm hNb.1 hd1.2 hn h1
      have k1 := hS.keep f1
      have hp1 := k1 _ _ hp
      have ht21 := k1 _ _ ht2
      obtain ⟨dx1, fs1, hg1, _, _, _, l41, l51, l61, _⟩ := id S1.1
      have e0 : go rd (.choose a ns) n = lookG rd m (nthN ns vx) := by show Res.bind _ _ = _; rw [h1]; rfl
      rw [e0] at q1 q2 q3
      obtain ⟨i, hi, hi2⟩ := nth_mem hNb.2.1 vx
      have hi3 := (List.getElem?_eq_some_iff.mp hi2).1
      refine ⟨_, rfl, rfl, _, rfl, iteN (fun z => by cases z) ?_⟩
      refine ⟨_, rfl, p, _, _, _, rfl, rfl, SqT.of hp1, rfl, rfl, _, rfl, iteY rfl ?_⟩
      refine ⟨_, rfl, g, dx1, fs1, rfl, hg1, l41, _, rfl, p, _, _, _, rfl, rfl, SqT.of hp1, rfl, _, rfl, _, rfl, p, _, _, _, rfl, rfl, SqT.of hp1, rfl, t2, _, rfl, .inr (SqT.of ht21), _, _, rfl, rfl, ?_, t2, _, _, .str (SX.S (nthN ns vx)), rfl, rfl, SqT.of ht21, ?_, g, R, D, nthN ns vx, rd, m, rfl, S1, hm, h100, ?_⟩
      · show (0 : Int) < ((txs ns).length : Nat)
        rw [txs_len]
        have := hNb.2.1
        omega
      · show atI (txs ns) (vx % (((txs ns).length : Nat) : Int)) = _
        rw [txs_len, hi]
        refine atI_nat ?_
        rw [txs_get hi3, Option.some.inj ((List.getElem?_eq_getElem hi3).symm.trans hi2)]
      · exact ⟨fun v m' H' h f S => q1 v m' H' h (f1.trans f) S, fun t H' h f O => q2 t H' h (f1.trans f) O, fun H' h f => q3 H' h (f1.trans f)⟩
end
/-! ### behind -/
def spBhd (CN : Addr) : Sp := fun vs H Q E => ∃ (v : V) (R : Addr) (r : Rcp) (rd : List Pr) (xs : List V), vs = [v, .ref R] ∧ Rec H r v ∧ r.Nb ∧ r.dep ≤ 9 ∧ H R = some (.lst xs) ∧ Prs H rd xs ∧ rd.length ≤ 1000000 ∧ Small rd ∧ TellO Q (fun H' => E (.ref CN) none H') (outOf rd r) H
section
variable {P : Program} {w : World} {K : PySem.W.Frag} {mg : Str → Option Value} {base : Heap} {C fI CN : Addr}
abbrev s_behind : Stmt := topS 7
abbrev N_behind : List Str := ["r", "reads", "going", "worth"]
theorem sc_behind : FnScope N_behind ["r", "reads"] (defScope s_behind) := ⟨rfl, rfl, rfl, by decide +kernel, rfl, by decide +kernel, by decide +kernel⟩

theorem ok_behind (T : Txt K mg) (ZGoing : GoT K mg C fI) (XNoRead : NoX K mg "NoRead" CN) (D : IsDef K mg "behind" s_behind ["r", "reads"]) {fdI : FuncData} (F_Going___init__ : FnOk P w K mg base CX0 1 fI fdI ["self", "reads"] (spGInit C)) (B_Going___init__ : Binds K fdI ["self", "reads"] [])
    (MW : Met P w K mg base (L2.CX P w) 19 C "worth" ["self", "r"] (spGWorth C CN 9)) : Cal P w K mg base (L2.CX P w) 20 "behind" ["r", "reads"] (spBhd CN) := by
  obtain ⟨f_w, fd_w, F_Going_worth, M_Going_worth, B_Going_worth⟩ := MW
  refine D.calX2 sc_behind (fun vs H Q E h => ?_) (fun f cdv A outer s H vs Q E hr h => ?_)
  · obtain ⟨v, R, r, rd, xs, rfl, _⟩ := h
    rfl
  obtain ⟨v, R, r, rd, xs, rfl, hRc, hNb, h9, hR, hP, h100, hsm, q1, q2, q3⟩ := h
  refine ⟨_, (pss_cons (ps_set (i := 2) sc_behind.nd rfl (Or.inl rfl) (pe_make ZGoing.mkI F_Going___init__ (hr.mono (by first | decide | omega)) rfl ZGoing.g B_Going___init__ .nil pass0 (pa_cons (pv 1) pa_nil)))
      (pss_cons (ps_set (i := 3) sc_behind.nd rfl (Or.inl rfl) (pe_meth (pv 2) ZGoing.cl M_Going_worth F_Going_worth (hr.mono (by first | decide | omega)) B_Going_worth .nil (passes_call (takes_of rfl rfl rfl rfl) (fun _ _ _ _ h => h)) (pa_cons (pv 0) pa_nil)))
      (pss_cons (ps_if (pt_cmpR op_notN (pe_fld (pv 2) rfl) pe_non (nomark _))
        (pss_one (ps_ret (pe_tup (pa_cons pe_str (pa_cons (pe_fld (pv 2) rfl) pa_nil)))))
        pss_nil)
      (pss_cons (ps_if (pt_cmpR op_lt (pe_callB call_lenD (by rfl) T.b_len PySem.boot_len (pa_cons (pe_fld (pv 2) rfl) pa_nil)) (pe_callB call_len_seq (by rfl) T.b_len PySem.boot_len (pa_cons (pv 1) pa_nil)) (nomark _))
        (pss_one (ps_raise rfl (takes_of rfl rfl rfl rfl) (pmk_own PySem.F.excBase_ValueError XNoRead.x XNoRead.g XNoRead.k (raises_own XNoRead.b XNoRead.t) rfl)))
        pss_nil)
      (pss_one (ps_ret (pe_tup (pa_cons pe_str (pa_cons (pv 3) pa_nil))))))))), ?_⟩
  refine ⟨_, rfl, fun g dx ng ndx ne => ⟨g, R, dx, rfl, upd_same, fun D H1 nD hO hD hk => ⟨rfl, ?_⟩⟩⟩
  have ng0 : H g = none := ng
  have s0 : Same H (upd (upd H dx (.own g)) g (.ins C dx [])) := fun b o e => by
    rw [upd_ne (ne_of_none e ng), upd_ne (ne_of_none e ndx)]
    exact e
  have s1 : Same H H1 := fun b o e => hk b o (ne_of_none e ng) (s0 b o e)
  have nD0 : H D = none := s0.free nD
  obtain ⟨dx1, fs1, hg1, _, _, _, l4, l5, l6, _⟩ := id hO
  have fin : ∀ {H' : Hp}, Fr2 g D H1 H' → Same H H' := fun {H'} f b u e => f b u (fun z => by rw [z, ng0] at e; cases e) (fun z => by rw [z, nD0] at e; cases e) (s1 _ _ e)
  refine ⟨_, rfl, g, dx1, fs1, rfl, hg1, l5, _, rfl, g, R, D, v, r, rd, 0, rfl, hRc.same s1, hNb, h9, h9, ⟨hO, hD, xs, s1 _ _ hR, hP.same s1⟩, Nat.zero_le _, h100, hsm, ?_, ?_, ?_⟩
  · rintro x m H2 h2 f2 ⟨⟨dx2, fs2, hg2, _, l22, l32, _⟩, hD2, ys, hR2, hP2⟩
    have hml := (go_small hsm hNb h9 (Nat.zero_le _) h2).2.1
    have hln : (numsK (rd.take m)).length = m := by rw [numsK_len, List.length_take]; omega
    have hyl := hP2.len
    refine ⟨_, rfl, g, C, dx2, _, _, rfl, hg2, ZGoing.cl, ZGoing.nL, l32, rfl, _, rfl, not_true_eq (decide_eq_true rfl) ?_⟩
    refine ⟨_, rfl, g, C, dx2, _, _, rfl, hg2, ZGoing.cl, ZGoing.nH, l22, D, _, rfl, hD2, _, rfl, R, _, rfl, .inl (SqL.of hR2), _, _, rfl, rfl, _, rfl, ?_⟩
    rw [hln, hyl]
    by_cases c : m < rd.length
    · refine iteY (by omega) ?_
      exact q3 H2 ((out_ok h2).trans (if_pos c)) (fin f2)
    · refine iteN (by omega) ?_
      refine ⟨_, rfl, le_line (Nat.le_of_ble_eq_true rfl), fun t nt => ?_⟩
      exact q2 x t _ ((out_ok h2).trans (if_neg c)) ((fin f2).trans (same_new nt _)) upd_same
  · rintro s0 H2 h2 f2 ⟨dx2, fs2, hg2, _, l22, l32, _⟩
    refine ⟨_, rfl, g, C, dx2, _, _, rfl, hg2, ZGoing.cl, ZGoing.nL, l32, rfl, _, rfl, not_false_eq (decide_eq_false fun z => by cases z) ?_⟩
    refine ⟨_, rfl, g, C, dx2, _, _, rfl, hg2, ZGoing.cl, ZGoing.nL, l32, le_line (Nat.le_of_ble_eq_true rfl), fun t nt => ?_⟩
    exact q1 s0 t _ (out_lack h2) ((fin f2).trans (same_new nt _)) upd_same
  · intro H2 h2 f2
    exact q3 H2 (out_bad h2) (fin f2)
end
section
variable {X : Cx} {CX : CXT} {k : Nat} {ps : List Str} {sp : Sp} {E : L2.St → XK} {x : Str} {p pos : Pos}
theorem pe_calS {e : Expr} {es : List Expr} {t : TA} (c : Cal X.prog X.w X.K X.mg X.base CX k x ps sp) (hr : Room k X.A) (hx : ∀ σ, PassesAt CX X σ (E σ)) (ha : PA X (e :: es) t) (hg : Gl X x := by rfl)
    (hdb : (x == ("__debug__" : Str)) = false := by decide) (he : starEach (e :: es) X.env = (false, eval e X.env) :: starEach es X.env := by rfl) (hpl : (backTo pos (starEach es X.env)).any (·.1) = false := by rfl) :
    PE X (.Call (.Name x p) (e :: es) [] pos) (tCallS sp E t) := by
  obtain ⟨f, fd, F, m, kp, b⟩ := c
  exact pe_callS F hr hg m kp b hx ha hdb he hpl
end
/-! ### what is due, as data -/
theorem dp_read (K : PySem.W.Frag) {H : Hp} {t : Addr} {s : List Nat} (h : H t = some (.tup [.str "read", .str (SX.S s)])) (hs : Nm s) : Dp K H (.ref t) (.tuple [.str "read", .str (SX.S s)]) ∧ SeqAt.shaped (.tuple [.str "read", .str (SX.S s)]) = true ∧ PyData.eqv (.tuple [.str "read", .str (SX.S s)]) (.tuple [.str "read", .str (SX.S s)]) = true := by
  have h3 : (PyData.str (SX.S s)).canLay0 = true := nm_lay hs
  have h4 : (PyData.str "read").canLay0 = true := by decide +kernel
  have hc : (PyData.tuple [.str "read", .str (SX.S s)]).canLay0 = true := by
    show ((PyData.str "read").canLay0 && ((PyData.str (SX.S s)).canLay0 && true)) = true
    rw [h3, h4]
    rfl
  refine ⟨.tup (SqT.of h) (.cons (.str _) (.cons (.str _) .nil)), ?_, SeqAt.eqv_refl _ hc⟩
  show (((PyData.str "read").canLay0 && ((PyData.str (SX.S s)).canLay0 && true)) && decide (PyData.depthAll [.str "read", .str (SX.S s)] + 1 ≤ 64)) = true
  rw [h3, h4]
  rfl
theorem dp_worth (K : PySem.W.Frag) {H : Hp} {t : Addr} {x : Int} (h : H t = some (.tup [.str "worth", .int x])) : Dp K H (.ref t) (.tuple [.str "worth", .int x]) ∧ SeqAt.shaped (.tuple [.str "worth", .int x]) = true ∧ PyData.eqv (.tuple [.str "worth", .int x]) (.tuple [.str "worth", .int x]) = true := by
  have h3 : (PyData.int x).canLay0 = true := rfl
  have h4 : (PyData.str "worth").canLay0 = true := by decide +kernel
  have hc : (PyData.tuple [.str "worth", .int x]).canLay0 = true := by
    show ((PyData.str "worth").canLay0 && ((PyData.int x).canLay0 && true)) = true
    rw [h3, h4]
    rfl
  refine ⟨.tup (SqT.of h) (.cons (.str _) (.cons (.int _) .nil)), ?_, SeqAt.eqv_refl _ hc⟩
  show (((PyData.str "worth").canLay0 && ((PyData.int x).canLay0 && true)) && decide (PyData.depthAll [.str "worth", .int x] + 1 ≤ 64)) = true
  rw [h3, h4]
  rfl
theorem dp_reads (K : PySem.W.Frag) {H : Hp} {R : Addr} {rd : List Pr} {xs : List V} (h : H R = some (.lst xs)) (hP : Prs H rd xs) : Dp K H (.ref R) (.list (Th.pyL (rd.map pairTh))) :=
  Data.dp (t := .lst (rd.map pairTh)) (prs_flat _) ⟨R, _, rfl, h, hP.data⟩
theorem reads_eqv {rd : List Pr} (h : ∀ p ∈ rd, Nm p.1) : PyData.eqv (.list (Th.pyL (rd.map pairTh))) (.list (Th.pyL (rd.map pairTh))) = true := by
  obtain ⟨h1, _⟩ := prs_lay h
  exact SeqAt.eqv_refl _ h1
theorem out_nm {rd : List Pr} {r : Rcp} {s : List Nat} (hb : r.Nb) (h : outOf rd r = .read s) : Nm s :=
  nms_ok hb s (go_name hb (Nat.zero_le _) (out_next 0 h).1).1
/-! #### a build from a store tells what the reckoner tells -/
open LamX NdefX
structure HouseS (dm : Nat) (h : House) : Prop where
  ok : HouseOk dm h bet0
  rc : ∀ p ∈ h.recs, p.2.th.isRcp = true ∧ p.2.Nb ∧ p.2.dep ≤ 8
  sm : ∀ t v, Val h t v → v.natAbs < 2 ^ 400
  nd : (h.given.map (·.1) ++ h.recs.map (·.1)).Nodup
  few : h.given.length + h.recs.length ≤ 1000
structure StOk (h : House) (s : StS) : Prop where
  rk : RkOk h bet0 s.rk
  coh : Coh h s.rk
  rows : ∀ p ∈ s.book, rcpOf h.recs p.1 = some p.2.2.1 ∧ seen s.known p.1 = some p.2.2.2
  good : ∀ o ∈ s.held, GoodRow o
  gn : ∀ g ∈ s.going, seen h.given g = none
open Classical in
noncomputable def stF : List Row × List (List Nat) × List (List Nat) → Old → List Row × List (List Nat) × List (List Nat)
  | a, [] => a
  | (l, m, k), (t, o) :: b => if o ∈ l then stF (l, m, k ++ [t]) b else stF (l ++ [o], m ++ [t], k) b
open Classical in
theorem stF_app (b c : Old) : ∀ a, stF a (b ++ c) = stF (stF a b) c := by
  induction b with
  | nil => intro a; rfl
  | cons p b ih =>
    intro a
    obtain ⟨l, m, k⟩ := a
    obtain ⟨t, o⟩ := p
    show (if o ∈ l then stF (l, m, k ++ [t]) (b ++ c) else stF (l ++ [o], m ++ [t], k) (b ++ c)) = stF (if o ∈ l then stF (l, m, k ++ [t]) b else stF (l ++ [o], m ++ [t], k) b) c
    by_cases h : o ∈ l
    · rw [if_pos h, if_pos h, ih]
    · rw [if_neg h, if_neg h, ih]
def nms (o : List Pr) : List (List Nat) := o.map (·.1)
structure After (s s' : StS) : Prop where
  pre : ∃ l, s'.held = s.held ++ l
  fold : ∃ nb, s'.book = s.book ++ nb ∧ stF (s.held, s.made, s.kept) nb = (s'.held, s'.made, s'.kept)
theorem After.refl (s : StS) : After s s := ⟨⟨[], (List.append_nil _).symm⟩, [], (List.append_nil _).symm, rfl⟩
theorem After.trans {a b c : StS} (h : After a b) (k : After b c) : After a c := by
  obtain ⟨l, e1⟩ := h.pre
  obtain ⟨l2, e2⟩ := k.pre
  obtain ⟨n1, e3, e4⟩ := h.fold
  obtain ⟨n2, e5, e6⟩ := k.fold
  exact ⟨⟨l ++ l2, by rw [e2, e1, List.append_assoc]⟩, n1 ++ n2, by rw [e5, e3, List.append_assoc], by rw [stF_app, e4, e6]⟩
theorem After.sub {a b : StS} (h : After a b) {o : Row} (ho : o ∈ a.held) : o ∈ b.held := by
  obtain ⟨l, e⟩ := h.pre
  rw [e]
  exact List.mem_append_left _ ho
section
variable {dm : Nat} {h : House}
theorem StOk.disj {s : StS} (S : StOk h s) {g : List Nat} (hg : g ∈ s.going) : seen s.known g = none := by
  cases e : seen s.known g with
  | none => rfl
  | some v =>
    have hk : g ∈ s.rk.known.map (·.1) := seen_key e
    rcases S.coh.kr g hk with z | z
    · exact absurd z (seen_none (S.gn g hg))
    · exact absurd rfl ((List.nodup_append.mp S.rk.nd).2.2 g hg g z)
theorem StOk.seen_val {s : StS} (S : StOk h s) {u : List Nat} {v : Int} (e : seen s.known u = some v) : Val h u v := S.coh.kn _ (seen_mem e)
theorem StOk.known {s : StS} (S : StOk h s) {u : List Nat} {v : Int} (hv : Val h u v) (hu : u ∈ s.known.map (·.1)) : seen s.known u = some v := by
  cases e : seen s.known u with
  | none => exact absurd hu (seen_none e)
  | some x => rw [show x = v from (S.seen_val e).det hv]
theorem lkR_pos (h : House) (n : Nat) (s : RkS) {u : List Nat} {v : Int} (e : seen s.known u = some v) : lkR h (n + 1) s u = .ok v s := by
  unfold lkR
  rw [e]
theorem lkk (HH : HouseN dm h bet0) (n : Nat) (G : List (List Nat)) : LkK (lkR h (n + 1)) fun k => RkOk h bet0 k ∧ Coh h k ∧ k.asked = G := by
  refine ⟨fun _ e => lkR_pos h n _ e, fun {s u v s'} hj hu e => ?_⟩
  obtain ⟨o, c, ga⟩ := hj
  have st := lkR_step HH (n + 1) s u v s' o hu e
  obtain ⟨_, c'⟩ := lkR_sound (n + 1) s u v s' c e
  have see : ∀ w x, Val h w x → w ∈ s'.known.map (·.1) → seen s'.known w = some x := fun w x hv hw => by
    cases e : seen s'.known w with
    | none => exact absurd hw (seen_none e)
    | some y => rw [show y = x from (c'.kn _ (seen_mem e)).det hv]
  exact ⟨⟨st.ok, c', st.asked.trans ga⟩, fun w x ex => see w x (c.kn _ (seen_mem ex)) (st.mono w (seen_key ex)), see u v st.worth st.got⟩
/-- what one look brings -/
structure Looked (h : House) (s : StS) (t : List Nat) (v : Int) (s' : StS) : Prop where
  ok : StOk h s'
  aft : After s s'
  going : s'.going = s.going
  mono : ∀ u x, seen s.known u = some x → seen s'.known u = some x
  got : seen s'.known t = some v
  fresh : ∀ o ∈ s'.held, o ∈ s.held ∨ (∀ g ∈ s.going, ¬ g ∈ nms o.1) ∧ ¬ t ∈ nms o.1
structure OwnS (h : House) (s : StS) (r : Rcp) (own : List Pr) : Prop where
  part : Part own r
  nd : (own.map (·.1)).Nodup
  kn : ∀ p ∈ own, seen s.known p.1 = some p.2
  nm : ∀ p ∈ own, Nm p.1
  sub : ∀ p ∈ own, p.1 ∈ r.nms
  cut : ∀ j p, own[j]? = some p → outOf (own.take j) r = .read p.1
theorem OwnS.nil (h : House) (s : StS) (r : Rcp) : OwnS h s r [] := ⟨Part.nil r, List.nodup_nil, (fun _ h => nomatch h), (fun _ h => nomatch h), (fun _ h => nomatch h), fun j p e => by simp at e⟩
theorem OwnS.len {s : StS} {r : Rcp} {own : List Pr} (O : OwnS h s r own) : own.length ≤ r.nms.length := by
  have := sub_lenR O.nd fun u hu => (by obtain ⟨p, hp, rfl⟩ := List.mem_map.mp hu; exact O.sub p hp : u ∈ r.nms)
  rwa [List.length_map] at this
theorem OwnS.mono {s s' : StS} {r : Rcp} {own : List Pr} (O : OwnS h s r own) (mo : ∀ u x, seen s.known u = some x → seen s'.known u = some x) : OwnS h s' r own := ⟨O.part, O.nd, fun p hp => mo _ _ (O.kn p hp), O.nm, O.sub, O.cut⟩
theorem OwnS.next {s s' : StS} {r : Rcp} {own : List Pr} {u : List Nat} {v : Int} (O : OwnS h s r own) (wn : r.Wn) (nb : r.Nb) (e : go own r 0 = .lack u) (mo : ∀ u x, seen s.known u = some x → seen s'.known u = some x) (g : seen s'.known u = some v) : OwnS h s' r (own ++ [(u, v)]) := by
  obtain ⟨e0, hu⟩ := go_lack wn (Nat.zero_le _) e
  obtain ⟨hn, _⟩ := go_name nb (Nat.zero_le _) e
  have kn' : ∀ p ∈ own ++ [(u, v)], seen s'.known p.1 = some p.2 := fun p hp => by
    rcases List.mem_append.mp hp with hp | hp
    · exact mo _ _ (O.kn p hp)
    · rw [List.mem_singleton.mp hp]; exact g
  refine ⟨Part.next v e, ?_, kn', fun p hp => ?_, fun p hp => ?_, fun j p hj => ?_⟩
  · rw [List.map_append]
    exact List.nodup_append.mpr ⟨O.nd, List.nodup_cons.mpr ⟨(fun z => nomatch z), List.nodup_nil⟩, fun a ha b hb e2 => seen_none e0 (by have hb' : b = u := List.mem_singleton.mp hb; rw [← hb', ← e2]; exact ha)⟩
  · rcases List.mem_append.mp hp with hp | hp
    · exact O.nm p hp
    · rw [List.mem_singleton.mp hp]; exact hu
  · rcases List.mem_append.mp hp with hp | hp
    · exact O.sub p hp
    · rw [List.mem_singleton.mp hp]; exact hn
  · by_cases c : j < own.length
    · rw [List.getElem?_append_left c] at hj
      rw [List.take_append_of_le_length (Nat.le_of_lt c)]
      exact O.cut j p hj
    · have hl := (List.getElem?_eq_some_iff.mp hj).1
      rw [List.length_append] at hl
      have hl : j < own.length + 1 := hl
      obtain rfl : j = own.length := by omega
      rw [List.getElem?_append_right (Nat.le_refl _), Nat.sub_self] at hj
      cases hj
      rw [List.take_append_of_le_length (Nat.le_refl _), List.take_length]
      unfold outOf
      rw [e]
structure Worked (h : House) (r : Rcp) (s : StS) (own : List Pr) (v : Int) (s' : StS) (own' : List Pr) : Prop where
  ok : StOk h s'
  aft : After s s'
  going : s'.going = s.going
  mono : ∀ u x, seen s.known u = some x → seen s'.known u = some x
  ow : OwnS h s' r own'
  ext : ∃ l, own' = own ++ l
  out : outOf own' r = .worth v
  fresh : ∀ o ∈ s'.held, o ∈ s.held ∨ (∀ g ∈ s.going, ¬ g ∈ nms o.1) ∧ ∃ u ∈ nms own', ¬ u ∈ nms o.1
/-- a look's law, at n -/
def SimL (h : House) (n : Nat) : Prop := ∀ (s : StS) (t : List Nat), StOk h s → Nm t → h.recs.length + 1 ≤ s.going.length + n → match lkR h n s.rk t with
  | .ok v k => ∃ s', stR h n s t = .ok v s' ∧ s'.rk = k ∧ Looked h s t v s'
  | .err e => ∃ s', stR h n s t = .err e s' ∧ (∀ o ∈ s'.held, GoodRow o) ∧ ∃ l, s'.held = s.held ++ l
theorem work_sim (HH : HouseN dm h bet0) {n : Nat} (IH : SimL h (n + 1)) {r : Rcp} (wn : r.Wn) (nb : r.Nb) : ∀ (m : Nat) (s : StS) (own : List Pr), StOk h s → h.recs.length + 1 ≤ s.going.length + (n + 1) → OwnS h s r own → r.nms.length + 1 ≤ m + own.length → match wk (lkOwn (lkR h (n + 1))) r (s.rk, own) with
    | .ok v p => ∃ s', workE (stR h (n + 1)) r m s own = .ok v (s', p.2) ∧ s'.rk = p.1 ∧ Worked h r s own v s' p.2
    | .err e => ∃ s' own', workE (stR h (n + 1)) r m s own = .err e (s', own') ∧ (∀ o ∈ s'.held, GoodRow o) ∧ ∃ l, s'.held = s.held ++ l
  | 0, s, own, _, _, O, hm => absurd O.len (by omega)
  | m + 1, s, own, S, hn, O, hm => by
    have L := lkk HH n s.rk.asked
    have hj : RkOk h bet0 s.rk ∧ Coh h s.rk ∧ s.rk.asked = s.rk.asked := ⟨S.rk, S.coh, rfl⟩
    rcases O.part.cases with ⟨v, e, eo⟩ | ⟨u, e, eo⟩
    · rw [resume1 L hj O.nd O.kn (Nat.zero_le _) e]
      refine ⟨s, ?_, rfl, S, After.refl s, rfl, fun _ _ e => e, O, ⟨[], (List.append_nil _).symm⟩, eo, fun o ho => .inl ho⟩
      unfold workE
      rw [eo]
    · obtain ⟨e0, hu⟩ := go_lack wn (Nat.zero_le _) e
      rw [resume2 L hj O.nd O.kn wn (Nat.zero_le _) e]
      have sim := IH s u S hu hn
      unfold goOn
      cases e1 : lkR h (n + 1) s.rk u with
      | err x =>
        rw [e1] at sim
        obtain ⟨s', h1, h2, h3⟩ := sim
        refine ⟨s', own, ?_, h2, h3⟩
        unfold workE
        rw [eo]
        show (match stR h (n + 1) s u with | .ok v s' => workE (stR h (n + 1)) r m s' (own ++ [(u, v)]) | .err e s' => .err e (s', own)) = _
        rw [h1]
      | ok v k =>
        rw [e1] at sim
        obtain ⟨s', h1, rfl, LK⟩ := sim
        have O' := O.next wn nb e LK.mono LK.got
        have hw : workE (stR h (n + 1)) r (m + 1) s own = workE (stR h (n + 1)) r m s' (own ++ [(u, v)]) := by
          conv => lhs; unfold workE
          rw [eo]
          show (match stR h (n + 1) s u with | .ok v s' => workE (stR h (n + 1)) r m s' (own ++ [(u, v)]) | .err e s' => .err e (s', own)) = _
          rw [h1]
        have rec_ := work_sim HH IH wn nb m s' (own ++ [(u, v)]) LK.ok (by rw [LK.going]; exact hn) O' (by rw [List.length_append]; show _ ≤ m + (own.length + 1); omega)
        show match wk (lkOwn (lkR h (n + 1))) r (s'.rk, own ++ [(u, v)]) with | .ok v p => _ | .err e => _
        cases e2 : wk (lkOwn (lkR h (n + 1))) r (s'.rk, own ++ [(u, v)]) with
        | err x =>
          rw [e2] at rec_
          obtain ⟨s2, own2, r1, r2, r3⟩ := rec_
          obtain ⟨l1, e3⟩ := LK.aft.pre
          obtain ⟨l2, e4⟩ := r3
          exact ⟨s2, own2, hw.trans r1, r2, l1 ++ l2, by rw [e4, e3, List.append_assoc]⟩
        | ok w p =>
          rw [e2] at rec_
          obtain ⟨s2, r1, r2, W⟩ := rec_
          obtain ⟨l, el⟩ := W.ext
          refine ⟨s2, hw.trans r1, r2, W.ok, LK.aft.trans W.aft, W.going.trans LK.going, fun a b z => W.mono a b (LK.mono a b z), W.ow, ⟨(u, v) :: l, by rw [el, List.append_assoc]; rfl⟩, W.out, fun o ho => ?_⟩
          rcases W.fresh o ho with z | ⟨z1, z2⟩
          · rcases LK.fresh o z with z | ⟨z1, z2⟩
            · exact .inl z
            · exact .inr ⟨z1, u, by unfold nms; rw [el]; simp, z2⟩
          · exact .inr ⟨fun g hg => z1 g (by rw [LK.going]; exact hg), z2⟩
theorem stR_sim (HS : HouseS dm h) : ∀ n, SimL h n
  | 0 => fun s t S ht hn => by
    have := S.rk.len
    have e : s.rk.asked = s.going := rfl
    rw [e] at this
    omega
  | n + 1 => fun s t S ht hn => by
    have HH := HS.ok.n
    have whole : ∀ v k, lkR h (n + 1) s.rk t = .ok v k → RkOk h bet0 k ∧ Coh h k ∧ Val h t v ∧ (∀ u ∈ s.known.map (·.1), u ∈ k.known.map (·.1)) ∧ t ∈ k.known.map (·.1) := fun v k e => by
      have st := lkR_step HH (n + 1) s.rk t v k S.rk ht e
      exact ⟨st.ok, (lkR_sound (n + 1) s.rk t v k S.coh e).2, st.worth, st.mono, st.got⟩
    have edef : lkR h (n + 1) s.rk t = match seen s.known t with
      | some v => .ok v s.rk
      | none => match seen h.given t with
        | some v => .ok v { s.rk with known := putA s.known t v }
        | none => match rcpOf h.recs t with
          | none => .err (.noName t)
          | some r => if t ∈ s.going then .err (.ring (s.going.drop (s.going.idxOf t) ++ [t])) else
            match wk (lkOwn (lkR h n)) r ({ s.rk with asked := s.going ++ [t] }, []) with
            | .ok v p => .ok v { known := putA p.1.known t v, read := putA p.1.read t p.2, asked := p.1.asked.dropLast }
            | .err e => .err e := rfl
    have sdef : stR h (n + 1) s t = match seen s.known t with
      | some v => .ok v s
      | none => match seen h.given t with
        | some v => .ok v { s with known := putA s.known t v }
        | none => match rcpOf h.recs t with
          | none => .err (.noName t) s
          | some r => if t ∈ s.going then .err (.ring (s.going.drop (s.going.idxOf t) ++ [t])) s else
            finE t r (workE (stR h n) r (r.nms.length + 1) { s with going := s.going ++ [t] } []) := rfl
    rw [sdef]
    cases e1 : seen s.known t with
    | some v =>
      rw [e1] at edef
      rw [edef]
      exact ⟨s, rfl, rfl, S, After.refl s, rfl, fun _ _ e => e, e1, fun o ho => .inl ho⟩
    | none =>
      rw [e1] at edef
      cases e2 : seen h.given t with
      | some v =>
        rw [e2] at edef
        obtain ⟨w1, w2, w3, w4, w5⟩ := whole v _ edef
        rw [edef]
        have mo : ∀ u x, seen s.known u = some x → seen (putA s.known t v) u = some x := fun u x e => by
          rw [seen_putA, if_neg (fun z => by rw [z, e1] at e; cases e)]
          exact e
        exact ⟨_, rfl, rfl, ⟨w1, w2, fun p hp => ⟨(S.rows p hp).1, mo _ _ (S.rows p hp).2⟩, S.good, S.gn⟩, ⟨⟨[], (List.append_nil _).symm⟩, [], (List.append_nil _).symm, rfl⟩, rfl, mo, by show seen (putA s.known t v) t = some v; rw [seen_putA, if_pos rfl], fun o ho => .inl ho⟩
      | none =>
        rw [e2] at edef
        cases e3 : rcpOf h.recs t with
        | none =>
          rw [e3] at edef
          rw [edef]
          exact ⟨s, rfl, S.good, [], (List.append_nil _).symm⟩
        | some r =>
          rw [e3] at edef
          by_cases c : t ∈ s.going
          · simp only [if_pos c] at edef ⊢
            rw [edef]
            exact ⟨s, rfl, S.good, [], (List.append_nil _).symm⟩
          · simp only [if_neg c] at edef ⊢
            have hmem := rcpOf_mem e3
            obtain ⟨_, wn, _⟩ := HH.rcp _ hmem
            obtain ⟨isr, nb, dp⟩ := HS.rc _ hmem
            obtain ⟨ho1, _⟩ := S.rk.ask e3 e1 c
            have S1 : StOk h { s with going := s.going ++ [t] } := ⟨ho1, ⟨S.coh.kn, S.coh.rd, S.coh.kr⟩, S.rows, S.good, fun g hg => by
              rcases List.mem_append.mp hg with hg | hg
              · exact S.gn g hg
              · rw [List.mem_singleton.mp hg]; exact e2⟩
            have hn1 : h.recs.length + 1 ≤ (s.going ++ [t]).length + n := by rw [List.length_append]; show _ ≤ s.going.length + 1 + n; omega
            have npos : ∃ k, n = k + 1 := by
              have := S1.rk.len
              have e : StS.rk { s with going := s.going ++ [t] } = ⟨s.known, s.rk.read, s.going ++ [t]⟩ := rfl
              rw [e] at this
              have l : (s.going ++ [t]).length + s.rk.read.length ≤ h.recs.length := this
              exact ⟨n - 1, by omega⟩
            obtain ⟨k0, rfl⟩ := npos
            have WS := work_sim HH (stR_sim HS (k0 + 1)) wn nb (r.nms.length + 1) { s with going := s.going ++ [t] } [] S1 hn1 (OwnS.nil h _ r) (Nat.le_refl _)
            have ek : StS.rk { s with going := s.going ++ [t] } = { s.rk with asked := s.going ++ [t] } := rfl
            rw [ek] at WS
            cases e4 : wk (lkOwn (lkR h (k0 + 1))) r ({ s.rk with asked := s.going ++ [t] }, []) with
            | err x =>
              rw [e4] at WS edef
              rw [edef]
              obtain ⟨s', own', h1, h2, h3⟩ := WS
              rw [h1]
              exact ⟨s', rfl, h2, h3⟩
            | ok v p =>
              rw [e4] at WS edef
              obtain ⟨s', h1, h2, W⟩ := WS
              obtain ⟨w1, w2, w3, w4, w5⟩ := whole v _ edef
              rw [edef, h1]
              obtain ⟨k, own⟩ := p
              have h2 : s'.rk = k := h2
              subst h2
              have W : Worked h r { s with going := s.going ++ [t] } [] v s' own := W
              have go1 : s'.going = s.going ++ [t] := W.going
              have nt : ¬ t ∈ s'.book.map (·.1) := fun z => by
                have nd := W.ok.rk.nd
                have e : s'.rk.asked = s.going ++ [t] := go1
                rw [e] at nd
                have e9 : s'.rk.read.map (·.1) = s'.book.map (·.1) := by
                  show (s'.book.map fun p => (p.1, p.2.1)).map (·.1) = _
                  rw [List.map_map]; rfl
                exact (List.nodup_append.mp nd).2.2 t (List.mem_append_right _ (List.mem_singleton.mpr rfl)) t (by rw [e9]; exact z) rfl
              have edone : (s'.done t (own, r, v)).known = putA s'.known t v ∧ (s'.done t (own, r, v)).book = s'.book ++ [(t, (own, r, v))] ∧ (s'.done t (own, r, v)).going = s.going ∧ stF (s'.held, s'.made, s'.kept) [(t, (own, r, v))] = ((s'.done t (own, r, v)).held, (s'.done t (own, r, v)).made, (s'.done t (own, r, v)).kept) ∧ (∃ l, (s'.done t (own, r, v)).held = s'.held ++ l) ∧ ∀ o ∈ (s'.done t (own, r, v)).held, o ∈ s'.held ∨ o = (own, r, v) := by
                classical
                have dl : s'.going.dropLast = s.going := by rw [go1]; exact List.dropLast_concat
                unfold StS.done stF
                by_cases hin : (own, r, v) ∈ s'.held
                · rw [if_pos hin, if_pos hin]
                  exact ⟨rfl, putA_new _ nt, dl, rfl, ⟨[], (List.append_nil _).symm⟩, fun o ho => .inl ho⟩
                · rw [if_neg hin, if_neg hin]
                  exact ⟨rfl, putA_new _ nt, dl, rfl, ⟨_, rfl⟩, fun o ho => (List.mem_append.mp ho).imp id List.mem_singleton.mp⟩
              obtain ⟨d1, d2, d3, d4, d5, d6⟩ := edone
              have erk : (s'.done t (own, r, v)).rk = { known := putA s'.rk.known t v, read := putA s'.rk.read t own, asked := s'.rk.asked.dropLast } := by
                have a : (s'.done t (own, r, v)).going = s'.going.dropLast := by rw [d3, go1]; exact List.dropLast_concat.symm
                have b : (s'.book ++ [(t, (own, r, v))]).map (fun p : List Nat × Row => (p.1, p.2.1)) = putA (s'.book.map fun p => (p.1, p.2.1)) t own := by
                  rw [putA_new _ (by rw [List.map_map]; exact nt), List.map_append]
                  rfl
                unfold StS.rk
                rw [d1, d2, a, b]
              have mo : ∀ u x, seen s'.known u = some x → seen (s'.done t (own, r, v)).known u = some x := fun u x e => by
                rw [d1, seen_putA, if_neg (fun z => by
                  rw [z, W.ok.disj (g := t) (by rw [go1]; exact List.mem_append_right _ (List.mem_singleton.mpr rfl))] at e
                  cases e)]
                exact e
              have gr : GoodRow (own, r, v) := ⟨isr, wn, nb, dp, fun q hq => ⟨W.ow.nm q hq, HS.sm _ _ (W.ok.seen_val (W.ow.kn q hq))⟩, W.out⟩
              have S2 : StOk h (s'.done t (own, r, v)) := by
                refine ⟨by rw [erk]; exact w1, by rw [erk]; exact w2, fun q hq => ?_, fun o ho => ?_, fun g hg => ?_⟩
                · rw [d2] at hq
                  rcases List.mem_append.mp hq with hq | hq
                  · exact ⟨(W.ok.rows q hq).1, mo _ _ (W.ok.rows q hq).2⟩
                  · rw [List.mem_singleton.mp hq]
                    exact ⟨e3, by rw [d1, seen_putA, if_pos rfl]⟩
                · rcases d6 o ho with z | z
                  · exact W.ok.good o z
                  · rw [z]; exact gr
                · rw [d3] at hg
                  exact S.gn g hg
              refine ⟨_, rfl, erk, S2, ?_, d3, fun u x e => mo u x (W.mono u x e), by rw [d1, seen_putA, if_pos rfl], fun o ho => ?_⟩
              · have A1 : After s s' := ⟨W.aft.pre, W.aft.fold⟩
                exact A1.trans ⟨d5, _, d2, d4⟩
              · rcases d6 o ho with z | z
                · rcases W.fresh o z with z | ⟨z1, _⟩
                  · exact .inl z
                  · exact .inr ⟨fun g hg => z1 g (List.mem_append_left _ hg), z1 t (List.mem_append_right _ (List.mem_singleton.mpr rfl))⟩
                · have key : ∀ g ∈ s.going ++ [t], ¬ g ∈ nms o.1 := fun g hg z2 => by
                    rw [z] at z2
                    obtain ⟨q, hq, eq⟩ := List.mem_map.mp z2
                    have h1 := W.ow.kn q hq
                    rw [show q.1 = g from eq, W.ok.disj (by rw [go1]; exact hg)] at h1
                    cases h1
                  exact .inr ⟨fun g hg => key g (List.mem_append_left _ hg), key t (List.mem_append_right _ (List.mem_singleton.mpr rfl))⟩
/-- going on with what is known already -/
theorem restart {s : StS} {n : Nat} {r : Rcp} {own : List Pr} (O : OwnS h s r own) : ∀ (k m : Nat), k ≤ own.length → workE (stR h (n + 1)) r (m + k) s (own.take (own.length - k)) = workE (stR h (n + 1)) r m s own
  | 0, m, _ => by rw [Nat.sub_zero, List.take_length]; rfl
  | k + 1, m, hk => by
    have hlt : own.length - (k + 1) < own.length := by omega
    have hp := List.getElem?_eq_getElem hlt
    generalize own[own.length - (k + 1)] = p at hp
    have e1 := O.cut _ _ hp
    have e2 : stR h (n + 1) s p.1 = .ok p.2 s := by
      unfold stR
      rw [O.kn p (List.mem_of_getElem? hp)]
    have e3 : own.take (own.length - (k + 1)) ++ [(p.1, p.2)] = own.take (own.length - k) := by
      rw [show own.length - k = own.length - (k + 1) + 1 by omega, List.take_add_one, hp]
      rfl
    have e4 : workE (stR h (n + 1)) r (m + (k + 1)) s (own.take (own.length - (k + 1))) = workE (stR h (n + 1)) r (m + k) s (own.take (own.length - k)) := by
      rw [show m + (k + 1) = (m + k) + 1 from rfl]
      conv => lhs; unfold workE
      rw [e1]
      show (match stR h (n + 1) s p.1 with | .ok v s' => workE (stR h (n + 1)) r (m + k) s' (own.take (own.length - (k + 1)) ++ [(p.1, v)]) | .err e s' => .err e (s', own.take (own.length - (k + 1)))) = _
      rw [e2]
      show workE (stR h (n + 1)) r (m + k) s (own.take (own.length - (k + 1)) ++ [(p.1, p.2)]) = _
      rw [e3]
    rw [e4]
    exact restart O k m (by omega)
/-- how far a recipe's work has come -/
structure Prog (h : House) (n : Nat) (r : Rcp) (s : StS) (own : List Pr) (s1 : StS) : Prop where
  ok : StOk h s1
  aft : After s s1
  going : s1.going = s.going
  mono : ∀ u x, seen s.known u = some x → seen s1.known u = some x
  ow : OwnS h s1 r own
  len : own.length ≤ r.nms.length
  run : workE (stR h n) r (r.nms.length + 1) s [] = workE (stR h n) r (r.nms.length + 1 - own.length) s1 own
theorem Prog.start {n : Nat} {r : Rcp} {s : StS} (S : StOk h s) : Prog h n r s [] s := ⟨S, After.refl s, rfl, fun _ _ e => e, OwnS.nil h s r, Nat.zero_le _, rfl⟩
theorem Prog.fuel {n : Nat} {r : Rcp} {s s1 : StS} {own : List Pr} (P : Prog h n r s own s1) : ∃ m, r.nms.length + 1 - own.length = m + 1 := ⟨r.nms.length - own.length, by have := P.len; omega⟩
theorem Prog.step {n : Nat} {r : Rcp} {s s1 s2 : StS} {own : List Pr} {u : List Nat} {v : Int} (wn : r.Wn) (nb : r.Nb) (P : Prog h n r s own s1) (e : go own r 0 = .lack u) (el : stR h n s1 u = .ok v s2) (L : Looked h s1 u v s2) : Prog h n r s (own ++ [(u, v)]) s2 := by
  have O2 := P.ow.next wn nb e L.mono L.got
  obtain ⟨m, em⟩ := P.fuel
  refine ⟨L.ok, P.aft.trans L.aft, L.going.trans P.going, fun a b z => L.mono a b (P.mono a b z), O2, O2.len, ?_⟩
  have eo : outOf own r = .read u := by unfold outOf; rw [e]
  rw [P.run, em]
  have hl : r.nms.length + 1 - (own ++ [(u, v)]).length = m := by
    have : (own ++ [(u, v)]).length = own.length + 1 := by rw [List.length_append]; rfl
    omega
  rw [hl]
  conv => lhs; unfold workE
  rw [eo]
  show (match stR h n s1 u with | .ok v s' => workE (stR h n) r m s' (own ++ [(u, v)]) | .err e s' => .err e (s', own)) = _
  rw [el]
theorem Prog.fail {n : Nat} {r : Rcp} {s s1 s2 : StS} {own : List Pr} {u : List Nat} {x : XErr} (P : Prog h n r s own s1) (e : go own r 0 = .lack u) (el : stR h n s1 u = .err x s2) : workE (stR h n) r (r.nms.length + 1) s [] = .err x (s2, own) := by
  obtain ⟨m, em⟩ := P.fuel
  have eo : outOf own r = .read u := by unfold outOf; rw [e]
  rw [P.run, em]
  unfold workE
  rw [eo]
  show (match stR h n s1 u with | .ok v s' => workE (stR h n) r m s' (own ++ [(u, v)]) | .err e s' => .err e (s', own)) = _
  rw [el]
theorem Prog.end {n : Nat} {r : Rcp} {s s1 : StS} {own : List Pr} {v : Int} (P : Prog h n r s own s1) (eo : outOf own r = .worth v) : workE (stR h n) r (r.nms.length + 1) s [] = .ok v (s1, own) := by
  obtain ⟨m, em⟩ := P.fuel
  rw [P.run, em]
  unfold workE
  rw [eo]
theorem Prog.again {n : Nat} {r : Rcp} {s s1 : StS} {own : List Pr} (P : Prog h (n + 1) r s own s1) : workE (stR h (n + 1)) r (r.nms.length + 1) s [] = workE (stR h (n + 1)) r (r.nms.length + 1) s1 [] := by
  rw [P.run]
  have := restart (n := n) P.ow own.length (r.nms.length + 1 - own.length) (Nat.le_refl _)
  rw [Nat.sub_self, List.take_zero] at this
  rw [← this]
  congr 1
  have := P.len
  omega
/-- what the work comes to, from where it stands -/
theorem Prog.worked {n : Nat} (HS : HouseS dm h) {r : Rcp} (wn : r.Wn) (nb : r.Nb) {s s1 s' : StS} {own own' : List Pr} {v : Int} (P : Prog h (n + 1) r s own s1) (hn : h.recs.length + 1 ≤ s.going.length + (n + 1)) (e : workE (stR h (n + 1)) r (r.nms.length + 1) s [] = .ok v (s', own')) : Worked h r s1 own v s' own' := by
  have W := work_sim HS.ok.n (stR_sim HS (n + 1)) wn nb (r.nms.length + 1 - own.length) s1 own P.ok (by rw [P.going]; exact hn) P.ow (by have := P.len; omega)
  rw [P.run] at e
  cases e2 : wk (lkOwn (lkR h (n + 1))) r (s1.rk, own) with
  | err x =>
    rw [e2] at W
    obtain ⟨_, _, h1, _⟩ := W
    rw [h1] at e
    cases e
  | ok w p =>
    rw [e2] at W
    obtain ⟨s2, h1, _, W⟩ := W
    rw [h1] at e
    cases e
    exact W
end
/-! ### list(..) within a comprehension -/
theorem call_listAK {X : Cx} {K : PySem.W.Frag} (h : X.K = K) : CallR X (.type "list") (rListA K) := by
  subst h
  exact call_listA
/-! ### recipes with numbers of any size are recipes -/
theorem Rcp.tameW : ∀ {r : Rcp}, r.Wn → r.th.tame = true
  | .num n, _ => tame_tup (by show (tameS w_number && (true && true)) = true; decide) (Nat.le_of_ble_eq_true rfl) rfl
  | .read s, h => tame_tup (by show (tameS w_read && (tameS s && true)) = true; rw [Nm.tame h]; decide) (Nat.le_of_ble_eq_true rfl) rfl
  | .two k a b, h => by
    refine tame_tup ?_ (Nat.le_of_ble_eq_true rfl) (namesTame3 (kd_nochoose k) _ _)
    show (tameS k.word && (a.th.tame && (b.th.tame && true))) = true
    rw [Rcp.tameW h.1, Rcp.tameW h.2]
    cases k <;> decide
  | .pick a b c, h => by
    refine tame_tup ?_ (Nat.le_of_ble_eq_true rfl) (namesTame4 _ _ _ _ _)
    show (tameS w_pick && (a.th.tame && (b.th.tame && (c.th.tame && true)))) = true
    rw [Rcp.tameW h.1, Rcp.tameW h.2.1, Rcp.tameW h.2.2]
    decide
  | .choose a ns, h => by
    refine tame_tup ?_ (Nat.le_of_ble_eq_true rfl) (namesTameC _ Nms.flat (Nms.shaped h.2.2.2))
    show (tameS w_choose && (a.th.tame && ((Th.tup (nmsTh ns)).tame && true))) = true
    rw [Rcp.tameW h.1, nms_names_tame h.2]
    decide
theorem Rcp.parts_thW : ∀ {r : Rcp}, r.Wn → r.th.parts = some (r.subs.map Rcp.th)
  | .num n, _ => (num_parts _ rfl _).1 rfl
  | .read s, h => (read_parts _ (by decide) rfl _).1 (nmOk_iff.mpr h)
  | .two k a b, _ => twos_parts _ (kd_twos k) _ _
  | .pick a b c, _ => pick_parts _ rfl _ _ _
  | .choose a ns, h => (choose_parts _ rfl _ _).1 (nms_are h.2)
theorem Rcp.subs_wn : ∀ {r : Rcp}, r.Wn → ∀ x ∈ r.subs, x.Wn ∧ x.dep + 1 ≤ r.dep
  | .num n, _, x, hx => by cases hx
  | .read s, h, x, hx => by cases hx
  | .two k a b, h, x, hx => by
    have e : (Rcp.two k a b).dep = max a.dep b.dep + 1 := rfl
    simp only [Rcp.subs, List.mem_cons, List.not_mem_nil, or_false] at hx
    rcases hx with rfl | rfl
    · exact ⟨h.1, by omega⟩
    · exact ⟨h.2, by omega⟩
  | .pick a b c, h, x, hx => by
    have e : (Rcp.pick a b c).dep = max a.dep (max b.dep c.dep) + 1 := rfl
    simp only [Rcp.subs, List.mem_cons, List.not_mem_nil, or_false] at hx
    rcases hx with rfl | rfl | rfl
    · exact ⟨h.1, by omega⟩
    · exact ⟨h.2.1, by omega⟩
    · exact ⟨h.2.2, by omega⟩
  | .choose a ns, h, x, hx => by
    have e : (Rcp.choose a ns).dep = a.dep + 1 := rfl
    rw [List.mem_singleton.mp hx]
    exact ⟨h.1, by omega⟩
theorem Rcp.okayW : ∀ (n : Nat) {r : Rcp}, r.Wn → r.dep ≤ n → r.th.okay n = true ∧ r.th.count n = r.siz
  | 0, r, _, h => by have := dep_pos r; omega
  | n + 1, r, hg, h => by
    have hp := r.parts_thW hg
    have hs := r.subs_wn hg
    refine ⟨?_, ?_⟩
    · show (match r.th.parts with | none => false | some ps => ps.all (Th.okay n)) = true
      rw [hp]
      show (r.subs.map Rcp.th).all (Th.okay n) = true
      rw [List.all_map, List.all_eq_true]
      intro x hx
      exact (Rcp.okayW n (hs x hx).1 (by have := (hs x hx).2; omega)).1
    · show (match r.th.parts with | none => 1 | some ps => 1 + (ps.map (Th.count n)).sum) = r.siz
      rw [hp, Rcp.siz_subs r]
      show 1 + ((r.subs.map Rcp.th).map (Th.count n)).sum = _
      rw [List.map_map]
      congr 2
      exact List.map_congr_left fun x hx => (Rcp.okayW n (hs x hx).1 (by have := (hs x hx).2; omega)).2
theorem Rcp.isRcpW {r : Rcp} (hg : r.Wn) (hd : r.dep ≤ 8) (hs : r.siz ≤ 100) : r.th.isRcp = true := by
  unfold Th.isRcp
  rw [(Rcp.okayW 8 hg hd).1, (Rcp.okayW 8 hg hd).2, decide_eq_true hs]
  rfl
/-! ### the houses of the laws over stores: plain facts -/
open LamX NdefX
theorem good_nb : ∀ {r : Rcp}, r.Good → r.Nb
  | .num n, h => by
    have h1 : (10 : Nat) ^ 40 ≤ 2 ^ 400 := by decide +kernel
    exact Nat.lt_of_lt_of_le (show n.natAbs < 10 ^ 40 from h) h1
  | .read _, h => h
  | .two _ _ _, h => ⟨good_nb h.1, good_nb h.2⟩
  | .pick _ _ _, h => ⟨good_nb h.1, good_nb h.2.1, good_nb h.2.2⟩
  | .choose _ _, h => ⟨good_nb h.1, h.2⟩
/-- a bound of the bits of what a recipe comes to (a pick's first part does not count) -/
def Rcp.bitV (f : List Nat → Nat) : Rcp → Nat
  | .num n => n.natAbs.log2 + 1
  | .read t => f t
  | .two .times x y => x.bitV f + y.bitV f
  | .two .most x y => max (x.bitV f) (y.bitV f)
  | .two _ x y => max (x.bitV f) (y.bitV f) + 1
  | .pick _ y z => max (y.bitV f) (z.bitV f)
  | .choose _ ns => maxN (ns.map f)
/-- a bound of the bits of all its parts, and of the products of what its pairs come to -/
def Rcp.bitA (f : List Nat → Nat) : Rcp → Nat
  | .num n => n.natAbs.log2 + 1
  | .read t => f t
  | .two _ x y => max (x.bitV f + y.bitV f) (max (x.bitA f) (y.bitA f))
  | .pick x y z => max (x.bitA f) (max (y.bitA f) (z.bitA f))
  | .choose x ns => max (x.bitA f) (maxN (ns.map f))
theorem bitV_pos {f : List Nat → Nat} (hf : ∀ u, 0 < f u) : ∀ {r : Rcp}, r.Wn → 0 < r.bitV f
  | .num _, _ => Nat.succ_pos _
  | .read t, _ => hf t
  | .two k x y, w => by
    have hx := bitV_pos hf w.1
    have hy := bitV_pos hf w.2
    cases k <;> simp only [Rcp.bitV] <;> omega
  | .pick x y z, w => by
    have hx := bitV_pos hf w.2.1
    simp only [Rcp.bitV]; omega
  | .choose x ns, w => by
    have hl : 1 ≤ ns.length := w.2.1
    obtain ⟨i, _, hi⟩ := nth_mem hl 0
    have := maxN_ge (List.mem_map.mpr ⟨_, List.mem_of_getElem? hi, rfl⟩ : f (nthN ns 0) ∈ ns.map f)
    have := hf (nthN ns 0)
    show 0 < maxN (ns.map f)
    omega
theorem apV {f : List Nat → Nat} {k : Kd} {x y : Rcp} {v w : Int} (hx : v.natAbs < 2 ^ x.bitV f) (hy : w.natAbs < 2 ^ y.bitV f) : (k.ap v w).natAbs < 2 ^ (Rcp.two k x y).bitV f := by
  have hx' := pow_mono hx (Nat.le_max_left _ (y.bitV f))
  have hy' := pow_mono hy (Nat.le_max_right (x.bitV f) _)
  cases k with
  | plus =>
    show (v + w).natAbs < 2 ^ (max (x.bitV f) (y.bitV f) + 1)
    rw [Nat.pow_succ]
    omega
  | minus =>
    show (v - w).natAbs < 2 ^ (max (x.bitV f) (y.bitV f) + 1)
    rw [Nat.pow_succ]
    omega
  | times =>
    show (v * w).natAbs < 2 ^ (x.bitV f + y.bitV f)
    rw [Int.natAbs_mul, Nat.pow_add]
    exact Nat.mul_lt_mul'' hx hy
  | most => exact max_small hx' hy'
theorem Rcp.Ev.smallV {F : List Nat → Int → Prop} {f : List Nat → Nat} (hf : ∀ t v, F t v → v.natAbs < 2 ^ f t) : ∀ {r : Rcp} {v : Int}, r.Wn → r.Ev F v → v.natAbs < 2 ^ r.bitV f
  | .num n, v, _, h => by
    rw [show v = n from h]
    exact Nat.lt_log2_self
  | .read t, v, _, h => hf t v h
  | .two k x y, v, w, h => by
    obtain ⟨a, c, h1, h2, rfl⟩ := h
    exact apV (h1.smallV hf w.1) (h2.smallV hf w.2)
  | .pick x y z, v, w, h => by
    obtain ⟨a, h1, h2, h3⟩ := h
    by_cases c : a > 0
    · exact pow_mono ((h2 c).smallV hf w.2.1) (by simp only [Rcp.bitV]; omega)
    · exact pow_mono ((h3 c).smallV hf w.2.2) (by simp only [Rcp.bitV]; omega)
  | .choose x ns, v, w, h => by
    obtain ⟨a, h1, h2⟩ := h
    obtain ⟨i, _, hi⟩ := nth_mem w.2.1 a
    have := maxN_ge (List.mem_map.mpr ⟨_, List.mem_of_getElem? hi, rfl⟩ : f (nthN ns a) ∈ ns.map f)
    exact pow_mono (hf _ _ h2) (by simp only [Rcp.bitV]; omega)
theorem Rcp.Fit.of_bitA {F : List Nat → Int → Prop} {f : List Nat → Nat} (hp : ∀ u, 0 < f u) (hf : ∀ t v, F t v → v.natAbs < 2 ^ f t) : ∀ {r : Rcp}, r.Wn → r.bitA f ≤ 1000000 → r.Fit F
  | .num _, _, _ => trivial
  | .read _, _, _ => trivial
  | .two k x y, w, h => by
    have h : max (x.bitV f + y.bitV f) (max (x.bitA f) (y.bitA f)) ≤ 1000000 := h
    refine ⟨Fit.of_bitA hp hf w.1 (by omega), fun a ha => ⟨Fit.of_bitA hp hf w.2 (by omega), fun c hc e => ?_⟩⟩
    subst e
    exact wide_mul (ha.smallV hf w.1) (hc.smallV hf w.2) (bitV_pos hp w.1) (bitV_pos hp w.2) (by omega)
  | .pick x y z, w, h => by
    have h : max (x.bitA f) (max (y.bitA f) (z.bitA f)) ≤ 1000000 := h
    exact ⟨Fit.of_bitA hp hf w.1 (by omega), fun a _ => ⟨fun _ => Fit.of_bitA hp hf w.2.1 (by omega), fun _ => Fit.of_bitA hp hf w.2.2 (by omega)⟩⟩
  | .choose x ns, w, h => by
    have h : max (x.bitA f) (maxN (ns.map f)) ≤ 1000000 := h
    exact Fit.of_bitA (r := x) hp hf w.1 (by omega)
structure HouseV (dm : Nat) (h : House) (f : List Nat → Nat) : Prop where
  rcp : ∀ p ∈ h.recs, Nm p.1 ∧ p.2.Wn ∧ p.2.dep ≤ dm ∧ p.2.bitV f ≤ f p.1 ∧ p.2.bitA f ≤ 1000000
  gvn : ∀ p ∈ h.given, Nm p.1 ∧ p.2.natAbs < 2 ^ f p.1
  pos : ∀ u, 0 < f u
theorem HouseV.small {dm : Nat} {h : House} {f : List Nat → Nat} (H : HouseV dm h f) : ∀ (n : Nat) {t : List Nat} {v : Int}, val h n t = some v → v.natAbs < 2 ^ f t
  | 0, t, v, e => by cases e
  | n + 1, t, v, e => by
    rw [val_succ] at e
    cases e1 : seen h.given t with
    | some x =>
      rw [e1] at e
      cases e
      exact (H.gvn _ (seen_mem e1)).2
    | none =>
      rw [e1] at e
      cases e2 : rcpOf h.recs t with
      | none => rw [e2] at e; cases e
      | some r =>
        rw [e2] at e
        cases e3 : wk (dnL (val h n)) r [] with
        | err x => simp only [e3] at e; cases e
        | ok w o =>
          simp only [e3] at e
          cases e
          obtain ⟨_, wn, _, b1, _⟩ := H.rcp _ (rcpOf_mem e2)
          exact pow_mono (((wk_ev e3).mono fun t x e => e.1).smallV (F := fun t x => val h n t = some x) (fun t v e => H.small n e) wn) b1
theorem HouseV.ok {dm : Nat} {h : House} {f : List Nat → Nat} (H : HouseV dm h f) (beta : Nat → Nat) : HouseOk dm h beta :=
  ⟨⟨fun p hp => ⟨(H.rcp p hp).1, (H.rcp p hp).2.1, (H.rcp p hp).2.2.1⟩, fun p hp => (H.gvn p hp).1⟩, fun p hp _ => Rcp.Fit.of_bitA H.pos (fun t v ⟨n, e⟩ => H.small n e) (H.rcp p hp).2.1 (H.rcp p hp).2.2.2.2⟩
/-- the laws' names -/
structure NmD (ns : List (List Nat)) : Prop where
  len : ns.length = 14
  nd : ns.Nodup
  nm : ∀ u ∈ ns, Nm u
theorem idx_nd {l : List (List Nat)} (nd : l.Nodup) {i : Nat} {a : List Nat} (h : l[i]? = some a) : l.idxOf a = i := by
  obtain ⟨hi, e⟩ := List.getElem?_eq_some_iff.mp h
  have h1 : a ∈ l := List.mem_of_getElem? h
  have h2 : l.idxOf a < l.length := List.idxOf_lt_length_of_mem h1
  have h3 : l[l.idxOf a] = a := List.getElem_idxOf h2
  exact (List.getElem_inj (h₀ := h2) (h₁ := hi) nd).mp (h3.trans e.symm)
def szD : Nat → Nat
  | 0 => 1
  | d + 1 => 3 * szD d + 3
theorem szD_pos : ∀ d, 1 ≤ szD d
  | 0 => Nat.le_refl _
  | d + 1 => by show 1 ≤ 3 * szD d + 3; omega
/-- a recipe drawn out of the names ns, d deep -/
structure MadeD (ns : List (List Nat)) (d : Nat) (r : Rcp) : Prop where
  gd : r.Good
  wi : r.Wi (· ∈ ns)
  dp : r.dep ≤ 2 * d + 1
  bt : ∀ (f : List Nat → Nat) (b : Nat), (∀ u ∈ ns, f u ≤ b) → 80 ≤ b → r.bitV f ≤ b + 2 * d ∧ r.bitA f ≤ 2 * (b + 2 * d)
  sz : r.siz ≤ szD d
theorem MadeD.num {ns : List (List Nat)} {n : Int} (hn : n.natAbs < 2 ^ 70) (d : Nat) : MadeD ns d (.num n) :=
  ⟨Nat.lt_of_lt_of_le hn (by decide), trivial, Nat.le_add_left _ _, fun f b _ h2 => by
    have h3 : n.natAbs.log2 + 1 ≤ 80 := by
      by_cases h : n.natAbs = 0
      · rw [h]; decide
      · have := (Nat.log2_lt h).mpr hn
        omega
    exact ⟨by show n.natAbs.log2 + 1 ≤ _; omega, by show n.natAbs.log2 + 1 ≤ _; omega⟩, szD_pos d⟩
theorem MadeD.read {ns : List (List Nat)} (hN : ∀ u ∈ ns, Nm u) {t : List Nat} (h : t ∈ ns) (d : Nat) : MadeD ns d (.read t) :=
  ⟨hN t h, h, Nat.le_add_left _ _, fun f b hb _ => by have := hb t h; exact ⟨by show f t ≤ _; omega, by show f t ≤ _; omega⟩, szD_pos d⟩
theorem szD_mono {a b : Nat} (h : a ≤ b) : szD a ≤ szD b := by
  induction b with
  | zero => rw [Nat.le_zero.mp h]; exact Nat.le_refl _
  | succ b ih =>
    by_cases c : a = b + 1
    · rw [c]; exact Nat.le_refl _
    · have := ih (by omega)
      show szD a ≤ 3 * szD b + 3
      omega
section
variable {ns : List (List Nat)} {d : Nat} {x y z : Rcp}
theorem MadeD.up {d' : Nat} (h : d ≤ d') (hx : MadeD ns d x) : MadeD ns d' x := ⟨hx.gd, hx.wi, by have := hx.dp; omega, fun f b hb h1 => by have := hx.bt f b hb h1; omega, Nat.le_trans hx.sz (szD_mono h)⟩
theorem MadeD.two {k : Kd} (hk : k ≠ .times) (hx : MadeD ns d x) (hy : MadeD ns d y) : MadeD ns (d + 1) (.two k x y) :=
  ⟨⟨hx.gd, hy.gd⟩, ⟨hx.wi, hy.wi⟩, by have := hx.dp; have := hy.dp; show max x.dep y.dep + 1 ≤ 2 * (d + 1) + 1; omega, fun f b hb h1 => by
    have a1 := hx.bt f b hb h1
    have a2 := hy.bt f b hb h1
    refine ⟨?_, by show max (x.bitV f + y.bitV f) (max (x.bitA f) (y.bitA f)) ≤ _; omega⟩
    cases k with
    | times => exact absurd rfl hk
    | plus => show max (x.bitV f) (y.bitV f) + 1 ≤ _; omega
    | minus => show max (x.bitV f) (y.bitV f) + 1 ≤ _; omega
    | most => show max (x.bitV f) (y.bitV f) ≤ _; omega, by have := hx.sz; have := hy.sz; show x.siz + y.siz + 1 ≤ 3 * szD d + 3; have := szD_pos d; omega⟩
theorem MadeD.timesN (hx : MadeD ns d x) {n : Int} (hn : n.natAbs ≤ 3) : MadeD ns (d + 1) (.two .times x (.num n)) := by
  refine ⟨⟨hx.gd, Nat.lt_of_le_of_lt hn (by decide)⟩, ⟨hx.wi, trivial⟩, by have := hx.dp; show max x.dep 1 + 1 ≤ 2 * (d + 1) + 1; omega, fun f b hb h1 => ?_, by have := hx.sz; show x.siz + 1 + 1 ≤ 3 * szD d + 3; omega⟩
  have a1 := hx.bt f b hb h1
  have a2 := three_bits hn
  exact ⟨by show x.bitV f + (n.natAbs.log2 + 1) ≤ _; omega, by show max (x.bitV f + (n.natAbs.log2 + 1)) (max (x.bitA f) (n.natAbs.log2 + 1)) ≤ _; omega⟩
theorem MadeD.Ntimes (hx : MadeD ns d x) {n : Int} (hn : n.natAbs ≤ 3) : MadeD ns (d + 1) (.two .times (.num n) x) := by
  refine ⟨⟨Nat.lt_of_le_of_lt hn (by decide), hx.gd⟩, ⟨trivial, hx.wi⟩, by have := hx.dp; show max 1 x.dep + 1 ≤ 2 * (d + 1) + 1; omega, fun f b hb h1 => ?_, by have := hx.sz; show 1 + x.siz + 1 ≤ 3 * szD d + 3; omega⟩
  have a1 := hx.bt f b hb h1
  have a2 := three_bits hn
  exact ⟨by show (n.natAbs.log2 + 1) + x.bitV f ≤ _; omega, by show max ((n.natAbs.log2 + 1) + x.bitV f) (max (n.natAbs.log2 + 1) (x.bitA f)) ≤ _; omega⟩
theorem MadeD.small (hx : MadeD ns d x) (hy : MadeD ns d y) {m n : Int} (hm : m.natAbs ≤ 3) (hn : n.natAbs ≤ 3) : MadeD ns (d + 1) (.two .times (.pick x (.num m) (.num n)) y) ∧ MadeD ns (d + 1) (.two .times y (.pick x (.num m) (.num n))) := by
  have b1 := three_bits hm
  have b2 := three_bits hn
  have g1 : m.natAbs < 10 ^ 40 := Nat.lt_of_le_of_lt hm (by decide)
  have g2 : n.natAbs < 10 ^ 40 := Nat.lt_of_le_of_lt hn (by decide)
  have dx := hx.dp
  have dy := hy.dp
  have sx := hx.sz
  have sy := hy.sz
  have sp := szD_pos d
  refine ⟨⟨⟨⟨hx.gd, g1, g2⟩, hy.gd⟩, ⟨⟨hx.wi, trivial, trivial⟩, hy.wi⟩, by show max (max x.dep (max 1 1) + 1) y.dep + 1 ≤ 2 * (d + 1) + 1; omega, fun f b hb h1 => ?_, by show x.siz + 1 + 1 + 1 + y.siz + 1 ≤ 3 * szD d + 3; omega⟩, ⟨hy.gd, ⟨hx.gd, g1, g2⟩⟩, ⟨hy.wi, ⟨hx.wi, trivial, trivial⟩⟩, by show max y.dep (max x.dep (max 1 1) + 1) + 1 ≤ 2 * (d + 1) + 1; omega, fun f b hb h1 => ?_, by show y.siz + (x.siz + 1 + 1 + 1) + 1 ≤ 3 * szD d + 3; omega⟩
  · have a1 := hx.bt f b hb h1
    have a2 := hy.bt f b hb h1
    exact ⟨by show max (m.natAbs.log2 + 1) (n.natAbs.log2 + 1) + y.bitV f ≤ _; omega, by show max (max (m.natAbs.log2 + 1) (n.natAbs.log2 + 1) + y.bitV f) (max (max (x.bitA f) (max (m.natAbs.log2 + 1) (n.natAbs.log2 + 1))) (y.bitA f)) ≤ _; omega⟩
  · have a1 := hx.bt f b hb h1
    have a2 := hy.bt f b hb h1
    exact ⟨by show y.bitV f + max (m.natAbs.log2 + 1) (n.natAbs.log2 + 1) ≤ _; omega, by show max (y.bitV f + max (m.natAbs.log2 + 1) (n.natAbs.log2 + 1)) (max (y.bitA f) (max (x.bitA f) (max (m.natAbs.log2 + 1) (n.natAbs.log2 + 1)))) ≤ _; omega⟩
theorem MadeD.pick (hx : MadeD ns d x) (hy : MadeD ns d y) (hz : MadeD ns d z) : MadeD ns (d + 1) (.pick x y z) :=
  ⟨⟨hx.gd, hy.gd, hz.gd⟩, ⟨hx.wi, hy.wi, hz.wi⟩, by have := hx.dp; have := hy.dp; have := hz.dp; show max x.dep (max y.dep z.dep) + 1 ≤ 2 * (d + 1) + 1; omega, fun f b hb h1 => by
    have a1 := hx.bt f b hb h1
    have a2 := hy.bt f b hb h1
    have a3 := hz.bt f b hb h1
    exact ⟨by show max (y.bitV f) (z.bitV f) ≤ _; omega, by show max (x.bitA f) (max (y.bitA f) (z.bitA f)) ≤ _; omega⟩, by have := hx.sz; have := hy.sz; have := hz.sz; show x.siz + y.siz + z.siz + 1 ≤ 3 * szD d + 3; omega⟩
theorem MadeD.choose (hx : MadeD ns d x) {ms : List (List Nat)} (hm : ∀ u ∈ ms, u ∈ ns) (hM : Nms ms) : MadeD ns (d + 1) (.choose x ms) :=
  ⟨⟨hx.gd, hM⟩, ⟨hx.wi, hm⟩, by have := hx.dp; show x.dep + 1 ≤ 2 * (d + 1) + 1; omega, fun f b hb h1 => by
    have a1 := hx.bt f b hb h1
    have a2 : maxN (ms.map f) ≤ b := maxN_le fun a ha => by obtain ⟨u, hu, rfl⟩ := List.mem_map.mp ha; exact hb u (hm u hu)
    exact ⟨by show maxN (ms.map f) ≤ _; omega, by show max (x.bitA f) (maxN (ms.map f)) ≤ _; omega⟩, by have := hx.sz; show x.siz + 1 ≤ 3 * szD d + 3; omega⟩
end
/-- a house as these laws draw it: the first m names, each looks for those ahead; c: how far the numbers have grown -/
structure HouseD (ns : List (List Nat)) (c m : Nat) (h : House) : Prop where
  nd : (h.given.map (·.1) ++ h.recs.map (·.1)).Nodup
  all : ∀ k < m, ∀ u, ns[k]? = some u → u ∈ h.given.map (·.1) ++ h.recs.map (·.1)
  gv : ∀ p ∈ h.given, (∃ k, k < m ∧ ns[k]? = some p.1) ∧ p.2.natAbs ≤ 5 * 10 ^ 19 + c
  rc : ∀ p ∈ h.recs, ∃ k, k < m ∧ ns[k]? = some p.1 ∧ MadeD (ns.take k) 3 p.2
  rk : ∀ p ∈ h.recs, ∀ k, ns[k]? = some p.1 → 2 ≤ k
def wtD (ns : List (List Nat)) (u : List Nat) : Nat := 80 + 8 * (ns.idxOf u + 1)
section
variable {ns : List (List Nat)} {c m : Nat} {h : House}
theorem HouseD.own (H : HouseD ns c m h) {u : List Nat} (hu : u ∈ h.given.map (·.1) ++ h.recs.map (·.1)) : ∃ k, k < m ∧ ns[k]? = some u := by
  rcases List.mem_append.mp hu with hu | hu
  · obtain ⟨p, hp, rfl⟩ := List.mem_map.mp hu
    exact (H.gv p hp).1
  · obtain ⟨p, hp, rfl⟩ := List.mem_map.mp hu
    obtain ⟨k, a, b, _⟩ := H.rc p hp
    exact ⟨k, a, b⟩
theorem HouseD.count (H : HouseD ns c m h) : h.given.length + h.recs.length ≤ m := by
  have h1 : (h.given.map (·.1) ++ h.recs.map (·.1)).length ≤ (ns.take m).length := sub_lenR H.nd fun u hu => by
    obtain ⟨k, hk, e⟩ := H.own hu
    refine List.mem_of_getElem? (i := k) ?_
    rw [List.getElem?_take, if_pos hk]
    exact e
  rw [List.length_take, List.length_append, List.length_map, List.length_map] at h1
  omega
theorem take_idx (N : NmD ns) {k : Nat} {u : List Nat} (hu : u ∈ ns.take k) : ns.idxOf u < k ∧ u ∈ ns := by
  obtain ⟨i, hi⟩ := List.mem_iff_getElem?.mp hu
  rw [List.getElem?_take] at hi
  split at hi
  · exact ⟨by rw [idx_nd N.nd hi]; assumption, List.mem_of_getElem? hi⟩
  · cases hi
theorem HouseD.wi (N : NmD ns) (H : HouseD ns c m h) {p : RcpNm} (hp : p ∈ h.recs) : p.2.Wi fun u => u ∈ h.given.map (·.1) ++ h.recs.map (·.1) ∧ ns.idxOf u < ns.idxOf p.1 := by
  obtain ⟨k, hk, e, M⟩ := H.rc p hp
  refine M.wi.imp fun u hu => ?_
  obtain ⟨a, b⟩ := take_idx N hu
  obtain ⟨j, hj⟩ := List.mem_iff_getElem?.mp b
  have := idx_nd N.nd hj
  rw [idx_nd N.nd e]
  exact ⟨H.all j (by omega) u hj, a⟩
theorem HouseD.v (N : NmD ns) (H : HouseD ns c m h) (hc : c ≤ 10 ^ 9) : HouseV 8 h (wtD ns) := by
  refine ⟨fun p hp => ?_, fun p hp => ?_, fun u => by unfold wtD; omega⟩
  · obtain ⟨k, hk, e, M⟩ := H.rc p hp
    have hw : wtD ns p.1 = 80 + 8 * (k + 1) := by unfold wtD; rw [idx_nd N.nd e]
    have hk14 : k < 14 := by rw [← N.len]; exact (List.getElem?_eq_some_iff.mp e).1
    have hb := M.bt (wtD ns) (80 + 8 * k) (fun u hu => by
      have := (take_idx N hu).1
      unfold wtD
      omega) (by omega)
    exact ⟨N.nm _ (List.mem_of_getElem? e), good_wn M.gd, Nat.le_trans M.dp (by decide), by rw [hw]; omega, by omega⟩
  · obtain ⟨⟨k, hk, e⟩, hv⟩ := H.gv p hp
    have h66 : 5 * 10 ^ 19 + 10 ^ 9 < 2 ^ 66 := by decide
    exact ⟨N.nm _ (List.mem_of_getElem? e), Nat.lt_of_lt_of_le (Nat.lt_of_le_of_lt hv (by omega)) (Nat.pow_le_pow_right (by decide) (by unfold wtD; omega : 66 ≤ _))⟩
theorem wtD_le (N : NmD ns) (u : List Nat) : wtD ns u ≤ 400 := by
  have : ns.idxOf u ≤ ns.length := List.idxOf_le_length
  rw [N.len] at this
  unfold wtD
  omega
theorem HouseD.s (N : NmD ns) (H : HouseD ns c m h) (hc : c ≤ 10 ^ 9) (hm : m ≤ 14) : HouseS 8 h := by
  refine ⟨(H.v N hc).ok bet0, fun p hp => ?_, fun t v ⟨n, e⟩ => pow_mono ((H.v N hc).small n e) (wtD_le N t), H.nd, by have := H.count; omega⟩
  obtain ⟨k, hk, e, M⟩ := H.rc p hp
  have dp := M.dp
  exact ⟨Rcp.isRcp M.gd (by omega) (Nat.le_trans M.sz (by decide)), good_nb M.gd, by omega⟩
theorem HouseD.bit (N : NmD ns) (H : HouseD ns c m h) {p : RcpNm} (hp : p ∈ h.recs) : p.2.bitA (fun _ => 400) ≤ 1000 ∧ p.2.Wn ∧ p.2.Nb ∧ p.2.dep ≤ 8 := by
  obtain ⟨k, hk, e, M⟩ := H.rc p hp
  have := M.bt (fun _ => 400) 400 (fun _ _ => Nat.le_refl _) (by decide)
  have dp := M.dp
  exact ⟨by omega, good_wn M.gd, good_nb M.gd, by omega⟩
theorem HouseD.val (N : NmD ns) (H : HouseD ns c m h) : ∀ (n : Nat) (u : List Nat), ns.idxOf u < n → u ∈ h.given.map (·.1) ++ h.recs.map (·.1) → ∃ v, Val h u v
  | 0, u, hn, _ => absurd hn (Nat.not_lt_zero _)
  | n + 1, u, hn, hu => by
    cases e : seen h.given u with
    | some v => exact ⟨v, .given e⟩
    | none =>
      have hr : u ∈ h.recs.map (·.1) := (List.mem_append.mp hu).resolve_left (seen_none e)
      obtain ⟨p, hp, rfl⟩ := List.mem_map.mp hr
      have e2 := rcpOf_ndA (List.nodup_append.mp H.nd).2.1 hp
      obtain ⟨v, hv⟩ := Ev_total (F := Val h) (fun w hw => H.val N n w (by have := hw.2; omega) hw.1) (H.bit N hp).2.1 (H.wi N hp)
      exact ⟨v, .work_ev e e2 hv⟩
end
/-! ### what the laws over stores draw from: a dict of rest, digits, count -/
open LamX NdefX
def dst (r : Int) (d : Bool) (c : Int) : List (Key × V) := [(kT "rest", .int r), (kT "digits", .bl d), (kT "count", .int c)]
theorem dst_rest (r : Int) (m : Bool) (c : Int) : valV (dst r m c) (kT "rest") = some (.int r) := rfl
theorem dst_digits (r : Int) (m : Bool) (c : Int) : valV (dst r m c) (kT "digits") = some (.bl m) := by
  have h1 : decide (kT "rest" = kT "digits") = false := by decide +kernel
  have h2 : decide (kT "digits" = kT "digits") = true := by decide +kernel
  simp only [valV, dst, List.find?_cons, h1, h2, Option.map_some]
  rfl
theorem dst_count (r : Int) (m : Bool) (c : Int) : valV (dst r m c) (kT "count") = some (.int c) := by
  have h1 : decide (kT "rest" = kT "count") = false := by decide +kernel
  have h2 : decide (kT "digits" = kT "count") = false := by decide +kernel
  have h3 : decide (kT "count" = kT "count") = true := by decide +kernel
  simp only [valV, dst, List.find?_cons, h1, h2, h3, Option.map_some]
  rfl
theorem dst_put_rest (r : Int) (m : Bool) (c v : Int) : putK (dst r m c) (kT "rest") (.int v) = dst v m c := by
  unfold putK dst
  have h1 : ¬ kT "digits" = kT "rest" := by decide +kernel
  have h2 : ¬ kT "count" = kT "rest" := by decide +kernel
  rw [if_pos (by simp)]
  simp only [List.map_cons, List.map_nil, if_pos, if_neg h1, if_neg h2]
theorem dst_put_count (r : Int) (m : Bool) (c v : Int) : putK (dst r m c) (kT "count") (.int v) = dst r m v := by
  unfold putK dst
  have h1 : ¬ kT "rest" = kT "count" := by decide +kernel
  have h2 : ¬ kT "digits" = kT "count" := by decide +kernel
  rw [if_pos (by simp)]
  simp only [List.map_cons, List.map_nil, if_pos, if_neg h1, if_neg h2]
theorem merge_dst (r : Int) (m : Bool) (c : Int) : mergeK [] (dst r m c) = dst r m c := by
  have h1 : decide (kT "rest" = kT "digits") = false := by decide +kernel
  have h2 : decide (kT "rest" = kT "count") = false := by decide +kernel
  have h3 : decide (kT "digits" = kT "count") = false := by decide +kernel
  simp only [mergeK, dst, List.foldl_cons, List.foldl_nil, putK, List.any_nil, List.any_cons, List.nil_append, List.cons_append, h1, h2, h3, Bool.or_false, if_neg Bool.false_ne_true]
def spState (K : PySem.W.Frag) : Sp := fun vs H Q _ => ∃ (a : Addr) (ns : List Int) (k : Int), vs = [.ref a, .int k] ∧ SqL K H a (ns.map V.int) ∧ ns.length ≤ 63 ∧ 0 ≤ k ∧ k ≤ 1000 ∧ ∀ (p : Addr) (r : Int) (m : Bool), H p = none → Q (.ref p) (upd H p (.dK (dst r m k)))
def spDraw : Sp := fun vs H Q _ => ∃ (p : Addr) (r : Int) (m : Bool) (c many : Int), vs = [.ref p, .int many] ∧ H p = some (.dK (dst r m c)) ∧ 0 < many ∧ many.natAbs < 2 ^ 200 ∧ 0 ≤ c ∧ c ≤ 1000000 ∧
  ∀ (H' : Hp) (v r' c' : Int), (∀ b, b ≠ p → H' b = H b) → H' p = some (.dK (dst r' m c')) → 0 ≤ c' → c' ≤ c + 1 → 0 ≤ v → v < many → Q (.int v) H'
section
variable {P : Program} {w : World} {K : PySem.W.Frag} {mg : Str → Option Value} {base : Heap}
abbrev s__law_state : Stmt := topS 18
abbrev N__law_state : List Str := ["script", "k", "rest"]
theorem sc__law_state : FnScope N__law_state ["script", "k"] (defScope s__law_state) := ⟨rfl, rfl, rfl, by decide +kernel, rfl, by decide +kernel, by decide +kernel⟩

theorem ok__law_stateS (T : Txt K mg) (D : IsDef K mg "_law_state" s__law_state ["script", "k"]) : Cal P w K mg base CX0 1 "_law_state" ["script", "k"] (spState K) := by
  refine D.cal sc__law_state (fun vs H Q E h => ?_) (fun f cdv A outer s H vs Q E hr h => ?_)
  · obtain ⟨a, ns, k, rfl, _⟩ := h
    rfl
  obtain ⟨a, ns, k, rfl, hS, h63, k0, k1, q⟩ := h
  refine ⟨_, (pss_cons (ps_set (i := 2) sc__law_state.nd rfl (Or.inl rfl) pe_int)
      (pss_cons (ps_if (pt_cmpR op_lt (pv 1) (pe_callB call_len_seq (by rfl) T.b_len PySem.boot_len (pa_cons (pv 0) pa_nil)) (nomark _))
        (pss_one (ps_set (i := 2) sc__law_state.nd rfl (Or.inl rfl) (pe_ix (r := rIxL K) ix_list (pv 0) (pv 1) (fun _ _ => rfl))))
        pss_nil)
      (pss_one (ps_ret (pe_disp (pps_cons pe_str (pv 2) (pps_cons pe_str (pe_or (pe_cmpR op_ge (pv 1) (pe_callB call_len_seq (by rfl) T.b_len PySem.boot_len (pa_cons (pv 0) pa_nil)) (nomark _)) (pe_one (pe_cmpR op_ge (pv 2) (pe_op op_pow pe_int pe_int) (nomark _)))) (pps_cons pe_str (pv 1) pps_nil))) (by rfl) (by rfl) (fun z => by cases z) (by decide)))))), ?_⟩
  refine in_name rfl ?_
  refine in_nx (in_seq (nx_post (fun σ Z => ∃ rest : Int, σ = [some (.ref a), some (.int k), some (.int rest)] ∧ Z = H) (fun nx hnx => ?_) ?_))
  · refine ⟨_, rfl, _, rfl, a, _, rfl, .inl hS, _, _, rfl, rfl, _, rfl, ?_⟩
    refine ite2 (fun c => ?_) (fun _ => hnx _ _ ⟨0, rfl, rfl⟩)
    have c' : k < (((ns.map V.int).length : Nat) : Int) := of_decide_eq_true c
    rw [List.length_map] at c'
    obtain ⟨v, hv⟩ := int_at k0 c'
    exact ⟨_, rfl, _, rfl, a, _, _, _, rfl, rfl, hS, hv, hnx _ _ ⟨v, rfl, rfl⟩⟩
  rintro σ Z ⟨rest, rfl, rfl⟩
  refine in_nx ?_
  refine fun p np => ?_
  have hS' := (same_new np (.dK [])).seq hS
  have fin : ∀ m : Bool, Q (.ref p) (upd (upd Z p (.dK [])) p (.dK (mergeK [] (dst rest m k)))) := fun m => by
    rw [merge_dst, upd_upd]
    exact q p _ _ np
  refine ⟨_, rfl, _, rfl, _, rfl, a, _, rfl, .inl hS', _, _, rfl, rfl, _, rfl, ?_⟩
  refine ite2 (fun _ => ?_) (fun _ => ?_)
  · exact ⟨_, rfl, upd_same, dst rest true k, rfl, (by show 3 ≤ 15; decide), fin true⟩
  · exact ⟨_, rfl, _, _, rfl, rfl, ⟨by decide, by decide +kernel⟩, _, _, rfl, rfl, _, rfl, upd_same, dst rest _ k, rfl, (by show 3 ≤ 15; decide), fin _⟩
abbrev s__law_draw : Stmt := topS 19
abbrev N__law_draw : List Str := ["state", "many", "found", "x"]
theorem sc__law_draw : FnScope N__law_draw ["state", "many"] (defScope s__law_draw) := ⟨rfl, rfl, rfl, by decide +kernel, rfl, by decide +kernel, by decide +kernel⟩

theorem ok__law_drawS (T : Txt K mg) (D : IsDef K mg "_law_draw" s__law_draw ["state", "many"]) : Cal P w K mg base CX0 1 "_law_draw" ["state", "many"] spDraw := by
  refine D.cal sc__law_draw (fun vs H Q E h => ?_) (fun f cdv A outer s H vs Q E hr h => ?_)
  · obtain ⟨p, r, m, c, many, rfl, _⟩ := h
    rfl
  obtain ⟨p, r, m, c, many, rfl, hp, m0, mb, c0, c1, q⟩ := h
  have hu : (cxOf CX0 P w K mg base N__law_draw "_law_draw" (defScope s__law_draw) f cdv A outer s H E).nox.A.units + 1 < cLine := by
    exact Nat.lt_of_le_of_lt (Nat.add_le_add_left (by decide : 1 ≤ 64) _) hr.units
  refine ⟨_, (pss_cons (ps_if (pt_val (pe_dget hu (pv 0) pe_str (fun _ _ => rfl)))
        (pss_cons (ps_set (i := 2) sc__law_draw.nd rfl (Or.inl rfl) (pe_op op_mod (pe_dget hu (pv 0) pe_str (fun _ _ => rfl)) (pv 1)))
      (pss_cons (ps_dput hu (pv 0) pe_str (pe_op op_fdivW (pe_dget hu (pv 0) pe_str (fun _ _ => rfl)) (pv 1)) rfl)
      (pss_one (ps_ret (pv 2)))))
        pss_nil)
      (pss_cons (ps_dput hu (pv 0) pe_str (pe_op op_add (pe_dget hu (pv 0) pe_str (fun _ _ => rfl)) pe_int) rfl)
      (pss_cons (ps_set (i := 3) sc__law_draw.nd rfl (Or.inl rfl) (pe_op op_mod (pe_op op_add (pe_op op_mod (pe_dget hu (pv 0) pe_str (fun _ _ => rfl)) pe_int) (pe_op op_mul pe_int (pe_dget hu (pv 0) pe_str (fun _ _ => rfl)))) pe_int))
      (pss_cons (ps_set (i := 3) sc__law_draw.nd rfl (Or.inl rfl) (pe_op op_mod (pe_op op_mul (pv 3) (pv 3)) pe_int))
      (pss_cons (ps_set (i := 3) sc__law_draw.nd rfl (Or.inl rfl) (pe_op op_mod (pe_op op_mul (pe_op op_add (pv 3) pe_int) (pv 3)) pe_int))
      (pss_one (ps_ret (pe_op op_mod (pe_op op_fdivW (pv 3) pe_int) (pv 1))))))))), ?_⟩
  have hlt : ∀ (r : Int) (m : Bool) (c : Int), (dst r m c).length < sizeLine := fun _ _ _ => lt_line (by show 3 < 16777216; decide)
  refine ⟨_, rfl, p, _, rfl, (dst_digits r m c) ▸ DGet.k (k := kT "digits") hp, ?_⟩
  cases m with
  | true =>
    refine ⟨_, rfl, iteT ?_⟩
    refine ⟨_, rfl, p, _, rfl, (dst_rest r true c) ▸ DGet.k (k := kT "rest") hp, ?_⟩
    refine ⟨_, rfl, _, _, rfl, rfl, m0, ?_⟩
    refine in_name rfl ?_
    refine ⟨_, rfl, p, _, rfl, (dst_rest r true c) ▸ DGet.k (k := kT "rest") hp, ?_⟩
    refine ⟨_, rfl, _, _, rfl, rfl, wide_div m0 mb (by decide) (by decide), _, rfl, p, _, rfl, DPut.k (k := kT "rest") hp (hlt _ _ _), ?_⟩
    rw [dst_put_rest]
    exact ⟨_, rfl, q _ _ _ _ (fun b hb => upd_ne hb) upd_same c0 (by omega) (Int.emod_nonneg _ (by omega)) (Int.emod_lt_of_pos _ m0)⟩
  | false =>
    refine ⟨_, rfl, iteF ?_⟩
    refine ⟨_, rfl, p, _, rfl, (dst_count r false c) ▸ DGet.k (k := kT "count") hp, _, _, rfl, rfl, _, rfl, p, _, rfl, DPut.k (k := kT "count") hp (hlt _ _ _), ?_⟩
    rw [dst_put_count]
    have h1 : upd H p (.dK (dst r false (c + 1))) p = some (.dK (dst r false (c + 1))) := upd_same
    refine ⟨_, rfl, p, _, rfl, (dst_rest r false (c + 1)) ▸ DGet.k (k := kT "rest") h1, _, _, rfl, rfl, (by show (0 : Int) < 999999999989; decide), ?_⟩
    refine ⟨_, rfl, p, _, rfl, (dst_count r false (c + 1)) ▸ DGet.k (k := kT "count") h1, _, _, rfl, rfl, .inl ⟨by decide, by decide⟩, _, _, rfl, rfl, _, _, rfl, rfl, (by show (0 : Int) < 999999999989; decide), ?_⟩
    refine in_name rfl ?_
    have y0 : 0 ≤ (r % 999999999989 + 290027 * (c + 1)) % 999999999989 := Int.emod_nonneg _ (by decide)
    have y1 : (r % 999999999989 + 290027 * (c + 1)) % 999999999989 < 999999999989 := Int.emod_lt_of_pos _ (by decide)
    obtain ⟨x, ex⟩ : ∃ x, x = (r % 999999999989 + 290027 * (c + 1)) % 999999999989 := ⟨_, rfl⟩
    rw [← ex] at y0 y1
    show gName 3 (.int ((r % 999999999989 + 290027 * (c + 1)) % 999999999989)) _ _ _
    rw [← ex]
    refine in_name rfl ?_
    refine ⟨_, rfl, _, rfl, _, _, rfl, rfl, .inl ⟨by show -(2 ^ 64) < x; omega, by show x < 2 ^ 64; omega⟩, _, _, rfl, rfl, (by show (0 : Int) < 1000000000039; decide), ?_⟩
    have z0 : 0 ≤ x * x % 1000000000039 := Int.emod_nonneg _ (by decide)
    have z1 : x * x % 1000000000039 < 1000000000039 := Int.emod_lt_of_pos _ (by decide)
    obtain ⟨y, ey⟩ : ∃ y, y = x * x % 1000000000039 := ⟨_, rfl⟩
    rw [← ey] at z0 z1
    show gName 3 (.int (x * x % 1000000000039)) _ _ _
    rw [← ey]
    refine in_name rfl ?_
    refine ⟨_, rfl, _, _, rfl, rfl, _, rfl, _, _, rfl, rfl, .inl ⟨by show -(2 ^ 64) < y + 350377; omega, by show y + 350377 < 2 ^ 64; omega⟩, _, _, rfl, rfl, (by show (0 : Int) < 999999999961; decide), ?_⟩
    refine in_name rfl ?_
    exact ⟨_, rfl, _, _, rfl, rfl, ⟨by decide, by decide +kernel⟩, _, rfl, _, _, rfl, rfl, m0, q _ _ _ (c + 1) (fun b hb => upd_ne hb) upd_same (by omega) (Int.le_refl _) (Int.emod_nonneg _ (by omega)) (Int.emod_lt_of_pos _ m0)⟩
end
/-! ### small things for the laws over stores -/
open LamX NdefX
/-- all but one dict stays -/
def PF (p : Addr) (H H' : Hp) : Prop := ∀ b u, b ≠ p → H b = some u → H' b = some u
theorem PF.refl (p : Addr) (H : Hp) : PF p H H := fun _ _ _ e => e
theorem PF.trans {p : Addr} {A B C : Hp} (f : PF p A B) (g : PF p B C) : PF p A C := fun b u n e => g b u n (f b u n e)
theorem PF.of {p : Addr} {A B : Hp} (s : Same A B) : PF p A B := fun b u _ e => s b u e
theorem PF.take {p : Addr} {A B : Hp} (h : ∀ b, b ≠ p → B b = A b) : PF p A B := fun b u n e => by rw [h b n]; exact e
theorem PF.keep {p : Addr} {A B : Hp} {k : List (Key × V)} (f : PF p A B) (e : A p = some (.dK k)) : Keep A B := fun b ys e2 => f b _ (fun z => by rw [z, e] at e2; cases e2) e2
theorem PF.lst {p : Addr} {A B : Hp} {k : List (Key × V)} (f : PF p A B) (e : A p = some (.dK k)) {b : Addr} {xs : List V} (h : A b = some (.lst xs)) : B b = some (.lst xs) := f b _ (fun z => by rw [z, e] at h; cases h) h
theorem PF.same {p : Addr} {A B C : Hp} (s : Same A B) (np : A p = none) (f : PF p B C) : Same A C := fun b u e => f b u (fun z => by rw [z, np] at e; cases e) (s b u e)
theorem joinL_nilS : ∀ l : List (List Nat), TL.joinL [] l = l.flatten
  | [] => rfl
  | [a] => by show a = [a].flatten; simp
  | a :: b :: r => by
    show a ++ ([] ++ TL.joinL [] (b :: r)) = _
    rw [joinL_nilS (b :: r)]
    rfl
theorem cutS_fromS (z : List Nat) (a : Nat) : cutS (SX.S z) (some (a : Int)) none = SX.S (z.drop a) := by
  show SX.S ((z.drop (HT.sIx (SX.S z).length 0 (some (a : Int)))).take (HT.sIx (SX.S z).length (SX.S z).length none - HT.sIx (SX.S z).length 0 (some (a : Int)))) = _
  rw [HT.sIx_nat, HT.sIx_none, SX.S_len]
  congr 1
  by_cases ha : a ≤ z.length
  · rw [Nat.min_eq_left ha, List.take_of_length_le (by rw [List.length_drop]; exact Nat.le_refl _)]
  · rw [Nat.min_eq_right (by omega), List.drop_eq_nil_of_le (Nat.le_refl _), List.drop_eq_nil_of_le (by omega), List.take_nil]
theorem cutS_toS (z : List Nat) (k : Nat) : cutS (SX.S z) none (some (k : Int)) = SX.S (z.take k) := by
  show SX.S ((z.drop (HT.sIx (SX.S z).length 0 none)).take (HT.sIx (SX.S z).length (SX.S z).length (some (k : Int)) - HT.sIx (SX.S z).length 0 none)) = _
  rw [HT.sIx_nat, HT.sIx_none, SX.S_len, Nat.sub_zero, List.drop_zero]
  congr 1
  by_cases h : k ≤ z.length
  · rw [Nat.min_eq_left h]
  · rw [Nat.min_eq_right (by omega), List.take_of_length_le (Nat.le_refl _), List.take_of_length_le (by omega)]
/-! ### the names of the laws over stores -/
open LamX NdefX
def nameD (sty off : Nat) (w : List Nat) (k : Nat) : List Nat := if sty = 0 then letters.getD ((off + k / 8) % 26) 97 :: w.take (k % 8) else w.drop (7 - k % 8) ++ [letters.getD ((off + k / 8) % 26) 97]
def namesD (sty off : Nat) (w : List Nat) (m : Nat) : List (List Nat) := (List.range m).map (nameD sty off w)
theorem namesD_succ (sty off : Nat) (w : List Nat) (m : Nat) : namesD sty off w (m + 1) = namesD sty off w m ++ [nameD sty off w m] := by unfold namesD; rw [List.range_succ, List.map_append]; rfl
theorem letD_ok {m : Nat} (h : m < 26) : 97 ≤ letters.getD m 97 ∧ letters.getD m 97 ≤ 122 := by
  have : ∀ m < 26, 97 ≤ letters.getD m 97 ∧ letters.getD m 97 ≤ 122 := by decide
  exact this m h
theorem letD_ne {m : Nat} (h : m < 26) : letters.getD m 97 ≠ letters.getD ((m + 1) % 26) 97 := by
  have : ∀ m < 26, letters.getD m 97 ≠ letters.getD ((m + 1) % 26) 97 := by decide
  exact this m h
theorem namesD_ok {sty off : Nat} {w : List Nat} (hw : w.length = 7) (hc : ∀ c ∈ w, 97 ≤ c ∧ c ≤ 122) : NmD (namesD sty off w 14) := by
  have len : ∀ k, (nameD sty off w k).length = k % 8 + 1 := fun k => by
    unfold nameD
    split
    · rw [List.length_cons, List.length_take]; omega
    · rw [List.length_append, List.length_drop]; show _ + 1 = _; omega
  refine ⟨by unfold namesD; rw [List.length_map, List.length_range], ?_, fun u hu => ?_⟩
  · refine List.pairwise_iff_getElem.mpr fun i j hi hj hij => ?_
    unfold namesD at hi hj ⊢
    rw [List.length_map, List.length_range] at hi hj
    rw [List.getElem_map, List.getElem_map, List.getElem_range, List.getElem_range]
    intro z
    have l1 := congrArg List.length z
    rw [len, len] at l1
    have e1 : j = i + 8 := by omega
    have m26 : off % 26 < 26 := Nat.mod_lt _ (by decide)
    have a1 : (off + i / 8) % 26 = off % 26 := by have : i / 8 = 0 := by omega
                                                  rw [this, Nat.add_zero]
    have a2 : (off + j / 8) % 26 = (off % 26 + 1) % 26 := by
      have : j / 8 = 1 := by omega
      rw [this]; omega
    refine letD_ne m26 ?_
    unfold nameD at z
    rw [a1, a2] at z
    split at z
    · exact (List.cons.inj z).1
    · exact (List.cons.inj (List.append_inj' z rfl).2).1
  · obtain ⟨k, hk, rfl⟩ := List.mem_map.mp hu
    refine ⟨by rw [len]; omega, by rw [len]; omega, fun c h => ?_⟩
    have lc := letD_ok (m := (off + k / 8) % 26) (Nat.mod_lt _ (by decide))
    unfold nameD at h
    split at h
    · rcases List.mem_cons.mp h with rfl | h
      · exact lc
      · exact hc c (List.mem_of_mem_take h)
    · rcases List.mem_append.mp h with h | h
      · exact hc c (List.mem_of_mem_drop h)
      · rw [List.mem_singleton.mp h]; exact lc
def spNamesS (K : PySem.W.Frag) : Sp := fun vs H Q _ => ∃ (a : Addr) (cs : List Int), vs = [.ref a] ∧ SqL K H a (cs.map V.int) ∧ cs.length ≤ 63 ∧ ∀ (L : Addr) (ns : List (List Nat)) (H' : Hp), Same H H' → H L = none → H' L = some (.lst (txs ns)) → NmD ns → Q (.ref L) H'
section
variable {P : Program} {w : World} {K : PySem.W.Frag} {mg : Str → Option Value} {base : Heap}
abbrev s__law_names : Stmt := topS 20
abbrev N__law_names : List Str := ["script", "letters", "state", "style", "off", "k", "word", "names", "first"]
theorem sc__law_names : FnScope N__law_names ["script"] (defScope s__law_names) := ⟨rfl, rfl, rfl, by decide +kernel, rfl, by decide +kernel, by decide +kernel⟩

theorem ok__law_namesS (T : Txt K mg) (D : IsDef K mg "_law_names" s__law_names ["script"]) (C__law_state : Cal P w K mg base CX0 1 "_law_state" ["script", "k"] (spState K)) (C__law_draw : Cal P w K mg base CX0 1 "_law_draw" ["state", "many"] spDraw) : Cal P w K mg base CX0 2 "_law_names" ["script"] (spNamesS K) := by
  refine D.cal sc__law_names (fun vs H Q E h => ?_) (fun f cdv A outer s H vs Q E hr h => ?_)
  · obtain ⟨a, cs, rfl, _⟩ := h
    rfl
  obtain ⟨a, cs, rfl, hS, h63, q⟩ := h
  refine ⟨_, (pss_cons (ps_set (i := 1) sc__law_names.nd rfl (Or.inr rfl) pe_str)
      (pss_cons (ps_set (i := 2) sc__law_names.nd rfl (Or.inr rfl) (pe_cal C__law_state (hr.mono (by first | decide | omega)) pass0 (pa_cons (pv 0) (pa_cons pe_int pa_nil))))
      (pss_cons (ps_set (i := 3) sc__law_names.nd rfl (Or.inl rfl) (pe_cal C__law_draw (hr.mono (by first | decide | omega)) pass0 (pa_cons (pv 2) (pa_cons pe_int pa_nil))))
      (pss_cons (ps_set (i := 4) sc__law_names.nd rfl (Or.inl rfl) (pe_cal C__law_draw (hr.mono (by first | decide | omega)) pass0 (pa_cons (pv 2) (pa_cons pe_int pa_nil))))
      (pss_cons (ps_set (i := 6) sc__law_names.nd rfl (Or.inl rfl) (pe_join pe_str (pe_lc (own := [("k", 5)]) (g := gName 5)  (by rfl) sc__law_names.nd  (pi_range1 rfl T.b_range (pa_cons pe_int pa_nil)) (blkOk_by (own := [("k", 5)]) (N := N__law_names) (sc := defScope s__law_names) (by decide +kernel)) (fun _ _ _ _ _ => (pg_name (i := 5) sc__law_names.nd rfl (Or.inl rfl))) (fun _ _ _ _ _ => pts_nil) (fun _ _ _ _ _ => (pe_item_str (pv 1) (pe_cal C__law_draw (hr.mono (by first | decide | omega)) pass0 (pa_cons (pv 2) (pa_cons pe_int pa_nil))) (fun _ _ => rfl))))))
      (pss_cons (ps_set (i := 7) sc__law_names.nd rfl (Or.inl rfl) (pe_lstA pa_nil))
      (pss_cons (ps_for PassesOwn.never rfl (pi_range1 rfl T.b_range (pa_cons pe_int pa_nil)) (pg_name (i := 5) sc__law_names.nd rfl (Or.inl rfl))
        (pss_cons (ps_set (i := 8) sc__law_names.nd rfl (Or.inl rfl) (pe_item_str (pv 1) (pe_op op_mod (pe_op op_add (pv 4) (pe_op op_fdivW (pv 5) pe_int)) pe_int) (fun _ _ => rfl)))
      (pss_one (ps_expr (pe_bm PySem.F.plainAttrs_list PySem.F.slot_list_append PySem.F.type_list_append mt_append (pv 7) (pa_cons (pe_ix (r := rIxL K) ix_list (pe_lstA (pa_cons (pe_op op_add_str (pv 8) (pe_slice sl_str (pv 6) po_none (po_some (pe_op op_mod (pv 5) pe_int)))) (pa_cons (pe_op op_add_str (pe_slice sl_str (pv 6) (po_some (pe_op op_sub pe_int (pe_op op_mod (pv 5) pe_int))) po_none) (pv 8)) pa_nil))) (pv 3) (fun _ _ => rfl)) pa_nil))))))
      (pss_one (ps_ret (pv 7)))))))))), ?_⟩
  have hlen : ("abcdefghijklmnopqrstuvwxyz" : Str).length = 26 := by rw [letters_is, SX.S_len]; rfl
  have let26 : ∀ v : Int, 0 ≤ v → v < 26 → ("abcdefghijklmnopqrstuvwxyz" : Str).cps[v.toNat]? = some (letters.getD v.toNat 97) := fun v v0 v26 => by
    have hv : v.toNat < letters.length := by show v.toNat < 26; omega
    rw [letters_is]
    show letters.toArray[v.toNat]? = _
    rw [List.getElem?_toArray, List.getElem?_eq_getElem hv, List.getD_eq_getElem?_getD, List.getElem?_eq_getElem hv]
    rfl
  refine in_name rfl ?_
  refine in_nx (in_seq (in_asg ⟨_, rfl, a, cs, 1, rfl, hS, h63, by decide, by decide, fun p r0 m np => ?_⟩))
  have s1 := same_new np (.dK (dst r0 m 1))
  have p1 : upd H p (.dK (dst r0 m 1)) p = some (.dK (dst r0 m 1)) := upd_same
  generalize upd H p (.dK (dst r0 m 1)) = H1 at s1 p1 ⊢
  refine in_name rfl ?_
  refine in_nx (in_seq (in_asg ⟨_, rfl, p, r0, m, 1, 2, rfl, p1, by decide, by decide, by decide, by decide, fun H2 sty r2 c2 g2 p2 c20 c21 v20 v21 => ?_⟩))
  refine in_name rfl ?_
  refine in_nx (in_seq (in_asg ⟨_, rfl, p, r2, m, c2, 26, rfl, p2, by decide, by decide, c20, by omega, fun H3 off r3 c3 g3 p3 c30 c31 v30 v31 => ?_⟩))
  refine in_name rfl ?_
  have f3 : PF p H1 H3 := (PF.take g2).trans (PF.take g3)
  have s3 : Same H H3 := PF.same s1 np f3
  refine in_nx (in_seq (in_asg ⟨⟨_, rfl⟩, 7, rfl, by decide, by decide, fun L nL => ?_⟩))
  have nLp : L ≠ p := (ne_of_none p3 nL).symm
  refine lc_range (lo := 0) (n := 7) (fun i Z => ∃ (ss : List Nat) (r' c' : Int), (∀ b u, b ≠ p → b ≠ L → H3 b = some u → Z b = some u) ∧ Z p = some (.dK (dst r' m c')) ∧ 0 ≤ c' ∧ c' ≤ c3 + i ∧ Z L = some (.lst (txs (ones ss))) ∧ ss.length = i ∧ ∀ c ∈ ss, 97 ≤ c ∧ c ≤ 122)
      ⟨[], r3, c3, fun b u _ nb e => by rw [upd_ne nb]; exact e, by rw [upd_ne (ne_of_none p3 nL)]; exact p3, c30, by omega, upd_same, rfl, fun _ h => (nomatch h)⟩ ?_ ?_
  · rintro j Z hj ⟨ss, r5, c5, f5, p5, c50, c51, hLZ, hn, hc⟩
    refine ⟨rfl, _, rfl, _, rfl, p, r5, m, c5, 26, rfl, p5, by decide, by decide, c50, by omega, fun H4 v r4 c4 g4 p4 i0 i1 v0 v26 => ?_⟩
    have hcc := let26 v v0 v26
    refine ⟨_, v, letters.getD v.toNat 97, rfl, rfl, v0, by omega, by rw [hlen]; omega, hcc, _, (g4 L nLp).trans hLZ, lt_line (by rw [txs_len, ones_len]; omega), ss ++ [letters.getD v.toNat 97], r4, c4, fun b u n nb e => ?_, by rw [upd_ne nLp.symm]; exact p4, i0, by omega, ?_, by rw [List.length_append, hn]; rfl, fun x hx => ?_⟩
    · rw [upd_ne nb, g4 b n]
      exact f5 b u n nb e
    · rw [upd_same]
      unfold ones
      rw [List.map_append, txs_app]
      rfl
    · rcases List.mem_append.mp hx with h | h
      · exact hc x h
      · rw [List.mem_singleton.mp h]
        exact letD_ok (by omega)
  rintro H4 ⟨ss, r4, c4, f4, p4, c40, c41, hL4, hn, hc⟩
  have ee : ("" : Str) = SX.S [] := by decide +kernel
  have ej : Txt.join "" ((ones ss).map SX.S) = SX.S ss := by
    rw [ee]
    refine (SX.join_S [] (ones ss)).trans ?_
    rw [joinL_nilS, ones_flat]
  refine ⟨"", L, (ones ss).map SX.S, rfl, rfl, .inl (SqL.of hL4), ?_, ?_⟩
  · rw [ones_sum, List.length_map, ones_len, ee, SX.S_len]
    show ss.length + ss.length * 0 ≤ 16777216
    omega
  rw [ej]
  have s4 : Same H H4 := fun b u e => f4 b u (fun z => by rw [z, np] at e; cases e) (fun z => by have := s3 _ _ e; rw [z, nL] at this; cases this) (s3 _ _ e)
  refine in_name rfl ?_
  refine in_nx (in_seq (in_asg ⟨le_line (Nat.le_of_ble_eq_true rfl), fun Lo H5 nLo s5' eLo => ?_⟩))
  have s5 : Same H4 H5 := s5'
  have s05 := s4.trans s5
  have nLoH : H Lo = none := s4.free nLo
  refine in_name rfl ?_
  refine in_nx (in_seq ?_)
  refine ⟨14, rfl, by decide, by decide, for_range (lo := 0) (n := 14) (fun i σ Z => ∃ (w5 w8 : Option V), σ = [some (.ref a), some (.str "abcdefghijklmnopqrstuvwxyz"), some (.ref p), some (.int sty), some (.int off), w5, some (.str (SX.S ss)), some (.ref Lo), w8] ∧ (∀ b u, b ≠ Lo → H5 b = some u → Z b = some u) ∧ Z Lo = some (.lst (txs (namesD sty.toNat off.toNat ss i))))
    ⟨none, none, rfl, fun _ _ _ e => e, eLo⟩ ?_ ?_⟩
  · rintro i σ Z hi ⟨w5, w8, rfl, sZ, eZ⟩
    refine in_name rfl ?_
    have hd8 : (0 + (i : Int)) / 8 = ((i / 8 : Nat) : Int) := by omega
    have hm8 : (0 + (i : Int)) % 8 = ((i % 8 : Nat) : Int) := by omega
    have hoff : (off + (0 + (i : Int)) / 8) % 26 = (((off.toNat + i / 8) % 26 : Nat) : Int) := by omega
    have hcc := let26 ((off + (0 + (i : Int)) / 8) % 26) (by omega) (by omega)
    refine ⟨_, rfl, _, rfl, _, rfl, _, _, rfl, rfl, ⟨by decide, by decide +kernel⟩, _, _, rfl, rfl, _, _, rfl, rfl, (by show (0 : Int) < 26; decide), _, _, letters.getD ((off + (0 + (i : Int)) / 8) % 26).toNat 97, rfl, rfl, (by show 0 ≤ (off + (0 + (i : Int)) / 8) % 26; omega), (by show (off + (0 + (i : Int)) / 8) % 26 < 2 ^ 63; omega), (by rw [hlen]; show (off + (0 + (i : Int)) / 8) % 26 < 26; omega), hcc, ?_⟩
    rw [hoff, Int.toNat_natCast]
    show gName 8 (V.str (SX.S [letters.getD ((off.toNat + i / 8) % 26) 97])) _ _ _
    refine in_name rfl ?_
    have c1 : cutS (SX.S ss) none (some ((0 + (i : Int)) % 8)) = SX.S (ss.take (i % 8)) := by rw [hm8]; exact cutS_toS ss _
    have c2 : cutS (SX.S ss) (some (7 - (0 + (i : Int)) % 8)) none = SX.S (ss.drop (7 - i % 8)) := by
      rw [show 7 - (0 + (i : Int)) % 8 = ((7 - i % 8 : Nat) : Int) by omega]
      exact cutS_fromS ss _
    refine in_nx ⟨_, rfl, .inl ⟨rfl, _, .inl (.inl eZ)⟩, ?_⟩
    refine ⟨_, rfl, _, rfl, _, rfl, _, _, rfl, rfl, (by show (0 : Int) < 8; decide), _, rfl, _, rfl, le_line (by rw [SX.S_len]; omega), ?_⟩
    rw [c1]
    refine ⟨_, _, rfl, rfl, le_line (by rw [SX.S_len, SX.S_len, List.length_take]; show 1 + _ ≤ _; omega), ?_⟩
    rw [SX.S_cat]
    refine ⟨_, rfl, _, rfl, _, _, rfl, rfl, (by show (0 : Int) < 8; decide), _, _, rfl, rfl, _, rfl, _, rfl, le_line (by rw [SX.S_len]; omega), ?_⟩
    rw [c2]
    refine ⟨_, rfl, _, _, rfl, rfl, le_line (by rw [SX.S_len, SX.S_len, List.length_drop]; show _ + 1 ≤ _; omega), ?_⟩
    rw [SX.S_cat]
    refine ⟨le_line (Nat.le_of_ble_eq_true rfl), fun L2 Z2 nL2 z2' eL2 => ?_⟩
    have z2 : Same Z Z2 := z2'
    have hat : atI ([.str (SX.S ([letters.getD ((off.toNat + i / 8) % 26) 97] ++ ss.take (i % 8))), .str (SX.S (ss.drop (7 - i % 8) ++ [letters.getD ((off.toNat + i / 8) % 26) 97]))] : List V) sty = some (.str (SX.S (nameD sty.toNat off.toNat ss i))) := by
      have h2 : sty = 0 ∨ sty = 1 := by omega
      rcases h2 with rfl | rfl
      · rfl
      · rfl
    refine ⟨_, rfl, L2, _, sty, _, rfl, rfl, SqL.of eL2, hat, Lo, _, _, rfl, rfl, z2 _ _ eZ, lt_line (by rw [txs_len]; unfold namesD; rw [List.length_map, List.length_range]; omega), ?_⟩
    rw [txs_snoc, ← namesD_succ]
    exact ⟨_, _, rfl, fun b u nb e => by rw [upd_ne nb]; exact z2 _ _ (sZ b u nb e), upd_same⟩
  · rintro σ Z ⟨w5, w8, rfl, sZ, eZ⟩
    refine in_nx ⟨_, rfl, q Lo (namesD sty.toNat off.toNat ss 14) Z (fun b u e => sZ b u (fun z => by rw [z, nLoH] at e; cases e) (s05 _ _ e)) nLoH eZ (namesD_ok hn hc)⟩
end
/-! ### numbers, products, recipes drawn -/
open LamX NdefX
theorem one_ofS {ns : List (List Nat)} {v : Int} (h0 : 0 ≤ v) (h1 : v < ((txs ns).length : Nat)) : ∃ u ∈ ns, atI (txs ns) v = some (.str (SX.S u)) := by
  obtain ⟨x, hx, hat⟩ := one_of h0 h1
  obtain ⟨u, hu, rfl⟩ := txs_mem hx
  exact ⟨u, hu, hat⟩
theorem call_len_seqK {X : Cx} {K : PySem.W.Frag} (h : X.K = K) : CallR X (.builtin "len") (fun xs H Q => ∃ p ys, xs = [V.ref p] ∧ (SqL K H p ys ∨ SqT K H p ys) ∧ Q (V.int (ys.length : Int)) H) := by
  subst h
  exact call_len_seq
def spNumS : Sp := fun vs H Q _ => ∃ (p : Addr) (r : Int) (m : Bool) (c : Int), vs = [.ref p] ∧ H p = some (.dK (dst r m c)) ∧ 0 ≤ c ∧ c ≤ 500000 ∧
  ∀ (H' : Hp) (v r' c' : Int), PF p H H' → H' p = some (.dK (dst r' m c')) → 0 ≤ c' → c' ≤ c + 4 → v.natAbs ≤ 5 * 10 ^ 19 → Q (.int v) H'
def spProdS : Sp := fun vs H Q _ => ∃ (p : Addr) (r : Int) (m : Bool) (c : Int) (ns : List (List Nat)) (d : Nat) (x y : Rcp) (xv yv : V), vs = [.ref p, xv, yv] ∧ H p = some (.dK (dst r m c)) ∧ 0 ≤ c ∧ c ≤ 500000 ∧ MadeD ns d x ∧ MadeD ns d y ∧ Rec H x xv ∧ Rec H y yv ∧
  ∀ (H' : Hp) (rv : V) (rr : Rcp) (r' c' : Int), PF p H H' → H' p = some (.dK (dst r' m c')) → 0 ≤ c' → c' ≤ c + 4 → MadeD ns (d + 1) rr → Rec H' rr rv → Q rv H'
def spRcpS (n : Nat) : Sp := fun vs H Q _ => ∃ (p L : Addr) (r : Int) (m : Bool) (c : Int) (ns : List (List Nat)) (d : Nat), vs = [.ref p, .ref L, .int (d : Int)] ∧ d + 1 ≤ n ∧ d ≤ 3 ∧ H p = some (.dK (dst r m c)) ∧ 0 ≤ c ∧ c + 8 * (4 ^ d : Nat) ≤ 100000 ∧ H L = some (.lst (txs ns)) ∧ ns.length ≤ 100 ∧ (∀ u ∈ ns, Nm u) ∧
  ∀ (H' : Hp) (rv : V) (rr : Rcp) (r' c' : Int), PF p H H' → H' p = some (.dK (dst r' m c')) → 0 ≤ c' → c' ≤ c + 8 * (4 ^ d : Nat) → MadeD ns d rr → Rec H' rr rv → Q rv H'
section
variable {P : Program} {w : World} {K : PySem.W.Frag} {mg : Str → Option Value} {base : Heap}
abbrev s__law_number : Stmt := topS 21
abbrev N__law_number : List Str := ["state", "some"]
theorem sc__law_number : FnScope N__law_number ["state"] (defScope s__law_number) := ⟨rfl, rfl, rfl, by decide +kernel, rfl, by decide +kernel, by decide +kernel⟩

theorem ok__law_numberS (T : Txt K mg) (D : IsDef K mg "_law_number" s__law_number ["state"]) (C__law_draw : Cal P w K mg base CX0 1 "_law_draw" ["state", "many"] spDraw) : Cal P w K mg base CX0 2 "_law_number" ["state"] spNumS := by
  refine D.cal sc__law_number (fun vs H Q E h => ?_) (fun f cdv A outer s H vs Q E hr h => ?_)
  · obtain ⟨p, r, m, c, rfl, _⟩ := h
    rfl
  obtain ⟨p, r, m, c, rfl, hp, c0, c1, q⟩ := h
  refine ⟨_, (pss_cons (ps_set (i := 1) sc__law_number.nd rfl (Or.inl rfl) (pe_lstA (pa_cons (pe_op op_sub (pe_cal C__law_draw (hr.mono (by first | decide | omega)) pass0 (pa_cons (pv 0) (pa_cons pe_int pa_nil))) pe_int) (pa_cons (pe_cal C__law_draw (hr.mono (by first | decide | omega)) pass0 (pa_cons (pv 0) (pa_cons pe_int pa_nil))) (pa_cons (pe_op op_sub (pe_cal C__law_draw (hr.mono (by first | decide | omega)) pass0 (pa_cons (pv 0) (pa_cons (pe_op op_pow pe_int pe_int) pa_nil))) (pe_op op_mul pe_int (pe_op op_pow pe_int pe_int))) pa_nil)))))
      (pss_one (ps_ret (pe_ix (r := rIxL K) ix_list (pv 1) (pe_cal C__law_draw (hr.mono (by first | decide | omega)) pass0 (pa_cons (pv 0) (pa_cons pe_int pa_nil))) (fun _ _ => rfl))))), ?_⟩
  refine ⟨_, rfl, p, r, m, c, 7, rfl, hp, by decide, by decide, c0, by omega, fun H2 v2 r2 c2 g2 p2 c20 c21 v20 v21 => ?_⟩
  refine ⟨_, _, rfl, rfl, _, rfl, p, r2, m, c2, 2, rfl, p2, by decide, by decide, c20, by omega, fun H3 v3 r3 c3 g3 p3 c30 c31 v30 v31 => ?_⟩
  have e20 : (10 : Int) ^ (20 : Int).toNat = 100000000000000000000 ∧ (10 : Int) ^ (19 : Int).toNat = 10000000000000000000 := by decide +kernel
  refine ⟨_, rfl, _, _, rfl, rfl, ⟨by decide, by decide +kernel⟩, p, r3, m, c3, _, rfl, p3, by decide +kernel, by decide +kernel, c30, by omega, fun H4 v4 r4 c4 g4 p4 c40 c41 v40 v41 => ?_⟩
  refine ⟨_, _, rfl, rfl, ⟨by decide, by decide +kernel⟩, _, _, rfl, rfl, .inl ⟨by decide, by decide⟩, _, _, rfl, rfl, le_line (Nat.le_of_ble_eq_true rfl), fun LL X4 nLL x4' eLL => ?_⟩
  have x4 : Same H4 X4 := x4'
  refine in_name rfl ?_
  refine ⟨_, rfl, _, rfl, p, r4, m, c4, 3, rfl, x4 _ _ p4, by decide, by decide, c40, by omega, fun X5 v5 r5 c5 g5 p5 c50 c51 v50 v51 => ?_⟩
  have nLp : LL ≠ p := fun z => by rw [z, p4] at nLL; cases nLL
  have eLL5 : X5 LL = _ := (PF.take g5) LL _ nLp eLL
  have fX : PF p H X5 := ((((PF.take g2).trans (PF.take g3)).trans (PF.take g4)).trans (PF.of x4)).trans (PF.take g5)
  rw [e20.1] at v41
  rw [e20.2] at eLL5
  obtain ⟨n, hn, hat⟩ : ∃ n : Int, n.natAbs ≤ 5 * 10 ^ 19 ∧ atI ([.int (v2 - 3), .int v3, .int (v4 - 5 * 10000000000000000000)] : List V) v5 = some (.int n) := by
    have h2 : v5 = 0 ∨ v5 = 1 ∨ v5 = 2 := by omega
    rcases h2 with rfl | rfl | rfl
    · exact ⟨v2 - 3, by omega, rfl⟩
    · exact ⟨v3, by omega, rfl⟩
    · exact ⟨v4 - 5 * 10000000000000000000, by omega, rfl⟩
  exact ⟨LL, _, v5, .int n, rfl, rfl, SqL.of eLL5, hat, q X5 n r5 c5 fX p5 c50 (by omega) hn⟩
abbrev s__law_product : Stmt := topS 22
abbrev N__law_product : List Str := ["state", "one", "other", "small", "some"]
theorem sc__law_product : FnScope N__law_product ["state", "one", "other"] (defScope s__law_product) := ⟨rfl, rfl, rfl, by decide +kernel, rfl, by decide +kernel, by decide +kernel⟩

theorem ok__law_productS (T : Txt K mg) (D : IsDef K mg "_law_product" s__law_product ["state", "one", "other"]) (C__law_draw : Cal P w K mg base CX0 1 "_law_draw" ["state", "many"] spDraw) : Cal P w K mg base CX0 2 "_law_product" ["state", "one", "other"] spProdS := by
  refine D.cal sc__law_product (fun vs H Q E h => ?_) (fun f cdv A outer s H vs Q E hr h => ?_)
  · obtain ⟨p, r, m, c, _, _, _, _, _, _, rfl, _⟩ := h
    rfl
  obtain ⟨p, r, m, c, ns, d, x, y, xv, yv, rfl, hp, c0, c1, Mx, My, hx, hy, q⟩ := h
  refine ⟨_, (pss_cons (ps_set (i := 3) sc__law_product.nd rfl (Or.inl rfl) (pe_tupA (pa_cons pe_str (pa_cons (pv 1) (pa_cons (pe_tupA (pa_cons pe_str (pa_cons (pe_cal C__law_draw (hr.mono (by first | decide | omega)) pass0 (pa_cons (pv 0) (pa_cons pe_int pa_nil))) pa_nil))) (pa_cons (pe_tupA (pa_cons pe_str (pa_cons (pe_op op_sub (pe_cal C__law_draw (hr.mono (by first | decide | omega)) pass0 (pa_cons (pv 0) (pa_cons pe_int pa_nil))) pe_int) pa_nil))) pa_nil))))))
      (pss_cons (ps_set (i := 4) sc__law_product.nd rfl (Or.inl rfl) (pe_lstA (pa_cons (pe_tupA (pa_cons pe_str (pa_cons (pv 1) (pa_cons (pe_tupA (pa_cons pe_str (pa_cons (pe_op op_sub (pe_cal C__law_draw (hr.mono (by first | decide | omega)) pass0 (pa_cons (pv 0) (pa_cons pe_int pa_nil))) pe_int) pa_nil))) pa_nil)))) (pa_cons (pe_tupA (pa_cons pe_str (pa_cons (pe_tupA (pa_cons pe_str (pa_cons pe_int pa_nil))) (pa_cons (pv 1) pa_nil)))) pa_nil))))
      (pss_one (ps_ret (pe_ix (r := rIxL K) ix_list (pe_op op_catU (pv 4) (pe_lstA (pa_cons (pe_tupA (pa_cons pe_str (pa_cons (pv 3) (pa_cons (pv 2) pa_nil)))) (pa_cons (pe_tupA (pa_cons pe_str (pa_cons (pv 2) (pa_cons (pv 3) pa_nil)))) pa_nil)))) (pe_cal C__law_draw (hr.mono (by first | decide | omega)) pass0 (pa_cons (pv 0) (pa_cons pe_int pa_nil))) (fun _ _ => rfl)))))), ?_⟩
  have le : ∀ n : Nat, n ≤ 100 → n ≤ sizeLine := fun n h => le_line (Nat.le_trans h (by decide))
  refine ⟨_, rfl, _, rfl, p, r, m, c, 4, rfl, hp, by decide, by decide, c0, by omega, fun H1 v1 r1 c1' g1 p1 c10 c11 v10 v11 => ?_⟩
  refine ⟨le 2 (by decide), fun T1 H2 nT1 s2' eT1 => ?_⟩
  have s2 : Same H1 H2 := s2'
  refine ⟨_, rfl, p, r1, m, c1', 7, rfl, s2 _ _ p1, by decide, by decide, c10, by omega, fun H3 v3 r3 c3 g3 p3 c30 c31 v30 v31 => ?_⟩
  have nT1p : T1 ≠ p := fun z => by rw [z, p1] at nT1; cases nT1
  have eT1 := (PF.take g3) _ _ nT1p eT1
  refine ⟨_, _, rfl, rfl, le 2 (by decide), fun T2 H4 nT2 s4' eT2 => ⟨le 4 (by decide), fun T3 H5 nT3 s5' eT3 => ?_⟩⟩
  have s4 : Same H3 H4 := s4'
  have s5 : Same H4 H5 := s5'
  have f5 : PF p H H5 := ((((PF.take g1).trans (PF.of s2)).trans (PF.take g3)).trans (PF.of s4)).trans (PF.of s5)
  have hx5 := hx.keep (f5.keep hp)
  have hy5 := hy.keep (f5.keep hp)
  have rs5 : Rec H5 (.pick x (.num v1) (.num (v3 - 3))) (.ref T3) := ⟨T3, xv, .ref T1, .ref T2, rfl, eT3, hx5, ⟨T1, rfl, s5 _ _ (s4 _ _ eT1)⟩, ⟨T2, rfl, s5 _ _ eT2⟩⟩
  have p5 := s5 _ _ (s4 _ _ p3)
  refine in_name rfl ?_
  refine ⟨_, rfl, _, rfl, p, r3, m, c3, 7, rfl, p5, by decide, by decide, c30, by omega, fun H6 v6 r6 c6 g6 p6 c60 c61 v60 v61 => ?_⟩
  refine ⟨_, _, rfl, rfl, le 2 (by decide), fun T4 H7 nT4 s7' eT4 => ⟨le 3 (by decide), fun T5 H8 nT5 s8' eT5 => ?_⟩⟩
  have s7 : Same H6 H7 := s7'
  have s8 : Same H7 H8 := s8'
  refine ⟨le 2 (by decide), fun T6 H9 nT6 s9' eT6 => ⟨_, rfl, le 3 (by decide), fun T7 H10 nT7 s10' eT7 => ?_⟩⟩
  have s9 : Same H8 H9 := s9'
  have s10 : Same H9 H10 := s10'
  refine ⟨le 2 (by decide), fun L1 H11 nL1 s11' eL1 => ?_⟩
  have s11 : Same H10 H11 := s11'
  refine in_name rfl ?_
  refine ⟨_, rfl, _, rfl, _, rfl, le 3 (by decide), fun T8 H12 nT8 s12' eT8 => ⟨_, rfl, _, rfl, le 3 (by decide), fun T9 H13 nT9 s13' eT9 => ⟨le 2 (by decide), fun L2 H14 nL2 s14' eL2 => ?_⟩⟩⟩
  have s12 : Same H11 H12 := s12'
  have s13 : Same H12 H13 := s13'
  have s14 : Same H13 H14 := s14'
  refine ⟨L1, L2, _, _, rfl, rfl, s14 _ _ (s13 _ _ (s12 _ _ eL1)), eL2, le 4 (by decide), fun L H15 n s15' eL => ?_⟩
  have s15 : Same H14 H15 := s15'
  have s14_15 : Same H13 H15 := s14.trans s15
  have s12_15 : Same H12 H15 := s13.trans s14_15
  have s11_15 : Same H11 H15 := s12.trans s12_15
  have s8_15 : Same H8 H15 := (((s9.trans s10).trans s11).trans s11_15)
  have s6_15 : Same H6 H15 := (s7.trans s8).trans s8_15
  have p15 := s6_15 _ _ p6
  refine ⟨_, rfl, p, r6, m, c6, 4, rfl, p15, by decide, by decide, c60, by omega, fun H16 v16 r16 c16 g16 p16 c160 c161 v160 v161 => ?_⟩
  have nLp : L ≠ p := fun z => by rw [z, s14 _ _ (s13 _ _ (s12 _ _ (s11 _ _ (s10 _ _ (s9 _ _ (s8 _ _ (s7 _ _ p6)))))))] at n; cases n
  have k15 : Keep H15 H16 := (PF.take g16).keep p15
  have f15 : PF p H H15 := (f5.trans (PF.take g6)).trans (PF.of s6_15)
  have f16 : PF p H H16 := f15.trans (PF.take g16)
  have hx15 := hx.keep (f15.keep hp)
  have hy15 := hy.keep (f15.keep hp)
  have f5_15 : PF p H5 H15 := (PF.take g6).trans (PF.of s6_15)
  have rs15 := rs5.keep (f5_15.keep p5)
  obtain ⟨rr, rv, hM, hrec, hat⟩ : ∃ (rr : Rcp) (rv : V), MadeD ns (d + 1) rr ∧ Rec H15 rr rv ∧ atI ([V.ref T5, V.ref T7] ++ [V.ref T8, V.ref T9]) v16 = some rv := by
    have h2 : v16 = 0 ∨ v16 = 1 ∨ v16 = 2 ∨ v16 = 3 := by omega
    have sm := Mx.small My (m := v1) (n := v3 - 3) (by omega) (by omega)
    rcases h2 with rfl | rfl | rfl | rfl
    · exact ⟨_, .ref T5, Mx.timesN (n := v6 - 3) (by omega), ⟨T5, xv, .ref T4, rfl, s8_15 _ _ eT5, hx15, ⟨T4, rfl, s8_15 _ _ (s8 _ _ eT4)⟩⟩, rfl⟩
    · exact ⟨_, .ref T7, Mx.Ntimes (n := 2) (by decide), ⟨T7, .ref T6, xv, rfl, s11_15 _ _ (s11 _ _ eT7), ⟨T6, rfl, s11_15 _ _ (s11 _ _ (s10 _ _ eT6))⟩, hx15⟩, rfl⟩
    · exact ⟨_, .ref T8, sm.1, ⟨T8, .ref T3, yv, rfl, s12_15 _ _ eT8, rs15, hy15⟩, rfl⟩
    · exact ⟨_, .ref T9, sm.2, ⟨T9, yv, .ref T3, rfl, s14_15 _ _ eT9, hy15, rs15⟩, rfl⟩
  exact ⟨L, _, v16, rv, rfl, rfl, SqL.of ((PF.take g16) _ _ nLp eL), hat, q H16 rv rr r16 c16 f16 p16 c160 (by omega) hM (hrec.keep k15)⟩
end
/-! ### recipes drawn -/
open LamX NdefX
section
variable {P : Program} {w : World} {K : PySem.W.Frag} {mg : Str → Option Value} {base : Heap}
abbrev s__law_recipe : Stmt := topS 23
abbrev N__law_recipe : List Str := ["state", "pool", "depth", "kind", "one", "other", "k"]
theorem sc__law_recipe : FnScope N__law_recipe ["state", "pool", "depth"] (defScope s__law_recipe) := ⟨rfl, rfl, rfl, by decide +kernel, rfl, by decide +kernel, by decide +kernel⟩

theorem ok__law_recipeS (T : Txt K mg) (D : IsDef K mg "_law_recipe" s__law_recipe ["state", "pool", "depth"]) (C_dr : Cal P w K mg base CX0 1 "_law_draw" ["state", "many"] spDraw) (C_nu : Cal P w K mg base CX0 2 "_law_number" ["state"] spNumS) (C_pr : Cal P w K mg base CX0 2 "_law_product" ["state", "one", "other"] spProdS) : ∀ n, Cal P w K mg base CX0 (n + 2) "_law_recipe" ["state", "pool", "depth"] (spRcpS n)
  | 0 => cal_none D fun vs H Q E h => by
    obtain ⟨_, _, _, _, _, _, d, _, hd, _⟩ := h
    omega
  | n + 1 => by
    have C__law_recipe := ok__law_recipeS T D C_dr C_nu C_pr n
    have C__law_draw := C_dr.mono (show 1 ≤ n + 2 by omega)
    have C__law_number := C_nu.mono (show 2 ≤ n + 2 by omega)
    have C__law_product := C_pr.mono (show 2 ≤ n + 2 by omega)
    refine D.cal (k := n + 2) sc__law_recipe (fun vs H Q E h => ?_) (fun f cdv A outer s H vs Q E hr h => ?_)
    · obtain ⟨_, _, _, _, _, _, _, rfl, _⟩ := h
      rfl
    obtain ⟨p, L, r, m, c, ns, d, rfl, hdn, hd3, hp, c0, c1, hL, hl, hN, q⟩ := h
    have p4 : 1 ≤ 4 ^ d := Nat.pow_le_pow_right (show 0 < 4 by decide) (Nat.zero_le d)
    refine ⟨_, (pss_cons (ps_set (i := 3) sc__law_recipe.nd rfl (Or.inl rfl) (pe_cal C__law_draw (hr.mono (by first | decide | omega)) pass0 (pa_cons (pv 0) (pa_cons pe_int pa_nil))))
      (pss_cons (ps_if (PW.pt (pw_or (pt_cmpR (op_eqD hr.units) (pv 1) (pe_lstA pa_nil) (nomark _)) (pw_or1 (pt_cmpR op_eq (pv 3) pe_int (nomark _)))))
        (pss_one (ps_ret (pe_tupA (pa_cons pe_str (pa_cons (pe_cal C__law_number (hr.mono (by first | decide | omega)) pass0 (pa_cons (pv 0) pa_nil)) pa_nil)))))
        pss_nil)
      (pss_cons (ps_if (PW.pt (pw_or (pt_cmpR op_eq (pv 2) pe_int (nomark _)) (pw_or1 (pt_cmpR op_lt (pv 3) pe_int (nomark _)))))
        (pss_one (ps_ret (pe_tupA (pa_cons pe_str (pa_cons (pe_ix (r := rIxL K) ix_list (pv 1) (pe_cal C__law_draw (hr.mono (by first | decide | omega)) pass0 (pa_cons (pv 0) (pa_cons (pe_callB call_len_seq (by rfl) T.b_len PySem.boot_len (pa_cons (pv 1) pa_nil)) pa_nil))) (fun _ _ => rfl)) pa_nil)))))
        pss_nil)
      (pss_cons (ps_set (i := 4) sc__law_recipe.nd rfl (Or.inl rfl) (pe_cal C__law_recipe (hr.mono (by first | decide | omega)) pass0 (pa_cons (pv 0) (pa_cons (pv 1) (pa_cons (pe_op op_sub (pv 2) pe_int) pa_nil)))))
      (pss_cons (ps_if (pt_cmpR op_eq (pv 3) pe_int (nomark _))
        (pss_one (ps_ret (pe_cal C__law_product (hr.mono (by first | decide | omega)) pass0 (pa_cons (pv 0) (pa_cons (pv 4) (pa_cons (pe_cal C__law_recipe (hr.mono (by first | decide | omega)) pass0 (pa_cons (pv 0) (pa_cons (pv 1) (pa_cons (pe_op op_sub (pv 2) pe_int) pa_nil)))) pa_nil))))))
        pss_nil)
      (pss_cons (ps_if (pt_cmpR op_eq (pv 3) pe_int (nomark _))
        (pss_one (ps_ret (pe_tupA (pa_cons pe_str (pa_cons (pv 4) (pa_cons (pe_callTy call_tuple_of (by rfl) T.b_tuple (by decide +kernel) (pa_cons (pe_lc (own := [("k", 6)]) (g := gName 6)  (by rfl) sc__law_recipe.nd  (pi_range1 rfl T.b_range (pa_cons (pe_op op_add pe_int (pe_cal C__law_draw (hr.mono (by first | decide | omega)) pass0 (pa_cons (pv 0) (pa_cons pe_int pa_nil)))) pa_nil)) (blkOk_by (own := [("k", 6)]) (N := N__law_recipe) (sc := defScope s__law_recipe) (by decide +kernel)) (fun _ _ _ _ _ => (pg_name (i := 6) sc__law_recipe.nd rfl (Or.inl rfl))) (fun _ _ _ _ _ => pts_nil) (fun _ _ _ _ _ => (pe_ix (r := rIxL K) ix_list (pv 1) (pe_cal C__law_draw (hr.mono (by first | decide | omega)) pass0 (pa_cons (pv 0) (pa_cons (pe_callB (call_len_seqK (K := K) rfl) (by rfl) T.b_len PySem.boot_len (pa_cons (pv 1) pa_nil)) pa_nil))) (fun _ _ => rfl)))) pa_nil)) pa_nil))))))
        pss_nil)
      (pss_cons (ps_set (i := 5) sc__law_recipe.nd rfl (Or.inl rfl) (pe_cal C__law_recipe (hr.mono (by first | decide | omega)) pass0 (pa_cons (pv 0) (pa_cons (pv 1) (pa_cons (pe_op op_sub (pv 2) pe_int) pa_nil)))))
      (pss_cons (ps_if (pt_cmpR op_eq (pv 3) pe_int (nomark _))
        (pss_one (ps_ret (pe_tupA (pa_cons pe_str (pa_cons (pv 4) (pa_cons (pv 5) (pa_cons (pe_cal C__law_recipe (hr.mono (by first | decide | omega)) pass0 (pa_cons (pv 0) (pa_cons (pv 1) (pa_cons (pe_op op_sub (pv 2) pe_int) pa_nil)))) pa_nil)))))))
        pss_nil)
      (pss_one (ps_ret (pe_tupA (pa_cons (pe_ix (r := rIxL K) ix_list (pe_lstA (pa_cons pe_str (pa_cons pe_str (pa_cons pe_str pa_nil)))) (pe_op op_sub (pv 3) pe_int) (fun _ _ => rfl)) (pa_cons (pv 4) (pa_cons (pv 5) pa_nil)))))))))))))), ?_⟩
    have le : ∀ n : Nat, n ≤ 100 → n ≤ sizeLine := fun n h => le_line (Nat.le_trans h (by decide))
    refine ⟨_, rfl, p, r, m, c, 9, rfl, hp, by decide, by decide, c0, by omega, fun H1 kind r1 k1 g1 hp1 k10 k11 w0 w9 => ?_⟩
    have f1 : PF p H H1 := PF.take g1
    have hL1 := f1.lst hp hL
    refine in_name rfl ?_
    have num : ∀ {Y : Hp} {ry ky : Int}, PF p H Y → Y p = some (.dK (dst ry m ky)) → 0 ≤ ky → ky ≤ c + 1 → (tTupA (tCons (tC (.str "number")) (tCons (tCall spNumS [] E0 (tCons (tVar 0) tNil)) tNil))) [some (.ref p), some (.ref L), some (.int (d : Int)), some (.int kind), none, none, none] Y Q := fun {Y ry ky} fY hY ky0 ky1 => by
      refine ⟨_, rfl, p, ry, m, ky, rfl, hY, ky0, by omega, fun X v r2 c2 fX hX c20 c21 hv => ⟨le 2 (by decide), fun T1 X2 nT1 x2' eT1 => ?_⟩⟩
      have x2 : Same X X2 := x2'
      exact q X2 (.ref T1) (.num v) r2 c2 ((fY.trans fX).trans (PF.of x2)) (x2 _ _ hX) c20 (by omega) (MadeD.num (by omega) d) ⟨T1, rfl, eT1⟩
    refine in_nx (in_seq (nx_post (fun σ X => σ = [some (.ref p), some (.ref L), some (.int (d : Int)), some (.int kind), none, none, none] ∧ Same H1 X ∧ ns ≠ [] ∧ kind ≠ 0) (fun nx hnx => ?_) ?_))
    · refine ⟨_, rfl, Nat.zero_le _, fun O H2 nO s2' eO => ?_⟩
      have s2 : Same H1 H2 := s2'
      refine ⟨_, _, Data.dp (t := .lst (nmsTh ns)) Nms.flat ⟨L, _, rfl, s2 _ _ hL1, nms_data H2 ns⟩, .lst (SqL.of eO) .nil, Nms.shaped hN, rfl, _, rfl, ?_⟩
      cases hns : ns with
      | nil =>
        refine iteT ?_
        exact num (f1.trans (PF.of s2)) (s2 _ _ hp1) k10 (by omega)
      | cons n0 ns0 =>
        refine iteF ?_
        refine ⟨_, rfl, rfl, _, rfl, ?_⟩
        by_cases hk : kind = 0
        · refine if_true_eq (decide_eq_true (congrArg V.int hk)) ?_
          exact num (f1.trans (PF.of s2)) (s2 _ _ hp1) k10 (by omega)
        · refine if_false_eq (decide_eq_false fun z => hk (V.int.inj z)) ?_
          exact hnx _ _ ⟨rfl, s2, (by rw [hns]; exact (fun z => nomatch z)), hk⟩
    rintro σ X ⟨rfl, s2, hne, hk0⟩
    have f2 : PF p H X := f1.trans (PF.of s2)
    have hp2 := s2 _ _ hp1
    have hL2 := s2 _ _ hL1
    clear num
    have ll : (0 : Int) < ((txs ns).length : Nat) := by
      cases ns with
      | nil => exact absurd rfl hne
      | cons a b => rw [txs_len, List.length_cons]; omega
    have lb : (((txs ns).length : Nat) : Int).natAbs < 2 ^ 200 := by
      rw [txs_len]
      have : (2 : Nat) ^ 200 > 4000 := by decide
      omega
    have read : (tTupA (tCons (tC (.str "read")) (tCons (tOp (rIxL K) (tVar 1) (tCall spDraw [] E0 (tCons (tVar 0) (tCons (tCB (fun xs H Q => ∃ p ys, xs = [V.ref p] ∧ (SqL K H p ys ∨ SqT K H p ys) ∧ Q (V.int (ys.length : Int)) H) (tCons (tVar 1) tNil)) tNil)))) tNil))) [some (.ref p), some (.ref L), some (.int (d : Int)), some (.int kind), none, none, none] X Q := by
      refine ⟨_, rfl, _, rfl, _, rfl, L, _, rfl, .inl (SqL.of hL2), p, r1, m, k1, _, rfl, hp2, ll, lb, k10, by omega, fun G2 v2 r2 k2 g2 hg2 k20 k21 v20 v21 => ?_⟩
      obtain ⟨u, hu, hat⟩ := one_ofS v20 v21
      have fG : PF p H G2 := f2.trans (PF.take g2)
      refine ⟨L, _, v2, _, rfl, rfl, SqL.of (fG.lst hp hL), hat, le 2 (by decide), fun T1 G3 nT1 g3' eT1 => ?_⟩
      have g3 : Same G2 G3 := g3'
      exact q G3 (.ref T1) (.read u) r2 k2 (fG.trans (PF.of g3)) (g3 _ _ hg2) k20 (by omega) (MadeD.read hN hu d) ⟨T1, rfl, eT1⟩
    refine in_nx (in_seq (nx_post (fun σ Y => σ = [some (.ref p), some (.ref L), some (.int (d : Int)), some (.int kind), none, none, none] ∧ Y = X ∧ d ≠ 0 ∧ ¬ kind < 3) (fun nx hnx => ?_) ?_))
    · refine ⟨_, rfl, rfl, _, rfl, ?_⟩
      by_cases hd0 : d = 0
      · refine if_true_eq (decide_eq_true (by rw [hd0]; rfl)) ?_
        exact read
      · refine if_false_eq (decide_eq_false fun z => hd0 (by have := V.int.inj z; omega)) ?_
        refine ⟨_, rfl, _, _, rfl, rfl, _, rfl, ?_⟩
        refine ite2 (fun _ => read) (fun hk => ?_)
        exact hnx _ _ ⟨rfl, rfl, hd0, fun z => hk (decide_eq_true z)⟩
    rintro σ Y ⟨rfl, rfl, hd0, hk3⟩
    clear read
    obtain ⟨e, rfl⟩ : ∃ e, d = e + 1 := ⟨d - 1, by omega⟩
    have pe : 4 ^ (e + 1) = 4 * 4 ^ e := by rw [Nat.pow_succ]; omega
    have p4e : 1 ≤ 4 ^ e := Nat.pow_le_pow_right (show 0 < 4 by decide) (Nat.zero_le e)
    rw [pe] at c1 q
    have dc : ((e + 1 : Nat) : Int) - 1 = (e : Int) := by omega
    refine in_nx (in_seq (in_asg ⟨_, rfl, _, rfl, _, rfl, _, _, rfl, rfl, p, L, r1, m, k1, ns, e, by show [V.ref p, V.ref L, V.int (((e + 1 : Nat) : Int) - 1)] = _; rw [dc], by omega, by omega, hp2, k10, by omega, hL2, hl, hN, fun H2 rv1 rr1 r2 k2 fa hp2 k20 k21 M1 rec1 => ?_⟩))
    have F2 := f2.trans fa
    have hL2 := F2.lst hp hL
    refine in_name rfl ?_
    refine in_nx (in_seq (nx_post (fun σ Z => σ = [some (.ref p), some (.ref L), some (.int ((e + 1 : Nat) : Int)), some (.int kind), some rv1, none, none] ∧ Z = H2 ∧ kind ≠ 3) (fun nx hnx => ?_) ?_))
    · refine ⟨_, rfl, rfl, _, rfl, ?_⟩
      by_cases hk : kind = 3
      · refine if_true_eq (decide_eq_true (congrArg V.int hk)) ?_
        refine ⟨_, rfl, _, rfl, _, rfl, _, rfl, _, rfl, _, _, rfl, rfl, p, L, r2, m, k2, ns, e, by show [V.ref p, V.ref L, V.int (((e + 1 : Nat) : Int) - 1)] = _; rw [dc], by omega, by omega, hp2, k20, by omega, hL2, hl, hN, fun H3 rv2 rr2 r3 k3 fb hp3 k30 k31 M2 rec2 => ?_⟩
        have rec13 := rec1.keep (fb.keep hp2)
        exact ⟨p, r3, m, k3, ns, e, rr1, rr2, rv1, rv2, rfl, hp3, k30, by omega, M1, M2, rec13, rec2, fun H4 rv rr r4 k4 fc hp4 k40 k41 M hrec => q H4 rv rr r4 k4 ((F2.trans fb).trans fc) hp4 k40 (by omega) M hrec⟩
      · refine if_false_eq (decide_eq_false fun z => hk (V.int.inj z)) ?_
        exact hnx _ _ ⟨rfl, rfl, hk⟩
    rintro σ Z ⟨rfl, rfl, hk3b⟩
    have rec1' := rec1
    refine in_nx (in_seq (nx_post (fun σ Y => σ = [some (.ref p), some (.ref L), some (.int ((e + 1 : Nat) : Int)), some (.int kind), some rv1, none, none] ∧ Y = Z ∧ kind ≠ 4) (fun nx hnx => ?_) ?_))
    · refine ⟨_, rfl, rfl, _, rfl, ?_⟩
      by_cases hk : kind = 4
      · refine if_true_eq (decide_eq_true (congrArg V.int hk)) ?_
        refine ⟨_, rfl, _, rfl, p, r2, m, k2, 3, rfl, hp2, by decide, by decide, k20, by omega, fun H4 v4 r4 k4 g4 hp4 k40 k41 v40 v41 => ?_⟩
        have F4 := F2.trans (PF.take g4)
        have hL4 := F4.lst hp hL
        refine ⟨_, _, rfl, rfl, 1 + v4, rfl, by omega, by omega, fun D nD => ?_⟩
        have nDp : D ≠ p := fun z => by rw [z, hp4] at nD; cases nD
        have nLD : L ≠ D := fun z => by rw [← z, hL4] at nD; cases nD
        have nDH : H D = none := by
          cases eD : H D with
          | none => rfl
          | some u => rw [F4 D u nDp eD] at nD; cases nD
        refine lc_range (lo := 0) (n := (1 + v4).toNat) (fun j Y => ∃ (rj cj : Int) (ss : List (List Nat)), (∀ b u, b ≠ p → b ≠ D → H4 b = some u → Y b = some u) ∧ Y p = some (.dK (dst rj m cj)) ∧ 0 ≤ cj ∧ cj ≤ k4 + j ∧ Y D = some (.lst (txs ss)) ∧ ss.length = j ∧ ∀ u ∈ ss, u ∈ ns)
          ⟨r4, k4, [], fun b u _ nb e => by rw [upd_ne nb]; exact e, by rw [upd_ne (Ne.symm nDp)]; exact hp4, k40, by omega, upd_same, rfl, fun _ h => nomatch h⟩ ?_ ?_
        · rintro j Y hj ⟨rj, cj, ss, fZ, hpZ, cj0, cj1, eZ, sl, sn⟩
          have hLZ := fZ L _ (fun z => by rw [z, hp] at hL; cases hL) nLD hL4
          refine ⟨rfl, _, rfl, _, rfl, _, rfl, L, _, rfl, .inl (SqL.of hLZ), p, rj, m, cj, _, rfl, hpZ, ll, lb, cj0, by omega, fun Z2 v5 r5 k5 g5 hp5 k50 k51 v50 v51 => ?_⟩
          have eZ2 : Z2 D = some (.lst (txs ss)) := PF.take g5 D _ nDp eZ
          obtain ⟨u, hu, hat⟩ := one_ofS v50 v51
          refine ⟨L, _, v5, _, rfl, rfl, SqL.of ((PF.take g5).lst hpZ hLZ), hat, _, eZ2, lt_line (by rw [txs_len]; omega), ?_⟩
          rw [txs_snoc]
          refine ⟨r5, k5, ss ++ [u], fun b x nb nb2 e => by rw [upd_ne nb2]; exact PF.take g5 b x nb (fZ b x nb nb2 e), by rw [upd_ne (Ne.symm nDp)]; exact hp5, k50, by omega, upd_same, by rw [List.length_append, sl]; rfl, fun x hx => ?_⟩
          rcases List.mem_append.mp hx with hx | hx
          · exact sn x hx
          · rw [List.mem_singleton.mp hx]; exact hu
        · rintro Y ⟨rj, cj, ss, fZ, hpZ, cj0, cj1, eZ, sl, sn⟩
          have fHZ : PF p H Y := fun b u nb e => fZ b u nb (fun z => by rw [z, nDH] at e; cases e) (F4 b u nb e)
          have f2Z : PF p Z Y := fun b u nb e => fZ b u nb (fun z => by
            have := PF.take g4 b u nb e
            rw [z, nD] at this
            cases this) (PF.take g4 b u nb e)
          refine ⟨D, _, rfl, .inl ⟨SqL.of eZ, fun tp ntp => ?_⟩⟩
          have u1 := same_new ntp (.tup (txs ss))
          have etp : upd Y tp (.tup (txs ss)) tp = some (.tup (txs ss)) := upd_same
          generalize upd Y tp (.tup (txs ss)) = Z1 at u1 etp ⊢
          refine ⟨le 3 (by decide), fun T3 Z2 nT3 z2' eT3 => ?_⟩
          have z2 : Same Z1 Z2 := z2'
          have fin := (PF.of (p := p) (u1.trans z2))
          exact q Z2 (.ref T3) (.choose rr1 ss) rj cj (fHZ.trans fin) (z2 _ _ (u1 _ _ hpZ)) cj0 (by omega) (M1.choose sn ⟨by omega, by omega, fun u hu => hN u (sn u hu)⟩) ⟨T3, rv1, tp, rfl, eT3, rec1.keep ((f2Z.trans fin).keep hp2), z2 _ _ etp⟩
      · refine if_false_eq (decide_eq_false fun z => hk (V.int.inj z)) ?_
        exact hnx _ _ ⟨rfl, rfl, hk⟩
    rintro σ Y ⟨rfl, rfl, hk4⟩
    refine in_nx (in_seq (in_asg ⟨_, rfl, _, rfl, _, rfl, _, _, rfl, rfl, p, L, r2, m, k2, ns, e, by show [V.ref p, V.ref L, V.int (((e + 1 : Nat) : Int) - 1)] = _; rw [dc], by omega, by omega, hp2, k20, by omega, hL2, hl, hN, fun H3 rv2 rr2 r3 k3 fb hp3 k30 k31 M2 rec2 => ?_⟩))
    have F3 := F2.trans fb
    have hL3 := F3.lst hp hL
    have rec13 := rec1.keep (fb.keep hp2)
    refine in_name rfl ?_
    refine in_nx (in_seq (nx_post (fun σ Y => σ = [some (.ref p), some (.ref L), some (.int ((e + 1 : Nat) : Int)), some (.int kind), some rv1, some rv2, none] ∧ Y = H3 ∧ kind ≠ 5) (fun nx hnx => ?_) ?_))
    · refine ⟨_, rfl, rfl, _, rfl, ?_⟩
      by_cases hk : kind = 5
      · refine if_true_eq (decide_eq_true (congrArg V.int hk)) ?_
        refine ⟨_, rfl, _, rfl, _, rfl, _, rfl, _, rfl, _, _, rfl, rfl, p, L, r3, m, k3, ns, e, by show [V.ref p, V.ref L, V.int (((e + 1 : Nat) : Int) - 1)] = _; rw [dc], by omega, by omega, hp3, k30, by omega, hL3, hl, hN, fun H4 rv3 rr3 r4 k4 fc hp4 k40 k41 M3 rec3 => ?_⟩
        refine ⟨le 4 (by decide), fun T4 H5 nT4 s5' eT4 => ?_⟩
        have s5 : Same H4 H5 := s5'
        have f45 : PF p H3 H5 := fc.trans (PF.of s5)
        exact q H5 (.ref T4) (.pick rr1 rr2 rr3) r4 k4 (F3.trans f45) (s5 _ _ hp4) k40 (by omega) (M1.pick M2 M3) ⟨T4, rv1, rv2, rv3, rfl, eT4, rec13.keep (f45.keep hp3), rec2.keep (f45.keep hp3), rec3.keep (same_keep s5)⟩
      · refine if_false_eq (decide_eq_false fun z => hk (V.int.inj z)) ?_
        exact hnx _ _ ⟨rfl, rfl, hk⟩
    rintro σ Y ⟨rfl, rfl, hk5⟩
    refine in_nx ⟨le 3 (by decide), fun O Y2 nO y2' eO => ?_⟩
    have y2 : Same Y Y2 := y2'
    obtain ⟨kd, nkd, hat⟩ : ∃ kd : Kd, kd ≠ .times ∧ atI ([.str "plus", .str "minus", .str "most"] : List V) (kind - 6) = some (.str kd.name) := by
      have h3 : kind - 6 = 0 ∨ kind - 6 = 1 ∨ kind - 6 = 2 := by omega
      rcases h3 with h | h | h <;> rw [h]
      · exact ⟨.plus, (fun z => nomatch z), rfl⟩
      · exact ⟨.minus, (fun z => nomatch z), rfl⟩
      · exact ⟨.most, (fun z => nomatch z), rfl⟩
    refine ⟨_, rfl, _, _, rfl, rfl, O, _, kind - 6, _, rfl, rfl, SqL.of eO, hat, _, rfl, _, rfl, le 3 (by decide), fun T5 Y3 nT5 y3' eT5 => ?_⟩
    have y3 : Same Y2 Y3 := y3'
    have y23 := y2.trans y3
    exact q Y3 (.ref T5) (.two kd rr1 rr2) r3 k3 (F3.trans (PF.of y23)) (y23 _ _ hp3) k30 (by omega) (MadeD.two nkd M1 M2) ⟨T5, rv1, rv2, rfl, eT5, rec13.keep (same_keep y23), rec2.keep (same_keep y23)⟩
end
/-! ### houses drawn, and changed -/
open LamX NdefX
theorem dropR_keysS {α : Type} (l : List (List Nat × α)) (t : List Nat) : (dropR l t).map (·.1) = (l.map (·.1)).filter fun u => decide (u ≠ t) := by
  unfold dropR
  rw [List.filter_map]
  rfl
theorem dropR_memS {α : Type} {l : List (List Nat × α)} {t u : List Nat} : u ∈ (dropR l t).map (·.1) ↔ u ∈ l.map (·.1) ∧ u ≠ t := by
  rw [dropR_keysS, List.mem_filter, decide_eq_true_iff]
theorem dropR_ndS {α : Type} {l : List (List Nat × α)} {t : List Nat} (h : (l.map (·.1)).Nodup) : ((dropR l t).map (·.1)).Nodup := by
  rw [dropR_keysS]
  exact h.sublist List.filter_sublist
theorem nums_dropS (l : List Pr) (t : List Nat) : dropK (numsK l) (kT (SX.S t)) = numsK (dropR l t) := numsR_eq (KvR.dropR t (numsR l))
theorem dropR_subS {α : Type} {l : List (List Nat × α)} {t : List Nat} {p : List Nat × α} (h : p ∈ dropR l t) : p ∈ l := (List.mem_filter.mp h).1
theorem HouseD.empty (ns : List (List Nat)) : HouseD ns 0 0 ⟨[], []⟩ := ⟨List.nodup_nil, fun k h => absurd h (Nat.not_lt_zero _), (fun _ h => nomatch h), (fun _ h => nomatch h), fun _ h => nomatch h⟩
section
variable {ns : List (List Nat)} {c c' m m' k : Nat} {g g' : List Pr} {rc rc' : List RcpNm} {t : List Nat}
theorem HouseD.nds (H : HouseD ns c m ⟨g, rc⟩) : (g.map (·.1)).Nodup ∧ (rc.map (·.1)).Nodup ∧ ∀ u ∈ g.map (·.1), ¬ u ∈ rc.map (·.1) := by
  have hnd : (g.map (·.1) ++ rc.map (·.1)).Nodup := H.nd
  obtain ⟨d1, d2, d3⟩ := List.nodup_append.mp hnd
  exact ⟨d1, d2, fun u hu hv => d3 u hu u hv rfl⟩
/-- another house of names alike -/
theorem HouseD.by (H : HouseD ns c m ⟨g, rc⟩) (nd : (g'.map (·.1)).Nodup) (nd' : (rc'.map (·.1)).Nodup) (dj : ∀ u ∈ g'.map (·.1), ¬ u ∈ rc'.map (·.1)) (same : ∀ u, u ∈ g.map (·.1) ∨ u ∈ rc.map (·.1) → u ∈ g'.map (·.1) ∨ u ∈ rc'.map (·.1))
    (hg : ∀ p ∈ g', p.2.natAbs ≤ 5 * 10 ^ 19 + c' ∧ ∃ k, k < m ∧ ns[k]? = some p.1) (hr : ∀ p ∈ rc', p ∈ rc ∨ ∃ k, k < m ∧ ns[k]? = some p.1 ∧ MadeD (ns.take k) 3 p.2) (h2 : ∀ u ∈ rc'.map (·.1), u ∈ rc.map (·.1) ∨ ∀ k, ns[k]? = some u → 2 ≤ k) : HouseD ns c' m ⟨g', rc'⟩ := by
  refine ⟨List.nodup_append.mpr ⟨nd, nd', fun x hx y hy e => dj x hx (by rw [e]; exact hy)⟩, fun k hk u e => ?_, fun p hp => ⟨(hg p hp).2, (hg p hp).1⟩, fun p hp => ?_, fun p hp => ?_⟩
  · exact List.mem_append.mpr (same _ (List.mem_append.mp (H.all k hk u e)))
  · rcases hr p hp with h | h
    · exact H.rc p h
    · exact h
  · rcases h2 p.1 (List.mem_map.mpr ⟨p, hp, rfl⟩) with h | h
    · obtain ⟨q, hq, e⟩ := List.mem_map.mp h
      rw [← e]
      exact H.rk q hq
    · exact h
theorem HouseD.up (H : HouseD ns c m ⟨g, rc⟩) (h : c ≤ c') : HouseD ns c' m ⟨g, rc⟩ := ⟨H.nd, H.all, fun p hp => ⟨(H.gv p hp).1, Nat.le_trans (H.gv p hp).2 (by omega)⟩, H.rc, H.rk⟩
theorem HouseD.gvk (H : HouseD ns c m ⟨g, rc⟩) (h : c ≤ c') : ∀ p ∈ g, p.2.natAbs ≤ 5 * 10 ^ 19 + c' ∧ ∃ k, k < m ∧ ns[k]? = some p.1 := fun p hp => ⟨Nat.le_trans (H.gv p hp).2 (by omega), (H.gv p hp).1⟩
/-- a new name -/
theorem HouseD.fresh (N : NmD ns) (H : HouseD ns c m ⟨g, rc⟩) (e : ns[m]? = some t) : ¬ t ∈ g.map (·.1) ∧ ¬ t ∈ rc.map (·.1) := by
  have h : ¬ t ∈ g.map (·.1) ++ rc.map (·.1) := fun z => by
    obtain ⟨j, hj, e2⟩ := H.own z
    have := idx_nd N.nd e
    rw [idx_nd N.nd e2] at this
    omega
  exact ⟨fun z => h (List.mem_append_left _ z), fun z => h (List.mem_append_right _ z)⟩
theorem HouseD.give (N : NmD ns) (H : HouseD ns c m ⟨g, rc⟩) (e : ns[m]? = some t) {v : Int} (hv : v.natAbs ≤ 5 * 10 ^ 19 + c) : HouseD ns c (m + 1) ⟨putA g t v, rc⟩ := by
  obtain ⟨n1, n2⟩ := H.fresh N e
  obtain ⟨d1, d2, d3⟩ := H.nds
  refine ⟨List.nodup_append.mpr ⟨putA_nd d1, d2, fun x hx y hy e2 => ?_⟩, fun k hk u e2 => ?_, fun p hp => ?_, fun p hp => ?_, H.rk⟩
  · rcases putA_mem.mp hx with h | h
    · exact d3 x h (by rw [e2]; exact hy)
    · exact n2 (by rw [← h, e2]; exact hy)
  · by_cases ck : k = m
    · rw [ck, e] at e2
      cases e2
      exact List.mem_append_left _ (putA_mem.mpr (.inr rfl))
    · rcases List.mem_append.mp (H.all k (by omega) u e2) with h | h
      · exact List.mem_append_left _ (putA_mem.mpr (.inl h))
      · exact List.mem_append_right _ h
  · rcases mem_putA hp with rfl | hp
    · exact ⟨⟨m, Nat.lt_succ_self _, e⟩, hv⟩
    · obtain ⟨⟨j, hj, e2⟩, b⟩ := H.gv p hp
      exact ⟨⟨j, by omega, e2⟩, b⟩
  · obtain ⟨j, hj, r⟩ := H.rc p hp
    exact ⟨j, by omega, r⟩
theorem HouseD.cook (N : NmD ns) (H : HouseD ns c m ⟨g, rc⟩) (e : ns[m]? = some t) (m2 : 2 ≤ m) {r : Rcp} (M : MadeD (ns.take m) 3 r) : HouseD ns c (m + 1) ⟨g, putA rc t r⟩ := by
  obtain ⟨n1, n2⟩ := H.fresh N e
  obtain ⟨d1, d2, d3⟩ := H.nds
  refine ⟨List.nodup_append.mpr ⟨d1, putA_nd d2, fun x hx y hy e2 => ?_⟩, fun k hk u e2 => ?_, fun p hp => ?_, fun p hp => ?_, fun p hp k ek => ?_⟩
  · rcases putA_mem.mp hy with h | h
    · exact d3 x hx (by rw [e2]; exact h)
    · exact n1 (by rw [← h, ← e2]; exact hx)
  · by_cases ck : k = m
    · rw [ck, e] at e2
      cases e2
      exact List.mem_append_right _ (putA_mem.mpr (.inr rfl))
    · rcases List.mem_append.mp (H.all k (by omega) u e2) with h | h
      · exact List.mem_append_left _ h
      · exact List.mem_append_right _ (putA_mem.mpr (.inl h))
  · obtain ⟨⟨j, hj, e2⟩, b⟩ := H.gv p hp
    exact ⟨⟨j, by omega, e2⟩, b⟩
  · rcases mem_putA hp with rfl | hp
    · exact ⟨m, Nat.lt_succ_self _, e, M⟩
    · obtain ⟨j, hj, r⟩ := H.rc p hp
      exact ⟨j, by omega, r⟩
  · rcases mem_putA hp with rfl | hp
    · have := idx_nd N.nd e
      rw [idx_nd N.nd ek] at this
      omega
    · exact H.rk p hp k ek
theorem HouseD.setg (H : HouseD ns c m ⟨g, rc⟩) (ht : t ∈ g.map (·.1)) {v : Int} (hv : v.natAbs ≤ 5 * 10 ^ 19 + c') (hc : c ≤ c') : HouseD ns c' m ⟨putA g t v, rc⟩ := by
  obtain ⟨d1, d2, d3⟩ := H.nds
  refine H.by (putA_nd d1) d2 (fun u hu => ?_) (fun u hu => hu.imp (fun h => putA_mem.mpr (.inl h)) id) (fun p hp => ?_) (fun p hp => .inl hp) fun u hu => .inl hu
  · rcases putA_mem.mp hu with h | h
    · exact d3 u h
    · rw [h]; exact d3 t ht
  · rcases mem_putA hp with rfl | hp
    · exact ⟨hv, H.own (List.mem_append_left _ ht)⟩
    · exact H.gvk hc p hp
theorem HouseD.setr (H : HouseD ns c m ⟨g, rc⟩) (ht : t ∈ rc.map (·.1)) (hk : k < m) (e : ns[k]? = some t) {r : Rcp} (M : MadeD (ns.take k) 3 r) : HouseD ns c m ⟨g, putA rc t r⟩ := by
  obtain ⟨d1, d2, d3⟩ := H.nds
  refine H.by d1 (putA_nd d2) (fun u hu z => ?_) (fun u hu => hu.imp id fun h => putA_mem.mpr (.inl h)) (H.gvk (Nat.le_refl _)) (fun p hp => ?_) fun u hu => .inl ((putA_mem.mp hu).elim id fun h => by rw [h]; exact ht)
  · rcases putA_mem.mp z with h | h
    · exact d3 u hu h
    · exact d3 u hu (by rw [h]; exact ht)
  · rcases mem_putA hp with rfl | hp
    · exact .inr ⟨k, hk, e, M⟩
    · exact .inl hp
theorem HouseD.toG (H : HouseD ns c m ⟨g, rc⟩) (ht : t ∈ rc.map (·.1)) {v : Int} (hv : v.natAbs ≤ 5 * 10 ^ 19 + c) : HouseD ns c m ⟨putA g t v, dropR rc t⟩ := by
  obtain ⟨d1, d2, d3⟩ := H.nds
  refine H.by (putA_nd d1) (dropR_ndS d2) (fun u hu z => ?_) (fun u hu => ?_) (fun p hp => ?_) (fun p hp => .inl (dropR_subS hp)) fun u hu => .inl (dropR_memS.mp hu).1
  · obtain ⟨z1, z2⟩ := dropR_memS.mp z
    exact (putA_mem.mp hu).elim (fun h => d3 u h z1) z2
  · by_cases cu : u = t
    · exact .inl (putA_mem.mpr (.inr cu))
    · exact hu.imp (fun h => putA_mem.mpr (.inl h)) fun h => dropR_memS.mpr ⟨h, cu⟩
  · rcases mem_putA hp with rfl | hp
    · exact ⟨hv, H.own (List.mem_append_right _ ht)⟩
    · exact H.gvk (Nat.le_refl _) p hp
theorem HouseD.toR (H : HouseD ns c m ⟨g, rc⟩) (N : NmD ns) (hk : k < m) (k2 : 2 ≤ k) (e : ns[k]? = some t) {r : Rcp} (M : MadeD (ns.take k) 3 r) : HouseD ns c m ⟨dropR g t, putA rc t r⟩ := by
  obtain ⟨d1, d2, d3⟩ := H.nds
  refine H.by (dropR_ndS d1) (putA_nd d2) (fun u hu z => ?_) (fun u hu => ?_) (fun p hp => H.gvk (Nat.le_refl _) p (dropR_subS hp)) (fun p hp => ?_) fun u hu => (putA_mem.mp hu).imp id fun h j ej => by rw [h] at ej; have := idx_nd N.nd e; rw [idx_nd N.nd ej] at this; omega
  · obtain ⟨z1, z2⟩ := dropR_memS.mp hu
    exact (putA_mem.mp z).elim (fun h => d3 u z1 h) z2
  · by_cases cu : u = t
    · exact .inr (putA_mem.mpr (.inr cu))
    · exact hu.imp (fun h => dropR_memS.mpr ⟨h, cu⟩) fun h => putA_mem.mpr (.inl h)
  · rcases mem_putA hp with rfl | hp
    · exact .inr ⟨k, hk, e, M⟩
    · exact .inl hp
end
/-! ### houses drawn, and changed: the walks -/
open LamX NdefX
def spHouseS (K : PySem.W.Frag) : Sp := fun vs H Q _ => ∃ (a L : Addr) (cs : List Int) (ns : List (List Nat)), vs = [.ref a, .ref L, .bl false] ∧ SqL K H a (cs.map V.int) ∧ cs.length ≤ 63 ∧ H L = some (.lst (txs ns)) ∧ NmD ns ∧
  ∀ (U G R : Addr) (h : House) (kvs : List (Key × V)) (H' : Hp), Same H H' → H U = none → H G = none → H R = none → G ≠ R → H' U = some (.tup [.ref G, .ref R]) → H' G = some (.dK (numsK h.given)) → H' R = some (.dK kvs) → KvR (Rec H') h.recs kvs → HouseD ns 0 12 h → Q (.ref U) H'
def spChangedS : Sp := fun vs H Q _ => ∃ (u0 G0 R0 L p : Addr) (ns : List (List Nat)) (c0 : Nat) (h : House) (kvs : List (Key × V)) (r : Int) (m : Bool) (c : Int), vs = [.ref u0, .ref L, .ref p] ∧ H u0 = some (.tup [.ref G0, .ref R0]) ∧ H G0 = some (.dK (numsK h.given)) ∧ H R0 = some (.dK kvs) ∧ KvR (Rec H) h.recs kvs ∧ H L = some (.lst (txs ns)) ∧ NmD ns ∧ HouseD ns c0 12 h ∧ H p = some (.dK (dst r m c)) ∧ 0 ≤ c ∧ c ≤ 50000 ∧ p ≠ G0 ∧ p ≠ R0 ∧
  ∀ (U G R : Addr) (h' : House) (kvs : List (Key × V)) (r' c' : Int) (H' : Hp), PF p H H' → H U = none → H G = none → H R = none → G ≠ R → H' U = some (.tup [.ref G, .ref R]) → H' G = some (.dK (numsK h'.given)) → H' R = some (.dK kvs) → KvR (Rec H') h'.recs kvs → HouseD ns (c0 + 1) 12 h' → H' p = some (.dK (dst r' m c')) → 0 ≤ c' → c' ≤ c + 1000 → Q (.ref U) H'
section
variable {P : Program} {w : World} {K : PySem.W.Frag} {mg : Str → Option Value} {base : Heap}
theorem cut_toS (ns : List (List Nat)) (k : Nat) : cutV (txs ns) none (some (k : Int)) = txs (ns.take k) := by
  have := cut_nat (txs ns) (Nat.zero_le k)
  rw [Nat.sub_zero, List.drop_zero, txs_take] at this
  exact this
theorem txs_atS {ns : List (List Nat)} {i : Nat} {t : List Nat} (e : ns[i]? = some t) : atI (txs ns) (i : Int) = some (.str (SX.S t)) := atI_nat (by unfold txs; rw [List.getElem?_map, List.getElem?_map, e]; rfl)
abbrev s__law_house : Stmt := topS 24
abbrev N__law_house : List Str := ["script", "names", "loose", "given", "recipes", "k", "state", "pool"]
theorem sc__law_house : FnScope N__law_house ["script", "names", "loose"] (defScope s__law_house) := ⟨rfl, rfl, rfl, by decide +kernel, rfl, by decide +kernel, by decide +kernel⟩

theorem ok__law_houseS (T : Txt K mg) (D : IsDef K mg "_law_house" s__law_house ["script", "names", "loose"]) (C_st : Cal P w K mg base CX0 1 "_law_state" ["script", "k"] (spState K)) (C_dr : Cal P w K mg base CX0 1 "_law_draw" ["state", "many"] spDraw) (C_nu : Cal P w K mg base CX0 2 "_law_number" ["state"] spNumS) (C_rcp : Cal P w K mg base CX0 6 "_law_recipe" ["state", "pool", "depth"] (spRcpS 4)) :
    Cal P w K mg base CX0 7 "_law_house" ["script", "names", "loose"] (spHouseS K) := by
  have C__law_state := C_st.mono (show 1 ≤ 6 by decide)
  have C__law_draw := C_dr.mono (show 1 ≤ 6 by decide)
  have C__law_number := C_nu.mono (show 2 ≤ 6 by decide)
  have C__law_recipe := C_rcp
  refine D.cal (k := 6) sc__law_house (fun vs H Q E h => ?_) (fun f cdv A outer s H vs Q E hr h => ?_)
  · obtain ⟨_, _, _, _, rfl, _⟩ := h
    rfl
  obtain ⟨a, L, cs, ns, rfl, hS, h63, hL, N, q⟩ := h
  have hu : (cxOf CX0 P w K mg base N__law_house "_law_house" (defScope s__law_house) f cdv A outer s H E).A.units + 1 < cLine := Nat.lt_of_le_of_lt (Nat.add_le_add_left (by decide : 1 ≤ 64) _) hr.units
  refine ⟨_, (pss_cons (ps_set (i := 3) sc__law_house.nd rfl (Or.inl rfl) pe_dnewA)
      (pss_cons (ps_set (i := 4) sc__law_house.nd rfl (Or.inl rfl) pe_dnewA)
      (pss_cons (ps_for PassesOwn.never rfl (pi_range1 rfl T.b_range (pa_cons pe_int pa_nil)) (pg_name (i := 5) sc__law_house.nd rfl (Or.inl rfl))
        (pss_cons (ps_set (i := 6) sc__law_house.nd rfl (Or.inl rfl) (pe_cal C__law_state (hr.mono (by first | decide | omega)) pass0 (pa_cons (pv 0) (pa_cons (pe_op op_add pe_int (pv 5)) pa_nil))))
      (pss_one (ps_if (PW.pt (pw_or (pt_cmpR op_lt (pv 5) pe_int (nomark _)) (pw_or1 (pt_cmpR op_eq (pe_cal C__law_draw (hr.mono (by first | decide | omega)) pass0 (pa_cons (pv 6) (pa_cons pe_int pa_nil))) pe_int (nomark _)))))
        (pss_one (ps_dput hu (pv 3) (pe_ix (r := rIxL K) ix_list (pv 1) (pv 5) (fun _ _ => rfl)) (pe_cal C__law_number (hr.mono (by first | decide | omega)) pass0 (pa_cons (pv 6) pa_nil)) rfl))
        (pss_cons (ps_set (i := 7) sc__law_house.nd rfl (Or.inl rfl) (pe_slice (r := rSlLA K) sl_listA (pv 1) po_none (po_some (pv 5))))
      (pss_cons (ps_if (PW.pt (pw_and (pt_val (pv 2)) (pw_and1 (pt_cmpR op_eq (pe_cal C__law_draw (hr.mono (by first | decide | omega)) pass0 (pa_cons (pv 6) (pa_cons pe_int pa_nil))) pe_int (nomark _)))))
        (pss_one (ps_set (i := 7) sc__law_house.nd rfl (Or.inl rfl) (pe_slice (r := rSlLA K) sl_listA (pv 1) po_none (po_some pe_int))))
        pss_nil)
      (pss_one (ps_dput hu (pv 4) (pe_ix (r := rIxL K) ix_list (pv 1) (pv 5) (fun _ _ => rfl)) (pe_cal C__law_recipe (hr.mono (by first | decide | omega)) pass0 (pa_cons (pv 6) (pa_cons (pv 7) (pa_cons pe_int pa_nil)))) rfl))))))))
      (pss_one (ps_ret (pe_tupA (pa_cons (pv 3) (pa_cons (pv 4) pa_nil)))))))), ?_⟩
  refine fun G H1 nG s1' eG => ?_
  have s1 : Same H H1 := s1'
  refine in_name rfl ?_
  refine in_nx (in_seq (in_asg fun R H2 nR s2' eR => ?_))
  have s2 : Same H1 H2 := s2'
  refine in_name rfl ?_
  have s02 := s1.trans s2
  have nGR : G ≠ R := fun z => by rw [z, nR] at eG; cases eG
  have nRH : H R = none := s1.free nR
  have eG2 := s2 _ _ eG
  refine in_nx (in_seq ?_)
  refine ⟨12, rfl, by decide, by decide, for_range (lo := 0) (n := 12) (fun i σ X => ∃ (w5 w6 w7 : Option V) (g : List Pr) (rc : List RcpNm) (kv : List (Key × V)), σ = [some (.ref a), some (.ref L), some (.bl false), some (.ref G), some (.ref R), w5, w6, w7] ∧ Same H X ∧ X G = some (.dK (numsK g)) ∧ X R = some (.dK kv) ∧ KvR (Rec X) rc kv ∧ HouseD ns 0 i ⟨g, rc⟩)
    ⟨none, none, none, [], [], [], rfl, s02, eG2, eR, trivial, HouseD.empty ns⟩ ?_ ?_⟩
  · rintro i σ X hi ⟨w5, w6, w7, g, rc, kv, rfl, sX, eGX, eRX, hK, hH⟩
    refine in_name rfl ?_
    refine ⟨_, rfl, _, rfl, _, _, rfl, rfl, a, cs, 3 + (0 + (i : Int)), rfl, sX.seq hS, h63, by omega, by omega, fun p r mm np => ?_⟩
    obtain ⟨c, hc⟩ : ∃ c : Int, c = 3 + (0 + (i : Int)) := ⟨_, rfl⟩
    rw [← hc]
    have c0 : 0 ≤ c := by omega
    have c20 : c ≤ 20 := by omega
    have sp := same_new np (.dK (dst r mm c))
    have ep : upd X p (.dK (dst r mm c)) p = some (.dK (dst r mm c)) := upd_same
    generalize upd X p (.dK (dst r mm c)) = X1 at sp ep ⊢
    refine in_name rfl ?_
    have sX1 := sX.trans sp
    have npH : H p = none := sX.free np
    have npG : G ≠ p := fun z => by rw [z, np] at eGX; cases eGX
    have npR : R ≠ p := fun z => by rw [z, np] at eRX; cases eRX
    have npL : L ≠ p := fun z => by rw [z, npH] at hL; cases hL
    have gl := hH.count
    obtain ⟨t, ht⟩ : ∃ t, ns[i]? = some t := ⟨_, List.getElem?_eq_getElem (by rw [N.len]; omega)⟩
    have glen : (numsK g).length ≤ 16 := by rw [numsK_len]; have : g.length + rc.length ≤ i := gl; omega
    have klen : kv.length ≤ 16 := by rw [hK.len]; have : g.length + rc.length ≤ i := gl; omega
    have zi : (0 : Int) + (i : Int) = (i : Int) := Int.zero_add _
    have hat : atI (txs ns) (0 + (i : Int)) = some (.str (SX.S t)) := by rw [zi]; exact txs_atS ht
    refine in_nx (nx_post (fun σ Y => ∃ (w7 : Option V) (g : List Pr) (rc : List RcpNm) (kv : List (Key × V)), σ = [some (.ref a), some (.ref L), some (.bl false), some (.ref G), some (.ref R), some (.int (0 + (i : Int))), some (.ref p), w7] ∧ Same H Y ∧ Y G = some (.dK (numsK g)) ∧ Y R = some (.dK kv) ∧ KvR (Rec Y) rc kv ∧ HouseD ns 0 (i + 1) ⟨g, rc⟩) (fun nx hnx => ?_) ?_)
    · have give : ∀ {rt : V → Hp → Prop} {bk ct : L2.St → Hp → Prop} {Y : Hp} {r1 c1 : Int}, PF p X1 Y → Y p = some (.dK (dst r1 mm c1)) → 0 ≤ c1 → c1 ≤ 6000 → (sDPut (tVar 3) (tOp (rIxL K) (tVar 1) (tVar 5)) (tCall spNumS [] E0 (tCons (tVar 6) tNil))) { nx := nx, rt := rt, bk := bk, ct := ct } [some (.ref a), some (.ref L), some (.bl false), some (.ref G), some (.ref R), some (.int (0 + (i : Int))), some (.ref p), w7] Y := fun {rt bk ct Y r1 c1} fY hpY c10 c11 => by
        refine ⟨_, rfl, p, r1, mm, c1, rfl, hpY, c10, by omega, fun Y2 v2 r2 c2 f2 hp2 c20 c21 hv => ?_⟩
        have fY2 := fY.trans f2
        have eGY := fY2 _ _ npG (sp _ _ eGX)
        refine ⟨_, rfl, _, rfl, _, rfl, L, _, 0 + (i : Int), _, rfl, rfl, SqL.of (fY2 _ _ npL (sX1 _ _ hL)), hat, G, _, rfl, DPut.k (k := kT (SX.S t)) eGY (lt_line (by omega)), ?_⟩
        rw [nums_putA]
        have keep2 : Keep X1 (upd Y2 G (.dK (numsK (putA g t v2)))) := fun b ys e => by
          rw [upd_ne (fun z => by rw [z, sp _ _ eGX] at e; cases e)]
          exact fY2 _ _ (fun z => by rw [z, ep] at e; cases e) e
        refine hnx _ _ ⟨_, putA g t v2, rc, kv, rfl, fun b u e => ?_, upd_same, by rw [upd_ne (Ne.symm nGR)]; exact fY2 _ _ npR (sp _ _ eRX), hK.imp fun r v q => (q.same sp).keep keep2, hH.give N ht (by omega)⟩
        rw [upd_ne (fun z => by rw [z, nG] at e; cases e)]
        exact fY2 _ _ (fun z => by rw [z, npH] at e; cases e) (sX1 _ _ e)
      refine ⟨_, rfl, _, _, rfl, rfl, _, rfl, ?_⟩
      refine ite2 (fun _ => ?_) (fun hk2 => ?_)
      · exact give (PF.refl _ _) ep c0 (by omega)
      refine ⟨_, rfl, p, r, mm, c, 5, rfl, ep, by decide, by decide, c0, by omega, fun Y1 v1 r1 k1 g1 hp1 k10 k11 v10 v11 => ?_⟩
      refine ⟨rfl, _, rfl, ?_⟩
      refine ite2 (fun _ => ?_) (fun _ => ?_)
      · exact give (PF.take g1) hp1 k10 (by omega)
      · have f1 : PF p X1 Y1 := PF.take g1
        have eL1 := f1 _ _ npL (sX1 _ _ hL)
        refine ⟨_, rfl, _, rfl, 0 + (i : Int), rfl, L, _, rfl, SqL.of eL1, fun L1 Y2 nL1 y2' eL2 => ?_⟩
        have y2 : Same Y1 Y2 := y2'
        have eL2 : Y2 L1 = some (.lst (txs (ns.take i))) := by rw [← cut_toS, ← zi]; exact eL2
        refine in_name rfl ?_
        refine in_nx (in_seq ⟨_, rfl, _, rfl, iteF ?_⟩)
        refine iteF ?_
        have nL1p : L1 ≠ p := fun z => by rw [z, hp1] at nL1; cases nL1
        refine in_nx ⟨_, rfl, _, rfl, p, L1, r1, mm, k1, ns.take i, 3, rfl, by decide, by decide, y2 _ _ hp1, k10, by have h64 : (4 : Nat) ^ 3 = 64 := (by decide); omega, eL2, by rw [List.length_take, N.len]; omega, fun u hu => N.nm u (List.mem_of_mem_take hu), fun Y5 rv rr r5 k5 f5 hp5 k50 k51 M hrec => ?_⟩
        have f15 : PF p X1 Y5 := (f1.trans (PF.of y2)).trans f5
        have eRY := f15 _ _ npR (sp _ _ eRX)
        refine ⟨_, rfl, _, rfl, _, rfl, L, _, 0 + (i : Int), _, rfl, rfl, SqL.of (f15 _ _ npL (sX1 _ _ hL)), hat, R, _, rfl, DPut.k (k := kT (SX.S t)) eRY (lt_line (by omega)), ?_⟩
        have kp5 : Keep Y5 (upd Y5 R (.dK (putK kv (kT (SX.S t)) rv))) := fun b ys e => by rw [upd_ne (fun z => by rw [z, eRY] at e; cases e)]; exact e
        have kX5 : Keep X1 Y5 := f15.keep ep
        refine hnx _ _ ⟨_, g, putA rc t rr, _, rfl, fun b u e => ?_, by rw [upd_ne nGR]; exact f15 _ _ npG (sp _ _ eGX), upd_same, (KvR.put (a := rr) hrec (hK.imp fun r v q => (q.same sp).keep kX5)).imp fun r v q => q.keep kp5, hH.cook N ht (by have h2 : ¬ ((0 : Int) + (i : Int) < 2) := fun z => hk2 (decide_eq_true z); omega) M⟩
        rw [upd_ne (fun z => by rw [z, nRH] at e; cases e)]
        exact f15 _ _ (fun z => by rw [z, npH] at e; cases e) (sX1 _ _ e)
    rintro σ Y ⟨w7, g2, rc2, kv2, rfl, sY, eGY, eRY, hK2, hH2⟩
    exact ⟨_, _, _, g2, rc2, kv2, rfl, sY, eGY, eRY, hK2, hH2⟩
  · rintro σ X ⟨w5, w6, w7, g, rc, kv, rfl, sX, eGX, eRX, hK, hH⟩
    refine in_nx ⟨_, rfl, _, rfl, le_line (Nat.le_of_ble_eq_true rfl), fun U X2 nU x2' eU => ?_⟩
    have x2 : Same X X2 := x2'
    exact q U G R ⟨g, rc⟩ kv X2 (sX.trans x2) (sX.free nU) nG nRH nGR eU (x2 _ _ eGX) (x2 _ _ eRX) (hK.imp fun r v q => q.same x2) hH
abbrev s__law_changed : Stmt := topS 25
abbrev N__law_changed : List Str := ["house", "names", "state", "given", "recipes", "at", "name", "kind"]
theorem sc__law_changed : FnScope N__law_changed ["house", "names", "state"] (defScope s__law_changed) := ⟨rfl, rfl, rfl, by decide +kernel, rfl, by decide +kernel, by decide +kernel⟩

theorem ok__law_changedS (T : Txt K mg) (D : IsDef K mg "_law_changed" s__law_changed ["house", "names", "state"]) (C_dr : Cal P w K mg base CX0 1 "_law_draw" ["state", "many"] spDraw) (C_nu : Cal P w K mg base CX0 2 "_law_number" ["state"] spNumS) (C_rcp : Cal P w K mg base CX0 6 "_law_recipe" ["state", "pool", "depth"] (spRcpS 4)) :
    Cal P w K mg base CX0 7 "_law_changed" ["house", "names", "state"] spChangedS := by
  have C__law_draw := C_dr.mono (show 1 ≤ 6 by decide)
  have C__law_number := C_nu.mono (show 2 ≤ 6 by decide)
  have C__law_recipe := C_rcp
  refine D.cal (k := 6) sc__law_changed (fun vs H Q E h => ?_) (fun f cdv A outer s H vs Q E hr h => ?_)
  · obtain ⟨_, _, _, _, _, _, _, _, _, _, _, _, rfl, _⟩ := h
    rfl
  obtain ⟨u0, G0, R0, L, p, ns, c0, h, kvs, r, m, c, rfl, hu0, hG0, hR0, hKv, hL, N, hH, hp, hc0, hc1, npG0, npR0, q⟩ := h
  have hu : (cxOf CX0 P w K mg base N__law_changed "_law_changed" (defScope s__law_changed) f cdv A outer s H E).A.units + 1 < cLine := Nat.lt_of_le_of_lt (Nat.add_le_add_left (by decide : 1 ≤ 64) _) hr.units
  refine ⟨_, (pss_cons (ps_set (i := 3) sc__law_changed.nd rfl (Or.inl rfl) (pe_callTy call_dictDA (by rfl) T.b_dict (by decide +kernel) (pa_cons (pe_ix (r := rIxT K) ix_tup (pv 0) pe_int (fun _ _ => rfl)) pa_nil)))
      (pss_cons (ps_set (i := 4) sc__law_changed.nd rfl (Or.inl rfl) (pe_callTy call_dictDA (by rfl) T.b_dict (by decide +kernel) (pa_cons (pe_ix (r := rIxT K) ix_tup (pv 0) pe_int (fun _ _ => rfl)) pa_nil)))
      (pss_cons (ps_set (i := 5) sc__law_changed.nd rfl (Or.inl rfl) (pe_cal C__law_draw (hr.mono (by first | decide | omega)) pass0 (pa_cons (pv 2) (pa_cons pe_int pa_nil))))
      (pss_cons (ps_set (i := 6) sc__law_changed.nd rfl (Or.inl rfl) (pe_ix (r := rIxL K) ix_list (pv 1) (pv 5) (fun _ _ => rfl)))
      (pss_cons (ps_set (i := 7) sc__law_changed.nd rfl (Or.inl rfl) (pe_cal C__law_draw (hr.mono (by first | decide | omega)) pass0 (pa_cons (pv 2) (pa_cons pe_int pa_nil))))
      (pss_cons (ps_if (PW.pt (pw_and (pt_cmp (pc_din hu (pv 6) (pv 3))) (pw_and1 (pt_cmpR op_lt (pv 7) pe_int (nomark _)))))
        (pss_one (ps_dput hu (pv 3) (pv 6) (pe_ix (r := rIxL K) ix_list (pe_lstA (pa_cons (pe_op op_add (pe_dget hu (pv 3) (pv 6) (fun _ _ => rfl)) pe_int) (pa_cons (pe_cal C__law_number (hr.mono (by first | decide | omega)) pass0 (pa_cons (pv 2) pa_nil)) pa_nil))) (pe_cal C__law_draw (hr.mono (by first | decide | omega)) pass0 (pa_cons (pv 2) (pa_cons pe_int pa_nil))) (fun _ _ => rfl)) rfl))
        (pss_one (ps_if (PW.pt (pw_and (pt_cmp (pc_din hu (pv 6) (pv 4))) (pw_and1 (pt_cmpR op_lt (pv 7) pe_int (nomark _)))))
        (pss_one (ps_dput hu (pv 4) (pv 6) (pe_cal C__law_recipe (hr.mono (by first | decide | omega)) pass0 (pa_cons (pv 2) (pa_cons (pe_slice (r := rSlLA K) sl_listA (pv 1) po_none (po_some (pv 5))) (pa_cons pe_int pa_nil)))) rfl))
        (pss_one (ps_if (PW.pt (pw_and (pt_cmp (pc_din hu (pv 6) (pv 4))) (pw_and1 (pt_cmpR op_eq (pv 7) pe_int (nomark _)))))
        (pss_cons (ps_dput hu (pv 3) (pv 6) (pe_cal C__law_number (hr.mono (by first | decide | omega)) pass0 (pa_cons (pv 2) pa_nil)) rfl)
      (pss_one (ps_expr (pe_dpop1 (pv 4) (pv 6) ⟨rfl, rfl, rfl, rfl⟩))))
        (pss_one (ps_if (PW.pt (pw_and (pt_cmpR op_eq (pv 7) pe_int (nomark _)) (pw_and1 (pt_cmpR op_gt (pv 5) pe_int (nomark _)))))
        (pss_cons (ps_expr (pe_dpop2 (pv 3) (pv 6) pe_int ⟨rfl, rfl, rfl, rfl⟩))
      (pss_one (ps_dput hu (pv 4) (pv 6) (pe_cal C__law_recipe (hr.mono (by first | decide | omega)) pass0 (pa_cons (pv 2) (pa_cons (pe_slice (r := rSlLA K) sl_listA (pv 1) po_none (po_some (pv 5))) (pa_cons pe_int pa_nil)))) rfl)))
        pss_nil)))))))
      (pss_one (ps_ret (pe_tupA (pa_cons (pv 3) (pa_cons (pv 4) pa_nil))))))))))), ?_⟩
  refine ⟨_, rfl, u0, _, _, _, rfl, rfl, SqT.of hu0, rfl, G0, _, rfl, .inl hG0, fun G H1 nG s1' eG => ?_⟩
  have s1 : Same H H1 := s1'
  refine in_name rfl ?_
  refine in_nx (in_seq (in_asg ⟨_, rfl, u0, _, _, _, rfl, rfl, SqT.of (s1 _ _ hu0), rfl, R0, _, rfl, .inl (s1 _ _ hR0), fun R H2 nR s2' eR => ?_⟩))
  have s2 : Same H1 H2 := s2'
  have s02 := s1.trans s2
  refine in_name rfl ?_
  have nGR : G ≠ R := fun z => by rw [z, nR] at eG; cases eG
  have nRH : H R = none := s1.free nR
  have eG2 := s2 _ _ eG
  have npG : G ≠ p := fun z => by rw [z, hp] at nG; cases nG
  have npR : R ≠ p := fun z => by rw [z, hp] at nRH; cases nRH
  have nLp : L ≠ p := fun z => by rw [z, hp] at hL; cases hL
  refine in_nx (in_seq (in_asg ⟨_, rfl, p, r, m, c, 12, rfl, s02 _ _ hp, by decide, by decide, hc0, by omega, fun H3 at' r3 c3 g3 hp3 c30 c31 a0 a1 => ?_⟩))
  refine in_name rfl ?_
  obtain ⟨i, hi⟩ : ∃ i : Nat, at' = (i : Int) := ⟨at'.toNat, by omega⟩
  have hi12 : i < 12 := by omega
  obtain ⟨t, ht⟩ : ∃ t, ns[i]? = some t := ⟨_, List.getElem?_eq_getElem (by rw [N.len]; omega)⟩
  have hat : atI (txs ns) at' = some (.str (SX.S t)) := by rw [hi]; exact txs_atS ht
  have f3 : PF p H H3 := (PF.of s02).trans (PF.take g3)
  refine in_nx (in_seq (in_asg ⟨_, rfl, _, rfl, L, _, at', _, rfl, rfl, SqL.of (f3 _ _ nLp hL), hat, ?_⟩))
  refine in_name rfl ?_
  refine in_nx (in_seq (in_asg ⟨_, rfl, p, r3, m, c3, 5, rfl, hp3, by decide, by decide, c30, by omega, fun H4 kind r4 c4 g4 hp4 c40 c41 w0 w1 => ?_⟩))
  refine in_name rfl ?_
  have f24 : PF p H2 H4 := (PF.take g3).trans (PF.take g4)
  have f4 : PF p H H4 := (PF.of s02).trans f24
  have eG4 := f24 _ _ npG eG2
  have eR4 := f24 _ _ npR eR
  have hK4 : KvR (Rec H4) h.recs kvs := hKv.imp fun r v q => q.keep (f4.keep hp)
  have eL4 := f4 _ _ nLp hL
  obtain ⟨g, rc⟩ := h
  have gl := hH.count
  have glen : (numsK g).length ≤ 16 := by rw [numsK_len]; have : g.length + rc.length ≤ 12 := gl; omega
  have klen : kvs.length ≤ 16 := by rw [hKv.len]; have : g.length + rc.length ≤ 12 := gl; omega
  refine in_nx (in_seq (nx_post (fun σ Y => ∃ (h' : House) (kv : List (Key × V)) (r' c' : Int), σ = [some (.ref u0), some (.ref L), some (.ref p), some (.ref G), some (.ref R), some (.int at'), some (.str (SX.S t)), some (.int kind)] ∧ PF p H Y ∧ Y G = some (.dK (numsK h'.given)) ∧ Y R = some (.dK kv) ∧ KvR (Rec Y) h'.recs kv ∧ HouseD ns (c0 + 1) 12 h' ∧ Y p = some (.dK (dst r' m c')) ∧ 0 ≤ c' ∧ c' ≤ c + 1000) (fun nx hnx => ?_) ?_))
  · have recN : ∀ {Y : Hp}, KvR (Rec Y) rc kvs → ¬ t ∈ rc.map (·.1) → valV kvs (kT (SX.S t)) = none := fun {Y} hk hn => by
      rcases KvR.get (t := t) hk with ⟨e3, e4⟩ | ⟨r2, rv2, e3, e4, _⟩
      · exact e4
      · exact absurd (List.mem_map.mpr ⟨_, getA_mem e3, rfl⟩) hn
    refine ⟨_, rfl, _, rfl, G, _, rfl, DGet.k (k := kT (SX.S t)) eG4, _, rfl, ?_⟩
    rw [val_seen]
    cases ev : seen g t with
    | some v0 =>
      refine iteT ?_
      have hin : t ∈ g.map (·.1) := seen_key ev
      have bv : v0.natAbs ≤ 5 * 10 ^ 19 + c0 := (hH.gv _ (seen_mem ev)).2
      have hget : DGet H4 G (.str (SX.S t)) (some (.int v0)) := (show valV (numsK g) (kT (SX.S t)) = some (.int v0) by rw [val_seen, ev]; rfl) ▸ DGet.k (k := kT (SX.S t)) eG4
      refine ⟨_, rfl, _, _, rfl, rfl, _, rfl, ?_⟩
      refine ite2 (fun _ => ?_) (fun hk => ?_)
      · refine ⟨_, rfl, _, rfl, G, _, rfl, hget, _, _, rfl, rfl, _, rfl, p, r4, m, c4, rfl, hp4, c40, by omega, fun Y v r5 c5 f5 hp5 c50 c51 hv => ⟨le_line (Nat.le_of_ble_eq_true rfl), fun LL Y1 nLL y1' eLL => ?_⟩⟩
        have y1 : Same Y Y1 := y1'
        have nLLp : LL ≠ p := fun z => by rw [z, hp5] at nLL; cases nLL
        refine ⟨_, rfl, p, r5, m, c5, 2, rfl, y1 _ _ hp5, by decide, by decide, c50, by omega, fun Y2 v6 r6 c6 g6 hp6 c60 c61 v60 v61 => ?_⟩
        have f46 : PF p H4 Y2 := (f5.trans (PF.of y1)).trans (PF.take g6)
        obtain ⟨nv, hnv, hat2⟩ : ∃ nv : Int, nv.natAbs ≤ 5 * 10 ^ 19 + (c0 + 1) ∧ atI ([.int (v0 + 1), .int v] : List V) v6 = some (.int nv) := by
          have h2 : v6 = 0 ∨ v6 = 1 := by omega
          rcases h2 with rfl | rfl
          · exact ⟨v0 + 1, by omega, rfl⟩
          · exact ⟨v, by omega, rfl⟩
        have eGY := f46 _ _ npG eG4
        refine ⟨LL, _, v6, _, rfl, rfl, SqL.of ((PF.take g6) _ _ nLLp eLL), hat2, _, rfl, _, rfl, G, _, rfl, DPut.k (k := kT (SX.S t)) eGY (lt_line (Nat.lt_of_le_of_lt glen (by decide))), ?_⟩
        rw [nums_putA]
        have kG : Keep Y2 (upd Y2 G (.dK (numsK (putA g t nv)))) := fun b ys e => by rw [upd_ne (fun z => by rw [z, eGY] at e; cases e)]; exact e
        refine hnx _ _ ⟨⟨putA g t nv, rc⟩, kvs, r6, c6, rfl, fun b u nb e => ?_, upd_same, by rw [upd_ne (Ne.symm nGR)]; exact f46 _ _ npR eR4, hK4.imp fun r v q => (q.keep (f46.keep hp4)).keep kG, hH.setg hin hnv (Nat.le_succ _), by rw [upd_ne (Ne.symm npG)]; exact hp6, c60, by omega⟩
        rw [upd_ne (fun z => by rw [z, nG] at e; cases e)]
        exact f46 b u nb (f4 b u nb e)
      · have nr : ¬ t ∈ rc.map (·.1) := hH.nds.2.2 t hin
        refine ⟨_, rfl, _, rfl, R, _, rfl, DGet.k (k := kT (SX.S t)) eR4, _, rfl, ?_⟩
        rw [recN hK4 nr]
        refine iteF (iteF ?_)
        refine ⟨_, rfl, _, rfl, R, _, rfl, DGet.k (k := kT (SX.S t)) eR4, _, rfl, ?_⟩
        rw [recN hK4 nr]
        refine iteF (iteF ?_)
        refine ⟨_, rfl, rfl, _, rfl, ?_⟩
        by_cases hk3 : kind = 3
        · refine if_true_eq (decide_eq_true (congrArg V.int hk3)) ?_
          refine ⟨_, rfl, _, _, rfl, rfl, _, rfl, ?_⟩
          refine ite2 (fun hat2 => ?_) (fun _ => hnx _ _ ⟨⟨g, rc⟩, kvs, r4, c4, rfl, f4, eG4, eR4, hK4, hH.up (Nat.le_succ _), hp4, c40, by omega⟩)
          refine in_seq (nx_post (fun σ Z => σ = [some (.ref u0), some (.ref L), some (.ref p), some (.ref G), some (.ref R), some (.int at'), some (.str (SX.S t)), some (.int kind)] ∧ Z G = some (.dK (numsK (dropR g t))) ∧ ∀ b u, b ≠ G → H4 b = some u → Z b = some u) (fun nx hnx => ?_) ?_)
          · refine ⟨_, rfl, G, rfl, .inl ⟨_, .inl eG4⟩, _, rfl, _, kT (SX.S t), eG4, rfl, fun v hv => ?_, fun hv => ?_⟩
            · exact hnx _ _ ⟨rfl, by rw [upd_same]; exact congrArg (fun z => some (HO.dK z)) (nums_dropS g t), fun b u n e => by rw [upd_ne n]; exact e⟩
            · refine hnx _ _ ⟨rfl, ?_, fun b u n e => e⟩
              have hng : dropR g t = g := List.filter_eq_self.mpr fun y hy => decide_eq_true fun z => by
                have hv' : valV (numsK g) (kT (SX.S t)) = none := hv
                rw [val_seen] at hv'
                have h3 : seen g t = none := by
                  cases e : seen g t with
                  | none => rfl
                  | some x => rw [e] at hv'; cases hv'
                exact seen_none h3 (List.mem_map.mpr ⟨y, hy, z⟩)
              rw [hng]
              exact eG4
          · rintro σ Z ⟨rfl, eGZ, fZ⟩
            have hpZ := fZ _ _ (Ne.symm npG) hp4
            have eRZ := fZ _ _ (Ne.symm nGR) eR4
            have nLG : L ≠ G := fun z => by rw [z, eG4] at eL4; cases eL4
            have eLZ := fZ _ _ nLG eL4
            have kZ : Keep H4 Z := fun b ys e => fZ b _ (fun z => by rw [z, eG4] at e; cases e) e
            refine in_nx ?_
            refine ⟨_, rfl, _, rfl, _, rfl, at', rfl, L, _, rfl, SqL.of eLZ, fun L1 Y nL1 y1' eL1 => ?_⟩
            have y1 : Same Z Y := y1'
            have eL1 : Y L1 = some (.lst (txs (ns.take i))) := by rw [← cut_toS, ← hi]; exact eL1
            refine ⟨p, L1, r4, m, c4, ns.take i, 2, rfl, by decide, by decide, y1 _ _ hpZ, c40, (by have h64 : (4 : Nat) ^ 2 ≤ 64 := (by decide); omega), eL1, (by rw [List.length_take, N.len]; omega), fun u hu => N.nm u (List.mem_of_mem_take hu), fun Y5 rv rr r5 c5 f5 hp5 c50 c51 M hrec => ?_⟩
            have fr5 : PF p Z Y5 := (PF.of y1).trans f5
            have eRY := fr5 _ _ npR eRZ
            refine ⟨_, rfl, _, rfl, R, _, rfl, DPut.k (k := kT (SX.S t)) eRY (lt_line (by omega)), ?_⟩
            have kR : Keep Y5 (upd Y5 R (.dK (putK kvs (kT (SX.S t)) rv))) := fun b ys e => by rw [upd_ne (fun z => by rw [z, eRY] at e; cases e)]; exact e
            refine hnx _ _ ⟨⟨dropR g t, putA rc t rr⟩, _, r5, c5, rfl, fun b u nb e => ?_, by rw [upd_ne nGR]; exact fr5 _ _ npG eGZ, upd_same, (KvR.put (a := rr) hrec (hK4.imp fun r v q => (q.keep kZ).keep (fr5.keep hpZ))).imp fun r v q => q.keep kR, (hH.toR N hi12 (by have h2 : at' > 2 := of_decide_eq_true hat2; omega) ht (M.up (by decide))).up (Nat.le_succ _), by rw [upd_ne (Ne.symm npR)]; exact hp5, c50, by omega⟩
            rw [upd_ne (fun z => by rw [z, nRH] at e; cases e)]
            exact fr5 b u nb (fZ b u (fun z => by rw [z, nG] at e; cases e) (f4 b u nb e))
        · refine if_false_eq (decide_eq_false fun z => hk3 (V.int.inj z)) ?_
          exact hnx _ _ ⟨⟨g, rc⟩, kvs, r4, c4, rfl, f4, eG4, eR4, hK4, hH.up (Nat.le_succ _), hp4, c40, by omega⟩
    | none =>
      refine iteF (iteF ?_)
      have hin : t ∈ rc.map (·.1) := (List.mem_append.mp (hH.all i hi12 t ht)).resolve_left (seen_none ev)
      obtain ⟨r2, rv2, e3, e4, _⟩ : ∃ a v, getA rc t = some a ∧ valV kvs (kT (SX.S t)) = some v ∧ Rec H4 a v := by
        rcases KvR.get (t := t) hK4 with ⟨e3, e4⟩ | h
        · obtain ⟨y, hy, e5⟩ := List.mem_map.mp hin
          have := getA_nd hH.nds.2.1 hy
          rw [e5, e3] at this
          cases this
        · exact h
      refine ⟨_, rfl, _, rfl, R, _, rfl, DGet.k (k := kT (SX.S t)) eR4, _, rfl, ?_⟩
      rw [e4]
      refine iteT ?_
      refine ⟨_, rfl, _, _, rfl, rfl, _, rfl, ?_⟩
      refine ite2 (fun _ => ?_) (fun hk => ?_)
      · have := hi
        refine ⟨_, rfl, _, rfl, _, rfl, at', rfl, L, _, rfl, SqL.of eL4, fun L1 Y nL1 y1' eL1 => ?_⟩
        have y1 : Same H4 Y := y1'
        have eL1 : Y L1 = some (.lst (txs (ns.take i))) := by rw [← cut_toS, ← hi]; exact eL1
        refine ⟨p, L1, r4, m, c4, ns.take i, 3, rfl, by decide, by decide, y1 _ _ hp4, c40, (by have h64 : (4 : Nat) ^ 3 ≤ 64 := (by decide); omega), eL1, (by rw [List.length_take, N.len]; omega), fun u hu => N.nm u (List.mem_of_mem_take hu), fun Y5 rv rr r5 c5 f5 hp5 c50 c51 M hrec => ?_⟩
        have fr5 : PF p H4 Y5 := (PF.of y1).trans f5
        have eRY := fr5 _ _ npR eR4
        refine ⟨_, rfl, _, rfl, R, _, rfl, DPut.k (k := kT (SX.S t)) eRY (lt_line (by omega)), ?_⟩
        have kR : Keep Y5 (upd Y5 R (.dK (putK kvs (kT (SX.S t)) rv))) := fun b ys e => by rw [upd_ne (fun z => by rw [z, eRY] at e; cases e)]; exact e
        refine hnx _ _ ⟨⟨g, putA rc t rr⟩, _, r5, c5, rfl, fun b u nb e => ?_, by rw [upd_ne nGR]; exact fr5 _ _ npG eG4, upd_same, (KvR.put (a := rr) hrec (hK4.imp fun r v q => q.keep (fr5.keep hp4))).imp fun r v q => q.keep kR, (hH.setr hin hi12 ht M).up (Nat.le_succ _), by rw [upd_ne (Ne.symm npR)]; exact hp5, c50, by omega⟩
        rw [upd_ne (fun z => by rw [z, nRH] at e; cases e)]
        exact fr5 b u nb (f4 b u nb e)
      · refine ⟨_, rfl, _, rfl, R, _, rfl, DGet.k (k := kT (SX.S t)) eR4, _, rfl, ?_⟩
        rw [e4]
        refine iteT ?_
        refine ⟨_, rfl, rfl, _, rfl, ?_⟩
        by_cases hk2 : kind = 2
        · refine if_true_eq (decide_eq_true (congrArg V.int hk2)) ?_
          refine in_seq ⟨_, rfl, p, r4, m, c4, rfl, hp4, c40, by omega, fun Y v r5 c5 f5 hp5 c50 c51 hv => ?_⟩
          have eGY := f5 _ _ npG eG4
          have eRY := f5 _ _ npR eR4
          refine ⟨_, rfl, _, rfl, G, _, rfl, DPut.k (k := kT (SX.S t)) eGY (lt_line (Nat.lt_of_le_of_lt glen (by decide))), ?_⟩
          rw [nums_putA]
          have kG : Keep Y (upd Y G (.dK (numsK (putA g t v)))) := fun b ys e => by rw [upd_ne (fun z => by rw [z, eGY] at e; cases e)]; exact e
          have eRY2 : upd Y G (.dK (numsK (putA g t v))) R = some (.dK kvs) := by rw [upd_ne (Ne.symm nGR)]; exact eRY
          refine in_nx ⟨_, rfl, R, rfl, .inl ⟨_, .inl eRY2⟩, _, rfl, _, kT (SX.S t), rv2, eRY2, rfl, e4, ?_⟩
          have kR : Keep (upd Y G (.dK (numsK (putA g t v)))) (upd (upd Y G (.dK (numsK (putA g t v)))) R (.dK (dropK kvs (kT (SX.S t))))) := fun b ys e => by rw [upd_ne (fun z => by rw [z, eRY2] at e; cases e)]; exact e
          refine hnx _ _ ⟨⟨putA g t v, dropR rc t⟩, _, r5, c5, rfl, fun b u nb e => ?_, by rw [upd_ne nGR]; exact upd_same, upd_same, (KvR.dropR t hK4).imp fun r v q => ((q.keep (f5.keep hp4)).keep kG).keep kR, (hH.toG hin (by omega)).up (Nat.le_succ _), by rw [upd_ne (Ne.symm npR), upd_ne (Ne.symm npG)]; exact hp5, c50, by omega⟩
          rw [upd_ne (fun z => by rw [z, nRH] at e; cases e), upd_ne (fun z => by rw [z, nG] at e; cases e)]
          exact f5 b u nb (f4 b u nb e)
        · refine if_false_eq (decide_eq_false fun z => hk2 (V.int.inj z)) ?_
          refine ⟨_, rfl, rfl, _, rfl, ?_⟩
          by_cases hk3 : kind = 3
          · refine if_true_eq (decide_eq_true (congrArg V.int hk3)) ?_
            refine ⟨_, rfl, _, _, rfl, rfl, _, rfl, ?_⟩
            refine ite2 (fun hat2 => ?_) (fun _ => hnx _ _ ⟨⟨g, rc⟩, kvs, r4, c4, rfl, f4, eG4, eR4, hK4, hH.up (Nat.le_succ _), hp4, c40, by omega⟩)
            refine in_seq (nx_post (fun σ Z => σ = [some (.ref u0), some (.ref L), some (.ref p), some (.ref G), some (.ref R), some (.int at'), some (.str (SX.S t)), some (.int kind)] ∧ Z G = some (.dK (numsK (dropR g t))) ∧ ∀ b u, b ≠ G → H4 b = some u → Z b = some u) (fun nx hnx => ?_) ?_)
            · refine ⟨_, rfl, G, rfl, .inl ⟨_, .inl eG4⟩, _, rfl, _, kT (SX.S t), eG4, rfl, fun v hv => ?_, fun hv => ?_⟩
              · exact hnx _ _ ⟨rfl, by rw [upd_same]; exact congrArg (fun z => some (HO.dK z)) (nums_dropS g t), fun b u n e => by rw [upd_ne n]; exact e⟩
              · refine hnx _ _ ⟨rfl, ?_, fun b u n e => e⟩
                have hng : dropR g t = g := List.filter_eq_self.mpr fun y hy => decide_eq_true fun z => by
                  have hv' : valV (numsK g) (kT (SX.S t)) = none := hv
                  rw [val_seen] at hv'
                  have h3 : seen g t = none := by
                    cases e : seen g t with
                    | none => rfl
                    | some x => rw [e] at hv'; cases hv'
                  exact seen_none h3 (List.mem_map.mpr ⟨y, hy, z⟩)
                rw [hng]
                exact eG4
            · rintro σ Z ⟨rfl, eGZ, fZ⟩
              have hpZ := fZ _ _ (Ne.symm npG) hp4
              have eRZ := fZ _ _ (Ne.symm nGR) eR4
              have nLG : L ≠ G := fun z => by rw [z, eG4] at eL4; cases eL4
              have eLZ := fZ _ _ nLG eL4
              have kZ : Keep H4 Z := fun b ys e => fZ b _ (fun z => by rw [z, eG4] at e; cases e) e
              refine in_nx ?_
              refine ⟨_, rfl, _, rfl, _, rfl, at', rfl, L, _, rfl, SqL.of eLZ, fun L1 Y nL1 y1' eL1 => ?_⟩
              have y1 : Same Z Y := y1'
              have eL1 : Y L1 = some (.lst (txs (ns.take i))) := by rw [← cut_toS, ← hi]; exact eL1
              refine ⟨p, L1, r4, m, c4, ns.take i, 2, rfl, by decide, by decide, y1 _ _ hpZ, c40, (by have h64 : (4 : Nat) ^ 2 ≤ 64 := (by decide); omega), eL1, (by rw [List.length_take, N.len]; omega), fun u hu => N.nm u (List.mem_of_mem_take hu), fun Y5 rv rr r5 c5 f5 hp5 c50 c51 M hrec => ?_⟩
              have fr5 : PF p Z Y5 := (PF.of y1).trans f5
              have eRY := fr5 _ _ npR eRZ
              refine ⟨_, rfl, _, rfl, R, _, rfl, DPut.k (k := kT (SX.S t)) eRY (lt_line (by omega)), ?_⟩
              have kR : Keep Y5 (upd Y5 R (.dK (putK kvs (kT (SX.S t)) rv))) := fun b ys e => by rw [upd_ne (fun z => by rw [z, eRY] at e; cases e)]; exact e
              refine hnx _ _ ⟨⟨dropR g t, putA rc t rr⟩, _, r5, c5, rfl, fun b u nb e => ?_, by rw [upd_ne nGR]; exact fr5 _ _ npG eGZ, upd_same, (KvR.put (a := rr) hrec (hK4.imp fun r v q => (q.keep kZ).keep (fr5.keep hpZ))).imp fun r v q => q.keep kR, (hH.toR N hi12 (by have h2 : at' > 2 := of_decide_eq_true hat2; omega) ht (M.up (by decide))).up (Nat.le_succ _), by rw [upd_ne (Ne.symm npR)]; exact hp5, c50, by omega⟩
              rw [upd_ne (fun z => by rw [z, nRH] at e; cases e)]
              exact fr5 b u nb (fZ b u (fun z => by rw [z, nG] at e; cases e) (f4 b u nb e))
          · refine if_false_eq (decide_eq_false fun z => hk3 (V.int.inj z)) ?_
            exact hnx _ _ ⟨⟨g, rc⟩, kvs, r4, c4, rfl, f4, eG4, eR4, hK4, hH.up (Nat.le_succ _), hp4, c40, by omega⟩
  rintro σ Y ⟨h', kv, r', c', rfl, fY, eGY, eRY, hKY, hHY, hpY, c0', c1'⟩
  refine in_nx ⟨_, rfl, _, rfl, le_line (Nat.le_of_ble_eq_true rfl), fun U X2 nU x2' eU => ?_⟩
  have x2 : Same Y X2 := x2'
  have nUp : U ≠ p := fun z => by rw [z, hpY] at nU; cases nU
  have nUH : H U = none := by
    cases eU0 : H U with
    | none => rfl
    | some u => rw [fY U u nUp eU0] at nU; cases nU
  exact q U G R h' kv r' c' X2 (fY.trans (PF.of x2)) nUH nG nRH nGR eU (x2 _ _ eGY) (x2 _ _ eRY) (hKY.imp fun r v q => q.same x2) hHY (x2 _ _ hpY) c0' c1'
end
/-! ### wishes drawn, houses copied -/
open LamX NdefX
def InD (ns ts : List (List Nat)) : Prop := ∀ t ∈ ts, ∃ k, k < 12 ∧ ns[k]? = some t
def spWishesS : Sp := fun vs H Q _ => ∃ (p L : Addr) (ns : List (List Nat)) (r : Int) (m : Bool) (c : Int), vs = [.ref p, .ref L] ∧ H L = some (.lst (txs ns)) ∧ NmD ns ∧ H p = some (.dK (dst r m c)) ∧ 0 ≤ c ∧ c ≤ 90000 ∧
  ∀ (W : Addr) (ts : List (List Nat)) (r' c' : Int) (H' : Hp), PF p H H' → H W = none → H' W = some (.lst (txs ts)) → InD ns ts → ts.length ≤ 12 → H' p = some (.dK (dst r' m c')) → 0 ≤ c' → c' ≤ c + 20 → Q (.ref W) H'
section
variable {P : Program} {w : World} {K : PySem.W.Frag} {mg : Str → Option Value} {base : Heap}
abbrev s__law_wishes : Stmt := topS 26
abbrev N__law_wishes : List Str := ["state", "names", "many", "k"]
theorem sc__law_wishes : FnScope N__law_wishes ["state", "names"] (defScope s__law_wishes) := ⟨rfl, rfl, rfl, by decide +kernel, rfl, by decide +kernel, by decide +kernel⟩

theorem ok__law_wishesS (T : Txt K mg) (D : IsDef K mg "_law_wishes" s__law_wishes ["state", "names"]) (C__law_draw : Cal P w K mg base CX0 1 "_law_draw" ["state", "many"] spDraw) : Cal P w K mg base CX0 2 "_law_wishes" ["state", "names"] spWishesS := by
  refine D.cal sc__law_wishes (fun vs H Q E h => ?_) (fun f cdv A outer s H vs Q E hr h => ?_)
  · obtain ⟨_, _, _, _, _, _, rfl, _⟩ := h
    rfl
  obtain ⟨p, L, ns, r, m, c, rfl, hL, N, hp, c0, c1, q⟩ := h
  refine ⟨_, (pss_cons (ps_set (i := 2) sc__law_wishes.nd rfl (Or.inl rfl) (pe_ix (r := rIxL K) ix_list (pe_lstA (pa_cons (pe_cal C__law_draw (hr.mono (by first | decide | omega)) pass0 (pa_cons (pv 0) (pa_cons pe_int pa_nil))) (pa_cons (pe_cal C__law_draw (hr.mono (by first | decide | omega)) pass0 (pa_cons (pv 0) (pa_cons pe_int pa_nil))) pa_nil))) (pe_cal C__law_draw (hr.mono (by first | decide | omega)) pass0 (pa_cons (pv 0) (pa_cons pe_int pa_nil))) (fun _ _ => rfl)))
      (pss_one (ps_ret (pe_lc (own := [("k", 3)]) (g := gName 3)  (by rfl) sc__law_wishes.nd  (pi_range1 rfl T.b_range (pa_cons (pv 2) pa_nil)) (blkOk_by (own := [("k", 3)]) (N := N__law_wishes) (sc := defScope s__law_wishes) (by decide +kernel)) (fun _ _ _ _ _ => (pg_name (i := 3) sc__law_wishes.nd rfl (Or.inl rfl))) (fun _ _ _ _ _ => pts_nil) (fun _ _ _ _ _ => (pe_ix (r := rIxL K) ix_list (pv 1) (pe_cal C__law_draw (hr.mono (by first | decide | omega)) pass0 (pa_cons (pv 0) (pa_cons pe_int pa_nil))) (fun _ _ => rfl))))))), ?_⟩
  have nLp : L ≠ p := fun z => by rw [z, hp] at hL; cases hL
  refine ⟨_, rfl, p, r, m, c, 5, rfl, hp, by decide, by decide, c0, by omega, fun H1 v1 r1 k1 g1 hp1 k10 k11 v10 v11 => ?_⟩
  refine ⟨_, rfl, p, r1, m, k1, 13, rfl, hp1, by decide, by decide, k10, by omega, fun H2 v2 r2 k2 g2 hp2 k20 k21 v20 v21 => ?_⟩
  refine ⟨le_line (Nat.le_of_ble_eq_true rfl), fun LL H3 nLL s3' eLL => ?_⟩
  have s3 : Same H2 H3 := s3'
  have nLLp : LL ≠ p := fun z => by rw [z, hp2] at nLL; cases nLL
  refine ⟨_, rfl, p, r2, m, k2, 2, rfl, s3 _ _ hp2, by decide, by decide, k20, by omega, fun H4 v4 r4 k4 g4 hp4 k40 k41 v40 v41 => ?_⟩
  have f4 : PF p H H4 := (((PF.take g1).trans (PF.take g2)).trans (PF.of s3)).trans (PF.take g4)
  obtain ⟨many, hm, hat⟩ : ∃ many : Nat, many ≤ 12 ∧ atI ([.int v1, .int v2] : List V) v4 = some (.int (many : Int)) := by
    have h2 : v4 = 0 ∨ v4 = 1 := by omega
    rcases h2 with rfl | rfl
    · exact ⟨v1.toNat, by omega, by rw [show ((v1.toNat : Nat) : Int) = v1 by omega]; rfl⟩
    · exact ⟨v2.toNat, by omega, by rw [show ((v2.toNat : Nat) : Int) = v2 by omega]; rfl⟩
  refine ⟨LL, _, v4, _, rfl, rfl, SqL.of ((PF.take g4) _ _ nLLp eLL), hat, ?_⟩
  refine in_name rfl ?_
  have hL4 := f4 _ _ nLp hL
  refine in_nx ⟨_, rfl, (many : Int), rfl, by omega, by omega, fun D nD => ?_⟩
  have nDp : D ≠ p := fun z => by rw [z, hp4] at nD; cases nD
  have nLD : L ≠ D := fun z => by rw [← z, hL4] at nD; cases nD
  have nDH : H D = none := by
    cases eD : H D with
    | none => rfl
    | some u => rw [f4 D u nDp eD] at nD; cases nD
  refine lc_range (lo := 0) (n := ((many : Nat) : Int).toNat) (fun j Y => ∃ (rj cj : Int) (ss : List (List Nat)), (∀ b u, b ≠ p → b ≠ D → H4 b = some u → Y b = some u) ∧ Y p = some (.dK (dst rj m cj)) ∧ 0 ≤ cj ∧ cj ≤ k4 + j ∧ Y D = some (.lst (txs ss)) ∧ ss.length = j ∧ InD ns ss)
    ⟨r4, k4, [], fun b u _ nb e => by rw [upd_ne nb]; exact e, by rw [upd_ne (Ne.symm nDp)]; exact hp4, k40, by omega, upd_same, rfl, fun _ h => nomatch h⟩ ?_ ?_
  · rintro j Y hj ⟨rj, cj, ss, fZ, hpZ, cj0, cj1, eZ, sl, sn⟩
    have hLZ := fZ L _ nLp nLD hL4
    refine ⟨rfl, _, rfl, _, rfl, p, rj, m, cj, 12, rfl, hpZ, by decide, by decide, cj0, by omega, fun Z2 v5 r5 k5 g5 hp5 k50 k51 v50 v51 => ?_⟩
    have eZ2 : Z2 D = some (.lst (txs ss)) := PF.take g5 D _ nDp eZ
    obtain ⟨i, hi⟩ : ∃ i : Nat, v5 = (i : Int) := ⟨v5.toNat, by omega⟩
    obtain ⟨u, hu⟩ : ∃ t, ns[i]? = some t := ⟨_, List.getElem?_eq_getElem (by rw [N.len]; omega)⟩
    refine ⟨L, _, v5, _, rfl, rfl, SqL.of ((PF.take g5).lst hpZ hLZ), by rw [hi]; exact txs_atS hu, _, eZ2, lt_line (by rw [txs_len]; omega), ?_⟩
    rw [txs_snoc]
    refine ⟨r5, k5, ss ++ [u], fun b x nb nb2 e => by rw [upd_ne nb2]; exact PF.take g5 b x nb (fZ b x nb nb2 e), by rw [upd_ne (Ne.symm nDp)]; exact hp5, k50, by omega, upd_same, by rw [List.length_append, sl]; rfl, fun x hx => ?_⟩
    rcases List.mem_append.mp hx with hx | hx
    · exact sn x hx
    · rw [List.mem_singleton.mp hx]; exact ⟨i, by omega, hu⟩
  · rintro Y ⟨rj, cj, ss, fZ, hpZ, cj0, cj1, eZ, sl, sn⟩
    exact q D ss rj cj Y (fun b u nb e => fZ b u nb (fun z => by rw [z, nDH] at e; cases e) (f4 b u nb e)) nDH eZ sn (by omega) hpZ cj0 (by omega)
end
/-! ### a recipe reckoned with what is known, by a dict -/
open LamX NdefX
def rkD (own : List Pr) : Rcp → Out
  | .num v => .worth v
  | .read t => match seen own t with
    | some v => .worth v
    | none => .read t
  | .two k a b => match rkD own a with
    | .worth x => match rkD own b with
      | .worth y => .worth (k.ap x y)
      | o => o
    | o => o
  | .pick a b c => match rkD own a with
    | .worth x => if x > 0 then rkD own b else rkD own c
    | o => o
  | .choose a ns => match rkD own a with
    | .worth x => match seen own (nthN ns x) with
      | some v => .worth v
      | none => .read (nthN ns x)
    | o => o
section
variable {own : List Pr}
theorem rkD_ok (nd : (own.map (·.1)).Nodup) : ∀ {r : Rcp} {n m : Nat} {v : Int}, n ≤ own.length → go own r n = .ok v m → rkD own r = .worth v
  | .num w, n, m, v, hn, h => by cases h; rfl
  | .read u, n, m, v, hn, h => by
    obtain ⟨_, _, h⟩ := lookG_ok hn h
    unfold rkD
    rw [seen_in nd h]
  | .two k a b, n, m, v, hn, h => by
    obtain ⟨x, l, ha, h2⟩ := bind_ok h
    obtain ⟨y, l2, hb, h3⟩ := bind_ok h2
    cases h3
    have hl := (go_more ([], 0) hn ha).2
    unfold rkD
    rw [rkD_ok nd hn ha]
    simp only [rkD_ok nd hl hb]
  | .pick a b c, n, m, v, hn, h => by
    obtain ⟨x, l, ha, h2⟩ := bind_ok h
    have hl := (go_more ([], 0) hn ha).2
    unfold rkD
    rw [rkD_ok nd hn ha]
    by_cases c0 : x > 0
    · simp only [if_pos c0] at h2 ⊢
      exact rkD_ok nd hl h2
    · simp only [if_neg c0] at h2 ⊢
      exact rkD_ok nd hl h2
  | .choose a ns, n, m, v, hn, h => by
    obtain ⟨x, l, ha, h2⟩ := bind_ok h
    have hl := (go_more ([], 0) hn ha).2
    obtain ⟨_, _, h3⟩ := lookG_ok hl h2
    unfold rkD
    rw [rkD_ok nd hn ha]
    simp only [seen_in nd h3]
theorem rkD_lack (nd : (own.map (·.1)).Nodup) : ∀ {r : Rcp} {n : Nat} {u : List Nat}, n ≤ own.length → go own r n = .lack u → rkD own r = .read u
  | .num w, n, u, hn, h => by cases h
  | .read t, n, u, hn, h => by
    obtain ⟨_, e, h3⟩ := lookG_lack (s := t) hn h
    unfold rkD
    rw [h3, e]
  | .two k a b, n, u, hn, h => by
    rcases bind_lack h with ha | ⟨x, l, ha, h2⟩
    · unfold rkD
      rw [rkD_lack nd hn ha]
    · have hl := (go_more ([], 0) hn ha).2
      rcases bind_lack h2 with hb | ⟨y, l2, hb, h3⟩
      · unfold rkD
        rw [rkD_ok nd hn ha]
        simp only [rkD_lack nd hl hb]
      · cases h3
  | .pick a b c, n, u, hn, h => by
    rcases bind_lack h with ha | ⟨x, l, ha, h2⟩
    · unfold rkD
      rw [rkD_lack nd hn ha]
    · have hl := (go_more ([], 0) hn ha).2
      unfold rkD
      rw [rkD_ok nd hn ha]
      by_cases c0 : x > 0
      · simp only [if_pos c0] at h2 ⊢
        exact rkD_lack nd hl h2
      · simp only [if_neg c0] at h2 ⊢
        exact rkD_lack nd hl h2
  | .choose a ns, n, u, hn, h => by
    rcases bind_lack h with ha | ⟨x, l, ha, h2⟩
    · unfold rkD
      rw [rkD_lack nd hn ha]
    · have hl := (go_more ([], 0) hn ha).2
      obtain ⟨_, e, h3⟩ := lookG_lack hl h2
      unfold rkD
      rw [rkD_ok nd hn ha]
      simp only [h3, e]
      rw [← e, h3]
theorem rkD_out (nd : (own.map (·.1)).Nodup) {r : Rcp} (h : outOf own r ≠ .none) : rkD own r = outOf own r := by
  unfold outOf at h ⊢
  cases e : go own r 0 with
  | ok v n =>
    rw [e] at h
    simp only at h ⊢
    by_cases c : n < own.length
    · simp only [if_pos c] at h
      exact absurd rfl h
    · rw [if_neg c]
      exact rkD_ok nd (Nat.zero_le _) e
  | lack u => exact rkD_lack nd (Nat.zero_le _) e
  | bad => rw [e] at h; exact absurd rfl h
theorem rkD_small (hs : ∀ p ∈ own, p.2.natAbs < 2 ^ 400) : ∀ {r : Rcp} {v : Int}, r.Wn → rkD own r = .worth v → v.natAbs < 2 ^ r.bitV (fun _ => 400)
  | .num n, v, _, h => by cases h; exact Nat.lt_log2_self
  | .read t, v, _, h => by
    unfold rkD at h
    cases e : seen own t with
    | none => rw [e] at h; cases h
    | some x => rw [e] at h; cases h; exact hs _ (seen_mem e)
  | .two k a b, v, w, h => by
    unfold rkD at h
    cases ea : rkD own a with
    | worth x =>
      rw [ea] at h
      cases eb : rkD own b with
      | worth y =>
        simp only [eb] at h
        cases h
        exact apV (rkD_small hs w.1 ea) (rkD_small hs w.2 eb)
      | read u => simp only [eb] at h; cases h
      | none => simp only [eb] at h; cases h
    | read u => rw [ea] at h; cases h
    | none => rw [ea] at h; cases h
  | .pick a b c, v, w, h => by
    unfold rkD at h
    cases ea : rkD own a with
    | worth x =>
      rw [ea] at h
      by_cases c0 : x > 0
      · simp only [if_pos c0] at h
        exact pow_mono (rkD_small hs w.2.1 h) (by simp only [Rcp.bitV]; omega)
      · simp only [if_neg c0] at h
        exact pow_mono (rkD_small hs w.2.2 h) (by simp only [Rcp.bitV]; omega)
    | read u => rw [ea] at h; cases h
    | none => rw [ea] at h; cases h
  | .choose a ns, v, w, h => by
    unfold rkD at h
    cases ea : rkD own a with
    | worth x =>
      rw [ea] at h
      obtain ⟨i, _, hi⟩ := nth_mem w.2.1 x
      have := maxN_ge (List.mem_map.mpr ⟨_, List.mem_of_getElem? hi, rfl⟩ : (fun _ => 400) (nthN ns x) ∈ ns.map (fun _ => 400))
      cases e : seen own (nthN ns x) with
      | none => simp only [e] at h; cases h
      | some y =>
        simp only [e] at h
        cases h
        exact pow_mono (hs _ (seen_mem e)) (by simp only [Rcp.bitV]; omega)
    | read u => rw [ea] at h; cases h
    | none => rw [ea] at h; cases h
end
/-- a tuple told: a worth, or the name that lacks -/
def ToldS (H : Hp) (T : Addr) : Out → Prop
  | .worth v => H T = some (.tup [.str "worth", .int v])
  | .read u => H T = some (.tup [.str "read", .str (SX.S u)])
  | .none => False
def bothK (a b : Int) : List (Key × V) := [(kT "plus", .int (a + b)), (kT "minus", .int (a - b)), (kT "times", .int (a * b))]
theorem merge_both (a b : Int) : mergeK [] (bothK a b) = bothK a b := by
  have h1 : decide (kT "plus" = kT "minus") = false := by decide +kernel
  have h2 : decide (kT "plus" = kT "times") = false := by decide +kernel
  have h3 : decide (kT "minus" = kT "times") = false := by decide +kernel
  simp only [mergeK, bothK, List.foldl_cons, List.foldl_nil, putK, List.any_nil, List.any_cons, List.nil_append, List.cons_append, h1, h2, h3, Bool.or_false, if_neg Bool.false_ne_true]
theorem val_both (k : Kd) (a b : Int) : (valV (bothK a b) (kT k.name)).getD (.int (if b > a then b else a)) = .int (k.ap a b) := by
  have h1 : decide (kT "plus" = kT "minus") = false := by decide +kernel
  have h2 : decide (kT "plus" = kT "times") = false := by decide +kernel
  have h3 : decide (kT "minus" = kT "times") = false := by decide +kernel
  have h4 : decide (kT "minus" = kT "minus") = true := by decide +kernel
  have h5 : decide (kT "times" = kT "times") = true := by decide +kernel
  have m1 : decide (kT "plus" = kT "most") = false := by decide +kernel
  have m2 : decide (kT "minus" = kT "most") = false := by decide +kernel
  have m3 : decide (kT "times" = kT "most") = false := by decide +kernel
  cases k with
  | plus => rfl
  | minus =>
    show (valV (bothK a b) (kT "minus")).getD _ = _
    simp only [valV, bothK, List.find?_cons, h1, h4, Option.map_some]
    rfl
  | times =>
    show (valV (bothK a b) (kT "times")).getD _ = _
    simp only [valV, bothK, List.find?_cons, h2, h3, h5, Option.map_some]
    rfl
  | most =>
    show (valV (bothK a b) (kT "most")).getD _ = _
    simp only [valV, bothK, List.find?_cons, List.find?_nil, m1, m2, m3, Option.map_none]
    rfl
def spReck (n : Nat) : Sp := fun vs H Q _ => ∃ (rv : V) (oD : Addr) (r : Rcp) (own : List Pr), vs = [rv, .ref oD] ∧ Rec H r rv ∧ H oD = some (.dK (numsK own)) ∧ r.dep ≤ n ∧ r.Wn ∧ r.bitA (fun _ => 400) ≤ 1000000 ∧ (∀ p ∈ own, p.2.natAbs < 2 ^ 400) ∧ rkD own r ≠ .none ∧
  ∀ (T : Addr) (H' : Hp), Same H H' → ToldS H' T (rkD own r) → Q (.ref T) H'
section
variable {P : Program} {w : World} {K : PySem.W.Frag} {mg : Str → Option Value} {base : Heap}
abbrev s__law_reckoned : Stmt := topS 27
abbrev N__law_reckoned : List Str := ["recipe", "known", "kind", "one", "other", "both"]
theorem sc__law_reckoned : FnScope N__law_reckoned ["recipe", "known"] (defScope s__law_reckoned) := ⟨rfl, rfl, rfl, by decide +kernel, rfl, by decide +kernel, by decide +kernel⟩

theorem ok__law_reckonedS (T : Txt K mg) (D : IsDef K mg "_law_reckoned" s__law_reckoned ["recipe", "known"]) : ∀ n, Cal P w K mg base CX0 n "_law_reckoned" ["recipe", "known"] (spReck n)
  | 0 => cal_none D fun vs H Q E h => by
    obtain ⟨_, _, r, _, _, _, _, hd, _⟩ := h
    have := dep_pos r
    omega
  | n + 1 => by
    have C__law_reckoned := ok__law_reckonedS T D n
    refine D.cal (k := n) sc__law_reckoned (fun vs H Q E h => ?_) (fun f cdv A outer s H vs Q E hr h => ?_)
    · obtain ⟨_, _, _, _, rfl, _⟩ := h
      rfl
    obtain ⟨rv, oD, r, own, rfl, hRc, hO, hd, hw, hb, hs, hne, q⟩ := h
    have hu : (cxOf CX0 P w K mg base N__law_reckoned "_law_reckoned" (defScope s__law_reckoned) f cdv A outer s H E).nox.A.units + 1 < cLine := Nat.lt_of_le_of_lt (Nat.add_le_add_left (by decide : 1 ≤ 64) _) hr.units
    have le : ∀ n : Nat, n ≤ 100 → n ≤ sizeLine := fun n h => le_line (Nat.le_trans h (by decide))
    have sne : ∀ {a b : Str}, a ≠ b → ¬ V.str a = V.str b := fun h z => h (V.str.inj z)
    refine ⟨_, (pss_cons (ps_set (i := 2) sc__law_reckoned.nd rfl (Or.inl rfl) (pe_ix (r := rIxT K) ix_tup (pv 0) pe_int (fun _ _ => rfl)))
      (pss_cons (ps_if (pt_cmpR op_eq (pv 2) pe_str (nomark _))
        (pss_one (ps_ret (pe_tupA (pa_cons pe_str (pa_cons (pe_ix (r := rIxT K) ix_tup (pv 0) pe_int (fun _ _ => rfl)) pa_nil)))))
        pss_nil)
      (pss_cons (ps_if (pt_cmpR op_eq (pv 2) pe_str (nomark _))
        (pss_cons (ps_if (pt_cmp (pc_din hu (pe_ix (r := rIxT K) ix_tup (pv 0) pe_int (fun _ _ => rfl)) (pv 1)))
        (pss_one (ps_ret (pe_tupA (pa_cons pe_str (pa_cons (pe_dget hu (pv 1) (pe_ix (r := rIxT K) ix_tup (pv 0) pe_int (fun _ _ => rfl)) (fun _ _ => rfl)) pa_nil)))))
        pss_nil)
      (pss_one (ps_ret (pv 0))))
        pss_nil)
      (pss_cons (ps_set (i := 3) sc__law_reckoned.nd rfl (Or.inl rfl) (pe_cal C__law_reckoned (hr.mono (by first | decide | omega)) pass0 (pa_cons (pe_ix (r := rIxT K) ix_tup (pv 0) pe_int (fun _ _ => rfl)) (pa_cons (pv 1) pa_nil))))
      (pss_cons (ps_if (pt_cmpR op_eq (pe_ix (r := rIxT K) ix_tup (pv 3) pe_int (fun _ _ => rfl)) pe_str (nomark _))
        (pss_one (ps_ret (pv 3)))
        pss_nil)
      (pss_cons (ps_if (pt_cmpR op_eq (pv 2) pe_str (nomark _))
        (pss_one (ps_ret (pe_cal C__law_reckoned (hr.mono (by first | decide | omega)) pass0 (pa_cons (pe_tupA (pa_cons pe_str (pa_cons (pe_ix (r := rIxT K) ix_tup (pe_ix (r := rIxT K) ix_tup (pv 0) pe_int (fun _ _ => rfl)) (pe_op op_mod (pe_ix (r := rIxT K) ix_tup (pv 3) pe_int (fun _ _ => rfl)) (pe_callB call_len_seq (by rfl) T.b_len PySem.boot_len (pa_cons (pe_ix (r := rIxT K) ix_tup (pv 0) pe_int (fun _ _ => rfl)) pa_nil))) (fun _ _ => rfl)) pa_nil))) (pa_cons (pv 1) pa_nil)))))
        pss_nil)
      (pss_cons (ps_if (pt_cmpR op_eq (pv 2) pe_str (nomark _))
        (pss_one (ps_ret (pe_cal C__law_reckoned (hr.mono (by first | decide | omega)) pass0 (pa_cons (pe_ix (r := rIxT K) ix_tup (pv 0) (pe_op op_add pe_int (pe_callTy call_int1 (by rfl) T.b_int (by decide +kernel) (pa_cons (pe_cmpR op_le (pe_ix (r := rIxT K) ix_tup (pv 3) pe_int (fun _ _ => rfl)) pe_int (nomark _)) pa_nil))) (fun _ _ => rfl)) (pa_cons (pv 1) pa_nil)))))
        pss_nil)
      (pss_cons (ps_set (i := 4) sc__law_reckoned.nd rfl (Or.inl rfl) (pe_cal C__law_reckoned (hr.mono (by first | decide | omega)) pass0 (pa_cons (pe_ix (r := rIxT K) ix_tup (pv 0) pe_int (fun _ _ => rfl)) (pa_cons (pv 1) pa_nil))))
      (pss_cons (ps_if (pt_cmpR op_eq (pe_ix (r := rIxT K) ix_tup (pv 4) pe_int (fun _ _ => rfl)) pe_str (nomark _))
        (pss_one (ps_ret (pv 4)))
        pss_nil)
      (pss_cons (ps_set (i := 5) sc__law_reckoned.nd rfl (Or.inl rfl) (pe_disp (pps_cons pe_str (pe_op op_add (pe_ix (r := rIxT K) ix_tup (pv 3) pe_int (fun _ _ => rfl)) (pe_ix (r := rIxT K) ix_tup (pv 4) pe_int (fun _ _ => rfl))) (pps_cons pe_str (pe_op op_sub (pe_ix (r := rIxT K) ix_tup (pv 3) pe_int (fun _ _ => rfl)) (pe_ix (r := rIxT K) ix_tup (pv 4) pe_int (fun _ _ => rfl))) (pps_cons pe_str (pe_op op_mulW (pe_ix (r := rIxT K) ix_tup (pv 3) pe_int (fun _ _ => rfl)) (pe_ix (r := rIxT K) ix_tup (pv 4) pe_int (fun _ _ => rfl))) pps_nil))) (by rfl) (by rfl) (fun z => by cases z) (by decide)))
      (pss_one (ps_ret (pe_tupA (pa_cons pe_str (pa_cons (pe_dget2 hu (pv 5) (pv 2) (pe_callB (call_max2 rfl) (by rfl) T.b_max (by decide +kernel) (pa_cons (pe_ix (r := rIxT K) ix_tup (pv 3) pe_int (fun _ _ => rfl)) (pa_cons (pe_ix (r := rIxT K) ix_tup (pv 4) pe_int (fun _ _ => rfl)) pa_nil))) ⟨rfl, rfl, rfl, rfl⟩) pa_nil))))))))))))))), ?_⟩
    cases r with
    | num v =>
      obtain ⟨p, rfl, hp⟩ := hRc
      refine ⟨_, rfl, p, _, _, _, rfl, rfl, SqT.of hp, rfl, ?_⟩
      refine in_name rfl ?_
      refine in_nx (in_seq ⟨_, rfl, rfl, _, rfl, iteY rfl ?_⟩)
      exact ⟨_, rfl, p, _, _, _, rfl, rfl, SqT.of hp, rfl, le 2 (by decide), fun T1 H1 nT s1 eT => q T1 H1 s1 eT⟩
    | read t =>
      obtain ⟨p, rfl, hp⟩ := hRc
      refine ⟨_, rfl, p, _, _, _, rfl, rfl, SqT.of hp, rfl, ?_⟩
      refine in_name rfl ?_
      refine in_nx (in_seq ⟨_, rfl, rfl, _, rfl, iteN (sne (by decide +kernel)) ?_⟩)
      refine in_nx (in_seq ⟨_, rfl, rfl, _, rfl, iteY rfl ?_⟩)
      refine in_seq ⟨_, rfl, p, _, _, _, rfl, rfl, SqT.of hp, rfl, _, rfl, oD, _, rfl, DGet.k (k := kT (SX.S t)) hO, _, rfl, ?_⟩
      rw [val_seen]
      cases ev : seen own t with
      | some v0 =>
        have er : rkD own (.read t) = .worth v0 := by unfold rkD; rw [ev]
        rw [er] at q
        have hget : DGet H oD (.str (SX.S t)) (some (.int v0)) := (show valV (numsK own) (kT (SX.S t)) = some (.int v0) by rw [val_seen, ev]; rfl) ▸ DGet.k (k := kT (SX.S t)) hO
        refine iteT ?_
        exact ⟨_, rfl, _, rfl, p, _, _, _, rfl, rfl, SqT.of hp, rfl, oD, _, rfl, hget, le 2 (by decide), fun T1 H1 nT s1 eT => q T1 H1 s1 eT⟩
      | none =>
        have er : rkD own (.read t) = .read t := by unfold rkD; rw [ev]
        rw [er] at q
        refine iteF ?_
        exact in_nx ⟨_, rfl, q p H (fun _ _ e => e) hp⟩
    | two k x y =>
      obtain ⟨p, vx, vy, rfl, hp, hx, hy⟩ := hRc
      have hd2 : x.dep ≤ n ∧ y.dep ≤ n := by
        have e : (Rcp.two k x y).dep = max x.dep y.dep + 1 := rfl
        omega
      have hb2 : max (x.bitV (fun _ => 400) + y.bitV (fun _ => 400)) (max (x.bitA (fun _ => 400)) (y.bitA (fun _ => 400))) ≤ 1000000 := hb
      have nx : rkD own x ≠ .none := fun z => hne (by show (match rkD own x with | .worth x => _ | o => o) = _; rw [z])
      refine ⟨_, rfl, p, _, _, _, rfl, rfl, SqT.of hp, rfl, ?_⟩
      refine in_name rfl ?_
      refine in_nx (in_seq ⟨_, rfl, rfl, _, rfl, iteN (by cases k <;> exact sne (by decide +kernel)) ?_⟩)
      refine in_nx (in_seq ⟨_, rfl, rfl, _, rfl, iteN (by cases k <;> exact sne (by decide +kernel)) ?_⟩)
      refine in_nx (in_seq (in_asg ⟨_, rfl, p, _, _, _, rfl, rfl, SqT.of hp, rfl, _, rfl, vx, oD, x, own, rfl, hx, hO, hd2.1, hw.1, by omega, hs, nx, fun T1 H1 s1 t1 => ?_⟩))
      refine in_name rfl ?_
      have hp1 := s1 _ _ hp
      have hO1 := s1 _ _ hO
      have hy1 := hy.keep (same_keep s1)
      cases e1 : rkD own x with
      | none => exact absurd e1 nx
      | read u =>
        rw [e1] at t1
        have er : rkD own (.two k x y) = .read u := by unfold rkD; rw [e1]
        rw [er] at q
        refine in_nx (in_seq ⟨_, rfl, T1, _, _, _, rfl, rfl, SqT.of t1, rfl, rfl, _, rfl, iteY rfl ?_⟩)
        exact ⟨_, rfl, q T1 H1 s1 t1⟩
      | worth a =>
        rw [e1] at t1
        have t1 : H1 T1 = some (.tup [.str "worth", .int a]) := t1
        refine in_nx (in_seq ⟨_, rfl, T1, _, _, _, rfl, rfl, SqT.of t1, rfl, rfl, _, rfl, iteN (sne (by decide +kernel)) ?_⟩)
        refine in_nx (in_seq ⟨_, rfl, rfl, _, rfl, iteN (by cases k <;> exact sne (by decide +kernel)) ?_⟩)
        refine in_nx (in_seq ⟨_, rfl, rfl, _, rfl, iteN (by cases k <;> exact sne (by decide +kernel)) ?_⟩)
        have ny : rkD own y ≠ .none := fun z => hne (by show (match rkD own x with | .worth x => (match rkD own y with | .worth y => _ | o => o) | o => o) = _; rw [e1]; simp only [z])
        refine in_nx (in_seq (in_asg ⟨_, rfl, p, _, _, _, rfl, rfl, SqT.of hp1, rfl, _, rfl, vy, oD, y, own, rfl, hy1, hO1, hd2.2, hw.2, by omega, hs, ny, fun T2 H2 s2 t2 => ?_⟩))
        refine in_name rfl ?_
        have t1b := s2 _ _ t1
        cases e2 : rkD own y with
        | none => exact absurd e2 ny
        | read u =>
          rw [e2] at t2
          have er : rkD own (.two k x y) = .read u := by unfold rkD; rw [e1]; simp only [e2]
          rw [er] at q
          refine in_nx (in_seq ⟨_, rfl, T2, _, _, _, rfl, rfl, SqT.of t2, rfl, rfl, _, rfl, iteY rfl ?_⟩)
          exact ⟨_, rfl, q T2 H2 (s1.trans s2) t2⟩
        | worth b =>
          rw [e2] at t2
          have t2 : H2 T2 = some (.tup [.str "worth", .int b]) := t2
          have er : rkD own (.two k x y) = .worth (k.ap a b) := by unfold rkD; rw [e1]; simp only [e2]
          rw [er] at q
          refine in_nx (in_seq ⟨_, rfl, T2, _, _, _, rfl, rfl, SqT.of t2, rfl, rfl, _, rfl, iteN (sne (by decide +kernel)) ?_⟩)
          refine in_nx (in_seq (in_asg fun B nB => ?_))
          have sB := same_new nB (.dK [])
          have eB : upd H2 B (.dK []) B = some (.dK []) := upd_same
          have eB2 : ∀ u, upd (upd H2 B (.dK [])) B u = upd H2 B u := fun u => upd_upd
          have t1c := sB _ _ t1b
          have t2c := sB _ _ t2
          refine ⟨_, rfl, T1, _, _, _, rfl, rfl, SqT.of t1c, rfl, _, rfl, T2, _, _, _, rfl, rfl, SqT.of t2c, rfl, _, _, rfl, rfl, ?_⟩
          refine ⟨_, rfl, T1, _, _, _, rfl, rfl, SqT.of t1c, rfl, _, rfl, T2, _, _, _, rfl, rfl, SqT.of t2c, rfl, _, _, rfl, rfl, ?_⟩
          refine ⟨_, rfl, T1, _, _, _, rfl, rfl, SqT.of t1c, rfl, _, rfl, T2, _, _, _, rfl, rfl, SqT.of t2c, rfl, _, _, rfl, rfl, wide_mul (rkD_small hs hw.1 e1) (rkD_small hs hw.2 e2) (bitV_pos (fun _ => by decide) hw.1) (bitV_pos (fun _ => by decide) hw.2) (by omega), ?_⟩
          refine ⟨eB, bothK a b, rfl, (by show 3 ≤ 15; decide), ?_⟩
          rw [eB2, merge_both]
          have sBB := same_new nB (.dK (bothK a b))
          have eBB : upd H2 B (.dK (bothK a b)) B = some (.dK (bothK a b)) := upd_same
          have t1d := sBB _ _ t1b
          have t2d := sBB _ _ t2
          generalize upd H2 B (.dK (bothK a b)) = H3 at sBB eBB t1d t2d ⊢
          refine in_name rfl ?_
          refine in_nx ⟨_, rfl, B, rfl, .inl ⟨_, .inl eBB⟩, _, rfl, _, rfl, T1, _, _, _, rfl, rfl, SqT.of t1d, rfl, _, rfl, T2, _, _, _, rfl, rfl, SqT.of t2d, rfl, a, b, rfl, _, DGet.k (k := kT k.name) eBB, le 2 (by decide), fun T3 H4 nT s4 eT => ?_⟩
          have s4 : Same H3 H4 := s4
          refine q T3 H4 (((s1.trans s2).trans sBB).trans s4) ?_
          have hv := val_both k a b
          rw [hv] at eT
          exact eT
    | pick x y z =>
      obtain ⟨p, vx, vy, vz, rfl, hp, hx, hy, hz⟩ := hRc
      have hd3 : x.dep ≤ n ∧ y.dep ≤ n ∧ z.dep ≤ n := by
        have e : (Rcp.pick x y z).dep = max x.dep (max y.dep z.dep) + 1 := rfl
        omega
      have hb2 : max (x.bitA (fun _ => 400)) (max (y.bitA (fun _ => 400)) (z.bitA (fun _ => 400))) ≤ 1000000 := hb
      have nx : rkD own x ≠ .none := fun z' => hne (by show (match rkD own x with | .worth x => _ | o => o) = _; rw [z'])
      refine ⟨_, rfl, p, _, _, _, rfl, rfl, SqT.of hp, rfl, ?_⟩
      refine in_name rfl ?_
      refine in_nx (in_seq ⟨_, rfl, rfl, _, rfl, iteN (sne (by decide +kernel)) ?_⟩)
      refine in_nx (in_seq ⟨_, rfl, rfl, _, rfl, iteN (sne (by decide +kernel)) ?_⟩)
      refine in_nx (in_seq (in_asg ⟨_, rfl, p, _, _, _, rfl, rfl, SqT.of hp, rfl, _, rfl, vx, oD, x, own, rfl, hx, hO, hd3.1, hw.1, by omega, hs, nx, fun T1 H1 s1 t1 => ?_⟩))
      refine in_name rfl ?_
      have hp1 := s1 _ _ hp
      have hO1 := s1 _ _ hO
      cases e1 : rkD own x with
      | none => exact absurd e1 nx
      | read u =>
        rw [e1] at t1
        have er : rkD own (.pick x y z) = .read u := by unfold rkD; rw [e1]
        rw [er] at q
        refine in_nx (in_seq ⟨_, rfl, T1, _, _, _, rfl, rfl, SqT.of t1, rfl, rfl, _, rfl, iteY rfl ?_⟩)
        exact ⟨_, rfl, q T1 H1 s1 t1⟩
      | worth a =>
        rw [e1] at t1
        have t1 : H1 T1 = some (.tup [.str "worth", .int a]) := t1
        refine in_nx (in_seq ⟨_, rfl, T1, _, _, _, rfl, rfl, SqT.of t1, rfl, rfl, _, rfl, iteN (sne (by decide +kernel)) ?_⟩)
        refine in_nx (in_seq ⟨_, rfl, rfl, _, rfl, iteN (sne (by decide +kernel)) ?_⟩)
        refine in_nx (in_seq ⟨_, rfl, rfl, _, rfl, iteY rfl ?_⟩)
        by_cases c : a > 0
        · have er : rkD own (.pick x y z) = rkD own y := by
            show (match rkD own x with | .worth x => if x > 0 then rkD own y else rkD own z | o => o) = _
            rw [e1]
            exact if_pos c
          rw [er] at q hne
          refine ⟨_, rfl, _, rfl, T1, _, _, _, rfl, rfl, SqT.of t1, rfl, _, _, rfl, rfl, .inr ⟨_, rfl, _, _, rfl, rfl, p, _, _, vy, rfl, rfl, SqT.of hp1, ?_, ?_⟩⟩
          · rw [decide_eq_false (show ¬ a ≤ 0 by omega)]; rfl
          exact ⟨_, rfl, vy, oD, y, own, rfl, hy.keep (same_keep s1), hO1, hd3.2.1, hw.2.1, by omega, hs, hne, fun T2 H2 s2 t2 => q T2 H2 (s1.trans s2) t2⟩
        · have er : rkD own (.pick x y z) = rkD own z := by
            show (match rkD own x with | .worth x => if x > 0 then rkD own y else rkD own z | o => o) = _
            rw [e1]
            exact if_neg c
          rw [er] at q hne
          refine ⟨_, rfl, _, rfl, T1, _, _, _, rfl, rfl, SqT.of t1, rfl, _, _, rfl, rfl, .inr ⟨_, rfl, _, _, rfl, rfl, p, _, _, vz, rfl, rfl, SqT.of hp1, ?_, ?_⟩⟩
          · rw [decide_eq_true (show a ≤ 0 by omega)]; rfl
          exact ⟨_, rfl, vz, oD, z, own, rfl, hz.keep (same_keep s1), hO1, hd3.2.2, hw.2.2, by omega, hs, hne, fun T2 H2 s2 t2 => q T2 H2 (s1.trans s2) t2⟩
    | choose x ns =>
      obtain ⟨p, vx, pn, rfl, hp, hx, hpn⟩ := hRc
      have hdx : x.dep ≤ n := by
        have e : (Rcp.choose x ns).dep = x.dep + 1 := rfl
        omega
      have hb2 : max (x.bitA (fun _ => 400)) (maxN (ns.map (fun _ => 400))) ≤ 1000000 := hb
      have nx : rkD own x ≠ .none := fun z' => hne (by show (match rkD own x with | .worth x => _ | o => o) = _; rw [z'])
      refine ⟨_, rfl, p, _, _, _, rfl, rfl, SqT.of hp, rfl, ?_⟩
      refine in_name rfl ?_
      refine in_nx (in_seq ⟨_, rfl, rfl, _, rfl, iteN (sne (by decide +kernel)) ?_⟩)
      refine in_nx (in_seq ⟨_, rfl, rfl, _, rfl, iteN (sne (by decide +kernel)) ?_⟩)
      refine in_nx (in_seq (in_asg ⟨_, rfl, p, _, _, _, rfl, rfl, SqT.of hp, rfl, _, rfl, vx, oD, x, own, rfl, hx, hO, hdx, hw.1, by omega, hs, nx, fun T1 H1 s1 t1 => ?_⟩))
      refine in_name rfl ?_
      have hp1 := s1 _ _ hp
      have hO1 := s1 _ _ hO
      have hpn1 := s1 _ _ hpn
      cases e1 : rkD own x with
      | none => exact absurd e1 nx
      | read u =>
        rw [e1] at t1
        have er : rkD own (.choose x ns) = .read u := by unfold rkD; rw [e1]
        rw [er] at q
        refine in_nx (in_seq ⟨_, rfl, T1, _, _, _, rfl, rfl, SqT.of t1, rfl, rfl, _, rfl, iteY rfl ?_⟩)
        exact ⟨_, rfl, q T1 H1 s1 t1⟩
      | worth a =>
        rw [e1] at t1
        have t1 : H1 T1 = some (.tup [.str "worth", .int a]) := t1
        have er : rkD own (.choose x ns) = rkD own (.read (nthN ns a)) := by
          show (match rkD own x with | .worth x => (match seen own (nthN ns x) with | some v => Out.worth v | none => .read (nthN ns x)) | o => o) = _
          rw [e1]
          rfl
        rw [er] at q hne
        refine in_nx (in_seq ⟨_, rfl, T1, _, _, _, rfl, rfl, SqT.of t1, rfl, rfl, _, rfl, iteN (sne (by decide +kernel)) ?_⟩)
        refine in_nx (in_seq ⟨_, rfl, rfl, _, rfl, iteY rfl ?_⟩)
        obtain ⟨i, hi0, hi⟩ := nth_mem hw.2.1 a
        have hm : Nm (nthN ns a) := hw.2.2.2 _ (List.mem_of_getElem? hi)
        refine ⟨_, rfl, p, _, _, _, rfl, rfl, SqT.of hp1, rfl, _, rfl, T1, _, _, _, rfl, rfl, SqT.of t1, rfl, _, rfl, p, _, _, _, rfl, rfl, SqT.of hp1, rfl, pn, _, rfl, .inr (SqT.of hpn1), _, _, rfl, rfl, (by rw [txs_len]; have := hw.2.1; omega), pn, _, _, .str (SX.S (nthN ns a)), rfl, rfl, SqT.of hpn1, ?_, ?_⟩
        · show atI (txs ns) (a % ((txs ns).length : Int)) = _
          rw [txs_len, hi0]
          exact txs_atS hi
        refine ⟨le 2 (by decide), fun T2 H2 nT2 s2 eT2 => ?_⟩
        have s2 : Same H1 H2 := s2
        exact ⟨_, rfl, .ref T2, oD, .read (nthN ns a), own, rfl, ⟨T2, rfl, eT2⟩, s2 _ _ hO1, (by have := dep_pos x; show 1 ≤ n; omega), hm, (by show 400 ≤ 1000000; decide), hs, hne, fun T3 H3 s3 t3 => q T3 H3 ((s1.trans s2).trans s3) t3⟩
end
/-! ### weavings: plain facts -/
open LamX NdefX
structure WvS where
  known : List Pr
  begun : List (List Nat)
  waits : List (List Nat × List Nat)
inductive WStep where
  | waits (n u : List Nat)
  | known (n : List Nat) (v : Int)
def WStep.key : WStep → List Nat × Option (List Nat)
  | .waits n u => (n, some u)
  | .known n _ => (n, none)
def w_waits : List Nat := [119, 97, 105, 116, 115]
def w_known : List Nat := [107, 110, 111, 119, 110]
theorem q_waits : ("waits" : Str) = SX.S w_waits := by decide +kernel
theorem q_known : ("known" : Str) = SX.S w_known := by decide +kernel
def WStep.th : WStep → Th
  | .waits n u => .tup [.str n, .str w_waits, .str u]
  | .known n v => .tup [.str n, .str w_known, .int v]
def addB (l : List (List Nat)) (t : List Nat) : List (List Nat) := if t ∈ l then l else l ++ [t]
def popW (t : List Nat) (w : List (List Nat × List Nat)) (b : List (List Nat)) : List (List Nat × List Nat) := b.foldl (fun w o => if getA w o = some t then dropR w o else w) w
def rdyW (s : WvS) : List (List Nat) := s.begun.filter fun t => decide (seen s.known t = none) && decide (getA s.waits t = none)
def leftW (s : WvS) : List (List Nat) := s.begun.filter fun t => decide (seen s.known t = none)
def goW (h : House) (s : WvS) (t : List Nat) : WvS × WStep := match rkD s.known ((rcpOf h.recs t).getD (.num 0)) with
  | .worth v => (⟨putA s.known t v, s.begun, popW t s.waits s.begun⟩, .known t v)
  | .read u => (⟨s.known, addB s.begun u, putA s.waits t u⟩, .waits t u)
  | .none => (s, .known t 0)
def pickW (cs : List Int) (s : WvS) (tr : List WStep) : List Nat := (rdyW s).getD ((cs.getD tr.length 0) % ((rdyW s).length : Int)).toNat []
def runW (h : House) (cs : List Int) : Nat → WvS → List WStep → List WStep
  | 0, _, tr => tr
  | n + 1, s, tr => if leftW s = [] then tr else runW h cs n (goW h s (pickW cs s tr)).1 (tr ++ [(goW h s (pickW cs s tr)).2])
def begW (h : House) (ws : List (List Nat)) : WvS := ⟨h.given, ws.foldl (fun b t => if t ∈ h.recs.map (·.1) then addB b t else b) [], []⟩
/-- a house that can be woven: each recipe's names are ranked lower -/
structure HouseWv (h : House) (f : List Nat → Nat) (rank : List Nat → Nat) : Prop where
  v : HouseV 8 h f
  f4 : ∀ u, f u ≤ 400
  nd : (h.given.map (·.1) ++ h.recs.map (·.1)).Nodup
  wi : ∀ p ∈ h.recs, rank p.1 < 1000 → ∀ s ∈ p.2.nms, s ∈ h.given.map (·.1) ++ h.recs.map (·.1) ∧ rank s < rank p.1
  bit : ∀ p ∈ h.recs, p.2.Nb ∧ p.2.bitA (fun _ => 400) ≤ 1000000
  len : h.given.length + h.recs.length ≤ 30
theorem rkD_ev {own : List Pr} : ∀ {r : Rcp} {v : Int}, rkD own r = .worth v → r.Ev (fun t x => seen own t = some x) v
  | .num n, v, h => by cases h; rfl
  | .read t, v, h => by
    unfold rkD at h
    cases e : seen own t with
    | none => rw [e] at h; cases h
    | some x => rw [e] at h; cases h; exact e
  | .two k a b, v, h => by
    unfold rkD at h
    cases ea : rkD own a with
    | worth x =>
      rw [ea] at h
      cases eb : rkD own b with
      | worth y =>
        simp only [eb] at h
        cases h
        exact ⟨x, y, rkD_ev ea, rkD_ev eb, rfl⟩
      | read u => simp only [eb] at h; cases h
      | none => simp only [eb] at h; cases h
    | read u => rw [ea] at h; cases h
    | none => rw [ea] at h; cases h
  | .pick a b c, v, h => by
    unfold rkD at h
    cases ea : rkD own a with
    | worth x =>
      rw [ea] at h
      by_cases c0 : x > 0
      · simp only [if_pos c0] at h
        exact ⟨x, rkD_ev ea, fun _ => rkD_ev h, fun z => absurd c0 z⟩
      · simp only [if_neg c0] at h
        exact ⟨x, rkD_ev ea, fun z => absurd z c0, fun _ => rkD_ev h⟩
    | read u => rw [ea] at h; cases h
    | none => rw [ea] at h; cases h
  | .choose a ns, v, h => by
    unfold rkD at h
    cases ea : rkD own a with
    | worth x =>
      rw [ea] at h
      cases e : seen own (nthN ns x) with
      | none => simp only [e] at h; cases h
      | some y => simp only [e] at h; cases h; exact ⟨x, rkD_ev ea, e⟩
    | read u => rw [ea] at h; cases h
    | none => rw [ea] at h; cases h
theorem nth_in {ns : List (List Nat)} (h : 1 ≤ ns.length) (x : Int) : nthN ns x ∈ ns := by
  obtain ⟨i, _, e⟩ := nth_mem h x
  exact List.mem_of_getElem? e
/-- what lacks is one of the recipe's names, not known -/
theorem rkD_lacks {own : List Pr} : ∀ {r : Rcp} {u : List Nat}, r.Wn → rkD own r = .read u → u ∈ r.nms ∧ seen own u = none
  | .num n, u, _, h => by cases h
  | .read t, u, _, h => by
    unfold rkD at h
    cases e : seen own t with
    | none => rw [e] at h; cases h; exact ⟨List.mem_singleton.mpr rfl, e⟩
    | some x => rw [e] at h; cases h
  | .two k a b, u, w, h => by
    unfold rkD at h
    cases ea : rkD own a with
    | worth x =>
      rw [ea] at h
      cases eb : rkD own b with
      | worth y => simp only [eb] at h; cases h
      | read t =>
        simp only [eb] at h
        cases h
        obtain ⟨m, e⟩ := rkD_lacks w.2 eb
        exact ⟨List.mem_append_right _ m, e⟩
      | none => simp only [eb] at h; cases h
    | read t =>
      rw [ea] at h
      cases h
      obtain ⟨m, e⟩ := rkD_lacks w.1 ea
      exact ⟨List.mem_append_left _ m, e⟩
    | none => rw [ea] at h; cases h
  | .pick a b c, u, w, h => by
    unfold rkD at h
    cases ea : rkD own a with
    | worth x =>
      rw [ea] at h
      by_cases c0 : x > 0
      · simp only [if_pos c0] at h
        obtain ⟨m, e⟩ := rkD_lacks w.2.1 h
        exact ⟨List.mem_append_right _ (List.mem_append_left _ m), e⟩
      · simp only [if_neg c0] at h
        obtain ⟨m, e⟩ := rkD_lacks w.2.2 h
        exact ⟨List.mem_append_right _ (List.mem_append_right _ m), e⟩
    | read t =>
      rw [ea] at h
      cases h
      obtain ⟨m, e⟩ := rkD_lacks w.1 ea
      exact ⟨List.mem_append_left _ m, e⟩
    | none => rw [ea] at h; cases h
  | .choose a ns, u, w, h => by
    unfold rkD at h
    cases ea : rkD own a with
    | worth x =>
      rw [ea] at h
      cases e : seen own (nthN ns x) with
      | none => simp only [e] at h; cases h; exact ⟨List.mem_append_right _ (nth_in w.2.1 x), e⟩
      | some y => simp only [e] at h; cases h
    | read t =>
      rw [ea] at h
      cases h
      obtain ⟨m, e⟩ := rkD_lacks w.1 ea
      exact ⟨List.mem_append_left _ m, e⟩
    | none => rw [ea] at h; cases h
theorem rkD_some {own : List Pr} : ∀ {r : Rcp}, rkD own r ≠ .none
  | .num n => fun z => by cases z
  | .read t => fun h => by
    unfold rkD at h
    cases e : seen own t <;> rw [e] at h <;> cases h
  | .two k a b => fun h => by
    unfold rkD at h
    cases ea : rkD own a with
    | worth x =>
      rw [ea] at h
      cases eb : rkD own b with
      | worth y => simp only [eb] at h; cases h
      | read t => simp only [eb] at h; cases h
      | none => exact rkD_some eb
    | read t => rw [ea] at h; cases h
    | none => exact rkD_some ea
  | .pick a b c => fun h => by
    unfold rkD at h
    cases ea : rkD own a with
    | worth x =>
      rw [ea] at h
      by_cases c0 : x > 0
      · simp only [if_pos c0] at h; exact rkD_some h
      · simp only [if_neg c0] at h; exact rkD_some h
    | read t => rw [ea] at h; cases h
    | none => exact rkD_some ea
  | .choose a ns => fun h => by
    unfold rkD at h
    cases ea : rkD own a with
    | worth x =>
      rw [ea] at h
      cases e : seen own (nthN ns x) <;> simp only [e] at h <;> cases h
    | read t => rw [ea] at h; cases h
    | none => exact rkD_some ea
section
variable {kn rd : List Pr} (sub : ∀ t v, seen rd t = some v → seen kn t = some v)
include sub
/-- more that is known tells the same -/
theorem rkD_more : ∀ {r : Rcp} {v : Int}, rkD rd r = .worth v → rkD kn r = .worth v
  | .num n, v, h => h
  | .read t, v, h => by
    unfold rkD at h ⊢
    cases e : seen rd t with
    | none => rw [e] at h; cases h
    | some x => rw [e] at h; rw [sub t x e]; exact h
  | .two k a b, v, h => by
    unfold rkD at h ⊢
    cases ea : rkD rd a with
    | worth x =>
      rw [ea] at h
      cases eb : rkD rd b with
      | worth y => simp only [eb] at h; rw [rkD_more ea]; simp only [rkD_more eb]; exact h
      | read u => simp only [eb] at h; cases h
      | none => simp only [eb] at h; cases h
    | read u => rw [ea] at h; cases h
    | none => rw [ea] at h; cases h
  | .pick a b c, v, h => by
    unfold rkD at h ⊢
    cases ea : rkD rd a with
    | worth x =>
      rw [ea] at h
      rw [rkD_more ea]
      by_cases c0 : x > 0
      · simp only [if_pos c0] at h ⊢; exact rkD_more h
      · simp only [if_neg c0] at h ⊢; exact rkD_more h
    | read u => rw [ea] at h; cases h
    | none => rw [ea] at h; cases h
  | .choose a ns, v, h => by
    unfold rkD at h ⊢
    cases ea : rkD rd a with
    | worth x =>
      rw [ea] at h
      rw [rkD_more ea]
      cases e : seen rd (nthN ns x) with
      | none => simp only [e] at h; cases h
      | some y => simp only [e] at h; simp only [sub _ y e]; exact h
    | read u => rw [ea] at h; cases h
    | none => rw [ea] at h; cases h
theorem rkD_same {u : List Nat} (hu : seen kn u = none) : ∀ {r : Rcp}, rkD rd r = .read u → rkD kn r = .read u
  | .num n, h => by cases h
  | .read t, h => by
    unfold rkD at h ⊢
    cases e : seen rd t with
    | none => rw [e] at h; cases h; rw [hu]
    | some x => rw [e] at h; cases h
  | .two k a b, h => by
    unfold rkD at h ⊢
    cases ea : rkD rd a with
    | worth x =>
      rw [ea] at h
      rw [rkD_more sub ea]
      cases eb : rkD rd b with
      | worth y => simp only [eb] at h; cases h
      | read t => simp only [eb] at h; cases h; simp only [rkD_same hu eb]
      | none => simp only [eb] at h; cases h
    | read t => rw [ea] at h; cases h; rw [rkD_same hu ea]
    | none => rw [ea] at h; cases h
  | .pick a b c, h => by
    unfold rkD at h ⊢
    cases ea : rkD rd a with
    | worth x =>
      rw [ea] at h
      rw [rkD_more sub ea]
      by_cases c0 : x > 0
      · simp only [if_pos c0] at h ⊢; exact rkD_same hu h
      · simp only [if_neg c0] at h ⊢; exact rkD_same hu h
    | read t => rw [ea] at h; cases h; rw [rkD_same hu ea]
    | none => rw [ea] at h; cases h
  | .choose a ns, h => by
    unfold rkD at h ⊢
    cases ea : rkD rd a with
    | worth x =>
      rw [ea] at h
      rw [rkD_more sub ea]
      cases e : seen rd (nthN ns x) with
      | none => simp only [e] at h; cases h; simp only [hu]
      | some y => simp only [e] at h; cases h
    | read t => rw [ea] at h; cases h; rw [rkD_same hu ea]
    | none => rw [ea] at h; cases h
end
theorem getA_drop {α : Type} {l : List (List Nat × α)} {t u : List Nat} : getA (dropR l t) u = if u = t then none else getA l u := by
  induction l with
  | nil => by_cases c : u = t <;> simp [c, getA, dropR]
  | cons p l ih =>
    by_cases h1 : p.1 = t
    · have e : dropR (p :: l) t = dropR l t := by unfold dropR; rw [List.filter_cons, if_neg (by rw [h1]; simp)]
      rw [e, ih, getA_cons]
      by_cases h2 : u = t
      · rw [if_pos h2, if_pos h2]
      · rw [if_neg h2, if_neg h2, if_neg (fun z => h2 (by rw [← z, h1]))]
    · have e : dropR (p :: l) t = p :: dropR l t := by unfold dropR; rw [List.filter_cons, if_pos (decide_eq_true h1)]
      rw [e, getA_cons, getA_cons, ih]
      by_cases h2 : p.1 = u
      · rw [if_pos h2, if_pos h2, if_neg (fun z => h1 (by rw [h2, z]))]
      · rw [if_neg h2, if_neg h2]
theorem popW_get {t : List Nat} : ∀ {b : List (List Nat)} {w : List (List Nat × List Nat)} {o : List Nat}, getA (popW t w b) o = if o ∈ b ∧ getA w o = some t then none else getA w o
  | [], w, o => by rw [if_neg (fun z => nomatch z.1)]; rfl
  | a :: b, w, o => by
    show getA (popW t (if getA w a = some t then dropR w a else w) b) o = _
    rw [popW_get]
    by_cases c : getA w a = some t
    · rw [if_pos c, getA_drop]
      by_cases e : o = a
      · subst e
        rw [if_pos rfl, if_pos (show o ∈ o :: b ∧ _ from ⟨List.mem_cons_self, c⟩)]
        split <;> rfl
      · rw [if_neg e]
        by_cases d : o ∈ b ∧ getA w o = some t
        · rw [if_pos d, if_pos ⟨List.mem_cons_of_mem _ d.1, d.2⟩]
        · rw [if_neg d, if_neg (fun z => d ⟨(List.mem_cons.mp z.1).resolve_left e, z.2⟩)]
    · rw [if_neg c]
      by_cases d : o ∈ b ∧ getA w o = some t
      · rw [if_pos d, if_pos ⟨List.mem_cons_of_mem _ d.1, d.2⟩]
      · rw [if_neg d, if_neg (fun z => by
          rcases List.mem_cons.mp z.1 with e | m
          · rw [e] at z; exact c z.2
          · exact d ⟨m, z.2⟩)]
theorem addB_mem {l : List (List Nat)} {t u : List Nat} : u ∈ addB l t ↔ u ∈ l ∨ u = t := by
  unfold addB
  by_cases c : t ∈ l
  · rw [if_pos c]
    exact ⟨.inl, fun h => h.elim id fun e => by rw [e]; exact c⟩
  · rw [if_neg c, List.mem_append, List.mem_singleton]
theorem addB_nd {l : List (List Nat)} {t : List Nat} (h : l.Nodup) : (addB l t).Nodup := by
  unfold addB
  by_cases c : t ∈ l
  · rw [if_pos c]; exact h
  · rw [if_neg c]
    exact List.nodup_append.mpr ⟨h, by simp, fun a ha b hb e => by rw [List.mem_singleton.mp hb] at e; exact c (by rw [← e]; exact ha)⟩
/-! ### weavings come to their end -/
open LamX NdefX
structure WOk (h : House) (f : List Nat → Nat) (rank : List Nat → Nat) (s : WvS) (tr : List WStep) : Prop where
  kn : ∀ t v, seen s.known t = some v → v.natAbs < 2 ^ f t
  knd : (s.known.map (·.1)).Nodup
  kl : s.known.length ≤ 30 + tr.length
  gv : ∀ t ∈ h.given.map (·.1), seen s.known t ≠ none
  bg : s.begun.Nodup
  bgR : ∀ t ∈ s.begun, t ∈ h.recs.map (·.1) ∧ rank t < 1000
  wt : ∀ t u, getA s.waits t = some u → t ∈ s.begun ∧ u ∈ s.begun ∧ seen s.known u = none ∧ rank u < rank t
  wl : s.waits.length ≤ tr.length
  key : (tr.map WStep.key).Nodup
  keyU : ∀ k ∈ tr.map WStep.key, k.1 ∈ h.recs.map (·.1) ∧ ∀ u, k.2 = some u → u ∈ h.recs.map (·.1)
  keyW : ∀ n u, (n, some u) ∈ tr.map WStep.key → seen s.known u ≠ none ∨ getA s.waits n = some u
  keyK : ∀ n, (n, none) ∈ tr.map WStep.key → seen s.known n ≠ none
theorem flat_len {α β γ : Type} (g : α → β → γ) (m : List β) : ∀ l : List α, (l.flatMap fun n => m.map (g n)).length = l.length * m.length
  | [] => by simp
  | a :: l => by
    rw [List.flatMap_cons, List.length_append, List.length_map, flat_len g m l, List.length_cons, Nat.add_mul, Nat.one_mul, Nat.add_comm]
theorem seen_putA' {l : List Pr} {t u : List Nat} {v : Int} : seen (putA l t v) u = if u = t then some v else seen l u := by
  rw [seen_put]
  by_cases c : t = u
  · rw [if_pos c, if_pos c.symm]
  · rw [if_neg c, if_neg (fun z => c z.symm)]
theorem putA_lenW {α : Type} {l : List (List Nat × α)} {t : List Nat} {v : α} : (putA l t v).length ≤ l.length + 1 := by
  unfold putA
  split
  · rw [List.length_map]; omega
  · rw [List.length_append]; exact Nat.le_refl _
theorem putA_ndW {α : Type} {l : List (List Nat × α)} {t : List Nat} {v : α} (h : (l.map (·.1)).Nodup) : ((putA l t v).map (·.1)).Nodup := by
  unfold putA
  by_cases c : (l.any fun p => decide (p.1 = t)) = true
  · rw [if_pos c, List.map_map]
    have e : ((fun p : List Nat × α => p.1) ∘ fun p => if p.1 = t then (p.1, v) else p) = fun p => p.1 := by
      funext p
      show (if p.1 = t then (p.1, v) else p).1 = p.1
      split <;> rfl
    rw [e]
    exact h
  · rw [if_neg c, List.map_append]
    refine List.nodup_append.mpr ⟨h, by simp, fun a ha b hb e => ?_⟩
    rw [List.mem_singleton.mp hb] at e
    obtain ⟨p, hp, e2⟩ := List.mem_map.mp ha
    exact c (List.any_eq_true.mpr ⟨p, hp, decide_eq_true (e2.trans e)⟩)
theorem popW_len {t : List Nat} : ∀ {b : List (List Nat)} {w : List (List Nat × List Nat)}, (popW t w b).length ≤ w.length
  | [], w => Nat.le_refl _
  | a :: b, w => by
    show (popW t (if getA w a = some t then dropR w a else w) b).length ≤ _
    refine Nat.le_trans popW_len ?_
    split
    · exact List.length_filter_le _ _
    · exact Nat.le_refl _
section
variable {h : House} {f rank : List Nat → Nat} {s : WvS} {tr : List WStep}
theorem HouseWv.rcpOf (W : HouseWv h f rank) {t : List Nat} (ht : t ∈ h.recs.map (·.1)) : ∃ r, rcpOf h.recs t = some r ∧ (t, r) ∈ h.recs := by
  obtain ⟨p, hp, rfl⟩ := List.mem_map.mp ht
  unfold Mad.rcpOf
  cases e : h.recs.find? (fun q => decide (q.1 = p.1)) with
  | none => exact absurd (decide_eq_true rfl) (List.find?_eq_none.mp e p hp)
  | some q =>
    have h1 := List.mem_of_find?_eq_some e
    have h2 : q.1 = p.1 := of_decide_eq_true (List.find?_some (p := fun q : RcpNm => decide (q.1 = p.1)) e)
    exact ⟨q.2, rfl, by rw [← h2]; exact h1⟩
theorem mem_rdy {t : List Nat} : t ∈ rdyW s ↔ t ∈ s.begun ∧ seen s.known t = none ∧ getA s.waits t = none := by
  unfold rdyW
  rw [List.mem_filter, Bool.and_eq_true, decide_eq_true_iff, decide_eq_true_iff]
theorem mem_left {t : List Nat} : t ∈ leftW s ↔ t ∈ s.begun ∧ seen s.known t = none := by
  unfold leftW
  rw [List.mem_filter, decide_eq_true_iff]
theorem WOk.len (W : HouseWv h f rank) (o : WOk h f rank s tr) : tr.length ≤ 960 := by
  have hl := W.len
  have := sub_lenR (m := (h.recs.map (·.1)).map (fun n => ((n, none) : List Nat × Option (List Nat))) ++ (h.recs.map (·.1)).flatMap fun n => (h.recs.map (·.1)).map fun u => ((n, some u) : List Nat × Option (List Nat))) o.key fun k hk => by
    obtain ⟨a, b⟩ := o.keyU k hk
    obtain ⟨n, u⟩ := k
    cases u with
    | none => exact List.mem_append_left _ (List.mem_map.mpr ⟨n, a, rfl⟩)
    | some u => exact List.mem_append_right _ (List.mem_flatMap.mpr ⟨n, a, List.mem_map.mpr ⟨u, b u rfl, rfl⟩⟩)
  rw [List.length_map, List.length_append, List.length_map, flat_len, List.length_map] at this
  have h30 : h.recs.length ≤ 30 := by omega
  have := Nat.mul_le_mul h30 h30
  omega
theorem WOk.ready (o : WOk h f rank s tr) (hl : leftW s ≠ []) : rdyW s ≠ [] := by
  have key : ∀ (n : Nat) (t : List Nat), rank t < n → t ∈ leftW s → ∃ u, u ∈ rdyW s := by
    intro n
    induction n with
    | zero => intro t h; exact absurd h (Nat.not_lt_zero _)
    | succ n ih =>
      intro t hn ht
      obtain ⟨a, b⟩ := mem_left.mp ht
      cases e : getA s.waits t with
      | none => exact ⟨t, mem_rdy.mpr ⟨a, b, e⟩⟩
      | some u =>
        obtain ⟨_, u1, u2, u3⟩ := o.wt t u e
        exact ih u (by omega) (mem_left.mpr ⟨u1, u2⟩)
  obtain ⟨t, ht⟩ := List.exists_mem_of_ne_nil _ hl
  obtain ⟨u, hu⟩ := key _ t (Nat.lt_succ_self _) ht
  exact List.ne_nil_of_mem hu
theorem goW_case (W : HouseWv h f rank) (o : WOk h f rank s tr) {t : List Nat} (ht : t ∈ rdyW s) : ∃ r, rcpOf h.recs t = some r ∧ (t, r) ∈ h.recs ∧ ((∃ v, rkD s.known r = .worth v ∧ goW h s t = (⟨putA s.known t v, s.begun, popW t s.waits s.begun⟩, .known t v)) ∨
    ∃ u, rkD s.known r = .read u ∧ seen s.known u = none ∧ u ∈ r.nms ∧ u ∈ h.recs.map (·.1) ∧ rank u < rank t ∧ goW h s t = (⟨s.known, addB s.begun u, putA s.waits t u⟩, .waits t u)) := by
  obtain ⟨a, b, c⟩ := mem_rdy.mp ht
  obtain ⟨r, hr, hm⟩ := W.rcpOf (o.bgR t a).1
  refine ⟨r, hr, hm, ?_⟩
  unfold goW
  rw [hr]
  rw [show (some r).getD (Rcp.num 0) = r from rfl]
  cases e : rkD s.known r with
  | none => exact absurd e rkD_some
  | worth v => exact .inl ⟨v, rfl, rfl⟩
  | read u =>
    obtain ⟨m, n⟩ := rkD_lacks (W.v.rcp _ hm).2.1 e
    obtain ⟨w1, w2⟩ := W.wi _ hm (o.bgR t a).2 u m
    refine .inr ⟨u, rfl, n, m, ?_, w2, rfl⟩
    rcases List.mem_append.mp w1 with g | g
    · exact absurd n (o.gv u g)
    · exact g
theorem WOk.go (W : HouseWv h f rank) (o : WOk h f rank s tr) {t : List Nat} (ht : t ∈ rdyW s) : WOk h f rank (goW h s t).1 (tr ++ [(goW h s t).2]) := by
  obtain ⟨a, b, c⟩ := mem_rdy.mp ht
  obtain ⟨r, hr, hm, hc⟩ := goW_case W o ht
  have rv := W.v.rcp _ hm
  have tr1 : ∀ x, (tr ++ [x]).length = tr.length + 1 := fun x => by rw [List.length_append]; rfl
  have hk := o.kl
  have hw := o.wl
  rcases hc with ⟨v, e, eg⟩ | ⟨u, e, n, m, hu, hrk, eg⟩
  · rw [eg]
    have hv : v.natAbs < 2 ^ f t := pow_mono ((rkD_ev e).smallV o.kn rv.2.1) rv.2.2.2.1
    have nk : ∀ u, seen s.known u ≠ none → seen (putA s.known t v) u ≠ none := fun u h => by
      rw [seen_putA']
      split
      · exact fun z => nomatch z
      · exact h
    refine ⟨fun x w hx => ?_, putA_ndW o.knd, ?_, fun x hx => nk x (o.gv x hx), o.bg, o.bgR, fun x u hx => ?_, ?_, ?_, fun k hk => ?_, fun x u hx => ?_, fun x hx => ?_⟩
    · have hx : seen (putA s.known t v) x = some w := hx
      rw [seen_putA'] at hx
      by_cases z : x = t
      · rw [if_pos z] at hx; cases hx; rw [z]; exact hv
      · rw [if_neg z] at hx; exact o.kn x w hx
    · show (putA s.known t v).length ≤ _
      rw [tr1]
      exact Nat.le_trans putA_lenW (by omega)
    · have hx : getA (popW t s.waits s.begun) x = some u := hx
      rw [popW_get] at hx
      by_cases z : x ∈ s.begun ∧ getA s.waits x = some t
      · rw [if_pos z] at hx; cases hx
      · rw [if_neg z] at hx
        obtain ⟨x1, x2, x3, x4⟩ := o.wt x u hx
        refine ⟨x1, x2, ?_, x4⟩
        show seen (putA s.known t v) u = none
        rw [seen_putA', if_neg (fun y => z ⟨x1, by rw [← y]; exact hx⟩)]
        exact x3
    · rw [tr1]
      exact Nat.le_trans popW_len (by omega)
    · rw [List.map_append]
      refine List.nodup_append.mpr ⟨o.key, by simp, fun x hx y hy z => ?_⟩
      rw [List.mem_singleton.mp hy] at z
      rw [z] at hx
      exact absurd b (o.keyK t hx)
    · rw [List.map_append] at hk
      rcases List.mem_append.mp hk with h1 | h1
      · exact o.keyU k h1
      · rw [List.mem_singleton.mp h1]
        exact ⟨(o.bgR t a).1, fun u z => nomatch z⟩
    · rw [List.map_append] at hx
      rcases List.mem_append.mp hx with h1 | h1
      · by_cases z : u = t
        · left
          show seen (putA s.known t v) u ≠ none
          rw [seen_putA', if_pos z]
          exact fun z => nomatch z
        · rcases o.keyW x u h1 with y | y
          · exact .inl (nk u y)
          · right
            show getA (popW t s.waits s.begun) x = some u
            rw [popW_get, if_neg (fun q => z (Option.some.inj (y.symm.trans q.2)))]
            exact y
      · have := List.mem_singleton.mp h1
        cases this
    · rw [List.map_append] at hx
      rcases List.mem_append.mp hx with h1 | h1
      · exact nk x (o.keyK x h1)
      · have : x = t := congrArg Prod.fst (List.mem_singleton.mp h1)
        show seen (putA s.known t v) x ≠ none
        rw [seen_putA', if_pos this]
        exact fun z => nomatch z
  · rw [eg]
    refine ⟨o.kn, o.knd, ?_, o.gv, addB_nd o.bg, fun x hx => ?_, fun x w hx => ?_, ?_, ?_, fun k hk => ?_, fun x w hx => ?_, fun x hx => ?_⟩
    · show s.known.length ≤ _
      rw [tr1]
      omega
    · rcases addB_mem.mp hx with h1 | h1
      · exact o.bgR x h1
      · rw [h1]; exact ⟨hu, by have := (o.bgR t a).2; omega⟩
    · have hx : getA (putA s.waits t u) x = some w := hx
      rw [getA_put] at hx
      by_cases z : x = t
      · rw [if_pos z] at hx
        cases hx
        rw [z]
        exact ⟨addB_mem.mpr (.inl a), addB_mem.mpr (.inr rfl), n, hrk⟩
      · rw [if_neg z] at hx
        obtain ⟨x1, x2, x3, x4⟩ := o.wt x w hx
        exact ⟨addB_mem.mpr (.inl x1), addB_mem.mpr (.inl x2), x3, x4⟩
    · rw [tr1]
      exact Nat.le_trans putA_lenW (by omega)
    · rw [List.map_append]
      refine List.nodup_append.mpr ⟨o.key, by simp, fun x hx y hy z => ?_⟩
      rw [List.mem_singleton.mp hy] at z
      rw [z] at hx
      rcases o.keyW t u hx with q | q
      · exact q n
      · rw [c] at q; cases q
    · rw [List.map_append] at hk
      rcases List.mem_append.mp hk with h1 | h1
      · exact o.keyU k h1
      · rw [List.mem_singleton.mp h1]
        exact ⟨(o.bgR t a).1, fun w z => by cases z; exact hu⟩
    · rw [List.map_append] at hx
      rcases List.mem_append.mp hx with h1 | h1
      · rcases o.keyW x w h1 with y | y
        · exact .inl y
        · right
          show getA (putA s.waits t u) x = some w
          rw [getA_put, if_neg (fun z => by rw [z, c] at y; cases y)]
          exact y
      · have e2 := List.mem_singleton.mp h1
        have e3 : x = t := congrArg Prod.fst e2
        have e4 : w = u := Option.some.inj (congrArg Prod.snd e2)
        right
        show getA (putA s.waits t u) x = some w
        rw [getA_put, if_pos e3, e4]
    · rw [List.map_append] at hx
      rcases List.mem_append.mp hx with h1 | h1
      · exact o.keyK x h1
      · have := List.mem_singleton.mp h1
        cases this
theorem begW_ok (W : HouseWv h f rank) (ws : List (List Nat)) (hr : ∀ t ∈ ws, rank t < 1000) : WOk h f rank (begW h ws) [] := by
  have key : ∀ (ws b : List (List Nat)), (∀ t ∈ ws, rank t < 1000) → b.Nodup → (∀ t ∈ b, t ∈ h.recs.map (·.1) ∧ rank t < 1000) → (ws.foldl (fun b t => if t ∈ h.recs.map (·.1) then addB b t else b) b).Nodup ∧ ∀ t ∈ ws.foldl (fun b t => if t ∈ h.recs.map (·.1) then addB b t else b) b, t ∈ h.recs.map (·.1) ∧ rank t < 1000 := by
    intro ws
    induction ws with
    | nil => intro b _ h1 h2; exact ⟨h1, h2⟩
    | cons a ws ih =>
      intro b h0 h1 h2
      rw [List.foldl_cons]
      by_cases c : a ∈ h.recs.map (·.1)
      · rw [if_pos c]
        exact ih _ (fun t ht => h0 t (List.mem_cons_of_mem _ ht)) (addB_nd h1) fun t ht => (addB_mem.mp ht).elim (h2 t) fun e => by rw [e]; exact ⟨c, h0 a List.mem_cons_self⟩
      · rw [if_neg c]
        exact ih _ (fun t ht => h0 t (List.mem_cons_of_mem _ ht)) h1 h2
  obtain ⟨k1, k2⟩ := key ws [] hr List.nodup_nil fun _ h => nomatch h
  refine ⟨fun t v e => (W.v.gvn (t, v) (seen_mem e)).2, (List.nodup_append.mp W.nd).1, by have := W.len; show h.given.length ≤ _; omega, fun t ht => ?_, k1, k2, fun t u e => (by cases e), Nat.le_refl _, List.nodup_nil, (fun _ h => nomatch h), (fun _ _ h => nomatch h), fun _ h => nomatch h⟩
  obtain ⟨p, hp, rfl⟩ := List.mem_map.mp ht
  have nd := (List.nodup_append.mp W.nd).1
  show seen h.given p.1 ≠ none
  rw [seen_in nd hp]
  exact fun z => nomatch z
end
/-! ### the class Weaving: made, begun, over, ready -/
open LamX NdefX
theorem pe_fldK {X : Cx} {K : PySem.W.Frag} (hK : X.K = K) {e : Expr} {ta : TE} {f : Str} {pos : Pos} (he : PE X e ta) (hb : attributeBase e f X.env (eval e X.env) = eval e X.env) : PE X (.Attribute e f pos) (tFld K ta f) := by
  subst hK
  exact pe_fld he hb
theorem pe_never {X : Cx} {e : Expr} : PE X e (fun _ _ _ => False) := ⟨fun _ _ _ _ _ _ h => h.elim⟩
structure WeT (K : PySem.W.Frag) (mg : Str → Option Value) (C fI : Addr) : Prop where
  cl : Cls K C
  nG : NoAttr K C "given"
  nR : NoAttr K C "recipes"
  nK : NoAttr K C "worths"
  nB : NoAttr K C "begun"
  nW : NoAttr K C "waits"
  g : mg "Weaving" = some (.ref C)
  mkI : Mk K C fI
structure WvD where
  W : Addr
  dx : Addr
  G : Addr
  R : Addr
  Wd : Addr
  Bg : Addr
  Wt : Addr
def WvD.own (D : WvD) : List Addr := [D.Wd, D.Bg, D.Wt]
def FrO (S : List Addr) (H H' : Hp) : Prop := ∀ b u, b ∉ S → H b = some u → H' b = some u
theorem FrO.refl (S : List Addr) (H : Hp) : FrO S H H := fun _ _ _ e => e
theorem FrO.trans {S : List Addr} {A B C : Hp} (f : FrO S A B) (g : FrO S B C) : FrO S A C := fun b u n e => g b u n (f b u n e)
theorem FrO.of {S : List Addr} {A B : Hp} (s : Same A B) : FrO S A B := fun b u _ e => s b u e
theorem FrO.upd1 {S : List Addr} {A : Hp} {x : Addr} {o : HO} (h : x ∈ S) : FrO S A (upd A x o) := fun b u n e => by rw [upd_ne (fun z => n (by rw [z]; exact h))]; exact e
def wtK (w : List (List Nat × List Nat)) : List (Key × V) := w.map fun p => (kT (SX.S p.1), V.str (SX.S p.2))
theorem wtR : ∀ w : List (List Nat × List Nat), KvR (fun (t : List Nat) v => v = .str (SX.S t)) w (wtK w)
  | [] => trivial
  | p :: w => ⟨rfl, rfl, wtR w⟩
theorem wtR_eq : ∀ {w : List (List Nat × List Nat)} {m : List (Key × V)}, KvR (fun (t : List Nat) v => v = .str (SX.S t)) w m → m = wtK w
  | [], [], _ => rfl
  | p :: l, q :: m, ⟨x, y, z⟩ => by
    rw [wtR_eq z]
    show q :: wtK l = (kT (SX.S p.1), V.str (SX.S p.2)) :: wtK l
    rw [← x, ← y]
  | [], _ :: _, h => h.elim
  | _ :: _, [], h => h.elim
theorem wt_put (w : List (List Nat × List Nat)) (t u : List Nat) : putK (wtK w) (kT (SX.S t)) (.str (SX.S u)) = wtK (putA w t u) := wtR_eq (KvR.put (R := fun (t : List Nat) v => v = .str (SX.S t)) (a := u) rfl (wtR w))
theorem wt_drop (w : List (List Nat × List Nat)) (t : List Nat) : dropK (wtK w) (kT (SX.S t)) = wtK (dropR w t) := wtR_eq (KvR.dropR t (wtR w))
theorem wt_val (w : List (List Nat × List Nat)) (t : List Nat) : valV (wtK w) (kT (SX.S t)) = (getA w t).map fun u => V.str (SX.S u) := by
  rcases (wtR w).get (t := t) with ⟨a, b⟩ | ⟨a, v, b, c, d⟩
  · rw [a, b]; rfl
  · rw [b, c, d]; rfl
theorem wtK_len (w : List (List Nat × List Nat)) : (wtK w).length = w.length := List.length_map _
structure WvAt (C : Addr) (H : Hp) (D : WvD) (h : House) (kvs : List (Key × V)) (s : WvS) : Prop where
  ins : ∃ fs, H D.W = some (.ins C D.dx fs) ∧ fs.lookup ("given" : Str) = some (.ref D.G) ∧ fs.lookup ("recipes" : Str) = some (.ref D.R) ∧ fs.lookup ("worths" : Str) = some (.ref D.Wd) ∧ fs.lookup ("begun" : Str) = some (.ref D.Bg) ∧ fs.lookup ("waits" : Str) = some (.ref D.Wt) ∧
    fs.lookup ("begin" : Str) = none ∧ fs.lookup ("is_over" : Str) = none ∧ fs.lookup ("ready" : Str) = none ∧ fs.lookup ("go_on" : Str) = none ∧ fs.lookup ("first_ring" : Str) = none
  g : H D.G = some (.dK (numsK h.given))
  r : H D.R = some (.dK kvs)
  rk : KvR (Rec H) h.recs kvs
  wd : H D.Wd = some (.dK (numsK s.known))
  bg : H D.Bg = some (.lst (txs s.begun))
  wt : H D.Wt = some (.dK (wtK s.waits))
  ne : D.Wd ≠ D.Wt ∧ D.Wd ≠ D.G ∧ D.Wd ≠ D.R ∧ D.Wt ≠ D.G ∧ D.Wt ≠ D.R
section
variable {C : Addr} {H H' : Hp} {D : WvD} {h : House} {kvs : List (Key × V)} {s : WvS}
theorem WvAt.same (a : WvAt C H D h kvs s) (m : Same H H') : WvAt C H' D h kvs s := by
  obtain ⟨fs, h1, h2⟩ := a.ins
  exact ⟨⟨fs, m _ _ h1, h2⟩, m _ _ a.g, m _ _ a.r, a.rk.imp fun _ _ q => q.same m, m _ _ a.wd, m _ _ a.bg, m _ _ a.wt, a.ne⟩
theorem WvAt.nW (a : WvAt C H D h kvs s) : D.W ≠ D.Wd ∧ D.W ≠ D.Bg ∧ D.W ≠ D.Wt ∧ D.Bg ≠ D.Wd ∧ D.Bg ≠ D.Wt ∧ D.Bg ≠ D.G ∧ D.Bg ≠ D.R := by
  obtain ⟨fs, h1, _⟩ := a.ins
  refine ⟨fun z => ?_, fun z => ?_, fun z => ?_, fun z => ?_, fun z => ?_, fun z => ?_, fun z => ?_⟩
  · rw [z, a.wd] at h1; cases h1
  · rw [z, a.bg] at h1; cases h1
  · rw [z, a.wt] at h1; cases h1
  · have := a.bg; rw [z, a.wd] at this; cases this
  · have := a.bg; rw [z, a.wt] at this; cases this
  · have := a.bg; rw [z, a.g] at this; cases this
  · have := a.bg; rw [z, a.r] at this; cases this
theorem WvAt.setB (a : WvAt C H D h kvs s) (b : List (List Nat)) : WvAt C (upd H D.Bg (.lst (txs b))) D h kvs { s with begun := b } := by
  obtain ⟨fs, h1, h2⟩ := a.ins
  obtain ⟨n1, n2, n3, n4, n5, n6, n7⟩ := a.nW
  exact ⟨⟨fs, by rw [upd_ne n2]; exact h1, h2⟩, by rw [upd_ne n6.symm]; exact a.g, by rw [upd_ne n7.symm]; exact a.r, a.rk.imp fun _ _ q => q.keep (keep_lst a.bg), by rw [upd_ne n4.symm]; exact a.wd, upd_same, by rw [upd_ne n5.symm]; exact a.wt, a.ne⟩
theorem keep_dk {H : Hp} {p : Addr} {ks ls : List (Key × V)} (e : H p = some (.dK ks)) : Keep H (upd H p (.dK ls)) := fun b ys h => by
  rw [upd_ne (fun z => by rw [z, e] at h; cases h)]
  exact h
theorem WvAt.setK (a : WvAt C H D h kvs s) (k : List Pr) : WvAt C (upd H D.Wd (.dK (numsK k))) D h kvs { s with known := k } := by
  obtain ⟨fs, h1, h2⟩ := a.ins
  obtain ⟨n1, n2, n3, n4, n5, n6, n7⟩ := a.nW
  obtain ⟨m1, m2, m3, m4, m5⟩ := a.ne
  exact ⟨⟨fs, by rw [upd_ne n1]; exact h1, h2⟩, by rw [upd_ne m2.symm]; exact a.g, by rw [upd_ne m3.symm]; exact a.r, a.rk.imp fun _ _ q => q.keep (keep_dk a.wd), upd_same, by rw [upd_ne n4]; exact a.bg, by rw [upd_ne m1.symm]; exact a.wt, a.ne⟩
theorem WvAt.setW (a : WvAt C H D h kvs s) (w : List (List Nat × List Nat)) : WvAt C (upd H D.Wt (.dK (wtK w))) D h kvs { s with waits := w } := by
  obtain ⟨fs, h1, h2⟩ := a.ins
  obtain ⟨n1, n2, n3, n4, n5, n6, n7⟩ := a.nW
  obtain ⟨m1, m2, m3, m4, m5⟩ := a.ne
  exact ⟨⟨fs, by rw [upd_ne n3]; exact h1, h2⟩, by rw [upd_ne m4.symm]; exact a.g, by rw [upd_ne m5.symm]; exact a.r, a.rk.imp fun _ _ q => q.keep (keep_dk a.wt), by rw [upd_ne m1]; exact a.wd, by rw [upd_ne n5]; exact a.bg, upd_same, a.ne⟩
end
theorem rec_val {H : Hp} {l : List RcpNm} {kvs : List (Key × V)} (rk : KvR (Rec H) l kvs) (t : List Nat) : (¬ t ∈ l.map (·.1) ∧ valV kvs (kT (SX.S t)) = none) ∨ ∃ r v, rcpOf l t = some r ∧ t ∈ l.map (·.1) ∧ valV kvs (kT (SX.S t)) = some v ∧ Rec H r v := by
  rcases rk.get (t := t) with ⟨a, b⟩ | ⟨r, v, a, b, c⟩
  · refine .inl ⟨fun z => ?_, b⟩
    obtain ⟨p, hp, e⟩ := List.mem_map.mp z
    unfold getA at a
    cases e2 : l.find? (fun p => decide (p.1 = t)) with
    | none => exact List.find?_eq_none.mp e2 p hp (decide_eq_true e)
    | some q => rw [e2] at a; cases a
  · refine .inr ⟨r, v, a, ?_, b, c⟩
    unfold getA at a
    cases e2 : l.find? (fun p => decide (p.1 = t)) with
    | none => rw [e2] at a; cases a
    | some q => exact List.mem_map.mpr ⟨q, List.mem_of_find?_eq_some e2, of_decide_eq_true (List.find?_some (p := fun p : RcpNm => decide (p.1 = t)) e2)⟩
theorem names_dpW (K : PySem.W.Frag) {H : Hp} {N : Addr} {ns : List (List Nat)} (h : H N = some (.lst (txs ns))) : Dp K H (.ref N) (.list (Th.pyL (nmsTh ns))) := Data.dp (t := .lst (nmsTh ns)) Nms.flat ⟨N, _, rfl, h, nms_data H ns⟩
theorem names_shapedW {ns : List (List Nat)} (h : ∀ s ∈ ns, Nm s) : SeqAt.shaped (.list (Th.pyL (nmsTh ns))) = true := by
  obtain ⟨a, b⟩ := nms_py h
  show (PyData.canLayAll0 (Th.pyL (nmsTh ns)) && decide (PyData.depthAll (Th.pyL (nmsTh ns)) + 1 ≤ 64)) = true
  rw [a, b]
  decide
theorem names_emptyW (ns : List (List Nat)) : PyData.eqv (.list (Th.pyL (nmsTh ns))) (.list []) = decide (ns = []) := by
  cases ns with
  | nil => rfl
  | cons a l => rfl
def spBegin (C : Addr) : Sp := fun vs H Q _ => ∃ (D : WvD) (h : House) (kvs : List (Key × V)) (s : WvS) (t : List Nat), vs = [.ref D.W, .str (SX.S t)] ∧ WvAt C H D h kvs s ∧ s.begun.length ≤ 1000 ∧ ∀ H', FrO D.own H H' → WvAt C H' D h kvs { s with begun := addB s.begun t } → Q .non H'
def spOver (C : Addr) : Sp := fun vs H Q _ => ∃ (D : WvD) (h : House) (kvs : List (Key × V)) (s : WvS), vs = [.ref D.W] ∧ WvAt C H D h kvs s ∧ s.begun.length ≤ 1000 ∧ (∀ t ∈ s.begun, Nm t) ∧ ∀ H', Same H H' → Q (.bl (decide (leftW s = []))) H'
def spReady (C : Addr) : Sp := fun vs H Q _ => ∃ (D : WvD) (h : House) (kvs : List (Key × V)) (s : WvS), vs = [.ref D.W] ∧ WvAt C H D h kvs s ∧ s.begun.length ≤ 1000 ∧ ∀ H' L, Same H H' → H L = none → H' L = some (.lst (txs (rdyW s))) → Q (.ref L) H'
section
variable {P : Program} {w : World} {K : PySem.W.Frag} {mg : Str → Option Value} {base : Heap} {C fI : Addr}
abbrev s_Weaving_begin : Stmt := inClass (topS 11) 1
abbrev N_Weaving_begin : List Str := ["self", "name"]
theorem sc_Weaving_begin : FnScope N_Weaving_begin ["self", "name"] (defScope s_Weaving_begin) := ⟨rfl, rfl, rfl, by decide +kernel, rfl, by decide +kernel, by decide +kernel⟩

theorem ok_Weaving_begin (T : Txt K mg) (Z : WeT K mg C fI) (M : IsMet K C "begin" "Weaving.begin" s_Weaving_begin ["self", "name"]) : Met P w K mg base CX0 1 C "begin" ["self", "name"] (spBegin C) := by
  refine M.met sc_Weaving_begin (fun vs H Q E h => ?_) (fun f cdv A outer s H vs Q E hr h => ?_)
  · obtain ⟨_, _, _, _, _, rfl, _⟩ := h
    rfl
  obtain ⟨D, h, kvs, s0, t, rfl, a, hl, q⟩ := h
  refine ⟨_, (pss_one (ps_if (pt_cmpR op_notIn_seq (pv 1) (pe_fld (pv 0) rfl) (by with_unfolding_all rfl))
        (pss_one (ps_expr (pe_bm PySem.F.plainAttrs_list PySem.F.slot_list_append PySem.F.type_list_append mt_append (pe_fld (pv 0) rfl) (pa_cons (pv 1) pa_nil))))
        pss_nil)), ?_⟩
  obtain ⟨fs, h1, l1, l2, l3, l4, l5, l6⟩ := a.ins
  refine ⟨_, rfl, _, rfl, D.W, C, D.dx, fs, _, rfl, h1, Z.cl, Z.nB, l4, D.Bg, _, rfl, .inl (SqL.of a.bg), rfl, txs_flat _, _, rfl, ?_⟩
  rw [in_txs]
  unfold addB at q
  by_cases c : t ∈ s0.begun
  · rw [if_pos c] at q
    rw [decide_eq_true c]
    exact iteF (q H (FrO.refl _ _) a)
  · rw [if_neg c] at q
    rw [decide_eq_false c]
    refine iteT ⟨_, rfl, D.W, C, D.dx, fs, _, rfl, h1, Z.cl, Z.nB, l4, .inl ⟨rfl, _, SqL.of a.bg⟩, _, rfl, D.Bg, _, _, rfl, rfl, a.bg, lt_line (by rw [txs_len]; omega), ?_⟩
    rw [txs_snoc]
    exact q _ (FrO.upd1 (List.mem_cons_of_mem _ List.mem_cons_self)) (a.setB _)
abbrev s_Weaving_is_over : Stmt := inClass (topS 11) 2
abbrev N_Weaving_is_over : List Str := ["self", "name"]
theorem sc_Weaving_is_over : FnScope N_Weaving_is_over ["self"] (defScope s_Weaving_is_over) := ⟨rfl, rfl, rfl, by decide +kernel, rfl, by decide +kernel, by decide +kernel⟩

theorem ok_Weaving_is_over (T : Txt K mg) (Z : WeT K mg C fI) (M : IsMet K C "is_over" "Weaving.is_over" s_Weaving_is_over ["self"]) : Met P w K mg base CX0 1 C "is_over" ["self"] (spOver C) := by
  refine M.met sc_Weaving_is_over (fun vs H Q E h => ?_) (fun f cdv A outer s H vs Q E hr h => ?_)
  · obtain ⟨_, _, _, _, rfl, _⟩ := h
    rfl
  obtain ⟨D, h, kvs, s0, rfl, a, hl, hn, q⟩ := h
  have hu : (cxOf CX0 P w K mg base N_Weaving_is_over "Weaving.is_over" (defScope s_Weaving_is_over) f cdv A outer s H E).nox.A.units + 1 < cLine := Nat.lt_of_le_of_lt (Nat.add_le_add_left (by decide : 1 ≤ 64) _) hr.units
  refine ⟨_, (pss_one (ps_ret (pe_cmpR (op_eqD hr.units) (pe_lc (own := [("name", 1)]) (g := gName 1)  (by rfl) sc_Weaving_is_over.nd  (pi_list (pe_fld (pv 0) rfl)) (blkOk_by (own := [("name", 1)]) (N := N_Weaving_is_over) (sc := defScope s_Weaving_is_over) (by decide +kernel)) (fun _ _ _ _ _ => (pg_name (i := 1) sc_Weaving_is_over.nd rfl (Or.inl rfl))) (fun _ _ _ _ _ => (pts_one (pt_cmp (pc_dnotin hu (pv 1) (pe_fldK (K := K) rfl (pv 0) rfl))))) (fun _ _ _ _ _ => (pv 1))) (pe_lstA pa_nil) (nomark _)))), ?_⟩
  obtain ⟨fs, h1, l1, l2, l3, l4, l5, l6⟩ := a.ins
  refine ⟨_, rfl, D.W, C, D.dx, fs, _, rfl, h1, Z.cl, Z.nB, l4, D.Bg, rfl, ⟨_, SqL.of a.bg⟩, fun M nM => lc_list (xs := txs s0.begun) (fun i X => Same H X ∧ X M = some (.lst (txs ((s0.begun.take i).filter fun t => decide (seen s0.known t = none))))) ⟨same_new nM _, upd_same⟩ (fun i X _ e => SqL.of (e.1 _ _ a.bg)) ?_ ?_⟩
  · rintro i y X hy ⟨sX, eM⟩
    obtain ⟨t, ht, rfl⟩ := txs_at' hy
    have aX := a.same sX
    have dg := DGet.k (k := kT (SX.S t)) aX.wd
    rw [val_seen] at dg
    refine ⟨rfl, _, rfl, _, rfl, D.W, C, D.dx, fs, _, rfl, sX _ _ h1, Z.cl, Z.nK, l3, D.Wd, _, rfl, dg, _, rfl, ?_⟩
    rw [List.take_add_one, ht, List.filter_append]
    have ll : (List.filter (fun s => decide (seen s0.known s = none)) (List.take i s0.begun)).length ≤ 1000 := Nat.le_trans (List.length_filter_le _ _) (by rw [List.length_take]; omega)
    cases hs : seen s0.known t with
    | none =>
      refine iteT ⟨_, rfl, _, eM, lt_line (by rw [txs_len]; omega), same_upd sX nM _, ?_⟩
      rw [upd_same, show List.filter (fun s => decide (seen s0.known s = none)) (some t).toList = [t] by
        show List.filter _ [t] = [t]
        rw [List.filter_cons, if_pos (by rw [hs]; rfl)]
        rfl, txs_app]
      rfl
    | some x =>
      refine iteF ⟨sX, ?_⟩
      rw [show List.filter (fun s => decide (seen s0.known s = none)) (some t).toList = [] by
        show List.filter _ [t] = []
        rw [List.filter_cons, if_neg (fun z => by rw [hs] at z; have := of_decide_eq_true z; cases this)]
        rfl, List.append_nil]
      exact eM
  rintro X ⟨sX, eM⟩
  rw [txs_len, List.take_of_length_le (Nat.le_refl _)] at eM
  refine ⟨Nat.zero_le _, fun E2 X2 nE x2' eE => ?_⟩
  have x2 : Same X X2 := x2'
  refine ⟨_, _, names_dpW K (x2 _ _ eM), .lst (SqL.of eE) .nil, names_shapedW fun t ht => hn t (List.mem_filter.mp ht).1, rfl, ?_⟩
  rw [names_emptyW]
  exact q _ (sX.trans x2)
abbrev s_Weaving_ready : Stmt := inClass (topS 11) 3
abbrev N_Weaving_ready : List Str := ["self", "name"]
theorem sc_Weaving_ready : FnScope N_Weaving_ready ["self"] (defScope s_Weaving_ready) := ⟨rfl, rfl, rfl, by decide +kernel, rfl, by decide +kernel, by decide +kernel⟩

theorem ok_Weaving_ready (T : Txt K mg) (Z : WeT K mg C fI) (M : IsMet K C "ready" "Weaving.ready" s_Weaving_ready ["self"]) : Met P w K mg base CX0 1 C "ready" ["self"] (spReady C) := by
  refine M.met sc_Weaving_ready (fun vs H Q E h => ?_) (fun f cdv A outer s H vs Q E hr h => ?_)
  · obtain ⟨_, _, _, _, rfl, _⟩ := h
    rfl
  obtain ⟨D, h, kvs, s0, rfl, a, hl, q⟩ := h
  have hu : (cxOf CX0 P w K mg base N_Weaving_ready "Weaving.ready" (defScope s_Weaving_ready) f cdv A outer s H E).nox.A.units + 1 < cLine := Nat.lt_of_le_of_lt (Nat.add_le_add_left (by decide : 1 ≤ 64) _) hr.units
  refine ⟨_, (pss_one (ps_ret (pe_lc (own := [("name", 1)]) (g := gName 1)  (by rfl) sc_Weaving_ready.nd  (pi_list (pe_fld (pv 0) rfl)) (blkOk_by (own := [("name", 1)]) (N := N_Weaving_ready) (sc := defScope s_Weaving_ready) (by decide +kernel)) (fun _ _ _ _ _ => (pg_name (i := 1) sc_Weaving_ready.nd rfl (Or.inl rfl))) (fun _ _ _ _ _ => (pts_one (PW.pt (pw_and (pt_cmp (pc_dnotin hu (pv 1) (pe_fldK (K := K) rfl (pv 0) rfl))) (pw_and1 (pt_cmp (pc_dnotin hu (pv 1) (pe_fldK (K := K) rfl (pv 0) rfl)))))))) (fun _ _ _ _ _ => (pv 1))))), ?_⟩
  obtain ⟨fs, h1, l1, l2, l3, l4, l5, l6⟩ := a.ins
  refine ⟨_, rfl, D.W, C, D.dx, fs, _, rfl, h1, Z.cl, Z.nB, l4, D.Bg, rfl, ⟨_, SqL.of a.bg⟩, fun M nM => lc_list (xs := txs s0.begun) (fun i X => Same H X ∧ X M = some (.lst (txs ((s0.begun.take i).filter fun t => decide (seen s0.known t = none) && decide (getA s0.waits t = none))))) ⟨same_new nM _, upd_same⟩ (fun i X _ e => SqL.of (e.1 _ _ a.bg)) ?_ ?_⟩
  · rintro i y X hy ⟨sX, eM⟩
    obtain ⟨t, ht, rfl⟩ := txs_at' hy
    have aX := a.same sX
    have dg := DGet.k (k := kT (SX.S t)) aX.wd
    rw [val_seen] at dg
    have dw := DGet.k (k := kT (SX.S t)) aX.wt
    rw [wt_val] at dw
    refine ⟨rfl, _, rfl, _, rfl, D.W, C, D.dx, fs, _, rfl, sX _ _ h1, Z.cl, Z.nK, l3, D.Wd, _, rfl, dg, _, rfl, ?_⟩
    have ll : (List.filter (fun t => decide (seen s0.known t = none) && decide (getA s0.waits t = none)) (List.take i s0.begun)).length ≤ 1000 := Nat.le_trans (List.length_filter_le _ _) (by rw [List.length_take]; omega)
    have no : ¬ (seen s0.known t = none ∧ getA s0.waits t = none) → Same H X ∧ X M = some (.lst (txs ((s0.begun.take (i + 1)).filter fun t => decide (seen s0.known t = none) && decide (getA s0.waits t = none)))) := fun hn => by
      refine ⟨sX, ?_⟩
      rw [List.take_add_one, ht, List.filter_append, show List.filter (fun t => decide (seen s0.known t = none) && decide (getA s0.waits t = none)) (some t).toList = [] by
        show List.filter _ [t] = []
        rw [List.filter_cons, if_neg (fun z => hn (by rw [Bool.and_eq_true, decide_eq_true_iff, decide_eq_true_iff] at z; exact z))]
        rfl, List.append_nil]
      exact eM
    cases hs : seen s0.known t with
    | some x => exact iteF (no fun z => by rw [hs] at z; cases z.1)
    | none =>
      refine iteT ⟨_, rfl, _, rfl, D.W, C, D.dx, fs, _, rfl, sX _ _ h1, Z.cl, Z.nW, l5, D.Wt, _, rfl, dw, _, rfl, ?_⟩
      cases hw : getA s0.waits t with
      | some x => exact iteF (no fun z => by rw [hw] at z; cases z.2)
      | none =>
        refine iteT ⟨_, rfl, _, eM, lt_line (by rw [txs_len]; omega), same_upd sX nM _, ?_⟩
        rw [upd_same, List.take_add_one, ht, List.filter_append, show List.filter (fun t => decide (seen s0.known t = none) && decide (getA s0.waits t = none)) (some t).toList = [t] by
          show List.filter _ [t] = [t]
          rw [List.filter_cons, if_pos (by rw [hs, hw]; rfl)]
          rfl, txs_app]
        rfl
  rintro X ⟨sX, eM⟩
  rw [txs_len, List.take_of_length_le (Nat.le_refl _)] at eM
  exact q _ _ sX nM eM
end
/-! ### the class Weaving: made; goes on -/
open LamX NdefX
def spWInit (K : PySem.W.Frag) (C : Addr) : Sp := fun vs H Q _ => ∃ (W dx U G R Wl : Addr) (h : House) (kvs : List (Key × V)) (ws : List (List Nat)) (f rank : List Nat → Nat), vs = [.ref W, .ref U, .ref Wl] ∧ H W = some (.ins C dx []) ∧ H U = some (.tup [.ref G, .ref R]) ∧ H G = some (.dK (numsK h.given)) ∧ H R = some (.dK kvs) ∧ KvR (Rec H) h.recs kvs ∧
  SqL K H Wl (txs ws) ∧ HouseWv h f rank ∧ (∀ t ∈ ws, t ∈ h.given.map (·.1) ++ h.recs.map (·.1) ∧ rank t < 1000) ∧ ∀ (D : WvD) (H' : Hp), D.W = W → FrO [W] H H' → H D.Wd = none → H D.Bg = none → H D.Wt = none → WvAt C H' D h kvs (begW h ws) → Q .non H'
section
variable {h : House} {f rank : List Nat → Nat} {s : WvS} {tr : List WStep}
theorem WOk.bl (W : HouseWv h f rank) (o : WOk h f rank s tr) : s.begun.length ≤ 30 := by
  have := sub_lenR (m := h.recs.map (·.1)) o.bg fun t ht => (o.bgR t ht).1
  rw [List.length_map] at this
  have := W.len
  omega
end
theorem seqL_fr {K : PySem.W.Frag} {S : List Addr} {H H' : Hp} {a : Addr} {xs : List V} (f : FrO S H H') (n : ¬ a ∈ S) (e : SqL K H a xs) : SqL K H' a xs := e.imp (fun r => r.imp (fun r => f _ _ n r) fun ⟨o, r⟩ => ⟨o, f _ _ n r⟩) id
section
variable {P : Program} {w : World} {K : PySem.W.Frag} {mg : Str → Option Value} {base : Heap} {C fI CNn fNn : Addr}
abbrev s_Weaving___init__ : Stmt := inClass (topS 11) 0
abbrev N_Weaving___init__ : List Str := ["self", "house", "wishes", "name"]
theorem sc_Weaving___init__ : FnScope N_Weaving___init__ ["self", "house", "wishes"] (defScope s_Weaving___init__) := ⟨rfl, rfl, rfl, by decide +kernel, rfl, by decide +kernel, by decide +kernel⟩

theorem ok_Weaving_init {fdN : FuncData} (T : Txt K mg) (ZWeaving : WeT K mg C fI) (ZNoName : OwnX K mg "NoName" "name" CNn fNn) (F_NoName___init__ : FnOk P w K mg base CX0 1 fNn fdN ["self", "name"] (spNNI CNn)) (B_NoName___init__ : Binds K fdN ["self", "name"] [])
    (MB : Met P w K mg base CX0 1 C "begin" ["self", "name"] (spBegin C)) {fd : FuncData} (F : Fun K "__init__" "Weaving.__init__" s_Weaving___init__ fI fd) : FnOk P w K mg base (L2.CX P w) 5 fI fd ["self", "house", "wishes"] (spWInit K C) := by
  obtain ⟨f_b, fd_b, F_Weaving_begin, M_Weaving_begin, B_Weaving_begin⟩ := MB
  refine F.okX (k := 4) sc_Weaving___init__ (fun vs H Q E h => ?_) (fun cdv A outer s H vs Q E hr h => ?_)
  · obtain ⟨_, _, _, _, _, _, _, _, _, _, _, rfl, _⟩ := h
    rfl
  obtain ⟨R0, dx, U, G, R, Wl, h, kvs, ws, f, rank, rfl, hW, hU, hG, hR, rk, hWl, WV, hws, q⟩ := h
  have hu : (cxOf (L2.CX P w) P w K mg base N_Weaving___init__ "Weaving.__init__" (defScope s_Weaving___init__) fI cdv A outer s H E).A.units + 1 < cLine := Nat.lt_of_le_of_lt (Nat.add_le_add_left (by decide : 1 ≤ 64) _) hr.units
  have Z := ZWeaving
  refine ⟨_, (pss_cons (ps_asg (pv 1) (pg_tup rfl (pgs_cons (pg_fld (pv 0)) (pgs_cons (pg_fld (pv 0)) pgs_nil))))
      (pss_cons (ps_fld (pv 0) (pe_callTy call_dictDA (by rfl) T.b_dict (by decide +kernel) (pa_cons (pe_fld (pv 0) rfl) pa_nil)) rfl)
      (pss_cons (ps_fld (pv 0) (pe_lstA pa_nil) rfl)
      (pss_cons (ps_fld (pv 0) pe_dnewA rfl)
      (pss_cons (ps_for (passes_of rfl) rfl (pi_list (pv 2)) (pg_name (i := 3) sc_Weaving___init__.nd rfl (Or.inl rfl))
        (pss_one (ps_if (PW.pt (pw_and (pt_cmp (pc_dnotin hu (pv 3) (pe_fld (pv 0) rfl))) (pw_and1 (pt_cmp (pc_dnotin hu (pv 3) (pe_fld (pv 0) rfl))))))
        (pss_one (ps_raise rfl (takes_of rfl rfl rfl rfl) (pmk_oex ZNoName.oex ZNoName.iC ZNoName.tI F_NoName___init__ (hr.mono (by first | decide | omega)) B_NoName___init__ .nil pass0 rfl ZNoName.g (pa_cons (pv 3) pa_nil))))
        pss_nil)))
      (pss_one (ps_for (passes_of rfl) rfl (pi_list (pv 2)) (pg_name (i := 3) sc_Weaving___init__.nd rfl (Or.inl rfl))
        (pss_one (ps_if (pt_cmp (pc_din hu (pv 3) (pe_fld (pv 0) rfl)))
        (pss_one (ps_expr (pe_meth (pv 0) ZWeaving.cl M_Weaving_begin F_Weaving_begin (hr.mono (by first | decide | omega)) B_Weaving_begin .nil pass0 (pa_cons (pv 3) pa_nil))))
        pss_nil))))))))), ?_⟩
  have l1 := putF_le "given" (.ref G) []
  have l2 := putF_le "recipes" (.ref R) (putF "given" (.ref G) [])
  simp only [List.length_nil] at l1
  have l1' : (putF "given" (.ref G) ([] : List (Str × V))).length < 1000 := by omega
  refine ⟨_, rfl, U, _, rfl, SqT.of hU, rfl, _, _, rfl, _, rfl, R0, C, dx, _, rfl, hW, Z.cl, Z.nG, (by show 0 < 1000; decide), _, _, rfl, _, rfl, R0, C, dx, _, rfl, upd_same, Z.cl, Z.nR, l1', rfl, ?_⟩
  have nRG : R0 ≠ G := fun z => by rw [z, hG] at hW; cases hW
  have nRR : R0 ≠ R := fun z => by rw [z, hR] at hW; cases hW
  obtain ⟨fs1, e1⟩ : ∃ fs1, fs1 = putF "recipes" (.ref R) (putF "given" (.ref G) []) := ⟨_, rfl⟩
  rw [← e1] at l2 ⊢
  have F1 : FrO [R0] H (upd (upd H R0 (.ins C dx (putF "given" (.ref G) []))) R0 (.ins C dx fs1)) := (FrO.upd1 List.mem_cons_self).trans (FrO.upd1 List.mem_cons_self)
  have eR1 : upd (upd H R0 (.ins C dx (putF "given" (.ref G) []))) R0 (.ins C dx fs1) R0 = some (.ins C dx fs1) := upd_same
  have fresh1 : ∀ x, upd (upd H R0 (.ins C dx (putF "given" (.ref G) []))) R0 (.ins C dx fs1) x = none → H x = none := fun x e => by
    have n : x ≠ R0 := fun z => by rw [z, upd_same] at e; cases e
    rwa [upd_ne n, upd_ne n] at e
  generalize upd (upd H R0 (.ins C dx (putF "given" (.ref G) []))) R0 (.ins C dx fs1) = X1 at F1 eR1 fresh1 ⊢
  have inS : ∀ {x : Addr}, x ≠ R0 → ¬ x ∈ [R0] := fun n z => n (List.mem_singleton.mp z)
  have lg1 : fs1.lookup ("given" : Str) = some (.ref G) := by rw [e1, lookup_putF, lookup_putF, if_neg (by decide +kernel), if_pos rfl]
  refine ⟨_, rfl, R0, C, dx, fs1, _, rfl, eR1, Z.cl, Z.nG, lg1, G, _, rfl, .inl (F1 _ _ (inS nRG.symm) hG), fun Wd X2 nWd x2' eWd => ?_⟩
  have x2 : Same X1 X2 := x2'
  have l3 := putF_le "worths" (.ref Wd) fs1
  refine ⟨_, rfl, R0, C, dx, fs1, rfl, x2 _ _ eR1, Z.cl, Z.nK, by omega, ?_⟩
  have nRd : R0 ≠ Wd := ne_of_none eR1 nWd
  obtain ⟨fs2, e2⟩ : ∃ fs2, fs2 = putF "worths" (.ref Wd) fs1 := ⟨_, rfl⟩
  rw [← e2] at l3 ⊢
  have F2 : FrO [R0] H (upd X2 R0 (.ins C dx fs2)) := (F1.trans (FrO.of x2)).trans (FrO.upd1 List.mem_cons_self)
  have eR2 : upd X2 R0 (.ins C dx fs2) R0 = some (.ins C dx fs2) := upd_same
  have eWd2 : upd X2 R0 (.ins C dx fs2) Wd = some (.dK (numsK h.given)) := by rw [upd_ne nRd.symm]; exact eWd
  have fresh2 : ∀ x, upd X2 R0 (.ins C dx fs2) x = none → H x = none := fun x e => by
    have n : x ≠ R0 := fun z => by rw [z, upd_same] at e; cases e
    rw [upd_ne n] at e
    exact fresh1 _ (x2.free e)
  generalize upd X2 R0 (.ins C dx fs2) = X3 at F2 eR2 eWd2 fresh2 ⊢
  refine ⟨le_line (Nat.le_of_ble_eq_true rfl), fun Bg X4 nBg x4' eBg => ?_⟩
  have x4 : Same X3 X4 := x4'
  have l4 := putF_le "begun" (.ref Bg) fs2
  refine ⟨_, rfl, R0, C, dx, fs2, rfl, x4 _ _ eR2, Z.cl, Z.nB, by omega, ?_⟩
  have nRb : R0 ≠ Bg := ne_of_none eR2 nBg
  obtain ⟨fs3, e3⟩ : ∃ fs3, fs3 = putF "begun" (.ref Bg) fs2 := ⟨_, rfl⟩
  rw [← e3] at l4 ⊢
  have F3 : FrO [R0] H (upd X4 R0 (.ins C dx fs3)) := (F2.trans (FrO.of x4)).trans (FrO.upd1 List.mem_cons_self)
  have eR3 : upd X4 R0 (.ins C dx fs3) R0 = some (.ins C dx fs3) := upd_same
  have eWd3 : upd X4 R0 (.ins C dx fs3) Wd = some (.dK (numsK h.given)) := by rw [upd_ne nRd.symm]; exact x4 _ _ eWd2
  have eBg3 : upd X4 R0 (.ins C dx fs3) Bg = some (.lst []) := by rw [upd_ne nRb.symm]; exact eBg
  have fresh3 : ∀ x, upd X4 R0 (.ins C dx fs3) x = none → H x = none := fun x e => by
    have n : x ≠ R0 := fun z => by rw [z, upd_same] at e; cases e
    rw [upd_ne n] at e
    exact fresh2 _ (x4.free e)
  generalize upd X4 R0 (.ins C dx fs3) = X5 at F3 eR3 eWd3 eBg3 fresh3 ⊢
  refine fun Wt X6 nWt x6' eWt => ?_
  have x6 : Same X5 X6 := x6'
  have l5 := putF_le "waits" (.ref Wt) fs3
  refine ⟨_, rfl, R0, C, dx, fs3, rfl, x6 _ _ eR3, Z.cl, Z.nW, by omega, ?_⟩
  have nRt : R0 ≠ Wt := ne_of_none eR3 nWt
  obtain ⟨fs4, e4⟩ : ∃ fs4, fs4 = putF "waits" (.ref Wt) fs3 := ⟨_, rfl⟩
  rw [← e4] at ⊢
  have F4 : FrO [R0] H (upd X6 R0 (.ins C dx fs4)) := (F3.trans (FrO.of x6)).trans (FrO.upd1 List.mem_cons_self)
  have eR4 : upd X6 R0 (.ins C dx fs4) R0 = some (.ins C dx fs4) := upd_same
  have eWd4 : upd X6 R0 (.ins C dx fs4) Wd = some (.dK (numsK h.given)) := by rw [upd_ne nRd.symm]; exact x6 _ _ eWd3
  have eBg4 : upd X6 R0 (.ins C dx fs4) Bg = some (.lst []) := by rw [upd_ne nRb.symm]; exact x6 _ _ eBg3
  have eWt4 : upd X6 R0 (.ins C dx fs4) Wt = some (.dK []) := by rw [upd_ne nRt.symm]; exact eWt
  generalize upd X6 R0 (.ins C dx fs4) = X7 at F4 eR4 eWd4 eBg4 eWt4 ⊢
  have lk : ∀ g : Str, fs4.lookup g = if g = "waits" then some (.ref Wt) else if g = "begun" then some (.ref Bg) else if g = "worths" then some (.ref Wd) else if g = "recipes" then some (.ref R) else if g = "given" then some (.ref G) else none := fun g => by
    rw [e4, lookup_putF, e3, lookup_putF, e2, lookup_putF, e1, lookup_putF, lookup_putF]
    rfl
  have eG7 := F4 _ _ (inS nRG.symm) hG
  have eRr7 := F4 _ _ (inS nRR.symm) hR
  have kp : Keep H X7 := fun b ys e => F4 b _ (inS fun z => by rw [z, hW] at e; cases e) e
  have nWG : Wd ≠ G := fun z => by rw [z] at nWd; rw [F1 _ _ (inS nRG.symm) hG] at nWd; cases nWd
  have nWR : Wd ≠ R := fun z => by rw [z] at nWd; rw [F1 _ _ (inS nRR.symm) hR] at nWd; cases nWd
  have nTG : Wt ≠ G := fun z => by rw [z] at nWt; rw [F3 _ _ (inS nRG.symm) hG] at nWt; cases nWt
  have nTR : Wt ≠ R := fun z => by rw [z] at nWt; rw [F3 _ _ (inS nRR.symm) hR] at nWt; cases nWt
  have nWT : Wd ≠ Wt := ne_of_none eWd3 nWt
  obtain ⟨D, hD⟩ : ∃ D : WvD, D = ⟨R0, dx, G, R, Wd, Bg, Wt⟩ := ⟨_, rfl⟩
  have A0 : WvAt C X7 D h kvs (begW h []) := by
    rw [hD]
    refine ⟨⟨fs4, eR4, ?_, ?_, ?_, ?_, ?_, ?_, ?_, ?_, ?_, ?_⟩, eG7, eRr7, rk.imp fun _ _ z => z.keep kp, eWd4, eBg4, eWt4, nWT, nWG, nWR, nTG, nTR⟩
    all_goals rw [lk]
    all_goals (repeat first | rw [if_neg (by decide +kernel)] | rw [if_pos rfl])
  have nWd0 : H D.Wd = none := by rw [hD]; exact fresh1 _ nWd
  have nBg0 : H D.Bg = none := by rw [hD]; exact fresh2 _ nBg
  have nWt0 : H D.Wt = none := by rw [hD]; exact fresh3 _ nWt
  have dW : D.W = R0 := by rw [hD]
  have hWl7 : SqL K X7 Wl (txs ws) := hWl.imp (fun r => r.imp (fun r => F4 _ _ (inS fun z => by rw [z, hW] at r; cases r) r) fun ⟨o, r⟩ => ⟨o, F4 _ _ (inS fun z => by rw [z, hW] at r; cases r) r⟩) id
  have ownF : ∀ {A B : Hp}, FrO D.own A B → A = X7 → SqL K A Wl (txs ws) → SqL K B Wl (txs ws) := fun {A B} g e r => by
    subst e
    have nn : ∀ {u : HO}, A Wl = some u → (∀ z, u ≠ .dK z) → Wl ≠ D.Bg → ¬ Wl ∈ D.own := fun e hd nb z => by
      unfold WvD.own at z
      simp only [List.mem_cons, List.not_mem_nil, or_false] at z
      rcases z with z | z | z
      · rw [z, A0.wd] at e; exact hd _ (Option.some.inj e).symm
      · exact nb z
      · rw [z, A0.wt] at e; exact hd _ (Option.some.inj e).symm
    have nB : ∀ {u : HO}, H Wl = some u → Wl ≠ D.Bg := fun e z => by rw [z, nBg0] at e; cases e
    rcases hWl with (hh | ⟨o, hh⟩) | hh
    · exact .inl (.inl (g _ _ (nn (F4 _ _ (inS fun z => by rw [z, hW] at hh; cases hh) hh) (fun _ z => by cases z) (nB hh)) (F4 _ _ (inS fun z => by rw [z, hW] at hh; cases hh) hh)))
    · exact .inl (.inr ⟨o, g _ _ (nn (F4 _ _ (inS fun z => by rw [z, hW] at hh; cases hh) hh) (fun _ z => by cases z) (nB hh)) (F4 _ _ (inS fun z => by rw [z, hW] at hh; cases hh) hh)⟩)
    · exact .inr hh
  -- all wishes are names
  refine ⟨_, rfl, Wl, rfl, ⟨_, hWl7⟩, for_list (xs := txs ws) (fun j σ Y => ∃ w3 : Option V, σ = [some (.ref R0), some (.ref U), some (.ref Wl), w3] ∧ Y = X7) ⟨none, rfl, rfl⟩ (fun j σ Y _ ⟨_, _, e⟩ => e ▸ hWl7) ?_ ?_⟩
  · rintro j y σ Y hy ⟨w3, rfl, rfl⟩
    obtain ⟨t, ht, rfl⟩ := txs_at' hy
    refine in_name rfl ?_
    obtain ⟨fs, h1, k1, k2, k3, k4, k5, k6⟩ := A0.ins
    rw [dW] at h1
    have dg := DGet.k (k := kT (SX.S t)) A0.g
    rw [val_seen] at dg
    refine ⟨_, rfl, _, rfl, R0, C, _, fs, _, rfl, h1, Z.cl, Z.nG, k1, D.G, _, rfl, dg, _, rfl, ?_⟩
    cases hs : seen h.given t with
    | some x => exact iteF ⟨_, rfl, rfl⟩
    | none =>
      have tr : t ∈ h.recs.map (·.1) := (List.mem_append.mp (hws t (List.mem_of_getElem? ht)).1).resolve_left (seen_none hs)
      refine iteT ⟨_, rfl, _, rfl, R0, C, _, fs, _, rfl, h1, Z.cl, Z.nR, k2, D.R, _, rfl, DGet.k (k := kT (SX.S t)) A0.r, _, rfl, ?_⟩
      rcases rec_val A0.rk t with ⟨a, _⟩ | ⟨r, v, _, _, b, _⟩
      · exact absurd tr a
      · rw [b]
        exact iteF ⟨_, rfl, rfl⟩
  rintro σ Y ⟨w3, rfl, rfl⟩
  refine ⟨_, rfl, Wl, rfl, ⟨_, hWl7⟩, for_list (xs := txs ws) (fun j σ Z => ∃ w3 : Option V, σ = [some (.ref R0), some (.ref U), some (.ref Wl), w3] ∧ FrO D.own Y Z ∧ WvAt C Z D h kvs (begW h (ws.take j))) ⟨w3, rfl, FrO.refl _ _, A0⟩ (fun j σ Z _ ⟨_, _, e, _⟩ => ownF e rfl hWl7) ?_ ?_⟩
  · rintro j y σ X hy ⟨w3, rfl, fX, aX⟩
    obtain ⟨t, ht, rfl⟩ := txs_at' hy
    refine in_name rfl ?_
    obtain ⟨fs, h1, k1, k2, k3, k4, k5, k6, _⟩ := id aX.ins
    rw [dW] at h1
    have bl := (begW_ok WV (ws.take j) fun t ht => (hws t (List.mem_of_mem_take ht)).2).bl WV
    have stp : begW h (ws.take (j + 1)) = if t ∈ h.recs.map (·.1) then { begW h (ws.take j) with begun := addB (begW h (ws.take j)).begun t } else begW h (ws.take j) := by
      unfold begW
      rw [List.take_add_one, ht, List.foldl_append]
      show WvS.mk h.given (if t ∈ h.recs.map (·.1) then _ else _) [] = _
      split <;> rfl
    refine ⟨_, rfl, _, rfl, R0, C, _, fs, _, rfl, h1, Z.cl, Z.nR, k2, D.R, _, rfl, DGet.k (k := kT (SX.S t)) aX.r, _, rfl, ?_⟩
    rcases rec_val aX.rk t with ⟨a, b⟩ | ⟨r, v, _, a, b, _⟩
    · rw [b]
      refine iteF ⟨_, rfl, fX, ?_⟩
      rw [stp, if_neg a]
      exact aX
    · rw [b]
      refine iteT ⟨_, rfl, R0, _, fs, rfl, h1, k6, _, rfl, D, h, kvs, _, t, by rw [dW]; rfl, aX, by omega, fun X' f' a' => ⟨_, rfl, fX.trans f', ?_⟩⟩
      rw [stp, if_pos a]
      exact a'
  rintro σ X ⟨w3, rfl, fX, aX⟩
  rw [txs_len, List.take_of_length_le (Nat.le_refl _)] at aX
  refine q D X dW (fun b u n e => ?_) nWd0 nBg0 nWt0 aX
  refine fX b u (fun z => ?_) (F4 b u n e)
  unfold WvD.own at z
  simp only [List.mem_cons, List.not_mem_nil, or_false] at z
  rcases z with z | z | z
  · rw [z, nWd0] at e; cases e
  · rw [z, nBg0] at e; cases e
  · rw [z, nWt0] at e; cases e
end
/-! ### the class Weaving: goes on -/
open LamX NdefX
def stepV : WStep → List V
  | .waits n u => [.str (SX.S n), .str "waits", .str (SX.S u)]
  | .known n v => [.str (SX.S n), .str "known", .int v]
def DueW (H : Hp) (d : V) (o : Out) : Prop := (∃ t s, d = .ref t ∧ o = .read s ∧ H t = some (.tup [.str "read", .str (SX.S s)])) ∨ ∃ t x, d = .ref t ∧ o = .worth x ∧ H t = some (.tup [.str "worth", .int x])
structure GW (kn rd : List Pr) : Prop where
  nd : (rd.map (·.1)).Nodup
  kn : ∀ p ∈ rd, seen kn p.1 = some p.2
theorem GW.sub {kn rd : List Pr} (g : GW kn rd) : ∀ t v, seen rd t = some v → seen kn t = some v := fun t v e => g.kn _ (seen_mem e)
theorem GW.len {kn rd : List Pr} (g : GW kn rd) : rd.length ≤ kn.length := by
  have := sub_lenR (m := kn.map (·.1)) g.nd fun s hs => by
    obtain ⟨p, hp, e⟩ := List.mem_map.mp hs
    rw [← e]
    exact List.mem_map.mpr ⟨_, seen_mem (g.kn p hp), rfl⟩
  rwa [List.length_map, List.length_map] at this
theorem GW.add {kn rd : List Pr} (g : GW kn rd) {u : List Nat} {x : Int} (hp : seen kn u = some x) (n : seen rd u = none) : GW kn (rd ++ [(u, x)]) := by
  refine ⟨?_, fun q hq => ?_⟩
  · rw [List.map_append]
    refine List.nodup_append.mpr ⟨g.nd, by simp, fun a ha b hb e => ?_⟩
    rw [List.mem_singleton.mp hb] at e
    have e' : a = u := e
    exact seen_none n (by rw [← e']; exact ha)
  · rcases List.mem_append.mp hq with h | h
    · exact g.kn q h
    · rw [List.mem_singleton.mp h]; exact hp
theorem popW_step {t o : List Nat} {w : List (List Nat × List Nat)} {b : List (List Nat)} {j : Nat} (ho : b[j]? = some o) : popW t w (b.take (j + 1)) = if getA (popW t w (b.take j)) o = some t then dropR (popW t w (b.take j)) o else popW t w (b.take j) := by
  unfold popW
  rw [List.take_add_one, ho, List.foldl_append]
  rfl
def spGoOn (C : Addr) : Sp := fun vs H Q _ => ∃ (D : WvD) (h : House) (kvs : List (Key × V)) (s : WvS) (tr : List WStep) (f rank : List Nat → Nat) (t : List Nat), vs = [.ref D.W, .str (SX.S t)] ∧ WvAt C H D h kvs s ∧ HouseWv h f rank ∧ WOk h f rank s tr ∧ t ∈ rdyW s ∧
  ∀ H' T, FrO D.own H H' → WvAt C H' D h kvs (goW h s t).1 → H T = none → H' T = some (.tup (stepV (goW h s t).2)) → Q (.ref T) H'
section
variable {P : Program} {w : World} {K : PySem.W.Frag} {mg : Str → Option Value} {base : Heap} {C fI CNn fNn CNr : Addr}
abbrev s_Weaving_go_on : Stmt := inClass (topS 11) 4
abbrev N_Weaving_go_on : List Str := ["self", "name", "reads", "told", "other"]
theorem sc_Weaving_go_on : FnScope N_Weaving_go_on ["self", "name"] (defScope s_Weaving_go_on) := ⟨rfl, rfl, rfl, by decide +kernel, rfl, by decide +kernel, by decide +kernel⟩

theorem ok_Weaving_go_on {fdN : FuncData} (T : Txt K mg) (ZWeaving : WeT K mg C fI) (ZNoName : OwnX K mg "NoName" "name" CNn fNn) (F_NoName___init__ : FnOk P w K mg base CX0 1 fNn fdN ["self", "name"] (spNNI CNn)) (B_NoName___init__ : Binds K fdN ["self", "name"] [])
    (W1 : ∃ tk, mg "WAITS" = some (.str "waits" tk)) (W2 : ∃ tk, mg "KNOWN" = some (.str "known" tk))
    (C_bh : Cal P w K mg base (L2.CX P w) 20 "behind" ["r", "reads"] (spBhd CNr)) (MB : Met P w K mg base CX0 1 C "begin" ["self", "name"] (spBegin C)) (M : IsMet K C "go_on" "Weaving.go_on" s_Weaving_go_on ["self", "name"]) : Met P w K mg base (L2.CX P w) 25 C "go_on" ["self", "name"] (spGoOn C) := by
  obtain ⟨f_b, fd_b, F_Weaving_begin, M_Weaving_begin, B_Weaving_begin⟩ := MB
  have C_behind := C_bh.mono (show 20 ≤ 24 by decide)
  obtain ⟨_, g_WAITS⟩ := W1
  obtain ⟨_, g_KNOWN⟩ := W2
  refine M.metX (k := 24) sc_Weaving_go_on (fun vs H Q E h => ?_) (fun fa cdv A outer s H vs Q E hr h => ?_)
  · obtain ⟨_, _, _, _, _, _, _, _, rfl, _⟩ := h
    rfl
  obtain ⟨D, h, kvs, s0, tr, f, rank, t, rfl, a, WV, o, ht, q⟩ := h
  have hu : (cxOf (L2.CX P w) P w K mg base N_Weaving_go_on "Weaving.go_on" (defScope s_Weaving_go_on) fa cdv A outer s H E).A.units + 1 < cLine := Nat.lt_of_le_of_lt (Nat.add_le_add_left (by decide : 1 ≤ 64) _) hr.units
  have Z := ZWeaving
  obtain ⟨r, hr0, hm, hc⟩ := goW_case WV o ht
  have rv := WV.v.rcp _ hm
  obtain ⟨hNb, hbit⟩ := WV.bit _ hm
  have wn := rv.2.1
  have d9 : r.dep ≤ 9 := Nat.le_succ_of_le rv.2.2.1
  obtain ⟨v, hv, hRv⟩ : ∃ v, valV kvs (kT (SX.S t)) = some v ∧ Rec H r v := by
    rcases rec_val a.rk t with ⟨n, _⟩ | ⟨r', v, e, _, e2, e3⟩
    · exact absurd (o.bgR t (mem_rdy.mp ht).1).1 n
    · rw [hr0] at e; cases e; exact ⟨v, e2, e3⟩
  have bl := o.bl WV
  have tl := o.len WV
  have kl := o.kl
  have wl := o.wl
  have small : ∀ {rd : List Pr}, GW s0.known rd → (∀ p ∈ rd, Nm p.1) → Small rd := fun {rd} g hn p hp => ⟨hn p hp, Nat.lt_of_lt_of_le (o.kn _ _ (g.kn p hp)) (Nat.pow_le_pow_right (by decide) (WV.f4 _))⟩
  have tell : ∀ {H1 : Hp} {rd : List Pr} {Q1 : VK}, ((∃ t, outOf rd r = .read t) ∨ ∃ x, outOf rd r = .worth x) → (∀ d H', Same H1 H' → DueW H' d (outOf rd r) → Q1 d H') → ∀ {Qn : Hp → Prop}, TellO Q1 Qn (outOf rd r) H1 := fun {H1 rd Q1} ho k {Qn} =>
    ⟨fun s t H' e s1 ht => k _ H' s1 (.inl ⟨t, s, rfl, e, ht⟩), fun x t H' e s1 ht => k _ H' s1 (.inr ⟨t, x, rfl, e, ht⟩), fun H' e _ => by
      rcases ho with ⟨t, h⟩ | ⟨x, h⟩
      · rw [h] at e; cases e
      · rw [h] at e; cases e⟩
  refine ⟨_, (pss_cons (ps_set (i := 2) sc_Weaving_go_on.nd rfl (Or.inl rfl) (pe_lstA pa_nil))
      (pss_cons (ps_set (i := 3) sc_Weaving_go_on.nd rfl (Or.inl rfl) (pe_cal C_behind (hr.mono (by first | decide | omega)) (passes_call (takes_of rfl rfl rfl rfl) (fun _ _ _ _ h => h)) (pa_cons (pe_dget hu (pe_fld (pv 0) rfl) (pv 1) (fun _ _ => rfl)) (pa_cons (pv 2) pa_nil))))
      (pss_cons (ps_while (passes_of rfl) (PW.pt (pw_and (pt_cmpR op_eq (pe_ix (r := rIxT K) ix_tup (pv 3) pe_int (fun _ _ => rfl)) pe_str (nomark _)) (pw_and1 (pt_cmp (pc_din hu (pe_ix (r := rIxT K) ix_tup (pv 3) pe_int (fun _ _ => rfl)) (pe_fld (pv 0) rfl))))))
        (pss_cons (ps_expr (pe_bm PySem.F.plainAttrs_list PySem.F.slot_list_append PySem.F.type_list_append mt_append (pv 2) (pa_cons (pe_tupA (pa_cons (pe_ix (r := rIxT K) ix_tup (pv 3) pe_int (fun _ _ => rfl)) (pa_cons (pe_dget hu (pe_fld (pv 0) rfl) (pe_ix (r := rIxT K) ix_tup (pv 3) pe_int (fun _ _ => rfl)) (fun _ _ => rfl)) pa_nil))) pa_nil)))
      (pss_one (ps_set (i := 3) sc_Weaving_go_on.nd rfl (Or.inl rfl) (pe_cal C_behind (hr.mono (by first | decide | omega)) (passes_call (takes_of rfl rfl rfl rfl) (fun _ _ _ _ h => h)) (pa_cons (pe_dget hu (pe_fld (pv 0) rfl) (pv 1) (fun _ _ => rfl)) (pa_cons (pv 2) pa_nil)))))))
      (pss_cons (ps_if (pt_cmpR op_eq (pe_ix (r := rIxT K) ix_tup (pv 3) pe_int (fun _ _ => rfl)) pe_str (nomark _))
        (pss_cons (ps_if (pt_cmp (pc_dnotin hu (pe_ix (r := rIxT K) ix_tup (pv 3) pe_int (fun _ _ => rfl)) (pe_fld (pv 0) rfl)))
        (pss_one (ps_raise rfl (takes_of rfl rfl rfl rfl) (pmk_oex ZNoName.oex ZNoName.iC ZNoName.tI F_NoName___init__ (hr.mono (by first | decide | omega)) B_NoName___init__ .nil pass0 rfl ZNoName.g (pa_cons (pe_ix (r := rIxT K) ix_tup (pv 3) pe_int (fun _ _ => rfl)) pa_nil))))
        pss_nil)
      (pss_cons (ps_expr (pe_meth (pv 0) ZWeaving.cl M_Weaving_begin F_Weaving_begin (hr.mono (by first | decide | omega)) B_Weaving_begin .nil pass0 (pa_cons (pe_ix (r := rIxT K) ix_tup (pv 3) pe_int (fun _ _ => rfl)) pa_nil)))
      (pss_cons (ps_dput hu (pe_fld (pv 0) rfl) (pv 1) (pe_ix (r := rIxT K) ix_tup (pv 3) pe_int (fun _ _ => rfl)) rfl)
      (pss_one (ps_ret (pe_tupA (pa_cons (pv 1) (pa_cons (pe_glob (v := .str _) rfl g_WAITS ⟨_, rfl⟩) (pa_cons (pe_ix (r := rIxT K) ix_tup (pv 3) pe_int (fun _ _ => rfl)) pa_nil)))))))))
        pss_nil)
      (pss_cons (ps_dput hu (pe_fld (pv 0) rfl) (pv 1) (pe_ix (r := rIxT K) ix_tup (pv 3) pe_int (fun _ _ => rfl)) rfl)
      (pss_cons (ps_for (passes_of rfl) rfl (pi_list (pe_fld (pv 0) rfl)) (pg_name (i := 4) sc_Weaving_go_on.nd rfl (Or.inl rfl))
        (pss_one (ps_if (pt_cmpR op_eq (pe_dget1 hu (pe_fld (pv 0) rfl) (pv 4) ⟨rfl, rfl, rfl, rfl⟩) (pv 1) (nomark _))
        (pss_one (ps_expr (pe_dpop1 (pe_fld (pv 0) rfl) (pv 4) ⟨rfl, rfl, rfl, rfl⟩)))
        pss_nil)))
      (pss_one (ps_ret (pe_tupA (pa_cons (pv 1) (pa_cons (pe_glob (v := .str _) rfl g_KNOWN ⟨_, rfl⟩) (pa_cons (pe_ix (r := rIxT K) ix_tup (pv 3) pe_int (fun _ _ => rfl)) pa_nil)))))))))))), ?_⟩
  refine ⟨le_line (Nat.le_of_ble_eq_true rfl), fun Rl H1 nRl h1' eRl => ?_⟩
  have h1 : Same H H1 := h1'
  obtain ⟨fs, i0, l1, l2, l3, l4, l5, l6, _⟩ := a.ins
  have dgR : ∀ {X : Hp}, Same H X → DGet X D.R (.str (SX.S t)) (some v) := fun {X} s => by
    have := DGet.k (k := kT (SX.S t)) (s _ _ a.r)
    rw [hv] at this
    exact this
  refine ⟨_, rfl, D.W, C, D.dx, fs, _, rfl, h1 _ _ i0, Z.cl, Z.nR, l2, _, rfl, D.R, _, rfl, dgR h1, _, rfl, v, Rl, r, [], [], rfl, hRv.same h1, hNb, d9, eRl, trivial, Nat.zero_le _, fun _ h => (nomatch h), tell (out_first r) fun d H2 s2 hd => ?_⟩
  refine ⟨fun m σ X => ∃ (d : V) (rd : List Pr) (xs : List V), σ = [some (.ref D.W), some (.str (SX.S t)), some (.ref Rl), some d, none] ∧ Same H X ∧ X Rl = some (.lst xs) ∧ Prs X rd xs ∧ DueW X d (outOf rd r) ∧ GW s0.known rd ∧ (∀ p ∈ rd, Nm p.1) ∧ m = s0.known.length - rd.length,
    ⟨_, d, [], [], rfl, h1.trans s2, s2 _ _ eRl, trivial, hd, ⟨List.nodup_nil, fun _ h => (nomatch h)⟩, fun _ h => (nomatch h), rfl⟩, ?_⟩
  clear hd s2 eRl h1 h1'
  rintro m σ X ⟨d, rd, xs, rfl, sX, eR, hP, hd, hg, hnm, rfl⟩
  have hxl := hP.len
  have hgl := hg.len
  have aX := a.same sX
  have iX := sX _ _ i0
  have fin0 : ∀ {X' : Hp} {T : Addr}, FrO D.own X X' → FrO D.own H X' := fun f => (FrO.of sX).trans f
  rcases hd with ⟨tt, u, rfl, ho, het⟩ | ⟨tt, x, rfl, ho, het⟩
  · obtain ⟨hgo, _⟩ := out_next 0 ho
    obtain ⟨hmem, hseen⟩ := go_name hNb (Nat.zero_le _) hgo
    refine ⟨_, rfl, tt, _, _, _, rfl, rfl, SqT.of het, rfl, rfl, _, rfl, iteY rfl ?_⟩
    have dg := DGet.k (k := kT (SX.S u)) aX.wd
    rw [val_seen] at dg
    refine ⟨_, rfl, tt, _, _, _, rfl, rfl, SqT.of het, rfl, _, rfl, D.W, C, D.dx, fs, _, rfl, iX, Z.cl, Z.nK, l3, D.Wd, _, rfl, dg, _, rfl, ?_⟩
    cases hk : seen s0.known u with
    | some x =>
      rw [hk] at dg
      refine iteT ?_
      refine ⟨_, fun σ' H' h => h, ?_⟩
      refine ⟨_, rfl, .inl ⟨rfl, _, SqL.of eR⟩, _, rfl, tt, _, _, _, rfl, rfl, SqT.of het, rfl, _, rfl, D.W, C, D.dx, fs, _, rfl, iX, Z.cl, Z.nK, l3, _, rfl, tt, _, _, _, rfl, rfl, SqT.of het, rfl, D.Wd, _, rfl, dg, le_line (Nat.le_of_ble_eq_true rfl), fun e X1 ne x1' ee => ?_⟩
      have x1 : Same X X1 := x1'
      have eR1 := x1 _ _ eR
      refine ⟨Rl, _, _, rfl, rfl, eR1, lt_line (by omega), ?_⟩
      have sX2 : Same H (upd X1 Rl (.lst (xs ++ [.ref e]))) := same_upd (sX.trans x1) nRl _
      have eR2 : upd X1 Rl (.lst (xs ++ [.ref e])) Rl = some (.lst (xs ++ [.ref e])) := upd_same
      have P2 : Prs (upd X1 Rl (.lst (xs ++ [.ref e]))) (rd ++ [(u, x)]) (xs ++ [.ref e]) := (Prs.snoc (p := (u, x)) ee (hP.same x1)).keep (keep_lst eR1)
      generalize upd X1 Rl (.lst (xs ++ [.ref e])) = X2 at sX2 eR2 P2 ⊢
      have hg2 := hg.add hk hseen
      have hgl2 := hg2.len
      rw [List.length_append] at hgl2
      have hgl3 : rd.length + 1 ≤ s0.known.length := hgl2
      have hnm2 : ∀ p ∈ rd ++ [(u, x)], Nm p.1 := fun p hp => by
        rcases List.mem_append.mp hp with h | h
        · exact hnm p h
        · rw [List.mem_singleton.mp h]; exact nms_ok hNb u hmem
      obtain ⟨_, hnext⟩ := out_next x ho
      refine ⟨_, rfl, D.W, C, D.dx, fs, _, rfl, sX2 _ _ i0, Z.cl, Z.nR, l2, _, rfl, D.R, _, rfl, dgR sX2, _, rfl, v, Rl, r, rd ++ [(u, x)], _, rfl, hRv.same sX2, hNb, d9, eR2, P2, by rw [List.length_append]; show rd.length + 1 ≤ 1000000; omega, small hg2 hnm2, tell hnext fun d X3 s3 hd => ?_⟩
      exact ⟨_, by rw [List.length_append]; show s0.known.length - (rd.length + 1) < _; omega, d, rd ++ [(u, x)], _, rfl, sX2.trans s3, s3 _ _ eR2, P2.same s3, hd, hg2, hnm2, rfl⟩
    | none =>
      refine iteF ?_
      have erk : rkD s0.known r = .read u := rkD_same hg.sub hk (by rw [rkD_out hg.nd (by rw [ho]; exact fun z => nomatch z), ho])
      rcases hc with ⟨v', e', _⟩ | ⟨u', e', n', m', hu', hrk', eg⟩
      · rw [erk] at e'; cases e'
      rw [erk] at e'
      cases e'
      rw [eg] at q
      refine ⟨_, rfl, tt, _, _, _, rfl, rfl, SqT.of het, rfl, rfl, _, rfl, iteY rfl ?_⟩
      have dr := DGet.k (k := kT (SX.S u)) aX.r
      rcases rec_val aX.rk u with ⟨no, _⟩ | ⟨ru, vu, _, _, eu, _⟩
      · exact absurd hu' no
      rw [eu] at dr
      refine ⟨_, rfl, tt, _, _, _, rfl, rfl, SqT.of het, rfl, _, rfl, D.W, C, D.dx, fs, _, rfl, iX, Z.cl, Z.nR, l2, D.R, _, rfl, dr, _, rfl, iteF ?_⟩
      refine ⟨_, rfl, D.W, D.dx, fs, rfl, iX, l6, _, rfl, tt, _, _, _, rfl, rfl, SqT.of het, rfl, D, h, kvs, s0, u, rfl, aX, by omega, fun X1 f1 a1 => ?_⟩
      have nt : ¬ tt ∈ D.own := fun z => by
        unfold WvD.own at z
        simp only [List.mem_cons, List.not_mem_nil, or_false] at z
        rcases z with z | z | z
        · rw [z, aX.wd] at het; cases het
        · rw [z, aX.bg] at het; cases het
        · rw [z, aX.wt] at het; cases het
      have het1 := f1 _ _ nt het
      obtain ⟨fs1, j0, k1, k2, k3, k4, k5, k6⟩ := a1.ins
      refine ⟨_, rfl, tt, _, _, _, rfl, rfl, SqT.of het1, rfl, _, rfl, D.W, C, D.dx, fs1, _, rfl, j0, Z.cl, Z.nW, k5, _, rfl, D.Wt, _, rfl, DPut.k (k := kT (SX.S t)) a1.wt (lt_line (by rw [wtK_len]; show s0.waits.length < _; omega)), ?_⟩
      rw [wt_put]
      have a2 := a1.setW (putA s0.waits t u)
      have f2 : FrO D.own X1 (upd X1 D.Wt (.dK (wtK (putA s0.waits t u)))) := FrO.upd1 (List.mem_cons_of_mem _ (List.mem_cons_of_mem _ List.mem_cons_self))
      have het2 := f2 _ _ nt het1
      have nTf : ∀ x, upd X1 D.Wt (.dK (wtK (putA s0.waits t u))) x = none → ∀ b, X1 b = none ∨ True := fun _ _ _ => .inr trivial
      refine ⟨_, rfl, _, rfl, tt, _, _, _, rfl, rfl, SqT.of het2, rfl, le_line (Nat.le_of_ble_eq_true rfl), fun T X3 nT x3' eT => ?_⟩
      have x3 : Same (upd X1 D.Wt (.dK (wtK (putA s0.waits t u)))) X3 := x3'
      refine q X3 T (((FrO.of sX).trans f1).trans (f2.trans (FrO.of x3))) (a2.same x3) ?_ eT
      cases hT : H T with
      | none => rfl
      | some y =>
        have hT1 := sX _ _ hT
        by_cases c : T ∈ D.own
        · exfalso
          unfold WvD.own at c
          simp only [List.mem_cons, List.not_mem_nil, or_false] at c
          rcases c with c | c | c
          · rw [c, a2.wd] at nT; cases nT
          · rw [c, a2.bg] at nT; cases nT
          · rw [c, a2.wt] at nT; cases nT
        · rw [(f1.trans f2) _ _ c hT1] at nT; cases nT
  · refine ⟨_, rfl, tt, _, _, _, rfl, rfl, SqT.of het, rfl, rfl, _, rfl, iteN (sne (by decide +kernel)) ?_⟩
    have erk : rkD s0.known r = .worth x := rkD_more hg.sub (by rw [rkD_out hg.nd (by rw [ho]; exact fun z => nomatch z), ho])
    rcases hc with ⟨v', e', eg⟩ | ⟨u', e', _⟩
    case inr => rw [erk] at e'; cases e'
    rw [erk] at e'
    cases e'
    rw [eg] at q
    refine ⟨_, rfl, tt, _, _, _, rfl, rfl, SqT.of het, rfl, rfl, _, rfl, iteN (sne (by decide +kernel)) ?_⟩
    refine ⟨_, rfl, tt, _, _, _, rfl, rfl, SqT.of het, rfl, _, rfl, D.W, C, D.dx, fs, _, rfl, iX, Z.cl, Z.nK, l3, _, rfl, D.Wd, _, rfl, DPut.k (k := kT (SX.S t)) aX.wd (lt_line (by rw [numsK_len]; omega)), ?_⟩
    rw [nums_putA]
    have a1 := aX.setK (putA s0.known t x)
    have f1 : FrO D.own X (upd X D.Wd (.dK (numsK (putA s0.known t x)))) := FrO.upd1 List.mem_cons_self
    have nt : ¬ tt ∈ D.own := fun z => by
      unfold WvD.own at z
      simp only [List.mem_cons, List.not_mem_nil, or_false] at z
      rcases z with z | z | z
      · rw [z, aX.wd] at het; cases het
      · rw [z, aX.bg] at het; cases het
      · rw [z, aX.wt] at het; cases het
    have i1 := f1 _ _ (fun z => by
      unfold WvD.own at z
      simp only [List.mem_cons, List.not_mem_nil, or_false] at z
      rcases z with z | z | z
      · rw [z, aX.wd] at iX; cases iX
      · rw [z, aX.bg] at iX; cases iX
      · rw [z, aX.wt] at iX; cases iX) iX
    generalize upd X D.Wd (.dK (numsK (putA s0.known t x))) = X1 at a1 f1 i1 ⊢
    refine ⟨_, rfl, D.W, C, D.dx, fs, _, rfl, i1, Z.cl, Z.nB, l4, D.Bg, rfl, ⟨_, SqL.of a1.bg⟩, for_list (xs := txs s0.begun) (fun j σ Y => ∃ w4 : Option V, σ = [some (.ref D.W), some (.str (SX.S t)), some (.ref Rl), some (.ref tt), w4] ∧ FrO D.own X1 Y ∧ WvAt C Y D h kvs ⟨putA s0.known t x, s0.begun, popW t s0.waits (s0.begun.take j)⟩) ⟨none, rfl, FrO.refl _ _, a1⟩ (fun j σ Y _ ⟨_, _, _, e⟩ => SqL.of e.bg) ?_ ?_⟩
    · rintro j y σ Y hy ⟨w4, rfl, fY, aY⟩
      obtain ⟨oo, hoo, rfl⟩ := txs_at' hy
      refine in_name rfl ?_
      obtain ⟨fs2, j0, k1, k2, k3, k4, k5, k6⟩ := aY.ins
      have dw := DGet.k (k := kT (SX.S oo)) aY.wt
      rw [wt_val] at dw
      refine ⟨_, rfl, D.W, C, D.dx, fs2, _, rfl, j0, Z.cl, Z.nW, k5, D.Wt, rfl, .inl ⟨_, .inl aY.wt⟩, _, rfl, _, dw, ?_⟩
      have stp := popW_step (t := t) (w := s0.waits) hoo
      cases hw : getA (popW t s0.waits (s0.begun.take j)) oo with
      | none =>
        refine ⟨_, rfl, rfl, _, rfl, iteN (fun z => by cases z) ?_⟩
        refine ⟨_, rfl, fY, ?_⟩
        rw [stp, if_neg (by rw [hw]; exact fun z => nomatch z)]
        exact aY
      | some uu =>
        by_cases c : uu = t
        · refine ⟨_, rfl, rfl, _, rfl, iteY (by rw [c]; rfl) ?_⟩
          have vv : valV (wtK (popW t s0.waits (s0.begun.take j))) (kT (SX.S oo)) = some (.str (SX.S uu)) := by rw [wt_val, hw]; rfl
          refine ⟨_, rfl, D.W, C, D.dx, fs2, _, rfl, j0, Z.cl, Z.nW, k5, D.Wt, rfl, .inl ⟨_, .inl aY.wt⟩, _, rfl, _, kT (SX.S oo), _, aY.wt, rfl, vv, ?_⟩
          rw [wt_drop]
          refine ⟨_, rfl, fY.trans (FrO.upd1 (List.mem_cons_of_mem _ (List.mem_cons_of_mem _ List.mem_cons_self))), ?_⟩
          rw [stp, if_pos (by rw [hw, c])]
          exact aY.setW _
        · refine ⟨_, rfl, rfl, _, rfl, iteN (fun z => c (kS_inj (congrArg kT (V.str.inj z)))) ?_⟩
          refine ⟨_, rfl, fY, ?_⟩
          rw [stp, if_neg (by rw [hw]; exact fun z => c (Option.some.inj z))]
          exact aY
    rintro σ Y ⟨w4, rfl, fY, aY⟩
    rw [txs_len, List.take_of_length_le (Nat.le_refl _)] at aY
    have hetY := (f1.trans fY) _ _ nt het
    refine ⟨_, rfl, _, rfl, tt, _, _, _, rfl, rfl, SqT.of hetY, rfl, le_line (Nat.le_of_ble_eq_true rfl), fun T X3 nT x3' eT => ?_⟩
    have x3 : Same Y X3 := x3'
    refine q X3 T (((FrO.of sX).trans f1).trans (fY.trans (FrO.of x3))) (aY.same x3) ?_ eT
    cases hT : H T with
    | none => rfl
    | some y =>
      have hT1 := sX _ _ hT
      by_cases c : T ∈ D.own
      · exfalso
        unfold WvD.own at c
        simp only [List.mem_cons, List.not_mem_nil, or_false] at c
        rcases c with c | c | c
        · rw [c, aY.wd] at nT; cases nT
        · rw [c, aY.bg] at nT; cases nT
        · rw [c, aY.wt] at nT; cases nT
      · rw [(f1.trans fY) _ _ c hT1] at nT; cases nT
end
/-! ### woven -/
open LamX NdefX
def StepsAt (H : Hp) : List WStep → List V → Prop
  | [], [] => True
  | st :: l, v :: vs => (∃ T, v = .ref T ∧ H T = some (.tup (stepV st))) ∧ StepsAt H l vs
  | _, _ => False
theorem StepsAt.keep {H H' : Hp} (k : Keep H H') : ∀ {l : List WStep} {vs : List V}, StepsAt H l vs → StepsAt H' l vs
  | [], [], _ => trivial
  | _ :: _, _ :: _, ⟨⟨T, e, h⟩, r⟩ => ⟨⟨T, e, k _ _ h⟩, r.keep k⟩
  | [], _ :: _, h => h.elim
  | _ :: _, [], h => h.elim
theorem StepsAt.len {H : Hp} : ∀ {l : List WStep} {vs : List V}, StepsAt H l vs → vs.length = l.length
  | [], [], _ => rfl
  | _ :: _, _ :: _, ⟨_, r⟩ => congrArg (· + 1) r.len
  | [], _ :: _, h => h.elim
  | _ :: _, [], h => h.elim
theorem StepsAt.snoc {H : Hp} {st : WStep} {T : Addr} (e : H T = some (.tup (stepV st))) : ∀ {l : List WStep} {vs : List V}, StepsAt H l vs → StepsAt H (l ++ [st]) (vs ++ [.ref T])
  | [], [], _ => ⟨⟨T, rfl, e⟩, trivial⟩
  | _ :: _, _ :: _, ⟨a, r⟩ => ⟨a, r.snoc e⟩
  | [], _ :: _, h => h.elim
  | _ :: _, [], h => h.elim
theorem runW_end {h : House} {cs : List Int} {n : Nat} {s : WvS} {tr : List WStep} (hn : 0 < n) (e : leftW s = []) : runW h cs n s tr = tr := by
  obtain ⟨k, rfl⟩ : ∃ k, n = k + 1 := ⟨n - 1, by omega⟩
  unfold runW
  rw [if_pos e]
theorem runW_go {h : House} {cs : List Int} {n : Nat} {s : WvS} {tr : List WStep} (e : leftW s ≠ []) (hn : tr.length < n) : runW h cs (n - tr.length) s tr = runW h cs (n - (tr ++ [(goW h s (pickW cs s tr)).2]).length) (goW h s (pickW cs s tr)).1 (tr ++ [(goW h s (pickW cs s tr)).2]) := by
  rw [List.length_append]
  show _ = runW h cs (n - (tr.length + 1)) _ _
  obtain ⟨k, hk⟩ : ∃ k, n - tr.length = k + 1 := ⟨n - tr.length - 1, by omega⟩
  rw [hk, show n - (tr.length + 1) = k by omega]
  conv => lhs; unfold runW
  rw [if_neg e]
theorem pick_mem {cs : List Int} {s : WvS} {tr : List WStep} (h : rdyW s ≠ []) : (rdyW s)[((cs.getD tr.length 0) % ((rdyW s).length : Int)).toNat]? = some (pickW cs s tr) ∧ pickW cs s tr ∈ rdyW s := by
  have hl : 0 < (rdyW s).length := List.length_pos_iff.mpr h
  have h0 := Int.emod_nonneg (cs.getD tr.length 0) (show ((rdyW s).length : Int) ≠ 0 by omega)
  have h1 := Int.emod_lt_of_pos (cs.getD tr.length 0) (show (0 : Int) < ((rdyW s).length : Int) by omega)
  have hi : ((cs.getD tr.length 0) % ((rdyW s).length : Int)).toNat < (rdyW s).length := by omega
  have e : (rdyW s)[((cs.getD tr.length 0) % ((rdyW s).length : Int)).toNat]? = some (pickW cs s tr) := by
    unfold pickW
    generalize ((cs.getD tr.length 0) % ((rdyW s).length : Int)).toNat = i at hi ⊢
    rw [List.getD_eq_getElem?_getD, List.getElem?_eq_getElem hi]
    rfl
  exact ⟨e, List.mem_of_getElem? e⟩
def HsAt (K : PySem.W.Frag) (H : Hp) (U : Addr) (h : House) : Prop := ∃ (G R : Addr) (kvs : List (Key × V)), H U = some (.tup [.ref G, .ref R]) ∧ H G = some (.dK (numsK h.given)) ∧ H R = some (.dK kvs) ∧ KvR (Rec H) h.recs kvs
def spWoven (K : PySem.W.Frag) : Sp := fun vs H Q _ => ∃ (U Wl Cl : Addr) (h : House) (ws : List (List Nat)) (cs : List Int) (f rank : List Nat → Nat), vs = [.ref U, .ref Wl, .ref Cl] ∧ HsAt K H U h ∧ SqL K H Wl (txs ws) ∧ SqL K H Cl (cs.map V.int) ∧ cs.length ≤ 1000 ∧ HouseWv h f rank ∧ (∀ t ∈ ws, t ∈ h.given.map (·.1) ++ h.recs.map (·.1) ∧ rank t < 1000) ∧
  ∀ H' T xs, Same H H' → H T = none → H' T = some (.lst xs) → StepsAt H' (runW h cs 1000 (begW h ws) []) xs → Q (.ref T) H'
section
variable {h : House} {f rank : List Nat → Nat} {s : WvS} {tr : List WStep}
theorem WOk.nm (W : HouseWv h f rank) (o : WOk h f rank s tr) : ∀ t ∈ s.begun, Nm t := fun t ht => by
  obtain ⟨p, hp, e⟩ := List.mem_map.mp (o.bgR t ht).1
  rw [← e]
  exact (W.v.rcp p hp).1
end
section
variable {P : Program} {w : World} {K : PySem.W.Frag} {mg : Str → Option Value} {base : Heap} {C fI CR fR : Addr}
end
/-! ### the laws' own weaving: begun, ready, over -/
open LamX NdefX
structure LwD where
  S : Addr
  Kd : Addr
  Bg : Addr
  Wt : Addr
def LwD.own (D : LwD) : List Addr := [D.Kd, D.Bg, D.Wt]
def soW (D : LwD) : List (Key × V) := [(kT "known", .ref D.Kd), (kT "begun", .ref D.Bg), (kT "waits", .ref D.Wt), (kT "bad", .non)]
theorem val_consW (k0 : Key) (v : V) (l : List (Key × V)) (k : Key) : valV ((k0, v) :: l) k = if k0 = k then some v else valV l k := by
  unfold valV
  rw [List.find?_cons]
  by_cases c : k0 = k
  · rw [if_pos c, decide_eq_true c]; rfl
  · rw [if_neg c, decide_eq_false c]
theorem soW_vals (D : LwD) : valV (soW D) (kT "known") = some (.ref D.Kd) ∧ valV (soW D) (kT "begun") = some (.ref D.Bg) ∧ valV (soW D) (kT "waits") = some (.ref D.Wt) ∧ valV (soW D) (kT "bad") = some .non := by
  unfold soW
  refine ⟨?_, ?_, ?_, ?_⟩
  all_goals (repeat first | rw [val_consW, if_neg (by decide +kernel)] | rw [val_consW, if_pos rfl])
theorem merge_soW (D : LwD) : mergeK [] (soW D) = soW D := by
  have h1 : decide (kT "known" = kT "begun") = false := by decide +kernel
  have h2 : decide (kT "known" = kT "waits") = false := by decide +kernel
  have h3 : decide (kT "known" = kT "bad") = false := by decide +kernel
  have h4 : decide (kT "begun" = kT "waits") = false := by decide +kernel
  have h5 : decide (kT "begun" = kT "bad") = false := by decide +kernel
  have h6 : decide (kT "waits" = kT "bad") = false := by decide +kernel
  simp only [mergeK, soW, List.foldl_cons, List.foldl_nil, putK, List.any_nil, List.any_cons, List.nil_append, List.cons_append, h1, h2, h3, h4, h5, h6, Bool.or_false, if_neg Bool.false_ne_true]
structure LwAt (H : Hp) (D : LwD) (s : WvS) : Prop where
  S : H D.S = some (.dK (soW D))
  kd : H D.Kd = some (.dK (numsK s.known))
  bg : H D.Bg = some (.lst (txs s.begun))
  wt : H D.Wt = some (.dK (wtK s.waits))
  ne : D.Kd ≠ D.Wt ∧ D.Kd ≠ D.S ∧ D.Wt ≠ D.S
section
variable {H H' : Hp} {D : LwD} {s : WvS}
theorem LwAt.same (a : LwAt H D s) (m : Same H H') : LwAt H' D s := ⟨m _ _ a.S, m _ _ a.kd, m _ _ a.bg, m _ _ a.wt, a.ne⟩
theorem LwAt.nB (a : LwAt H D s) : D.Bg ≠ D.Kd ∧ D.Bg ≠ D.Wt ∧ D.Bg ≠ D.S := by
  refine ⟨fun z => ?_, fun z => ?_, fun z => ?_⟩
  · have := a.bg; rw [z, a.kd] at this; cases this
  · have := a.bg; rw [z, a.wt] at this; cases this
  · have := a.bg; rw [z, a.S] at this; cases this
theorem LwAt.gS (a : LwAt H D s) {k : Str} {x : V} (e : valV (soW D) (kT k) = some x) : DGet H D.S (.str k) (some x) := e ▸ DGet.k (k := kT k) a.S
theorem LwAt.gK (a : LwAt H D s) : DGet H D.S (.str "known") (some (.ref D.Kd)) := a.gS (soW_vals D).1
theorem LwAt.gB (a : LwAt H D s) : DGet H D.S (.str "begun") (some (.ref D.Bg)) := a.gS (soW_vals D).2.1
theorem LwAt.gW (a : LwAt H D s) : DGet H D.S (.str "waits") (some (.ref D.Wt)) := a.gS (soW_vals D).2.2.1
theorem LwAt.gN (a : LwAt H D s) : DGet H D.S (.str "bad") (some .non) := a.gS (soW_vals D).2.2.2
theorem LwAt.setB (a : LwAt H D s) (b : List (List Nat)) : LwAt (upd H D.Bg (.lst (txs b))) D { s with begun := b } := by
  obtain ⟨n1, n2, n3⟩ := a.nB
  exact ⟨by rw [upd_ne n3.symm]; exact a.S, by rw [upd_ne n1.symm]; exact a.kd, upd_same, by rw [upd_ne n2.symm]; exact a.wt, a.ne⟩
theorem LwAt.setK (a : LwAt H D s) (k : List Pr) : LwAt (upd H D.Kd (.dK (numsK k))) D { s with known := k } := by
  obtain ⟨n1, n2, n3⟩ := a.nB
  obtain ⟨m1, m2, m3⟩ := a.ne
  exact ⟨by rw [upd_ne m2.symm]; exact a.S, upd_same, by rw [upd_ne n1]; exact a.bg, by rw [upd_ne m1.symm]; exact a.wt, a.ne⟩
theorem LwAt.setW (a : LwAt H D s) (w : List (List Nat × List Nat)) : LwAt (upd H D.Wt (.dK (wtK w))) D { s with waits := w } := by
  obtain ⟨n1, n2, n3⟩ := a.nB
  obtain ⟨m1, m2, m3⟩ := a.ne
  exact ⟨by rw [upd_ne m3.symm]; exact a.S, by rw [upd_ne m1]; exact a.kd, by rw [upd_ne n2]; exact a.bg, upd_same, a.ne⟩
theorem LwAt.notOwn (a : LwAt H D s) {b : Addr} {u : HO} (e : H b = some u) (h : (∃ ys, u = .tup ys) ∨ b = D.S) : ¬ b ∈ D.own := fun z => by
  unfold LwD.own at z
  simp only [List.mem_cons, List.not_mem_nil, or_false] at z
  rcases h with ⟨ys, rfl⟩ | rfl
  · rcases z with z | z | z
    · rw [z, a.kd] at e; cases e
    · rw [z, a.bg] at e; cases e
    · rw [z, a.wt] at e; cases e
  · rcases z with z | z | z
    · exact a.ne.2.1 z.symm
    · exact a.nB.2.2 z.symm
    · exact a.ne.2.2 z.symm
end
def spLBegun (K : PySem.W.Frag) : Sp := fun vs H Q _ => ∃ (U Wl : Addr) (h : House) (ws : List (List Nat)) (f rank : List Nat → Nat), vs = [.ref U, .ref Wl] ∧ HsAt K H U h ∧ SqL K H Wl (txs ws) ∧ HouseWv h f rank ∧ (∀ t ∈ ws, t ∈ h.given.map (·.1) ++ h.recs.map (·.1) ∧ rank t < 1000) ∧
  ∀ (D : LwD) (H' : Hp), Same H H' → H D.S = none → H D.Kd = none → H D.Bg = none → H D.Wt = none → LwAt H' D (begW h ws) → Q (.ref D.S) H'
def spLReady : Sp := fun vs H Q _ => ∃ (D : LwD) (s : WvS), vs = [.ref D.S] ∧ LwAt H D s ∧ s.begun.length ≤ 1000 ∧ ∀ H' L, Same H H' → H L = none → H' L = some (.lst (txs (rdyW s))) → Q (.ref L) H'
def spLOver : Sp := fun vs H Q _ => ∃ (D : LwD) (s : WvS), vs = [.ref D.S] ∧ LwAt H D s ∧ s.begun.length ≤ 1000 ∧ (∀ t ∈ s.begun, Nm t) ∧ ∀ H', Same H H' → Q (.bl (decide (leftW s = []))) H'
section
variable {P : Program} {w : World} {K : PySem.W.Frag} {mg : Str → Option Value} {base : Heap}
abbrev s__law_begun : Stmt := topS 28
abbrev N__law_begun : List Str := ["house", "wishes", "so", "name"]
theorem sc__law_begun : FnScope N__law_begun ["house", "wishes"] (defScope s__law_begun) := ⟨rfl, rfl, rfl, by decide +kernel, rfl, by decide +kernel, by decide +kernel⟩

theorem ok__law_begunW (T : Txt K mg) (Df : IsDef K mg "_law_begun" s__law_begun ["house", "wishes"]) : Cal P w K mg base CX0 1 "_law_begun" ["house", "wishes"] (spLBegun K) := by
  refine Df.cal sc__law_begun (fun vs H Q E h => ?_) (fun fa cdv A outer s H vs Q E hr h => ?_)
  · obtain ⟨_, _, _, _, _, _, rfl, _⟩ := h
    rfl
  obtain ⟨U, Wl, h, ws, f, rank, rfl, ⟨G, R, kvs, hU, hG, hR, rk⟩, hWl, WV, hws, q⟩ := h
  have hu : (cxOf CX0 P w K mg base N__law_begun "_law_begun" (defScope s__law_begun) fa cdv A outer s H E).nox.A.units + 1 < cLine := Nat.lt_of_le_of_lt (Nat.add_le_add_left (by decide : 1 ≤ 64) _) hr.units
  refine ⟨_, (pss_cons (ps_set (i := 2) sc__law_begun.nd rfl (Or.inl rfl) (pe_disp (pps_cons pe_str (pe_callTy call_dictDA (by rfl) T.b_dict (by decide +kernel) (pa_cons (pe_ix (r := rIxT K) ix_tup (pv 0) pe_int (fun _ _ => rfl)) pa_nil)) (pps_cons pe_str (pe_lstA pa_nil) (pps_cons pe_str pe_dnewA (pps_cons pe_str pe_non pps_nil)))) (by rfl) (by rfl) (fun z => by cases z) (by decide)))
      (pss_cons (ps_for PassesOwn.never rfl (pi_list (pv 1)) (pg_name (i := 3) sc__law_begun.nd rfl (Or.inl rfl))
        (pss_cons (ps_if (PW.pt (pw_and (pt_cmp (pc_dnotin hu (pv 3) (pe_ix (r := rIxT K) ix_tup (pv 0) pe_int (fun _ _ => rfl)))) (pw_and (pt_cmp (pc_dnotin hu (pv 3) (pe_ix (r := rIxT K) ix_tup (pv 0) pe_int (fun _ _ => rfl)))) (pw_and1 (pt_cmpR op_isN (pe_dget hu (pv 2) pe_str (fun _ _ => rfl)) pe_non (nomark _))))))
        (pss_one (ps_dput hu (pv 2) pe_str (pe_tupA (pa_cons pe_str (pa_cons (pv 3) pa_nil))) rfl))
        pss_nil)
      (pss_one (ps_if (PW.pt (pw_and (pt_cmp (pc_din hu (pv 3) (pe_ix (r := rIxT K) ix_tup (pv 0) pe_int (fun _ _ => rfl)))) (pw_and1 (pt_cmpR op_notIn_seq (pv 3) (pe_dget hu (pv 2) pe_str (fun _ _ => rfl)) (by with_unfolding_all rfl)))))
        (pss_one (ps_expr (pe_bm PySem.F.plainAttrs_list PySem.F.slot_list_append PySem.F.type_list_append mt_append (pe_dget hu (pv 2) pe_str (fun _ _ => rfl)) (pa_cons (pv 3) pa_nil))))
        pss_nil))))
      (pss_one (ps_ret (pv 2))))), ?_⟩
  refine fun S nS => ?_
  have s0 := same_new nS (.dK [])
  have eS0 : upd H S (.dK []) S = some (.dK []) := upd_same
  generalize upd H S (.dK []) = X0 at s0 eS0 ⊢
  refine ⟨_, rfl, U, _, 0, _, rfl, rfl, SqT.of (s0 _ _ hU), rfl, G, _, rfl, .inl (s0 _ _ hG), fun Kd X1 nKd x1' eKd => ⟨le_line (Nat.le_of_ble_eq_true rfl), fun Bg X2 nBg x2' eBg => ?_⟩⟩
  have x1 : Same X0 X1 := x1'
  have x2 : Same X1 X2 := x2'
  refine fun Wt X3 nWt x3' eWt => ?_
  have x3 : Same X2 X3 := x3'
  obtain ⟨D, hD⟩ : ∃ D : LwD, D = ⟨S, Kd, Bg, Wt⟩ := ⟨_, rfl⟩
  refine ⟨x3 _ _ (x2 _ _ (x1 _ _ eS0)), soW D, by rw [hD]; rfl, (by show 4 ≤ 15; decide), ?_⟩
  rw [merge_soW]
  have nSK : S ≠ Kd := ne_of_none eS0 nKd
  have nSB : S ≠ Bg := ne_of_none (x1 _ _ eS0) nBg
  have nST : S ≠ Wt := ne_of_none (x2 _ _ (x1 _ _ eS0)) nWt
  have nKT : Kd ≠ Wt := ne_of_none (x2 _ _ eKd) nWt
  have s3 : Same H (upd X3 S (.dK (soW D))) := same_upd (((s0.trans x1).trans x2).trans x3) nS _
  have A0 : LwAt (upd X3 S (.dK (soW D))) D (begW h []) := by
    rw [hD]
    exact ⟨upd_same, by rw [upd_ne nSK.symm]; exact x3 _ _ (x2 _ _ eKd), by rw [upd_ne nSB.symm]; exact x3 _ _ eBg, by rw [upd_ne nST.symm]; exact eWt, nKT, nSK.symm, nST.symm⟩
  have n1 : H D.S = none := by rw [hD]; exact nS
  have n2 : H D.Kd = none := by rw [hD]; exact s0.free nKd
  have n3 : H D.Bg = none := by rw [hD]; exact s0.free (x1.free nBg)
  have n4 : H D.Wt = none := by rw [hD]; exact s0.free (x1.free (x2.free nWt))
  have dS : S = D.S := by rw [hD]
  rw [dS] at A0 s3 ⊢
  generalize upd X3 D.S (.dK (soW D)) = X4 at A0 s3 ⊢
  have noOwn : ∀ {b : Addr} {u : HO}, H b = some u → ¬ b ∈ D.own := fun {b u} e z => by
    unfold LwD.own at z
    simp only [List.mem_cons, List.not_mem_nil, or_false] at z
    rcases z with z | z | z
    · rw [z, n2] at e; cases e
    · rw [z, n3] at e; cases e
    · rw [z, n4] at e; cases e
  refine ⟨_, rfl, Wl, rfl, ⟨_, s3.seq hWl⟩, for_list (xs := txs ws) (fun j σ Z => ∃ w3 : Option V, σ = [some (.ref U), some (.ref Wl), some (.ref D.S), w3] ∧ Same H Z ∧ LwAt Z D (begW h (ws.take j))) ⟨none, rfl, s3, A0⟩ (fun j σ Z _ ⟨_, _, e, _⟩ => e.seq hWl) ?_ ?_⟩
  · rintro j y σ X hy ⟨w3, rfl, sX, aX⟩
    obtain ⟨t, ht, rfl⟩ := txs_at' hy
    refine in_name rfl ?_
    have bl := (begW_ok WV (ws.take j) fun t ht => (hws t (List.mem_of_mem_take ht)).2).bl WV
    have stp : begW h (ws.take (j + 1)) = if t ∈ h.recs.map (·.1) then { begW h (ws.take j) with begun := addB (begW h (ws.take j)).begun t } else begW h (ws.take j) := by
      unfold begW
      rw [List.take_add_one, ht, List.foldl_append]
      show WvS.mk h.given (if t ∈ h.recs.map (·.1) then _ else _) [] = _
      split <;> rfl
    have dg := DGet.k (k := kT (SX.S t)) (sX _ _ hG)
    rw [val_seen] at dg
    have dr := DGet.k (k := kT (SX.S t)) (sX _ _ hR)
    have mem := (hws t (List.mem_of_getElem? ht)).1
    refine in_seq (nx_post (fun σ Y => Y = X ∧ σ = [some (.ref U), some (.ref Wl), some (.ref D.S), some (.str (SX.S t))]) (fun nx hnx => ?_) ?_)
    · refine ⟨_, rfl, _, rfl, U, _, 0, _, rfl, rfl, SqT.of (sX _ _ hU), rfl, G, _, rfl, dg, _, rfl, ?_⟩
      cases hs : seen h.given t with
      | some x => exact iteF (hnx _ _ ⟨rfl, rfl⟩)
      | none =>
        have tr : t ∈ h.recs.map (·.1) := (List.mem_append.mp mem).resolve_left (seen_none hs)
        refine iteT ⟨_, rfl, _, rfl, U, _, 1, _, rfl, rfl, SqT.of (sX _ _ hU), rfl, R, _, rfl, dr, _, rfl, ?_⟩
        rcases rec_val rk t with ⟨no, _⟩ | ⟨r, v, _, _, b, _⟩
        · exact absurd tr no
        · rw [b]
          exact iteF (hnx _ _ ⟨rfl, rfl⟩)
    rintro σ Y ⟨rfl, rfl⟩
    refine ⟨_, rfl, _, rfl, U, _, 1, _, rfl, rfl, SqT.of (sX _ _ hU), rfl, R, _, rfl, dr, _, rfl, ?_⟩
    rcases rec_val rk t with ⟨no, b⟩ | ⟨r, v, _, tr, b, _⟩
    · rw [b]
      refine iteF ⟨_, rfl, sX, ?_⟩
      rw [stp, if_neg no]
      exact aX
    · rw [b]
      refine iteT ⟨_, rfl, _, rfl, D.S, _, rfl, aX.gB, D.Bg, _, rfl, .inl (SqL.of aX.bg), rfl, txs_flat _, _, rfl, ?_⟩
      rw [in_txs]
      rw [if_pos tr] at stp
      unfold addB at stp
      by_cases c : t ∈ (begW h (ws.take j)).begun
      · rw [decide_eq_true c]
        rw [if_pos c] at stp
        exact iteF ⟨_, rfl, sX, by rw [stp]; exact aX⟩
      · rw [decide_eq_false c]
        rw [if_neg c] at stp
        refine iteT ⟨_, rfl, D.S, _, rfl, aX.gB, .inl ⟨rfl, _, SqL.of aX.bg⟩, _, rfl, D.Bg, _, _, rfl, rfl, aX.bg, lt_line (by rw [txs_len]; omega), ?_⟩
        rw [txs_snoc]
        exact ⟨_, rfl, same_upd sX n3 _, by rw [stp]; exact aX.setB _⟩
  rintro σ X ⟨w3, rfl, sX, aX⟩
  rw [txs_len, List.take_of_length_le (Nat.le_refl _)] at aX
  exact ⟨_, rfl, q D X sX n1 n2 n3 n4 aX⟩
abbrev s__law_over : Stmt := topS 32
abbrev N__law_over : List Str := ["so", "name"]
theorem sc__law_over : FnScope N__law_over ["so"] (defScope s__law_over) := ⟨rfl, rfl, rfl, by decide +kernel, rfl, by decide +kernel, by decide +kernel⟩

theorem ok__law_overW (T : Txt K mg) (Df : IsDef K mg "_law_over" s__law_over ["so"]) : Cal P w K mg base CX0 1 "_law_over" ["so"] spLOver := by
  refine Df.cal sc__law_over (fun vs H Q E h => ?_) (fun f cdv A outer s H vs Q E hr h => ?_)
  · obtain ⟨_, _, rfl, _⟩ := h
    rfl
  obtain ⟨D, s0, rfl, a, hl, hn, q⟩ := h
  have hu : (cxOf CX0 P w K mg base N__law_over "_law_over" (defScope s__law_over) f cdv A outer s H E).nox.A.units + 1 < cLine := Nat.lt_of_le_of_lt (Nat.add_le_add_left (by decide : 1 ≤ 64) _) hr.units
  refine ⟨_, (pss_one (ps_ret (pe_cmpR (op_eqD hr.units) (pe_lc (own := [("name", 1)]) (g := gName 1)  (by rfl) sc__law_over.nd  (pi_list (pe_dget hu (pv 0) pe_str (fun _ _ => rfl))) (blkOk_by (own := [("name", 1)]) (N := N__law_over) (sc := defScope s__law_over) (by decide +kernel)) (fun _ _ _ _ _ => (pg_name (i := 1) sc__law_over.nd rfl (Or.inl rfl))) (fun _ _ _ _ _ => (pts_one (pt_cmp (pc_dnotin hu (pv 1) (pe_dget hu (pv 0) pe_str (fun _ _ => rfl)))))) (fun _ _ _ _ _ => (pv 1))) (pe_lstA pa_nil) (nomark _)))), ?_⟩
  refine ⟨_, rfl, D.S, _, rfl, a.gB, D.Bg, rfl, ⟨_, SqL.of a.bg⟩, fun M nM => lc_list (xs := txs s0.begun) (fun i X => Same H X ∧ X M = some (.lst (txs ((s0.begun.take i).filter fun t => decide (seen s0.known t = none))))) ⟨same_new nM _, upd_same⟩ (fun i X _ e => SqL.of (e.1 _ _ a.bg)) ?_ ?_⟩
  · rintro i y X hy ⟨sX, eM⟩
    obtain ⟨t, ht, rfl⟩ := txs_at' hy
    have aX := a.same sX
    have dg := DGet.k (k := kT (SX.S t)) aX.kd
    rw [val_seen] at dg
    refine ⟨rfl, _, rfl, _, rfl, D.S, _, rfl, aX.gK, D.Kd, _, rfl, dg, _, rfl, ?_⟩
    rw [List.take_add_one, ht, List.filter_append]
    have ll : (List.filter (fun s => decide (seen s0.known s = none)) (List.take i s0.begun)).length ≤ 1000 := Nat.le_trans (List.length_filter_le _ _) (by rw [List.length_take]; omega)
    cases hs : seen s0.known t with
    | none =>
      refine iteT ⟨_, rfl, _, eM, lt_line (by rw [txs_len]; omega), same_upd sX nM _, ?_⟩
      rw [upd_same, show List.filter (fun s => decide (seen s0.known s = none)) (some t).toList = [t] by
        show List.filter _ [t] = [t]
        rw [List.filter_cons, if_pos (by rw [hs]; rfl)]
        rfl, txs_app]
      rfl
    | some x =>
      refine iteF ⟨sX, ?_⟩
      rw [show List.filter (fun s => decide (seen s0.known s = none)) (some t).toList = [] by
        show List.filter _ [t] = []
        rw [List.filter_cons, if_neg (fun z => by rw [hs] at z; have := of_decide_eq_true z; cases this)]
        rfl, List.append_nil]
      exact eM
  rintro X ⟨sX, eM⟩
  rw [txs_len, List.take_of_length_le (Nat.le_refl _)] at eM
  refine ⟨Nat.zero_le _, fun E2 X2 nE x2' eE => ?_⟩
  have x2 : Same X X2 := x2'
  refine ⟨_, _, names_dpW K (x2 _ _ eM), .lst (SqL.of eE) .nil, names_shapedW fun t ht => hn t (List.mem_filter.mp ht).1, rfl, ?_⟩
  rw [names_emptyW]
  exact q _ (sX.trans x2)
abbrev s__law_ready : Stmt := topS 29
abbrev N__law_ready : List Str := ["so", "name"]
theorem sc__law_ready : FnScope N__law_ready ["so"] (defScope s__law_ready) := ⟨rfl, rfl, rfl, by decide +kernel, rfl, by decide +kernel, by decide +kernel⟩

theorem ok__law_readyW (T : Txt K mg) (Df : IsDef K mg "_law_ready" s__law_ready ["so"]) : Cal P w K mg base CX0 1 "_law_ready" ["so"] spLReady := by
  refine Df.cal sc__law_ready (fun vs H Q E h => ?_) (fun f cdv A outer s H vs Q E hr h => ?_)
  · obtain ⟨_, _, rfl, _⟩ := h
    rfl
  obtain ⟨D, s0, rfl, a, hl, q⟩ := h
  have hu : (cxOf CX0 P w K mg base N__law_ready "_law_ready" (defScope s__law_ready) f cdv A outer s H E).nox.A.units + 1 < cLine := Nat.lt_of_le_of_lt (Nat.add_le_add_left (by decide : 1 ≤ 64) _) hr.units
  refine ⟨_, (pss_one (ps_ret (pe_lc (own := [("name", 1)]) (g := gName 1)  (by rfl) sc__law_ready.nd  (pi_list (pe_dget hu (pv 0) pe_str (fun _ _ => rfl))) (blkOk_by (own := [("name", 1)]) (N := N__law_ready) (sc := defScope s__law_ready) (by decide +kernel)) (fun _ _ _ _ _ => (pg_name (i := 1) sc__law_ready.nd rfl (Or.inl rfl))) (fun _ _ _ _ _ => (pts_one (PW.pt (pw_and (pt_cmp (pc_dnotin hu (pv 1) (pe_dget hu (pv 0) pe_str (fun _ _ => rfl)))) (pw_and1 (pt_cmp (pc_dnotin hu (pv 1) (pe_dget hu (pv 0) pe_str (fun _ _ => rfl))))))))) (fun _ _ _ _ _ => (pv 1))))), ?_⟩
  refine ⟨_, rfl, D.S, _, rfl, a.gB, D.Bg, rfl, ⟨_, SqL.of a.bg⟩, fun M nM => lc_list (xs := txs s0.begun) (fun i X => Same H X ∧ X M = some (.lst (txs ((s0.begun.take i).filter fun t => decide (seen s0.known t = none) && decide (getA s0.waits t = none))))) ⟨same_new nM _, upd_same⟩ (fun i X _ e => SqL.of (e.1 _ _ a.bg)) ?_ ?_⟩
  · rintro i y X hy ⟨sX, eM⟩
    obtain ⟨t, ht, rfl⟩ := txs_at' hy
    have aX := a.same sX
    have dg := DGet.k (k := kT (SX.S t)) aX.kd
    rw [val_seen] at dg
    have dw := DGet.k (k := kT (SX.S t)) aX.wt
    rw [wt_val] at dw
    refine ⟨rfl, _, rfl, _, rfl, D.S, _, rfl, aX.gK, D.Kd, _, rfl, dg, _, rfl, ?_⟩
    have ll : (List.filter (fun t => decide (seen s0.known t = none) && decide (getA s0.waits t = none)) (List.take i s0.begun)).length ≤ 1000 := Nat.le_trans (List.length_filter_le _ _) (by rw [List.length_take]; omega)
    have no : ¬ (seen s0.known t = none ∧ getA s0.waits t = none) → Same H X ∧ X M = some (.lst (txs ((s0.begun.take (i + 1)).filter fun t => decide (seen s0.known t = none) && decide (getA s0.waits t = none)))) := fun hn => by
      refine ⟨sX, ?_⟩
      rw [List.take_add_one, ht, List.filter_append, show List.filter (fun t => decide (seen s0.known t = none) && decide (getA s0.waits t = none)) (some t).toList = [] by
        show List.filter _ [t] = []
        rw [List.filter_cons, if_neg (fun z => hn (by rw [Bool.and_eq_true, decide_eq_true_iff, decide_eq_true_iff] at z; exact z))]
        rfl, List.append_nil]
      exact eM
    cases hs : seen s0.known t with
    | some x => exact iteF (no fun z => by rw [hs] at z; cases z.1)
    | none =>
      refine iteT ⟨_, rfl, _, rfl, D.S, _, rfl, aX.gW, D.Wt, _, rfl, dw, _, rfl, ?_⟩
      cases hw : getA s0.waits t with
      | some x => exact iteF (no fun z => by rw [hw] at z; cases z.2)
      | none =>
        refine iteT ⟨_, rfl, _, eM, lt_line (by rw [txs_len]; omega), same_upd sX nM _, ?_⟩
        rw [upd_same, List.take_add_one, ht, List.filter_append, show List.filter (fun t => decide (seen s0.known t = none) && decide (getA s0.waits t = none)) (some t).toList = [t] by
          show List.filter _ [t] = [t]
          rw [List.filter_cons, if_pos (by rw [hs, hw]; rfl)]
          rfl, txs_app]
        rfl
  rintro X ⟨sX, eM⟩
  rw [txs_len, List.take_of_length_le (Nat.le_refl _)] at eM
  exact q _ _ sX nM eM
end
/-! ### the laws' own weaving: a step; woven -/
open LamX NdefX
def spLStep (K : PySem.W.Frag) : Sp := fun vs H Q _ => ∃ (U : Addr) (D : LwD) (h : House) (s : WvS) (tr : List WStep) (f rank : List Nat → Nat) (t : List Nat), vs = [.ref U, .ref D.S, .str (SX.S t)] ∧ HsAt K H U h ∧ LwAt H D s ∧ (∀ G R, H U = some (.tup [.ref G, .ref R]) → ¬ G ∈ D.own ∧ ¬ R ∈ D.own) ∧ HouseWv h f rank ∧ WOk h f rank s tr ∧ t ∈ rdyW s ∧
  ∀ H' T, FrO D.own H H' → LwAt H' D (goW h s t).1 → H T = none → H' T = some (.tup (stepV (goW h s t).2)) → Q (.ref T) H'
def spLWov (K : PySem.W.Frag) : Sp := fun vs H Q _ => ∃ (U Wl Cl : Addr) (h : House) (ws : List (List Nat)) (cs : List Int) (f rank : List Nat → Nat), vs = [.ref U, .ref Wl, .ref Cl] ∧ HsAt K H U h ∧ SqL K H Wl (txs ws) ∧ SqL K H Cl (cs.map V.int) ∧ cs.length ≤ 1000 ∧ HouseWv h f rank ∧ (∀ t ∈ ws, t ∈ h.given.map (·.1) ++ h.recs.map (·.1) ∧ rank t < 1000) ∧
  ∀ H' T Tr xs, Same H H' → H T = none → H Tr = none → H' T = some (.tup [.ref Tr, .non]) → H' Tr = some (.lst xs) → StepsAt H' (runW h cs 1000 (begW h ws) []) xs → Q (.ref T) H'
section
variable {P : Program} {w : World} {K : PySem.W.Frag} {mg : Str → Option Value} {base : Heap}
abbrev s__law_step : Stmt := topS 30
abbrev N__law_step : List Str := ["house", "so", "name", "told", "other"]
theorem sc__law_step : FnScope N__law_step ["house", "so", "name"] (defScope s__law_step) := ⟨rfl, rfl, rfl, by decide +kernel, rfl, by decide +kernel, by decide +kernel⟩

theorem ok__law_stepW (T : Txt K mg) (C_rk : Cal P w K mg base CX0 8 "_law_reckoned" ["recipe", "known"] (spReck 8)) (Df : IsDef K mg "_law_step" s__law_step ["house", "so", "name"]) : Cal P w K mg base CX0 9 "_law_step" ["house", "so", "name"] (spLStep K) := by
  have C__law_reckoned := C_rk
  refine Df.cal (k := 8) sc__law_step (fun vs H Q E h => ?_) (fun fa cdv A outer s H vs Q E hr h => ?_)
  · obtain ⟨_, _, _, _, _, _, _, _, rfl, _⟩ := h
    rfl
  obtain ⟨U, D, h, s0, tr, f, rank, t, rfl, ⟨G, R, kvs, hU, hG, hR, rk⟩, a, nGR, WV, o, ht, q⟩ := h
  have hu : (cxOf CX0 P w K mg base N__law_step "_law_step" (defScope s__law_step) fa cdv A outer s H E).nox.A.units + 1 < cLine := Nat.lt_of_le_of_lt (Nat.add_le_add_left (by decide : 1 ≤ 64) _) hr.units
  obtain ⟨nG, nR⟩ := nGR G R hU
  obtain ⟨r, hr0, hm, hc⟩ := goW_case WV o ht
  have rv := WV.v.rcp _ hm
  obtain ⟨hNb, hbit⟩ := WV.bit _ hm
  obtain ⟨v, hv, hRv⟩ : ∃ v, valV kvs (kT (SX.S t)) = some v ∧ Rec H r v := by
    rcases rec_val rk t with ⟨n, _⟩ | ⟨r', v, e, _, e2, e3⟩
    · exact absurd (o.bgR t (mem_rdy.mp ht).1).1 n
    · rw [hr0] at e; cases e; exact ⟨v, e2, e3⟩
  have bl := o.bl WV
  have tl := o.len WV
  have kl := o.kl
  have wl := o.wl
  have dgR := DGet.k (k := kT (SX.S t)) hR
  rw [hv] at dgR
  have newT : ∀ {X X' : Hp} {T : Addr} {s' : WvS}, FrO D.own H X → LwAt X D s' → X T = none → H T = none := fun {X X' T s'} fX aX nT => by
    cases hT : H T with
    | none => rfl
    | some y =>
      by_cases c : T ∈ D.own
      · exfalso
        unfold LwD.own at c
        simp only [List.mem_cons, List.not_mem_nil, or_false] at c
        rcases c with c | c | c
        · rw [c, aX.kd] at nT; cases nT
        · rw [c, aX.bg] at nT; cases nT
        · rw [c, aX.wt] at nT; cases nT
      · rw [fX _ _ c hT] at nT; cases nT
  refine ⟨_, (pss_cons (ps_set (i := 3) sc__law_step.nd rfl (Or.inl rfl) (pe_cal C__law_reckoned (hr.mono (by first | decide | omega)) pass0 (pa_cons (pe_dget hu (pe_ix (r := rIxT K) ix_tup (pv 0) pe_int (fun _ _ => rfl)) (pv 2) (fun _ _ => rfl)) (pa_cons (pe_dget hu (pv 1) pe_str (fun _ _ => rfl)) pa_nil))))
      (pss_cons (ps_if (pt_cmpR op_eq (pe_ix (r := rIxT K) ix_tup (pv 3) pe_int (fun _ _ => rfl)) pe_str (nomark _))
        (pss_cons (ps_dput hu (pe_dget hu (pv 1) pe_str (fun _ _ => rfl)) (pv 2) (pe_ix (r := rIxT K) ix_tup (pv 3) pe_int (fun _ _ => rfl)) rfl)
      (pss_cons (ps_for PassesOwn.never rfl (pi_list (pe_dget hu (pv 1) pe_str (fun _ _ => rfl))) (pg_name (i := 4) sc__law_step.nd rfl (Or.inl rfl))
        (pss_one (ps_if (PW.pt (pw_and (pt_cmp (pc_din hu (pv 4) (pe_dget hu (pv 1) pe_str (fun _ _ => rfl)))) (pw_and1 (pt_cmpR op_eq (pe_dget hu (pe_dget hu (pv 1) pe_str (fun _ _ => rfl)) (pv 4) (fun _ _ => rfl)) (pv 2) (nomark _)))))
        (pss_one (ps_expr (pe_dpop1 (pe_dget hu (pv 1) pe_str (fun _ _ => rfl)) (pv 4) ⟨rfl, rfl, rfl, rfl⟩)))
        pss_nil)))
      (pss_one (ps_ret (pe_tupA (pa_cons (pv 2) (pa_cons pe_str (pa_cons (pe_ix (r := rIxT K) ix_tup (pv 3) pe_int (fun _ _ => rfl)) pa_nil))))))))
        pss_nil)
      (pss_cons (ps_if (pt_cmp (pc_dnotin hu (pe_ix (r := rIxT K) ix_tup (pv 3) pe_int (fun _ _ => rfl)) (pe_ix (r := rIxT K) ix_tup (pv 0) pe_int (fun _ _ => rfl))))
        (pss_cons (ps_dput hu (pv 1) pe_str (pe_tupA (pa_cons pe_str (pa_cons (pe_ix (r := rIxT K) ix_tup (pv 3) pe_int (fun _ _ => rfl)) pa_nil))) rfl)
      (pss_one (ps_ret pe_non)))
        pss_nil)
      (pss_cons (ps_if (pt_cmpR op_notIn_seq (pe_ix (r := rIxT K) ix_tup (pv 3) pe_int (fun _ _ => rfl)) (pe_dget hu (pv 1) pe_str (fun _ _ => rfl)) (by with_unfolding_all rfl))
        (pss_one (ps_expr (pe_bm PySem.F.plainAttrs_list PySem.F.slot_list_append PySem.F.type_list_append mt_append (pe_dget hu (pv 1) pe_str (fun _ _ => rfl)) (pa_cons (pe_ix (r := rIxT K) ix_tup (pv 3) pe_int (fun _ _ => rfl)) pa_nil))))
        pss_nil)
      (pss_cons (ps_dput hu (pe_dget hu (pv 1) pe_str (fun _ _ => rfl)) (pv 2) (pe_ix (r := rIxT K) ix_tup (pv 3) pe_int (fun _ _ => rfl)) rfl)
      (pss_one (ps_ret (pe_tupA (pa_cons (pv 2) (pa_cons pe_str (pa_cons (pe_ix (r := rIxT K) ix_tup (pv 3) pe_int (fun _ _ => rfl)) pa_nil))))))))))), ?_⟩
  refine ⟨_, rfl, U, _, 1, _, rfl, rfl, SqT.of hU, rfl, _, rfl, R, _, rfl, dgR, _, rfl, D.S, _, rfl, a.gK, v, D.Kd, r, s0.known, rfl, hRv, a.kd, rv.2.2.1, rv.2.1, hbit, fun p hp => ?_, rkD_some, fun tt X sX htt => ?_⟩
  · have hp2 := o.kn _ _ (seen_in o.knd hp)
    exact Nat.lt_of_lt_of_le hp2 (Nat.pow_le_pow_right (by decide) (WV.f4 _))
  have aX := a.same sX
  have hUX := sX _ _ hU
  rcases hc with ⟨x, e', eg⟩ | ⟨u, e', n', m', hu', hrk', eg⟩
  · rw [e'] at htt
    have htt : X tt = some (.tup [.str "worth", .int x]) := htt
    rw [eg] at q
    have nt := aX.notOwn htt (.inl ⟨_, rfl⟩)
    refine ⟨_, rfl, tt, _, _, _, rfl, rfl, SqT.of htt, rfl, rfl, _, rfl, iteY rfl ?_⟩
    refine ⟨_, rfl, tt, _, _, _, rfl, rfl, SqT.of htt, rfl, _, rfl, D.S, _, rfl, aX.gK, _, rfl, D.Kd, _, rfl, DPut.k (k := kT (SX.S t)) aX.kd (lt_line (by rw [numsK_len]; omega)), ?_⟩
    rw [nums_putA]
    have a1 := aX.setK (putA s0.known t x)
    have f1 : FrO D.own X (upd X D.Kd (.dK (numsK (putA s0.known t x)))) := FrO.upd1 List.mem_cons_self
    generalize upd X D.Kd (.dK (numsK (putA s0.known t x))) = X1 at a1 f1 ⊢
    refine ⟨_, rfl, D.S, _, rfl, a1.gB, D.Bg, rfl, ⟨_, SqL.of a1.bg⟩, for_list (xs := txs s0.begun) (fun j σ Y => ∃ w4 : Option V, σ = [some (.ref U), some (.ref D.S), some (.str (SX.S t)), some (.ref tt), w4] ∧ FrO D.own X1 Y ∧ LwAt Y D ⟨putA s0.known t x, s0.begun, popW t s0.waits (s0.begun.take j)⟩) ⟨none, rfl, FrO.refl _ _, a1⟩ (fun j σ Y _ ⟨_, _, _, e⟩ => SqL.of e.bg) ?_ ?_⟩
    · rintro j y σ Y hy ⟨w4, rfl, fY, aY⟩
      obtain ⟨oo, hoo, rfl⟩ := txs_at' hy
      refine in_name rfl ?_
      have dw := DGet.k (k := kT (SX.S oo)) aY.wt
      rw [wt_val] at dw
      have stp := popW_step (t := t) (w := s0.waits) hoo
      refine ⟨_, rfl, _, rfl, D.S, _, rfl, aY.gW, D.Wt, _, rfl, dw, _, rfl, ?_⟩
      cases hw : getA (popW t s0.waits (s0.begun.take j)) oo with
      | none =>
        refine iteF ⟨_, rfl, fY, ?_⟩
        rw [stp, if_neg (by rw [hw]; exact fun z => nomatch z)]
        exact aY
      | some uu =>
        rw [hw] at dw
        refine iteT ⟨_, rfl, D.S, _, rfl, aY.gW, _, rfl, D.Wt, _, rfl, dw, _, rfl, rfl, _, rfl, ?_⟩
        by_cases c : uu = t
        · refine iteY (by rw [c]) ?_
          have vv : valV (wtK (popW t s0.waits (s0.begun.take j))) (kT (SX.S oo)) = some (.str (SX.S uu)) := by rw [wt_val, hw]; rfl
          refine ⟨_, rfl, D.S, _, rfl, aY.gW, D.Wt, rfl, .inl ⟨_, .inl aY.wt⟩, _, rfl, _, kT (SX.S oo), _, aY.wt, rfl, vv, ?_⟩
          rw [wt_drop]
          refine ⟨_, rfl, fY.trans (FrO.upd1 (List.mem_cons_of_mem _ (List.mem_cons_of_mem _ List.mem_cons_self))), ?_⟩
          rw [stp, if_pos (by rw [hw, c])]
          exact aY.setW _
        · refine iteN (fun z => c (kS_inj (congrArg kT (V.str.inj z)))) ?_
          refine ⟨_, rfl, fY, ?_⟩
          rw [stp, if_neg (by rw [hw]; exact fun z => c (Option.some.inj z))]
          exact aY
    rintro σ Y ⟨w4, rfl, fY, aY⟩
    rw [txs_len, List.take_of_length_le (Nat.le_refl _)] at aY
    have httY := (f1.trans fY) _ _ nt htt
    refine ⟨_, rfl, _, rfl, tt, _, _, _, rfl, rfl, SqT.of httY, rfl, le_line (Nat.le_of_ble_eq_true rfl), fun Tn X3 nT x3' eT => ?_⟩
    have x3 : Same Y X3 := x3'
    exact q X3 Tn (((FrO.of sX).trans f1).trans (fY.trans (FrO.of x3))) (aY.same x3) (newT (X' := X3) (((FrO.of sX).trans f1).trans fY) aY nT) eT
  · rw [e'] at htt
    have htt : X tt = some (.tup [.str "read", .str (SX.S u)]) := htt
    rw [eg] at q
    have nt := aX.notOwn htt (.inl ⟨_, rfl⟩)
    refine ⟨_, rfl, tt, _, _, _, rfl, rfl, SqT.of htt, rfl, rfl, _, rfl, iteN (sne (by decide +kernel)) ?_⟩
    have dr := DGet.k (k := kT (SX.S u)) (sX _ _ hR)
    rcases rec_val rk u with ⟨no, _⟩ | ⟨ru, vu, _, _, eu, _⟩
    · exact absurd hu' no
    rw [eu] at dr
    refine ⟨_, rfl, tt, _, _, _, rfl, rfl, SqT.of htt, rfl, _, rfl, U, _, 1, _, rfl, rfl, SqT.of hUX, rfl, R, _, rfl, dr, _, rfl, iteF ?_⟩
    refine in_nx (in_seq (nx_post (fun σ Y => σ = [some (.ref U), some (.ref D.S), some (.str (SX.S t)), some (.ref tt), none] ∧ FrO D.own X Y ∧ LwAt Y D { s0 with begun := addB s0.begun u }) (fun nx hnx => ?_) ?_))
    · refine ⟨_, rfl, tt, _, _, _, rfl, rfl, SqT.of htt, rfl, _, rfl, D.S, _, rfl, aX.gB, D.Bg, _, rfl, .inl (SqL.of aX.bg), rfl, txs_flat _, _, rfl, ?_⟩
      rw [in_txs]
      by_cases c : u ∈ s0.begun
      · rw [decide_eq_true c]
        exact iteF (hnx _ _ ⟨rfl, FrO.refl _ _, by unfold addB; rw [if_pos c]; exact aX⟩)
      · rw [decide_eq_false c]
        refine iteT ⟨_, rfl, D.S, _, rfl, aX.gB, .inl ⟨rfl, _, SqL.of aX.bg⟩, _, rfl, tt, _, _, _, rfl, rfl, SqT.of htt, rfl, D.Bg, _, _, rfl, rfl, aX.bg, lt_line (by rw [txs_len]; omega), ?_⟩
        rw [txs_snoc]
        exact hnx _ _ ⟨rfl, FrO.upd1 (List.mem_cons_of_mem _ List.mem_cons_self), by unfold addB; rw [if_neg c]; exact aX.setB _⟩
    rintro σ X1 ⟨rfl, f1, a1⟩
    have htt1 := f1 _ _ nt htt
    refine ⟨_, rfl, tt, _, _, _, rfl, rfl, SqT.of htt1, rfl, _, rfl, D.S, _, rfl, a1.gW, _, rfl, D.Wt, _, rfl, DPut.k (k := kT (SX.S t)) a1.wt (lt_line (by rw [wtK_len]; show s0.waits.length < _; omega)), ?_⟩
    rw [wt_put]
    have a2 := a1.setW (putA s0.waits t u)
    have f2 : FrO D.own X1 (upd X1 D.Wt (.dK (wtK (putA s0.waits t u)))) := FrO.upd1 (List.mem_cons_of_mem _ (List.mem_cons_of_mem _ List.mem_cons_self))
    generalize upd X1 D.Wt (.dK (wtK (putA s0.waits t u))) = X2 at a2 f2 ⊢
    have htt2 := f2 _ _ nt htt1
    refine ⟨_, rfl, _, rfl, tt, _, _, _, rfl, rfl, SqT.of htt2, rfl, le_line (Nat.le_of_ble_eq_true rfl), fun Tn X3 nT x3' eT => ?_⟩
    have x3 : Same X2 X3 := x3'
    exact q X3 Tn (((FrO.of sX).trans f1).trans (f2.trans (FrO.of x3))) (a2.same x3) (newT (X' := X3) (((FrO.of sX).trans f1).trans f2) a2 nT) eT
abbrev s__law_woven : Stmt := topS 33
abbrev N__law_woven : List Str := ["house", "wishes", "choices", "so", "trace", "ready", "choice", "step"]
theorem sc__law_woven : FnScope N__law_woven ["house", "wishes", "choices"] (defScope s__law_woven) := ⟨rfl, rfl, rfl, by decide +kernel, rfl, by decide +kernel, by decide +kernel⟩

theorem ok__law_wovenW (T : Txt K mg) (C_bg : Cal P w K mg base CX0 1 "_law_begun" ["house", "wishes"] (spLBegun K)) (C_ov : Cal P w K mg base CX0 1 "_law_over" ["so"] spLOver) (C_rd : Cal P w K mg base CX0 1 "_law_ready" ["so"] spLReady) (C_st : Cal P w K mg base CX0 9 "_law_step" ["house", "so", "name"] (spLStep K))
    (Df : IsDef K mg "_law_woven" s__law_woven ["house", "wishes", "choices"]) : Cal P w K mg base CX0 10 "_law_woven" ["house", "wishes", "choices"] (spLWov K) := by
  have C__law_begun := C_bg.mono (show 1 ≤ 9 by decide)
  have C__law_over := C_ov.mono (show 1 ≤ 9 by decide)
  have C__law_ready := C_rd.mono (show 1 ≤ 9 by decide)
  have C__law_step := C_st
  refine Df.cal (k := 9) sc__law_woven (fun vs H Q E h => ?_) (fun fa cdv A outer s H vs Q E hr h => ?_)
  · obtain ⟨_, _, _, _, _, _, _, _, rfl, _⟩ := h
    rfl
  obtain ⟨U, Wl, Cl, h, ws, cs, f, rank, rfl, ⟨G, R, kvs, hU, hG, hR, rk⟩, hWl, hCl, hcl, WV, hws, q⟩ := h
  have hu : (cxOf CX0 P w K mg base N__law_woven "_law_woven" (defScope s__law_woven) fa cdv A outer s H E).nox.A.units + 1 < cLine := Nat.lt_of_le_of_lt (Nat.add_le_add_left (by decide : 1 ≤ 64) _) hr.units
  refine ⟨_, (pss_cons (ps_set (i := 3) sc__law_woven.nd rfl (Or.inl rfl) (pe_cal C__law_begun (hr.mono (by first | decide | omega)) pass0 (pa_cons (pv 0) (pa_cons (pv 1) pa_nil))))
      (pss_cons (ps_set (i := 4) sc__law_woven.nd rfl (Or.inl rfl) (pe_lstA pa_nil))
      (pss_cons (ps_while PassesOwn.never (PW.pt (pw_and (pt_cmpR op_isN (pe_dget hu (pv 3) pe_str (fun _ _ => rfl)) pe_non (nomark _)) (pw_and1 (pt_not (pt_val (pe_cal C__law_over (hr.mono (by first | decide | omega)) pass0 (pa_cons (pv 3) pa_nil)))))))
        (pss_cons (ps_set (i := 5) sc__law_woven.nd rfl (Or.inl rfl) (pe_cal C__law_ready (hr.mono (by first | decide | omega)) pass0 (pa_cons (pv 3) pa_nil)))
      (pss_one (ps_if (pt_cmpR (op_eqD hr.units) (pv 5) (pe_lstA pa_nil) (nomark _))
        (pss_one (ps_dput hu (pv 3) pe_str (pe_tupA (pa_cons pe_str (pa_cons pe_never pa_nil))) rfl))
        (pss_cons (ps_set (i := 6) sc__law_woven.nd rfl (Or.inl rfl) (pe_ix (r := rIxL K) ix_list (pe_op op_catU (pe_slice (r := rSlLA K) sl_listA (pv 2) (po_some (pe_callB call_len_seq (by rfl) T.b_len PySem.boot_len (pa_cons (pv 4) pa_nil))) po_none) (pe_lstA (pa_cons pe_int pa_nil))) pe_int (fun _ _ => rfl)))
      (pss_cons (ps_set (i := 7) sc__law_woven.nd rfl (Or.inl rfl) (pe_cal C__law_step (hr.mono (by first | decide | omega)) pass0 (pa_cons (pv 0) (pa_cons (pv 3) (pa_cons (pe_ix (r := rIxL K) ix_list (pv 5) (pe_op op_mod (pv 6) (pe_callB call_len_seq (by rfl) T.b_len PySem.boot_len (pa_cons (pv 5) pa_nil))) (fun _ _ => rfl)) pa_nil)))))
      (pss_one (ps_if (pt_cmpR op_notN (pv 7) pe_non (nomark _))
        (pss_one (ps_expr (pe_bm PySem.F.plainAttrs_list PySem.F.slot_list_append PySem.F.type_list_append mt_append (pv 4) (pa_cons (pv 7) pa_nil))))
        pss_nil))))))))
      (pss_one (ps_ret (pe_tupA (pa_cons (pv 4) (pa_cons (pe_dget hu (pv 3) pe_str (fun _ _ => rfl)) pa_nil)))))))), ?_⟩
  refine ⟨_, rfl, _, rfl, U, Wl, h, ws, f, rank, rfl, ⟨G, R, kvs, hU, hG, hR, rk⟩, hWl, WV, hws, fun D H1 s1 n1 n2 n3 n4 a => ?_⟩
  have noOwn : ∀ {b : Addr} {u : HO}, H b = some u → ¬ b ∈ D.own := fun {b u} e z => by
    unfold LwD.own at z
    simp only [List.mem_cons, List.not_mem_nil, or_false] at z
    rcases z with z | z | z
    · rw [z, n2] at e; cases e
    · rw [z, n3] at e; cases e
    · rw [z, n4] at e; cases e
  have frS : ∀ {A B : Hp}, Same H A → FrO D.own A B → Same H B := fun sA g b u e => g b u (noOwn e) (sA b u e)
  refine ⟨le_line (Nat.le_of_ble_eq_true rfl), fun Tr H2 nTr h2' eTr => ?_⟩
  have s2 : Same H1 H2 := h2'
  have nTo : ¬ Tr ∈ D.own := fun z => by
    unfold LwD.own at z
    simp only [List.mem_cons, List.not_mem_nil, or_false] at z
    rcases z with z | z | z
    · rw [z, a.kd] at nTr; cases nTr
    · rw [z, a.bg] at nTr; cases nTr
    · rw [z, a.wt] at nTr; cases nTr
  have nTrH : H Tr = none := s1.free nTr
  refine ⟨fun m σ X => ∃ (s : WvS) (tr : List WStep) (xs : List V) (w5 w6 w7 : Option V), σ = [some (.ref U), some (.ref Wl), some (.ref Cl), some (.ref D.S), some (.ref Tr), w5, w6, w7] ∧ Same H X ∧ LwAt X D s ∧ WOk h f rank s tr ∧ X Tr = some (.lst xs) ∧ StepsAt X tr xs ∧ runW h cs 1000 (begW h ws) [] = runW h cs (1000 - tr.length) s tr ∧ m = 1000 - tr.length,
    ⟨_, begW h ws, [], [], none, none, none, rfl, s1.trans s2, a.same s2, begW_ok WV ws (fun t ht => (hws t ht).2), eTr, trivial, rfl, rfl⟩, ?_⟩
  clear a s2 h2' eTr
  rintro m σ X ⟨s, tr, xs, w5, w6, w7, rfl, sX, a, o, eTr, st, erun, rfl⟩
  have bl := o.bl WV
  have tl := o.len WV
  have hxl := st.len
  refine ⟨_, rfl, D.S, _, rfl, a.gN, rfl, _, rfl, iteY rfl ?_⟩
  refine ⟨_, rfl, D, s, rfl, a, by omega, o.nm WV, fun X1 x1 => ⟨_, rfl, ?_⟩⟩
  have a1 := a.same x1
  by_cases c : leftW s = []
  · rw [decide_eq_true c]
    refine not_true_eq rfl ?_
    rw [runW_end (by omega) c] at erun
    refine ⟨_, rfl, _, rfl, D.S, _, rfl, a1.gN, le_line (Nat.le_of_ble_eq_true rfl), fun Tn X2 nT x2' eT => ?_⟩
    have x2 : Same X1 X2 := x2'
    exact q X2 Tn Tr xs ((sX.trans x1).trans x2) ((sX.trans x1).free nT) nTrH eT ((x1.trans x2) _ _ eTr) (by rw [erun]; exact st.keep (same_keep (x1.trans x2)))
  · rw [decide_eq_false c]
    refine not_false_eq rfl ?_
    refine ⟨_, fun σ' H' h => h, ?_⟩
    have hrd := o.ready c
    obtain ⟨hpk, hpm⟩ := pick_mem (cs := cs) (tr := tr) hrd
    have hrl : (rdyW s).length ≤ 30 := Nat.le_trans (List.length_filter_le _ _) bl
    refine ⟨_, rfl, D, s, rfl, a1, by omega, fun X2 L1 x2 nL eL => ?_⟩
    refine ⟨_, rfl, Nat.zero_le _, fun E2 X3 nE x3' eE => ?_⟩
    have x3 : Same X2 X3 := x3'
    refine ⟨_, _, names_dpW K (x3 _ _ eL), .lst (SqL.of eE) .nil, names_shapedW (fun t ht => o.nm WV t (List.mem_filter.mp ht).1), rfl, _, rfl, ?_⟩
    rw [names_emptyW, decide_eq_false hrd]
    refine iteF ?_
    have x03 : Same X X3 := (x1.trans x2).trans x3
    have s3 := sX.trans x03
    have eL3 := x3 _ _ eL
    -- the choice
    refine ⟨_, rfl, _, rfl, Tr, _, rfl, .inl (SqL.of (x03 _ _ eTr)), _, rfl, Cl, _, rfl, s3.seq hCl, fun S1 X4 nS1 x4' eS1 => ⟨le_line (Nat.le_of_ble_eq_true rfl), fun S2 X5 nS2 x5' eS2 => ?_⟩⟩
    have x4 : Same X3 X4 := x4'
    have x5 : Same X4 X5 := x5'
    rw [cutV_from] at eS1
    refine ⟨S1, S2, _, _, rfl, rfl, x5 _ _ eS1, eS2, le_line (Nat.le_trans (show ((cs.map V.int).drop xs.length).length + 1 ≤ 1001 by rw [List.length_drop, List.length_map]; omega) (by decide)), fun S3 X6 nS3 x6' eS3 => ?_⟩
    have x6 : Same X5 X6 := x6'
    have hat0 : atI ((cs.map V.int).drop xs.length ++ [.int 0]) 0 = some (.int (cs.getD tr.length 0)) := by
      refine atI_nat (j := 0) ?_
      by_cases d : tr.length < cs.length
      · rw [List.getElem?_append_left (by rw [List.length_drop, List.length_map]; omega), List.getElem?_drop, List.getElem?_map, hxl, Nat.add_zero, List.getElem?_eq_getElem d, List.getD_eq_getElem?_getD, List.getElem?_eq_getElem d]
        rfl
      · rw [show cs.getD tr.length 0 = 0 by rw [List.getD_eq_getElem?_getD, List.getElem?_eq_none (by omega)]; rfl, List.drop_eq_nil_of_le (by rw [List.length_map]; omega)]
        rfl
    refine ⟨S3, _, 0, _, rfl, rfl, SqL.of eS3, hat0, ?_⟩
    have x46 := (x4.trans x5).trans x6
    have x06 := x03.trans x46
    have s6 := sX.trans x06
    have a6 := a.same x06
    have eL6 := x46 _ _ eL3
    have h0 := Int.emod_nonneg (cs.getD tr.length 0) (show ((rdyW s).length : Int) ≠ 0 by have := List.length_pos_iff.mpr hrd; omega)
    refine ⟨_, rfl, _, rfl, _, rfl, _, rfl, _, rfl, L1, _, rfl, .inl (SqL.of eL6), _, _, rfl, rfl, (by show (0 : Int) < (((txs (rdyW s)).length : Nat) : Int); rw [txs_len]; have := List.length_pos_iff.mpr hrd; omega), L1, _, _, .str (SX.S (pickW cs s tr)), rfl, rfl, SqL.of eL6, ?_, ?_⟩
    · rw [txs_len]
      refine atI_at h0 ?_
      unfold txs
      rw [List.getElem?_map, List.getElem?_map, hpk]
      rfl
    refine ⟨U, D, h, s, tr, f, rank, _, rfl, ⟨G, R, kvs, s6 _ _ hU, s6 _ _ hG, s6 _ _ hR, rk.imp fun _ _ z => z.same s6⟩, a6, fun G' R' e => by have := (s6 _ _ hU).symm.trans e; cases this; exact ⟨noOwn hG, noOwn hR⟩, WV, o, hpm, fun X7 Ts f7 a7 nTs eTs => ?_⟩
    have eTr7 := f7 _ _ nTo (x06 _ _ eTr)
    refine ⟨_, rfl, rfl, _, rfl, not_false_eq (decide_eq_false fun z => by cases z) ?_⟩
    refine ⟨_, rfl, .inl ⟨rfl, _, SqL.of eTr7⟩, _, rfl, Tr, _, _, rfl, rfl, eTr7, lt_line (by omega), ?_⟩
    have s7 := frS s6 f7
    have s8 : Same H (upd X7 Tr (.lst (xs ++ [.ref Ts]))) := same_upd s7 nTrH _
    have kU : Keep X7 (upd X7 Tr (.lst (xs ++ [.ref Ts]))) := keep_lst eTr7
    have kp7 : Keep X6 X7 := fun b ys e => f7 b _ (a6.notOwn e (.inl ⟨_, rfl⟩)) e
    have a8 : LwAt (upd X7 Tr (.lst (xs ++ [.ref Ts]))) D (goW h s (pickW cs s tr)).1 := by
      have nT : ∀ {y : Addr} {u : HO}, (∀ z, u ≠ .lst z) → X7 y = some u → y ≠ Tr := fun hn e z => by rw [z, eTr7] at e; exact hn _ (Option.some.inj e).symm
      have nb : D.Bg ≠ Tr := fun z => nTo (by unfold LwD.own; rw [← z]; exact List.mem_cons_of_mem _ List.mem_cons_self)
      exact ⟨by rw [upd_ne (nT (fun _ z => by cases z) a7.S)]; exact a7.S, by rw [upd_ne (nT (fun _ z => by cases z) a7.kd)]; exact a7.kd, by rw [upd_ne nb]; exact a7.bg, by rw [upd_ne (nT (fun _ z => by cases z) a7.wt)]; exact a7.wt, a7.ne⟩
    refine ⟨_, by rw [List.length_append]; show 1000 - (tr.length + 1) < 1000 - tr.length; omega, (goW h s (pickW cs s tr)).1, tr ++ [(goW h s (pickW cs s tr)).2], _, _, _, _, rfl, s8, a8, o.go WV hpm, upd_same, StepsAt.snoc (kU _ _ eTs) (((st.keep (same_keep x06)).keep kp7).keep kU), ?_, rfl⟩
    rw [erun]
    exact runW_go c (by omega)
end
/-! ### choices and a chain, drawn -/
open LamX NdefX
def spChoices : Sp := fun vs H Q _ => ∃ (p : Addr) (r : Int) (m : Bool) (c : Int), vs = [.ref p] ∧ H p = some (.dK (dst r m c)) ∧ 0 ≤ c ∧ c ≤ 90000 ∧
  ∀ (F : Addr) (cs : List Int) (r' c' : Int) (H' : Hp), PF p H H' → H F = none → H' F = some (.lst (cs.map V.int)) → cs.length ≤ 40 → H' p = some (.dK (dst r' m c')) → 0 ≤ c' → c' ≤ c + 1000 → Q (.ref F) H'
def chainN (k : Nat) : List Nat := [99, 104, 97, 105, 110, letters.getD (k % 26) 97, 97 + k / 26]
def chains : List (List Nat) := (List.range 30).map chainN
theorem chains_nd : chains.Nodup := by decide +kernel
theorem chains_nm : ∀ k, k < 30 → Nm (chainN k) := by
  show ∀ k, k < 30 → 1 ≤ (chainN k).length ∧ (chainN k).length ≤ 8 ∧ ∀ c ∈ chainN k, 97 ≤ c ∧ c ≤ 122
  decide +kernel
theorem chains_at {k : Nat} (h : k < 30) : chains[k]? = some (chainN k) := by
  unfold chains
  rw [List.getElem?_map, List.getElem?_range h]
  rfl
def chR (k : Nat) (d : Int) : RcpNm := (chainN k, .two .plus (.read (chainN (k + 1))) (.num d))
structure ChainH (rc : List RcpNm) (j : Nat) : Prop where
  keys : rc.map (·.1) = (List.range j).map chainN
  each : ∀ p ∈ rc, ∃ k d, k < j ∧ d.natAbs ≤ 9 ∧ p = chR k d
def chRank (t : List Nat) : Nat := 40 - chains.idxOf t
def chF (t : List Nat) : Nat := 80 + chRank t
theorem chain_wv {rc : List RcpNm} (c : ChainH rc 29) : HouseWv ⟨[(chainN 29, 3)], rc⟩ chF chRank := by
  have idx : ∀ {k : Nat}, k < 30 → chains.idxOf (chainN k) = k := fun h => idx_nd chains_nd (chains_at h)
  have rl : rc.length = 29 := by have := congrArg List.length c.keys; rwa [List.length_map, List.length_map, List.length_range] at this
  refine ⟨⟨fun p hp => ?_, fun p hp => ?_, fun u => by unfold chF; omega⟩, fun u => by unfold chF chRank; omega, ?_, fun p hp _ s hs => ?_, fun p hp => ?_, by show 1 + rc.length ≤ 30; omega⟩
  · obtain ⟨k, d, hk, hd, rfl⟩ := c.each p hp
    have f1 : chF (chainN k) = 120 - k := by unfold chF chRank; rw [idx (by omega)]; omega
    have f2 : chF (chainN (k + 1)) = 119 - k := by unfold chF chRank; rw [idx (by omega)]; omega
    have b9 : d.natAbs.log2 + 1 ≤ 5 := by
      by_cases z : d.natAbs = 0
      · rw [z]; decide
      · have := (Nat.log2_lt z).mpr (show d.natAbs < 2 ^ 4 by omega)
        omega
    have e1 : (Rcp.two .plus (.read (chainN (k + 1))) (.num d)).bitV chF = max (chF (chainN (k + 1))) (d.natAbs.log2 + 1) + 1 := rfl
    have e2 : (Rcp.two .plus (.read (chainN (k + 1))) (.num d)).bitA chF = max (chF (chainN (k + 1)) + (d.natAbs.log2 + 1)) (max (chF (chainN (k + 1))) (d.natAbs.log2 + 1)) := rfl
    refine ⟨chains_nm k (by omega), ⟨chains_nm _ (by omega), trivial⟩, (by show 1 + 1 ≤ 8; decide), ?_, ?_⟩
    · show (Rcp.two .plus (.read (chainN (k + 1))) (.num d)).bitV chF ≤ chF (chainN k)
      rw [e1, f1, f2]
      omega
    · show (Rcp.two .plus (.read (chainN (k + 1))) (.num d)).bitA chF ≤ 1000000
      rw [e2, f2]
      omega
  · rw [List.mem_singleton.mp hp]
    refine ⟨chains_nm 29 (by decide), Nat.lt_of_lt_of_le (show (3 : Int).natAbs < 2 ^ 2 by decide) (Nat.pow_le_pow_right (by decide) (by unfold chF; omega))⟩
  · show ([chainN 29] ++ rc.map (·.1)).Nodup
    rw [c.keys]
    decide +kernel
  · obtain ⟨k, d, hk, hd, rfl⟩ := c.each p hp
    have hs : s = chainN (k + 1) := List.mem_singleton.mp (by simpa [chR, Rcp.nms] using hs)
    rw [hs]
    refine ⟨?_, ?_⟩
    · show chainN (k + 1) ∈ [chainN 29] ++ rc.map (·.1)
      rw [c.keys]
      by_cases z : k + 1 = 29
      · rw [z]; exact List.mem_append_left _ (List.mem_singleton.mpr rfl)
      · exact List.mem_append_right _ (List.mem_map.mpr ⟨k + 1, List.mem_range.mpr (by omega), rfl⟩)
    · show chRank (chainN (k + 1)) < chRank (chainN k)
      unfold chRank
      rw [idx (by omega), idx (by omega)]
      omega
  · obtain ⟨k, d, hk, hd, rfl⟩ := c.each p hp
    have b9 : d.natAbs.log2 + 1 ≤ 5 := by
      by_cases z : d.natAbs = 0
      · rw [z]; decide
      · have := (Nat.log2_lt z).mpr (show d.natAbs < 2 ^ 4 by omega)
        omega
    refine ⟨⟨chains_nm _ (by omega), Nat.lt_of_le_of_lt hd (by decide)⟩, ?_⟩
    show max (400 + (d.natAbs.log2 + 1)) (max 400 (d.natAbs.log2 + 1)) ≤ 1000000
    omega
def spChain (K : PySem.W.Frag) : Sp := fun vs H Q _ => ∃ (p : Addr) (r : Int) (m : Bool) (c : Int), vs = [.ref p] ∧ H p = some (.dK (dst r m c)) ∧ 0 ≤ c ∧ c ≤ 90000 ∧
  ∀ (T U W : Addr) (rc : List RcpNm) (H' : Hp), PF p H H' → H T = none → H U = none → H W = none → H' T = some (.tup [.ref U, .ref W]) → HsAt K H' U ⟨[(chainN 29, 3)], rc⟩ → ChainH rc 29 → H' W = some (.lst (txs (chains.take 3))) → Q (.ref T) H'
section
variable {P : Program} {w : World} {K : PySem.W.Frag} {mg : Str → Option Value} {base : Heap}
abbrev s__law_choices : Stmt := topS 34
abbrev N__law_choices : List Str := ["state", "found", "k", "some"]
theorem sc__law_choices : FnScope N__law_choices ["state"] (defScope s__law_choices) := ⟨rfl, rfl, rfl, by decide +kernel, rfl, by decide +kernel, by decide +kernel⟩

theorem ok__law_choicesW (T : Txt K mg) (C__law_draw : Cal P w K mg base CX0 1 "_law_draw" ["state", "many"] spDraw) (Df : IsDef K mg "_law_choices" s__law_choices ["state"]) : Cal P w K mg base CX0 2 "_law_choices" ["state"] spChoices := by
  refine Df.cal (k := 1) sc__law_choices (fun vs H Q E h => ?_) (fun f cdv A outer s H vs Q E hr h => ?_)
  · obtain ⟨_, _, _, _, rfl, _⟩ := h
    rfl
  obtain ⟨p, r, m, c, rfl, hp, c0, c1, q⟩ := h
  refine ⟨_, (pss_cons (ps_set (i := 1) sc__law_choices.nd rfl (Or.inl rfl) (pe_lstA pa_nil))
      (pss_cons (ps_for PassesOwn.never rfl (pi_range1 rfl T.b_range (pa_cons (pe_cal C__law_draw (hr.mono (by first | decide | omega)) pass0 (pa_cons (pv 0) (pa_cons pe_int pa_nil))) pa_nil)) (pg_name (i := 2) sc__law_choices.nd rfl (Or.inl rfl))
        (pss_cons (ps_set (i := 3) sc__law_choices.nd rfl (Or.inl rfl) (pe_lstA (pa_cons (pe_cal C__law_draw (hr.mono (by first | decide | omega)) pass0 (pa_cons (pv 0) (pa_cons pe_int pa_nil))) (pa_cons (pe_op op_sub (pe_cal C__law_draw (hr.mono (by first | decide | omega)) pass0 (pa_cons (pv 0) (pa_cons pe_int pa_nil))) pe_int) (pa_cons (pe_op op_sub (pe_cal C__law_draw (hr.mono (by first | decide | omega)) pass0 (pa_cons (pv 0) (pa_cons (pe_op op_pow pe_int pe_int) pa_nil))) (pe_op op_pow pe_int pe_int)) pa_nil)))))
      (pss_one (ps_expr (pe_bm PySem.F.plainAttrs_list PySem.F.slot_list_append PySem.F.type_list_append mt_append (pv 1) (pa_cons (pe_ix (r := rIxL K) ix_list (pv 3) (pe_cal C__law_draw (hr.mono (by first | decide | omega)) pass0 (pa_cons (pv 0) (pa_cons pe_int pa_nil))) (fun _ _ => rfl)) pa_nil))))))
      (pss_one (ps_ret (pv 1))))), ?_⟩
  refine ⟨le_line (Nat.le_of_ble_eq_true rfl), fun F H1 nF h1' eF => ?_⟩
  have h1 : Same H H1 := h1'
  have nFp : F ≠ p := fun z => by rw [z, hp] at nF; cases nF
  refine ⟨_, rfl, p, r, m, c, 41, rfl, h1 _ _ hp, by decide, by decide, c0, by omega, fun H2 v r2 k2 g2 hp2 k20 k21 v0 v1 => ?_⟩
  refine ⟨v, rfl, by omega, by omega, for_range (lo := 0) (n := v.toNat) (fun j σ Y => ∃ (w2 w3 : Option V) (cs : List Int) (r' c' : Int), σ = [some (.ref p), some (.ref F), w2, w3] ∧ PF p H Y ∧ Y F = some (.lst (cs.map V.int)) ∧ cs.length = j ∧ Y p = some (.dK (dst r' m c')) ∧ 0 ≤ c' ∧ c' ≤ c + 1 + 4 * j)
    ⟨none, none, [], r2, k2, rfl, (PF.of h1).trans (PF.take g2), (g2 F nFp).trans eF, rfl, hp2, k20, by omega⟩ ?_ ?_⟩
  · rintro j σ Y hj ⟨w2, w3, cs, r', c', rfl, fY, eFY, hl, pY, d0, d1⟩
    refine in_name rfl ?_
    refine ⟨_, rfl, p, r', m, c', 12, rfl, pY, by decide, by decide, d0, by omega, fun Y1 x1 r1 k1 g1 p1 e0 e1 a0 a1 => ?_⟩
    refine ⟨_, rfl, p, r1, m, k1, 3, rfl, p1, by decide, by decide, e0, by omega, fun Y2 x2 r2 k2 g2 p2 f0 f1 b0 b1 => ?_⟩
    refine ⟨_, _, rfl, rfl, _, rfl, _, _, rfl, rfl, ⟨by decide, by decide, by decide⟩, p, r2, m, k2, _, rfl, p2, (by decide), (by decide), f0, by omega, fun Y3 x3 r3 k3 g3 p3 l0 l1 z0 z1 => ?_⟩
    refine ⟨_, _, rfl, rfl, ⟨by decide, by decide, by decide⟩, _, _, rfl, rfl, le_line (Nat.le_of_ble_eq_true rfl), fun Sm Y4 nSm y4' eSm => ?_⟩
    have y4 : Same Y3 Y4 := y4'
    have nSp : Sm ≠ p := fun z => by rw [z, p3] at nSm; cases nSm
    refine ⟨_, rfl, .inl ⟨rfl, _, SqL.of (y4 _ _ ((g3 F nFp).trans ((g2 F nFp).trans ((g1 F nFp).trans eFY))))⟩, _, rfl, _, rfl, p, r3, m, k3, 3, rfl, y4 _ _ p3, by decide, by decide, l0, by omega, fun Y5 x5 r5 k5 g5 p5 u0 u1 t0 t1 => ?_⟩
    obtain ⟨z, hz, hat⟩ := one_of (xs := ([.int x1, .int (x2 - 5), .int (x3 - (10 : Int) ^ (19 : Int).toNat)] : List V)) t0 (by show x5 < 3; exact t1)
    obtain ⟨w, rfl⟩ : ∃ w : Int, z = .int w := by
      simp only [List.mem_cons, List.not_mem_nil, or_false] at hz
      rcases hz with h | h | h <;> exact ⟨_, h⟩
    have eS5 := (g5 Sm nSp).trans eSm
    have f5 : PF p Y Y5 := ((((PF.take g1).trans (PF.take g2)).trans (PF.take g3)).trans (PF.of y4)).trans (PF.take g5)
    have eF5 := f5 _ _ nFp eFY
    refine ⟨Sm, _, x5, _, rfl, rfl, SqL.of eS5, hat, F, _, _, rfl, rfl, eF5, lt_line (by rw [List.length_map]; omega), ?_⟩
    exact ⟨_, _, cs ++ [w], r5, k5, rfl, fun b u n e => by rw [upd_ne (fun z => by rw [z, nF] at e; cases e)]; exact f5 b u n (fY b u n e), by rw [upd_same, List.map_append]; rfl, by rw [List.length_append, hl]; rfl, by rw [upd_ne nFp.symm]; exact p5, u0, by omega⟩
  · rintro σ Y ⟨w2, w3, cs, r', c', rfl, fY, eFY, hl, pY, d0, d1⟩
    exact ⟨_, rfl, q F cs r' c' Y fY nF eFY (by omega) pY d0 (by omega)⟩
end
end Mad
namespace L2
open PySem PySem.Spec PyProof.Rows
section
variable {X : Cx} {CX : CXT} {k : Nat} {f C : Addr} {fd : FuncData} {ps : List Str} {sp : Sp} {E : L2.St → XK} {m : Str} {o e : Expr} {es : List Expr} {ta : TE} {t : TA} {pos apos : Pos}
/-- o.m(e, ..) whose refusal is caught where the slots stand so -/
def tMethT (C : Addr) (m : Str) (sp : Sp) (E : L2.St → XK) (ta : TE) (t : TA) : TE := fun σ H Q => ta σ H fun x H1 => ∃ a dx fs, x = .ref a ∧ H1 a = some (.ins C dx fs) ∧ fs.lookup m = none ∧ t σ H1 fun vs H2 => sp (x :: vs) H2 Q (E σ)
theorem pe_methT {pl : Sem Bool} (he : PE X o ta) (c : Cls X.K C) (hm : Meth X.K C m f) (F : FnOk X.prog X.w X.K X.mg X.base CX k f fd ps sp) (hr : Room k X.A) (hb : Binds X.K fd ps []) (hx : ∀ σ, PassesAt CX X σ (E σ)) (ha : PA X (e :: es) t)
    (hst : starEach (e :: es) X.env = (false, eval e X.env) :: starEach es X.env := by rfl) (hpl : (backTo pos (starEach es X.env)).any (·.1) = false := by rfl)
    (ht : eval (.Call (.Attribute o m apos) (e :: es) [] pos) X.env = (do
      let ov ← eval o X.env
      standAt apos.atName
      let (f, first) ← holding [ov] (getMethod ov m pl)
      callWith pos f first (backTo pos (starEach (e :: es) X.env)) (backToKw pos (keywordEach [] X.env))) := by rfl) :
    PE X (.Call (.Attribute o m apos) (e :: es) [] pos) (tMethT C m sp E ta t) := by
  refine ⟨fun pins s σ H Q I h => ?_⟩
  refine PySem.W.methodCall_KW (pl := pl) (thn (he.run pins s σ H _ I h) fun u s1 hh => ?_) ht
  obtain ⟨x, H1, I1, rx, a, dx, fs, ex, ea, l, q⟩ := hh
  subst ex
  obtain rfl : u = Value.ref a := rx
  refine getmeth_ok I1 ea c hm l (PySem.W.callWith_K (first := [.ref a]) (h₀ := X.base) I.ok.mod.kin hm.kp (thn (ha.run pos pins s1 σ H1 _ I1 q) fun us s2 h2 => ?_) hst hpl)
  obtain ⟨vs, H2, I2, r, q2⟩ := h2
  exact ⟨I2.kIn, run_fnS (us := .ref a :: us) (vs := .ref a :: vs) F hr hb (hx σ) I2 (.cons rfl r) q2⟩
end
end L2
namespace Mad
open PySem PySem.Spec PyProof.Rows L2
/-! ### traces: whether a trace is one of a weaving (here: of one that is) -/
open LamX NdefX
def RunsW (h : House) : WvS → List WStep → Prop
  | s, [] => leftW s = []
  | s, st :: l => ∃ t, t ∈ rdyW s ∧ (goW h s t).2 = st ∧ RunsW h (goW h s t).1 l
theorem goW_name {h : House} {f rank : List Nat → Nat} {s : WvS} {tr : List WStep} (W : HouseWv h f rank) (o : WOk h f rank s tr) {t : List Nat} (ht : t ∈ rdyW s) : ∃ y z, stepV (goW h s t).2 = [.str (SX.S t), y, z] ∧ ((∃ u, z = .str u) ∨ ∃ v, z = .int v) := by
  obtain ⟨r, _, _, hc⟩ := goW_case W o ht
  rcases hc with ⟨v, _, e⟩ | ⟨u, _, _, _, _, _, e⟩
  · rw [e]; exact ⟨_, _, rfl, .inr ⟨_, rfl⟩⟩
  · rw [e]; exact ⟨_, _, rfl, .inl ⟨_, rfl⟩⟩
theorem runW_runs {h : House} {f rank : List Nat → Nat} {cs : List Int} (W : HouseWv h f rank) : ∀ (n : Nat) (s : WvS) (tr : List WStep), WOk h f rank s tr → 961 ≤ n + tr.length → ∃ l, runW h cs n s tr = tr ++ l ∧ RunsW h s l
  | 0, s, tr, o, hn => by have := o.len W; omega
  | n + 1, s, tr, o, hn => by
    unfold runW
    by_cases c : leftW s = []
    · rw [if_pos c]; exact ⟨[], (List.append_nil _).symm, c⟩
    · rw [if_neg c]
      have hp := (pick_mem (cs := cs) (tr := tr) (o.ready c)).2
      obtain ⟨l, e, r⟩ := runW_runs (cs := cs) W n _ _ (o.go W hp) (by rw [List.length_append]; show 961 ≤ n + (tr.length + 1); omega)
      exact ⟨_ :: l, by rw [e, List.append_assoc]; rfl, _, hp, rfl, r⟩
def spBegWv (K : PySem.W.Frag) (C : Addr) : Sp := fun vs H Q _ => ∃ (U Wl : Addr) (h : House) (ws : List (List Nat)) (f rank : List Nat → Nat), vs = [.ref U, .ref Wl] ∧ HsAt K H U h ∧ SqL K H Wl (txs ws) ∧ HouseWv h f rank ∧ (∀ t ∈ ws, t ∈ h.given.map (·.1) ++ h.recs.map (·.1) ∧ rank t < 1000) ∧
  ∀ (D : WvD) (kvs : List (Key × V)) (H' : Hp), Same H H' → H D.Wd = none → H D.Bg = none → H D.Wt = none → WvAt C H' D h kvs (begW h ws) → Q (.ref D.W) H'
def spIsStep : Sp := fun vs H Q _ => ∃ (T : Addr) (t : List Nat) (y z : V), vs = [.ref T] ∧ H T = some (.tup [.str (SX.S t), y, z]) ∧ ((∃ u, z = .str u) ∨ ∃ v, z = .int v) ∧ Q (.bl true) H
def spTrShow (K : PySem.W.Frag) : Sp := fun vs H Q _ => ∃ (U Wl Tr : Addr) (h : House) (ws : List (List Nat)) (l : List WStep) (xs : List V) (f rank : List Nat → Nat), vs = [.ref U, .ref Wl, .ref Tr] ∧ HsAt K H U h ∧ SqL K H Wl (txs ws) ∧ H Tr = some (.lst xs) ∧ StepsAt H l xs ∧ RunsW h (begW h ws) l ∧ HouseWv h f rank ∧ (∀ t ∈ ws, t ∈ h.given.map (·.1) ++ h.recs.map (·.1) ∧ rank t < 1000) ∧ ∀ H', Same H H' → Q (.bl true) H'
section
variable {P : Program} {w : World} {K : PySem.W.Frag} {mg : Str → Option Value} {base : Heap} {C fI CN : Addr}
abbrev s_begun_weaving : Stmt := topS 13
abbrev N_begun_weaving : List Str := ["house", "wishes", "weaving"]
theorem sc_begun_weaving : FnScope N_begun_weaving ["house", "wishes"] (defScope s_begun_weaving) := ⟨rfl, rfl, rfl, by decide +kernel, rfl, by decide +kernel, by decide +kernel⟩

theorem ok_begun_weaving {fdI : FuncData} (T : Txt K mg) (ZWeaving : WeT K mg C fI) (GNoName : mg "NoName" = some (.ref CN)) (F_Weaving___init__ : FnOk P w K mg base (L2.CX P w) 5 fI fdI ["self", "house", "wishes"] (spWInit K C)) (B_Weaving___init__ : Binds K fdI ["self", "house", "wishes"] [])
    (D : IsDef K mg "begun_weaving" s_begun_weaving ["house", "wishes"]) : Cal P w K mg base CX0 9 "begun_weaving" ["house", "wishes"] (spBegWv K C) := by
  refine D.cal (k := 8) sc_begun_weaving (fun vs H Q E h => ?_) (fun f cdv A outer s H vs Q E hr h => ?_)
  · obtain ⟨_, _, _, _, _, _, rfl, _⟩ := h
    rfl
  obtain ⟨U, Wl, h, ws, fw, rank, rfl, ⟨G, R, kvs, hU, hG, hR, rk⟩, hWl, WV, hws, q⟩ := h
  refine ⟨_, (pss_cons (ps_set (i := 2) sc_begun_weaving.nd rfl (Or.inl rfl) pe_non)
      (pss_cons (ps_try_only rfl rfl ⟨rfl, by decide, .inl GNoName⟩ L2.takes0 (fun W pn xe tk _ => (pss_one (ps_set (i := 2) sc_begun_weaving.nd rfl (Or.inl rfl) (pe_make ZWeaving.mkI F_Weaving___init__ (hr.mono (by first | decide | omega)) rfl ZWeaving.g B_Weaving___init__ .nil passL (pa_cons (pv 0) (pa_cons (pv 1) pa_nil))))))
        (fun a oe cls d pn _ _ => (pss_one (ps_set (i := 2) sc_begun_weaving.nd rfl (Or.inl rfl) pe_non))))
      (pss_one (ps_ret (pv 2))))), ?_⟩
  refine ⟨_, rfl, _, rfl, fun x dx nx ndx ne => ?_⟩
  have s0 : Same H (upd (upd H dx (.own x)) x (.ins C dx [])) := fun b u e => by
    rw [upd_ne (ne_of_none e nx), upd_ne (ne_of_none e ndx)]
    exact e
  refine ⟨x, dx, U, G, R, Wl, h, kvs, ws, fw, rank, rfl, upd_same, s0 _ _ hU, s0 _ _ hG, s0 _ _ hR, rk.imp fun _ _ z => z.same s0, s0.seq hWl, WV, hws, fun D H1 eW f1 n1 n2 n3 a => ⟨rfl, ?_⟩⟩
  have s1 : Same H H1 := fun b u e => f1 b u (fun z => ne_of_none e nx (List.mem_singleton.mp z)) (s0 b u e)
  rw [← eW]
  exact ⟨_, rfl, q D kvs H1 s1 (s0.free n1) (s0.free n2) (s0.free n3) a⟩
abbrev s_step_done : Stmt := topS 14
abbrev N_step_done : List Str := ["weaving", "name", "step"]
theorem sc_step_done : FnScope N_step_done ["weaving", "name"] (defScope s_step_done) := ⟨rfl, rfl, rfl, by decide +kernel, rfl, by decide +kernel, by decide +kernel⟩

theorem ok_step_done (T : Txt K mg) (ZWeaving : WeT K mg C fI) (GNoName : mg "NoName" = some (.ref CN)) (MG : Met P w K mg base (L2.CX P w) 25 C "go_on" ["self", "name"] (spGoOn C)) (D : IsDef K mg "step_done" s_step_done ["weaving", "name"]) : Cal P w K mg base CX0 29 "step_done" ["weaving", "name"] (spGoOn C) := by
  obtain ⟨f_g, fd_g, F_Weaving_go_on, M_Weaving_go_on, B_Weaving_go_on⟩ := MG
  refine D.cal (k := 28) sc_step_done (fun vs H Q E h => ?_) (fun fa cdv A outer s H vs Q E hr h => ?_)
  · obtain ⟨_, _, _, _, _, _, _, _, rfl, _⟩ := h
    rfl
  obtain ⟨D, h, kvs, s0, tr, f, rank, t, rfl, a, WV, o, ht, q⟩ := h
  obtain ⟨fs, i0, l1, l2, l3, l4, l5, l6, l7, l8, l9, l10⟩ := id a.ins
  refine ⟨_, (pss_cons (ps_set (i := 2) sc_step_done.nd rfl (Or.inl rfl) pe_non)
      (pss_cons (ps_try_only rfl rfl ⟨rfl, by decide, .inl GNoName⟩ L2.takes0 (fun W pn xe tk _ => (pss_one (ps_set (i := 2) sc_step_done.nd rfl (Or.inl rfl) (pe_methT (pv 0) ZWeaving.cl M_Weaving_go_on F_Weaving_go_on (hr.mono (by first | decide | omega)) B_Weaving_go_on (fun σ => passAt tk σ) (pa_cons (pv 1) pa_nil)))))
        (fun a oe cls d pn _ _ => (pss_one (ps_set (i := 2) sc_step_done.nd rfl (Or.inl rfl) pe_non))))
      (pss_one (ps_ret (pv 2))))), ?_⟩
  exact ⟨_, rfl, D.W, D.dx, fs, rfl, i0, l9, _, rfl, D, h, kvs, s0, tr, f, rank, t, rfl, a, WV, o, ht, fun H' Ts f' a' nT eT => ⟨_, rfl, q H' Ts f' a' nT eT⟩⟩
abbrev s_is_step : Stmt := topS 15
abbrev N_is_step : List Str := ["thing"]
theorem sc_is_step : FnScope N_is_step ["thing"] (defScope s_is_step) := ⟨rfl, rfl, rfl, by decide +kernel, rfl, by decide +kernel, by decide +kernel⟩

theorem ok_is_step (T : Txt K mg) (D : IsDef K mg "is_step" s_is_step ["thing"]) : Cal P w K mg base CX0 1 "is_step" ["thing"] spIsStep := by
  refine D.cal sc_is_step (fun vs H Q E h => ?_) (fun f cdv A outer s H vs Q E hr h => ?_)
  · obtain ⟨_, _, _, _, rfl, _⟩ := h
    rfl
  obtain ⟨Ts, t, y, z, rfl, hT, hz, q⟩ := h
  refine ⟨_, (pss_cons (ps_if (PW.pt (pw_or (pt_not (pt_val (pe_callB call_isi (by rfl) T.b_isinstance (by decide +kernel) (pa_cons (pv 0) (pa_cons (pe_bltn (v := .ty "tuple") (by rfl) T.b_tuple (by decide +kernel) rfl) pa_nil))))) (pw_or (pt_cmpR op_ne (pe_callB call_len_seq (by rfl) T.b_len PySem.boot_len (pa_cons (pv 0) pa_nil)) pe_int (nomark _)) (pw_or1 (pt_not (pt_val (pe_callB call_isi (by rfl) T.b_isinstance (by decide +kernel) (pa_cons (pe_ix (r := rIxT K) ix_tup (pv 0) pe_int (fun _ _ => rfl)) (pa_cons (pe_bltn (v := .ty "str") (by rfl) T.b_str (by decide +kernel) rfl) pa_nil)))))))))
        (pss_one (ps_ret pe_bl))
        pss_nil)
      (pss_one (ps_ret (pe_not (pe_callB call_isi (by rfl) T.b_isinstance (by decide +kernel) (pa_cons (pe_ix (r := rIxT K) ix_tup (pv 0) pe_int (fun _ _ => rfl)) (pa_cons (pe_bltn (v := .ty "bool") (by rfl) T.b_bool (by decide +kernel) rfl) pa_nil))))))), ?_⟩
  refine ⟨_, rfl, _, _, .type "tuple", _, true, rfl, .ty _, .base (.tup hT), kit_ty (by decide +kernel), _, rfl, not_true_eq rfl ?_⟩
  refine ⟨_, rfl, Ts, _, rfl, .inr (SqT.of hT), rfl, _, rfl, not_true_eq (decide_eq_true rfl) ?_⟩
  refine ⟨_, rfl, Ts, _, 0, _, rfl, rfl, SqT.of hT, rfl, _, _, .type "str", _, true, rfl, .ty _, .base (.str _), kit_ty (by decide +kernel), _, rfl, not_true_eq rfl ?_⟩
  rcases hz with ⟨u, rfl⟩ | ⟨v, rfl⟩
  · exact ⟨_, rfl, Ts, _, 2, _, rfl, rfl, SqT.of hT, rfl, _, _, .type "str", _, false, rfl, .ty _, .base (.str _), kit_ty (by decide +kernel), _, rfl, q⟩
  · exact ⟨_, rfl, Ts, _, 2, _, rfl, rfl, SqT.of hT, rfl, _, _, .type "int", _, false, rfl, .ty _, .base (.int _), kit_ty (by decide +kernel), _, rfl, q⟩
end
end Mad
/-! ### a text or a number against any thing, dicts too; tuples of such -/
namespace L2
open PySem PySem.Spec PyProof.Rows PySem.SeqAt
open PySem.AutoSeq1 (wpAny_loadPart')
section
variable {prog : Program} {w : World} {A : Around} {E : Value → Shared → Prop} {s : Shared}
theorem dict_declines {a : Addr} {u : Value} {T : String} {nm : Str} (sl : Slot "dict" nm "dict.__eq__") (da : s.TypeIs (.ref a) "dict") (db : s.TypeIs u T) (sub : isSubtype (.type T) (.type "dict") = pure false) (Q' : Value → Shared → Prop) (q : Q' .notImplemented s) :
    wpAny (model prog w) A (call (.builtin "dict.__eq__") [.ref a, u]) Q' E s := by
  refine wpAny_call_entry sl da PySem.F.entry_dict_eq ?_ (PySem.F.args_dict_eq_2 _ _)
  show wpAny _ _ (Builtin.Dict.dictSlotArgs "__eq__" ⟨[.ref a, u], []⟩ >>= _) _ _ s
  refine wpAny_bind ?_
  unfold Builtin.Dict.dictSlotArgs
  refine wpAny_bind (wpAny_notOrdered_dict da ?_)
  show wpAny _ _ (pure (Value.ref a, u)) _ _ s
  refine wpAny_pure ?_
  refine wpAny_bind (wpAny_isInstance (T := T) db sub ?_)
  simp only [Bool.not_false, if_true]
  refine wpAny_bind (wpAny_rule ?_)
  exact wpAny_pure ⟨_, rfl, q⟩
theorem int_eq_declines_dict (b : Int) (u : Tok) (l : Addr) (c : Value) (es : Array DictEntry) (ep : Nat) (dd : Option Addr) (sl : Array (Option Value)) :
    Meets (Builtin.«int.__eq__» ⟨[.int b u, .ref l], []⟩) (fun _ R s => s.heap.get? l = some { cls := c, dict := dd, data := .dict es ep, slots := sl } ∧ R (.ok (.ret .notImplemented)) s) :=
  .of_wp fun prog w A R s h => by obtain ⟨hp, g, d, tk, os⟩ := s; obtain ⟨hl, h⟩ := h; wp_walk using wpAny_loadPart' hl, wpAny_load hl; exact ⟨_, rfl, h⟩
theorem str_eq_declines_dict (b : Str) (u : Tok) (l : Addr) (c : Value) (es : Array DictEntry) (ep : Nat) (dd : Option Addr) (sl : Array (Option Value)) :
    Meets (Builtin.«str.__eq__» ⟨[.str b u, .ref l], []⟩) (fun _ R s => s.heap.get? l = some { cls := c, dict := dd, data := .dict es ep, slots := sl } ∧ R (.ok (.ret .notImplemented)) s) :=
  .of_wp fun prog w A R s h => by obtain ⟨hp, g, d, tk, os⟩ := s; obtain ⟨hl, h⟩ := h; wp_walk using wpAny_loadPart' hl, wpAny_load hl; exact ⟨_, rfl, h⟩
theorem rc_str_dict {l : Addr} {cls : Value} {dd : Option Addr} {es : Array DictEntry} {ep : Nat} {sl : Array (Option Value)} {Q : Value → Shared → Prop} (b : Str) (u : Tok) (ho : s.heap.get? l = some { cls := cls, dict := dd, data := .dict es ep, slots := sl }) (da : s.TypeIs (.ref l) "dict") (hu : A.units < cLine) (q : Q (.bool false) s) : wpAny (model prog w) A (richCompare .Eq (.str b u) (.ref l)) Q E s := by
  exact rc_eq_decline_or (k := false) (typeIs_str s b u) da (by decide) PySem.F.sub_dict_str PySem.F.slot_str_eq PySem.F.slot_dict_eq_refl
    (fun _ hq => call_meets PySem.F.slot_str_eq (typeIs_str s b u) PySem.F.entry_str_eq (PySem.F.args_str_eq_2 _ _) (str_eq_declines_dict b u l cls es ep dd sl) ⟨ho, hq⟩)
    (fun _ hq => dict_declines PySem.F.slot_dict_eq_refl da (typeIs_str s b u) PySem.F.sub_str_dict _ hq)
    (fun _ hq => wpAny_of_eq (rfl : isSame (.str b u) (.ref l) = pure false) hq) (.inr hu) q
theorem rc_int_dict {l : Addr} {cls : Value} {dd : Option Addr} {es : Array DictEntry} {ep : Nat} {sl : Array (Option Value)} {Q : Value → Shared → Prop} (b : Int) (u : Tok) (ho : s.heap.get? l = some { cls := cls, dict := dd, data := .dict es ep, slots := sl }) (da : s.TypeIs (.ref l) "dict") (hu : A.units < cLine) (q : Q (.bool false) s) : wpAny (model prog w) A (richCompare .Eq (.int b u) (.ref l)) Q E s := by
  exact rc_eq_decline_or (k := false) (typeIs_int s b u) da (by decide) PySem.F.sub_dict_int PySem.F.slot_int_eq PySem.F.slot_dict_eq_refl
    (fun _ hq => call_meets PySem.F.slot_int_eq (typeIs_int s b u) PySem.F.entry_int_eq (PySem.F.args_int_eq_2 _ _) (int_eq_declines_dict b u l cls es ep dd sl) ⟨ho, hq⟩)
    (fun _ hq => dict_declines PySem.F.slot_dict_eq_refl da (typeIs_int s b u) PySem.F.sub_int_dict _ hq)
    (fun _ hq => wpAny_of_eq (rfl : isSame (.int b u) (.ref l) = pure false) hq) (.inr hu) q
theorem eq_str_dict {l : Addr} {cls : Value} {dd : Option Addr} {es : Array DictEntry} {ep : Nat} {sl : Array (Option Value)} (b : Str) (u : Tok) (ho : s.heap.get? l = some { cls := cls, dict := dd, data := .dict es ep, slots := sl }) (da : s.TypeIs (.ref l) "dict") (hu : A.units < cLine) : EqAt A s (.str b u) (.ref l) false := fun prog w E Q h => by
  unfold eqBool
  refine wpAny_holding ?_
  refine wpAny_ite_split (fun hab => absurd (eq_of_beq hab) nofun) (fun _ => ?_)
  exact wpAny_bind (rc_str_dict b u ho da hu (wpAny_truthy_bool h))
theorem eq_int_dict {l : Addr} {cls : Value} {dd : Option Addr} {es : Array DictEntry} {ep : Nat} {sl : Array (Option Value)} (b : Int) (u : Tok) (ho : s.heap.get? l = some { cls := cls, dict := dd, data := .dict es ep, slots := sl }) (da : s.TypeIs (.ref l) "dict") (hu : A.units < cLine) : EqAt A s (.int b u) (.ref l) false := fun prog w E Q h => by
  unfold eqBool
  refine wpAny_holding ?_
  refine wpAny_ite_split (fun hab => absurd (eq_of_beq hab) nofun) (fun _ => ?_)
  exact wpAny_bind (rc_int_dict b u ho da hu (wpAny_truthy_bool h))
theorem tuple_neIn (l b : Addr) (items items2 : Array Value) (n n2 : Nat) (dd dd2 : Option Addr) (sl sl2 : Array (Option Value)) (e : Nat → Bool) :
    MeetsIn prog w (Builtin.«tuple.__ne__» ⟨[.ref l, .ref b], []⟩)
      (fun A R s => s.heap.get? l = some { cls := .type "tuple", dict := dd, data := .seq items n, slots := sl } ∧ s.heap.get? b = some { cls := .type "tuple", dict := dd2, data := .seq items2 n2, slots := sl2 } ∧
        (∀ j (h1 : j < items.size) (h2 : j < items2.size), EqIn prog w A.in1 s items[j] items2[j] (e j)) ∧
        R (.ok (.ret (.bool (!((List.range (min items.size items2.size)).all e && items.size == items2.size))))) s) :=
  .of_wp fun A R s h => by
    obtain ⟨hp, g, d, tk, os⟩ := s; obtain ⟨hl, hb, he, h⟩ := h
    have f2 := AutoSeq1.sub_tuple_tuple
    have hZ : (items.toList.zip items2.toList).length = min items.size items2.size := by simp
    wp_walk using wpAny_loadPart' hl, wpAny_loadPart' hb, wpAny_forIn_list _ (fun rest b s' => b.1 = none ∧ s' = ⟨hp, g, d, tk, os⟩ ∧ ∃ i, rest = (items.toList.zip items2.toList).drop i ∧
      R (.ok (.ret (.bool (!(((List.range (min items.size items2.size)).drop i).all e && items.size == items2.size))))) ⟨hp, g, d, tk, os⟩) _
    case turn =>
      rintro ⟨y, x⟩ rest b s' ⟨hb', rfl, i, hz, hR⟩
      have hlt : i < (items.toList.zip items2.toList).length := by
        rcases Nat.lt_or_ge i (items.toList.zip items2.toList).length with h' | h'
        · exact h'
        · rw [List.drop_of_length_le h'] at hz; cases hz
      have hm : i < min items.size items2.size := hZ ▸ hlt
      have h1 : i < items.size := Nat.lt_of_lt_of_le hm (Nat.min_le_left _ _)
      have h2 : i < items2.size := Nat.lt_of_lt_of_le hm (Nat.min_le_right _ _)
      rw [List.drop_eq_getElem_cons hlt] at hz
      injection hz with hyx hrest
      have hy : y = items[i] := by have := congrArg Prod.fst hyx; simpa using this
      have hx : x = items2[i] := by have := congrArg Prod.snd hyx; simpa using this
      subst hy hx
      have hd : (List.range (min items.size items2.size)).drop i = i :: (List.range (min items.size items2.size)).drop (i + 1) := by simp [List.drop_eq_getElem_cons, hm]
      rw [hd, List.all_cons] at hR
      refine wpAny_bind (he i h1 h2 _ _ ?_)
      cases hy : e i with
      | true =>
        rw [hy] at hR
        wp_walk
        exact ⟨rfl, rfl, i + 1, hrest, by simpa using hR⟩
      | false =>
        rw [hy] at hR
        wp_walk
        exact ⟨_, rfl, by simpa using hR⟩
    case fin =>
      rintro ⟨b1, b2⟩ s' ⟨hb', rfl, i, hz, hR⟩
      simp only at hb'
      subst hb'
      have hge : min items.size items2.size ≤ i := by
        rcases Nat.lt_or_ge i (items.toList.zip items2.toList).length with h' | h'
        · rw [List.drop_eq_getElem_cons h'] at hz; cases hz
        · exact hZ ▸ h'
      rw [List.drop_of_length_le (by simpa using hge)] at hR
      wp_walk
      exact ⟨_, rfl, by simpa [Builtin.Tuple.tupleCompareSizes, bne] using hR⟩
    case h =>
      exact ⟨rfl, rfl, 0, rfl, by simpa using h⟩
theorem ne_tups' {l b : Addr} {u v : Array Value} {e : Nat → Bool} {Q : Value → Shared → Prop} (hl : s.heap.IsTuple l u) (hb : s.heap.IsTuple b v) (hu : A.units < cLine)
    (he : ∀ j (h1 : j < u.size) (h2 : j < v.size), EqIn prog w A.in1 s u[j] v[j] (e j)) (h : Q (.bool (!((List.range (min u.size v.size)).all e && u.size == v.size))) s) : wpAny (model prog w) A (richCompare .NotEq (.ref l) (.ref b)) Q E s := by
  obtain ⟨⟨c1, d1, a1, sl1⟩, o1, k1, n1, t1⟩ := id hl
  obtain ⟨⟨c2, d2, a2, sl2⟩, o2, k2, n2, t2⟩ := id hb
  simp only at k1 t1 k2 t2
  subst k1 t1 k2 t2
  refine wpAny_richCompare_same_room (T := "tuple") (op := .NotEq) ⟨_, o1, rfl⟩ ⟨_, o2, rfl⟩ PySem.F.slot_tuple_ne ?_ hu
  exact call_meetsIn PySem.F.slot_tuple_ne ⟨_, o1, rfl⟩ PySem.F.entry_tuple_ne (PySem.F.args_tuple_ne_2 _ _) (tuple_neIn l b u v n1 n2 d1 d2 sl1 sl2 e) ⟨o1, o2, he, show Value.bool (!((List.range (min u.size v.size)).all e && u.size == v.size)) ≠ Value.notImplemented ∧ Q (.bool (!((List.range (min u.size v.size)).all e && u.size == v.size))) s from ⟨(fun x => nomatch x), h⟩⟩
end
/-- any value that is flat, or a tuple, a list, a dict -/
def AnyV (H : Hp) (x : V) : Prop := flatV x = true ∨ ∃ a, x = .ref a ∧ ((∃ xs, H a = some (.tup xs)) ∨ (∃ xs, H a = some (.lst xs)) ∨ ∃ k, H a = some (.dK k))
def SiV (y : V) : Prop := (∃ z, y = .str z) ∨ ∃ i, y = .int i
section
variable {X : Cx} {pins : List (Addr × Obj)} {σ : L2.St} {H : Hp} {s : Shared}
theorem SiV.flat {y : V} (h : SiV y) : flatV y = true := by rcases h with ⟨z, rfl⟩ | ⟨z, rfl⟩ <;> rfl
theorem eqAt_any (I : Inv X pins σ H s) {A : Around} (hu : A.units < cLine) {y x : V} {u v : Value} (ry : RelV y u) (rx : RelV x v) (fy : SiV y) (hx : AnyV H x) : EqAt A s u v (eqV y x) := by
  rcases hx with f | ⟨a, rfl, ⟨xs, h⟩ | ⟨xs, h⟩ | ⟨ks, h⟩⟩
  · exact eqAt_V ry rx fy.flat f
  · cases rx
    obtain ⟨us, _, p⟩ := I.tuple (SqT.of h)
    rcases fy with ⟨z, rfl⟩ | ⟨i, rfl⟩
    · obtain ⟨t, rfl⟩ := ry
      exact EqAt.str_tuple z t p.1 hu
    · obtain ⟨t, rfl⟩ := ry
      exact EqAt.int_tuple i t p.1 hu
  · cases rx
    obtain ⟨us, _, p, _⟩ := I.list (SqL.of h)
    rcases fy with ⟨z, rfl⟩ | ⟨i, rfl⟩
    · obtain ⟨t, rfl⟩ := ry
      exact EqAt.str_list z t p.isList hu
    · obtain ⟨t, rfl⟩ := ry
      exact EqAt.int_list i t p.isList hu
  · cases rx
    obtain ⟨_, ya, va, ra, da⟩ := (show ObjOk X.prog X.w H s.heap a (.dK ks) from I.hok a _ h)
    have ty := da.typeIs
    obtain ⟨⟨cls, dd, data, sl⟩, es, ep, ho, _, hd, _⟩ := da
    simp only at hd
    subst hd
    rcases fy with ⟨z, rfl⟩ | ⟨i, rfl⟩
    · obtain ⟨t, rfl⟩ := ry
      exact eq_str_dict z t ho ty hu
    · obtain ⟨t, rfl⟩ := ry
      exact eq_int_dict i t ho ty hu
end
/-- a tuple of texts and numbers != a tuple as long of any things -/
def rNeS (K : PySem.W.Frag) : R2 := fun x y H Q => ∃ a b xs ys, x = .ref a ∧ y = .ref b ∧ SqT K H a xs ∧ SqT K H b ys ∧ xs.length = ys.length ∧ (∀ z ∈ xs, SiV z) ∧ (∀ z ∈ ys, AnyV H z) ∧ Q (.bl (!((xs.zip ys).all fun p => eqV p.1 p.2))) H
theorem vals_get {P : V → Value → Prop} : ∀ {xs : List V} {us : List Value} {j : Nat} (h1 : j < xs.length) (h2 : j < us.length), Vals xs us → RelV xs[j] us[j]
  | _, _, j, h1, _, .nil => absurd h1 (Nat.not_lt_zero _)
  | _, _, 0, _, _, .cons r _ => r
  | _, _, j + 1, h1, h2, .cons _ t => vals_get (P := P) (Nat.lt_of_succ_lt_succ h1) (Nat.lt_of_succ_lt_succ h2) t
theorem all_zip_range (f : V → V → Bool) : ∀ (xs ys : List V), xs.length = ys.length → (xs.zip ys).all (fun p => f p.1 p.2) = (List.range xs.length).all fun j => f (xs.getD j .non) (ys.getD j .non)
  | [], [], _ => rfl
  | x :: xs, y :: ys, h => by
    rw [List.zip_cons_cons, List.all_cons, List.length_cons, List.range_succ_eq_map, List.all_cons, List.all_map, all_zip_range f xs ys (Nat.succ.inj h)]
    rfl
  | [], _ :: _, h => nomatch h
  | _ :: _, [], h => nomatch h
section
variable {X : Cx}
theorem op_neS (hu : X.A.units + 199 < cLine) : OpR X (compareOp .NotEq) (rNeS X.K) := by
  intro pins s σ H x y v u Q I rx ry h
  obtain ⟨a, b, xs, ys, rfl, rfl, ha, hb, hl, h1, h2, q⟩ := h
  cases rx
  cases ry
  obtain ⟨us, r1, p1⟩ := I.tuple ha
  obtain ⟨ws, r2, p2⟩ := I.tuple hb
  have l1 := r1.length
  have l2 := r2.length
  refine ne_tups' (e := fun j => eqV (xs.getD j .non) (ys.getD j .non)) p1.1 p2.1 (by omega) (fun j j1 j2 => ?_) ⟨.bl _, H, I, rfl, ?_⟩
  · have j1' : j < us.length := by simpa using j1
    have j2' : j < ws.length := by simpa using j2
    have k1 : j < xs.length := by omega
    have k2 : j < ys.length := by omega
    have e1 : xs.getD j .non = xs[j] := by rw [List.getD_eq_getElem?_getD, List.getElem?_eq_getElem k1]; rfl
    have e2 : ys.getD j .non = ys[j] := by rw [List.getD_eq_getElem?_getD, List.getElem?_eq_getElem k2]; rfl
    show EqIn X.prog X.w X.A.in1 s _ _ (eqV (xs.getD j .non) (ys.getD j .non))
    rw [e1, e2]
    have := EqAt.inModel (prog := X.prog) (w := X.w) <| eqAt_any I (A := X.A.in1) (by show X.A.units + 1 < cLine; omega) (vals_get (P := RelV) k1 j1' r1) (vals_get (P := RelV) k2 j2' r2) (h1 _ (List.getElem_mem k1)) (h2 _ (List.getElem_mem k2))
    simpa using this
  · have e : us.toArray.size = ws.toArray.size := by simp; omega
    have e3 : us.toArray.size = xs.length := by simp; omega
    rw [← e, Nat.min_self, e3, beq_self_eq_true, Bool.and_true, ← all_zip_range eqV xs ys hl]
    exact q
end
/-- any thing in a list of texts -/
def rNotInT (K : PySem.W.Frag) : R2 := fun x y H Q => ∃ a xs, y = .ref a ∧ SqL K H a xs ∧ (∀ z ∈ xs, ∃ t, z = .str t) ∧ AnyV H x ∧ Q (.bl (!(xs.any fun z => eqV z x))) H
section
variable {X : Cx}
theorem any_eqU' {x : V} {us : List Value} {xs : List V} (r : Vals xs us) (h : ∀ z ∈ xs, ∃ t, z = .str t) : us.any (eqU x) = xs.any fun y => eqV y x :=
  any_eqU r (List.all_eq_true.mpr fun z hz => by obtain ⟨t, rfl⟩ := h z hz; rfl)
theorem vals_mem : ∀ {xs : List V} {us : List Value}, Vals xs us → ∀ u ∈ us, ∃ x ∈ xs, RelV x u
  | _, _, .nil, u, h => nomatch h
  | x :: xs, v :: us, .cons r t, u, h => by
    rcases List.mem_cons.mp h with rfl | h
    · exact ⟨x, List.mem_cons_self, r⟩
    · obtain ⟨y, hy, ry⟩ := vals_mem t u h
      exact ⟨y, List.mem_cons_of_mem _ hy, ry⟩
theorem op_notInT (hu : X.A.units + 199 < cLine) : OpR X (compareOp .NotIn) (rNotInT X.K) := by
  intro pins s σ H x y v u Q I rx ry h
  obtain ⟨a, xs, rfl, ha, h1, hx, q⟩ := h
  cases ry
  obtain ⟨us, r1, p1, _⟩ := I.list ha
  refine notIn_listAt (eqU x) p1.isList (fun y hy => ?_) ?_
  · obtain ⟨z, hz, rz⟩ := vals_mem r1 y (by simpa using hy)
    obtain ⟨t, rfl⟩ := h1 z hz
    rw [eqU_of rz rfl]
    exact eqAt_any I (by show X.A.units + 1 < cLine; omega) rz rx (.inl ⟨t, rfl⟩) hx
  · refine ⟨.bl _, H, I, rfl, ?_⟩
    rw [show us.toArray.any (eqU x) = us.any (eqU x) by simp, any_eqU' r1 h1]
    exact q
end
end L2
namespace Mad
open PySem PySem.Spec PyProof.Rows L2
/-! ### traces of any things: plain -/
open LamX NdefX
def eqTh (y : V) : Th → Bool
  | .non => eqV y .non
  | .bl b => eqV y (.bl b)
  | .int i => eqV y (.int i)
  | .str s => eqV y (.str (SX.S s))
  | _ => false
theorem Data.anyV {H : Hp} : ∀ {t : Th} {v : V}, Data H t v → AnyV H v
  | .non, v, h => by rw [show v = V.non from h]; exact .inl rfl
  | .bl _, v, h => by rw [show v = V.bl _ from h]; exact .inl rfl
  | .int _, v, h => by rw [show v = V.int _ from h]; exact .inl rfl
  | .str _, v, h => by rw [show v = V.str _ from h]; exact .inl rfl
  | .tup _, v, ⟨p, xs, e, hp, _⟩ => .inr ⟨p, e, .inl ⟨xs, hp⟩⟩
  | .lst _, v, ⟨p, xs, e, hp, _⟩ => .inr ⟨p, e, .inr (.inl ⟨xs, hp⟩)⟩
  | .dct, v, ⟨p, kvs, e, hp⟩ => .inr ⟨p, e, .inr (.inr ⟨kvs, hp⟩)⟩
theorem eqV_data {H : Hp} {y : V} (f : SiV y) : ∀ {t : Th} {v : V}, Data H t v → eqV y v = eqTh y t
  | .non, v, h => by rw [show v = V.non from h]; rfl
  | .bl _, v, h => by rw [show v = V.bl _ from h]; rfl
  | .int _, v, h => by rw [show v = V.int _ from h]; rfl
  | .str _, v, h => by rw [show v = V.str _ from h]; rfl
  | .tup _, v, ⟨p, xs, e, hp, _⟩ => by rw [e]; rcases f with ⟨z, rfl⟩ | ⟨z, rfl⟩ <;> rfl
  | .lst _, v, ⟨p, xs, e, hp, _⟩ => by rw [e]; rcases f with ⟨z, rfl⟩ | ⟨z, rfl⟩ <;> rfl
  | .dct, v, ⟨p, kvs, e, hp⟩ => by rw [e]; rcases f with ⟨z, rfl⟩ | ⟨z, rfl⟩ <;> rfl
theorem stepV_si (st : WStep) : ∀ z ∈ stepV st, SiV z := by
  cases st with
  | waits n u => intro z hz; rcases List.mem_cons.mp hz with rfl | hz; exact .inl ⟨_, rfl⟩; rcases List.mem_cons.mp hz with rfl | hz; exact .inl ⟨_, rfl⟩; rcases List.mem_cons.mp hz with rfl | hz; exact .inl ⟨_, rfl⟩; cases hz
  | known n u => intro z hz; rcases List.mem_cons.mp hz with rfl | hz; exact .inl ⟨_, rfl⟩; rcases List.mem_cons.mp hz with rfl | hz; exact .inl ⟨_, rfl⟩; rcases List.mem_cons.mp hz with rfl | hz; exact .inr ⟨_, rfl⟩; cases hz
theorem stepV_len (st : WStep) : (stepV st).length = 3 := by cases st <;> rfl
/-- a step against three things -/
def stepEq (st : WStep) (l : List Th) : Bool := ((stepV st).zip l).all fun p => eqTh p.1 p.2
theorem zip_data {H : Hp} : ∀ {ys : List V} {l : List Th} {xs : List V}, (∀ z ∈ ys, SiV z) → DataL H l xs → ((ys.zip xs).all fun p => eqV p.1 p.2) = (ys.zip l).all fun p => eqTh p.1 p.2
  | [], _, _, _, _ => rfl
  | y :: ys, [], xs, _, h => by rw [show xs = [] from h]; rfl
  | y :: ys, t :: l, xs, f, ⟨x, r, e, h1, h2⟩ => by
    rw [e, List.zip_cons_cons, List.zip_cons_cons, List.all_cons, List.all_cons, zip_data (fun z hz => f z (List.mem_cons_of_mem _ hz)) h2]
    show (eqV y x && _) = (eqTh y t && _)
    rw [eqV_data (f y List.mem_cons_self) h1]
theorem data_all {H : Hp} : ∀ {l : List Th} {xs : List V}, DataL H l xs → ∀ z ∈ xs, AnyV H z
  | [], xs, h, z, hz => by rw [show xs = [] from h] at hz; cases hz
  | t :: l, xs, ⟨x, r, e, h1, h2⟩, z, hz => by
    rw [e] at hz
    rcases List.mem_cons.mp hz with rfl | hz
    · exact h1.anyV
    · exact data_all h2 z hz
def isStepT : Th → Bool
  | .tup [.str _, _, b] => !b.isBl
  | _ => false
/-- is the trace one of a weaving that stands at s -/
def showsT (h : House) : WvS → List Th → Bool
  | s, [] => decide (leftW s = [])
  | s, .tup [.str n, a, b] :: l => if n ∈ rdyW s ∧ b.isBl = false ∧ stepEq (goW h s n).2 [.str n, a, b] = true then showsT h (goW h s n).1 l else false
  | _, _ :: _ => false
theorem shows_no {h : House} {s : WvS} {t : Th} {l : List Th} (e : isStepT t = false) : showsT h s (t :: l) = false := by
  cases t with
  | tup ts =>
    match ts with
    | [.str n, a, b] =>
      have eb : b.isBl = true := by
        have : (!b.isBl) = false := e
        cases hb : b.isBl with
        | true => rfl
        | false => rw [hb] at this; cases this
      show (if n ∈ rdyW s ∧ b.isBl = false ∧ _ then _ else false) = false
      rw [if_neg (fun z => by rw [eb] at z; cases z.2.1)]
    | [] => rfl
    | [x] => cases x <;> rfl
    | [x, y] => cases x <;> rfl
    | [.non, _, _] => rfl
    | [.bl _, _, _] => rfl
    | [.int _, _, _] => rfl
    | [.tup _, _, _] => rfl
    | [.lst _, _, _] => rfl
    | [.dct, _, _] => rfl
    | a :: b :: c :: d :: r => cases a <;> rfl
  | _ => rfl
theorem isStep_form {t : Th} (e : isStepT t = true) : ∃ n a b, t = .tup [.str n, a, b] ∧ b.isBl = false := by
  cases t with
  | tup ts =>
    match ts with
    | [.str n, a, b] =>
      refine ⟨n, a, b, rfl, ?_⟩
      have : (!b.isBl) = true := e
      cases hb : b.isBl with
      | false => rfl
      | true => rw [hb] at this; cases this
    | [] => cases e
    | [x] => cases x <;> cases e
    | [x, y] => cases x <;> cases e
    | [.non, _, _] => cases e
    | [.bl _, _, _] => cases e
    | [.int _, _, _] => cases e
    | [.tup _, _, _] => cases e
    | [.lst _, _, _] => cases e
    | [.dct, _, _] => cases e
    | a :: b :: c :: d :: r => cases a <;> cases e
  | _ => cases e
theorem shows_go {h : House} {s : WvS} {n : List Nat} {a b : Th} {l : List Th} (h1 : n ∈ rdyW s) (h2 : b.isBl = false) (h3 : stepEq (goW h s n).2 [.str n, a, b] = true) : showsT h s (.tup [.str n, a, b] :: l) = showsT h (goW h s n).1 l := if_pos ⟨h1, h2, h3⟩
theorem shows_un {h : House} {s : WvS} {n : List Nat} {a b : Th} {l : List Th} (h1 : ¬ (n ∈ rdyW s ∧ b.isBl = false ∧ stepEq (goW h s n).2 [.str n, a, b] = true)) : showsT h s (.tup [.str n, a, b] :: l) = false := if_neg h1
theorem data_str {H : Hp} {t : Th} {v : V} (d : Data H t v) (e : t.isStr = true) : ∃ n, t = .str n ∧ v = .str (SX.S n) := by
  cases t with
  | str n => exact ⟨n, rfl, d⟩
  | _ => cases e
theorem data_tup {H : Hp} {t : Th} {v : V} (d : Data H t v) (e : t.isTup = true) : ∃ ts T xs, t = .tup ts ∧ v = .ref T ∧ H T = some (.tup xs) ∧ DataL H ts xs := by
  cases t with
  | tup ts => obtain ⟨T, xs, e1, e2, e3⟩ := d; exact ⟨ts, T, xs, rfl, e1, e2, e3⟩
  | _ => cases e
theorem dataL3 {H : Hp} {ts : List Th} {xs : List V} (d : DataL H ts xs) (e : xs.length = 3) : ∃ a b c x y z, ts = [a, b, c] ∧ xs = [x, y, z] ∧ Data H a x ∧ Data H b y ∧ Data H c z := by
  have l := d.len
  match ts, d with
  | [a, b, c], ⟨x, _, e1, h1, y, _, e2, h2, z, _, e3, h3, e4⟩ =>
    have e4 : _ = [] := e4
    subst e4 e3 e2 e1
    exact ⟨a, b, c, x, y, z, rfl, rfl, h1, h2, h3⟩
  | [], _ => rw [e] at l; simp at l
  | [_], _ => rw [e] at l; simp at l
  | [_, _], _ => rw [e] at l; simp at l
  | _ :: _ :: _ :: _ :: _, _ => rw [e] at l; simp at l
def spIsStepT : Sp := fun vs H Q _ => ∃ (v : V) (t : Th), vs = [v] ∧ Data H t v ∧ Q (.bl (isStepT t)) H
section
variable {P : Program} {w : World} {K : PySem.W.Frag} {mg : Str → Option Value} {base : Heap} {C fI : Addr}
theorem ok_is_stepT (T : Txt K mg) (D : IsDef K mg "is_step" s_is_step ["thing"]) : Cal P w K mg base CX0 1 "is_step" ["thing"] spIsStepT := by
  refine D.cal sc_is_step (fun vs H Q E h => ?_) (fun f cdv A outer s H vs Q E hr h => ?_)
  · obtain ⟨_, _, rfl, _⟩ := h
    rfl
  obtain ⟨v, t, rfl, hd, q⟩ := h
  refine ⟨_, (pss_cons (ps_if (PW.pt (pw_or (pt_not (pt_val (pe_callB call_isi (by rfl) T.b_isinstance (by decide +kernel) (pa_cons (pv 0) (pa_cons (pe_bltn (v := .ty "tuple") (by rfl) T.b_tuple (by decide +kernel) rfl) pa_nil))))) (pw_or (pt_cmpR op_ne (pe_callB call_len_seq (by rfl) T.b_len PySem.boot_len (pa_cons (pv 0) pa_nil)) pe_int (nomark _)) (pw_or1 (pt_not (pt_val (pe_callB call_isi (by rfl) T.b_isinstance (by decide +kernel) (pa_cons (pe_ix (r := rIxT K) ix_tup (pv 0) pe_int (fun _ _ => rfl)) (pa_cons (pe_bltn (v := .ty "str") (by rfl) T.b_str (by decide +kernel) rfl) pa_nil)))))))))
        (pss_one (ps_ret pe_bl))
        pss_nil)
      (pss_one (ps_ret (pe_not (pe_callB call_isi (by rfl) T.b_isinstance (by decide +kernel) (pa_cons (pe_ix (r := rIxT K) ix_tup (pv 0) pe_int (fun _ _ => rfl)) (pa_cons (pe_bltn (v := .ty "bool") (by rfl) T.b_bool (by decide +kernel) rfl) pa_nil))))))), ?_⟩
  refine ⟨_, rfl, _, _, .type t.tyName, _, t.isTup, rfl, .ty _, hd.ty, kit_tup t, _, rfl, ?_⟩
  cases ht : t.isTup with
  | false =>
    refine not_false_eq rfl ?_
    rw [show isStepT t = false by cases t <;> first | rfl | cases ht] at q
    exact q
  | true =>
    refine not_true_eq rfl ?_
    obtain ⟨ts, Ta, xs, rfl, rfl, hT, hL⟩ := data_tup hd ht
    refine ⟨_, rfl, Ta, _, rfl, .inr (SqT.of hT), rfl, _, rfl, ?_⟩
    by_cases c : xs.length = 3
    · obtain ⟨a, b, c', x, y, z, rfl, rfl, d1, d2, d3⟩ := dataL3 hL c
      refine not_true_eq (decide_eq_true rfl) ?_
      refine ⟨_, rfl, Ta, _, 0, _, rfl, rfl, SqT.of hT, rfl, _, _, .type a.tyName, _, a.isStr, rfl, .ty _, d1.ty, kit_str a, _, rfl, ?_⟩
      cases hs : a.isStr with
      | false =>
        refine not_false_eq rfl ?_
        rw [show isStepT (.tup [a, b, c']) = false by cases a <;> first | rfl | cases hs] at q
        exact q
      | true =>
        obtain ⟨n, rfl, rfl⟩ := data_str d1 hs
        refine not_true_eq rfl ?_
        exact ⟨_, rfl, Ta, _, 2, _, rfl, rfl, SqT.of hT, rfl, _, _, .type c'.tyName, _, c'.isBl, rfl, .ty _, d3.ty, kit_bl c', _, rfl, q⟩
    · refine not_false_eq (decide_eq_false fun z => c (by have := V.int.inj z; omega)) ?_
      rw [show isStepT (.tup ts) = false by
        have := hL.len
        cases hi : isStepT (.tup ts) with
        | false => rfl
        | true => obtain ⟨n, a, b, e, _⟩ := isStep_form hi; cases e; exact absurd this c] at q
      exact q
end
/-! ### traces of any things: trace_shows, and the law's own -/
open LamX NdefX
def spTrShowT (K : PySem.W.Frag) : Sp := fun vs H Q _ => ∃ (U Wl Tr : Addr) (h : House) (ws : List (List Nat)) (l : List Th) (xs : List V) (f rank : List Nat → Nat), vs = [.ref U, .ref Wl, .ref Tr] ∧ HsAt K H U h ∧ SqL K H Wl (txs ws) ∧ H Tr = some (.lst xs) ∧ DataL H l xs ∧ HouseWv h f rank ∧ (∀ t ∈ ws, t ∈ h.given.map (·.1) ++ h.recs.map (·.1) ∧ rank t < 1000) ∧ ∀ H', Same H H' → Q (.bl (showsT h (begW h ws) l)) H'
theorem drop_at {α : Type} {l : List α} {j : Nat} {t : α} (e : l[j]? = some t) : l.drop j = t :: l.drop (j + 1) := by
  obtain ⟨hj, e2⟩ := List.getElem?_eq_some_iff.mp e
  rw [List.drop_eq_getElem_cons hj, e2]
theorem any_txs {n : List Nat} : ∀ ns : List (List Nat), ((txs ns).any fun z => eqV z (.str (SX.S n))) = decide (n ∈ ns)
  | [] => by rw [decide_eq_false (fun z => nomatch z)]; rfl
  | a :: ns => by
    show (eqV (.str (SX.S a)) (.str (SX.S n)) || (txs ns).any _) = _
    rw [any_txs ns, show eqV (.str (SX.S a)) (.str (SX.S n)) = (SX.S a == SX.S n) from rfl, SX.S_beq_eq]
    by_cases c : a = n
    · rw [decide_eq_true c, show decide (n ∈ a :: ns) = true from decide_eq_true (by rw [← c]; exact List.mem_cons_self)]; rfl
    · rw [decide_eq_false c, Bool.false_or]
      exact decide_eq_decide.mpr ⟨fun z => List.mem_cons_of_mem _ z, fun z => (List.mem_cons.mp z).elim (fun e => absurd e.symm c) id⟩
section
variable {P : Program} {w : World} {K : PySem.W.Frag} {mg : Str → Option Value} {base : Heap} {C fI : Addr}
abbrev s_trace_shows : Stmt := topS 16
abbrev N_trace_shows : List Str := ["house", "wishes", "trace", "weaving", "thing"]
theorem sc_trace_shows : FnScope N_trace_shows ["house", "wishes", "trace"] (defScope s_trace_shows) := ⟨rfl, rfl, rfl, by decide +kernel, rfl, by decide +kernel, by decide +kernel⟩

theorem ok_trace_showsT (T : Txt K mg) (ZWeaving : WeT K mg C fI) (C_bw : Cal P w K mg base CX0 9 "begun_weaving" ["house", "wishes"] (spBegWv K C)) (C_is : Cal P w K mg base CX0 1 "is_step" ["thing"] spIsStepT) (C_sd : Cal P w K mg base CX0 29 "step_done" ["weaving", "name"] (spGoOn C))
    (MO : Met P w K mg base CX0 1 C "is_over" ["self"] (spOver C)) (MR : Met P w K mg base CX0 1 C "ready" ["self"] (spReady C)) (Df : IsDef K mg "trace_shows" s_trace_shows ["house", "wishes", "trace"]) : Cal P w K mg base CX0 30 "trace_shows" ["house", "wishes", "trace"] (spTrShowT K) := by
  obtain ⟨f_o, fd_o, F_Weaving_is_over, M_Weaving_is_over, B_Weaving_is_over⟩ := MO
  obtain ⟨f_r, fd_r, F_Weaving_ready, M_Weaving_ready, B_Weaving_ready⟩ := MR
  have C_begun_weaving := C_bw.mono (show 9 ≤ 29 by decide)
  have C_is_step := C_is.mono (show 1 ≤ 29 by decide)
  have C_step_done := C_sd
  refine Df.cal (k := 29) sc_trace_shows (fun vs H Q E h => ?_) (fun fa cdv A outer s H vs Q E hr h => ?_)
  · obtain ⟨_, _, _, _, _, _, _, _, _, rfl, _⟩ := h
    rfl
  obtain ⟨U, Wl, Tr, h, ws, l, xs, f, rank, rfl, hHs, hWl, hTr, hd, WV, hws, q⟩ := h
  refine ⟨_, (pss_cons (ps_set (i := 3) sc_trace_shows.nd rfl (Or.inl rfl) (pe_cal C_begun_weaving (hr.mono (by first | decide | omega)) pass0 (pa_cons (pv 0) (pa_cons (pv 1) pa_nil))))
      (pss_cons (ps_if (pt_cmpR op_isN (pv 3) pe_non (nomark _))
        (pss_one (ps_ret pe_bl))
        pss_nil)
      (pss_cons (ps_for PassesOwn.never rfl (pi_list (pv 2)) (pg_name (i := 4) sc_trace_shows.nd rfl (Or.inl rfl))
        (pss_cons (ps_if (PW.pt (pw_or (pt_not (pt_val (pe_cal C_is_step (hr.mono (by first | decide | omega)) pass0 (pa_cons (pv 4) pa_nil)))) (pw_or1 (pt_cmpR op_notIn_seq (pe_ix (r := rIxT K) ix_tup (pv 4) pe_int (fun _ _ => rfl)) (pe_meth0 (pv 3) ZWeaving.cl M_Weaving_ready F_Weaving_ready (hr.mono (by first | decide | omega)) B_Weaving_ready .nil pass0) (by with_unfolding_all rfl)))))
        (pss_one (ps_ret pe_bl))
        pss_nil)
      (pss_one (ps_if (pt_cmpR (op_neS (hu199 hr)) (pe_cal C_step_done (hr.mono (by first | decide | omega)) pass0 (pa_cons (pv 3) (pa_cons (pe_ix (r := rIxT K) ix_tup (pv 4) pe_int (fun _ _ => rfl)) pa_nil))) (pv 4) (nomark _))
        (pss_one (ps_ret pe_bl))
        pss_nil))))
      (pss_one (ps_ret (pe_meth0 (pv 3) ZWeaving.cl M_Weaving_is_over F_Weaving_is_over (hr.mono (by first | decide | omega)) B_Weaving_is_over .nil pass0)))))), ?_⟩
  refine ⟨_, rfl, _, rfl, U, Wl, h, ws, f, rank, rfl, hHs, hWl, WV, hws, fun D kvs H1 s1 n1 n2 n3 a => ?_⟩
  refine ⟨_, rfl, rfl, _, rfl, iteN (fun z => by cases z) ?_⟩
  have noOwn : ∀ {b : Addr} {u : HO}, H b = some u → ¬ b ∈ D.own := fun {b u} e z => by
    unfold WvD.own at z
    simp only [List.mem_cons, List.not_mem_nil, or_false] at z
    rcases z with z | z | z
    · rw [z, n1] at e; cases e
    · rw [z, n2] at e; cases e
    · rw [z, n3] at e; cases e
  refine ⟨_, rfl, Tr, rfl, ⟨_, SqL.of (s1 _ _ hTr)⟩, for_list (xs := xs) (fun j σ X => ∃ (w4 : Option V) (s : WvS) (tr : List WStep), σ = [some (.ref U), some (.ref Wl), some (.ref Tr), some (.ref D.W), w4] ∧ Same H X ∧ WvAt C X D h kvs s ∧ WOk h f rank s tr ∧ showsT h (begW h ws) l = showsT h s (l.drop j)) ⟨none, _, [], rfl, s1, a, begW_ok WV ws (fun t ht => (hws t ht).2), rfl⟩ (fun j σ X _ ⟨_, _, _, _, e, _⟩ => SqL.of (e _ _ hTr)) ?_ ?_⟩
  · rintro j x σ X hx ⟨w4, s, tr, rfl, sX, aX, o, er⟩
    obtain ⟨t, ht, dt⟩ := hd.at hx
    rw [drop_at ht] at er
    have bl := o.bl WV
    obtain ⟨fs, i0, l1, l2, l3, l4, l5, l6, l7, l8, l9, l10⟩ := id aX.ins
    refine in_name rfl ?_
    refine ⟨_, rfl, x, t, rfl, dt.same sX, _, rfl, ?_⟩
    cases ci : isStepT t with
    | false =>
      refine not_false_eq rfl ?_
      rw [shows_no ci] at er
      rw [er] at q
      exact q _ sX
    | true =>
      refine not_true_eq rfl ?_
      obtain ⟨n, y, z, rfl, hb⟩ := isStep_form ci
      obtain ⟨Ts, vs, rfl, hTs, x0, _, rfl, d0, y0, _, rfl, d1, z0, _, rfl, d2, e9⟩ := dt
      cases (show _ = [] from e9)
      cases (show x0 = V.str (SX.S n) from d0)
      have hT := sX _ _ hTs
      refine ⟨_, rfl, Ts, _, 0, _, rfl, rfl, SqT.of hT, rfl, _, rfl, D.W, D.dx, fs, rfl, i0, l8, D, h, kvs, s, rfl, aX, by omega, fun X1 L1 x1 nL eL => ⟨L1, _, rfl, .inl (SqL.of eL), rfl, txs_flat _, _, rfl, ?_⟩⟩
      rw [in_txs]
      by_cases hm : n ∈ rdyW s
      · rw [decide_eq_true hm]
        refine iteF ?_
        have a1 := aX.same x1
        have hT1 := x1 _ _ hT
        refine ⟨_, rfl, _, rfl, Ts, _, 0, _, rfl, rfl, SqT.of hT1, rfl, D, h, kvs, s, tr, f, rank, n, rfl, a1, WV, o, hm, fun X2 T2 f2 a2 nT2 eT2 => ?_⟩
        have s2 : Same H X2 := fun b u e => f2 b u (noOwn e) ((sX.trans x1) b u e)
        have hTs2 := s2 _ _ hTs
        have dl : DataL X2 [.str n, y, z] [.str (SX.S n), y0, z0] := ⟨_, _, rfl, rfl, _, _, rfl, d1.same s2, _, _, rfl, d2.same s2, rfl⟩
        refine ⟨_, rfl, T2, Ts, _, _, rfl, rfl, SqT.of eT2, SqT.of hTs2, stepV_len _, stepV_si _, data_all dl, _, rfl, ?_⟩
        rw [zip_data (stepV_si _) dl]
        cases ce : stepEq (goW h s n).2 [.str n, y, z] with
        | true =>
          rw [shows_go hm hb ce] at er
          refine not_true_eq ce ?_
          exact ⟨_, _, _, rfl, s2, a2, o.go WV hm, er⟩
        | false =>
          rw [shows_un (fun z => by rw [ce] at z; cases z.2.2)] at er
          refine not_false_eq ce ?_
          rw [er] at q
          exact q _ s2
      · rw [decide_eq_false hm]
        rw [shows_un (fun z => hm z.1), ] at er
        refine iteT ?_
        rw [er] at q
        exact q _ (sX.trans x1)
  · rintro σ X ⟨w4, s, tr, rfl, sX, aX, o, er⟩
    rw [hd.len, List.drop_length] at er
    have er : showsT h (begW h ws) l = decide (leftW s = []) := er
    have bl := o.bl WV
    obtain ⟨fs, i0, l1, l2, l3, l4, l5, l6, l7, l8, l9, l10⟩ := id aX.ins
    refine ⟨_, rfl, D.W, D.dx, fs, rfl, i0, l7, D, h, kvs, s, rfl, aX, by omega, o.nm WV, fun X1 x1 => ?_⟩
    rw [← er]
    exact q _ (sX.trans x1)
abbrev s__law_shown : Stmt := topS 35
abbrev N__law_shown : List Str := ["house", "wishes", "trace", "so", "thing"]
theorem sc__law_shown : FnScope N__law_shown ["house", "wishes", "trace"] (defScope s__law_shown) := ⟨rfl, rfl, rfl, by decide +kernel, rfl, by decide +kernel, by decide +kernel⟩

theorem ok__law_shown (T : Txt K mg) (C_bg : Cal P w K mg base CX0 1 "_law_begun" ["house", "wishes"] (spLBegun K)) (C_ov : Cal P w K mg base CX0 1 "_law_over" ["so"] spLOver) (C_rd : Cal P w K mg base CX0 1 "_law_ready" ["so"] spLReady) (C_st : Cal P w K mg base CX0 9 "_law_step" ["house", "so", "name"] (spLStep K))
    (Df : IsDef K mg "_law_shown" s__law_shown ["house", "wishes", "trace"]) : Cal P w K mg base CX0 10 "_law_shown" ["house", "wishes", "trace"] (spTrShowT K) := by
  have C__law_begun := C_bg.mono (show 1 ≤ 9 by decide)
  have C__law_over := C_ov.mono (show 1 ≤ 9 by decide)
  have C__law_ready := C_rd.mono (show 1 ≤ 9 by decide)
  have C__law_step := C_st
  refine Df.cal (k := 9) sc__law_shown (fun vs H Q E h => ?_) (fun fa cdv A outer s H vs Q E hr h => ?_)
  · obtain ⟨_, _, _, _, _, _, _, _, _, rfl, _⟩ := h
    rfl
  obtain ⟨U, Wl, Tr, h, ws, l, xs, f, rank, rfl, ⟨G, R, kvs, hU, hG, hR, rk⟩, hWl, hTr, hd, WV, hws, q⟩ := h
  have hu : (cxOf CX0 P w K mg base N__law_shown "_law_shown" (defScope s__law_shown) fa cdv A outer s H E).nox.A.units + 1 < cLine := Nat.lt_of_le_of_lt (Nat.add_le_add_left (by decide : 1 ≤ 64) _) hr.units
  refine ⟨_, (pss_cons (ps_set (i := 3) sc__law_shown.nd rfl (Or.inl rfl) (pe_cal C__law_begun (hr.mono (by first | decide | omega)) pass0 (pa_cons (pv 0) (pa_cons (pv 1) pa_nil))))
      (pss_cons (ps_for PassesOwn.never rfl (pi_list (pv 2)) (pg_name (i := 4) sc__law_shown.nd rfl (Or.inl rfl))
        (pss_cons (ps_if (PW.pt (pw_or (pt_not (pt_val (pe_callB call_isi (by rfl) T.b_isinstance (by decide +kernel) (pa_cons (pv 4) (pa_cons (pe_bltn (v := .ty "tuple") (by rfl) T.b_tuple (by decide +kernel) rfl) pa_nil))))) (pw_or (pt_cmpR op_ne (pe_callB call_len_seq (by rfl) T.b_len PySem.boot_len (pa_cons (pv 4) pa_nil)) pe_int (nomark _)) (pw_or1 (pt_cmpR (op_notInT (hu199 hr)) (pe_ix (r := rIxT K) ix_tup (pv 4) pe_int (fun _ _ => rfl)) (pe_cal C__law_ready (hr.mono (by first | decide | omega)) pass0 (pa_cons (pv 3) pa_nil)) (by with_unfolding_all rfl))))))
        (pss_one (ps_ret pe_bl))
        pss_nil)
      (pss_one (ps_if (PW.pt (pw_or (pt_val (pe_callB call_isi (by rfl) T.b_isinstance (by decide +kernel) (pa_cons (pe_ix (r := rIxT K) ix_tup (pv 4) pe_int (fun _ _ => rfl)) (pa_cons (pe_bltn (v := .ty "bool") (by rfl) T.b_bool (by decide +kernel) rfl) pa_nil)))) (pw_or1 (pt_cmpR (op_neS (hu199 hr)) (pe_cal C__law_step (hr.mono (by first | decide | omega)) pass0 (pa_cons (pv 0) (pa_cons (pv 3) (pa_cons (pe_ix (r := rIxT K) ix_tup (pv 4) pe_int (fun _ _ => rfl)) pa_nil)))) (pv 4) (nomark _)))))
        (pss_one (ps_ret pe_bl))
        pss_nil))))
      (pss_one (ps_ret (pe_and (pe_cmpR op_isN (pe_dget hu (pv 3) pe_str (fun _ _ => rfl)) pe_non (nomark _)) (pe_one (pe_cal C__law_over (hr.mono (by first | decide | omega)) pass0 (pa_cons (pv 3) pa_nil)))))))), ?_⟩
  refine ⟨_, rfl, _, rfl, U, Wl, h, ws, f, rank, rfl, ⟨G, R, kvs, hU, hG, hR, rk⟩, hWl, WV, hws, fun D H1 s1 n1 n2 n3 n4 a => ?_⟩
  have noOwn : ∀ {b : Addr} {u : HO}, H b = some u → ¬ b ∈ D.own := fun {b u} e z => by
    unfold LwD.own at z
    simp only [List.mem_cons, List.not_mem_nil, or_false] at z
    rcases z with z | z | z
    · rw [z, n2] at e; cases e
    · rw [z, n3] at e; cases e
    · rw [z, n4] at e; cases e
  have frS : ∀ {A B : Hp}, Same H A → FrO D.own A B → Same H B := fun sA g b u e => g b u (noOwn e) (sA b u e)
  refine ⟨_, rfl, Tr, rfl, ⟨_, SqL.of (s1 _ _ hTr)⟩, for_list (xs := xs) (fun j σ X => ∃ (w4 : Option V) (s : WvS) (tr : List WStep), σ = [some (.ref U), some (.ref Wl), some (.ref Tr), some (.ref D.S), w4] ∧ Same H X ∧ LwAt X D s ∧ WOk h f rank s tr ∧ showsT h (begW h ws) l = showsT h s (l.drop j)) ⟨none, _, [], rfl, s1, a, begW_ok WV ws (fun t ht => (hws t ht).2), rfl⟩ (fun j σ X _ ⟨_, _, _, _, e, _⟩ => SqL.of (e _ _ hTr)) ?_ ?_⟩
  · rintro j x σ X hx ⟨w4, s, tr, rfl, sX, aX, o, er⟩
    obtain ⟨t, ht, dt⟩ := hd.at hx
    rw [drop_at ht] at er
    have bl := o.bl WV
    refine in_name rfl ?_
    have dX := dt.same sX
    refine ⟨_, rfl, _, _, .type t.tyName, _, t.isTup, rfl, .ty _, dX.ty, kit_tup t, _, rfl, ?_⟩
    have no : isStepT t = false → ∀ X', Same X X' → Q (.bl false) X' := fun ci X' x' => by
      rw [shows_no ci] at er
      rw [er] at q
      exact q _ (sX.trans x')
    cases htu : t.isTup with
    | false =>
      refine not_false_eq rfl ?_
      exact no (by cases t <;> first | rfl | cases htu) _ (fun _ _ e => e)
    | true =>
    refine not_true_eq rfl ?_
    obtain ⟨ts, Ts, vs, rfl, rfl, hT, hL⟩ := data_tup dX htu
    refine ⟨_, rfl, Ts, _, rfl, .inr (SqT.of hT), rfl, _, rfl, ?_⟩
    by_cases c : vs.length = 3
    case neg =>
      refine not_false_eq (decide_eq_false fun z => c (by have := V.int.inj z; omega)) ?_
      refine no ?_ _ (fun _ _ e => e)
      have := hL.len
      cases hi : isStepT (.tup ts) with
      | false => rfl
      | true => obtain ⟨n, a, b, e, _⟩ := isStep_form hi; cases e; exact absurd this c
    obtain ⟨a1, b1, c1, x0, y0, z0, rfl, rfl, d0, d1, d2⟩ := dataL3 hL c
    refine not_true_eq (decide_eq_true rfl) ?_
    refine ⟨_, rfl, Ts, _, 0, _, rfl, rfl, SqT.of hT, rfl, _, rfl, D, s, rfl, aX, by omega, fun X1 L1 x1 nL eL => ?_⟩
    refine ⟨L1, _, rfl, SqL.of eL, (fun z hz => by obtain ⟨t, _, e⟩ := List.mem_map.mp hz; exact ⟨_, e.symm⟩), (d0.same x1).anyV, _, rfl, ?_⟩
    cases hs : a1.isStr with
    | false =>
      have e0 : ((txs (rdyW s)).any fun z => eqV z x0) = false := by
        rw [List.any_eq_false]
        intro z hz
        obtain ⟨t, _, rfl⟩ := List.mem_map.mp hz
        rw [eqV_data (.inl ⟨_, rfl⟩) d0]
        cases a1 <;> first | exact Bool.false_ne_true | (cases hs; done)
      rw [e0]
      refine iteT ?_
      exact no (by cases a1 <;> first | rfl | (cases hs; done)) _ x1
    | true =>
      obtain ⟨n, rfl, rfl⟩ := data_str d0 hs
      rw [any_txs]
      by_cases hm : n ∈ rdyW s
      · rw [decide_eq_true hm]
        refine iteF ?_
        have aX1 := aX.same x1
        have hT1 := x1 _ _ hT
        refine ⟨_, rfl, Ts, _, 2, _, rfl, rfl, SqT.of hT1, rfl, _, _, .type c1.tyName, _, c1.isBl, rfl, .ty _, (d2.same x1).ty, kit_bl c1, _, rfl, ?_⟩
        cases hb : c1.isBl with
        | true =>
          rw [shows_un (fun z => by rw [hb] at z; cases z.2.1)] at er
          rw [er] at q
          refine iteT ?_
          exact q _ (sX.trans x1)
        | false =>
          refine iteF ?_
          have noS : ∀ {b : Addr} {u : HO}, H b = some u → b = G ∨ b = R → ¬ b ∈ D.own := fun e _ => noOwn e
          refine ⟨_, rfl, _, rfl, _, rfl, Ts, _, 0, _, rfl, rfl, SqT.of hT1, rfl, U, D, h, s, tr, f, rank, n, rfl, ⟨G, R, kvs, (sX.trans x1) _ _ hU, (sX.trans x1) _ _ hG, (sX.trans x1) _ _ hR, rk.imp fun _ _ z => z.same (sX.trans x1)⟩, aX1, (fun G' R' e => by
            rw [(sX.trans x1) _ _ hU] at e
            cases e
            exact ⟨noOwn hG, noOwn hR⟩), WV, o, hm, fun X2 T2 f2 a2 nT2 eT2 => ?_⟩
          have s2 : Same H X2 := frS (sX.trans x1) f2
          have hTs2 := f2 _ _ (fun z => aX1.notOwn hT1 (.inl ⟨_, rfl⟩) z) hT1
          have dl : DataL X2 [.str n, b1, c1] [.str (SX.S n), y0, z0] := by
            obtain ⟨p, xs', e1, e2, e3⟩ := dt.same s2
            cases e1
            rw [hTs2] at e2
            cases e2
            exact e3
          refine ⟨_, rfl, T2, Ts, _, _, rfl, rfl, SqT.of eT2, SqT.of hTs2, stepV_len _, stepV_si _, data_all dl, _, rfl, ?_⟩
          rw [zip_data (stepV_si _) dl]
          cases ce : stepEq (goW h s n).2 [.str n, b1, c1] with
          | true =>
            rw [shows_go hm hb ce] at er
            refine not_true_eq ce ?_
            exact ⟨_, _, _, rfl, s2, a2, o.go WV hm, er⟩
          | false =>
            rw [shows_un (fun z => by rw [ce] at z; cases z.2.2)] at er
            refine not_false_eq ce ?_
            rw [er] at q
            exact q _ s2
      · rw [decide_eq_false hm]
        rw [shows_un (fun z => hm z.1)] at er
        refine iteT ?_
        rw [er] at q
        exact q _ (sX.trans x1)
  · rintro σ X ⟨w4, s, tr, rfl, sX, aX, o, er⟩
    rw [hd.len, List.drop_length] at er
    have er : showsT h (begW h ws) l = decide (leftW s = []) := er
    have bl := o.bl WV
    refine ⟨_, rfl, D.S, _, rfl, aX.gN, rfl, _, rfl, iteY rfl ?_⟩
    refine ⟨_, rfl, D, s, rfl, aX, by omega, o.nm WV, fun X1 x1 => ?_⟩
    rw [← er]
    exact q _ (sX.trans x1)
end
/-! ### traces spoilt: the law's own -/
open LamX NdefX
theorem Data_frm {H H' : Hp} (f : ∀ a u, H a = some u → ((∃ xs, u = .tup xs) ∨ ∃ xs, u = .lst xs) → H' a = some u) (g : ∀ a k, H a = some (.dK k) → ∃ k', H' a = some (.dK k')) : (∀ t v, Data H t v → Data H' t v) ∧ ∀ l xs, DataL H l xs → DataL H' l xs := by
  have aux : ∀ n : Nat, (∀ t v, sizeOf t ≤ n → Data H t v → Data H' t v) ∧ ∀ l xs, sizeOf l ≤ n → DataL H l xs → DataL H' l xs := by
    intro n
    induction n with
    | zero =>
      refine ⟨fun t v hn d => ?_, fun l xs hn d => ?_⟩
      · cases t <;> simp at hn
      · cases l <;> simp at hn
    | succ n ih =>
      refine ⟨fun t v hn d => ?_, fun l xs hn d => ?_⟩
      · cases t with
        | tup l =>
          obtain ⟨p, xs, e, hp, hl⟩ := d
          exact ⟨p, xs, e, f _ _ hp (.inl ⟨_, rfl⟩), ih.2 l xs (by simp at hn; omega) hl⟩
        | lst l =>
          obtain ⟨p, xs, e, hp, hl⟩ := d
          exact ⟨p, xs, e, f _ _ hp (.inr ⟨_, rfl⟩), ih.2 l xs (by simp at hn; omega) hl⟩
        | dct =>
          obtain ⟨p, kvs, e, hp⟩ := d
          obtain ⟨k', hk⟩ := g _ _ hp
          exact ⟨p, k', e, hk⟩
        | _ => exact d
      · cases l with
        | nil => exact d
        | cons t l =>
          obtain ⟨x, r, e, h1, h2⟩ := d
          exact ⟨x, r, e, ih.1 t x (by simp at hn; omega) h1, ih.2 l r (by simp at hn; omega) h2⟩
  exact ⟨fun t v => (aux _).1 t v (Nat.le_refl _), fun l xs => (aux _).2 l xs (Nat.le_refl _)⟩
theorem pf_frm {H H' : Hp} {p : Addr} {k k' : List (Key × V)} (f : PF p H H') (e : H p = some (.dK k)) (e' : H' p = some (.dK k')) : (∀ t v, Data H t v → Data H' t v) ∧ ∀ l xs, DataL H l xs → DataL H' l xs := by
  refine Data_frm (fun a u h hu => f a u (fun z => ?_) h) fun a k h => ?_
  · rw [z, e] at h
    cases h
    rcases hu with ⟨_, z⟩ | ⟨_, z⟩ <;> cases z
  · by_cases c : a = p
    · exact ⟨k', by rw [c]; exact e'⟩
    · exact ⟨k, f a _ c h⟩
theorem DataL.cutV {H : Hp} {l : List Th} {xs : List V} (d : DataL H l xs) (lo hi : Option Int) : ∃ l', DataL H l' (cutV xs lo hi) ∧ (cutV xs lo hi).length ≤ xs.length := by
  refine ⟨_, DataL.take _ (DataL.drop _ d), ?_⟩
  show (List.take _ (List.drop _ xs)).length ≤ _
  rw [List.length_take, List.length_drop]
  omega
theorem DataL.append {H : Hp} : ∀ {l : List Th} {xs : List V} {m : List Th} {ys : List V}, DataL H l xs → DataL H m ys → DataL H (l ++ m) (xs ++ ys)
  | [], xs, _, _, h, k => by rw [show xs = [] from h]; exact k
  | t :: l, xs, _, _, ⟨x, r, e, h1, h2⟩, k => by rw [e]; exact ⟨x, _, rfl, h1, h2.append k⟩
theorem DataL.of {H : Hp} : ∀ {xs : List V}, (∀ x ∈ xs, ∃ t, Data H t x) → ∃ l, DataL H l xs
  | [], _ => ⟨[], rfl⟩
  | x :: xs, h => by
    obtain ⟨t, ht⟩ := h x List.mem_cons_self
    obtain ⟨l, hl⟩ := DataL.of (xs := xs) fun y hy => h y (List.mem_cons_of_mem _ hy)
    exact ⟨t :: l, x, xs, rfl, ht, hl⟩
theorem str_is (x : Str) : ∃ s, x = SX.S s := ⟨x.cps.toList, by cases x; simp [SX.S]⟩
/-- a step with no great number -/
def SmallS : WStep → Prop
  | .waits _ _ => True
  | .known _ v => v.natAbs.log2 < 1900
theorem step_form {st : WStep} (h : SmallS st) : ∃ (n w : List Nat) (z : V) (zt : Th), stepV st = [.str (SX.S n), .str (SX.S w), z] ∧ (∀ H, Data H zt z) ∧ (SX.S w = "known" → ∃ v, z = .int v ∧ v.natAbs.log2 < 1900) := by
  cases st with
  | waits n u => exact ⟨n, w_waits, _, .str u, by rw [← q_waits]; rfl, fun _ => rfl, fun e => by rw [q_known] at e; exact absurd (SX.S_inj e) (by decide)⟩
  | known n v => exact ⟨n, w_known, _, .int v, by rw [← q_known]; rfl, fun _ => rfl, fun _ => ⟨v, rfl, h⟩⟩
def spTurned : Sp := fun vs H Q _ => ∃ (T L p : Addr) (st : WStep) (ns : List (List Nat)) (r : Int) (m : Bool) (c : Int), vs = [.ref T, .ref L, .ref p] ∧ H T = some (.tup (stepV st)) ∧ SmallS st ∧ H L = some (.lst (txs ns)) ∧ ns.length = 14 ∧ H p = some (.dK (dst r m c)) ∧ 0 ≤ c ∧ c ≤ 90000 ∧
  ∀ (v : V) (t : Th) (r' c' : Int) (H' : Hp), PF p H H' → Data H' t v → H' p = some (.dK (dst r' m c')) → 0 ≤ c' → c' ≤ c + 4 → Q v H'
section
variable {P : Program} {w : World} {K : PySem.W.Frag} {mg : Str → Option Value} {base : Heap}
abbrev s__law_turned : Stmt := topS 36
abbrev N__law_turned : List Str := ["step", "names", "state", "kind", "some"]
theorem sc__law_turned : FnScope N__law_turned ["step", "names", "state"] (defScope s__law_turned) := ⟨rfl, rfl, rfl, by decide +kernel, rfl, by decide +kernel, by decide +kernel⟩

theorem ok__law_turned (T : Txt K mg) (C__law_draw : Cal P w K mg base CX0 1 "_law_draw" ["state", "many"] spDraw) (Df : IsDef K mg "_law_turned" s__law_turned ["step", "names", "state"]) : Cal P w K mg base CX0 2 "_law_turned" ["step", "names", "state"] spTurned := by
  refine Df.cal (k := 1) sc__law_turned (fun vs H Q E h => ?_) (fun f cdv A outer s H vs Q E hr h => ?_)
  · obtain ⟨_, _, _, _, _, _, _, _, rfl, _⟩ := h
    rfl
  obtain ⟨Ts, L, p, st, ns, r, m, c, rfl, hT, hsm, hL, hns, hp, c0, c1, q⟩ := h
  obtain ⟨n, wd, z, zt, est, dz, hkn⟩ := step_form hsm
  rw [est] at hT
  have nTp : Ts ≠ p := fun e => by rw [e, hp] at hT; cases hT
  have nLp : L ≠ p := fun e => by rw [e, hp] at hL; cases hL
  refine ⟨_, (pss_cons (ps_set (i := 3) sc__law_turned.nd rfl (Or.inl rfl) (pe_cal C__law_draw (hr.mono (by first | decide | omega)) pass0 (pa_cons (pv 2) (pa_cons pe_int pa_nil))))
      (pss_cons (ps_if (pt_cmpR op_eq (pv 3) pe_int (nomark _))
        (pss_one (ps_ret (pe_tupA (pa_cons (pe_ix (r := rIxL K) ix_list (pv 1) (pe_cal C__law_draw (hr.mono (by first | decide | omega)) pass0 (pa_cons (pv 2) (pa_cons pe_int pa_nil))) (fun _ _ => rfl)) (pa_cons (pe_ix (r := rIxT K) ix_tup (pv 0) pe_int (fun _ _ => rfl)) (pa_cons (pe_ix (r := rIxT K) ix_tup (pv 0) pe_int (fun _ _ => rfl)) pa_nil))))))
        pss_nil)
      (pss_cons (ps_if (pt_cmpR op_eq (pv 3) pe_int (nomark _))
        (pss_one (ps_ret (pe_tupA (pa_cons (pe_ix (r := rIxT K) ix_tup (pv 0) pe_int (fun _ _ => rfl)) (pa_cons (pe_ix (r := rIxL K) ix_list (pe_lstA (pa_cons pe_str (pa_cons pe_str (pa_cons pe_str (pa_cons pe_non pa_nil))))) (pe_cal C__law_draw (hr.mono (by first | decide | omega)) pass0 (pa_cons (pv 2) (pa_cons pe_int pa_nil))) (fun _ _ => rfl)) (pa_cons (pe_ix (r := rIxT K) ix_tup (pv 0) pe_int (fun _ _ => rfl)) pa_nil))))))
        pss_nil)
      (pss_cons (ps_if (PW.pt (pw_and (pt_cmpR op_eq (pv 3) pe_int (nomark _)) (pw_and1 (pt_cmpR op_eq (pe_ix (r := rIxT K) ix_tup (pv 0) pe_int (fun _ _ => rfl)) pe_str (nomark _)))))
        (pss_one (ps_ret (pe_tupA (pa_cons (pe_ix (r := rIxT K) ix_tup (pv 0) pe_int (fun _ _ => rfl)) (pa_cons (pe_ix (r := rIxT K) ix_tup (pv 0) pe_int (fun _ _ => rfl)) (pa_cons (pe_ix (r := rIxL K) ix_list (pe_lstA (pa_cons (pe_op op_add (pe_ix (r := rIxT K) ix_tup (pv 0) pe_int (fun _ _ => rfl)) pe_int) (pa_cons (pe_cmpR op_eq (pe_ix (r := rIxT K) ix_tup (pv 0) pe_int (fun _ _ => rfl)) pe_int (nomark _)) (pa_cons (pe_callTy call_str_int (by rfl) T.b_str (by decide +kernel) (pa_cons (pe_ix (r := rIxT K) ix_tup (pv 0) pe_int (fun _ _ => rfl)) pa_nil)) (pa_cons pe_non pa_nil))))) (pe_cal C__law_draw (hr.mono (by first | decide | omega)) pass0 (pa_cons (pv 2) (pa_cons pe_int pa_nil))) (fun _ _ => rfl)) pa_nil))))))
        pss_nil)
      (pss_cons (ps_if (pt_cmpR op_eq (pv 3) pe_int (nomark _))
        (pss_one (ps_ret (pe_tupA (pa_cons (pe_ix (r := rIxT K) ix_tup (pv 0) pe_int (fun _ _ => rfl)) (pa_cons (pe_ix (r := rIxT K) ix_tup (pv 0) pe_int (fun _ _ => rfl)) (pa_cons (pe_ix (r := rIxL K) ix_list (pv 1) (pe_cal C__law_draw (hr.mono (by first | decide | omega)) pass0 (pa_cons (pv 2) (pa_cons pe_int pa_nil))) (fun _ _ => rfl)) pa_nil))))))
        pss_nil)
      (pss_cons (ps_set (i := 4) sc__law_turned.nd rfl (Or.inl rfl) (pe_lstA (pa_cons pe_non (pa_cons pe_int (pa_cons (pe_tupA pa_nil) (pa_cons pe_str (pa_cons (pe_callTy call_listA (by rfl) T.b_list (by decide +kernel) (pa_cons (pv 0) pa_nil)) (pa_cons (pe_slice (r := rSlT K) sl_tup (pv 0) po_none (po_some pe_int)) (pa_cons (pe_op op_catT (pv 0) (pe_tupA (pa_cons pe_int pa_nil))) (pa_cons (pe_tupA (pa_cons (pe_lstA (pa_cons (pe_ix (r := rIxT K) ix_tup (pv 0) pe_int (fun _ _ => rfl)) pa_nil)) (pa_cons (pe_ix (r := rIxT K) ix_tup (pv 0) pe_int (fun _ _ => rfl)) (pa_cons (pe_ix (r := rIxT K) ix_tup (pv 0) pe_int (fun _ _ => rfl)) pa_nil)))) pa_nil))))))))))
      (pss_cons (ps_set (i := 4) sc__law_turned.nd rfl (Or.inl rfl) (pe_op op_catU (pv 4) (pe_lstA (pa_cons (pe_tupA (pa_cons pe_dnewA (pa_cons (pe_ix (r := rIxT K) ix_tup (pv 0) pe_int (fun _ _ => rfl)) (pa_cons (pe_ix (r := rIxT K) ix_tup (pv 0) pe_int (fun _ _ => rfl)) pa_nil)))) (pa_cons (pe_tupA (pa_cons pe_non (pa_cons (pe_ix (r := rIxT K) ix_tup (pv 0) pe_int (fun _ _ => rfl)) (pa_cons (pe_ix (r := rIxT K) ix_tup (pv 0) pe_int (fun _ _ => rfl)) pa_nil)))) (pa_cons (pe_tupA (pa_cons (pe_ix (r := rIxT K) ix_tup (pv 0) pe_int (fun _ _ => rfl)) (pa_cons (pe_lstA pa_nil) (pa_cons pe_dnewA pa_nil)))) pa_nil))))))
      (pss_one (ps_ret (pe_ix (r := rIxL K) ix_list (pe_op op_catU (pv 4) (pe_lstA (pa_cons (pe_tupA (pa_cons (pe_ix (r := rIxT K) ix_tup (pv 0) pe_int (fun _ _ => rfl)) (pa_cons pe_str (pa_cons (pe_lstA (pa_cons (pe_ix (r := rIxT K) ix_tup (pv 0) pe_int (fun _ _ => rfl)) pa_nil)) pa_nil)))) (pa_cons (pe_tupA (pa_cons (pe_ix (r := rIxT K) ix_tup (pv 0) pe_int (fun _ _ => rfl)) (pa_cons pe_str (pa_cons pe_dnewA pa_nil)))) pa_nil)))) (pe_cal C__law_draw (hr.mono (by first | decide | omega)) pass0 (pa_cons (pv 2) (pa_cons pe_int pa_nil))) (fun _ _ => rfl))))))))))), ?_⟩
  refine ⟨_, rfl, p, r, m, c, 5, rfl, hp, by decide, by decide, c0, by omega, fun H1 kd r1 k1 g1 p1 k10 k11 v0 v1 => ?_⟩
  have hT1 := (g1 _ nTp).trans hT
  have hL1 := (g1 _ nLp).trans hL
  have pf1 : PF p H H1 := PF.take g1
  have last : ∀ {X Y : Hp} {r' k' : Int} {v : V} {u : Th}, PF p H X → X p = some (.dK (dst r' m k')) → 0 ≤ k' → k' ≤ c + 4 → Same X Y → Data Y u v → Q v Y := fun f e a b s d => q _ _ _ _ _ (f.trans (PF.of s)) d (s _ _ e) a b
  have tup3 : ∀ {Y : Hp} {Tn : Addr} {x y w : V} {a b d : Th}, Y Tn = some (.tup [x, y, w]) → Data Y a x → Data Y b y → Data Y d w → Data Y (.tup [a, b, d]) (.ref Tn) := fun e h1 h2 h3 => ⟨_, _, rfl, e, _, _, rfl, h1, _, _, rfl, h2, _, _, rfl, h3, rfl⟩
  have one : ∀ {X : Hp} {r' k' : Int}, X p = some (.dK (dst r' m k')) → True := fun _ => trivial
  refine ⟨_, rfl, rfl, _, rfl, ?_⟩
  by_cases q0 : kd = 0
  · refine iteY (by rw [q0]) ?_
    refine ⟨_, rfl, _, rfl, p, r1, m, k1, 13, rfl, p1, by decide, by decide, k10, by omega, fun H2 i r2 k2 g2 p2 k20 k21 i0 i1 => ?_⟩
    obtain ⟨x, hx, hat⟩ := one_ofS (ns := ns) i0 (by rw [txs_len]; omega)
    have hL2 := (g2 _ nLp).trans hL1
    have hT2 := (g2 _ nTp).trans hT1
    refine ⟨L, _, i, _, rfl, rfl, SqL.of hL2, hat, _, rfl, Ts, _, 1, _, rfl, rfl, SqT.of hT2, rfl, _, rfl, Ts, _, 2, _, rfl, rfl, SqT.of hT2, rfl, le_line (Nat.le_of_ble_eq_true rfl), fun Tn X nT x' eT => ?_⟩
    exact last (pf1.trans (PF.take g2)) p2 k20 (by omega) x' (tup3 eT (a := .str x) (b := .str wd) rfl rfl (dz _))
  refine iteN (fun e => q0 (V.int.inj e)) ?_
  refine ⟨_, rfl, rfl, _, rfl, ?_⟩
  by_cases q1 : kd = 1
  · refine iteY (by rw [q1]) ?_
    refine ⟨_, rfl, Ts, _, 0, _, rfl, rfl, SqT.of hT1, rfl, le_line (Nat.le_of_ble_eq_true rfl), fun Sm X1 nSm x1 eSm => ?_⟩
    have x1 : Same H1 X1 := x1
    refine ⟨_, rfl, p, r1, m, k1, 4, rfl, x1 _ _ p1, by decide, by decide, k10, by omega, fun H2 i r2 k2 g2 p2 k20 k21 i0 i1 => ?_⟩
    have nSp : Sm ≠ p := fun e => by rw [e, p1] at nSm; cases nSm
    obtain ⟨x, hx, hat⟩ := one_of (xs := ([.str "known", .str "waits", .str "", .non] : List V)) i0 (by show i < 4; exact i1)
    have hT2 := (g2 _ nTp).trans (x1 _ _ hT1)
    refine ⟨Sm, _, i, _, rfl, rfl, SqL.of ((g2 _ nSp).trans eSm), hat, _, rfl, Ts, _, 2, _, rfl, rfl, SqT.of hT2, rfl, le_line (Nat.le_of_ble_eq_true rfl), fun Tn X nT x' eT => ?_⟩
    obtain ⟨u, hu⟩ : ∃ u, Data X u x := by
      simp only [List.mem_cons, List.not_mem_nil, or_false] at hx
      rcases hx with rfl | rfl | rfl | rfl
      · exact ⟨.str w_known, congrArg V.str q_known⟩
      · exact ⟨.str w_waits, congrArg V.str q_waits⟩
      · exact ⟨.str [], rfl⟩
      · exact ⟨.non, rfl⟩
    exact last ((pf1.trans (PF.of x1)).trans (PF.take g2)) p2 k20 (by omega) x' (tup3 eT (a := .str n) rfl hu (dz _))
  refine iteN (fun e => q1 (V.int.inj e)) ?_
  refine in_nx (in_seq (nx_post (fun σ Y => Y = H1 ∧ σ = [some (.ref Ts), some (.ref L), some (.ref p), some (.int kd), none]) (fun nx hnx => ?_) ?_))
  · refine ⟨_, rfl, rfl, _, rfl, ?_⟩
    by_cases q2 : kd = 2
    case neg => exact iteN (fun e => q2 (V.int.inj e)) (hnx _ _ ⟨rfl, rfl⟩)
    refine iteY (by rw [q2]) ?_
    refine ⟨_, rfl, Ts, _, 1, _, rfl, rfl, SqT.of hT1, rfl, rfl, _, rfl, ?_⟩
    by_cases qk : SX.S wd = "known"
    case neg => exact iteN (fun e => qk (V.str.inj e)) (hnx _ _ ⟨rfl, rfl⟩)
    refine iteY (by rw [qk]) ?_
    obtain ⟨v, rfl, hv⟩ := hkn qk
    refine ⟨_, rfl, Ts, _, 0, _, rfl, rfl, SqT.of hT1, rfl, _, rfl, Ts, _, 1, _, rfl, rfl, SqT.of hT1, rfl, ?_⟩
    refine ⟨_, rfl, Ts, _, 2, _, rfl, rfl, SqT.of hT1, rfl, _, _, rfl, rfl, _, rfl, Ts, _, 2, _, rfl, rfl, SqT.of hT1, rfl, rfl, _, rfl, Ts, _, 2, _, rfl, rfl, SqT.of hT1, rfl, v, rfl, by omega, le_line (Nat.le_of_ble_eq_true rfl), fun Sm X1 nSm x1 eSm => ?_⟩
    have x1 : Same H1 X1 := x1
    refine ⟨_, rfl, p, r1, m, k1, 4, rfl, x1 _ _ p1, by decide, by decide, k10, by omega, fun H2 i r2 k2 g2 p2 k20 k21 i0 i1 => ?_⟩
    have nSp : Sm ≠ p := fun e => by rw [e, p1] at nSm; cases nSm
    obtain ⟨x, hx, hat⟩ := one_of (xs := ([.int (v + 1), .bl (decide (V.int v = V.int 1)), .str (toString v), .non] : List V)) i0 (by show i < 4; exact i1)
    refine ⟨Sm, _, i, _, rfl, rfl, SqL.of ((g2 _ nSp).trans eSm), hat, le_line (Nat.le_of_ble_eq_true rfl), fun Tn X nT x' eT => ?_⟩
    obtain ⟨u, hu⟩ : ∃ u, Data X u x := by
      simp only [List.mem_cons, List.not_mem_nil, or_false] at hx
      rcases hx with rfl | rfl | rfl | rfl
      · exact ⟨.int _, rfl⟩
      · exact ⟨.bl _, rfl⟩
      · obtain ⟨s, hs⟩ := str_is (toString v)
        exact ⟨.str s, congrArg V.str hs⟩
      · exact ⟨.non, rfl⟩
    exact last ((pf1.trans (PF.of x1)).trans (PF.take g2)) p2 k20 (by omega) x' (tup3 eT (a := .str n) (b := .str wd) rfl rfl hu)
  rintro σ Y ⟨rfl, rfl⟩
  refine in_nx (in_seq ?_)
  refine ⟨_, rfl, rfl, _, rfl, ?_⟩
  by_cases q3 : kd = 3
  · refine iteY (by rw [q3]) ?_
    refine ⟨_, rfl, Ts, _, 0, _, rfl, rfl, SqT.of hT1, rfl, _, rfl, Ts, _, 1, _, rfl, rfl, SqT.of hT1, rfl, _, rfl, _, rfl, p, r1, m, k1, 13, rfl, p1, by decide, by decide, k10, by omega, fun H2 i r2 k2 g2 p2 k20 k21 i0 i1 => ?_⟩
    obtain ⟨x, hx, hat⟩ := one_ofS (ns := ns) i0 (by rw [txs_len]; omega)
    have hL2 := (g2 _ nLp).trans hL1
    refine ⟨L, _, i, _, rfl, rfl, SqL.of hL2, hat, le_line (Nat.le_of_ble_eq_true rfl), fun Tn X nT x' eT => ?_⟩
    exact last (pf1.trans (PF.take g2)) p2 k20 (by omega) x' (tup3 eT (a := .str n) (b := .str wd) (d := .str x) rfl rfl rfl)
  refine iteN (fun e => q3 (V.int.inj e)) ?_
  refine in_nx (in_seq (in_asg ?_))
  have st : ∀ {X : Hp}, Same Y X → SqT K X Ts [.str (SX.S n), .str (SX.S wd), z] := fun s => SqT.of (s _ _ hT1)
  have nw : ∀ (a b : V), ¬ (HT.sIx ([a, b, z] : List V).length 0 none = 0 ∧ HT.sIx ([a, b, z] : List V).length ([a, b, z] : List V).length (some 2) = ([a, b, z] : List V).length) := fun a b e => absurd e.2 (by show ¬ HT.sIx 3 3 (some 2) = 3; decide)
  refine ⟨Nat.zero_le _, fun T0 X0 n0 x0 e0 => ?_⟩
  have s0 : Same Y X0 := x0
  refine ⟨_, rfl, Ts, _, rfl, .inr (st s0), fun l1 X1 n1 x1 e1 => ?_⟩
  have s1 : Same Y X1 := s0.trans x1
  refine ⟨_, rfl, _, rfl, Ts, _, rfl, st s1, nw _ _, fun T2 n2 => ?_⟩
  have x2 := same_new n2 (.tup (cutV [.str (SX.S n), .str (SX.S wd), z] none (some 2)))
  have e2 : upd X1 T2 (.tup (cutV [.str (SX.S n), .str (SX.S wd), z] none (some 2))) T2 = some (.tup [.str (SX.S n), .str (SX.S wd)]) := upd_same
  generalize upd X1 T2 (.tup (cutV [.str (SX.S n), .str (SX.S wd), z] none (some 2))) = X2 at x2 e2 ⊢
  have s2 := s1.trans x2
  refine ⟨_, rfl, le_line (Nat.le_of_ble_eq_true rfl), fun T3 X3 n3 x3 e3 => ?_⟩
  have x3 : Same X2 X3 := x3
  have s3 := s2.trans x3
  refine ⟨Ts, T3, _, _, rfl, rfl, st s3, SqT.of e3, (fun e => by cases e), le_line (Nat.le_of_ble_eq_true rfl), (fun e => by cases e), fun _ T4 n4 => ?_⟩
  have x4 := same_new n4 (.tup ([.str (SX.S n), .str (SX.S wd), z] ++ [.int 1]))
  have e4 : upd X3 T4 (.tup ([.str (SX.S n), .str (SX.S wd), z] ++ [.int 1])) T4 = some (.tup [.str (SX.S n), .str (SX.S wd), z, .int 1]) := upd_same
  generalize upd X3 T4 (.tup ([.str (SX.S n), .str (SX.S wd), z] ++ [.int 1])) = X4 at x4 e4 ⊢
  have s4 := s3.trans x4
  refine ⟨_, rfl, Ts, _, 0, _, rfl, rfl, st s4, rfl, le_line (Nat.le_of_ble_eq_true rfl), fun L5 X5 n5 x5 e5 => ?_⟩
  have x5 : Same X4 X5 := x5
  have s5 := s4.trans x5
  refine ⟨_, rfl, Ts, _, 1, _, rfl, rfl, st s5, rfl, _, rfl, Ts, _, 2, _, rfl, rfl, st s5, rfl, le_line (Nat.le_of_ble_eq_true rfl), fun T6 X6 n6 x6 e6 => ?_⟩
  have x6 : Same X5 X6 := x6
  have s6 := s5.trans x6
  refine ⟨le_line (Nat.le_of_ble_eq_true rfl), fun L7 X7 n7 x7 e7 => ?_⟩
  have x7 : Same X6 X7 := x7
  have s7 := s6.trans x7
  have d1 : ∃ t, Data X7 t (.ref T0) := ⟨.tup [], _, _, rfl, x7 _ _ (x6 _ _ (x5 _ _ (x4 _ _ (x3 _ _ (x2 _ _ (x1 _ _ e0)))))), rfl⟩
  have d2 : ∃ t, Data X7 t (.ref l1) := ⟨.lst [.str n, .str wd, zt], _, _, rfl, x7 _ _ (x6 _ _ (x5 _ _ (x4 _ _ (x3 _ _ (x2 _ _ e1))))), _, _, rfl, rfl, _, _, rfl, rfl, _, _, rfl, dz _, rfl⟩
  have d3 : ∃ t, Data X7 t (.ref T2) := ⟨.tup [.str n, .str wd], _, _, rfl, x7 _ _ (x6 _ _ (x5 _ _ (x4 _ _ (x3 _ _ e2)))), _, _, rfl, rfl, _, _, rfl, rfl, rfl⟩
  have d4 : ∃ t, Data X7 t (.ref T4) := ⟨.tup [.str n, .str wd, zt, .int 1], _, _, rfl, x7 _ _ (x6 _ _ (x5 _ _ e4)), _, _, rfl, rfl, _, _, rfl, rfl, _, _, rfl, dz _, _, _, rfl, rfl, rfl⟩
  have d5 : ∃ t, Data X7 t (.ref T6) := ⟨.tup [.lst [.str n], .str wd, zt], tup3 (x7 _ _ e6) ⟨_, _, rfl, x7 _ _ (x6 _ _ e5), _, _, rfl, rfl, rfl⟩ rfl (dz _)⟩
  have A7 : ∀ x ∈ ([.non, .int 7, .ref T0, .str "a", .ref l1, .ref T2, .ref T4, .ref T6] : List V), ∃ t, Data X7 t x := fun x hx => by
    simp only [List.mem_cons, List.not_mem_nil, or_false] at hx
    rcases hx with rfl | rfl | rfl | rfl | rfl | rfl | rfl | rfl
    · exact ⟨.non, rfl⟩
    · exact ⟨.int 7, rfl⟩
    · exact d1
    · obtain ⟨s, hs⟩ := str_is "a"
      exact ⟨.str s, congrArg V.str hs⟩
    · exact d2
    · exact d3
    · exact d4
    · exact d5
  clear d1 d2 d3 d4 d5 e0 e1 e2 e3 e4 e5 e6 x0 x1 x2 x3 x4 x5 x6 x7 s0 s1 s2 s3 s4 s5 s6 n0 n1 n2 n3 n4 n5 n6
  refine in_name rfl (in_nx (in_seq (in_asg ?_)))
  refine ⟨_, rfl, fun D0 X8 n8 x8 e8 => ?_⟩
  have x8 : Same X7 X8 := x8
  have s8 := s7.trans x8
  refine ⟨_, rfl, Ts, _, 1, _, rfl, rfl, st s8, rfl, _, rfl, Ts, _, 2, _, rfl, rfl, st s8, rfl, le_line (Nat.le_of_ble_eq_true rfl), fun T9 X9 n9 x9 e9 => ?_⟩
  have x9 : Same X8 X9 := x9
  have s9 := s8.trans x9
  refine ⟨_, rfl, Ts, _, 1, _, rfl, rfl, st s9, rfl, _, rfl, Ts, _, 2, _, rfl, rfl, st s9, rfl, le_line (Nat.le_of_ble_eq_true rfl), fun Ta Xa na xa ea => ?_⟩
  have xa : Same X9 Xa := xa
  have sa := s9.trans xa
  refine ⟨_, rfl, Ts, _, 0, _, rfl, rfl, st sa, rfl, Nat.zero_le _, fun Lb Xb nb xb eb => ?_⟩
  have xb : Same Xa Xb := xb
  have sb := sa.trans xb
  refine fun Dc Xc nc xc ec => ?_
  have xc : Same Xb Xc := xc
  have sc := sb.trans xc
  refine ⟨le_line (Nat.le_of_ble_eq_true rfl), fun Td Xd nd xd ed => ?_⟩
  have xd : Same Xc Xd := xd
  have sd := sc.trans xd
  refine ⟨le_line (Nat.le_of_ble_eq_true rfl), fun Le Xe ne xe ee => ?_⟩
  have xe : Same Xd Xe := xe
  have se := sd.trans xe
  have eq7 : Xe L7 = some (.lst [.non, .int 7, .ref T0, .str "a", .ref l1, .ref T2, .ref T4, .ref T6]) := xe _ _ (xd _ _ (xc _ _ (xb _ _ (xa _ _ (x9 _ _ (x8 _ _ e7))))))
  refine ⟨L7, Le, _, _, rfl, rfl, eq7, ee, le_line (Nat.le_of_ble_eq_true rfl), fun Lf Xf nf xf ef => ?_⟩
  have xf : Same Xe Xf := xf
  have sf := se.trans xf
  have s7f : Same X7 Xf := x8.trans (x9.trans (xa.trans (xb.trans (xc.trans (xd.trans (xe.trans xf))))))
  have Af : ∀ x ∈ ([.non, .int 7, .ref T0, .str "a", .ref l1, .ref T2, .ref T4, .ref T6] ++ [.ref T9, .ref Ta, .ref Td] : List V), ∃ t, Data Xf t x := fun x hx => by
    rcases List.mem_append.mp hx with hx | hx
    · obtain ⟨t, ht⟩ := A7 x hx
      exact ⟨t, ht.same s7f⟩
    · simp only [List.mem_cons, List.not_mem_nil, or_false] at hx
      rcases hx with rfl | rfl | rfl
      · exact ⟨.tup [.dct, .str wd, zt], tup3 (xf _ _ (xe _ _ (xd _ _ (xc _ _ (xb _ _ (xa _ _ e9)))))) ⟨_, _, rfl, xf _ _ (xe _ _ (xd _ _ (xc _ _ (xb _ _ (xa _ _ (x9 _ _ e8))))))⟩ rfl (dz _)⟩
      · exact ⟨.tup [.non, .str wd, zt], tup3 (xf _ _ (xe _ _ (xd _ _ (xc _ _ (xb _ _ ea))))) rfl rfl (dz _)⟩
      · exact ⟨.tup [.str n, .lst [], .dct], tup3 (xf _ _ (xe _ _ ed)) rfl ⟨_, _, rfl, xf _ _ (xe _ _ (xd _ _ (xc _ _ eb))), rfl⟩ ⟨_, _, rfl, xf _ _ (xe _ _ (xd _ _ ec))⟩⟩
  clear e8 e9 ea eb ec ed ee x8 x9 xa xb xc xd xe xf s8 s9 sa sb sc sd se n8 n9 na nb nc nd ne eq7 A7 s7f e7 s7 n7
  refine in_name rfl ?_
  refine ⟨_, rfl, _, rfl, Ts, _, 0, _, rfl, rfl, st sf, rfl, _, rfl, Ts, _, 2, _, rfl, rfl, st sf, rfl, le_line (Nat.le_of_ble_eq_true rfl), fun Lg Xg ng xg eg => ?_⟩
  have xg : Same Xf Xg := xg
  have sg := sf.trans xg
  refine ⟨le_line (Nat.le_of_ble_eq_true rfl), fun Th_ Xh nh xh eh => ?_⟩
  have xh : Same Xg Xh := xh
  have sh := sg.trans xh
  refine ⟨_, rfl, Ts, _, 0, _, rfl, rfl, st sh, rfl, fun Di Xi ni xi ei => ?_⟩
  have xi : Same Xh Xi := xi
  have si := sh.trans xi
  refine ⟨le_line (Nat.le_of_ble_eq_true rfl), fun Tj Xj nj xj ej => ?_⟩
  have xj : Same Xi Xj := xj
  have sj := si.trans xj
  refine ⟨le_line (Nat.le_of_ble_eq_true rfl), fun Lk Xk nk xk ek => ?_⟩
  have xk : Same Xj Xk := xk
  have sk := sj.trans xk
  refine ⟨Lf, Lk, _, _, rfl, rfl, xk _ _ (xj _ _ (xi _ _ (xh _ _ (xg _ _ ef)))), ek, le_line (Nat.le_of_ble_eq_true rfl), fun Lm Xm nm xm em => ?_⟩
  have xm : Same Xk Xm := xm
  have sm := sk.trans xm
  have sfm : Same Xf Xm := xg.trans (xh.trans (xi.trans (xj.trans (xk.trans xm))))
  have Am : ∀ x ∈ ([.non, .int 7, .ref T0, .str "a", .ref l1, .ref T2, .ref T4, .ref T6] ++ [.ref T9, .ref Ta, .ref Td] ++ [.ref Th_, .ref Tj] : List V), ∃ t, Data Xm t x := fun x hx => by
    rcases List.mem_append.mp hx with hx | hx
    · obtain ⟨t, ht⟩ := Af x hx
      exact ⟨t, ht.same sfm⟩
    · simp only [List.mem_cons, List.not_mem_nil, or_false] at hx
      rcases hx with rfl | rfl
      · exact ⟨.tup [.str n, .str w_waits, .lst [zt]], tup3 (xm _ _ (xk _ _ (xj _ _ (xi _ _ eh)))) rfl (congrArg V.str q_waits) ⟨_, _, rfl, xm _ _ (xk _ _ (xj _ _ (xi _ _ (xh _ _ eg)))), _, _, rfl, dz _, rfl⟩⟩
      · exact ⟨.tup [.str n, .str w_known, .dct], tup3 (xm _ _ (xk _ _ ej)) rfl (congrArg V.str q_known) ⟨_, _, rfl, xm _ _ (xk _ _ (xj _ _ ei))⟩⟩
  have pm := sm _ _ p1
  refine ⟨_, rfl, p, r1, m, k1, 13, rfl, pm, by decide, by decide, k10, by omega, fun H2 i r2 k2 g2 p2 k20 k21 i0 i1 => ?_⟩
  have nLm : Lm ≠ p := fun e => by rw [e, sk _ _ p1] at nm; cases nm
  obtain ⟨x, hx, hat⟩ := one_of (xs := ([.non, .int 7, .ref T0, .str "a", .ref l1, .ref T2, .ref T4, .ref T6] ++ [.ref T9, .ref Ta, .ref Td] ++ [.ref Th_, .ref Tj] : List V)) i0 (by show i < 13; exact i1)
  refine ⟨Lm, _, i, _, rfl, rfl, SqL.of ((g2 _ nLm).trans em), hat, ?_⟩
  obtain ⟨u, hu⟩ := Am x hx
  exact last ((pf1.trans (PF.of sm)).trans (PF.take g2)) p2 k20 (by omega) (fun _ _ e => e) ((pf_frm (PF.take g2) pm p2).1 _ _ hu)
end
/-! ### traces spoilt: the law's own, whole -/
open LamX NdefX
theorem steps_dataL {H : Hp} : ∀ {l : List WStep} {xs : List V}, StepsAt H l xs → DataL H (l.map WStep.th) xs
  | [], [], _ => rfl
  | st :: l, v :: vs, ⟨⟨T, e, h⟩, r⟩ => by
    refine ⟨v, vs, rfl, ?_, steps_dataL r⟩
    rw [e]
    cases st with
    | waits n u => exact ⟨T, _, rfl, h, _, _, rfl, rfl, _, _, rfl, congrArg V.str q_waits, _, _, rfl, rfl, rfl⟩
    | known n v => exact ⟨T, _, rfl, h, _, _, rfl, rfl, _, _, rfl, congrArg V.str q_known, _, _, rfl, rfl, rfl⟩
  | [], _ :: _, h => h.elim
  | _ :: _, [], h => h.elim
theorem StepsAt.mem {H : Hp} : ∀ {l : List WStep} {xs : List V}, StepsAt H l xs → ∀ x ∈ xs, ∃ T st, x = .ref T ∧ H T = some (.tup (stepV st)) ∧ st ∈ l
  | [], [], _, _, h => nomatch h
  | st :: l, v :: vs, ⟨⟨T, e, h⟩, r⟩, x, hx => by
    rcases List.mem_cons.mp hx with rfl | hx
    · exact ⟨T, st, e, h, List.mem_cons_self⟩
    · obtain ⟨T', s', a, b, c⟩ := r.mem x hx
      exact ⟨T', s', a, b, List.mem_cons_of_mem _ c⟩
  | [], _ :: _, h, _, _ => h.elim
  | _ :: _, [], h, _, _ => h.elim
theorem txs_data {H : Hp} : ∀ ns : List (List Nat), DataL H (ns.map Th.str) (txs ns)
  | [] => rfl
  | s :: ns => ⟨_, _, rfl, rfl, txs_data ns⟩
theorem DataL.mem {H : Hp} : ∀ {l : List Th} {xs : List V}, DataL H l xs → ∀ x ∈ xs, ∃ t, Data H t x
  | [], xs, h, x, hx => by rw [show xs = [] from h] at hx; cases hx
  | t :: l, xs, ⟨y, r, e, h1, h2⟩, x, hx => by
    rw [e] at hx
    rcases List.mem_cons.mp hx with rfl | hx
    · exact ⟨t, h1⟩
    · exact h2.mem x hx
def spSpoilt (K : PySem.W.Frag) : Sp := fun vs H Q _ => ∃ (Tr L p : Addr) (l : List WStep) (xs : List V) (ns : List (List Nat)) (r : Int) (m : Bool) (c : Int), vs = [.ref Tr, .ref L, .ref p] ∧ H Tr = some (.lst xs) ∧ StepsAt H l xs ∧ (∀ st ∈ l, SmallS st) ∧ xs.length ≤ 1000 ∧ H L = some (.lst (txs ns)) ∧ ns.length = 14 ∧ H p = some (.dK (dst r m c)) ∧ 0 ≤ c ∧ c ≤ 80000 ∧
  ∀ (T : Addr) (ys : List V) (ths : List Th) (r' c' : Int) (H' : Hp), PF p H H' → H T = none → H' T = some (.lst ys) → DataL H' ths ys → H' p = some (.dK (dst r' m c')) → 0 ≤ c' → c' ≤ c + 10 → Q (.ref T) H'
section
variable {P : Program} {w : World} {K : PySem.W.Frag} {mg : Str → Option Value} {base : Heap}
abbrev s__law_spoilt : Stmt := topS 37
abbrev N__law_spoilt : List Str := ["trace", "names", "state", "found", "at", "kind"]
theorem sc__law_spoilt : FnScope N__law_spoilt ["trace", "names", "state"] (defScope s__law_spoilt) := ⟨rfl, rfl, rfl, by decide +kernel, rfl, by decide +kernel, by decide +kernel⟩

theorem ok__law_spoilt (T : Txt K mg) (C_dr : Cal P w K mg base CX0 1 "_law_draw" ["state", "many"] spDraw) (C_tu : Cal P w K mg base CX0 2 "_law_turned" ["step", "names", "state"] spTurned) (Df : IsDef K mg "_law_spoilt" s__law_spoilt ["trace", "names", "state"]) : Cal P w K mg base CX0 3 "_law_spoilt" ["trace", "names", "state"] (spSpoilt K) := by
  have C__law_draw := C_dr.mono (show 1 ≤ 2 by decide)
  have C__law_turned := C_tu
  refine Df.cal (k := 2) sc__law_spoilt (fun vs H Q E h => ?_) (fun f cdv A outer s H vs Q E hr h => ?_)
  · obtain ⟨_, _, _, _, _, _, _, _, _, rfl, _⟩ := h
    rfl
  obtain ⟨Tr, L, p, l, xs, ns, r, m, c, rfl, hTr, hst, hsm, hxl, hL, hns, hp, c0, c1, q⟩ := h
  have nLp : L ≠ p := fun e => by rw [e, hp] at hL; cases hL
  have nTp : Tr ≠ p := fun e => by rw [e, hp] at hTr; cases hTr
  refine ⟨_, (pss_cons (ps_set (i := 3) sc__law_spoilt.nd rfl (Or.inl rfl) (pe_callTy call_listA (by rfl) T.b_list (by decide +kernel) (pa_cons (pv 0) pa_nil)))
      (pss_cons (ps_set (i := 4) sc__law_spoilt.nd rfl (Or.inl rfl) (pe_cal C__law_draw (hr.mono (by first | decide | omega)) pass0 (pa_cons (pv 2) (pa_cons (pe_op op_add (pe_callB call_len_seq (by rfl) T.b_len PySem.boot_len (pa_cons (pv 0) pa_nil)) pe_int) pa_nil))))
      (pss_cons (ps_set (i := 5) sc__law_spoilt.nd rfl (Or.inl rfl) (pe_cal C__law_draw (hr.mono (by first | decide | omega)) pass0 (pa_cons (pv 2) (pa_cons pe_int pa_nil))))
      (pss_cons (ps_if (PW.pt (pw_or (pt_cmpR op_eq (pv 4) (pe_callB call_len_seq (by rfl) T.b_len PySem.boot_len (pa_cons (pv 0) pa_nil)) (nomark _)) (pw_or1 (pt_cmpR op_eq (pv 5) pe_int (nomark _)))))
        (pss_one (ps_ret (pe_op op_catU (pe_op op_catU (pe_slice (r := rSlLA K) sl_listA (pv 3) po_none (po_some (pv 4))) (pe_slice (r := rSlLA K) sl_listA (pe_slice (r := rSlLA K) sl_listA (pe_lstA (pa_cons (pe_tupA (pa_cons pe_str (pa_cons pe_str (pa_cons pe_int pa_nil)))) (pa_cons pe_int (pa_cons (pe_slice (r := rSlLA K) sl_listA (pv 3) po_none (po_some pe_int)) (pa_cons (pe_slice (r := rSlLA K) sl_listA (pv 1) po_none (po_some pe_int)) (pa_cons pe_non pa_nil)))))) (po_some (pe_cal C__law_draw (hr.mono (by first | decide | omega)) pass0 (pa_cons (pv 2) (pa_cons pe_int pa_nil)))) po_none) po_none (po_some pe_int))) (pe_slice (r := rSlLA K) sl_listA (pv 3) (po_some (pv 4)) po_none))))
        pss_nil)
      (pss_cons (ps_if (pt_cmpR op_eq (pv 5) pe_int (nomark _))
        (pss_one (ps_ret (pe_op op_catU (pe_slice (r := rSlLA K) sl_listA (pv 3) po_none (po_some (pv 4))) (pe_slice (r := rSlLA K) sl_listA (pv 3) (po_some (pe_op op_add (pv 4) pe_int)) po_none))))
        pss_nil)
      (pss_cons (ps_if (PW.pt (pw_and (pt_cmpR op_eq (pv 5) pe_int (nomark _)) (pw_and1 (pt_cmpR op_gt (pv 4) pe_int (nomark _)))))
        (pss_one (ps_ret (pe_op op_catU (pe_op op_catU (pe_slice (r := rSlLA K) sl_listA (pv 3) po_none (po_some (pe_op op_sub (pv 4) pe_int))) (pe_lstA (pa_cons (pe_ix (r := rIxL K) ix_list (pv 3) (pv 4) (fun _ _ => rfl)) (pa_cons (pe_ix (r := rIxL K) ix_list (pv 3) (pe_op op_sub (pv 4) pe_int) (fun _ _ => rfl)) pa_nil)))) (pe_slice (r := rSlLA K) sl_listA (pv 3) (po_some (pe_op op_add (pv 4) pe_int)) po_none))))
        pss_nil)
      (pss_cons (ps_if (pt_cmpR op_eq (pv 5) pe_int (nomark _))
        (pss_one (ps_ret (pe_op op_catU (pe_op op_catU (pe_slice (r := rSlLA K) sl_listA (pv 3) po_none (po_some (pv 4))) (pe_lstA (pa_cons (pe_ix (r := rIxL K) ix_list (pv 3) (pv 4) (fun _ _ => rfl)) pa_nil))) (pe_slice (r := rSlLA K) sl_listA (pv 3) (po_some (pv 4)) po_none))))
        pss_nil)
      (pss_cons (ps_if (pt_cmpR op_eq (pv 5) pe_int (nomark _))
        (pss_one (ps_ret (pe_op op_catU (pe_op op_catU (pe_slice (r := rSlLA K) sl_listA (pv 3) po_none (po_some (pv 4))) (pe_slice (r := rSlLA K) sl_listA (pv 3) (po_some (pe_op op_add (pv 4) pe_int)) po_none)) (pe_lstA (pa_cons (pe_ix (r := rIxL K) ix_list (pv 3) (pv 4) (fun _ _ => rfl)) pa_nil)))))
        pss_nil)
      (pss_cons (ps_if (pt_cmpR op_eq (pv 5) pe_int (nomark _))
        (pss_one (ps_ret (pe_slice (r := rSlLA K) sl_listA (pv 3) po_none (po_some (pv 4)))))
        pss_nil)
      (pss_one (ps_ret (pe_op op_catU (pe_op op_catU (pe_slice (r := rSlLA K) sl_listA (pv 3) po_none (po_some (pv 4))) (pe_lstA (pa_cons (pe_cal C__law_turned (hr.mono (by first | decide | omega)) pass0 (pa_cons (pe_ix (r := rIxL K) ix_list (pv 3) (pv 4) (fun _ _ => rfl)) (pa_cons (pv 1) (pa_cons (pv 2) pa_nil)))) pa_nil))) (pe_slice (r := rSlLA K) sl_listA (pv 3) (po_some (pe_op op_add (pv 4) pe_int)) po_none))))))))))))), ?_⟩
  refine ⟨_, rfl, Tr, _, rfl, .inl (SqL.of hTr), fun F X1 nF x1 eF => ?_⟩
  have x1 : Same H X1 := x1
  have nFp : F ≠ p := fun e => by rw [e, hp] at nF; cases nF
  refine ⟨_, rfl, _, rfl, Tr, _, rfl, .inl (SqL.of (x1 _ _ hTr)), _, _, rfl, rfl, p, r, m, c, _, rfl, x1 _ _ hp, by omega, Nat.lt_of_le_of_lt (show ((xs.length : Int) + 1).natAbs ≤ 1001 by omega) (by decide), c0, by omega, fun X2 at_ r2 k2 g2 p2 k20 k21 v0 v1 => ?_⟩
  refine ⟨_, rfl, p, r2, m, k2, 7, rfl, p2, by decide, by decide, k20, by omega, fun X3 kd r3 k3 g3 p3 k30 k31 w0 w1 => ?_⟩
  have pf3 : PF p H X3 := ((PF.of x1).trans (PF.take g2)).trans (PF.take g3)
  have eF3 : X3 F = some (.lst xs) := (g3 _ nFp).trans ((g2 _ nFp).trans eF)
  have st3 : StepsAt X3 l xs := hst.keep (pf3.keep hp)
  have d3 := steps_dataL st3
  have eL3 := pf3 _ _ nLp hL
  have eT3 := pf3 _ _ nTp hTr
  have frH : ∀ {Z : Hp} {r' k' : Int} {y : Addr}, PF p H Z → Z p = some (.dK (dst r' m k')) → Z y = none → H y = none := fun {Z r' k' y} f e n => by
    cases hy : H y with
    | none => rfl
    | some u =>
      by_cases z : y = p
      · rw [z, e] at n; cases n
      · rw [f _ _ z hy] at n; cases n
  have fin : ∀ {Z Y : Hp} {r' k' : Int} {y : Addr} {ys : List V} {ths : List Th}, PF p H Z → Z p = some (.dK (dst r' m k')) → 0 ≤ k' → k' ≤ c + 10 → Z y = none → Same Z Y → Y y = some (.lst ys) → DataL Y ths ys → Q (.ref y) Y := fun f e a b n s ey d => q _ _ _ _ _ _ (f.trans (PF.of s)) (frH f e n) ey d (s _ _ e) a b
  have lt_line_le : ∀ {n : Nat}, n ≤ 4000 → n ≤ sizeLine := fun h => Nat.le_trans h (le_line (Nat.le_of_ble_eq_true rfl))
  refine ⟨_, rfl, _, rfl, Tr, _, rfl, .inl (SqL.of eT3), rfl, _, rfl, ?_⟩
  by_cases qa : at_ = (xs.length : Int)
  · refine iteY (by rw [qa]) ?_
    refine ⟨_, rfl, _, rfl, _, rfl, F, _, rfl, SqL.of eF3, fun A Y1 nA y1 eA => ?_⟩
    have y1 : Same X3 Y1 := y1
    obtain ⟨lA, dA, hA⟩ := (d3.same y1).cutV none (some at_)
    refine ⟨le_line (Nat.le_of_ble_eq_true rfl), fun T1 Y2 n2 y2 e2 => ?_⟩
    have y2 : Same Y1 Y2 := y2
    refine ⟨_, rfl, _, rfl, F, _, rfl, SqL.of (y2 _ _ (y1 _ _ eF3)), fun B Y3 n3 y3 e3 => ?_⟩
    have y3 : Same Y2 Y3 := y3
    have s3 := y1.trans (y2.trans y3)
    obtain ⟨lB, dB, _⟩ := (d3.same s3).cutV none (some 1)
    refine ⟨_, rfl, _, rfl, L, _, rfl, SqL.of (s3 _ _ eL3), fun C Y4 n4 y4 e4 => ?_⟩
    have y4 : Same Y3 Y4 := y4
    obtain ⟨lC, dC, _⟩ := (txs_data (H := Y4) ns).cutV none (some 1)
    refine ⟨le_line (Nat.le_of_ble_eq_true rfl), fun D Y5 n5 y5 e5 => ?_⟩
    have y5 : Same Y4 Y5 := y5
    have s5 := s3.trans (y4.trans y5)
    obtain ⟨sa, hsa⟩ := str_is "a"
    obtain ⟨lD, dD⟩ := DataL.of (H := Y5) (xs := [.ref T1, .int 5, .ref B, .ref C, .non]) fun x hx => by
      simp only [List.mem_cons, List.not_mem_nil, or_false] at hx
      rcases hx with rfl | rfl | rfl | rfl | rfl
      · exact ⟨.tup [.str sa, .str w_known, .int 1], _, _, rfl, y5 _ _ (y4 _ _ (y3 _ _ e2)), _, _, rfl, congrArg V.str hsa, _, _, rfl, congrArg V.str q_known, _, _, rfl, rfl, rfl⟩
      · exact ⟨.int 5, rfl⟩
      · exact ⟨.lst lB, _, _, rfl, y5 _ _ (y4 _ _ e3), dB.same (y4.trans y5)⟩
      · exact ⟨.lst lC, _, _, rfl, y5 _ _ e4, dC.same y5⟩
      · exact ⟨.non, rfl⟩
    have p5 := s5 _ _ p3
    refine ⟨_, rfl, p, r3, m, k3, 5, rfl, p5, by decide, by decide, k30, by omega, fun Y6 i r6 k6 g6 p6 k60 k61 i0 i1 => ?_⟩
    have nDp : D ≠ p := fun e => by rw [e, (s3.trans y4) _ _ p3] at n5; cases n5
    have nAp : A ≠ p := fun e => by rw [e, p3] at nA; cases nA
    obtain ⟨lE, dE, hE⟩ := ((pf_frm (PF.take g6) p5 p6).2 _ _ dD).cutV (some i) none
    refine ⟨_, rfl, D, _, rfl, SqL.of ((g6 _ nDp).trans e5), fun E7 Y7 n7 y7 e7 => ?_⟩
    have y7 : Same Y6 Y7 := y7
    obtain ⟨lG, dG, hG⟩ := (dE.same y7).cutV none (some 1)
    refine ⟨_, rfl, E7, _, rfl, SqL.of e7, fun G Y8 n8 y8 e8 => ?_⟩
    have y8 : Same Y7 Y8 := y8
    have s8 := y7.trans y8
    have eA6 := (g6 _ nAp).trans (y5 _ _ (y4 _ _ (y3 _ _ (y2 _ _ eA))))
    have dA6 := (pf_frm (PF.take g6) p5 p6).2 _ _ (dA.same (y2.trans (y3.trans (y4.trans y5))))
    have hE5 : (cutV ([.ref T1, .int 5, .ref B, .ref C, .non] : List V) (some i) none).length ≤ 5 := hE
    refine ⟨A, G, _, _, rfl, rfl, s8 _ _ eA6, e8, lt_line_le (by omega), fun M Y9 n9 y9 e9 => ?_⟩
    have y9 : Same Y8 Y9 := y9
    have s9 := s8.trans y9
    have eF9 := s9 _ _ ((g6 _ nFp).trans (s5 _ _ eF3))
    have d9 := ((pf_frm (PF.take g6) p5 p6).2 _ _ (d3.same s5)).same s9
    refine ⟨_, rfl, _, rfl, _, rfl, F, _, rfl, SqL.of eF9, fun N Ya na ya ea => ?_⟩
    have ya : Same Y9 Ya := ya
    obtain ⟨lN, dN, hN⟩ := (d9.same ya).cutV (some at_) none
    refine ⟨M, N, _, _, rfl, rfl, ya _ _ e9, ea, lt_line_le (by rw [List.length_append]; omega), fun R Yb nb yb eb => ?_⟩
    have yb : Same Ya Yb := yb
    have pf6 : PF p H Y6 := (pf3.trans (PF.of s5)).trans (PF.take g6)
    exact fin (pf6.trans (PF.of (s9.trans ya))) ((s9.trans ya) _ _ p6) k60 (by omega) nb yb eb ((((dA6.same (s9.trans (ya.trans yb))).append ((dG.same (y8.trans (y9.trans (ya.trans yb))))))).append (dN.same yb))
  refine iteN (fun e => qa (V.int.inj e)) ?_
  refine ⟨_, rfl, rfl, _, rfl, ?_⟩
  by_cases q0 : kd = 0
  · refine iteY (by rw [q0]) ?_
    refine ⟨_, rfl, _, rfl, _, rfl, F, _, rfl, SqL.of eF3, fun A Y1 nA y1 eA => ?_⟩
    have y1 : Same X3 Y1 := y1
    obtain ⟨lA, dA, hA⟩ := (d3.same y1).cutV none (some at_)
    refine ⟨le_line (Nat.le_of_ble_eq_true rfl), fun T1 Y2 n2 y2 e2 => ?_⟩
    have y2 : Same Y1 Y2 := y2
    refine ⟨_, rfl, _, rfl, F, _, rfl, SqL.of (y2 _ _ (y1 _ _ eF3)), fun B Y3 n3 y3 e3 => ?_⟩
    have y3 : Same Y2 Y3 := y3
    have s3 := y1.trans (y2.trans y3)
    obtain ⟨lB, dB, _⟩ := (d3.same s3).cutV none (some 1)
    refine ⟨_, rfl, _, rfl, L, _, rfl, SqL.of (s3 _ _ eL3), fun C Y4 n4 y4 e4 => ?_⟩
    have y4 : Same Y3 Y4 := y4
    obtain ⟨lC, dC, _⟩ := (txs_data (H := Y4) ns).cutV none (some 1)
    refine ⟨le_line (Nat.le_of_ble_eq_true rfl), fun D Y5 n5 y5 e5 => ?_⟩
    have y5 : Same Y4 Y5 := y5
    have s5 := s3.trans (y4.trans y5)
    obtain ⟨sa, hsa⟩ := str_is "a"
    obtain ⟨lD, dD⟩ := DataL.of (H := Y5) (xs := [.ref T1, .int 5, .ref B, .ref C, .non]) fun x hx => by
      simp only [List.mem_cons, List.not_mem_nil, or_false] at hx
      rcases hx with rfl | rfl | rfl | rfl | rfl
      · exact ⟨.tup [.str sa, .str w_known, .int 1], _, _, rfl, y5 _ _ (y4 _ _ (y3 _ _ e2)), _, _, rfl, congrArg V.str hsa, _, _, rfl, congrArg V.str q_known, _, _, rfl, rfl, rfl⟩
      · exact ⟨.int 5, rfl⟩
      · exact ⟨.lst lB, _, _, rfl, y5 _ _ (y4 _ _ e3), dB.same (y4.trans y5)⟩
      · exact ⟨.lst lC, _, _, rfl, y5 _ _ e4, dC.same y5⟩
      · exact ⟨.non, rfl⟩
    have p5 := s5 _ _ p3
    refine ⟨_, rfl, p, r3, m, k3, 5, rfl, p5, by decide, by decide, k30, by omega, fun Y6 i r6 k6 g6 p6 k60 k61 i0 i1 => ?_⟩
    have nDp : D ≠ p := fun e => by rw [e, (s3.trans y4) _ _ p3] at n5; cases n5
    have nAp : A ≠ p := fun e => by rw [e, p3] at nA; cases nA
    obtain ⟨lE, dE, hE⟩ := ((pf_frm (PF.take g6) p5 p6).2 _ _ dD).cutV (some i) none
    refine ⟨_, rfl, D, _, rfl, SqL.of ((g6 _ nDp).trans e5), fun E7 Y7 n7 y7 e7 => ?_⟩
    have y7 : Same Y6 Y7 := y7
    obtain ⟨lG, dG, hG⟩ := (dE.same y7).cutV none (some 1)
    refine ⟨_, rfl, E7, _, rfl, SqL.of e7, fun G Y8 n8 y8 e8 => ?_⟩
    have y8 : Same Y7 Y8 := y8
    have s8 := y7.trans y8
    have eA6 := (g6 _ nAp).trans (y5 _ _ (y4 _ _ (y3 _ _ (y2 _ _ eA))))
    have dA6 := (pf_frm (PF.take g6) p5 p6).2 _ _ (dA.same (y2.trans (y3.trans (y4.trans y5))))
    have hE5 : (cutV ([.ref T1, .int 5, .ref B, .ref C, .non] : List V) (some i) none).length ≤ 5 := hE
    refine ⟨A, G, _, _, rfl, rfl, s8 _ _ eA6, e8, lt_line_le (by omega), fun M Y9 n9 y9 e9 => ?_⟩
    have y9 : Same Y8 Y9 := y9
    have s9 := s8.trans y9
    have eF9 := s9 _ _ ((g6 _ nFp).trans (s5 _ _ eF3))
    have d9 := ((pf_frm (PF.take g6) p5 p6).2 _ _ (d3.same s5)).same s9
    refine ⟨_, rfl, _, rfl, _, rfl, F, _, rfl, SqL.of eF9, fun N Ya na ya ea => ?_⟩
    have ya : Same Y9 Ya := ya
    obtain ⟨lN, dN, hN⟩ := (d9.same ya).cutV (some at_) none
    refine ⟨M, N, _, _, rfl, rfl, ya _ _ e9, ea, lt_line_le (by rw [List.length_append]; omega), fun R Yb nb yb eb => ?_⟩
    have yb : Same Ya Yb := yb
    have pf6 : PF p H Y6 := (pf3.trans (PF.of s5)).trans (PF.take g6)
    exact fin (pf6.trans (PF.of (s9.trans ya))) ((s9.trans ya) _ _ p6) k60 (by omega) nb yb eb ((((dA6.same (s9.trans (ya.trans yb))).append ((dG.same (y8.trans (y9.trans (ya.trans yb))))))).append (dN.same yb))
  refine iteN (fun e => q0 (V.int.inj e)) ?_
  have at1 : at_ < (xs.length : Int) := by omega
  obtain ⟨y0, hy0, hat0⟩ := one_of (xs := xs) v0 at1
  obtain ⟨u0, du0⟩ := d3.mem y0 hy0
  refine in_nx (in_seq ?_)
  refine ⟨_, rfl, rfl, _, rfl, ?_⟩
  by_cases q1 : kd = 1
  · refine iteY (by rw [q1]) ?_
    refine ⟨_, rfl, _, rfl, _, rfl, F, _, rfl, SqL.of eF3, fun A Y1 nA y1 eA => ?_⟩
    have y1 : Same X3 Y1 := y1
    obtain ⟨lA, dA, hA⟩ := (d3.same y1).cutV none (some at_)
    refine ⟨_, rfl, _, rfl, _, _, rfl, rfl, _, rfl, F, _, rfl, SqL.of (y1 _ _ eF3), fun N Y2 n2 y2 e2 => ?_⟩
    have y2 : Same Y1 Y2 := y2
    obtain ⟨lN, dN, hN⟩ := (d3.same (y1.trans y2)).cutV (some (at_ + 1)) none
    refine ⟨A, N, _, _, rfl, rfl, y2 _ _ eA, e2, lt_line_le (by omega), fun R Y3 n3 y3 e3 => ?_⟩
    have y3 : Same Y2 Y3 := y3
    exact fin (pf3.trans (PF.of (y1.trans y2))) ((y1.trans y2) _ _ p3) k30 (by omega) n3 y3 e3 ((dA.same (y2.trans y3)).append (dN.same y3))
  refine iteN (fun e => q1 (V.int.inj e)) ?_
  refine in_nx (in_seq (nx_post (fun σ Y => Y = X3 ∧ σ = [some (.ref Tr), some (.ref L), some (.ref p), some (.ref F), some (.int at_), some (.int kd)]) (fun nx hnx => ?_) ?_))
  · refine ⟨_, rfl, rfl, _, rfl, ?_⟩
    by_cases q2 : kd = 2
    case neg => exact iteN (fun e => q2 (V.int.inj e)) (hnx _ _ ⟨rfl, rfl⟩)
    refine iteY (by rw [q2]) ?_
    refine ⟨_, rfl, _, _, rfl, rfl, _, rfl, ?_⟩
    by_cases q9 : at_ > 0
    case neg => exact iteN q9 (hnx _ _ ⟨rfl, rfl⟩)
    refine iteY q9 ?_
    obtain ⟨y9, hy9, hat9⟩ := one_of (xs := xs) (v := at_ - 1) (by omega) (by omega)
    obtain ⟨u9, du9⟩ := d3.mem y9 hy9
    refine ⟨_, rfl, _, rfl, _, _, rfl, rfl, _, rfl, F, _, rfl, SqL.of eF3, fun A Y1 nA y1 eA => ?_⟩
    have y1 : Same X3 Y1 := y1
    obtain ⟨lA, dA, hA⟩ := (d3.same y1).cutV none (some (at_ - 1))
    have eF1 := y1 _ _ eF3
    refine ⟨_, rfl, _, rfl, F, _, at_, _, rfl, rfl, SqL.of eF1, hat0, _, rfl, _, rfl, _, _, rfl, rfl, F, _, at_ - 1, _, rfl, rfl, SqL.of eF1, hat9, le_line (Nat.le_of_ble_eq_true rfl), fun B Y2 n2 y2 e2 => ?_⟩
    have y2 : Same Y1 Y2 := y2
    refine ⟨A, B, _, _, rfl, rfl, y2 _ _ eA, e2, lt_line_le (by show (cutV xs none (some (at_ - 1))).length + 2 ≤ 4000; omega), fun M Y3 n3 y3 e3 => ?_⟩
    have y3 : Same Y2 Y3 := y3
    have s3 := y1.trans (y2.trans y3)
    refine ⟨_, rfl, _, rfl, _, _, rfl, rfl, _, rfl, F, _, rfl, SqL.of (s3 _ _ eF3), fun N Y4 n4 y4 e4 => ?_⟩
    have y4 : Same Y3 Y4 := y4
    obtain ⟨lN, dN, hN⟩ := (d3.same (s3.trans y4)).cutV (some (at_ + 1)) none
    refine ⟨M, N, _, _, rfl, rfl, y4 _ _ e3, e4, lt_line_le (by rw [List.length_append]; show (cutV xs none (some (at_ - 1))).length + 2 + _ ≤ 4000; omega), fun R Y5 n5 y5 e5 => ?_⟩
    have y5 : Same Y4 Y5 := y5
    have s5 := s3.trans (y4.trans y5)
    exact fin (pf3.trans (PF.of (s3.trans y4))) ((s3.trans y4) _ _ p3) k30 (by omega) n5 y5 e5 (((dA.same (y2.trans (y3.trans (y4.trans y5)))).append ⟨_, _, rfl, du0.same s5, _, _, rfl, du9.same s5, rfl⟩ (m := [u0, u9])).append (dN.same y5))
  rintro σ Y ⟨rfl, rfl⟩
  refine in_nx (in_seq ?_)
  refine ⟨_, rfl, rfl, _, rfl, ?_⟩
  by_cases q3 : kd = 3
  · refine iteY (by rw [q3]) ?_
    refine ⟨_, rfl, _, rfl, _, rfl, F, _, rfl, SqL.of eF3, fun A Y1 nA y1 eA => ?_⟩
    have y1 : Same Y Y1 := y1
    obtain ⟨lA, dA, hA⟩ := (d3.same y1).cutV none (some at_)
    refine ⟨_, rfl, _, rfl, F, _, at_, _, rfl, rfl, SqL.of (y1 _ _ eF3), hat0, le_line (Nat.le_of_ble_eq_true rfl), fun B Y2 n2 y2 e2 => ?_⟩
    have y2 : Same Y1 Y2 := y2
    refine ⟨A, B, _, _, rfl, rfl, y2 _ _ eA, e2, lt_line_le (by show (cutV xs none (some at_)).length + 1 ≤ 4000; omega), fun M Y3 n3 y3 e3 => ?_⟩
    have y3 : Same Y2 Y3 := y3
    have s3 := y1.trans (y2.trans y3)
    refine ⟨_, rfl, _, rfl, _, rfl, F, _, rfl, SqL.of (s3 _ _ eF3), fun N Y4 n4 y4 e4 => ?_⟩
    have y4 : Same Y3 Y4 := y4
    obtain ⟨lN, dN, hN⟩ := (d3.same (s3.trans y4)).cutV (some at_) none
    refine ⟨M, N, _, _, rfl, rfl, y4 _ _ e3, e4, lt_line_le (by rw [List.length_append]; show (cutV xs none (some at_)).length + 1 + _ ≤ 4000; omega), fun R Y5 n5 y5 e5 => ?_⟩
    have y5 : Same Y4 Y5 := y5
    have s5 := s3.trans (y4.trans y5)
    exact fin (pf3.trans (PF.of (s3.trans y4))) ((s3.trans y4) _ _ p3) k30 (by omega) n5 y5 e5 (((dA.same (y2.trans (y3.trans (y4.trans y5)))).append ⟨_, _, rfl, du0.same s5, rfl⟩ (m := [u0])).append (dN.same y5))
  refine iteN (fun e => q3 (V.int.inj e)) ?_
  refine in_nx (in_seq ?_)
  refine ⟨_, rfl, rfl, _, rfl, ?_⟩
  by_cases q4 : kd = 4
  · refine iteY (by rw [q4]) ?_
    refine ⟨_, rfl, _, rfl, _, rfl, F, _, rfl, SqL.of eF3, fun A Y1 nA y1 eA => ?_⟩
    have y1 : Same Y Y1 := y1
    obtain ⟨lA, dA, hA⟩ := (d3.same y1).cutV none (some at_)
    refine ⟨_, rfl, _, rfl, _, _, rfl, rfl, _, rfl, F, _, rfl, SqL.of (y1 _ _ eF3), fun N Y2 n2 y2 e2 => ?_⟩
    have y2 : Same Y1 Y2 := y2
    obtain ⟨lN, dN, hN⟩ := (d3.same (y1.trans y2)).cutV (some (at_ + 1)) none
    refine ⟨A, N, _, _, rfl, rfl, y2 _ _ eA, e2, lt_line_le (by omega), fun M Y3 n3 y3 e3 => ?_⟩
    have y3 : Same Y2 Y3 := y3
    have s3 := y1.trans (y2.trans y3)
    refine ⟨_, rfl, _, rfl, F, _, at_, _, rfl, rfl, SqL.of (s3 _ _ eF3), hat0, le_line (Nat.le_of_ble_eq_true rfl), fun B Y4 n4 y4 e4 => ?_⟩
    have y4 : Same Y3 Y4 := y4
    refine ⟨M, B, _, _, rfl, rfl, y4 _ _ e3, e4, lt_line_le (by rw [List.length_append]; show _ + 1 ≤ 4000; omega), fun R Y5 n5 y5 e5 => ?_⟩
    have y5 : Same Y4 Y5 := y5
    have s5 := s3.trans (y4.trans y5)
    exact fin (pf3.trans (PF.of (s3.trans y4))) ((s3.trans y4) _ _ p3) k30 (by omega) n5 y5 e5 (((dA.same (y2.trans (y3.trans (y4.trans y5)))).append (dN.same (y3.trans (y4.trans y5)))).append ⟨_, _, rfl, du0.same s5, rfl⟩ (m := [u0]))
  refine iteN (fun e => q4 (V.int.inj e)) ?_
  refine in_nx (in_seq ?_)
  refine ⟨_, rfl, rfl, _, rfl, ?_⟩
  by_cases q5 : kd = 5
  · refine iteY (by rw [q5]) ?_
    refine ⟨_, rfl, _, rfl, _, rfl, F, _, rfl, SqL.of eF3, fun A Y1 nA y1 eA => ?_⟩
    have y1 : Same Y Y1 := y1
    obtain ⟨lA, dA, hA⟩ := (d3.same y1).cutV none (some at_)
    exact fin pf3 p3 k30 (by omega) nA y1 eA dA
  refine iteN (fun e => q5 (V.int.inj e)) ?_
  refine in_nx ?_
  refine ⟨_, rfl, _, rfl, _, rfl, F, _, rfl, SqL.of eF3, fun A Y1 nA y1 eA => ?_⟩
  have y1 : Same Y Y1 := y1
  obtain ⟨lA, dA, hA⟩ := (d3.same y1).cutV none (some at_)
  obtain ⟨To, so, rfl, eTo, hso⟩ := st3.mem y0 hy0
  have p1 := y1 _ _ p3
  have nAp : A ≠ p := fun e => by rw [e, p3] at nA; cases nA
  refine ⟨_, rfl, _, rfl, F, _, at_, _, rfl, rfl, SqL.of (y1 _ _ eF3), hat0, _, rfl, _, rfl, To, L, p, so, ns, r3, m, k3, rfl, y1 _ _ eTo, hsm _ hso, y1 _ _ eL3, hns, p1, k30, by omega, fun v t r4 k4 Y2 f2 dv p2 k40 k41 => ?_⟩
  refine ⟨le_line (Nat.le_of_ble_eq_true rfl), fun B Y3 n3 y3 e3 => ?_⟩
  have y3 : Same Y2 Y3 := y3
  have fr := (pf_frm f2 p1 p2).2
  refine ⟨A, B, _, _, rfl, rfl, y3 _ _ (f2 _ _ nAp eA), e3, lt_line_le (by show (cutV xs none (some at_)).length + 1 ≤ 4000; omega), fun M Y4 n4 y4 e4 => ?_⟩
  have y4 : Same Y3 Y4 := y4
  have eF4 := y4 _ _ (y3 _ _ (f2 _ _ nFp (y1 _ _ eF3)))
  have d4 := ((fr _ _ (d3.same y1)).same y3).same y4
  refine ⟨_, rfl, _, rfl, _, _, rfl, rfl, _, rfl, F, _, rfl, SqL.of eF4, fun N Y5 n5 y5 e5 => ?_⟩
  have y5 : Same Y4 Y5 := y5
  obtain ⟨lN, dN, hN⟩ := (d4.same y5).cutV (some (at_ + 1)) none
  refine ⟨M, N, _, _, rfl, rfl, y5 _ _ e4, e5, lt_line_le (by rw [List.length_append]; show (cutV xs none (some at_)).length + 1 + _ ≤ 4000; omega), fun R Y6 n6 y6 e6 => ?_⟩
  have y6 : Same Y5 Y6 := y6
  have s36 := y3.trans (y4.trans (y5.trans y6))
  have s35 := y3.trans (y4.trans y5)
  exact fin (((pf3.trans (PF.of y1)).trans f2).trans (PF.of s35)) (s35 _ _ p2) k40 (by omega) n6 y6 e6 ((((fr _ _ dA).same s36).append ⟨_, _, rfl, dv.same s36, rfl⟩ (m := [t])).append (dN.same y6))
end
/-! ### law k67 -/
open LamX NdefX
theorem wi_nms {S : List Nat → Prop} : ∀ {r : Rcp}, r.Wi S → ∀ s ∈ r.nms, S s
  | .num _, _, s, hs => nomatch hs
  | .read t, h, s, hs => by rw [List.mem_singleton.mp hs]; exact h
  | .two _ a b, h, s, hs => (List.mem_append.mp hs).elim (wi_nms h.1 s) (wi_nms h.2 s)
  | .pick a b c, h, s, hs => (List.mem_append.mp hs).elim (wi_nms h.1 s) fun hs => (List.mem_append.mp hs).elim (wi_nms h.2.1 s) (wi_nms h.2.2 s)
  | .choose a ns, h, s, hs => (List.mem_append.mp hs).elim (wi_nms h.1 s) (h.2 s)
theorem HouseD.wv {ns : List (List Nat)} {c : Nat} {h : House} (N : NmD ns) (H : HouseD ns c 12 h) (hc : c ≤ 10 ^ 9) : HouseWv h (wtD ns) (fun u => ns.idxOf u) :=
  ⟨H.v N hc, wtD_le N, H.nd, fun p hp _ s hs => wi_nms (H.wi N hp) s hs, fun p hp => by
    obtain ⟨b, _, d, _⟩ := H.bit N hp
    exact ⟨d, by omega⟩, by have := H.count; omega⟩
theorem run_keys {h : House} {f rank : List Nat → Nat} {cs : List Int} (W : HouseWv h f rank) : ∀ (n : Nat) (s : WvS) (tr : List WStep), WOk h f rank s tr → ∀ k ∈ (runW h cs n s tr).map WStep.key, k.1 ∈ h.recs.map (·.1) ∧ ∀ u, k.2 = some u → u ∈ h.recs.map (·.1)
  | 0, s, tr, o => o.keyU
  | n + 1, s, tr, o => by
    unfold runW
    by_cases c : leftW s = []
    · rw [if_pos c]; exact o.keyU
    · rw [if_neg c]
      exact run_keys W n _ _ (o.go W (pick_mem (o.ready c)).2)
def StepN (st : WStep) : Prop := match st with
  | .waits n u => Nm n ∧ Nm u
  | .known n _ => Nm n
theorem run_nm {h : House} {f rank : List Nat → Nat} (W : HouseWv h f rank) (cs : List Int) (ws : List (List Nat)) (hr : ∀ t ∈ ws, rank t < 1000) : ∀ st ∈ runW h cs 1000 (begW h ws) [], StepN st := fun st hst => by
  have nm : ∀ t ∈ h.recs.map (·.1), Nm t := fun t ht => by
    obtain ⟨p, hp, e⟩ := List.mem_map.mp ht
    rw [← e]
    exact (W.v.rcp p hp).1
  obtain ⟨a, b⟩ := run_keys W 1000 _ [] (begW_ok W ws hr) _ (List.mem_map.mpr ⟨st, hst, rfl⟩)
  cases st with
  | waits n u => exact ⟨nm n a, nm u (b u rfl)⟩
  | known n v => exact nm n a
theorem steps_lay : ∀ {l : List WStep}, (∀ st ∈ l, StepN st) → PyData.canLayAll0 (Th.pyL (l.map WStep.th)) = true ∧ PyData.depthAll (Th.pyL (l.map WStep.th)) ≤ 1
  | [], _ => ⟨rfl, Nat.zero_le _⟩
  | st :: l, h => by
    obtain ⟨h1, h2⟩ := steps_lay fun q hq => h q (List.mem_cons_of_mem _ hq)
    have h3 := h st List.mem_cons_self
    have lw : (PyData.str (SX.S w_waits)).canLay0 = true := str_lay (by decide)
    have lk : (PyData.str (SX.S w_known)).canLay0 = true := str_lay (by decide)
    cases st with
    | waits n u =>
      have a := nm_lay h3.1
      have b := nm_lay h3.2
      refine ⟨?_, ?_⟩
      · show (((PyData.str (SX.S n)).canLay0 && ((PyData.str (SX.S w_waits)).canLay0 && ((PyData.str (SX.S u)).canLay0 && true))) && PyData.canLayAll0 (Th.pyL (l.map WStep.th))) = true
        rw [h1, a, b, lw]
        rfl
      · show max (max 0 (max 0 (max 0 0)) + 1) (PyData.depthAll (Th.pyL (l.map WStep.th))) ≤ 1
        omega
    | known n v =>
      have a := nm_lay h3
      refine ⟨?_, ?_⟩
      · show (((PyData.str (SX.S n)).canLay0 && ((PyData.str (SX.S w_known)).canLay0 && ((PyData.int v).canLay0 && true))) && PyData.canLayAll0 (Th.pyL (l.map WStep.th))) = true
        rw [h1, a, lk]
        rfl
      · show max (max 0 (max 0 (max 0 0)) + 1) (PyData.depthAll (Th.pyL (l.map WStep.th))) ≤ 1
        omega
theorem steps_flat : ∀ l : List WStep, Th.flatL (l.map WStep.th) = true
  | [] => rfl
  | .waits _ _ :: l => steps_flat l
  | .known _ _ :: l => steps_flat l
theorem StepsAt.dataL {H : Hp} : ∀ {l : List WStep} {vs : List V}, StepsAt H l vs → DataL H (l.map WStep.th) vs
  | [], [], _ => rfl
  | .waits n u :: l, v :: vs, ⟨⟨T, e, h⟩, r⟩ => ⟨v, vs, rfl, ⟨T, _, e, h, _, _, rfl, rfl, _, _, rfl, congrArg V.str q_waits, _, _, rfl, rfl, rfl⟩, r.dataL⟩
  | .known n x :: l, v :: vs, ⟨⟨T, e, h⟩, r⟩ => ⟨v, vs, rfl, ⟨T, _, e, h, _, _, rfl, rfl, _, _, rfl, congrArg V.str q_known, _, _, rfl, rfl, rfl⟩, r.dataL⟩
  | [], _ :: _, h => h.elim
  | _ :: _, [], h => h.elim
theorem steps_dp (K : PySem.W.Frag) {H : Hp} {L : Addr} {l : List WStep} {vs : List V} (e : H L = some (.lst vs)) (s : StepsAt H l vs) : Dp K H (.ref L) (.list (Th.pyL (l.map WStep.th))) := Data.dp (t := .lst (l.map WStep.th)) (steps_flat l) ⟨L, vs, rfl, e, s.dataL⟩
theorem steps_shaped {l : List WStep} (h : ∀ st ∈ l, StepN st) : SeqAt.shaped (.list (Th.pyL (l.map WStep.th))) = true := by
  obtain ⟨a, b⟩ := steps_lay h
  show (PyData.canLayAll0 (Th.pyL (l.map WStep.th)) && decide (PyData.depthAll (Th.pyL (l.map WStep.th)) + 1 ≤ 64)) = true
  rw [a, decide_eq_true (by omega)]
  rfl
theorem steps_eqv {l : List WStep} (h : ∀ st ∈ l, StepN st) : PyData.eqv (.list (Th.pyL (l.map WStep.th))) (.list (Th.pyL (l.map WStep.th))) = true := SeqAt.eqv_refl _ (SeqAt.canLay_of_shaped (steps_shaped h))
theorem val_mem : ∀ {ks : List (Key × V)}, (ks.map (·.1)).Nodup → ∀ p ∈ ks, valV ks p.1 = some p.2
  | [], _, p, h => nomatch h
  | q :: ks, nd, p, h => by
    obtain ⟨n1, n2⟩ := List.nodup_cons.mp nd
    obtain ⟨k0, v0⟩ := q
    rw [val_consW]
    rcases List.mem_cons.mp h with e | h
    · rw [e, if_pos rfl]
    · rw [if_neg (fun z => n1 (List.mem_map.mpr ⟨p, h, z.symm⟩))]
      exact val_mem n2 p h
theorem kvR_keysT {α : Type} {R : α → V → Prop} : ∀ {l : List (List Nat × α)} {m : List (Key × V)}, KvR R l m → m.map (·.1) = (l.map (·.1)).map fun s => kT (SX.S s)
  | [], [], _ => rfl
  | p :: l, q :: m, ⟨x, _, z⟩ => by
    show q.1 :: m.map (·.1) = kT (SX.S p.1) :: _
    rw [kvR_keysT z, x]
  | [], _ :: _, h => h.elim
  | _ :: _, [], h => h.elim
theorem kvR_nd {α : Type} {R : α → V → Prop} {l : List (List Nat × α)} {m : List (Key × V)} (h : KvR R l m) (nd : (l.map (·.1)).Nodup) : (m.map (·.1)).Nodup := by
  rw [kvR_keysT h]
  have key : ∀ l : List (List Nat), l.Nodup → (l.map fun s => kT (SX.S s)).Nodup := by
    intro l
    induction l with
    | nil => intro _; exact List.nodup_nil
    | cons a l ih =>
      intro nd
      obtain ⟨n1, n2⟩ := List.nodup_cons.mp nd
      refine List.nodup_cons.mpr ⟨fun z => ?_, ih n2⟩
      obtain ⟨b, hb, e⟩ := List.mem_map.mp z
      rw [kS_inj e] at hb
      exact n1 hb
  exact key _ nd
theorem rec_ref {H : Hp} : ∀ {r : Rcp} {v : V}, Rec H r v → ∃ a, v = .ref a
  | .num _, _, ⟨t, e, _⟩ => ⟨t, e⟩
  | .read _, _, ⟨t, e, _⟩ => ⟨t, e⟩
  | .two _ _ _, _, ⟨t, _, _, e, _⟩ => ⟨t, e⟩
  | .pick _ _ _, _, ⟨t, _, _, _, e, _⟩ => ⟨t, e⟩
  | .choose _ _, _, ⟨t, _, _, e, _⟩ => ⟨t, e⟩
theorem dk_same {K : PySem.W.Frag} {H : Hp} {n : Nat} {a b : Addr} {ks : List (Key × V)} (ea : H a = some (.dK ks)) (eb : H b = some (.dK ks)) (nd : (ks.map (·.1)).Nodup) (fl : ∀ p ∈ ks, flatB p.2 = true ∨ ∃ a, p.2 = .ref a) : EqG K H (n + 2) (.ref a) (.ref b) :=
  .inr (.inr (.inr (.inr (.inr ⟨a, b, ks, ks, rfl, rfl, ea, eb, rfl, fun p hp => ⟨p.2, val_mem nd p hp, EqG.any (fl p hp)⟩⟩))))
theorem paired_any {K : PySem.W.Frag} {H : Hp} {n : Nat} : ∀ {xs : List V}, (∀ x ∈ xs, flatB x = true ∨ ∃ a, x = .ref a) → Paired (EqG K H (n + 1)) xs xs
  | [], _ => .nil
  | x :: xs, h => .cons (EqG.any (h x List.mem_cons_self)) (paired_any fun y hy => h y (List.mem_cons_of_mem _ hy))
theorem lst_same {K : PySem.W.Frag} {H : Hp} {n : Nat} {a b : Addr} {xs : List V} (ea : SqL K H a xs) (eb : SqL K H b xs) (fl : ∀ x ∈ xs, flatB x = true ∨ ∃ a, x = .ref a) : EqG K H (n + 2) (.ref a) (.ref b) :=
  .inr (.inr (.inr (.inl ⟨a, b, xs, xs, rfl, rfl, ea, eb, paired_any fl⟩)))
section
variable {P : Program} {w : World} {K : PySem.W.Frag} {mg : Str → Option Value} {base : Heap}
end
/-! ### law k70, the walk -/
open LamX NdefX
theorem run_lenT {h : House} {cs : List Int} : ∀ (n : Nat) (s : WvS) (tr : List WStep), (runW h cs n s tr).length ≤ n + tr.length
  | 0, s, tr => by unfold runW; omega
  | n + 1, s, tr => by
    unfold runW
    by_cases c : leftW s = []
    · rw [if_pos c]; omega
    · rw [if_neg c]
      have := run_lenT (h := h) (cs := cs) n (goW h s (pickW cs s tr)).1 (tr ++ [(goW h s (pickW cs s tr)).2])
      rw [List.length_append] at this
      have e : ([(goW h s (pickW cs s tr)).2] : List WStep).length = 1 := rfl
      omega
theorem run_small {h : House} {f rank : List Nat → Nat} {cs : List Int} (W : HouseWv h f rank) : ∀ (n : Nat) (s : WvS) (tr : List WStep), WOk h f rank s tr → (∀ st ∈ tr, SmallS st) → ∀ st ∈ runW h cs n s tr, SmallS st
  | 0, s, tr, _, hs => by unfold runW; exact hs
  | n + 1, s, tr, o, hs => by
    unfold runW
    by_cases c : leftW s = []
    · rw [if_pos c]; exact hs
    · rw [if_neg c]
      have hp := (pick_mem (cs := cs) (tr := tr) (o.ready c)).2
      have o' := o.go W hp
      refine run_small W n _ _ o' fun st hst => ?_
      rcases List.mem_append.mp hst with hst | hst
      · exact hs st hst
      · rw [List.mem_singleton.mp hst]
        obtain ⟨r, _, _, hc⟩ := goW_case W o hp
        rcases hc with ⟨v, _, e⟩ | ⟨u, _, _, _, _, _, e⟩
        · have hk := o'.kn (pickW cs s tr) v
          rw [e] at hk ⊢
          have hk := hk (by rw [seen_putA', if_pos rfl])
          show v.natAbs.log2 < 1900
          by_cases z : v.natAbs = 0
          · rw [z]; decide
          · have h4 := W.f4 (pickW cs s tr)
            have : v.natAbs < 2 ^ 1900 := Nat.lt_of_lt_of_le hk (Nat.pow_le_pow_right (by decide) (by omega))
            exact (Nat.log2_lt z).mpr this
        · rw [e]; trivial
theorem shows_idle {h : House} {s : WvS} (e : rdyW s = []) (t : Th) (l : List Th) : showsT h s (t :: l) = false := by
  cases c : isStepT t with
  | false => exact shows_no c
  | true =>
    obtain ⟨n, a, b, rfl, _⟩ := isStep_form c
    exact shows_un (fun z => by rw [e] at z; cases z.1)
theorem empty_wv : HouseWv ⟨[], []⟩ (fun _ => 1) (fun _ => 0) :=
  ⟨⟨(fun _ h => nomatch h), (fun _ h => nomatch h), fun _ => Nat.one_pos⟩, fun _ => by decide, List.nodup_nil, (fun _ h => nomatch h), (fun _ h => nomatch h), Nat.zero_le _⟩
theorem anyV_flat {H : Hp} {x : V} (h : AnyV H x) : flatB x = true ∨ ∃ a, x = .ref a := by
  rcases h with h | ⟨a, e, _⟩
  · cases x <;> first | exact .inl rfl | (cases h; done)
  · exact .inr ⟨a, e⟩
def spLaw (K : PySem.W.Frag) : Sp := fun vs H Q _ => ∃ (a : Addr) (ns : List Int), vs = [.ref a] ∧ SqL K H a (ns.map V.int) ∧ ns.length ≤ 63 ∧ ∀ H', Q (.bl true) H'
section
variable {P : Program} {w : World} {K : PySem.W.Frag} {mg : Str → Option Value} {base : Heap}
abbrev s_law : Stmt := topS 38
abbrev N_law : List Str := ["script", "names", "house", "last", "k", "state", "wishes", "trace", "some", "handed", "found", "empty", "thing"]
theorem sc_law : FnScope N_law ["script"] (defScope s_law) := ⟨rfl, rfl, rfl, by decide +kernel, rfl, by decide +kernel, by decide +kernel⟩

theorem ok_law {fl : Addr} {fd : FuncData} (F : Fun K "law" "law" s_law fl fd) (T : Txt K mg) (C_nm : Cal P w K mg base CX0 2 "_law_names" ["script"] (spNamesS K)) (C_h : Cal P w K mg base CX0 7 "_law_house" ["script", "names", "loose"] (spHouseS K)) (C_st : Cal P w K mg base CX0 1 "_law_state" ["script", "k"] (spState K))
    (C_ch : Cal P w K mg base CX0 7 "_law_changed" ["house", "names", "state"] spChangedS) (C_wi : Cal P w K mg base CX0 2 "_law_wishes" ["state", "names"] spWishesS) (C_cs : Cal P w K mg base CX0 2 "_law_choices" ["state"] spChoices) (C_lw : Cal P w K mg base CX0 10 "_law_woven" ["house", "wishes", "choices"] (spLWov K))
    (C_sp : Cal P w K mg base CX0 3 "_law_spoilt" ["trace", "names", "state"] (spSpoilt K)) (C_sh : Cal P w K mg base CX0 10 "_law_shown" ["house", "wishes", "trace"] (spTrShowT K)) (C_ts : Cal P w K mg base CX0 30 "trace_shows" ["house", "wishes", "trace"] (spTrShowT K)) : FnOk P w K mg base CX0 32 fl fd ["script"] (spLaw K) := by
  have C__law_names := C_nm.mono (show 2 ≤ 31 by decide)
  have C__law_house := C_h.mono (show 7 ≤ 31 by decide)
  have C__law_state := C_st.mono (show 1 ≤ 31 by decide)
  have C__law_changed := C_ch.mono (show 7 ≤ 31 by decide)
  have C__law_wishes := C_wi.mono (show 2 ≤ 31 by decide)
  have C__law_choices := C_cs.mono (show 2 ≤ 31 by decide)
  have C__law_woven := C_lw.mono (show 10 ≤ 31 by decide)
  have C__law_spoilt := C_sp.mono (show 3 ≤ 31 by decide)
  have C__law_shown := C_sh.mono (show 10 ≤ 31 by decide)
  have C_trace_shows := C_ts.mono (show 30 ≤ 31 by decide)
  refine F.ok (k := 31) sc_law (fun vs H Q E h => ?_) (fun cdv A' outer s H vs Q E hr h => ?_)
  · obtain ⟨_, _, rfl, _⟩ := h
    rfl
  obtain ⟨a, cs, rfl, hS, h63, q⟩ := h
  refine ⟨_, (pss_cons (ps_set (i := 1) sc_law.nd rfl (Or.inl rfl) (pe_cal C__law_names (hr.mono (by first | decide | omega)) pass0 (pa_cons (pv 0) pa_nil)))
      (pss_cons (ps_set (i := 2) sc_law.nd rfl (Or.inl rfl) (pe_cal C__law_house (hr.mono (by first | decide | omega)) pass0 (pa_cons (pv 0) (pa_cons (pv 1) (pa_cons pe_bl pa_nil)))))
      (pss_cons (ps_set (i := 3) sc_law.nd rfl (Or.inl rfl) (pe_lstA pa_nil))
      (pss_cons (ps_for PassesOwn.never rfl (pi_range2 rfl T.b_range (pa_cons pe_int (pa_cons (pe_callB (call_max2 rfl) (by rfl) T.b_max (by decide +kernel) (pa_cons pe_int (pa_cons (pe_callB (call_min2 rfl) (by rfl) T.b_min (by decide +kernel) (pa_cons pe_int (pa_cons (pe_callB call_len_seq (by rfl) T.b_len PySem.boot_len (pa_cons (pv 0) pa_nil)) pa_nil))) pa_nil))) pa_nil))) (pg_name (i := 4) sc_law.nd rfl (Or.inl rfl))
        (pss_cons (ps_set (i := 5) sc_law.nd rfl (Or.inl rfl) (pe_cal C__law_state (hr.mono (by first | decide | omega)) pass0 (pa_cons (pv 0) (pa_cons (pv 4) pa_nil))))
      (pss_cons (ps_set (i := 2) sc_law.nd rfl (Or.inl rfl) (pe_cal C__law_changed (hr.mono (by first | decide | omega)) pass0 (pa_cons (pv 2) (pa_cons (pv 1) (pa_cons (pv 5) pa_nil)))))
      (pss_cons (ps_set (i := 6) sc_law.nd rfl (Or.inl rfl) (pe_cal C__law_wishes (hr.mono (by first | decide | omega)) pass0 (pa_cons (pv 5) (pa_cons (pv 1) pa_nil))))
      (pss_cons (ps_set (i := 7) sc_law.nd rfl (Or.inl rfl) (pe_ix (r := rIxT K) ix_tup (pe_cal C__law_woven (hr.mono (by first | decide | omega)) pass0 (pa_cons (pv 2) (pa_cons (pv 6) (pa_cons (pe_cal C__law_choices (hr.mono (by first | decide | omega)) pass0 (pa_cons (pv 5) pa_nil)) pa_nil)))) pe_int (fun _ _ => rfl)))
      (pss_cons (ps_for PassesOwn.never rfl (pi_list (pe_lstA (pa_cons (pv 7) (pa_cons (pv 3) (pa_cons (pe_cal C__law_spoilt (hr.mono (by first | decide | omega)) pass0 (pa_cons (pv 7) (pa_cons (pv 1) (pa_cons (pv 5) pa_nil)))) (pa_cons (pe_cal C__law_spoilt (hr.mono (by first | decide | omega)) pass0 (pa_cons (pv 7) (pa_cons (pv 1) (pa_cons (pv 5) pa_nil)))) (pa_cons (pe_lstA pa_nil) pa_nil))))))) (pg_name (i := 8) sc_law.nd rfl (Or.inl rfl))
        (pss_cons (ps_set (i := 9) sc_law.nd rfl (Or.inl rfl) (pe_lstA (pa_cons (pe_tupA (pa_cons (pe_callTy call_dictDA (by rfl) T.b_dict (by decide +kernel) (pa_cons (pe_ix (r := rIxT K) ix_tup (pv 2) pe_int (fun _ _ => rfl)) pa_nil)) (pa_cons (pe_callTy call_dictDA (by rfl) T.b_dict (by decide +kernel) (pa_cons (pe_ix (r := rIxT K) ix_tup (pv 2) pe_int (fun _ _ => rfl)) pa_nil)) pa_nil))) (pa_cons (pe_callTy call_listA (by rfl) T.b_list (by decide +kernel) (pa_cons (pv 6) pa_nil)) (pa_cons (pe_callTy call_listA (by rfl) T.b_list (by decide +kernel) (pa_cons (pv 8) pa_nil)) pa_nil)))))
      (pss_cons (ps_set (i := 10) sc_law.nd rfl (Or.inl rfl) (pe_cal C_trace_shows (hr.mono (by first | decide | omega)) pass0 (pa_cons (pe_ix (r := rIxL K) ix_list (pv 9) pe_int (fun _ _ => rfl)) (pa_cons (pe_ix (r := rIxL K) ix_list (pv 9) pe_int (fun _ _ => rfl)) (pa_cons (pe_ix (r := rIxL K) ix_list (pv 9) pe_int (fun _ _ => rfl)) pa_nil)))))
      (pss_cons (ps_if (PW.pt (pw_or (pt_not (pt_val (pe_callB call_isi (by rfl) T.b_isinstance (by decide +kernel) (pa_cons (pv 10) (pa_cons (pe_bltn (v := .ty "bool") (by rfl) T.b_bool (by decide +kernel) rfl) pa_nil))))) (pw_or1 (pt_cmpR op_ne (pv 10) (pe_cal C__law_shown (hr.mono (by first | decide | omega)) pass0 (pa_cons (pv 2) (pa_cons (pv 6) (pa_cons (pv 8) pa_nil)))) (nomark _)))))
        (pss_one (ps_ret pe_bl))
        pss_nil)
      (pss_one (ps_if (pt_cmpR (op_neG (hu199 hr)) (pv 9) (pe_lstA (pa_cons (pv 2) (pa_cons (pv 6) (pa_cons (pv 8) pa_nil)))) (nomark _))
        (pss_one (ps_ret pe_bl))
        pss_nil))))))
      (pss_one (ps_set (i := 3) sc_law.nd rfl (Or.inl rfl) (pv 7)))))))))
      (pss_cons (ps_set (i := 11) sc_law.nd rfl (Or.inl rfl) (pe_tupA (pa_cons pe_dnewA (pa_cons pe_dnewA pa_nil))))
      (pss_cons (ps_for PassesOwn.never rfl (pi_list (pe_lstA (pa_cons (pe_tupA (pa_cons pe_str (pa_cons pe_str (pa_cons pe_int pa_nil)))) (pa_cons (pe_tupA (pa_cons (pe_lstA pa_nil) (pa_cons pe_str (pa_cons pe_int pa_nil)))) (pa_cons (pe_tupA (pa_cons pe_dnewA (pa_cons pe_str (pa_cons (pe_lstA pa_nil) pa_nil)))) (pa_cons (pe_tupA (pa_cons pe_int (pa_cons pe_int (pa_cons pe_int pa_nil)))) (pa_cons (pe_lstA pa_nil) pa_nil))))))) (pg_name (i := 12) sc_law.nd rfl (Or.inl rfl))
        (pss_one (ps_if (pt_val (pe_cal C_trace_shows (hr.mono (by first | decide | omega)) pass0 (pa_cons (pv 11) (pa_cons (pe_lstA pa_nil) (pa_cons (pe_lstA (pa_cons (pv 12) pa_nil)) pa_nil)))))
        (pss_one (ps_ret pe_bl))
        pss_nil)))
      (pss_one (ps_ret (pe_cal C_trace_shows (hr.mono (by first | decide | omega)) pass0 (pa_cons (pv 11) (pa_cons (pe_lstA pa_nil) (pa_cons (pe_lstA pa_nil) pa_nil)))))))))))), ?_⟩
  refine ⟨_, rfl, a, cs, rfl, hS, h63, fun L ns H1 s1 nL eL N => ?_⟩
  refine in_name rfl (in_nx (in_seq (in_asg ?_)))
  refine ⟨_, rfl, _, rfl, a, L, cs, ns, rfl, s1.seq hS, h63, eL, N, fun U G R h kvs H2 s2 nU nG nR nGR eU eG eR hK HD => ?_⟩
  have s02 := s1.trans s2
  refine in_name rfl (in_nx (in_seq (in_asg ?_)))
  refine ⟨Nat.zero_le _, fun Lt H3 nLt x3 eLt => ?_⟩
  have x3 : Same H2 H3 := x3
  have s03 := s02.trans x3
  refine in_name rfl ?_
  obtain ⟨mx, ⟨m0, m1⟩, hm⟩ : ∃ mx : Int, (18 ≤ mx ∧ mx ≤ 40) ∧ (if (if (((cs.map V.int).length : Nat) : Int) < 40 then (((cs.map V.int).length : Nat) : Int) else 40) > 18 then (if (((cs.map V.int).length : Nat) : Int) < 40 then (((cs.map V.int).length : Nat) : Int) else 40) else 18) = mx := by
    refine ⟨_, ?_, rfl⟩
    split <;> split at * <;> omega
  refine in_nx ⟨_, rfl, a, _, rfl, .inl (s03.seq hS), _, _, rfl, _, _, rfl, ?_⟩
  refine ⟨_, _, rfl, ⟨by decide, by decide, by rw [hm]; omega, by rw [hm]; omega⟩, ?_⟩
  rw [hm]
  refine for_range (lo := 15) (n := (mx - 15).toNat) (fun k σ X => ∃ (w4 w5 w6 w7 w8 w9 w10 w11 w12 : Option V) (h : House) (U G R Lt : Addr) (kvs : List (Key × V)) (c : Nat) (lth : List Th) (lxs : List V), σ = [some (.ref a), some (.ref L), some (.ref U), some (.ref Lt), w4, w5, w6, w7, w8, w9, w10, w11, w12] ∧ Same H X ∧ X L = some (.lst (txs ns)) ∧ H U = none ∧ X U = some (.tup [.ref G, .ref R]) ∧ X G = some (.dK (numsK h.given)) ∧ X R = some (.dK kvs) ∧ KvR (Rec X) h.recs kvs ∧ HouseD ns c 12 h ∧ c ≤ k ∧ X Lt = some (.lst lxs) ∧ DataL X lth lxs)
    ⟨_, _, _, _, _, _, _, _, _, h, U, G, R, Lt, kvs, 0, [], [], rfl, s03, x3 _ _ (s2 _ _ eL), s1.free nU, x3 _ _ eU, x3 _ _ eG, x3 _ _ eR, hK.imp fun _ _ z => z.same x3, HD, Nat.le_refl _, eLt, rfl⟩ ?_ ?_
  · clear hK HD eU eG eR nU nG nR nGR eLt nLt x3 s03
    rintro k σ X hk ⟨w4, w5, w6, w7, w8, w9, w10, w11, w12, h, U, G, R, Lt, kvs, c, lth, lxs, rfl, sX, eLX, nU, eU, eG, eR, hK, HD, hc, eLt, dLt⟩
    have hk40 : k < 40 := by omega
    refine in_name rfl ?_
    refine ⟨_, rfl, _, rfl, a, cs, 15 + (k : Int), rfl, sX.seq hS, h63, by omega, by omega, fun p r m np => ?_⟩
    have sp := same_new np (.dK (dst r m (15 + (k : Int))))
    have pX : upd X p (.dK (dst r m (15 + (k : Int)))) p = some (.dK (dst r m (15 + (k : Int)))) := upd_same
    have npH : H p = none := sX.free np
    have pf : ∀ {A B : Hp}, Same H A → PF p A B → Same H B := fun sA g b u e => g b u (fun z => by rw [z, npH] at e; cases e) (sA b u e)
    have npL : L ≠ p := fun z => by rw [z, np] at eLX; cases eLX
    have npG : G ≠ p := fun z => by rw [z, np] at eG; cases eG
    have npR : R ≠ p := fun z => by rw [z, np] at eR; cases eR
    have npLt : Lt ≠ p := fun z => by rw [z, np] at eLt; cases eLt
    have eLt1 := sp _ _ eLt
    have dLt1 := DataL.same sp dLt
    generalize upd X p (.dK (dst r m (15 + (k : Int)))) = X1 at sp pX eLt1 dLt1 ⊢
    refine ⟨_, rfl, _, rfl, _, rfl, U, G, R, L, p, ns, c, h, kvs, r, m, 15 + (k : Int), rfl, sp _ _ eU, sp _ _ eG, sp _ _ eR, hK.imp fun _ _ z => z.same sp, sp _ _ eLX, N, HD, pX, by omega, by omega, npG.symm, npR.symm, fun U' G' R' h' kvs' r' q1 Y fY nU' nG' nR' nGR' eU' eG' eR' hK' HD' pY q10 q11 => ?_⟩
    have nn : ∀ {x : Addr}, X1 x = none → x ≠ p := fun {x} e z => by rw [z, pX] at e; cases e
    have npU' := nn nU'
    have npG' := nn nG'
    have npR' := nn nR'
    have sY := pf (sX.trans sp) fY
    have eLY := fY _ _ npL (sp _ _ eLX)
    have eLtY := fY _ _ npLt eLt1
    have dLtY := (pf_frm fY pX pY).2 _ _ dLt1
    have nUH : H U' = none := (sX.trans sp).free nU'
    clear hK HD eU eG eR nU npG npR eLX sp pX eLt dLt eLt1 dLt1
    refine ⟨_, rfl, _, rfl, p, L, ns, r', m, q1, rfl, eLY, N, pY, q10, by omega, fun W ts r2 q2 X2 f2 nW eW inD tl p2 q20 q21 => ?_⟩
    have nWp : W ≠ p := fun z => by rw [z, p2] at eW; cases eW
    refine ⟨_, rfl, _, rfl, _, rfl, p, r2, m, q2, rfl, p2, q20, by omega, fun Cl cs2 r3 q3 X3 f3 nC eC cl p3 q30 q31 => ?_⟩
    have nCp : Cl ≠ p := fun z => by rw [z, p2] at nC; cases nC
    have f23 := f2.trans f3
    have s3 := pf sY f23
    have kp3 : Keep Y X3 := fun b ys e => f23 b _ (fun z => by rw [z, pY] at e; cases e) e
    have eU3 := f23 _ _ npU' eU'
    have eG3 := f23 _ _ npG' eG'
    have eR3 := f23 _ _ npR' eR'
    have hK3 := hK'.imp fun _ _ z => z.keep kp3
    have eL3 := f23 _ _ npL eLY
    have eLt3 := f23 _ _ npLt eLtY
    have dLt3 := (pf_frm f23 pY p3).2 _ _ dLtY
    have eW3 := f3 _ _ nWp eW
    have WV := HouseD.wv N HD' (Nat.le_trans (Nat.succ_le_succ hc) (by omega))
    have hts : ∀ t ∈ ts, t ∈ h'.given.map (·.1) ++ h'.recs.map (·.1) ∧ ns.idxOf t < 1000 := fun t ht => by
      obtain ⟨i, hi, e⟩ := inD t ht
      exact ⟨HD'.all i hi t e, by rw [idx_nd N.nd e]; omega⟩
    have sml := run_small (cs := cs2) WV 1000 _ [] (begW_ok WV ts fun t ht => (hts t ht).2) (fun _ z => nomatch z)
    have rl := run_lenT (h := h') (cs := cs2) 1000 (begW h' ts) []
    have ndG : ((numsK h'.given).map (·.1)).Nodup := kvR_nd (numsR h'.given) (List.nodup_append.mp HD'.nd).1
    have ndR : (kvs'.map (·.1)).Nodup := kvR_nd hK3 (List.nodup_append.mp HD'.nd).2.1
    have flG : ∀ q ∈ numsK h'.given, flatB q.2 = true ∨ ∃ a, q.2 = .ref a := fun q hq => by
      obtain ⟨y, hy⟩ := KvR.mem (numsR h'.given) q hq
      rw [hy]; exact .inl rfl
    have flR : ∀ q ∈ kvs', flatB q.2 = true ∨ ∃ a, q.2 = .ref a := fun q hq => by
      obtain ⟨y, hy⟩ := KvR.mem hK3 q hq
      exact .inr (rec_ref hy)
    have flT : ∀ x ∈ txs ts, flatB x = true ∨ ∃ a, x = .ref a := fun x hx => by
      obtain ⟨t, _, rfl⟩ := txs_mem hx
      exact .inl rfl
    refine ⟨U', W, Cl, h', ts, cs2, _, _, rfl, ⟨G', R', kvs', eU3, eG3, eR3, hK3⟩, SqL.of eW3, SqL.of eC, by omega, WV, hts, fun X4 T0 Tr xs s34 nT nTr eT eTr st => ?_⟩
    refine ⟨T0, _, 0, _, rfl, rfl, SqT.of eT, rfl, in_name rfl ?_⟩
    have s4 := s3.trans s34
    have p4 := s34 _ _ p3
    have nTrp : Tr ≠ p := fun z => by rw [z, p3] at nTr; cases nTr
    have hxl : xs.length ≤ 1000 := by
      rw [st.len]
      exact rl
    have eU4 := s34 _ _ eU3
    have eG4 := s34 _ _ eG3
    have eR4 := s34 _ _ eR3
    have hK4 := hK3.imp fun _ _ z => z.same s34
    have eL4 := s34 _ _ eL3
    have eLt4 := s34 _ _ eLt3
    have dLt4 := DataL.same s34 dLt3
    have eW4 := s34 _ _ eW3
    have dTr := steps_dataL st
    clear eU3 eG3 eR3 hK3 eL3 eLt3 dLt3 eW3 dLtY eLtY eU' eG' eR' hK' eLY kp3 eC eW f2 f3 f23 fY pY s3 sY p2 p3 s34
    refine in_nx (in_seq ?_)
    refine ⟨_, rfl, _, rfl, _, rfl, _, rfl, _, rfl, Tr, L, p, _, xs, ns, r3, m, q3, rfl, eTr, st, sml, hxl, eL4, N.len, p4, q30, by omega, fun S1 ys1 th1 r5 q5 X5 f5 nS1 eS1 dS1 p5 q50 q51 => ?_⟩
    have kp5 := f5.keep p4
    have nS1p : S1 ≠ p := fun z => by rw [z, p4] at nS1; cases nS1
    refine ⟨_, rfl, _, rfl, _, rfl, Tr, L, p, _, xs, ns, r5, m, q5, rfl, f5 _ _ nTrp eTr, st.keep kp5, sml, hxl, f5 _ _ npL eL4, N.len, p5, q50, by omega, fun S2 ys2 th2 r6 q6 X6 f6 nS2 eS2 dS2 p6 q60 q61 => ?_⟩
    refine ⟨Nat.zero_le _, fun E5 X7 nE5 x7 eE5 => ?_⟩
    have x7 : Same X6 X7 := x7
    refine ⟨le_line (Nat.le_of_ble_eq_true rfl), fun Ls X8 nLs x8 eLs => ?_⟩
    have x8 : Same X7 X8 := x8
    have f48 : PF p X4 X8 := (f5.trans f6).trans (PF.of (x7.trans x8))
    have x68 := x7.trans x8
    have p8 := x68 _ _ p6
    have s8 : Same H X8 := pf s4 f48
    have dd := (pf_frm f48 p4 p8).2
    have eTr8 := f48 _ _ nTrp eTr
    have ents : ∀ x ∈ ([.ref Tr, .ref Lt, .ref S1, .ref S2, .ref E5] : List V), ∃ S ys ths, x = .ref S ∧ X8 S = some (.lst ys) ∧ DataL X8 ths ys := fun x hx => by
      simp only [List.mem_cons, List.not_mem_nil, or_false] at hx
      rcases hx with rfl | rfl | rfl | rfl | rfl
      · exact ⟨Tr, xs, _, rfl, eTr8, dd _ _ dTr⟩
      · exact ⟨Lt, lxs, _, rfl, f48 _ _ npLt eLt4, dd _ _ dLt4⟩
      · exact ⟨S1, ys1, th1, rfl, x68 _ _ (f6 _ _ nS1p eS1), ((pf_frm f6 p5 p6).2 _ _ dS1).same x68⟩
      · exact ⟨S2, ys2, th2, rfl, x68 _ _ eS2, dS2.same x68⟩
      · exact ⟨E5, [], [], rfl, x8 _ _ eE5, rfl⟩
    have eU8 := f48 _ _ npU' eU4
    have eG8 := f48 _ _ npG' eG4
    have eR8 := f48 _ _ npR' eR4
    have hK8 := hK4.imp fun _ _ z => z.keep (f48.keep p4)
    have eW8 := f48 _ _ nWp eW4
    have eL8 := f48 _ _ npL eL4
    refine ⟨Ls, rfl, ⟨_, SqL.of eLs⟩, for_list (xs := [.ref Tr, .ref Lt, .ref S1, .ref S2, .ref E5]) (fun j σ Y => ∃ (w8 w9 w10 : Option V), σ = [some (.ref a), some (.ref L), some (.ref U'), some (.ref Lt), some (.int (15 + (k : Int))), some (.ref p), some (.ref W), some (.ref Tr), w8, w9, w10, w11, w12] ∧ Same X8 Y) ⟨_, _, _, rfl, fun _ _ e => e⟩ (fun j σ Y _ ⟨_, _, _, _, e⟩ => SqL.of (e _ _ eLs)) ?_ ?_⟩
    · rintro j x σ Y hx ⟨w8, w9, w10, rfl, sY⟩
      obtain ⟨S, ys, ths, rfl, eS, dS⟩ := ents x (List.mem_of_getElem? hx)
      have s8Y := s8.trans sY
      refine in_name rfl ?_
      have eUY := sY _ _ eU8
      refine ⟨_, rfl, U', _, 0, _, rfl, rfl, SqT.of eUY, rfl, G', _, rfl, .inl (sY _ _ eG8), fun G2 Y1 nG2 y1' eG2 => ?_⟩
      have y1 : Same Y Y1 := y1'
      refine ⟨_, rfl, U', _, 1, _, rfl, rfl, SqT.of (y1 _ _ eUY), rfl, R', _, rfl, .inl (y1 _ _ (sY _ _ eR8)), fun R2 Y2 nR2 y2' eR2 => ⟨le_line (Nat.le_of_ble_eq_true rfl), fun U2 Y3 nU2 y3' eU2 => ?_⟩⟩
      have y2 : Same Y1 Y2 := y2'
      have y3 : Same Y2 Y3 := y3'
      have y03 := (y1.trans y2).trans y3
      refine ⟨_, rfl, W, _, rfl, .inl (SqL.of ((sY.trans y03) _ _ eW8)), fun W2 Y4 nW2 y4' eW2 => ?_⟩
      have y4 : Same Y3 Y4 := y4'
      refine ⟨_, rfl, S, _, rfl, .inl (SqL.of ((sY.trans (y03.trans y4)) _ _ eS)), fun C2 Y5 nC2 y5' eC2 => ⟨le_line (Nat.le_of_ble_eq_true rfl), fun Hd Y6 nHd y6' eHd => ?_⟩⟩
      have y5 : Same Y4 Y5 := y5'
      have y6 : Same Y5 Y6 := y6'
      have y06 := ((y03.trans y4).trans y5).trans y6
      have eU26 := (((y4.trans y5).trans y6)) _ _ eU2
      have eG26 := ((((y2.trans y3).trans y4).trans y5).trans y6) _ _ eG2
      have eR26 := (((y3.trans y4).trans y5).trans y6) _ _ eR2
      have eW26 := (y5.trans y6) _ _ eW2
      have eC26 := y6 _ _ eC2
      have s86 := sY.trans y06
      have hK6 := hK8.imp fun _ _ z => z.same s86
      refine in_name rfl ?_
      refine ⟨_, rfl, Hd, _, 0, _, rfl, rfl, SqL.of eHd, rfl, _, rfl, Hd, _, 1, _, rfl, rfl, SqL.of eHd, rfl, _, rfl, Hd, _, 2, _, rfl, rfl, SqL.of eHd, rfl, U2, W2, C2, h', ts, ths, ys, _, _, rfl, ⟨G2, R2, kvs', eU26, eG26, eR26, hK6⟩, SqL.of eW26, eC26, dS.same s86, WV, hts, fun Y7 y67 => ?_⟩
      have s87 := s86.trans y67
      refine in_name rfl ?_
      refine ⟨_, rfl, _, _, .type "bool", _, true, rfl, .ty _, .base (.bl _), kit_ty (by decide +kernel), _, rfl, not_true_eq rfl ?_⟩
      refine ⟨_, rfl, _, rfl, _, rfl, _, rfl, U', W, S, h', ts, ths, ys, _, _, rfl, ⟨G', R', kvs', s87 _ _ eU8, s87 _ _ eG8, s87 _ _ eR8, hK8.imp fun _ _ z => z.same s87⟩, SqL.of (s87 _ _ eW8), s87 _ _ eS, dS.same s87, WV, hts, fun Y8 y78 => ?_⟩
      refine ⟨rfl, _, rfl, not_true_eq (decide_eq_true rfl) ?_⟩
      have s88 := s87.trans y78
      refine ⟨_, rfl, _, rfl, _, rfl, _, rfl, le_line (Nat.le_of_ble_eq_true rfl), fun E Y9 nE y9' eE => ?_⟩
      have y9 : Same Y8 Y9 := y9'
      have s89 := s88.trans y9
      have y69 := y67.trans (y78.trans y9)
      have flS : ∀ x ∈ ys, flatB x = true ∨ ∃ a, x = .ref a := fun x hx => by
        obtain ⟨t, dt⟩ := dS.mem x hx
        exact anyV_flat dt.anyV
      refine ⟨.inl ⟨Hd, E, _, _, rfl, rfl, SqL.of (y69 _ _ eHd), SqL.of eE, .cons (.inr (.inr (.inr (.inr (.inl ⟨U2, U', _, _, rfl, rfl, SqT.of (y69 _ _ eU26), SqT.of (s89 _ _ eU8), .cons (dk_same (n := 77) (y69 _ _ eG26) (s89 _ _ eG8) ndG flG) (.cons (dk_same (n := 77) (y69 _ _ eR26) (s89 _ _ eR8) ndR flR) .nil)⟩))))) (.cons (lst_same (n := 78) (SqL.of (y69 _ _ eW26)) (SqL.of (s89 _ _ eW8)) flT) (.cons (lst_same (n := 78) (SqL.of (y69 _ _ eC26)) (SqL.of (s89 _ _ eS)) flS) .nil))⟩, _, rfl, iteF ?_⟩
      exact ⟨_, _, _, rfl, s89⟩
    · rintro σ Y ⟨w8, w9, w10, rfl, sY⟩
      refine in_nx (in_asg ⟨_, rfl, in_name rfl ?_⟩)
      exact ⟨_, _, _, _, _, _, _, _, _, h', U', G', R', Tr, kvs', c + 1, _, xs, rfl, s8.trans sY, sY _ _ eL8, nUH, sY _ _ eU8, sY _ _ eG8, sY _ _ eR8, hK8.imp fun _ _ z => z.same sY, HD', by omega, sY _ _ eTr8, (dd _ _ dTr).same sY⟩
  · rintro σ X ⟨w4, w5, w6, w7, w8, w9, w10, w11, w12, h, U, G, R, Lt, kvs, c, lth, lxs, rfl, sX, eLX, nU, eU, eG, eR, hK, HD, hc, eLt, dLt⟩
    clear hK HD eU eG eR nU eLt dLt
    refine in_nx (in_seq (in_asg ?_))
    refine fun D1 Y1 n1 y1 e1 => ?_
    have y1 : Same X Y1 := y1
    refine fun D2 Y2 n2 y2 e2 => ?_
    have y2 : Same Y1 Y2 := y2
    refine ⟨le_line (Nat.le_of_ble_eq_true rfl), fun Em Y3 n3 y3 e3 => ?_⟩
    have y3 : Same Y2 Y3 := y3
    refine in_name rfl ?_
    have eD1 := y3 _ _ (y2 _ _ e1)
    have eD2 := y3 _ _ e2
    have hE : ∀ {Z : Hp}, Same Y3 Z → HsAt K Z Em ⟨[], []⟩ := fun s => ⟨D1, D2, [], s _ _ e3, s _ _ eD1, s _ _ eD2, trivial⟩
    refine in_nx (in_seq ?_)
    refine ⟨le_line (Nat.le_of_ble_eq_true rfl), fun T1 Z1 m1 z1 f1 => ?_⟩
    have z1 : Same Y3 Z1 := z1
    refine ⟨Nat.zero_le _, fun A2 Z2 m2 z2 f2 => ⟨le_line (Nat.le_of_ble_eq_true rfl), fun T2 Z3 m3 z3 f3 => ?_⟩⟩
    have z2 : Same Z1 Z2 := z2
    have z3 : Same Z2 Z3 := z3
    refine fun A3 Z4 m4 z4 f4 => ⟨Nat.zero_le _, fun A4 Z5 m5 z5 f5 => ⟨le_line (Nat.le_of_ble_eq_true rfl), fun T3 Z6 m6 z6 f6 => ?_⟩⟩
    have z4 : Same Z3 Z4 := z4
    have z5 : Same Z4 Z5 := z5
    have z6 : Same Z5 Z6 := z6
    refine ⟨le_line (Nat.le_of_ble_eq_true rfl), fun T4 Z7 m7 z7 f7 => ⟨Nat.zero_le _, fun A5 Z8 m8 z8 f8 => ⟨le_line (Nat.le_of_ble_eq_true rfl), fun Ls Z9 m9 z9 f9 => ?_⟩⟩⟩
    have z7 : Same Z6 Z7 := z7
    have z8 : Same Z7 Z8 := z8
    have z9 : Same Z8 Z9 := z9
    have z39 := z1.trans (z2.trans (z3.trans (z4.trans (z5.trans (z6.trans (z7.trans (z8.trans z9)))))))
    obtain ⟨sa, hsa⟩ := str_is "a"
    have ents : ∀ x ∈ ([.ref T1, .ref T2, .ref T3, .ref T4, .ref A5] : List V), ∃ t, Data Z9 t x := fun x hx => by
      simp only [List.mem_cons, List.not_mem_nil, or_false] at hx
      rcases hx with rfl | rfl | rfl | rfl | rfl
      · exact ⟨.tup [.str sa, .str w_known, .int 1], _, _, rfl, (z2.trans (z3.trans (z4.trans (z5.trans (z6.trans (z7.trans (z8.trans z9))))))) _ _ f1, _, _, rfl, congrArg V.str hsa, _, _, rfl, congrArg V.str q_known, _, _, rfl, rfl, rfl⟩
      · exact ⟨.tup [.lst [], .str w_known, .int 1], _, _, rfl, (z4.trans (z5.trans (z6.trans (z7.trans (z8.trans z9))))) _ _ f3, _, _, rfl, ⟨_, _, rfl, (z3.trans (z4.trans (z5.trans (z6.trans (z7.trans (z8.trans z9)))))) _ _ f2, rfl⟩, _, _, rfl, congrArg V.str q_known, _, _, rfl, rfl, rfl⟩
      · exact ⟨.tup [.dct, .str w_waits, .lst []], _, _, rfl, (z7.trans (z8.trans z9)) _ _ f6, _, _, rfl, ⟨_, _, rfl, (z5.trans (z6.trans (z7.trans (z8.trans z9)))) _ _ f4⟩, _, _, rfl, congrArg V.str q_waits, _, _, rfl, ⟨_, _, rfl, (z6.trans (z7.trans (z8.trans z9))) _ _ f5, rfl⟩, rfl⟩
      · exact ⟨.tup [.int 1, .int 2, .int 3], _, _, rfl, (z8.trans z9) _ _ f7, _, _, rfl, rfl, _, _, rfl, rfl, _, _, rfl, rfl, rfl⟩
      · exact ⟨.lst [], _, _, rfl, z9 _ _ f8, rfl⟩
    have nowish : ∀ t ∈ ([] : List (List Nat)), t ∈ ([] : List Pr).map (·.1) ++ ([] : List RcpNm).map (·.1) ∧ (fun _ : List Nat => 0) t < 1000 := fun _ h => nomatch h
    refine ⟨Ls, rfl, ⟨_, SqL.of f9⟩, for_list (xs := [.ref T1, .ref T2, .ref T3, .ref T4, .ref A5]) (fun j σ Y => ∃ (v12 : Option V), σ = [some (.ref a), some (.ref L), some (.ref U), some (.ref Lt), w4, w5, w6, w7, w8, w9, w10, some (.ref Em), v12] ∧ Same Z9 Y) ⟨_, rfl, fun _ _ e => e⟩ (fun j σ Y _ ⟨_, _, e⟩ => SqL.of (e _ _ f9)) ?_ ?_⟩
    · rintro j x σ Y hx ⟨v12, rfl, sY⟩
      obtain ⟨t, dt⟩ := ents x (List.mem_of_getElem? hx)
      refine in_name rfl ?_
      refine ⟨_, rfl, Nat.zero_le _, fun B1 Y4 n4 y4 e4 => ?_⟩
      have y4 : Same Y Y4 := y4
      refine ⟨_, rfl, le_line (Nat.le_of_ble_eq_true rfl), fun B2 Y5 n5 y5 e5 => ?_⟩
      have y5 : Same Y4 Y5 := y5
      have s5 := sY.trans (y4.trans y5)
      refine ⟨Em, B1, B2, ⟨[], []⟩, [], [t], [x], _, _, rfl, hE (z39.trans s5), SqL.of (y5 _ _ e4), e5, ⟨x, [], rfl, dt.same s5, rfl⟩, empty_wv, nowish, fun Y6 y6 => ?_⟩
      rw [shows_idle rfl]
      exact ⟨_, rfl, iteF ⟨_, rfl, s5.trans y6⟩⟩
    · rintro σ Y ⟨v12, rfl, sY⟩
      refine in_nx ?_
      refine ⟨_, rfl, Nat.zero_le _, fun B1 Y4 n4 y4 e4 => ?_⟩
      have y4 : Same Y Y4 := y4
      refine ⟨Nat.zero_le _, fun B2 Y5 n5 y5 e5 => ?_⟩
      have y5 : Same Y4 Y5 := y5
      have s5 := sY.trans (y4.trans y5)
      exact ⟨Em, B1, B2, ⟨[], []⟩, [], [], [], _, _, rfl, hE (z39.trans s5), SqL.of (y5 _ _ e4), e5, rfl, empty_wv, nowish, fun Y6 y6 => q _⟩
end
/-- the class of an own error stands as it is laid: seen in the written part -/
def oexB (K : PySem.W.Frag) (C : Addr) : Bool := match K.lookup C with
  | none => false
  | some o => match o.data with
    | .cls cd => decide (o.cls = .type "type") && (decide (o.slots.size = 6) && (decide (o.slots[4]? = some (some (.builtin "ValueError.__new__"))) && (cd.hasDict && (!cd.hasDel && (match cd.mro with
      | a :: bm => decide (a = .ref C) && PySem.HandSPX.refsVE bm
      | [] => false)))))
    | _ => false
def OexL (K : PySem.W.Frag) (C : Addr) : Prop := ∃ nm q N bs bm sn sub ab col dd k0 k1 k2 k3 k5, K.lookup C = some (excClassObj nm q C N bs bm true sn sub ab col dd k0 k1 k2 k3 k5 "ValueError.__new__") ∧ PySem.HandSPX.refsVE bm = true
theorem oexB_ok {K : PySem.W.Frag} {C : Addr} (h : oexB K C = true) : OexL K C := by
  unfold oexB at h
  cases e : K.lookup C with
  | none => rw [e] at h; cases h
  | some o =>
    rw [e] at h
    obtain ⟨ocl, odd, odt, ⟨osl⟩⟩ := o
    cases odt with
    | cls cd =>
      obtain ⟨nm, bs, mro, ns, qn, hd, sn, sub, ab, col, del⟩ := cd
      simp only [Bool.and_eq_true, decide_eq_true_eq, Bool.not_eq_true'] at h
      obtain ⟨h1, h2, h3, h4, h5, h6⟩ := h
      subst h1 h4 h5
      cases mro with
      | nil => cases h6
      | cons a bm =>
        simp only [Bool.and_eq_true, decide_eq_true_eq] at h6
        obtain ⟨rfl, h7⟩ := h6
        match osl, h2, h3 with
        | [k0, k1, k2, k3, k4, k5], _, h3 =>
          have h8 : k4 = some (.builtin "ValueError.__new__") := by simpa using h3
          subst h8
          exact ⟨nm, qn, ns, bs, bm, sn, sub, ab, col, odd, k0, k1, k2, k3, k5, e, h7⟩
    | _ => cases h
theorem all_mk {l : PySem.W.OpenLaw} {w : World} {K : PySem.W.Frag} {h : Heap} {mg : Str → Option Value} {fa f_behind f__law_state f__law_draw f__law_names f__law_number f__law_product f__law_recipe f__law_house f__law_changed f__law_wishes f__law_reckoned f__law_begun f__law_ready f__law_step f__law_over f__law_woven f__law_choices f__law_shown f__law_turned f__law_spoilt f_begun_weaving f_step_done f_is_step f_trace_shows f_law : Addr} (X : K.In h) (G : h.Ns mainGlobals mg) (hfa : mg "law" = some (.ref fa))
    {od_behind an_behind od__law_state an__law_state od__law_draw an__law_draw od__law_names an__law_names od__law_number an__law_number od__law_product an__law_product od__law_recipe an__law_recipe od__law_house an__law_house od__law_changed an__law_changed od__law_wishes an__law_wishes od__law_reckoned an__law_reckoned od__law_begun an__law_begun od__law_ready an__law_ready od__law_step an__law_step od__law_over an__law_over od__law_woven an__law_woven od__law_choices an__law_choices od__law_shown an__law_shown od__law_turned an__law_turned od__law_spoilt an__law_spoilt od_begun_weaving an_begun_weaving od_step_done an_step_done od_is_step an_is_step od_trace_shows an_trace_shows od_law an_law : Option Addr} {sl_behind sl__law_state sl__law_draw sl__law_names sl__law_number sl__law_product sl__law_recipe sl__law_house sl__law_changed sl__law_wishes sl__law_reckoned sl__law_begun sl__law_ready sl__law_step sl__law_over sl__law_woven sl__law_choices sl__law_shown sl__law_turned sl__law_spoilt sl_begun_weaving sl_step_done sl_is_step sl_trace_shows sl_law : Array (Option Value)} {oc_behind kV_behind dc_behind pm_behind cd_behind ct_behind oc__law_state kV__law_state dc__law_state pm__law_state cd__law_state ct__law_state oc__law_draw kV__law_draw dc__law_draw pm__law_draw cd__law_draw ct__law_draw oc__law_names kV__law_names dc__law_names pm__law_names cd__law_names ct__law_names oc__law_number kV__law_number dc__law_number pm__law_number cd__law_number ct__law_number oc__law_product kV__law_product dc__law_product pm__law_product cd__law_product ct__law_product oc__law_recipe kV__law_recipe dc__law_recipe pm__law_recipe cd__law_recipe ct__law_recipe oc__law_house kV__law_house dc__law_house pm__law_house cd__law_house ct__law_house oc__law_changed kV__law_changed dc__law_changed pm__law_changed cd__law_changed ct__law_changed oc__law_wishes kV__law_wishes dc__law_wishes pm__law_wishes cd__law_wishes ct__law_wishes oc__law_reckoned kV__law_reckoned dc__law_reckoned pm__law_reckoned cd__law_reckoned ct__law_reckoned oc__law_begun kV__law_begun dc__law_begun pm__law_begun cd__law_begun ct__law_begun oc__law_ready kV__law_ready dc__law_ready pm__law_ready cd__law_ready ct__law_ready oc__law_step kV__law_step dc__law_step pm__law_step cd__law_step ct__law_step oc__law_over kV__law_over dc__law_over pm__law_over cd__law_over ct__law_over oc__law_woven kV__law_woven dc__law_woven pm__law_woven cd__law_woven ct__law_woven oc__law_choices kV__law_choices dc__law_choices pm__law_choices cd__law_choices ct__law_choices oc__law_shown kV__law_shown dc__law_shown pm__law_shown cd__law_shown ct__law_shown oc__law_turned kV__law_turned dc__law_turned pm__law_turned cd__law_turned ct__law_turned oc__law_spoilt kV__law_spoilt dc__law_spoilt pm__law_spoilt cd__law_spoilt ct__law_spoilt oc_begun_weaving kV_begun_weaving dc_begun_weaving pm_begun_weaving cd_begun_weaving ct_begun_weaving oc_step_done kV_step_done dc_step_done pm_step_done cd_step_done ct_step_done oc_is_step kV_is_step dc_is_step pm_is_step cd_is_step ct_is_step oc_trace_shows kV_trace_shows dc_trace_shows pm_trace_shows cd_trace_shows ct_trace_shows oc_law kV_law dc_law pm_law cd_law ct_law : Value}
    (a_behind : PySem.W.nsIn K mainGlobals "behind" = some (some (.ref f_behind))) (l_behind : K.lookup f_behind = some ⟨oc_behind, od_behind, .func (PySem.W.fnOf "behind" "behind" (defArgs s_behind) (defBody s_behind) (defScope s_behind) .none kV_behind dc_behind pm_behind an_behind cd_behind ct_behind), sl_behind⟩) (c_behind : PySem.W.codeIn K cd_behind "behind" = true) (k_behind : PySem.W.keepIn K (.ref f_behind) = true)
    (a__law_state : PySem.W.nsIn K mainGlobals "_law_state" = some (some (.ref f__law_state))) (l__law_state : K.lookup f__law_state = some ⟨oc__law_state, od__law_state, .func (PySem.W.fnOf "_law_state" "_law_state" (defArgs s__law_state) (defBody s__law_state) (defScope s__law_state) .none kV__law_state dc__law_state pm__law_state an__law_state cd__law_state ct__law_state), sl__law_state⟩) (c__law_state : PySem.W.codeIn K cd__law_state "_law_state" = true) (k__law_state : PySem.W.keepIn K (.ref f__law_state) = true)
    (a__law_draw : PySem.W.nsIn K mainGlobals "_law_draw" = some (some (.ref f__law_draw))) (l__law_draw : K.lookup f__law_draw = some ⟨oc__law_draw, od__law_draw, .func (PySem.W.fnOf "_law_draw" "_law_draw" (defArgs s__law_draw) (defBody s__law_draw) (defScope s__law_draw) .none kV__law_draw dc__law_draw pm__law_draw an__law_draw cd__law_draw ct__law_draw), sl__law_draw⟩) (c__law_draw : PySem.W.codeIn K cd__law_draw "_law_draw" = true) (k__law_draw : PySem.W.keepIn K (.ref f__law_draw) = true)
    (a__law_names : PySem.W.nsIn K mainGlobals "_law_names" = some (some (.ref f__law_names))) (l__law_names : K.lookup f__law_names = some ⟨oc__law_names, od__law_names, .func (PySem.W.fnOf "_law_names" "_law_names" (defArgs s__law_names) (defBody s__law_names) (defScope s__law_names) .none kV__law_names dc__law_names pm__law_names an__law_names cd__law_names ct__law_names), sl__law_names⟩) (c__law_names : PySem.W.codeIn K cd__law_names "_law_names" = true) (k__law_names : PySem.W.keepIn K (.ref f__law_names) = true)
    (a__law_number : PySem.W.nsIn K mainGlobals "_law_number" = some (some (.ref f__law_number))) (l__law_number : K.lookup f__law_number = some ⟨oc__law_number, od__law_number, .func (PySem.W.fnOf "_law_number" "_law_number" (defArgs s__law_number) (defBody s__law_number) (defScope s__law_number) .none kV__law_number dc__law_number pm__law_number an__law_number cd__law_number ct__law_number), sl__law_number⟩) (c__law_number : PySem.W.codeIn K cd__law_number "_law_number" = true) (k__law_number : PySem.W.keepIn K (.ref f__law_number) = true)
    (a__law_product : PySem.W.nsIn K mainGlobals "_law_product" = some (some (.ref f__law_product))) (l__law_product : K.lookup f__law_product = some ⟨oc__law_product, od__law_product, .func (PySem.W.fnOf "_law_product" "_law_product" (defArgs s__law_product) (defBody s__law_product) (defScope s__law_product) .none kV__law_product dc__law_product pm__law_product an__law_product cd__law_product ct__law_product), sl__law_product⟩) (c__law_product : PySem.W.codeIn K cd__law_product "_law_product" = true) (k__law_product : PySem.W.keepIn K (.ref f__law_product) = true)
    (a__law_recipe : PySem.W.nsIn K mainGlobals "_law_recipe" = some (some (.ref f__law_recipe))) (l__law_recipe : K.lookup f__law_recipe = some ⟨oc__law_recipe, od__law_recipe, .func (PySem.W.fnOf "_law_recipe" "_law_recipe" (defArgs s__law_recipe) (defBody s__law_recipe) (defScope s__law_recipe) .none kV__law_recipe dc__law_recipe pm__law_recipe an__law_recipe cd__law_recipe ct__law_recipe), sl__law_recipe⟩) (c__law_recipe : PySem.W.codeIn K cd__law_recipe "_law_recipe" = true) (k__law_recipe : PySem.W.keepIn K (.ref f__law_recipe) = true)
    (a__law_house : PySem.W.nsIn K mainGlobals "_law_house" = some (some (.ref f__law_house))) (l__law_house : K.lookup f__law_house = some ⟨oc__law_house, od__law_house, .func (PySem.W.fnOf "_law_house" "_law_house" (defArgs s__law_house) (defBody s__law_house) (defScope s__law_house) .none kV__law_house dc__law_house pm__law_house an__law_house cd__law_house ct__law_house), sl__law_house⟩) (c__law_house : PySem.W.codeIn K cd__law_house "_law_house" = true) (k__law_house : PySem.W.keepIn K (.ref f__law_house) = true)
    (a__law_changed : PySem.W.nsIn K mainGlobals "_law_changed" = some (some (.ref f__law_changed))) (l__law_changed : K.lookup f__law_changed = some ⟨oc__law_changed, od__law_changed, .func (PySem.W.fnOf "_law_changed" "_law_changed" (defArgs s__law_changed) (defBody s__law_changed) (defScope s__law_changed) .none kV__law_changed dc__law_changed pm__law_changed an__law_changed cd__law_changed ct__law_changed), sl__law_changed⟩) (c__law_changed : PySem.W.codeIn K cd__law_changed "_law_changed" = true) (k__law_changed : PySem.W.keepIn K (.ref f__law_changed) = true)
    (a__law_wishes : PySem.W.nsIn K mainGlobals "_law_wishes" = some (some (.ref f__law_wishes))) (l__law_wishes : K.lookup f__law_wishes = some ⟨oc__law_wishes, od__law_wishes, .func (PySem.W.fnOf "_law_wishes" "_law_wishes" (defArgs s__law_wishes) (defBody s__law_wishes) (defScope s__law_wishes) .none kV__law_wishes dc__law_wishes pm__law_wishes an__law_wishes cd__law_wishes ct__law_wishes), sl__law_wishes⟩) (c__law_wishes : PySem.W.codeIn K cd__law_wishes "_law_wishes" = true) (k__law_wishes : PySem.W.keepIn K (.ref f__law_wishes) = true)
    (a__law_reckoned : PySem.W.nsIn K mainGlobals "_law_reckoned" = some (some (.ref f__law_reckoned))) (l__law_reckoned : K.lookup f__law_reckoned = some ⟨oc__law_reckoned, od__law_reckoned, .func (PySem.W.fnOf "_law_reckoned" "_law_reckoned" (defArgs s__law_reckoned) (defBody s__law_reckoned) (defScope s__law_reckoned) .none kV__law_reckoned dc__law_reckoned pm__law_reckoned an__law_reckoned cd__law_reckoned ct__law_reckoned), sl__law_reckoned⟩) (c__law_reckoned : PySem.W.codeIn K cd__law_reckoned "_law_reckoned" = true) (k__law_reckoned : PySem.W.keepIn K (.ref f__law_reckoned) = true)
    (a__law_begun : PySem.W.nsIn K mainGlobals "_law_begun" = some (some (.ref f__law_begun))) (l__law_begun : K.lookup f__law_begun = some ⟨oc__law_begun, od__law_begun, .func (PySem.W.fnOf "_law_begun" "_law_begun" (defArgs s__law_begun) (defBody s__law_begun) (defScope s__law_begun) .none kV__law_begun dc__law_begun pm__law_begun an__law_begun cd__law_begun ct__law_begun), sl__law_begun⟩) (c__law_begun : PySem.W.codeIn K cd__law_begun "_law_begun" = true) (k__law_begun : PySem.W.keepIn K (.ref f__law_begun) = true)
    (a__law_ready : PySem.W.nsIn K mainGlobals "_law_ready" = some (some (.ref f__law_ready))) (l__law_ready : K.lookup f__law_ready = some ⟨oc__law_ready, od__law_ready, .func (PySem.W.fnOf "_law_ready" "_law_ready" (defArgs s__law_ready) (defBody s__law_ready) (defScope s__law_ready) .none kV__law_ready dc__law_ready pm__law_ready an__law_ready cd__law_ready ct__law_ready), sl__law_ready⟩) (c__law_ready : PySem.W.codeIn K cd__law_ready "_law_ready" = true) (k__law_ready : PySem.W.keepIn K (.ref f__law_ready) = true)
    (a__law_step : PySem.W.nsIn K mainGlobals "_law_step" = some (some (.ref f__law_step))) (l__law_step : K.lookup f__law_step = some ⟨oc__law_step, od__law_step, .func (PySem.W.fnOf "_law_step" "_law_step" (defArgs s__law_step) (defBody s__law_step) (defScope s__law_step) .none kV__law_step dc__law_step pm__law_step an__law_step cd__law_step ct__law_step), sl__law_step⟩) (c__law_step : PySem.W.codeIn K cd__law_step "_law_step" = true) (k__law_step : PySem.W.keepIn K (.ref f__law_step) = true)
    (a__law_over : PySem.W.nsIn K mainGlobals "_law_over" = some (some (.ref f__law_over))) (l__law_over : K.lookup f__law_over = some ⟨oc__law_over, od__law_over, .func (PySem.W.fnOf "_law_over" "_law_over" (defArgs s__law_over) (defBody s__law_over) (defScope s__law_over) .none kV__law_over dc__law_over pm__law_over an__law_over cd__law_over ct__law_over), sl__law_over⟩) (c__law_over : PySem.W.codeIn K cd__law_over "_law_over" = true) (k__law_over : PySem.W.keepIn K (.ref f__law_over) = true)
    (a__law_woven : PySem.W.nsIn K mainGlobals "_law_woven" = some (some (.ref f__law_woven))) (l__law_woven : K.lookup f__law_woven = some ⟨oc__law_woven, od__law_woven, .func (PySem.W.fnOf "_law_woven" "_law_woven" (defArgs s__law_woven) (defBody s__law_woven) (defScope s__law_woven) .none kV__law_woven dc__law_woven pm__law_woven an__law_woven cd__law_woven ct__law_woven), sl__law_woven⟩) (c__law_woven : PySem.W.codeIn K cd__law_woven "_law_woven" = true) (k__law_woven : PySem.W.keepIn K (.ref f__law_woven) = true)
    (a__law_choices : PySem.W.nsIn K mainGlobals "_law_choices" = some (some (.ref f__law_choices))) (l__law_choices : K.lookup f__law_choices = some ⟨oc__law_choices, od__law_choices, .func (PySem.W.fnOf "_law_choices" "_law_choices" (defArgs s__law_choices) (defBody s__law_choices) (defScope s__law_choices) .none kV__law_choices dc__law_choices pm__law_choices an__law_choices cd__law_choices ct__law_choices), sl__law_choices⟩) (c__law_choices : PySem.W.codeIn K cd__law_choices "_law_choices" = true) (k__law_choices : PySem.W.keepIn K (.ref f__law_choices) = true)
    (a__law_shown : PySem.W.nsIn K mainGlobals "_law_shown" = some (some (.ref f__law_shown))) (l__law_shown : K.lookup f__law_shown = some ⟨oc__law_shown, od__law_shown, .func (PySem.W.fnOf "_law_shown" "_law_shown" (defArgs s__law_shown) (defBody s__law_shown) (defScope s__law_shown) .none kV__law_shown dc__law_shown pm__law_shown an__law_shown cd__law_shown ct__law_shown), sl__law_shown⟩) (c__law_shown : PySem.W.codeIn K cd__law_shown "_law_shown" = true) (k__law_shown : PySem.W.keepIn K (.ref f__law_shown) = true)
    (a__law_turned : PySem.W.nsIn K mainGlobals "_law_turned" = some (some (.ref f__law_turned))) (l__law_turned : K.lookup f__law_turned = some ⟨oc__law_turned, od__law_turned, .func (PySem.W.fnOf "_law_turned" "_law_turned" (defArgs s__law_turned) (defBody s__law_turned) (defScope s__law_turned) .none kV__law_turned dc__law_turned pm__law_turned an__law_turned cd__law_turned ct__law_turned), sl__law_turned⟩) (c__law_turned : PySem.W.codeIn K cd__law_turned "_law_turned" = true) (k__law_turned : PySem.W.keepIn K (.ref f__law_turned) = true)
    (a__law_spoilt : PySem.W.nsIn K mainGlobals "_law_spoilt" = some (some (.ref f__law_spoilt))) (l__law_spoilt : K.lookup f__law_spoilt = some ⟨oc__law_spoilt, od__law_spoilt, .func (PySem.W.fnOf "_law_spoilt" "_law_spoilt" (defArgs s__law_spoilt) (defBody s__law_spoilt) (defScope s__law_spoilt) .none kV__law_spoilt dc__law_spoilt pm__law_spoilt an__law_spoilt cd__law_spoilt ct__law_spoilt), sl__law_spoilt⟩) (c__law_spoilt : PySem.W.codeIn K cd__law_spoilt "_law_spoilt" = true) (k__law_spoilt : PySem.W.keepIn K (.ref f__law_spoilt) = true)
    (a_begun_weaving : PySem.W.nsIn K mainGlobals "begun_weaving" = some (some (.ref f_begun_weaving))) (l_begun_weaving : K.lookup f_begun_weaving = some ⟨oc_begun_weaving, od_begun_weaving, .func (PySem.W.fnOf "begun_weaving" "begun_weaving" (defArgs s_begun_weaving) (defBody s_begun_weaving) (defScope s_begun_weaving) .none kV_begun_weaving dc_begun_weaving pm_begun_weaving an_begun_weaving cd_begun_weaving ct_begun_weaving), sl_begun_weaving⟩) (c_begun_weaving : PySem.W.codeIn K cd_begun_weaving "begun_weaving" = true) (k_begun_weaving : PySem.W.keepIn K (.ref f_begun_weaving) = true)
    (a_step_done : PySem.W.nsIn K mainGlobals "step_done" = some (some (.ref f_step_done))) (l_step_done : K.lookup f_step_done = some ⟨oc_step_done, od_step_done, .func (PySem.W.fnOf "step_done" "step_done" (defArgs s_step_done) (defBody s_step_done) (defScope s_step_done) .none kV_step_done dc_step_done pm_step_done an_step_done cd_step_done ct_step_done), sl_step_done⟩) (c_step_done : PySem.W.codeIn K cd_step_done "step_done" = true) (k_step_done : PySem.W.keepIn K (.ref f_step_done) = true)
    (a_is_step : PySem.W.nsIn K mainGlobals "is_step" = some (some (.ref f_is_step))) (l_is_step : K.lookup f_is_step = some ⟨oc_is_step, od_is_step, .func (PySem.W.fnOf "is_step" "is_step" (defArgs s_is_step) (defBody s_is_step) (defScope s_is_step) .none kV_is_step dc_is_step pm_is_step an_is_step cd_is_step ct_is_step), sl_is_step⟩) (c_is_step : PySem.W.codeIn K cd_is_step "is_step" = true) (k_is_step : PySem.W.keepIn K (.ref f_is_step) = true)
    (a_trace_shows : PySem.W.nsIn K mainGlobals "trace_shows" = some (some (.ref f_trace_shows))) (l_trace_shows : K.lookup f_trace_shows = some ⟨oc_trace_shows, od_trace_shows, .func (PySem.W.fnOf "trace_shows" "trace_shows" (defArgs s_trace_shows) (defBody s_trace_shows) (defScope s_trace_shows) .none kV_trace_shows dc_trace_shows pm_trace_shows an_trace_shows cd_trace_shows ct_trace_shows), sl_trace_shows⟩) (c_trace_shows : PySem.W.codeIn K cd_trace_shows "trace_shows" = true) (k_trace_shows : PySem.W.keepIn K (.ref f_trace_shows) = true)
    (a_law : PySem.W.nsIn K mainGlobals "law" = some (some (.ref f_law))) (l_law : K.lookup f_law = some ⟨oc_law, od_law, .func (PySem.W.fnOf "law" "law" (defArgs s_law) (defBody s_law) (defScope s_law) .none kV_law dc_law pm_law an_law cd_law ct_law), sl_law⟩) (c_law : PySem.W.codeIn K cd_law "law" = true) (k_law : PySem.W.keepIn K (.ref f_law) = true)
    (z_len : PySem.W.nsIn K mainGlobals "len" = some none)
    (z_list : PySem.W.nsIn K mainGlobals "list" = some none)
    (z_range : PySem.W.nsIn K mainGlobals "range" = some none)
    (z_tuple : PySem.W.nsIn K mainGlobals "tuple" = some none)
    (z_str : PySem.W.nsIn K mainGlobals "str" = some none)
    (z_int : PySem.W.nsIn K mainGlobals "int" = some none)
    (z_isinstance : PySem.W.nsIn K mainGlobals "isinstance" = some none)
    (z_bool : PySem.W.nsIn K mainGlobals "bool" = some none)
    (z_sum : PySem.W.nsIn K mainGlobals "sum" = some none)
    (z_dict : PySem.W.nsIn K mainGlobals "dict" = some none)
    (z_sorted : PySem.W.nsIn K mainGlobals "sorted" = some none)
    (z_zip : PySem.W.nsIn K mainGlobals "zip" = some none)
    (z_enumerate : PySem.W.nsIn K mainGlobals "enumerate" = some none)
    (z_min : PySem.W.nsIn K mainGlobals "min" = some none)
    (z_max : PySem.W.nsIn K mainGlobals "max" = some none)
    (z_set : PySem.W.nsIn K mainGlobals "set" = some none)
    (z_ValueError : PySem.W.nsIn K mainGlobals "ValueError" = some none)
    {C_Weaving : Addr}
    {f_Weaving___init__ f_Weaving_begin f_Weaving_is_over f_Weaving_ready f_Weaving_go_on : Addr}
    {od_Weaving___init__ an_Weaving___init__ od_Weaving_begin an_Weaving_begin od_Weaving_is_over an_Weaving_is_over od_Weaving_ready an_Weaving_ready od_Weaving_go_on an_Weaving_go_on : Option Addr}
    {sl_Weaving___init__ sl_Weaving_begin sl_Weaving_is_over sl_Weaving_ready sl_Weaving_go_on : Array (Option Value)}
    {oc_Weaving___init__ kV_Weaving___init__ dc_Weaving___init__ pm_Weaving___init__ cd_Weaving___init__ ct_Weaving___init__ oc_Weaving_begin kV_Weaving_begin dc_Weaving_begin pm_Weaving_begin cd_Weaving_begin ct_Weaving_begin oc_Weaving_is_over kV_Weaving_is_over dc_Weaving_is_over pm_Weaving_is_over cd_Weaving_is_over ct_Weaving_is_over oc_Weaving_ready kV_Weaving_ready dc_Weaving_ready pm_Weaving_ready cd_Weaving_ready ct_Weaving_ready oc_Weaving_go_on kV_Weaving_go_on dc_Weaving_go_on pm_Weaving_go_on cd_Weaving_go_on ct_Weaving_go_on : Value}
    (a_Weaving : PySem.W.nsIn K mainGlobals "Weaving" = some (some (.ref C_Weaving)))
    (a_Weaving___init__ : PySem.W.findIn K (.ref C_Weaving) "__init__" = some (some (.ref f_Weaving___init__)))
    (i_Weaving___init__ : PySem.W.isFn K (.ref f_Weaving___init__) = true)
    (l_Weaving___init__ : K.lookup f_Weaving___init__ = some ⟨oc_Weaving___init__, od_Weaving___init__, .func (PySem.W.fnOf "__init__" "Weaving.__init__" (defArgs s_Weaving___init__) (defBody s_Weaving___init__) (defScope s_Weaving___init__) .none kV_Weaving___init__ dc_Weaving___init__ pm_Weaving___init__ an_Weaving___init__ cd_Weaving___init__ ct_Weaving___init__), sl_Weaving___init__⟩)
    (c_Weaving___init__ : PySem.W.codeIn K cd_Weaving___init__ "Weaving.__init__" = true)
    (k_Weaving___init__ : PySem.W.keepIn K (.ref f_Weaving___init__) = true)
    (a_Weaving_begin : PySem.W.findIn K (.ref C_Weaving) "begin" = some (some (.ref f_Weaving_begin)))
    (i_Weaving_begin : PySem.W.isFn K (.ref f_Weaving_begin) = true)
    (l_Weaving_begin : K.lookup f_Weaving_begin = some ⟨oc_Weaving_begin, od_Weaving_begin, .func (PySem.W.fnOf "begin" "Weaving.begin" (defArgs s_Weaving_begin) (defBody s_Weaving_begin) (defScope s_Weaving_begin) .none kV_Weaving_begin dc_Weaving_begin pm_Weaving_begin an_Weaving_begin cd_Weaving_begin ct_Weaving_begin), sl_Weaving_begin⟩)
    (c_Weaving_begin : PySem.W.codeIn K cd_Weaving_begin "Weaving.begin" = true)
    (k_Weaving_begin : PySem.W.keepIn K (.ref f_Weaving_begin) = true)
    (a_Weaving_is_over : PySem.W.findIn K (.ref C_Weaving) "is_over" = some (some (.ref f_Weaving_is_over)))
    (i_Weaving_is_over : PySem.W.isFn K (.ref f_Weaving_is_over) = true)
    (l_Weaving_is_over : K.lookup f_Weaving_is_over = some ⟨oc_Weaving_is_over, od_Weaving_is_over, .func (PySem.W.fnOf "is_over" "Weaving.is_over" (defArgs s_Weaving_is_over) (defBody s_Weaving_is_over) (defScope s_Weaving_is_over) .none kV_Weaving_is_over dc_Weaving_is_over pm_Weaving_is_over an_Weaving_is_over cd_Weaving_is_over ct_Weaving_is_over), sl_Weaving_is_over⟩)
    (c_Weaving_is_over : PySem.W.codeIn K cd_Weaving_is_over "Weaving.is_over" = true)
    (k_Weaving_is_over : PySem.W.keepIn K (.ref f_Weaving_is_over) = true)
    (a_Weaving_ready : PySem.W.findIn K (.ref C_Weaving) "ready" = some (some (.ref f_Weaving_ready)))
    (i_Weaving_ready : PySem.W.isFn K (.ref f_Weaving_ready) = true)
    (l_Weaving_ready : K.lookup f_Weaving_ready = some ⟨oc_Weaving_ready, od_Weaving_ready, .func (PySem.W.fnOf "ready" "Weaving.ready" (defArgs s_Weaving_ready) (defBody s_Weaving_ready) (defScope s_Weaving_ready) .none kV_Weaving_ready dc_Weaving_ready pm_Weaving_ready an_Weaving_ready cd_Weaving_ready ct_Weaving_ready), sl_Weaving_ready⟩)
    (c_Weaving_ready : PySem.W.codeIn K cd_Weaving_ready "Weaving.ready" = true)
    (k_Weaving_ready : PySem.W.keepIn K (.ref f_Weaving_ready) = true)
    (a_Weaving_go_on : PySem.W.findIn K (.ref C_Weaving) "go_on" = some (some (.ref f_Weaving_go_on)))
    (i_Weaving_go_on : PySem.W.isFn K (.ref f_Weaving_go_on) = true)
    (l_Weaving_go_on : K.lookup f_Weaving_go_on = some ⟨oc_Weaving_go_on, od_Weaving_go_on, .func (PySem.W.fnOf "go_on" "Weaving.go_on" (defArgs s_Weaving_go_on) (defBody s_Weaving_go_on) (defScope s_Weaving_go_on) .none kV_Weaving_go_on dc_Weaving_go_on pm_Weaving_go_on an_Weaving_go_on cd_Weaving_go_on ct_Weaving_go_on), sl_Weaving_go_on⟩)
    (c_Weaving_go_on : PySem.W.codeIn K cd_Weaving_go_on "Weaving.go_on" = true)
    (k_Weaving_go_on : PySem.W.keepIn K (.ref f_Weaving_go_on) = true)
    (pg_Weaving : PySem.W.plainGet K C_Weaving Str.empty = true)
    (hd_Weaving : PySem.W.hasDictIn K C_Weaving = true)
    (po_Weaving : PySem.W.plainOver K C_Weaving = true)
    (sa_Weaving : PySem.W.findIn K (.ref C_Weaving) "__setattr__" = some (some (.builtin "object.__setattr__")))
    (mk_Weaving : PySem.W.makesIn K C_Weaving = true)
    (k_Weaving : PySem.W.keepIn K (.ref C_Weaving) = true)
    (n_Weaving_given : PySem.W.findIn K (.ref C_Weaving) "given" = some none)
    (n_Weaving_recipes : PySem.W.findIn K (.ref C_Weaving) "recipes" = some none)
    (n_Weaving_worths : PySem.W.findIn K (.ref C_Weaving) "worths" = some none)
    (n_Weaving_begun : PySem.W.findIn K (.ref C_Weaving) "begun" = some none)
    (n_Weaving_waits : PySem.W.findIn K (.ref C_Weaving) "waits" = some none)
    {C_MadeError C_NoName : Addr}
    (a_MadeError : PySem.W.nsIn K mainGlobals "MadeError" = some (some (.ref C_MadeError)))
    (a_NoName : PySem.W.nsIn K mainGlobals "NoName" = some (some (.ref C_NoName)))
    (d_MadeError : PySem.W.hasDictIn K C_MadeError = true)
    (d_NoName : PySem.W.hasDictIn K C_NoName = true)
    (y_MadeError : PySem.W.typeIn K (.ref C_MadeError) = some (.type "type"))
    (y_NoName : PySem.W.typeIn K (.ref C_NoName) = some (.type "type"))
    (b_MadeError : PySem.W.subIn K (.ref C_MadeError) (.type "BaseException") = some true)
    (q_hn : PySem.W.specialIn K (.builtin "object.__class__") "__get__" = some (some (.builtin "getset_descriptor.__get__")))
    (q_ht : PySem.W.takesIn K (.builtin "object.__class__") = some true)
    (uNoName_MadeError : PySem.W.subIn K (.ref C_NoName) (.ref C_MadeError) = some true)
    (uNoName_ValueError : PySem.W.subIn K (.ref C_NoName) (.type "ValueError") = some true)
    (b_NoName : PySem.W.subIn K (.ref C_NoName) (.type "BaseException") = some true)
    (hgNoName : PySem.W.findIn K (.ref C_NoName) "__getattribute__" = some (some (.builtin "BaseException.__getattribute__")))
    (hkNoName : PySem.W.findIn K (.ref C_NoName) "__getattr__" = some none)
    (haNoName : PySem.W.findIn K (.ref C_NoName) "__class__" = some (some (.builtin "object.__class__")))
    (hmNoName : PySem.W.mroIn K C_NoName (.type "object") = some true)
    (x_NoName : oexB K C_NoName = true)
    (sa_NoName : PySem.W.findIn K (.ref C_NoName) "__setattr__" = some (some (.builtin "object.__setattr__")))
    (k_NoName : PySem.W.keepIn K (.ref C_NoName) = true)
    {f_NoName___init__ : Addr} {od_NoName_i an_NoName_i : Option Addr} {sl_NoName_i : Array (Option Value)} {oc_NoName_i kV_NoName_i dc_NoName_i pm_NoName_i cd_NoName_i ct_NoName_i : Value}
    (i_NoName : PySem.W.findIn K (.ref C_NoName) "__init__" = some (some (.ref f_NoName___init__)))
    (t_NoName : PySem.W.typeIn K (.ref f_NoName___init__) = some (.type "function"))
    (n_NoName : PySem.W.findIn K (.ref C_NoName) "name" = some none)
    (l_NoName_i : K.lookup f_NoName___init__ = some ⟨oc_NoName_i, od_NoName_i, .func (PySem.W.fnOf "__init__" "NoName.__init__" (defArgs s_NoName___init__) (defBody s_NoName___init__) (defScope s_NoName___init__) .none kV_NoName_i dc_NoName_i pm_NoName_i an_NoName_i cd_NoName_i ct_NoName_i), sl_NoName_i⟩)
    (c_NoName_i : PySem.W.codeIn K cd_NoName_i "NoName.__init__" = true)
    (k_NoName_i : PySem.W.keepIn K (.ref f_NoName___init__) = true)
    {C_Going : Addr}
    {f_Going___init__ f_Going_look f_Going_two f_Going_worth : Addr}
    {od_Going___init__ an_Going___init__ od_Going_look an_Going_look od_Going_two an_Going_two od_Going_worth an_Going_worth : Option Addr}
    {sl_Going___init__ sl_Going_look sl_Going_two sl_Going_worth : Array (Option Value)}
    {oc_Going___init__ kV_Going___init__ dc_Going___init__ pm_Going___init__ cd_Going___init__ ct_Going___init__ oc_Going_look kV_Going_look dc_Going_look pm_Going_look cd_Going_look ct_Going_look oc_Going_two kV_Going_two dc_Going_two pm_Going_two cd_Going_two ct_Going_two oc_Going_worth kV_Going_worth dc_Going_worth pm_Going_worth cd_Going_worth ct_Going_worth : Value}
    (a_Going : PySem.W.nsIn K mainGlobals "Going" = some (some (.ref C_Going)))
    (a_Going___init__ : PySem.W.findIn K (.ref C_Going) "__init__" = some (some (.ref f_Going___init__)))
    (i_Going___init__ : PySem.W.isFn K (.ref f_Going___init__) = true)
    (l_Going___init__ : K.lookup f_Going___init__ = some ⟨oc_Going___init__, od_Going___init__, .func (PySem.W.fnOf "__init__" "Going.__init__" (defArgs s_Going___init__) (defBody s_Going___init__) (defScope s_Going___init__) .none kV_Going___init__ dc_Going___init__ pm_Going___init__ an_Going___init__ cd_Going___init__ ct_Going___init__), sl_Going___init__⟩)
    (c_Going___init__ : PySem.W.codeIn K cd_Going___init__ "Going.__init__" = true)
    (k_Going___init__ : PySem.W.keepIn K (.ref f_Going___init__) = true)
    (a_Going_look : PySem.W.findIn K (.ref C_Going) "look" = some (some (.ref f_Going_look)))
    (i_Going_look : PySem.W.isFn K (.ref f_Going_look) = true)
    (l_Going_look : K.lookup f_Going_look = some ⟨oc_Going_look, od_Going_look, .func (PySem.W.fnOf "look" "Going.look" (defArgs s_Going_look) (defBody s_Going_look) (defScope s_Going_look) .none kV_Going_look dc_Going_look pm_Going_look an_Going_look cd_Going_look ct_Going_look), sl_Going_look⟩)
    (c_Going_look : PySem.W.codeIn K cd_Going_look "Going.look" = true)
    (k_Going_look : PySem.W.keepIn K (.ref f_Going_look) = true)
    (a_Going_two : PySem.W.findIn K (.ref C_Going) "two" = some (some (.ref f_Going_two)))
    (i_Going_two : PySem.W.isFn K (.ref f_Going_two) = true)
    (l_Going_two : K.lookup f_Going_two = some ⟨oc_Going_two, od_Going_two, .func (PySem.W.fnOf "two" "Going.two" (defArgs s_Going_two) (defBody s_Going_two) (defScope s_Going_two) .none kV_Going_two dc_Going_two pm_Going_two an_Going_two cd_Going_two ct_Going_two), sl_Going_two⟩)
    (c_Going_two : PySem.W.codeIn K cd_Going_two "Going.two" = true)
    (k_Going_two : PySem.W.keepIn K (.ref f_Going_two) = true)
    (a_Going_worth : PySem.W.findIn K (.ref C_Going) "worth" = some (some (.ref f_Going_worth)))
    (i_Going_worth : PySem.W.isFn K (.ref f_Going_worth) = true)
    (l_Going_worth : K.lookup f_Going_worth = some ⟨oc_Going_worth, od_Going_worth, .func (PySem.W.fnOf "worth" "Going.worth" (defArgs s_Going_worth) (defBody s_Going_worth) (defScope s_Going_worth) .none kV_Going_worth dc_Going_worth pm_Going_worth an_Going_worth cd_Going_worth ct_Going_worth), sl_Going_worth⟩)
    (c_Going_worth : PySem.W.codeIn K cd_Going_worth "Going.worth" = true)
    (k_Going_worth : PySem.W.keepIn K (.ref f_Going_worth) = true)
    (pg_Going : PySem.W.plainGet K C_Going Str.empty = true)
    (hd_Going : PySem.W.hasDictIn K C_Going = true)
    (po_Going : PySem.W.plainOver K C_Going = true)
    (sa_Going : PySem.W.findIn K (.ref C_Going) "__setattr__" = some (some (.builtin "object.__setattr__")))
    (mk_Going : PySem.W.makesIn K C_Going = true)
    (k_Going : PySem.W.keepIn K (.ref C_Going) = true)
    (n_Going_reads : PySem.W.findIn K (.ref C_Going) "reads" = some none)
    (n_Going_had : PySem.W.findIn K (.ref C_Going) "had" = some none)
    (n_Going_lacking : PySem.W.findIn K (.ref C_Going) "lacking" = some none)
    {C_NoRead : Addr}
    (a_NoRead : PySem.W.nsIn K mainGlobals "NoRead" = some (some (.ref C_NoRead)))
    (x_NoRead : PySem.W.excIn K C_NoRead [.type "ValueError", .type "Exception", .type "BaseException", .type "object"] "ValueError.__new__" = true)
    (k_NoRead : PySem.W.keepIn K (.ref C_NoRead) = true)
    (b_NoRead : PySem.W.subIn K (.ref C_NoRead) (.type "BaseException") = some true)
    (t_NoRead : PySem.W.typeIn K (.ref C_NoRead) = some (.type "type"))
    {tkWa tkKn : Tok}
    (r_WAITS : PySem.W.nsIn K mainGlobals "WAITS" = some (some (.str "waits" tkWa)))
    (r_KNOWN : PySem.W.nsIn K mainGlobals "KNOWN" = some (some (.str "known" tkKn)))
    : ∃ fd : FuncData, (∀ (s : Shared) (v : Value), BindsTo s fd ⟨[v], []⟩ [("script", v)]) ∧ ∀ base : Heap, K.In base → base.Ns mainGlobals mg → FnOk l.prog w K mg base CX0 32 fa fd ["script"] (spLaw K) := by
  have e := hfa.symm.trans (PySem.W.mg_of X G a_law)
  cases e
  have F_behind := fun_mk (st := s_behind) l_behind c_behind k_behind
  have D_behind : IsDef K mg "behind" s_behind ["r", "reads"] := ⟨f_behind, _, F_behind, PySem.W.mg_of X G a_behind, F_behind.binds (ps := ["r", "reads"]) fun _ _ _ _ _ _ us hl => match us, hl with | [_, _], _ => rfl⟩
  have F__law_state := fun_mk (st := s__law_state) l__law_state c__law_state k__law_state
  have D__law_state : IsDef K mg "_law_state" s__law_state ["script", "k"] := ⟨f__law_state, _, F__law_state, PySem.W.mg_of X G a__law_state, F__law_state.binds (ps := ["script", "k"]) fun _ _ _ _ _ _ us hl => match us, hl with | [_, _], _ => rfl⟩
  have F__law_draw := fun_mk (st := s__law_draw) l__law_draw c__law_draw k__law_draw
  have D__law_draw : IsDef K mg "_law_draw" s__law_draw ["state", "many"] := ⟨f__law_draw, _, F__law_draw, PySem.W.mg_of X G a__law_draw, F__law_draw.binds (ps := ["state", "many"]) fun _ _ _ _ _ _ us hl => match us, hl with | [_, _], _ => rfl⟩
  have F__law_names := fun_mk (st := s__law_names) l__law_names c__law_names k__law_names
  have D__law_names : IsDef K mg "_law_names" s__law_names ["script"] := ⟨f__law_names, _, F__law_names, PySem.W.mg_of X G a__law_names, F__law_names.binds (ps := ["script"]) fun _ _ _ _ _ _ us hl => match us, hl with | [_], _ => rfl⟩
  have F__law_number := fun_mk (st := s__law_number) l__law_number c__law_number k__law_number
  have D__law_number : IsDef K mg "_law_number" s__law_number ["state"] := ⟨f__law_number, _, F__law_number, PySem.W.mg_of X G a__law_number, F__law_number.binds (ps := ["state"]) fun _ _ _ _ _ _ us hl => match us, hl with | [_], _ => rfl⟩
  have F__law_product := fun_mk (st := s__law_product) l__law_product c__law_product k__law_product
  have D__law_product : IsDef K mg "_law_product" s__law_product ["state", "one", "other"] := ⟨f__law_product, _, F__law_product, PySem.W.mg_of X G a__law_product, F__law_product.binds (ps := ["state", "one", "other"]) fun _ _ _ _ _ _ us hl => match us, hl with | [_, _, _], _ => rfl⟩
  have F__law_recipe := fun_mk (st := s__law_recipe) l__law_recipe c__law_recipe k__law_recipe
  have D__law_recipe : IsDef K mg "_law_recipe" s__law_recipe ["state", "pool", "depth"] := ⟨f__law_recipe, _, F__law_recipe, PySem.W.mg_of X G a__law_recipe, F__law_recipe.binds (ps := ["state", "pool", "depth"]) fun _ _ _ _ _ _ us hl => match us, hl with | [_, _, _], _ => rfl⟩
  have F__law_house := fun_mk (st := s__law_house) l__law_house c__law_house k__law_house
  have D__law_house : IsDef K mg "_law_house" s__law_house ["script", "names", "loose"] := ⟨f__law_house, _, F__law_house, PySem.W.mg_of X G a__law_house, F__law_house.binds (ps := ["script", "names", "loose"]) fun _ _ _ _ _ _ us hl => match us, hl with | [_, _, _], _ => rfl⟩
  have F__law_changed := fun_mk (st := s__law_changed) l__law_changed c__law_changed k__law_changed
  have D__law_changed : IsDef K mg "_law_changed" s__law_changed ["house", "names", "state"] := ⟨f__law_changed, _, F__law_changed, PySem.W.mg_of X G a__law_changed, F__law_changed.binds (ps := ["house", "names", "state"]) fun _ _ _ _ _ _ us hl => match us, hl with | [_, _, _], _ => rfl⟩
  have F__law_wishes := fun_mk (st := s__law_wishes) l__law_wishes c__law_wishes k__law_wishes
  have D__law_wishes : IsDef K mg "_law_wishes" s__law_wishes ["state", "names"] := ⟨f__law_wishes, _, F__law_wishes, PySem.W.mg_of X G a__law_wishes, F__law_wishes.binds (ps := ["state", "names"]) fun _ _ _ _ _ _ us hl => match us, hl with | [_, _], _ => rfl⟩
  have F__law_reckoned := fun_mk (st := s__law_reckoned) l__law_reckoned c__law_reckoned k__law_reckoned
  have D__law_reckoned : IsDef K mg "_law_reckoned" s__law_reckoned ["recipe", "known"] := ⟨f__law_reckoned, _, F__law_reckoned, PySem.W.mg_of X G a__law_reckoned, F__law_reckoned.binds (ps := ["recipe", "known"]) fun _ _ _ _ _ _ us hl => match us, hl with | [_, _], _ => rfl⟩
  have F__law_begun := fun_mk (st := s__law_begun) l__law_begun c__law_begun k__law_begun
  have D__law_begun : IsDef K mg "_law_begun" s__law_begun ["house", "wishes"] := ⟨f__law_begun, _, F__law_begun, PySem.W.mg_of X G a__law_begun, F__law_begun.binds (ps := ["house", "wishes"]) fun _ _ _ _ _ _ us hl => match us, hl with | [_, _], _ => rfl⟩
  have F__law_ready := fun_mk (st := s__law_ready) l__law_ready c__law_ready k__law_ready
  have D__law_ready : IsDef K mg "_law_ready" s__law_ready ["so"] := ⟨f__law_ready, _, F__law_ready, PySem.W.mg_of X G a__law_ready, F__law_ready.binds (ps := ["so"]) fun _ _ _ _ _ _ us hl => match us, hl with | [_], _ => rfl⟩
  have F__law_step := fun_mk (st := s__law_step) l__law_step c__law_step k__law_step
  have D__law_step : IsDef K mg "_law_step" s__law_step ["house", "so", "name"] := ⟨f__law_step, _, F__law_step, PySem.W.mg_of X G a__law_step, F__law_step.binds (ps := ["house", "so", "name"]) fun _ _ _ _ _ _ us hl => match us, hl with | [_, _, _], _ => rfl⟩
  have F__law_over := fun_mk (st := s__law_over) l__law_over c__law_over k__law_over
  have D__law_over : IsDef K mg "_law_over" s__law_over ["so"] := ⟨f__law_over, _, F__law_over, PySem.W.mg_of X G a__law_over, F__law_over.binds (ps := ["so"]) fun _ _ _ _ _ _ us hl => match us, hl with | [_], _ => rfl⟩
  have F__law_woven := fun_mk (st := s__law_woven) l__law_woven c__law_woven k__law_woven
  have D__law_woven : IsDef K mg "_law_woven" s__law_woven ["house", "wishes", "choices"] := ⟨f__law_woven, _, F__law_woven, PySem.W.mg_of X G a__law_woven, F__law_woven.binds (ps := ["house", "wishes", "choices"]) fun _ _ _ _ _ _ us hl => match us, hl with | [_, _, _], _ => rfl⟩
  have F__law_choices := fun_mk (st := s__law_choices) l__law_choices c__law_choices k__law_choices
  have D__law_choices : IsDef K mg "_law_choices" s__law_choices ["state"] := ⟨f__law_choices, _, F__law_choices, PySem.W.mg_of X G a__law_choices, F__law_choices.binds (ps := ["state"]) fun _ _ _ _ _ _ us hl => match us, hl with | [_], _ => rfl⟩
  have F__law_shown := fun_mk (st := s__law_shown) l__law_shown c__law_shown k__law_shown
  have D__law_shown : IsDef K mg "_law_shown" s__law_shown ["house", "wishes", "trace"] := ⟨f__law_shown, _, F__law_shown, PySem.W.mg_of X G a__law_shown, F__law_shown.binds (ps := ["house", "wishes", "trace"]) fun _ _ _ _ _ _ us hl => match us, hl with | [_, _, _], _ => rfl⟩
  have F__law_turned := fun_mk (st := s__law_turned) l__law_turned c__law_turned k__law_turned
  have D__law_turned : IsDef K mg "_law_turned" s__law_turned ["step", "names", "state"] := ⟨f__law_turned, _, F__law_turned, PySem.W.mg_of X G a__law_turned, F__law_turned.binds (ps := ["step", "names", "state"]) fun _ _ _ _ _ _ us hl => match us, hl with | [_, _, _], _ => rfl⟩
  have F__law_spoilt := fun_mk (st := s__law_spoilt) l__law_spoilt c__law_spoilt k__law_spoilt
  have D__law_spoilt : IsDef K mg "_law_spoilt" s__law_spoilt ["trace", "names", "state"] := ⟨f__law_spoilt, _, F__law_spoilt, PySem.W.mg_of X G a__law_spoilt, F__law_spoilt.binds (ps := ["trace", "names", "state"]) fun _ _ _ _ _ _ us hl => match us, hl with | [_, _, _], _ => rfl⟩
  have F_begun_weaving := fun_mk (st := s_begun_weaving) l_begun_weaving c_begun_weaving k_begun_weaving
  have D_begun_weaving : IsDef K mg "begun_weaving" s_begun_weaving ["house", "wishes"] := ⟨f_begun_weaving, _, F_begun_weaving, PySem.W.mg_of X G a_begun_weaving, F_begun_weaving.binds (ps := ["house", "wishes"]) fun _ _ _ _ _ _ us hl => match us, hl with | [_, _], _ => rfl⟩
  have F_step_done := fun_mk (st := s_step_done) l_step_done c_step_done k_step_done
  have D_step_done : IsDef K mg "step_done" s_step_done ["weaving", "name"] := ⟨f_step_done, _, F_step_done, PySem.W.mg_of X G a_step_done, F_step_done.binds (ps := ["weaving", "name"]) fun _ _ _ _ _ _ us hl => match us, hl with | [_, _], _ => rfl⟩
  have F_is_step := fun_mk (st := s_is_step) l_is_step c_is_step k_is_step
  have D_is_step : IsDef K mg "is_step" s_is_step ["thing"] := ⟨f_is_step, _, F_is_step, PySem.W.mg_of X G a_is_step, F_is_step.binds (ps := ["thing"]) fun _ _ _ _ _ _ us hl => match us, hl with | [_], _ => rfl⟩
  have F_trace_shows := fun_mk (st := s_trace_shows) l_trace_shows c_trace_shows k_trace_shows
  have D_trace_shows : IsDef K mg "trace_shows" s_trace_shows ["house", "wishes", "trace"] := ⟨f_trace_shows, _, F_trace_shows, PySem.W.mg_of X G a_trace_shows, F_trace_shows.binds (ps := ["house", "wishes", "trace"]) fun _ _ _ _ _ _ us hl => match us, hl with | [_, _, _], _ => rfl⟩
  have F_law := fun_mk (st := s_law) l_law c_law k_law
  have m_len := PySem.W.mg_none_of X G z_len
  have m_list := PySem.W.mg_none_of X G z_list
  have m_range := PySem.W.mg_none_of X G z_range
  have m_tuple := PySem.W.mg_none_of X G z_tuple
  have m_str := PySem.W.mg_none_of X G z_str
  have m_int := PySem.W.mg_none_of X G z_int
  have m_isinstance := PySem.W.mg_none_of X G z_isinstance
  have m_bool := PySem.W.mg_none_of X G z_bool
  have m_sum := PySem.W.mg_none_of X G z_sum
  have m_dict := PySem.W.mg_none_of X G z_dict
  have m_sorted := PySem.W.mg_none_of X G z_sorted
  have m_zip := PySem.W.mg_none_of X G z_zip
  have m_enumerate := PySem.W.mg_none_of X G z_enumerate
  have m_min := PySem.W.mg_none_of X G z_min
  have m_max := PySem.W.mg_none_of X G z_max
  have m_set := PySem.W.mg_none_of X G z_set
  have m_ValueError := PySem.W.mg_none_of X G z_ValueError
  have T : Txt K mg := ⟨m_len, m_list, m_range, m_tuple, m_str, m_int, m_isinstance, m_bool, m_sum, m_dict, m_sorted, m_zip, m_enumerate, m_min, m_max, m_set, m_ValueError⟩
  have F_Weaving___init__ := fun_mk (st := s_Weaving___init__) l_Weaving___init__ c_Weaving___init__ k_Weaving___init__
  have B_Weaving___init__ := F_Weaving___init__.binds (ps := ["self", "house", "wishes"]) fun _ _ _ _ _ _ us hl => match us, hl with | [_, _, _], _ => rfl
  have F_Weaving_begin := fun_mk (st := s_Weaving_begin) l_Weaving_begin c_Weaving_begin k_Weaving_begin
  have B_Weaving_begin := F_Weaving_begin.binds (ps := ["self", "name"]) fun _ _ _ _ _ _ us hl => match us, hl with | [_, _], _ => rfl
  have M_Weaving_begin : IsMet K C_Weaving "begin" "Weaving.begin" s_Weaving_begin ["self", "name"] := ⟨f_Weaving_begin, _, F_Weaving_begin, ⟨a_Weaving_begin, i_Weaving_begin, k_Weaving_begin⟩, B_Weaving_begin⟩
  have F_Weaving_is_over := fun_mk (st := s_Weaving_is_over) l_Weaving_is_over c_Weaving_is_over k_Weaving_is_over
  have B_Weaving_is_over := F_Weaving_is_over.binds (ps := ["self"]) fun _ _ _ _ _ _ us hl => match us, hl with | [_], _ => rfl
  have M_Weaving_is_over : IsMet K C_Weaving "is_over" "Weaving.is_over" s_Weaving_is_over ["self"] := ⟨f_Weaving_is_over, _, F_Weaving_is_over, ⟨a_Weaving_is_over, i_Weaving_is_over, k_Weaving_is_over⟩, B_Weaving_is_over⟩
  have F_Weaving_ready := fun_mk (st := s_Weaving_ready) l_Weaving_ready c_Weaving_ready k_Weaving_ready
  have B_Weaving_ready := F_Weaving_ready.binds (ps := ["self"]) fun _ _ _ _ _ _ us hl => match us, hl with | [_], _ => rfl
  have M_Weaving_ready : IsMet K C_Weaving "ready" "Weaving.ready" s_Weaving_ready ["self"] := ⟨f_Weaving_ready, _, F_Weaving_ready, ⟨a_Weaving_ready, i_Weaving_ready, k_Weaving_ready⟩, B_Weaving_ready⟩
  have F_Weaving_go_on := fun_mk (st := s_Weaving_go_on) l_Weaving_go_on c_Weaving_go_on k_Weaving_go_on
  have B_Weaving_go_on := F_Weaving_go_on.binds (ps := ["self", "name"]) fun _ _ _ _ _ _ us hl => match us, hl with | [_, _], _ => rfl
  have M_Weaving_go_on : IsMet K C_Weaving "go_on" "Weaving.go_on" s_Weaving_go_on ["self", "name"] := ⟨f_Weaving_go_on, _, F_Weaving_go_on, ⟨a_Weaving_go_on, i_Weaving_go_on, k_Weaving_go_on⟩, B_Weaving_go_on⟩
  have ZWv : WeT K mg C_Weaving f_Weaving___init__ := ⟨⟨pg_Weaving, hd_Weaving, po_Weaving, sa_Weaving⟩, n_Weaving_given, n_Weaving_recipes, n_Weaving_worths, n_Weaving_begun, n_Weaving_waits, PySem.W.mg_of X G a_Weaving, ⟨mk_Weaving, a_Weaving___init__, i_Weaving___init__, k_Weaving⟩⟩
  have XfNoName : XfC K C_NoName := ⟨hgNoName, hkNoName, b_NoName, d_NoName⟩
  have ZNoName : OwnX K mg "NoName" "name" C_NoName f_NoName___init__ := ⟨⟨oexB_ok x_NoName, sa_NoName, b_NoName, y_NoName, k_NoName⟩, i_NoName, t_NoName, PySem.W.mg_of X G a_NoName, n_NoName, XfNoName⟩
  have F_NoName___init__ := fun_mk (st := s_NoName___init__) l_NoName_i c_NoName_i k_NoName_i
  have B_NoName___init__ := F_NoName___init__.binds (ps := ["self", "name"]) fun _ _ _ _ _ _ us hl => match us, hl with | [_, _], _ => rfl
  have F_Going___init__ := fun_mk (st := s_Going___init__) l_Going___init__ c_Going___init__ k_Going___init__
  have B_Going___init__ := F_Going___init__.binds (ps := ["self", "reads"]) fun _ _ _ _ _ _ us hl => match us, hl with | [_, _], _ => rfl
  have F_Going_look := fun_mk (st := s_Going_look) l_Going_look c_Going_look k_Going_look
  have B_Going_look := F_Going_look.binds (ps := ["self", "name"]) fun _ _ _ _ _ _ us hl => match us, hl with | [_, _], _ => rfl
  have M_Going_look : IsMet K C_Going "look" "Going.look" s_Going_look ["self", "name"] := ⟨f_Going_look, _, F_Going_look, ⟨a_Going_look, i_Going_look, k_Going_look⟩, B_Going_look⟩
  have F_Going_two := fun_mk (st := s_Going_two) l_Going_two c_Going_two k_Going_two
  have B_Going_two := F_Going_two.binds (ps := ["self", "kind", "one", "r"]) fun _ _ _ _ _ _ us hl => match us, hl with | [_, _, _, _], _ => rfl
  have M_Going_two : IsMet K C_Going "two" "Going.two" s_Going_two ["self", "kind", "one", "r"] := ⟨f_Going_two, _, F_Going_two, ⟨a_Going_two, i_Going_two, k_Going_two⟩, B_Going_two⟩
  have F_Going_worth := fun_mk (st := s_Going_worth) l_Going_worth c_Going_worth k_Going_worth
  have B_Going_worth := F_Going_worth.binds (ps := ["self", "r"]) fun _ _ _ _ _ _ us hl => match us, hl with | [_, _], _ => rfl
  have M_Going_worth : IsMet K C_Going "worth" "Going.worth" s_Going_worth ["self", "r"] := ⟨f_Going_worth, _, F_Going_worth, ⟨a_Going_worth, i_Going_worth, k_Going_worth⟩, B_Going_worth⟩
  have ZG : GoT K mg C_Going f_Going___init__ := ⟨⟨pg_Going, hd_Going, po_Going, sa_Going⟩, n_Going_reads, n_Going_had, n_Going_lacking, PySem.W.mg_of X G a_Going, ⟨mk_Going, a_Going___init__, i_Going___init__, k_Going⟩⟩
  have XR : NoX K mg "NoRead" C_NoRead := ⟨x_NoRead, PySem.W.mg_of X G a_NoRead, k_NoRead, b_NoRead, t_NoRead⟩
  refine ⟨PySem.W.fnOf "law" "law" (defArgs s_law) (defBody s_law) (defScope s_law) .none kV_law dc_law pm_law an_law cd_law ct_law, fun s v => .of_eq rfl, fun base _ _ => ?_⟩
  have G1 := ok_Going_init (P := l.prog) (w := w) (base := base) T ZG F_Going___init__
  have G2 := ok_Going_look (P := l.prog) (w := w) (base := base) T ZG XR M_Going_look
  have G3 := ok_Going_worth T ZG M_Going_worth M_Going_two G2 9
  have G4 := ok_behind T ZG XR D_behind G1 B_Going___init__ G3
  have N1 := ok_NoName_init (P := l.prog) (w := w) (base := base) T ZNoName F_NoName___init__
  have V1 := ok_Weaving_begin (P := l.prog) (w := w) (base := base) T ZWv M_Weaving_begin
  have V2 := ok_Weaving_is_over (P := l.prog) (w := w) (base := base) T ZWv M_Weaving_is_over
  have V3 := ok_Weaving_ready (P := l.prog) (w := w) (base := base) T ZWv M_Weaving_ready
  have V4 := ok_Weaving_init T ZWv ZNoName N1 B_NoName___init__ V1 F_Weaving___init__
  have V5 := ok_Weaving_go_on T ZWv ZNoName N1 B_NoName___init__ ⟨_, PySem.W.mg_of X G r_WAITS⟩ ⟨_, PySem.W.mg_of X G r_KNOWN⟩ G4 V1 M_Weaving_go_on
  have A1 := ok__law_stateS (P := l.prog) (w := w) (base := base) T D__law_state
  have A2 := ok__law_drawS (P := l.prog) (w := w) (base := base) T D__law_draw
  have A3 := ok__law_namesS T D__law_names A1 A2
  have A4 := ok__law_numberS T D__law_number A2
  have A5 := ok__law_productS T D__law_product A2
  have A6 := ok__law_recipeS T D__law_recipe A2 A4 A5 4
  have A7 := ok__law_houseS T D__law_house A1 A2 A4 A6
  have A8 := ok__law_changedS T D__law_changed A2 A4 A6
  have A9 := ok__law_wishesS T D__law_wishes A2
  have B2 := ok__law_reckonedS (P := l.prog) (w := w) (base := base) T D__law_reckoned 8
  have B3 := ok__law_begunW (P := l.prog) (w := w) (base := base) T D__law_begun
  have B4 := ok__law_overW (P := l.prog) (w := w) (base := base) T D__law_over
  have B5 := ok__law_readyW (P := l.prog) (w := w) (base := base) T D__law_ready
  have B6 := ok__law_stepW T B2 D__law_step
  have B7 := ok__law_wovenW T B3 B4 B5 B6 D__law_woven
  have B9 := ok__law_choicesW (P := l.prog) (w := w) (base := base) T A2 D__law_choices
  have BS := ok__law_shown (P := l.prog) (w := w) (base := base) T B3 B4 B5 B6 D__law_shown
  have BT := ok__law_turned (P := l.prog) (w := w) (base := base) T A2 D__law_turned
  have BU := ok__law_spoilt (P := l.prog) (w := w) (base := base) T A2 BT D__law_spoilt
  have TB := ok_begun_weaving T ZWv (PySem.W.mg_of X G a_NoName) V4 B_Weaving___init__ D_begun_weaving
  have TI := ok_is_stepT (P := l.prog) (w := w) (base := base) T D_is_step
  have TS := ok_step_done T ZWv (PySem.W.mg_of X G a_NoName) V5 D_step_done
  have TT := ok_trace_showsT T ZWv TB TI TS V2 V3 D_trace_shows
  exact ok_law F_law T A3 A7 A1 A8 A9 B9 B7 BU BS TT
theorem walk {l : PySem.W.OpenLaw} {q : Program} {loose : List Str} {XP : (Str → Option Value) → Heap → Prop} {YP : World → Heap → Prop} {d : DefRec} {K : Params → PySem.W.Frag} (hn : l.most = some 63) (hdf : d.params.defaults = [])
    (hY : ∀ (w : World) (h : Heap), YP w h → (K w.params).In h)
    (F : ∀ (w : World) (mg : Str → Option Value) (fa : Addr) (h : Heap), (K w.params).In h → h.Ns mainGlobals mg → mg d.name = some (.ref fa) →
      ∃ fd : FuncData, (∀ (s : Shared) (u : Value), BindsTo s fd ⟨[u], []⟩ [("script", u)]) ∧ ∀ base : Heap, (K w.params).In base → base.Ns mainGlobals mg → FnOk l.prog w (K w.params) mg base CX0 32 fa fd ["script"] (spLaw (K w.params))) :
    PySem.W.WalkO q loose XP YP l.row.toRowW d [] (fun f vs => PySem.call f vs) :=
  L2.walk_of (n := 63) (k := 32) (x := "script") (CX := fun _ => CX0) (sp := fun w => spLaw (K w.params)) hn (by decide) hdf ⟨rfl, by decide, by decide⟩ hY F (fun _ _ a ns hl _ hS => ⟨a, ns, rfl, hS, hl, fun _ => rfl⟩) fun _ _ _ _ _ z => z
end Mad
open PySem PySem.W PyProof.Rows
set_option maxRecDepth 100000 in
set_option maxHeartbeats 0 in
theorem PySem.Challenge.cw_madeagain_k70_traces_shown_holds : PySem.Challenge.rw_madeagain_k70_traces_shown.Holds := by
  w_on; o_law; k_head; (case hw => w_witness2)
  k_fill
  refine Mad.walk (l := PySem.Challenge.rw_madeagain_k70_traces_shown) rfl rfl (fun w h Y => PySem.W.kIn_of Y) ?F
  case F =>
    intro w mg fa h KX G hmg
    refine' Mad.all_mk KX G hmg ?a_behind ?l_behind ?c_behind ?k_behind ?a__law_state ?l__law_state ?c__law_state ?k__law_state ?a__law_draw ?l__law_draw ?c__law_draw ?k__law_draw ?a__law_names ?l__law_names ?c__law_names ?k__law_names ?a__law_number ?l__law_number ?c__law_number ?k__law_number ?a__law_product ?l__law_product ?c__law_product ?k__law_product ?a__law_recipe ?l__law_recipe ?c__law_recipe ?k__law_recipe ?a__law_house ?l__law_house ?c__law_house ?k__law_house ?a__law_changed ?l__law_changed ?c__law_changed ?k__law_changed ?a__law_wishes ?l__law_wishes ?c__law_wishes ?k__law_wishes ?a__law_reckoned ?l__law_reckoned ?c__law_reckoned ?k__law_reckoned ?a__law_begun ?l__law_begun ?c__law_begun ?k__law_begun ?a__law_ready ?l__law_ready ?c__law_ready ?k__law_ready ?a__law_step ?l__law_step ?c__law_step ?k__law_step ?a__law_over ?l__law_over ?c__law_over ?k__law_over ?a__law_woven ?l__law_woven ?c__law_woven ?k__law_woven ?a__law_choices ?l__law_choices ?c__law_choices ?k__law_choices ?a__law_shown ?l__law_shown ?c__law_shown ?k__law_shown ?a__law_turned ?l__law_turned ?c__law_turned ?k__law_turned ?a__law_spoilt ?l__law_spoilt ?c__law_spoilt ?k__law_spoilt ?a_begun_weaving ?l_begun_weaving ?c_begun_weaving ?k_begun_weaving ?a_step_done ?l_step_done ?c_step_done ?k_step_done ?a_is_step ?l_is_step ?c_is_step ?k_is_step ?a_trace_shows ?l_trace_shows ?c_trace_shows ?k_trace_shows ?a_law ?l_law ?c_law ?k_law ?z_len ?z_list ?z_range ?z_tuple ?z_str ?z_int ?z_isinstance ?z_bool ?z_sum ?z_dict ?z_sorted ?z_zip ?z_enumerate ?z_min ?z_max ?z_set ?z_ValueError ?a_Weaving ?a_Weaving___init__ ?i_Weaving___init__ ?l_Weaving___init__ ?c_Weaving___init__ ?k_Weaving___init__ ?a_Weaving_begin ?i_Weaving_begin ?l_Weaving_begin ?c_Weaving_begin ?k_Weaving_begin ?a_Weaving_is_over ?i_Weaving_is_over ?l_Weaving_is_over ?c_Weaving_is_over ?k_Weaving_is_over ?a_Weaving_ready ?i_Weaving_ready ?l_Weaving_ready ?c_Weaving_ready ?k_Weaving_ready ?a_Weaving_go_on ?i_Weaving_go_on ?l_Weaving_go_on ?c_Weaving_go_on ?k_Weaving_go_on ?pg_Weaving ?hd_Weaving ?po_Weaving ?sa_Weaving ?mk_Weaving ?k_Weaving ?n_Weaving_given ?n_Weaving_recipes ?n_Weaving_worths ?n_Weaving_begun ?n_Weaving_waits ?a_MadeError ?a_NoName ?d_MadeError ?d_NoName ?y_MadeError ?y_NoName ?b_MadeError ?q_hn ?q_ht ?uNoName_MadeError ?uNoName_ValueError ?b_NoName ?hgNoName ?hkNoName ?haNoName ?hmNoName ?x_NoName ?sa_NoName ?k_NoName ?i_NoName ?t_NoName ?n_NoName ?l_NoName_i ?c_NoName_i ?k_NoName_i ?a_Going ?a_Going___init__ ?i_Going___init__ ?l_Going___init__ ?c_Going___init__ ?k_Going___init__ ?a_Going_look ?i_Going_look ?l_Going_look ?c_Going_look ?k_Going_look ?a_Going_two ?i_Going_two ?l_Going_two ?c_Going_two ?k_Going_two ?a_Going_worth ?i_Going_worth ?l_Going_worth ?c_Going_worth ?k_Going_worth ?pg_Going ?hd_Going ?po_Going ?sa_Going ?mk_Going ?k_Going ?n_Going_reads ?n_Going_had ?n_Going_lacking ?a_NoRead ?x_NoRead ?k_NoRead ?b_NoRead ?t_NoRead ?r_WAITS ?r_KNOWN
    (case a_behind => k_is)
    (case l_behind => k_is)
    (case c_behind => k_is)
    (case k_behind => k_is)
    (case a__law_state => k_is)
    (case l__law_state => k_is)
    (case c__law_state => k_is)
    (case k__law_state => k_is)
    (case a__law_draw => k_is)
    (case l__law_draw => k_is)
    (case c__law_draw => k_is)
    (case k__law_draw => k_is)
    (case a__law_names => k_is)
    (case l__law_names => k_is)
    (case c__law_names => k_is)
    (case k__law_names => k_is)
    (case a__law_number => k_is)
    (case l__law_number => k_is)
    (case c__law_number => k_is)
    (case k__law_number => k_is)
    (case a__law_product => k_is)
    (case l__law_product => k_is)
    (case c__law_product => k_is)
    (case k__law_product => k_is)
    (case a__law_recipe => k_is)
    (case l__law_recipe => k_is)
    (case c__law_recipe => k_is)
    (case k__law_recipe => k_is)
    (case a__law_house => k_is)
    (case l__law_house => k_is)
    (case c__law_house => k_is)
    (case k__law_house => k_is)
    (case a__law_changed => k_is)
    (case l__law_changed => k_is)
    (case c__law_changed => k_is)
    (case k__law_changed => k_is)
    (case a__law_wishes => k_is)
    (case l__law_wishes => k_is)
    (case c__law_wishes => k_is)
    (case k__law_wishes => k_is)
    (case a__law_reckoned => k_is)
    (case l__law_reckoned => k_is)
    (case c__law_reckoned => k_is)
    (case k__law_reckoned => k_is)
    (case a__law_begun => k_is)
    (case l__law_begun => k_is)
    (case c__law_begun => k_is)
    (case k__law_begun => k_is)
    (case a__law_ready => k_is)
    (case l__law_ready => k_is)
    (case c__law_ready => k_is)
    (case k__law_ready => k_is)
    (case a__law_step => k_is)
    (case l__law_step => k_is)
    (case c__law_step => k_is)
    (case k__law_step => k_is)
    (case a__law_over => k_is)
    (case l__law_over => k_is)
    (case c__law_over => k_is)
    (case k__law_over => k_is)
    (case a__law_woven => k_is)
    (case l__law_woven => k_is)
    (case c__law_woven => k_is)
    (case k__law_woven => k_is)
    (case a__law_choices => k_is)
    (case l__law_choices => k_is)
    (case c__law_choices => k_is)
    (case k__law_choices => k_is)
    (case a__law_shown => k_is)
    (case l__law_shown => k_is)
    (case c__law_shown => k_is)
    (case k__law_shown => k_is)
    (case a__law_turned => k_is)
    (case l__law_turned => k_is)
    (case c__law_turned => k_is)
    (case k__law_turned => k_is)
    (case a__law_spoilt => k_is)
    (case l__law_spoilt => k_is)
    (case c__law_spoilt => k_is)
    (case k__law_spoilt => k_is)
    (case a_begun_weaving => k_is)
    (case l_begun_weaving => k_is)
    (case c_begun_weaving => k_is)
    (case k_begun_weaving => k_is)
    (case a_step_done => k_is)
    (case l_step_done => k_is)
    (case c_step_done => k_is)
    (case k_step_done => k_is)
    (case a_is_step => k_is)
    (case l_is_step => k_is)
    (case c_is_step => k_is)
    (case k_is_step => k_is)
    (case a_trace_shows => k_is)
    (case l_trace_shows => k_is)
    (case c_trace_shows => k_is)
    (case k_trace_shows => k_is)
    (case a_law => k_is)
    (case l_law => k_is)
    (case c_law => k_is)
    (case k_law => k_is)
    (case z_len => k_is)
    (case z_list => k_is)
    (case z_range => k_is)
    (case z_tuple => k_is)
    (case z_str => k_is)
    (case z_int => k_is)
    (case z_isinstance => k_is)
    (case z_bool => k_is)
    (case z_sum => k_is)
    (case z_dict => k_is)
    (case z_sorted => k_is)
    (case z_zip => k_is)
    (case z_enumerate => k_is)
    (case z_min => k_is)
    (case z_max => k_is)
    (case z_set => k_is)
    (case z_ValueError => k_is)
    (case a_Weaving => k_is)
    (case a_Weaving___init__ => k_is)
    (case i_Weaving___init__ => k_is)
    (case l_Weaving___init__ => k_is)
    (case c_Weaving___init__ => k_is)
    (case k_Weaving___init__ => k_is)
    (case a_Weaving_begin => k_is)
    (case i_Weaving_begin => k_is)
    (case l_Weaving_begin => k_is)
    (case c_Weaving_begin => k_is)
    (case k_Weaving_begin => k_is)
    (case a_Weaving_is_over => k_is)
    (case i_Weaving_is_over => k_is)
    (case l_Weaving_is_over => k_is)
    (case c_Weaving_is_over => k_is)
    (case k_Weaving_is_over => k_is)
    (case a_Weaving_ready => k_is)
    (case i_Weaving_ready => k_is)
    (case l_Weaving_ready => k_is)
    (case c_Weaving_ready => k_is)
    (case k_Weaving_ready => k_is)
    (case a_Weaving_go_on => k_is)
    (case i_Weaving_go_on => k_is)
    (case l_Weaving_go_on => k_is)
    (case c_Weaving_go_on => k_is)
    (case k_Weaving_go_on => k_is)
    (case pg_Weaving => k_is)
    (case hd_Weaving => k_is)
    (case po_Weaving => k_is)
    (case sa_Weaving => k_is)
    (case mk_Weaving => k_is)
    (case k_Weaving => k_is)
    (case n_Weaving_given => k_is)
    (case n_Weaving_recipes => k_is)
    (case n_Weaving_worths => k_is)
    (case n_Weaving_begun => k_is)
    (case n_Weaving_waits => k_is)
    (case a_MadeError => k_is)
    (case a_NoName => k_is)
    (case d_MadeError => k_is)
    (case d_NoName => k_is)
    (case y_MadeError => k_is)
    (case y_NoName => k_is)
    (case b_MadeError => k_is)
    (case q_hn => k_is)
    (case q_ht => k_is)
    (case uNoName_MadeError => k_is)
    (case uNoName_ValueError => k_is)
    (case b_NoName => k_is)
    (case hgNoName => k_is)
    (case hkNoName => k_is)
    (case haNoName => k_is)
    (case hmNoName => k_is)
    (case x_NoName => kernel_rfl)
    (case sa_NoName => k_is)
    (case k_NoName => k_is)
    (case i_NoName => k_is)
    (case t_NoName => k_is)
    (case n_NoName => k_is)
    (case l_NoName_i => k_is)
    (case c_NoName_i => k_is)
    (case k_NoName_i => k_is)
    (case a_Going => k_is)
    (case a_Going___init__ => k_is)
    (case i_Going___init__ => k_is)
    (case l_Going___init__ => k_is)
    (case c_Going___init__ => k_is)
    (case k_Going___init__ => k_is)
    (case a_Going_look => k_is)
    (case i_Going_look => k_is)
    (case l_Going_look => k_is)
    (case c_Going_look => k_is)
    (case k_Going_look => k_is)
    (case a_Going_two => k_is)
    (case i_Going_two => k_is)
    (case l_Going_two => k_is)
    (case c_Going_two => k_is)
    (case k_Going_two => k_is)
    (case a_Going_worth => k_is)
    (case i_Going_worth => k_is)
    (case l_Going_worth => k_is)
    (case c_Going_worth => k_is)
    (case k_Going_worth => k_is)
    (case pg_Going => k_is)
    (case hd_Going => k_is)
    (case po_Going => k_is)
    (case sa_Going => k_is)
    (case mk_Going => k_is)
    (case k_Going => k_is)
    (case n_Going_reads => k_is)
    (case n_Going_had => k_is)
    (case n_Going_lacking => k_is)
    (case a_NoRead => k_is)
    (case x_NoRead => k_exc)
    (case k_NoRead => k_is)
    (case b_NoRead => k_is)
    (case t_NoRead => k_is)
    (case r_WAITS => k_is)
    (case r_KNOWN => k_is)
#print axioms PySem.Challenge.cw_madeagain_k70_traces_shown_holds
