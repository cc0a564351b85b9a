import PyProof.Rows.All
import Wide.All
import OpenK.AllK
import Wide.FinOn
import HandS.ForMost
import HandS.Wide
import HandS.IsInst
import HandS.Codes
import HandS.More
import HandS.Style
import HandS.TupMul
import HandS.TupAny
import HandS.Dict
import HandS.Iter
import HandS.SortInts
import HandS.SortOrd
import KE.KEqSeq
import HandS.Exc
import HandS.ExcOwn
import HandS.WordsExc
import KE.IntTextLaws
import KE.IntTextText
import HandS.ExcValue
import HandS.TryOnly
import HandS.ExcIs
import PyProof.StrOps2
import HandS.Strs
import HandS.NoneIn
import HandS.ReplaceLit
import HandS.ReplaceList
import HandS.Zip
import HandS.Deep
import HandS.StrMore
import HandS.Walk
import HandS.RaiseMore
import PySem.Challenge.RW_madeagain_k54_texts_of_no_record
set_option Elab.async false
set_option linter.all false
set_option maxRecDepth 100000
set_option maxHeartbeats 4000000
set_option pp.maxSteps 300
namespace Mad
open PySem PySem.Spec PyProof.Rows L2
def topS (i : Nat) : Stmt := PySem.Challenge.pw_madeagain_k54_texts_of_no_record.main.body.getD i (.Pass ⟨0, 0, 0, 0⟩)
/-! ### short words over the layer -/
/-- the def x of the text stands in the module as st says -/
def IsDef (K : PySem.W.Frag) (mg : Str → Option Value) (x : Str) (st : Stmt) (ps : List Str) : Prop := ∃ (f : Addr) (fd : FuncData), Fun K x x st f fd ∧ mg x = some (.ref f) ∧ Binds K fd ps []
/-- the def x keeps the promise sp by at most k calls in one another -/
def Cal (P : Program) (w : World) (K : PySem.W.Frag) (mg : Str → Option Value) (base : Heap) (CX : CXT) (k : Nat) (x : Str) (ps : List Str) (sp : Sp) : Prop :=
  ∃ (f : Addr) (fd : FuncData), FnOk P w K mg base CX k f fd ps sp ∧ mg x = some (.ref f) ∧ PySem.W.keepIn K (.ref f) = true ∧ Binds K fd ps []
section
variable {P : Program} {w : World} {K : PySem.W.Frag} {mg : Str → Option Value} {base : Heap}
theorem Cal.mono {CX : CXT} {j k : Nat} {x : Str} {ps : List Str} {sp : Sp} (c : Cal P w K mg base CX j x ps sp) (h : j ≤ k) : Cal P w K mg base CX k x ps sp := by
  obtain ⟨f, fd, F, r⟩ := c
  exact ⟨f, fd, F.mono h, r⟩
theorem Cal.imp {CX : CXT} {k : Nat} {x : Str} {ps : List Str} {sp sp' : Sp} (c : Cal P w K mg base CX k x ps sp) (h : ∀ vs H Q E, sp' vs H Q E → sp vs H Q E) : Cal P w K mg base CX k x ps sp' := by
  obtain ⟨f, fd, F, r⟩ := c
  exact ⟨f, fd, F.imp h, r⟩
/-- of no depth none is asked -/
theorem cal_none {x : Str} {st : Stmt} {ps : List Str} {sp : Sp} {CX : CXT} {k : Nat} (D : IsDef K mg x st ps) (no : ∀ vs H Q E, ¬ sp vs H Q E) : Cal P w K mg base CX k x ps sp := by
  obtain ⟨f, fd, F, m, b⟩ := D
  exact ⟨f, fd, ⟨fun vs H Q E h => absurd h (no vs H Q E), fun A outer s H args us vs Q E _ _ _ _ h => absurd h (no vs H Q E)⟩, m, F.kp, b⟩
theorem IsDef.cal {x : Str} {st : Stmt} {N ps : List Str} {k : Nat} {sp : Sp} (D : IsDef K mg x st ps) (S : FnScope N ps (defScope st)) (len : ∀ vs H Q E, sp vs H Q E → vs.length = ps.length)
    (hbody : ∀ (f : Addr) (cdv : Value) (A : Around) (outer : List Env) (s : Shared) (H : Hp) (vs : List V) (Q : VK) (E : XK), Room k (A.deeper (envOfC x (defScope st) s.heap.objs.size f cdv)) → sp vs H Q E →
      ∃ t, PSs (cxOf CX0 P w K mg base N x (defScope st) f cdv A outer s H E).nox (defBody st) t ∧ t { nx := fun _ H' => Q .non H', rt := Q } (start N vs) H) : Cal P w K mg base CX0 (k + 1) x ps sp := by
  obtain ⟨f, fd, F, m, b⟩ := D
  exact ⟨f, fd, F.ok S len fun cdv A outer s H vs Q E => hbody f cdv A outer s H vs Q E, m, F.kp, b⟩
end
section
variable {X : Cx} {CX : CXT} {k : Nat} {ps : List Str} {sp : Sp} {E : XK} {x : Str} {p pos : Pos}
theorem pe_cal {e : Expr} {es : List Expr} {t : TA} (c : Cal X.prog X.w X.K X.mg X.base CX k x ps sp) (hr : Room k X.A) (hx : Passes CX X E) (ha : PA X (e :: es) t) (hg : Gl X x := by rfl)
    (hdb : (x == ("__debug__" : Str)) = false := by decide) (he : starEach (e :: es) X.env = (false, eval e X.env) :: starEach es X.env := by rfl) (hpl : (backTo pos (starEach es X.env)).any (·.1) = false := by rfl) :
    PE X (.Call (.Name x p) (e :: es) [] pos) (tCall sp [] E t) := by
  obtain ⟨f, fd, F, m, kp, b⟩ := c
  exact pe_call F hr hg m kp b .nil hx ha hdb he hpl
theorem pe_cal0 (c : Cal X.prog X.w X.K X.mg X.base CX k x ps sp) (hr : Room k X.A) (hx : Passes CX X E) (hg : Gl X x := by rfl) (hdb : (x == ("__debug__" : Str)) = false := by decide) :
    PE X (.Call (.Name x p) [] [] pos) (tCall sp [] E tNil) := by
  obtain ⟨f, fd, F, m, kp, b⟩ := c
  exact pe_call0 F hr hg m kp b .nil hx hdb
end
theorem le_line {n : Nat} (h : n ≤ 16777216) : n ≤ sizeLine := by rw [sizeLine_eq]; exact h
theorem lt_line {n : Nat} (h : n < 16777216) : n < sizeLine := by rw [sizeLine_eq]; exact h
theorem same_new {H : Hp} {p : Addr} (h : H p = none) (o : HO) : Same H (upd H p o) := fun b u q => by rw [upd_ne (ne_of_none q h)]; exact q
theorem same_upd {B H : Hp} {p : Addr} (s : Same B H) (h : B p = none) (o : HO) : Same B (upd H p o) := fun b u q => by
  have z : b ≠ p := fun e => by rw [e, h] at q; cases q
  rw [upd_ne z]; exact s _ _ q
theorem atI_at {α : Type} {xs : List α} {i : Int} {v : α} (h0 : 0 ≤ i) (h : xs[i.toNat]? = some v) : atI xs i = some v := by
  have e : i = ((i.toNat : Nat) : Int) := by omega
  rw [e]; exact atI_nat h
theorem ixN_at {n : Nat} {i : Int} (h0 : 0 ≤ i) (h : i < n) : ixN n i = some i.toNat := by
  unfold ixN
  rw [if_pos h0, if_pos h]
theorem int_at {ns : List Int} {i : Int} (h0 : 0 ≤ i) (h : i < ns.length) : ∃ v : Int, atI (ns.map V.int) i = some (.int v) := by
  have hk : i.toNat < ns.length := by omega
  exact ⟨ns[i.toNat], atI_at h0 (by rw [List.getElem?_map, List.getElem?_eq_getElem hk] <;> rfl)⟩
theorem if_true_eq {c : Bool} {A B : Prop} (h : c = true) (a : A) : if c = true then A else B := by rw [if_pos h]; exact a
theorem if_false_eq {c : Bool} {A B : Prop} (h : c = false) (b : B) : if c = true then A else B := by rw [h]; exact b
theorem not_true_eq {c : Bool} {A B : Prop} (h : c = true) (b : B) : if (!c) = true then A else B := by rw [h]; exact b
theorem not_false_eq {c : Bool} {A B : Prop} (h : c = false) (a : A) : if (!c) = true then A else B := by rw [h]; exact a
structure Txt (K : PySem.W.Frag) (mg : Str → Option Value) : Prop where
  b_len : mg "len" = none
  b_list : mg "list" = none
  b_range : mg "range" = none
  b_tuple : mg "tuple" = none
  b_str : mg "str" = none
  b_int : mg "int" = none
  b_isinstance : mg "isinstance" = none
  b_bool : mg "bool" = none
  b_sum : mg "sum" = none
  b_dict : mg "dict" = none
  b_zip : mg "zip" = none
  b_enumerate : mg "enumerate" = none
  b_min : mg "min" = none
  b_max : mg "max" = none
  b_ValueError : mg "ValueError" = none
/-! ### recipes as data -/
inductive Kd where
  | plus | minus | times | most
  deriving DecidableEq
def Kd.name : Kd → Str
  | .plus => "plus" | .minus => "minus" | .times => "times" | .most => "most"
inductive Rcp where
  | num (n : Int)
  | read (s : List Nat)
  | two (k : Kd) (a b : Rcp)
  | pick (a b c : Rcp)
  | choose (a : Rcp) (ns : List (List Nat))
def Rcp.dep : Rcp → Nat
  | .num _ => 1
  | .read _ => 1
  | .two _ a b => max a.dep b.dep + 1
  | .pick a b c => max a.dep (max b.dep c.dep) + 1
  | .choose a _ => a.dep + 1
def Rcp.siz : Rcp → Nat
  | .num _ => 1
  | .read _ => 1
  | .two _ a b => a.siz + b.siz + 1
  | .pick a b c => a.siz + b.siz + c.siz + 1
  | .choose a _ => a.siz + 1
/-- a name's signs -/
def Nm (s : List Nat) : Prop := 1 ≤ s.length ∧ s.length ≤ 8 ∧ ∀ c ∈ s, 97 ≤ c ∧ c ≤ 122
def Nms (ns : List (List Nat)) : Prop := 1 ≤ ns.length ∧ ns.length ≤ 9 ∧ ∀ s ∈ ns, Nm s
def Rcp.Good : Rcp → Prop
  | .num n => n.natAbs < 10 ^ 40
  | .read s => Nm s
  | .two _ a b => a.Good ∧ b.Good
  | .pick a b c => a.Good ∧ b.Good ∧ c.Good
  | .choose a ns => a.Good ∧ Nms ns
def txs (ns : List (List Nat)) : List V := (ns.map SX.S).map V.str
/-- the value v is the recipe r in H -/
def Rec (H : Hp) : Rcp → V → Prop
  | .num n, v => ∃ p, v = .ref p ∧ H p = some (.tup [.str "number", .int n])
  | .read s, v => ∃ p, v = .ref p ∧ H p = some (.tup [.str "read", .str (SX.S s)])
  | .two k a b, v => ∃ p x y, v = .ref p ∧ H p = some (.tup [.str k.name, x, y]) ∧ Rec H a x ∧ Rec H b y
  | .pick a b c, v => ∃ p x y z, v = .ref p ∧ H p = some (.tup [.str "pick", x, y, z]) ∧ Rec H a x ∧ Rec H b y ∧ Rec H c z
  | .choose a ns, v => ∃ p x q, v = .ref p ∧ H p = some (.tup [.str "choose", x, .ref q]) ∧ Rec H a x ∧ H q = some (.tup (txs ns))
/-- tuples stay -/
def Keep (H H' : Hp) : Prop := ∀ b xs, H b = some (.tup xs) → H' b = some (.tup xs)
theorem Keep.refl (H : Hp) : Keep H H := fun _ _ h => h
theorem Keep.trans {A B C : Hp} (h : Keep A B) (k : Keep B C) : Keep A C := fun b xs q => k b xs (h b xs q)
theorem same_keep {H H' : Hp} (s : Same H H') : Keep H H' := fun b xs q => s b _ q
theorem keep_lst {H : Hp} {l : Addr} {xs ys : List V} (h : H l = some (.lst xs)) : Keep H (upd H l (.lst ys)) := fun b zs q => by
  have z : b ≠ l := fun e => by rw [e, h] at q; cases q
  rw [upd_ne z]; exact q
theorem Rec.keep {H H' : Hp} (k : Keep H H') : ∀ {r : Rcp} {v : V}, Rec H r v → Rec H' r v
  | .num n, v, ⟨p, e, h⟩ => ⟨p, e, k _ _ h⟩
  | .read s, v, ⟨p, e, h⟩ => ⟨p, e, k _ _ h⟩
  | .two _ a b, v, ⟨p, x, y, e, h, ra, rb⟩ => ⟨p, x, y, e, k _ _ h, Rec.keep k ra, Rec.keep k rb⟩
  | .pick a b c, v, ⟨p, x, y, z, e, h, ra, rb, rc⟩ => ⟨p, x, y, z, e, k _ _ h, Rec.keep k ra, Rec.keep k rb, Rec.keep k rc⟩
  | .choose a ns, v, ⟨p, x, q, e, h, ra, hq⟩ => ⟨p, x, q, e, k _ _ h, Rec.keep k ra, k _ _ hq⟩
theorem Rec.same {H H' : Hp} (s : Same H H') {r : Rcp} {v : V} (h : Rec H r v) : Rec H' r v := h.keep (same_keep s)
theorem dep_pos : ∀ r : Rcp, 1 ≤ r.dep
  | .num _ => Nat.le_refl _
  | .read _ => Nat.le_refl _
  | .two _ _ _ => Nat.le_add_left _ _
  | .pick _ _ _ => Nat.le_add_left _ _
  | .choose _ _ => Nat.le_add_left _ _
theorem siz_pos : ∀ r : Rcp, 1 ≤ r.siz
  | .num _ => Nat.le_refl _
  | .read _ => Nat.le_refl _
  | .two _ _ _ => Nat.le_add_left _ _
  | .pick _ _ _ => Nat.le_add_left _ _
  | .choose _ _ => Nat.le_add_left _ _
theorem iteY {p A B : Prop} [Decidable p] (h : p) (a : A) : if decide p = true then A else B := by
  rw [if_pos (decide_eq_true h)]; exact a
theorem iteN {p A B : Prop} [Decidable p] (h : ¬p) (b : B) : if decide p = true then A else B := by
  rw [if_neg (fun z => h (of_decide_eq_true z))]; exact b
theorem txs_get {ns : List (List Nat)} {i : Nat} (h : i < ns.length) : (txs ns)[i]? = some (.str (SX.S ns[i])) := by
  unfold txs
  rw [List.getElem?_map, List.getElem?_map, List.getElem?_eq_getElem h]
  all_goals rfl
theorem txs_mem {ns : List (List Nat)} {x : V} (h : x ∈ txs ns) : ∃ s, s ∈ ns ∧ x = .str (SX.S s) := by
  obtain ⟨y, hy, rfl⟩ := List.mem_map.mp h
  obtain ⟨s, hs, rfl⟩ := List.mem_map.mp hy
  exact ⟨s, hs, rfl⟩
theorem txs_len (ns : List (List Nat)) : (txs ns).length = ns.length := by unfold txs; rw [List.length_map, List.length_map]
theorem txs_app (a b : List (List Nat)) : txs (a ++ b) = txs a ++ txs b := by unfold txs; rw [List.map_append, List.map_append]
/-- the signs, one by one -/
def ones (ss : List Nat) : List (List Nat) := ss.map fun c => [c]
theorem ones_flat (ss : List Nat) : (ones ss).flatten = ss := by
  induction ss with
  | nil => rfl
  | cons a r ih => show [a] ++ (ones r).flatten = _; rw [ih]; rfl
theorem ones_sum (ss : List Nat) : (((ones ss).map SX.S).map (·.length)).sum = ss.length := by
  induction ss with
  | nil => rfl
  | cons a r ih => show 1 + (((ones r).map SX.S).map (·.length)).sum = r.length + 1; rw [ih, Nat.add_comm]
theorem ones_len (ss : List Nat) : (ones ss).length = ss.length := List.length_map _
/-- the pick out of some things by a drawn number -/
theorem one_of {α : Type} {xs : List α} {v : Int} (h0 : 0 ≤ v) (h : v < xs.length) : ∃ x, x ∈ xs ∧ atI xs v = some x := by
  have hk : v.toNat < xs.length := by omega
  exact ⟨xs[v.toNat], List.getElem_mem hk, atI_at h0 (List.getElem?_eq_getElem hk)⟩
def letters : List Nat := [97, 98, 99, 100, 101, 102, 103, 104, 105, 106, 107, 108, 109, 110, 111, 112, 113, 114, 115, 116, 117, 118, 119, 120, 121, 122]
theorem letters_is : ("abcdefghijklmnopqrstuvwxyz" : Str) = SX.S letters := by decide +kernel
theorem letters_ok : ∀ c ∈ letters, 97 ≤ c ∧ c ≤ 122 := by decide
/-! ### rows of recipes -/
def Recs (H : Hp) : List Rcp → List V → Prop
  | [], [] => True
  | r :: rs, v :: vs => Rec H r v ∧ Recs H rs vs
  | _, _ => False
theorem Recs.keep {H H' : Hp} (k : Keep H H') : ∀ {rs : List Rcp} {vs : List V}, Recs H rs vs → Recs H' rs vs
  | [], [], _ => trivial
  | _ :: _, _ :: _, h => ⟨h.1.keep k, Recs.keep k h.2⟩
  | [], _ :: _, h => h.elim
  | _ :: _, [], h => h.elim
theorem Recs.len {H : Hp} : ∀ {rs : List Rcp} {vs : List V}, Recs H rs vs → vs.length = rs.length
  | [], [], _ => rfl
  | _ :: _, _ :: _, h => congrArg (· + 1) (Recs.len h.2)
  | [], _ :: _, h => h.elim
  | _ :: _, [], h => h.elim
theorem Recs.snoc {H : Hp} {r : Rcp} {v : V} (hr : Rec H r v) : ∀ {rs : List Rcp} {vs : List V}, Recs H rs vs → Recs H (rs ++ [r]) (vs ++ [v])
  | [], [], _ => ⟨hr, trivial⟩
  | _ :: _, _ :: _, h => ⟨h.1, Recs.snoc hr h.2⟩
  | [], _ :: _, h => h.elim
  | _ :: _, [], h => h.elim
theorem Recs.at {H : Hp} : ∀ {rs : List Rcp} {vs : List V} {i : Nat} {v : V}, Recs H rs vs → vs[i]? = some v → ∃ r, rs[i]? = some r ∧ Rec H r v
  | [], [], i, v, _, e => by simp at e
  | r :: _, _ :: _, 0, v, h, e => ⟨r, rfl, by cases e; exact h.1⟩
  | _ :: _, _ :: _, i + 1, v, h, e => Recs.at (i := i) h.2 (by simpa using e)
  | [], _ :: _, _, _, h, _ => h.elim
  | _ :: _, [], _, _, h, _ => h.elim
theorem Recs.get {H : Hp} {rs : List Rcp} {vs : List V} {i : Nat} (h : Recs H rs vs) (hi : i < rs.length) : ∃ v r, vs[i]? = some v ∧ rs[i]? = some r ∧ Rec H r v := by
  have hv : i < vs.length := by rw [h.len]; exact hi
  obtain ⟨r, e, hr⟩ := h.at (List.getElem?_eq_getElem hv)
  exact ⟨_, r, List.getElem?_eq_getElem hv, e, hr⟩
/-- a comprehension over a range with a step -/
theorem lcC {lo c : Int} {n : Nat} {g : TG} {tt : TT} {te : TE} {vs : List Nat} {σ : L2.St} {H1 : Hp} {D : Addr} {Qd : Hp → Prop} (Pv : Nat → Hp → Prop)
    (h0 : Pv 0 (upd H1 D (.lst [])))
    (hs : ∀ i H, i < n → Pv i H → g (.int (lo + (i : Nat) * c)) (wipe σ vs) H
      fun σ2 H2 => wipe σ2 vs = wipe σ vs ∧ tt σ2 H2
        fun b H3 => if b = true then te σ2 H3
          fun y H4 => ∃ acc, H4 D = some (.lst acc) ∧ acc.length < sizeLine ∧ Pv (i + 1) (upd H4 D (.lst (acc ++ [y])))
        else Pv (i + 1) H3)
    (hd : ∀ H, Pv n H → Qd H) :
    ∃ W : Nat → Nat → Hp → Prop, (∃ m, W 0 m (upd H1 D (.lst []))) ∧
      ∀ i m H, W i m H → ((Itc lo c n).stop i H ∧ Qd H) ∨ ((Itc lo c n).go i H ∧
        ∃ Nx : Hp → Prop, (∀ H', Nx H' → ∃ m', m' < m ∧ W (i + 1) m' H') ∧
          ∀ x H', (Itc lo c n).yld i H x H' → g x (wipe σ vs) H'
            fun σ2 H2 => wipe σ2 vs = wipe σ vs ∧ tt σ2 H2
              fun b H3 => if b = true then te σ2 H3
                fun y H4 => ∃ acc, H4 D = some (.lst acc) ∧ acc.length < sizeLine ∧ Nx (upd H4 D (.lst (acc ++ [y])))
              else Nx H3) := by
  refine ⟨fun i m H => m = n - i ∧ i ≤ n ∧ Pv i H, ⟨n, rfl, Nat.zero_le _, h0⟩, fun i m H w => ?_⟩
  obtain ⟨em, hi, p⟩ := w
  by_cases hlt : i < n
  · refine Or.inr ⟨hlt, Pv (i + 1), fun H' p' => ⟨n - (i + 1), by omega, rfl, hlt, p'⟩, fun x H' y => ?_⟩
    obtain ⟨e1, e2⟩ := y
    rw [e1, e2]
    exact hs i H hlt p
  · have e : i = n := by omega
    rw [e] at p
    exact Or.inl ⟨by show n ≤ i; omega, hd H p⟩
theorem cut_nat (xs : List V) {a b : Nat} (h : a ≤ b) : cutV xs (some (a : Int)) (some (b : Int)) = (xs.drop a).take (b - a) := by
  show (xs.drop (HT.sIx xs.length 0 (some (a : Int)))).take (HT.sIx xs.length xs.length (some (b : Int)) - HT.sIx xs.length 0 (some (a : Int))) = _
  rw [HT.sIx_nat, HT.sIx_nat]
  by_cases ha : a ≤ xs.length
  · rw [Nat.min_eq_left ha]
    by_cases hb : b ≤ xs.length
    · rw [Nat.min_eq_left hb]
    · rw [Nat.min_eq_right (by omega), List.take_of_length_le (by rw [List.length_drop]; omega), List.take_of_length_le (by rw [List.length_drop]; omega)]
  · have e1 : min a xs.length = xs.length := by omega
    rw [e1, List.drop_eq_nil_of_le (Nat.le_refl _), List.drop_eq_nil_of_le (by omega), List.take_nil, List.take_nil]
theorem cut_to (xs : List V) (b : Nat) : cutV xs none (some (b : Int)) = xs.take b := by
  show (xs.drop (HT.sIx xs.length 0 none)).take (HT.sIx xs.length xs.length (some (b : Int)) - HT.sIx xs.length 0 none) = _
  rw [HT.sIx_none, HT.sIx_nat, List.drop_zero, Nat.sub_zero]
  by_cases hb : b ≤ xs.length
  · rw [Nat.min_eq_left hb]
  · rw [Nat.min_eq_right (by omega), List.take_of_length_le (Nat.le_refl _), List.take_of_length_le (by omega)]
/-! ### any things as data -/
inductive Th where
  | non
  | bl (b : Bool)
  | int (i : Int)
  | str (s : List Nat)
  | tup (l : List Th)
  | lst (l : List Th)
  | dct
mutual
/-- the value stands for the thing in H -/
def Data (H : Hp) : Th → V → Prop
  | .non, v => v = .non
  | .bl b, v => v = .bl b
  | .int i, v => v = .int i
  | .str s, v => v = .str (SX.S s)
  | .tup l, v => ∃ p xs, v = .ref p ∧ H p = some (.tup xs) ∧ DataL H l xs
  | .lst l, v => ∃ p xs, v = .ref p ∧ H p = some (.lst xs) ∧ DataL H l xs
  | .dct, v => ∃ p kvs, v = .ref p ∧ H p = some (.dK kvs)
def DataL (H : Hp) : List Th → List V → Prop
  | [], xs => xs = []
  | t :: l, xs => ∃ x r, xs = x :: r ∧ Data H t x ∧ DataL H l r
end
mutual
theorem Data.same {H H' : Hp} (s : Same H H') : ∀ {t : Th} {v : V}, Data H t v → Data H' t v
  | .non, _, h => h
  | .bl _, _, h => h
  | .int _, _, h => h
  | .str _, _, h => h
  | .tup _, _, ⟨p, xs, e, hp, hl⟩ => ⟨p, xs, e, s _ _ hp, DataL.same s hl⟩
  | .lst _, _, ⟨p, xs, e, hp, hl⟩ => ⟨p, xs, e, s _ _ hp, DataL.same s hl⟩
  | .dct, _, ⟨p, kvs, e, hp⟩ => ⟨p, kvs, e, s _ _ hp⟩
theorem DataL.same {H H' : Hp} (s : Same H H') : ∀ {l : List Th} {xs : List V}, DataL H l xs → DataL H' l xs
  | [], _, h => h
  | _ :: _, _, ⟨x, r, e, h1, h2⟩ => ⟨x, r, e, Data.same s h1, DataL.same s h2⟩
end
theorem DataL.len {H : Hp} : ∀ {l : List Th} {xs : List V}, DataL H l xs → xs.length = l.length
  | [], _, h => by rw [show _ = [] from h]; rfl
  | _ :: _, _, ⟨x, r, e, _, h2⟩ => by rw [e, List.length_cons, DataL.len h2]; rfl
theorem DataL.at {H : Hp} : ∀ {l : List Th} {xs : List V} {i : Nat} {v : V}, DataL H l xs → xs[i]? = some v → ∃ t, l[i]? = some t ∧ Data H t v
  | [], _, i, v, h, e => by rw [show _ = [] from h] at e; simp at e
  | t :: _, _, 0, v, ⟨x, r, e1, h1, _⟩, e => by subst e1; cases e; exact ⟨t, rfl, h1⟩
  | _ :: _, _, i + 1, v, ⟨x, r, e1, _, h2⟩, e => by subst e1; exact DataL.at (i := i) h2 (by simpa using e)
theorem DataL.get {H : Hp} {l : List Th} {xs : List V} {i : Nat} {t : Th} (h : DataL H l xs) (e : l[i]? = some t) : ∃ v, xs[i]? = some v ∧ Data H t v := by
  have hi : i < xs.length := by
    rw [h.len]
    exact (List.getElem?_eq_some_iff.mp e).1
  obtain ⟨t', e', hd⟩ := h.at (List.getElem?_eq_getElem hi)
  rw [e] at e'
  cases e'
  exact ⟨_, List.getElem?_eq_getElem hi, hd⟩
theorem DataL.drop {H : Hp} : ∀ {l : List Th} {xs : List V} (n : Nat), DataL H l xs → DataL H (l.drop n) (xs.drop n)
  | _, _, 0, h => h
  | [], _, n + 1, h => by rw [show _ = [] from h]; exact rfl
  | _ :: _, _, n + 1, ⟨x, r, e, _, h2⟩ => by subst e; exact DataL.drop n h2
theorem DataL.take {H : Hp} : ∀ {l : List Th} {xs : List V} (n : Nat), DataL H l xs → DataL H (l.take n) (xs.take n)
  | _, _, 0, _ => rfl
  | [], _, n + 1, h => by rw [show _ = [] from h]; exact rfl
  | _ :: _, _, n + 1, ⟨x, r, e, h1, h2⟩ => by subst e; exact ⟨x, _, rfl, h1, DataL.take n h2⟩
theorem DataL.snoc {H : Hp} {t : Th} {v : V} (h : Data H t v) : ∀ {l : List Th} {xs : List V}, DataL H l xs → DataL H (l ++ [t]) (xs ++ [v])
  | [], _, e => by rw [show _ = [] from e]; exact ⟨v, [], rfl, h, rfl⟩
  | _ :: _, _, ⟨x, r, e, h1, h2⟩ => by subst e; exact ⟨x, _, rfl, h1, DataL.snoc h h2⟩
mutual
/-- without dicts -/
def Th.flat : Th → Bool
  | .dct => false
  | .tup l => Th.flatL l
  | .lst l => Th.flatL l
  | _ => true
def Th.flatL : List Th → Bool
  | [] => true
  | t :: l => t.flat && Th.flatL l
end
mutual
def Th.py : Th → PyData
  | .non => .none
  | .bl b => .bool b
  | .int i => .int i
  | .str s => .str (SX.S s)
  | .tup l => .tuple (Th.pyL l)
  | .lst l => .list (Th.pyL l)
  | .dct => .none
def Th.pyL : List Th → List PyData
  | [] => []
  | t :: l => t.py :: Th.pyL l
end
mutual
theorem Data.dp {K : PySem.W.Frag} {H : Hp} : ∀ {t : Th} {v : V}, t.flat = true → Data H t v → Dp K H v t.py
  | .non, _, _, h => by rw [show _ = V.non from h]; exact .non
  | .bl _, _, _, h => by rw [show _ = V.bl _ from h]; exact .bl _
  | .int _, _, _, h => by rw [show _ = V.int _ from h]; exact .int _
  | .str _, _, _, h => by rw [show _ = V.str _ from h]; exact .str _
  | .tup l, _, f, ⟨p, xs, e, hp, hl⟩ => by rw [e]; exact .tup (SqT.of hp) (DataL.dp f hl)
  | .lst l, _, f, ⟨p, xs, e, hp, hl⟩ => by rw [e]; exact .lst (SqL.of hp) (DataL.dp f hl)
theorem DataL.dp {K : PySem.W.Frag} {H : Hp} : ∀ {l : List Th} {xs : List V}, Th.flatL l = true → DataL H l xs → DpAll K H xs (Th.pyL l)
  | [], _, _, h => by rw [show _ = [] from h]; exact .nil
  | t :: l, _, f, ⟨x, r, e, h1, h2⟩ => by
    have f' : t.flat = true ∧ Th.flatL l = true := by
      have : (t.flat && Th.flatL l) = true := f
      exact Bool.and_eq_true_iff.mp this
    rw [e]
    exact .cons (Data.dp f'.1 h1) (DataL.dp f'.2 h2)
end
/-! ### what is a name, a recipe -/
def nmOk (s : List Nat) : Bool := decide (1 ≤ s.length) && decide (s.length ≤ 8) && s.all fun c => decide (97 ≤ c) && decide (c ≤ 122)
theorem nmOk_iff {s : List Nat} : nmOk s = true ↔ Nm s := by
  unfold nmOk Nm
  simp only [Bool.and_eq_true, decide_eq_true_eq, List.all_eq_true]
  exact ⟨fun ⟨⟨a, b⟩, c⟩ => ⟨a, b, c⟩, fun ⟨a, b, c⟩ => ⟨⟨a, b⟩, c⟩⟩
def Th.isNm : Th → Bool
  | .str s => nmOk s
  | _ => false
def Th.areNms : Th → Bool
  | .tup l => decide (1 ≤ l.length) && decide (l.length ≤ 9) && l.all Th.isNm
  | _ => false
def Th.isInt : Th → Bool
  | .int _ => true
  | _ => false
def w_number : List Nat := [110, 117, 109, 98, 101, 114]
def w_read : List Nat := [114, 101, 97, 100]
def w_pick : List Nat := [112, 105, 99, 107]
def w_choose : List Nat := [99, 104, 111, 111, 115, 101]
def w_plus : List Nat := [112, 108, 117, 115]
def w_minus : List Nat := [109, 105, 110, 117, 115]
def w_times : List Nat := [116, 105, 109, 101, 115]
def w_most : List Nat := [109, 111, 115, 116]
def twos : List (List Nat) := [w_plus, w_minus, w_times, w_most]
/-- the parts of a thing that has a recipe's form -/
def formParts (k : List Nat) (l : List Th) : Option (List Th) :=
  if k = w_number then (if l.length = 1 ∧ (l.headD .non).isInt = true then some [] else none)
  else if k = w_read then (if l.length = 1 ∧ (l.headD .non).isNm = true then some [] else none)
  else if k ∈ twos then (if l.length = 2 then some l else none)
  else if k = w_pick then (if l.length = 3 then some l else none)
  else if k = w_choose then (if l.length = 2 ∧ (l.getD 1 .non).areNms = true then some (l.take 1) else none)
  else none
def Th.parts : Th → Option (List Th)
  | .tup (.str k :: l) => formParts k l
  | _ => none
/-- all well formed, n deep at most -/
def Th.okay : Nat → Th → Bool
  | 0, _ => false
  | n + 1, t => match t.parts with
    | none => false
    | some ps => ps.all (Th.okay n)
def Th.count : Nat → Th → Nat
  | 0, _ => 1
  | n + 1, t => match t.parts with
    | none => 1
    | some ps => 1 + (ps.map (Th.count n)).sum
def Th.isRcp (t : Th) : Bool := t.okay 8 && decide (t.count 8 ≤ 100)
theorem count_pos : ∀ (n : Nat) (t : Th), 1 ≤ t.count n
  | 0, _ => Nat.le_refl _
  | n + 1, t => by
    unfold Th.count
    cases t.parts with
    | none => exact Nat.le_refl _
    | some ps => exact Nat.le_add_right _ _
theorem parts_tup {t : Th} {ps : List Th} (h : t.parts = some ps) : ∃ k l, t = .tup (.str k :: l) := by
  unfold Th.parts at h
  split at h
  · exact ⟨_, _, rfl⟩
  · cases h
/-- what the walk may meet: texts of ASCII signs, not too long; names without dicts -/
def tameS (s : List Nat) : Bool := decide (s.length ≤ 1000000) && s.all fun c => decide (c < 128)
def namesTame : List Th → Bool
  | [.str k, _, .tup m] => !decide (k = w_choose) || (Th.flatL m && SeqAt.shaped (.list (Th.pyL m)))
  | _ => true
mutual
def Th.tame : Th → Bool
  | .str s => tameS s
  | .tup l => Th.tameL l && decide (l.length ≤ 1000000) && namesTame l
  | _ => true
def Th.tameL : List Th → Bool
  | [] => true
  | t :: l => t.tame && Th.tameL l
end
theorem tameL_mem : ∀ {l : List Th}, Th.tameL l = true → ∀ t ∈ l, t.tame = true
  | [], _, t, h => by cases h
  | a :: l, f, t, h => by
    have f' : (a.tame && Th.tameL l) = true := f
    rw [Bool.and_eq_true] at f'
    rcases List.mem_cons.mp h with h | h
    · rw [h]; exact f'.1
    · exact tameL_mem f'.2 t h
theorem flatL_mem : ∀ {l : List Th}, Th.flatL l = true → ∀ t ∈ l, t.flat = true
  | [], _, t, h => by cases h
  | a :: l, f, t, h => by
    have f' : (a.flat && Th.flatL l) = true := f
    rw [Bool.and_eq_true] at f'
    rcases List.mem_cons.mp h with h | h
    · rw [h]; exact f'.1
    · exact flatL_mem f'.2 t h
theorem flatL_filter (p : Th → Bool) : ∀ {l : List Th}, Th.flatL l = true → Th.flatL (l.filter p) = true
  | [], _ => rfl
  | a :: l, f => by
    have f' : (a.flat && Th.flatL l) = true := f
    rw [Bool.and_eq_true] at f'
    rw [List.filter_cons]
    split
    · show (a.flat && Th.flatL (l.filter p)) = true
      rw [f'.1, flatL_filter p f'.2]; rfl
    · exact flatL_filter p f'.2
theorem shaped_parts {ds : List PyData} : SeqAt.shaped (.list ds) = true ↔ PyData.canLayAll0 ds = true ∧ PyData.depthAll ds + 1 ≤ 64 := by
  show (PyData.canLayAll0 ds && decide (PyData.depthAll ds + 1 ≤ 64)) = true ↔ _
  rw [Bool.and_eq_true, decide_eq_true_eq]
theorem py_filter (p : Th → Bool) : ∀ (l : List Th), PyData.canLayAll0 (Th.pyL l) = true → PyData.canLayAll0 (Th.pyL (l.filter p)) = true ∧ PyData.depthAll (Th.pyL (l.filter p)) ≤ PyData.depthAll (Th.pyL l)
  | [], _ => ⟨rfl, Nat.le_refl _⟩
  | a :: l, f => by
    have f' : (a.py.canLay0 && PyData.canLayAll0 (Th.pyL l)) = true := f
    rw [Bool.and_eq_true] at f'
    have ih := py_filter p l f'.2
    rw [List.filter_cons]
    split
    · refine ⟨?_, ?_⟩
      · show (a.py.canLay0 && PyData.canLayAll0 (Th.pyL (l.filter p))) = true
        rw [f'.1, ih.1]; rfl
      · show max a.py.depth (PyData.depthAll (Th.pyL (l.filter p))) ≤ max a.py.depth (PyData.depthAll (Th.pyL l))
        omega
    · refine ⟨ih.1, ?_⟩
      show _ ≤ max a.py.depth (PyData.depthAll (Th.pyL l))
      omega
theorem shaped_filter (p : Th → Bool) {l : List Th} (h : SeqAt.shaped (.list (Th.pyL l)) = true) : SeqAt.shaped (.list (Th.pyL (l.filter p))) = true := by
  rw [shaped_parts] at h ⊢
  have := py_filter p l h.1
  exact ⟨this.1, by omega⟩
def Th.tyName : Th → String
  | .non => "NoneType" | .bl _ => "bool" | .int _ => "int" | .str _ => "str" | .tup _ => "tuple" | .lst _ => "list" | .dct => "dict"
theorem Data.ty {K : PySem.W.Frag} {H : Hp} : ∀ {t : Th} {v : V}, Data H t v → TyX K H v (.type t.tyName)
  | .non, _, h => by rw [show _ = V.non from h]; exact .base .non
  | .bl _, _, h => by rw [show _ = V.bl _ from h]; exact .base (.bl _)
  | .int _, _, h => by rw [show _ = V.int _ from h]; exact .base (.int _)
  | .str _, _, h => by rw [show _ = V.str _ from h]; exact .base (.str _)
  | .tup l, _, ⟨p, xs, e, hp, hl⟩ => by rw [e]; exact .base (.tup hp)
  | .lst l, _, ⟨p, xs, e, hp, hl⟩ => by rw [e]; exact .base (.lst hp)
  | .dct, _, ⟨p, kvs, e, hp⟩ => by rw [e]; exact .base (.dK hp)
def Th.isTup : Th → Bool
  | .tup _ => true
  | _ => false
def Th.isStr : Th → Bool
  | .str _ => true
  | _ => false
def Th.isBl : Th → Bool
  | .bl _ => true
  | _ => false
def Th.isIntB : Th → Bool
  | .bl _ => true
  | .int _ => true
  | _ => false
theorem kit_tup {K : PySem.W.Frag} : ∀ t : Th, PySem.W.kitOne K (.type t.tyName) (.type "tuple") = some t.isTup
  | .non => kit_ty (show kitB "NoneType" "tuple" = some false by decide +kernel)
  | .bl _ => kit_ty (show kitB "bool" "tuple" = some false by decide +kernel)
  | .int _ => kit_ty (show kitB "int" "tuple" = some false by decide +kernel)
  | .str _ => kit_ty (show kitB "str" "tuple" = some false by decide +kernel)
  | .tup _ => kit_ty (show kitB "tuple" "tuple" = some true by decide +kernel)
  | .lst _ => kit_ty (show kitB "list" "tuple" = some false by decide +kernel)
  | .dct => kit_ty (show kitB "dict" "tuple" = some false by decide +kernel)
theorem kit_str {K : PySem.W.Frag} : ∀ t : Th, PySem.W.kitOne K (.type t.tyName) (.type "str") = some t.isStr
  | .non => kit_ty (show kitB "NoneType" "str" = some false by decide +kernel)
  | .bl _ => kit_ty (show kitB "bool" "str" = some false by decide +kernel)
  | .int _ => kit_ty (show kitB "int" "str" = some false by decide +kernel)
  | .str _ => kit_ty (show kitB "str" "str" = some true by decide +kernel)
  | .tup _ => kit_ty (show kitB "tuple" "str" = some false by decide +kernel)
  | .lst _ => kit_ty (show kitB "list" "str" = some false by decide +kernel)
  | .dct => kit_ty (show kitB "dict" "str" = some false by decide +kernel)
theorem kit_int {K : PySem.W.Frag} : ∀ t : Th, PySem.W.kitOne K (.type t.tyName) (.type "int") = some t.isIntB
  | .non => kit_ty (show kitB "NoneType" "int" = some false by decide +kernel)
  | .bl _ => kit_ty (show kitB "bool" "int" = some true by decide +kernel)
  | .int _ => kit_ty (show kitB "int" "int" = some true by decide +kernel)
  | .str _ => kit_ty (show kitB "str" "int" = some false by decide +kernel)
  | .tup _ => kit_ty (show kitB "tuple" "int" = some false by decide +kernel)
  | .lst _ => kit_ty (show kitB "list" "int" = some false by decide +kernel)
  | .dct => kit_ty (show kitB "dict" "int" = some false by decide +kernel)
theorem kit_bl {K : PySem.W.Frag} : ∀ t : Th, PySem.W.kitOne K (.type t.tyName) (.type "bool") = some t.isBl
  | .non => kit_ty (show kitB "NoneType" "bool" = some false by decide +kernel)
  | .bl _ => kit_ty (show kitB "bool" "bool" = some true by decide +kernel)
  | .int _ => kit_ty (show kitB "int" "bool" = some false by decide +kernel)
  | .str _ => kit_ty (show kitB "str" "bool" = some false by decide +kernel)
  | .tup _ => kit_ty (show kitB "tuple" "bool" = some false by decide +kernel)
  | .lst _ => kit_ty (show kitB "list" "bool" = some false by decide +kernel)
  | .dct => kit_ty (show kitB "dict" "bool" = some false by decide +kernel)
theorem isInt_is (t : Th) : (t.isIntB && !t.isBl) = t.isInt := by cases t <;> rfl
/-- a comprehension over a text -/
theorem lcS {z : Str} {g : TG} {tt : TT} {te : TE} {vs : List Nat} {σ : L2.St} {H1 : Hp} {D : Addr} {Qd : Hp → Prop} (Pv : Nat → Hp → Prop)
    (h0 : Pv 0 (upd H1 D (.lst [])))
    (hs : ∀ i c H, z.cps[i]? = some c → Pv i H → g (.str ⟨#[c]⟩) (wipe σ vs) H
      fun σ2 H2 => wipe σ2 vs = wipe σ vs ∧ tt σ2 H2
        fun b H3 => if b = true then te σ2 H3
          fun y H4 => ∃ acc, H4 D = some (.lst acc) ∧ acc.length < sizeLine ∧ Pv (i + 1) (upd H4 D (.lst (acc ++ [y])))
        else Pv (i + 1) H3)
    (hd : ∀ H, Pv z.cps.size H → Qd H) :
    ∃ W : Nat → Nat → Hp → Prop, (∃ m, W 0 m (upd H1 D (.lst []))) ∧
      ∀ i m H, W i m H → ((Its z).stop i H ∧ Qd H) ∨ ((Its z).go i H ∧
        ∃ Nx : Hp → Prop, (∀ H', Nx H' → ∃ m', m' < m ∧ W (i + 1) m' H') ∧
          ∀ x H', (Its z).yld i H x H' → g x (wipe σ vs) H'
            fun σ2 H2 => wipe σ2 vs = wipe σ vs ∧ tt σ2 H2
              fun b H3 => if b = true then te σ2 H3
                fun y H4 => ∃ acc, H4 D = some (.lst acc) ∧ acc.length < sizeLine ∧ Nx (upd H4 D (.lst (acc ++ [y])))
              else Nx H3) := by
  refine ⟨fun i m H => m = z.cps.size - i ∧ i ≤ z.cps.size ∧ Pv i H, ⟨z.cps.size, rfl, Nat.zero_le _, h0⟩, fun i m H w => ?_⟩
  obtain ⟨em, hi, p⟩ := w
  by_cases hlt : i < z.cps.size
  · refine Or.inr ⟨hlt, Pv (i + 1), fun H' p' => ⟨z.cps.size - (i + 1), by omega, rfl, hlt, p'⟩, fun x H' y => ?_⟩
    obtain ⟨e1, c, e2, e3⟩ := y
    rw [e1, e3]
    exact hs i c H e2 p
  · have e : i = z.cps.size := by omega
    rw [e] at p
    exact Or.inl ⟨by show z.cps.size ≤ i; omega, hd H p⟩
/-- a list of data against a new empty one -/
theorem eqv_nil (l : List Th) : PyData.eqv (.list (Th.pyL l)) (.list []) = l.isEmpty := by cases l <;> rfl
theorem kw {k : List Nat} {w : List Nat} {lit : Str} (h : lit = SX.S w) : V.str (SX.S k) = V.str lit ↔ k = w := by
  rw [h]
  exact ⟨fun e => SX.S_inj (by cases e; rfl), fun e => by rw [e]⟩
theorem q_number : ("number" : Str) = SX.S w_number := by decide +kernel
theorem q_read : ("read" : Str) = SX.S w_read := by decide +kernel
theorem q_pick : ("pick" : Str) = SX.S w_pick := by decide +kernel
theorem q_choose : ("choose" : Str) = SX.S w_choose := by decide +kernel
theorem q_plus : ("plus" : Str) = SX.S w_plus := by decide +kernel
theorem q_minus : ("minus" : Str) = SX.S w_minus := by decide +kernel
theorem q_times : ("times" : Str) = SX.S w_times := by decide +kernel
theorem q_most : ("most" : Str) = SX.S w_most := by decide +kernel
theorem in_twos (k : List Nat) : inV (.str (SX.S k)) [.str "plus", .str "minus", .str "times", .str "most"] = decide (k ∈ twos) := by
  rw [q_plus, q_minus, q_times, q_most]
  have e : ∀ w : List Nat, (SX.S w == SX.S k) = decide (k = w) := fun w => by
    rw [SX.S_beq_eq]
    exact decide_eq_decide.mpr ⟨Eq.symm, Eq.symm⟩
  show ((SX.S w_plus == SX.S k) || ((SX.S w_minus == SX.S k) || ((SX.S w_times == SX.S k) || ((SX.S w_most == SX.S k) || false)))) = _
  rw [e, e, e, e]
  unfold twos
  simp only [List.mem_cons, List.not_mem_nil, or_false]
  simp [Bool.decide_or]
/-! ### a def that stands under another name -/
def IsDefA (K : PySem.W.Frag) (mg : Str → Option Value) (x nm : Str) (st : Stmt) (ps : List Str) : Prop := ∃ (f : Addr) (fd : FuncData), Fun K nm nm st f fd ∧ mg x = some (.ref f) ∧ Binds K fd ps []
theorem IsDefA.cal {P : Program} {w : World} {K : PySem.W.Frag} {mg : Str → Option Value} {base : Heap} {x nm : Str} {st : Stmt} {N ps : List Str} {k : Nat} {sp : Sp} (D : IsDefA K mg x nm st ps) (S : FnScope N ps (defScope st)) (len : ∀ vs H Q E, sp vs H Q E → vs.length = ps.length)
    (hbody : ∀ (f : Addr) (cdv : Value) (A : Around) (outer : List Env) (s : Shared) (H : Hp) (vs : List V) (Q : VK) (E : XK), Room k (A.deeper (envOfC nm (defScope st) s.heap.objs.size f cdv)) → sp vs H Q E →
      ∃ t, PSs (cxOf CX0 P w K mg base N nm (defScope st) f cdv A outer s H E).nox (defBody st) t ∧ t { nx := fun _ H' => Q .non H', rt := Q } (start N vs) H) : Cal P w K mg base CX0 (k + 1) x ps sp := by
  obtain ⟨f, fd, F, m, b⟩ := D
  exact ⟨f, fd, F.ok S len fun cdv A outer s H vs Q E => hbody f cdv A outer s H vs Q E, m, F.kp, b⟩
/-! ### names and recipes told -/
structure RTxt (K : PySem.W.Frag) (mg : Str → Option Value) (tw : Addr) : Prop where
  LETTERS : ∃ t, mg "LETTERS" = some (.str "abcdefghijklmnopqrstuvwxyz" t)
  LONGEST : ∃ t, mg "LONGEST" = some (.int 8 t)
  DEEPEST : ∃ t, mg "DEEPEST" = some (.int 8 t)
  MOST : ∃ t, mg "MOST_recipes" = some (.int 100 t)
  MOST_NAMES : ∃ t, mg "MOST_NAMES" = some (.int 9 t)
  TWOS : mg "TWOS" = some (.ref tw)
  twos : ∀ H, SqT K H tw [.str "plus", .str "minus", .str "times", .str "most"]
def spIsWhole : Sp := fun vs H Q _ => ∃ (v : V) (t : Th), vs = [v] ∧ Data H t v ∧ Q (.bl t.isInt) H
def spIsName : Sp := fun vs H Q _ => ∃ (v : V) (t : Th), vs = [v] ∧ Data H t v ∧ t.tame = true ∧ ∀ H', Same H H' → Q (.bl t.isNm) H'
def spAreNames : Sp := fun vs H Q _ => ∃ (v : V) (t : Th), vs = [v] ∧ Data H t v ∧ t.tame = true ∧ (∀ m, t = .tup m → Th.flatL m = true ∧ SeqAt.shaped (.list (Th.pyL m)) = true) ∧ ∀ H', Same H H' → Q (.bl t.areNms) H'
theorem letter_in (c : Nat) : decide (c ∈ ("abcdefghijklmnopqrstuvwxyz" : Str).cps.toList) = (decide (97 ≤ c) && decide (c ≤ 122)) := by
  rw [letters_is]
  show decide (c ∈ letters) = _
  rw [← Bool.decide_and]
  refine decide_eq_decide.mpr ⟨fun h => letters_ok c h, fun ⟨h1, h2⟩ => ?_⟩
  have : ∀ d : Nat, d < 26 → (97 + d) ∈ letters := by decide
  have := this (c - 97) (by omega)
  rwa [show 97 + (c - 97) = c by omega] at this
section
variable {P : Program} {w : World} {K : PySem.W.Frag} {mg : Str → Option Value} {base : Heap}
abbrev s_is_whole_recipes : Stmt := topS 16
abbrev N_is_whole_recipes : List Str := ["thing"]
theorem sc_is_whole_recipes : FnScope N_is_whole_recipes ["thing"] (defScope s_is_whole_recipes) := ⟨rfl, rfl, rfl, by decide +kernel, rfl, by decide +kernel, by decide +kernel⟩

theorem ok_is_whole_recipes (T : Txt K mg) (D : IsDefA K mg "is_whole_recipes" "is_whole" s_is_whole_recipes ["thing"]) : Cal P w K mg base CX0 1 "is_whole_recipes" ["thing"] spIsWhole := by
  refine D.cal sc_is_whole_recipes (fun vs H Q E h => ?_) (fun f cdv A outer s H vs Q E hr h => ?_)
  · obtain ⟨v, t, rfl, _⟩ := h
    rfl
  obtain ⟨v, t, rfl, hv, q⟩ := h
  refine ⟨_, (pss_one (ps_ret (pe_and (pe_callB call_isi (by rfl) T.b_isinstance (by decide +kernel) (pa_cons (pv 0) (pa_cons (pe_bltn (v := .ty "int") (by rfl) T.b_int (by decide +kernel) rfl) pa_nil))) (pe_one (pe_not (pe_callB call_isi (by rfl) T.b_isinstance (by decide +kernel) (pa_cons (pv 0) (pa_cons (pe_bltn (v := .ty "bool") (by rfl) T.b_bool (by decide +kernel) rfl) pa_nil)))))))), ?_⟩
  refine ⟨_, rfl, _, _, _, _, _, rfl, .ty _, hv.ty, kit_int t, _, rfl, ?_⟩
  have e := isInt_is t
  cases h1 : t.isIntB with
  | false =>
    rw [h1, Bool.false_and] at e
    refine iteF ?_
    rw [e]
    exact q
  | true =>
    rw [h1, Bool.true_and] at e
    refine iteT ?_
    refine ⟨_, rfl, _, _, _, _, _, rfl, .ty _, hv.ty, kit_bl t, _, rfl, ?_⟩
    rw [e]
    exact q
abbrev s_is_whole_behind : Stmt := topS 25
abbrev N_is_whole_behind : List Str := ["thing"]
theorem sc_is_whole_behind : FnScope N_is_whole_behind ["thing"] (defScope s_is_whole_behind) := ⟨rfl, rfl, rfl, by decide +kernel, rfl, by decide +kernel, by decide +kernel⟩

theorem ok_is_whole_behind (T : Txt K mg) (D : IsDefA K mg "is_whole_behind" "is_whole" s_is_whole_behind ["thing"]) : Cal P w K mg base CX0 1 "is_whole_behind" ["thing"] spIsWhole := by
  refine D.cal sc_is_whole_behind (fun vs H Q E h => ?_) (fun f cdv A outer s H vs Q E hr h => ?_)
  · obtain ⟨v, t, rfl, _⟩ := h
    rfl
  obtain ⟨v, t, rfl, hv, q⟩ := h
  refine ⟨_, (pss_one (ps_ret (pe_and (pe_callB call_isi (by rfl) T.b_isinstance (by decide +kernel) (pa_cons (pv 0) (pa_cons (pe_bltn (v := .ty "int") (by rfl) T.b_int (by decide +kernel) rfl) pa_nil))) (pe_one (pe_not (pe_callB call_isi (by rfl) T.b_isinstance (by decide +kernel) (pa_cons (pv 0) (pa_cons (pe_bltn (v := .ty "bool") (by rfl) T.b_bool (by decide +kernel) rfl) pa_nil)))))))), ?_⟩
  refine ⟨_, rfl, _, _, _, _, _, rfl, .ty _, hv.ty, kit_int t, _, rfl, ?_⟩
  have e := isInt_is t
  cases h1 : t.isIntB with
  | false =>
    rw [h1, Bool.false_and] at e
    refine iteF ?_
    rw [e]
    exact q
  | true =>
    rw [h1, Bool.true_and] at e
    refine iteT ?_
    refine ⟨_, rfl, _, _, _, _, _, rfl, .ty _, hv.ty, kit_bl t, _, rfl, ?_⟩
    rw [e]
    exact q
abbrev s_is_name : Stmt := topS 18
abbrev N_is_name : List Str := ["thing", "sign"]
theorem sc_is_name : FnScope N_is_name ["thing"] (defScope s_is_name) := ⟨rfl, rfl, rfl, by decide +kernel, rfl, by decide +kernel, by decide +kernel⟩

theorem ok_is_name {tw : Addr} (T : Txt K mg) (R : RTxt K mg tw) (D : IsDef K mg "is_name" s_is_name ["thing"]) : Cal P w K mg base CX0 1 "is_name" ["thing"] spIsName := by
  refine D.cal sc_is_name (fun vs H Q E h => ?_) (fun f cdv A outer s H vs Q E hr h => ?_)
  · obtain ⟨v, t, rfl, _⟩ := h
    rfl
  obtain ⟨v, t, rfl, hv, ht, q⟩ := h
  obtain ⟨_, g_LETTERS⟩ := R.LETTERS
  obtain ⟨_, g_LONGEST⟩ := R.LONGEST
  refine ⟨_, (pss_cons (ps_if (PW.pt (pw_or (pt_not (pt_val (pe_callB call_isi (by rfl) T.b_isinstance (by decide +kernel) (pa_cons (pv 0) (pa_cons (pe_bltn (v := .ty "str") (by rfl) T.b_str (by decide +kernel) rfl) pa_nil))))) (pw_or (pt_cmpR op_lt (pe_callB call_len_str (by rfl) T.b_len PySem.boot_len (pa_cons (pv 0) pa_nil)) pe_int (nomark _)) (pw_or1 (pt_cmpR op_gt (pe_callB call_len_str (by rfl) T.b_len PySem.boot_len (pa_cons (pv 0) pa_nil)) (pe_glob (v := .int _) rfl g_LONGEST ⟨_, rfl⟩) (nomark _))))))
        (pss_one (ps_ret pe_bl))
        pss_nil)
      (pss_one (ps_ret (pe_cmpR (op_eqD hr.units) (pe_lc (own := [("sign", 1)]) (g := gName 1)  (by rfl) sc_is_name.nd  (pi_str (pv 0)) (blkOk_by (own := [("sign", 1)]) (N := N_is_name) (sc := defScope s_is_name) (by decide +kernel)) (fun _ _ _ _ _ => (pg_name (i := 1) sc_is_name.nd rfl (Or.inl rfl))) (fun _ _ _ _ _ => (pts_one (pt_cmpR op_notIn_sign (pv 1) (pe_glob (v := .str _) rfl g_LETTERS ⟨_, rfl⟩) rfl))) (fun _ _ _ _ _ => (pv 1))) (pe_lst pa_nil) (nomark _))))), ?_⟩
  refine ⟨_, rfl, _, _, _, _, _, rfl, .ty _, hv.ty, kit_str t, _, rfl, ?_⟩
  cases t with
  | str z =>
    have hz : z.length ≤ 1000000 := by
      have : (decide (z.length ≤ 1000000) && z.all fun c => decide (c < 128)) = true := ht
      rw [Bool.and_eq_true, decide_eq_true_eq] at this
      exact this.1
    have hc : ∀ c ∈ z, c < 128 := by
      have : (decide (z.length ≤ 1000000) && z.all fun c => decide (c < 128)) = true := ht
      rw [Bool.and_eq_true, List.all_eq_true] at this
      exact fun c h => of_decide_eq_true (this.2 c h)
    have ev : v = .str (SX.S z) := hv
    subst ev
    refine iteF ?_
    have hl : (SX.S z).length ≤ sizeLine := by rw [SX.S_len]; exact le_line (by omega)
    refine ⟨_, rfl, _, rfl, hl, _, _, rfl, rfl, _, rfl, ?_⟩
    by_cases h1 : (((SX.S z).length : Nat) : Int) < 1
    · refine iteY h1 (iteT ?_)
      have e : nmOk z = false := by
        unfold nmOk
        rw [SX.S_len] at h1
        rw [decide_eq_false (show ¬ 1 ≤ z.length by omega)]
        rfl
      have : Q (.bl (nmOk z)) H := q H (Same.refl H)
      rw [e] at this
      exact this
    refine iteN h1 ?_
    refine ⟨_, rfl, _, rfl, hl, _, _, rfl, rfl, _, rfl, ?_⟩
    by_cases h2 : (((SX.S z).length : Nat) : Int) > 8
    · refine iteY h2 ?_
      have e : nmOk z = false := by
        unfold nmOk
        rw [SX.S_len] at h2
        rw [decide_eq_false (show ¬ z.length ≤ 8 by omega), Bool.and_false]
        rfl
      have : Q (.bl (nmOk z)) H := q H (Same.refl H)
      rw [e] at this
      exact this
    refine iteN h2 ?_
    rw [SX.S_len] at h1 h2
    refine ⟨_, rfl, _, rfl, fun L nL => lcS (z := SX.S z) (fun i H' => Same H H' ∧ H' L = some (.lst (txs (ones ((z.take i).filter fun c => !(decide (97 ≤ c) && decide (c ≤ 122)))))))
      ⟨same_new nL _, upd_same⟩ ?_ ?_⟩
    · rintro i c H1 hc1 ⟨hs, hL⟩
      have hci : z[i]? = some c := by
        have : z.toArray[i]? = some c := hc1
        rwa [List.getElem?_toArray] at this
      have e1 : (z.take (i + 1)) = z.take i ++ [c] := by rw [List.take_add_one, hci]; rfl
      refine ⟨rfl, _, rfl, c, _, rfl, rfl, _, rfl, ?_⟩
      rw [letter_in]
      cases hcc : (decide (97 ≤ c) && decide (c ≤ 122)) with
      | true =>
        refine iteF ⟨hs, ?_⟩
        rw [e1, List.filter_append, List.filter_cons_of_neg (by rw [hcc]; decide), List.filter_nil, List.append_nil]
        exact hL
      | false =>
        refine iteT ⟨_, rfl, _, hL, ?_, same_upd hs nL _, ?_⟩
        · rw [txs_len, ones_len]
          exact lt_line (Nat.lt_of_le_of_lt (List.length_filter_le _ _) (by rw [List.length_take]; omega))
        · rw [upd_same, e1, List.filter_append, List.filter_cons_of_pos (by rw [hcc]; rfl), List.filter_nil]
          unfold ones
          rw [List.map_append, txs_app]
          rfl
    · rintro H1 ⟨hs, hL⟩
      have ez : z.take (SX.S z).cps.size = z := List.take_of_length_le (by show z.length ≤ z.toArray.size; simp)
      rw [ez] at hL
      refine ⟨Nat.zero_le _, fun e ne => ?_⟩
      have Le : L ≠ e := ne_of_none hL ne
      have dd : ∀ (H : Hp) (l : List Nat), DpAll K H (txs (ones l)) (l.map fun c => PyData.str (SX.S [c])) := fun H l => by
        induction l with
        | nil => exact .nil
        | cons c l ih => exact .cons (.str _) ih
      have sh : ∀ l : List Nat, (∀ c ∈ l, c < 128) → PyData.canLayAll0 (l.map fun c => PyData.str (SX.S [c])) = true ∧ PyData.depthAll (l.map fun c => PyData.str (SX.S [c])) = 0 := fun l hl => by
        induction l with
        | nil => exact ⟨rfl, rfl⟩
        | cons c l ih =>
          have ih := ih fun d h => hl d (List.mem_cons_of_mem _ h)
          refine ⟨?_, ?_⟩
          · show ((SX.S [c]).cps.all (· < 0x110000) && PyData.canLayAll0 _) = true
            rw [ih.1]
            have := hl c (List.mem_cons_self ..)
            simp
            omega
          · show max 0 _ = 0
            rw [ih.2]
            rfl
      have s1 := sh (z.filter fun c => !(decide (97 ≤ c) && decide (c ≤ 122))) fun c h => hc c (List.mem_filter.mp h).1
      refine ⟨_, _, .lst (SqL.of (by rw [upd_ne Le]; exact hL)) (dd _ _), .lst (SqL.of upd_same) .nil, shaped_parts.mpr ⟨s1.1, by rw [s1.2]; decide⟩, rfl, ?_⟩
      have ef : ∀ l : List Nat, PyData.eqv (.list (l.map fun c => PyData.str (SX.S [c]))) (.list []) = l.isEmpty := fun l => by cases l <;> rfl
      rw [ef]
      have en : nmOk z = (z.filter fun c => !(decide (97 ≤ c) && decide (c ≤ 122))).isEmpty := by
        unfold nmOk
        rw [decide_eq_true (show 1 ≤ z.length by omega), decide_eq_true (show z.length ≤ 8 by omega)]
        show (z.all fun c => decide (97 ≤ c) && decide (c ≤ 122)) = _
        generalize z = l
        induction l with
        | nil => rfl
        | cons c l ih =>
          rw [List.all_cons, List.filter_cons, ih]
          cases (decide (97 ≤ c) && decide (c ≤ 122)) <;> rfl
      rw [← en]
      exact q _ (hs.trans (same_new ne _))
  | _ => exact iteT (q H (Same.refl H))
end
def spWithin (K : PySem.W.Frag) : Sp := fun vs H Q _ => ∃ (v : V) (t : Th), vs = [v] ∧ Data H t v ∧ t.tame = true ∧ (t.parts = none → ∀ H', Same H H' → Q .non H') ∧ (∀ ps, t.parts = some ps → ∀ (H' : Hp) (a : Addr) (xs : List V), Same H H' → H' a = some (.tup xs) → (∀ B, Same B H → Data B t v → DataL B ps xs) → Q (.ref a) H')
theorem data_in {B H : Hp} (s : Same B H) {l : List Th} {p : Addr} {xs : List V} (d : Data B (.tup l) (.ref p)) (hp : H p = some (.tup xs)) : DataL B l xs := by
  obtain ⟨p', xs', e, hp', hl⟩ := d
  cases e
  have z := s _ _ hp'
  rw [hp] at z
  cases z
  exact hl
theorem tup_tame {k : List Nat} {l : List Th} (h : (Th.tup (.str k :: l)).tame = true) : tameS k = true ∧ Th.tameL l = true ∧ l.length ≤ 1000000 ∧ namesTame (.str k :: l) = true := by
  have e : ((tameS k && Th.tameL l) && decide (l.length + 1 ≤ 1000000) && namesTame (.str k :: l)) = true := h
  rw [Bool.and_eq_true, Bool.and_eq_true, Bool.and_eq_true, decide_eq_true_eq] at e
  exact ⟨e.1.1.1, e.1.1.2, by omega, e.2⟩
section
variable {P : Program} {w : World} {K : PySem.W.Frag} {mg : Str → Option Value} {base : Heap}
abbrev s_are_names : Stmt := topS 19
abbrev N_are_names : List Str := ["thing", "name"]
theorem sc_are_names : FnScope N_are_names ["thing"] (defScope s_are_names) := ⟨rfl, rfl, rfl, by decide +kernel, rfl, by decide +kernel, by decide +kernel⟩

theorem ok_are_names {tw : Addr} (T : Txt K mg) (R : RTxt K mg tw) (D : IsDef K mg "are_names" s_are_names ["thing"]) (C_is_name : Cal P w K mg base CX0 1 "is_name" ["thing"] spIsName) : Cal P w K mg base CX0 2 "are_names" ["thing"] spAreNames := by
  refine D.cal sc_are_names (fun vs H Q E h => ?_) (fun f cdv A outer s H vs Q E hr h => ?_)
  · obtain ⟨v, t, rfl, _⟩ := h
    rfl
  obtain ⟨v, t, rfl, hv, ht, hf, q⟩ := h
  obtain ⟨_, g_MOST_NAMES⟩ := R.MOST_NAMES
  refine ⟨_, (pss_cons (ps_if (PW.pt (pw_or (pt_not (pt_val (pe_callB call_isi (by rfl) T.b_isinstance (by decide +kernel) (pa_cons (pv 0) (pa_cons (pe_bltn (v := .ty "tuple") (by rfl) T.b_tuple (by decide +kernel) rfl) pa_nil))))) (pw_or (pt_cmpR op_lt (pe_callB call_len_seq (by rfl) T.b_len PySem.boot_len (pa_cons (pv 0) pa_nil)) pe_int (nomark _)) (pw_or1 (pt_cmpR op_gt (pe_callB call_len_seq (by rfl) T.b_len PySem.boot_len (pa_cons (pv 0) pa_nil)) (pe_glob (v := .int _) rfl g_MOST_NAMES ⟨_, rfl⟩) (nomark _))))))
        (pss_one (ps_ret pe_bl))
        pss_nil)
      (pss_one (ps_ret (pe_cmpR (op_eqD hr.units) (pe_lc (own := [("name", 1)]) (g := gName 1)  (by rfl) sc_are_names.nd  (pi_tup (pv 0)) (blkOk_by (own := [("name", 1)]) (N := N_are_names) (sc := defScope s_are_names) (by decide +kernel)) (fun _ _ _ _ _ => (pg_name (i := 1) sc_are_names.nd rfl (Or.inl rfl))) (fun _ _ _ _ _ => (pts_one (pt_not (pt_val (pe_cal C_is_name (hr.mono (by first | decide | omega)) pass0 (pa_cons (pv 1) pa_nil)))))) (fun _ _ _ _ _ => (pv 1))) (pe_lst pa_nil) (nomark _))))), ?_⟩
  refine ⟨_, rfl, _, _, _, _, _, rfl, .ty _, hv.ty, kit_tup t, _, rfl, ?_⟩
  cases t with
  | tup l =>
    obtain ⟨p, xs, rfl, hp, hl⟩ := hv
    have hxl := hl.len
    have hq := q H (Same.refl H)
    have ea : (Th.tup l).areNms = (decide (1 ≤ l.length) && decide (l.length ≤ 9) && l.all Th.isNm) := rfl
    rw [ea] at hq q
    refine iteF ?_
    refine ⟨_, rfl, p, _, rfl, .inr (SqT.of hp), _, _, rfl, rfl, _, rfl, ?_⟩
    by_cases h1 : ((xs.length : Nat) : Int) < 1
    · refine iteY h1 (iteT ?_)
      rw [decide_eq_false (show ¬ 1 ≤ l.length by omega)] at hq
      exact hq
    refine iteN h1 ?_
    refine ⟨_, rfl, p, _, rfl, .inr (SqT.of hp), _, _, rfl, rfl, _, rfl, ?_⟩
    by_cases h2 : ((xs.length : Nat) : Int) > 9
    · refine iteY h2 ?_
      rw [decide_eq_false (show ¬ l.length ≤ 9 by omega), Bool.and_false] at hq
      exact hq
    refine iteN h2 ?_
    rw [decide_eq_true (show 1 ≤ l.length by omega), decide_eq_true (show l.length ≤ 9 by omega)] at q
    have htl : Th.tameL l = true := by
      have e : (Th.tameL l && decide (l.length ≤ 1000000) && namesTame l) = true := ht
      rw [Bool.and_eq_true, Bool.and_eq_true] at e
      exact e.1.1
    refine ⟨_, rfl, p, rfl, ⟨_, SqT.of hp⟩, fun L nL => lc_tup (K := K) (a := p) (xs := xs) (fun i H' => Same H H' ∧ ∃ ys, H' L = some (.lst ys) ∧ DataL H ((l.take i).filter fun t => !t.isNm) ys)
      ⟨same_new nL _, [], upd_same, rfl⟩ (fun i H' _ h => SqT.of (h.1 _ _ hp)) ?_ ?_⟩
    · rintro i x H1 hx ⟨hs, ys, hL, hy⟩
      obtain ⟨t, hti, hd⟩ := hl.at hx
      have hm : t ∈ l := List.mem_of_getElem? hti
      have e1 : (l.take (i + 1)) = l.take i ++ [t] := by rw [List.take_add_one, hti]; rfl
      refine ⟨rfl, _, rfl, x, t, rfl, hd.same hs, tameL_mem htl t hm, fun H2 s2 => ⟨_, rfl, ?_⟩⟩
      have hs2 := hs.trans s2
      cases htt : t.isNm with
      | true =>
        refine iteF ⟨hs2, ys, s2 _ _ hL, ?_⟩
        rw [e1, List.filter_append, List.filter_cons_of_neg (by rw [htt]; decide), List.filter_nil, List.append_nil]
        exact hy
      | false =>
        have hyl : ys.length ≤ 9 := by
          rw [hy.len]
          have := List.length_filter_le (fun t : Th => !t.isNm) (l.take i)
          have := List.length_take_le i l
          rw [List.length_take] at *
          omega
        refine iteT ⟨_, rfl, ys, s2 _ _ hL, lt_line (by omega), same_upd hs2 nL _, _, upd_same, ?_⟩
        rw [e1, List.filter_append, List.filter_cons_of_pos (by rw [htt]; rfl), List.filter_nil]
        exact hy.snoc hd
    · rintro H1 ⟨hs, ys, hL, hy⟩
      rw [hxl, List.take_length] at hy
      refine ⟨Nat.zero_le _, fun e ne => ?_⟩
      have Le : L ≠ e := ne_of_none hL ne
      have hff := hf l rfl
      refine ⟨_, _, .lst (SqL.of (by rw [upd_ne Le]; exact hL)) (DataL.dp (flatL_filter (fun t => !t.isNm) hff.1) (hy.same (hs.trans (same_new ne _)))), .lst (SqL.of upd_same) .nil, shaped_filter (fun t => !t.isNm) hff.2, rfl, ?_⟩
      rw [eqv_nil]
      have en : (l.filter fun t => !t.isNm).isEmpty = l.all Th.isNm := by
        generalize l = m
        induction m with
        | nil => rfl
        | cons c m ih =>
          rw [List.all_cons, List.filter_cons, ← ih]
          cases c.isNm <;> rfl
      rw [en]
      exact q _ (hs.trans (same_new ne _))
  | _ => exact iteT (q H (Same.refl H))
abbrev s_within : Stmt := topS 20
abbrev N_within : List Str := ["thing", "kind"]
theorem sc_within : FnScope N_within ["thing"] (defScope s_within) := ⟨rfl, rfl, rfl, by decide +kernel, rfl, by decide +kernel, by decide +kernel⟩

theorem cut_tail (a b : V) (r : List V) : cutV (a :: b :: r) (some 1) none = b :: r := by
  show ((a :: b :: r).drop (HT.sIx (a :: b :: r).length 0 (some ((1 : Nat) : Int)))).take (HT.sIx (a :: b :: r).length (a :: b :: r).length none - HT.sIx (a :: b :: r).length 0 (some ((1 : Nat) : Int))) = _
  rw [HT.sIx_nat, HT.sIx_none, Nat.min_eq_left (by simp), List.drop_one, List.tail_cons, List.take_of_length_le (by simp)]
theorem slice_ne (a b : V) (r : List V) : ¬ (HT.sIx (a :: b :: r).length 0 (some 1) = 0 ∧ HT.sIx (a :: b :: r).length (a :: b :: r).length none = (a :: b :: r).length) := fun z => by
  have z1 : HT.sIx (a :: b :: r).length 0 (some ((1 : Nat) : Int)) = 0 := z.1
  rw [HT.sIx_nat, Nat.min_eq_left (by simp)] at z1
  cases z1
theorem cut_one (a b c : V) : cutV [a, b, c] (some 1) (some 2) = [b] := rfl
theorem iteInY {k : List Nat} {A B : Prop} (h : k ∈ twos) (a : A) : if inV (.str (SX.S k)) [.str "plus", .str "minus", .str "times", .str "most"] = true then A else B := by
  rw [in_twos, if_pos (decide_eq_true h)]; exact a
theorem iteInN {k : List Nat} {A B : Prop} (h : ¬ k ∈ twos) (b : B) : if inV (.str (SX.S k)) [.str "plus", .str "minus", .str "times", .str "most"] = true then A else B := by
  rw [in_twos, if_neg (fun z => h (of_decide_eq_true z))]; exact b
theorem ok_within {tw : Addr} (T : Txt K mg) (R : RTxt K mg tw) (D : IsDef K mg "within" s_within ["thing"]) (C_is_whole_recipes : Cal P w K mg base CX0 1 "is_whole_recipes" ["thing"] spIsWhole) (C_is_name : Cal P w K mg base CX0 1 "is_name" ["thing"] spIsName)
    (C_are_names : Cal P w K mg base CX0 2 "are_names" ["thing"] spAreNames) : Cal P w K mg base CX0 3 "within" ["thing"] (spWithin K) := by
  refine D.cal sc_within (fun vs H Q E h => ?_) (fun f cdv A outer s H vs Q E hr h => ?_)
  · obtain ⟨v, t, rfl, _⟩ := h
    rfl
  obtain ⟨v, t, rfl, hv, ht, qn, qs⟩ := h
  have g_TWOS := R.TWOS
  refine ⟨_, (pss_cons (ps_if (PW.pt (pw_or (pt_not (pt_val (pe_callB call_isi (by rfl) T.b_isinstance (by decide +kernel) (pa_cons (pv 0) (pa_cons (pe_bltn (v := .ty "tuple") (by rfl) T.b_tuple (by decide +kernel) rfl) pa_nil))))) (pw_or (pt_cmpR op_lt (pe_callB call_len_seq (by rfl) T.b_len PySem.boot_len (pa_cons (pv 0) pa_nil)) pe_int (nomark _)) (pw_or1 (pt_not (pt_val (pe_callB call_isi (by rfl) T.b_isinstance (by decide +kernel) (pa_cons (pe_ix (r := rIxT K) ix_tup (pv 0) pe_int (fun _ _ => rfl)) (pa_cons (pe_bltn (v := .ty "str") (by rfl) T.b_str (by decide +kernel) rfl) pa_nil)))))))))
        (pss_one (ps_ret pe_non))
        pss_nil)
      (pss_cons (ps_set (i := 1) sc_within.nd rfl (Or.inl rfl) (pe_ix (r := rIxT K) ix_tup (pv 0) pe_int (fun _ _ => rfl)))
      (pss_cons (ps_if (PW.pt (pw_and (pt_cmpR op_eq (pv 1) pe_str (nomark _)) (pw_and (pt_cmpR op_eq (pe_callB call_len_seq (by rfl) T.b_len PySem.boot_len (pa_cons (pv 0) pa_nil)) pe_int (nomark _)) (pw_and1 (pt_val (pe_cal C_is_whole_recipes (hr.mono (by first | decide | omega)) pass0 (pa_cons (pe_ix (r := rIxT K) ix_tup (pv 0) pe_int (fun _ _ => rfl)) pa_nil)))))))
        (pss_one (ps_ret (pe_tup pa_nil)))
        pss_nil)
      (pss_cons (ps_if (PW.pt (pw_and (pt_cmpR op_eq (pv 1) pe_str (nomark _)) (pw_and (pt_cmpR op_eq (pe_callB call_len_seq (by rfl) T.b_len PySem.boot_len (pa_cons (pv 0) pa_nil)) pe_int (nomark _)) (pw_and1 (pt_val (pe_cal C_is_name (hr.mono (by first | decide | omega)) pass0 (pa_cons (pe_ix (r := rIxT K) ix_tup (pv 0) pe_int (fun _ _ => rfl)) pa_nil)))))))
        (pss_one (ps_ret (pe_tup pa_nil)))
        pss_nil)
      (pss_cons (ps_if (PW.pt (pw_or (PW.pt (pw_and (pt_cmpR op_in_seq (pv 1) (pe_glob (v := .ref _) rfl g_TWOS rfl) (by with_unfolding_all rfl)) (pw_and1 (pt_cmpR op_eq (pe_callB call_len_seq (by rfl) T.b_len PySem.boot_len (pa_cons (pv 0) pa_nil)) pe_int (nomark _))))) (pw_or1 (PW.pt (pw_and (pt_cmpR op_eq (pv 1) pe_str (nomark _)) (pw_and1 (pt_cmpR op_eq (pe_callB call_len_seq (by rfl) T.b_len PySem.boot_len (pa_cons (pv 0) pa_nil)) pe_int (nomark _))))))))
        (pss_one (ps_ret (pe_slice (r := rSlT K) sl_tup (pv 0) (po_some pe_int) po_none)))
        pss_nil)
      (pss_cons (ps_if (PW.pt (pw_and (pt_cmpR op_eq (pv 1) pe_str (nomark _)) (pw_and (pt_cmpR op_eq (pe_callB call_len_seq (by rfl) T.b_len PySem.boot_len (pa_cons (pv 0) pa_nil)) pe_int (nomark _)) (pw_and1 (pt_val (pe_cal C_are_names (hr.mono (by first | decide | omega)) pass0 (pa_cons (pe_ix (r := rIxT K) ix_tup (pv 0) pe_int (fun _ _ => rfl)) pa_nil)))))))
        (pss_one (ps_ret (pe_slice (r := rSlT K) sl_tup (pv 0) (po_some pe_int) (po_some pe_int))))
        pss_nil)
      (pss_one (ps_ret pe_non)))))))), ?_⟩
  refine ⟨_, rfl, _, _, _, _, _, rfl, .ty _, hv.ty, kit_tup t, _, rfl, ?_⟩
  cases t with
  | tup l0 =>
    obtain ⟨p, xs0, rfl, hp, hl0⟩ := hv
    refine iteF ?_
    refine ⟨_, rfl, p, _, rfl, .inr (SqT.of hp), _, _, rfl, rfl, _, rfl, ?_⟩
    cases l0 with
    | nil =>
      rw [show xs0 = [] from hl0]
      exact iteY (by decide) (iteT (qn rfl H (Same.refl H)))
    | cons t0 l =>
      obtain ⟨x0, xs, rfl, hd0, hl⟩ := hl0
      cases l with
      | nil =>
        rw [show xs = [] from hl]
        refine iteY (by show ((1 : Nat) : Int) < 2; decide) (iteT (qn ?_ H (Same.refl H)))
        cases t0 with
        | str k =>
          show formParts k [] = none
          unfold formParts
          simp
        | _ => rfl
      | cons t1 l' =>
        have hxl : xs.length = (t1 :: l').length := hl.len
        have hlen : (((x0 :: xs).length : Nat) : Int) = ((l'.length + 2 : Nat) : Int) := by rw [List.length_cons, hxl]; rfl
        refine iteN (by rw [hlen]; omega) ?_
        refine ⟨_, rfl, p, _, _, _, rfl, rfl, SqT.of hp, atI_at (by decide) rfl, _, _, _, _, _, rfl, .ty _, hd0.ty, kit_str t0, _, rfl, ?_⟩
        cases t0 with
        | str k =>
          obtain rfl : x0 = V.str (SX.S k) := hd0
          obtain ⟨_, htl, _, hnt⟩ := tup_tame ht
          have ep : (Th.tup (.str k :: t1 :: l')).parts = formParts k (t1 :: l') := rfl
          rw [ep] at qn qs
          obtain ⟨x1, xs', rfl, hd1, hl'⟩ := hl
          have hx' := hl'.len
          refine iteF ?_
          refine ⟨_, rfl, p, _, _, _, rfl, rfl, SqT.of hp, atI_at (by decide) rfl, ?_⟩
          have no : formParts k (t1 :: l') = none → ∀ H', Same H H' → Q .non H' := qn
          have n0 : ∀ w : List Nat, ∀ lit : Str, lit = SX.S w → k ≠ w → ¬ V.str (SX.S k) = V.str lit := fun w lit e hk z => hk ((kw e).mp z)
          have y0 : ∀ w : List Nat, ∀ lit : Str, lit = SX.S w → k = w → V.str (SX.S k) = V.str lit := fun w lit e hk => (kw e).mpr hk
          have len_is : ∀ m : Nat, (V.int (((V.str (SX.S k) :: x1 :: xs').length : Nat) : Int) = V.int ((m + 2 : Nat) : Int)) ↔ l'.length = m := fun m => by
            constructor
            · intro e
              have e' : (((V.str (SX.S k) :: x1 :: xs').length : Nat) : Int) = ((m + 2 : Nat) : Int) := by cases e; rfl
              rw [hlen] at e'
              omega
            · intro e
              rw [hlen, e]
          by_cases k1 : k = w_number
          · have fp : formParts k (t1 :: l') = if l'.length = 0 ∧ t1.isInt = true then some [] else none := by
                unfold formParts
                rw [if_pos k1]
                simp
            have n_read : k ≠ w_read := by rw [k1]; decide
            have n_pick : k ≠ w_pick := by rw [k1]; decide
            have n_choose : k ≠ w_choose := by rw [k1]; decide
            have nt : ¬ k ∈ twos := by rw [k1]; decide
            refine ⟨_, rfl, rfl, _, rfl, iteY (y0 _ _ q_number k1) ?_⟩
            refine ⟨_, rfl, p, _, rfl, .inr (SqT.of hp), rfl, _, rfl, ?_⟩
            by_cases hl0 : l'.length = 0
            · refine iteY ((len_is 0).mpr hl0) ?_
              refine ⟨_, rfl, p, _, _, _, rfl, rfl, SqT.of hp, atI_at (by decide) rfl, x1, t1, rfl, hd1, _, rfl, ?_⟩
              cases hi : t1.isInt with
              | true =>
                exact iteT ⟨Nat.zero_le _, fun a na => qs [] (by rw [fp, if_pos ⟨hl0, hi⟩]) _ a [] (same_new na _) upd_same fun _ _ _ => rfl⟩
              | false =>
                refine iteF ?_
                refine ⟨_, rfl, rfl, _, rfl, iteN (n0 _ _ q_read n_read) (iteF ?_)⟩
                refine ⟨_, rfl, tw, _, rfl, .inr (R.twos H), rfl, rfl, _, rfl, iteInN nt (iteF ?_)⟩
                refine ⟨_, rfl, rfl, _, rfl, iteN (n0 _ _ q_pick n_pick) (iteF ?_)⟩
                refine ⟨_, rfl, rfl, _, rfl, iteN (n0 _ _ q_choose n_choose) (iteF ?_)⟩
                exact no (by rw [fp, if_neg (fun z => by rw [hi] at z; cases z.2)]) H (Same.refl H)
            · refine iteN (fun z => hl0 ((len_is 0).mp z)) (iteF ?_)
              refine ⟨_, rfl, rfl, _, rfl, iteN (n0 _ _ q_read n_read) (iteF ?_)⟩
              refine ⟨_, rfl, tw, _, rfl, .inr (R.twos H), rfl, rfl, _, rfl, iteInN nt (iteF ?_)⟩
              refine ⟨_, rfl, rfl, _, rfl, iteN (n0 _ _ q_pick n_pick) (iteF ?_)⟩
              refine ⟨_, rfl, rfl, _, rfl, iteN (n0 _ _ q_choose n_choose) (iteF ?_)⟩
              exact no (by rw [fp, if_neg (fun z => hl0 z.1)]) H (Same.refl H)
          have n_number := k1
          refine ⟨_, rfl, rfl, _, rfl, iteN (n0 _ _ q_number n_number) (iteF ?_)⟩
          by_cases k2 : k = w_read
          · have fp : formParts k (t1 :: l') = if l'.length = 0 ∧ t1.isNm = true then some [] else none := by
              unfold formParts
              rw [if_neg k1, if_pos k2]
              simp
            have n_pick : k ≠ w_pick := by rw [k2]; decide
            have n_choose : k ≠ w_choose := by rw [k2]; decide
            have nt : ¬ k ∈ twos := by rw [k2]; decide
            refine ⟨_, rfl, rfl, _, rfl, iteY (y0 _ _ q_read k2) ?_⟩
            refine ⟨_, rfl, p, _, rfl, .inr (SqT.of hp), rfl, _, rfl, ?_⟩
            by_cases hl0 : l'.length = 0
            · refine iteY ((len_is 0).mpr hl0) ?_
              refine ⟨_, rfl, p, _, _, _, rfl, rfl, SqT.of hp, atI_at (by decide) rfl, x1, t1, rfl, hd1, tameL_mem htl t1 (List.mem_cons_self ..), fun H1 hs1 => ⟨_, rfl, ?_⟩⟩
              cases hi : t1.isNm with
              | true =>
                exact iteT ⟨Nat.zero_le _, fun a na => qs [] (by rw [fp, if_pos ⟨hl0, hi⟩]) _ a [] (hs1.trans (same_new na _)) upd_same fun _ _ _ => rfl⟩
              | false =>
                refine iteF ?_
                refine ⟨_, rfl, tw, _, rfl, .inr (R.twos H1), rfl, rfl, _, rfl, iteInN nt (iteF ?_)⟩
                refine ⟨_, rfl, rfl, _, rfl, iteN (n0 _ _ q_pick n_pick) (iteF ?_)⟩
                refine ⟨_, rfl, rfl, _, rfl, iteN (n0 _ _ q_choose n_choose) (iteF ?_)⟩
                exact no (by rw [fp, if_neg (fun z => by rw [hi] at z; cases z.2)]) H1 hs1
            · refine iteN (fun z => hl0 ((len_is 0).mp z)) (iteF ?_)
              refine ⟨_, rfl, tw, _, rfl, .inr (R.twos H), rfl, rfl, _, rfl, iteInN nt (iteF ?_)⟩
              refine ⟨_, rfl, rfl, _, rfl, iteN (n0 _ _ q_pick n_pick) (iteF ?_)⟩
              refine ⟨_, rfl, rfl, _, rfl, iteN (n0 _ _ q_choose n_choose) (iteF ?_)⟩
              exact no (by rw [fp, if_neg (fun z => hl0 z.1)]) H (Same.refl H)
          have n_read := k2
          refine ⟨_, rfl, rfl, _, rfl, iteN (n0 _ _ q_read n_read) (iteF ?_)⟩
          by_cases k3 : k ∈ twos
          · have fp : formParts k (t1 :: l') = if l'.length = 1 then some (t1 :: l') else none := by
              unfold formParts
              rw [if_neg k1, if_neg k2, if_pos k3]
              simp
            have n_pick : k ≠ w_pick := fun z => by rw [z] at k3; revert k3; decide
            have n_choose : k ≠ w_choose := fun z => by rw [z] at k3; revert k3; decide
            refine ⟨_, rfl, tw, _, rfl, .inr (R.twos H), rfl, rfl, _, rfl, iteInY k3 ?_⟩
            refine ⟨_, rfl, p, _, rfl, .inr (SqT.of hp), rfl, _, rfl, ?_⟩
            by_cases hl0 : l'.length = 1
            · refine iteY ((len_is 1).mpr hl0) (iteT ?_)
              refine ⟨_, rfl, _, rfl, p, _, rfl, SqT.of hp, slice_ne _ _ _, fun a na => ?_⟩
              refine qs _ (by rw [fp, if_pos hl0]) _ a _ (same_new na _) upd_same fun B sB dB => ?_
              rw [cut_tail]
              exact DataL.drop 1 (data_in sB dB hp)
            · refine iteN (fun z => hl0 ((len_is 1).mp z)) ?_
              refine ⟨_, rfl, rfl, _, rfl, iteN (n0 _ _ q_pick n_pick) (iteF ?_)⟩
              refine ⟨_, rfl, rfl, _, rfl, iteN (n0 _ _ q_choose n_choose) (iteF ?_)⟩
              exact no (by rw [fp, if_neg hl0]) H (Same.refl H)
          have nt := k3
          refine ⟨_, rfl, tw, _, rfl, .inr (R.twos H), rfl, rfl, _, rfl, iteInN nt (iteF ?_)⟩
          by_cases k4 : k = w_pick
          · have fp : formParts k (t1 :: l') = if l'.length = 2 then some (t1 :: l') else none := by
              unfold formParts
              rw [if_neg k1, if_neg k2, if_neg k3, if_pos k4]
              simp
            have n_choose : k ≠ w_choose := by rw [k4]; decide
            refine ⟨_, rfl, rfl, _, rfl, iteY (y0 _ _ q_pick k4) ?_⟩
            refine ⟨_, rfl, p, _, rfl, .inr (SqT.of hp), rfl, _, rfl, ?_⟩
            by_cases hl0 : l'.length = 2
            · refine iteY ((len_is 2).mpr hl0) ?_
              refine ⟨_, rfl, _, rfl, p, _, rfl, SqT.of hp, slice_ne _ _ _, fun a na => ?_⟩
              refine qs _ (by rw [fp, if_pos hl0]) _ a _ (same_new na _) upd_same fun B sB dB => ?_
              rw [cut_tail]
              exact DataL.drop 1 (data_in sB dB hp)
            · refine iteN (fun z => hl0 ((len_is 2).mp z)) ?_
              refine ⟨_, rfl, rfl, _, rfl, iteN (n0 _ _ q_choose n_choose) (iteF ?_)⟩
              exact no (by rw [fp, if_neg hl0]) H (Same.refl H)
          have n_pick := k4
          refine ⟨_, rfl, rfl, _, rfl, iteN (n0 _ _ q_pick n_pick) (iteF ?_)⟩
          by_cases k5 : k = w_choose
          · have fp : formParts k (t1 :: l') = if l'.length = 1 ∧ (l'.headD .non).areNms = true then some [t1] else none := by
              unfold formParts
              rw [if_neg k1, if_neg k2, if_neg k3, if_neg k4, if_pos k5]
              cases l' <;> simp
            refine ⟨_, rfl, rfl, _, rfl, iteY (y0 _ _ q_choose k5) ?_⟩
            refine ⟨_, rfl, p, _, rfl, .inr (SqT.of hp), rfl, _, rfl, ?_⟩
            by_cases hl0 : l'.length = 1
            · refine iteY ((len_is 1).mpr hl0) ?_
              match l', hl0, hl', htl, hnt, fp with
              | [t2], _, ⟨x2, xs2, e2, hd2, e3⟩, htl, hnt, fp =>
                subst e2
                obtain rfl : xs2 = [] := e3
                refine ⟨_, rfl, p, _, _, _, rfl, rfl, SqT.of hp, atI_at (by decide) rfl, x2, t2, rfl, hd2, tameL_mem htl t2 (by simp), fun m hm => ?_, fun H1 hs1 => ⟨_, rfl, ?_⟩⟩
                · subst hm
                  have e : (!decide (k = w_choose) || (Th.flatL m && SeqAt.shaped (.list (Th.pyL m)))) = true := hnt
                  rw [decide_eq_true k5] at e
                  exact Bool.and_eq_true_iff.mp e
                cases hi : t2.areNms with
                | true =>
                  refine iteT ⟨_, rfl, _, rfl, _, rfl, p, _, rfl, SqT.of (hs1 _ _ hp), fun z => absurd z.1 (by show ¬ HT.sIx 3 0 (some 1) = 0; decide), fun a na => ?_⟩
                  refine qs [t1] (by rw [fp, if_pos ⟨rfl, hi⟩]) _ a _ (hs1.trans (same_new na _)) upd_same fun B sB dB => ?_
                  rw [cut_one]
                  exact DataL.take 1 (DataL.drop 1 (data_in sB dB hp))
                | false =>
                  exact iteF (no (by rw [fp, if_neg (fun z => by rw [show ([t2] : List Th).headD .non = t2 from rfl, hi] at z; cases z.2)]) H1 hs1)
            · exact iteN (fun z => hl0 ((len_is 1).mp z)) (iteF (no (by rw [fp, if_neg (fun z => hl0 z.1)]) H (Same.refl H)))
          have n_choose := k5
          refine ⟨_, rfl, rfl, _, rfl, iteN (n0 _ _ q_choose n_choose) (iteF ?_)⟩
          exact no (by unfold formParts; rw [if_neg k1, if_neg k2, if_neg k3, if_neg k4, if_neg k5]) H (Same.refl H)
        | _ => exact iteT (qn rfl H (Same.refl H))
  | _ => exact iteT (qn rfl H (Same.refl H))
end
section
variable {P : Program} {w : World} {K : PySem.W.Frag} {mg : Str → Option Value} {base : Heap}
abbrev s_is_recipe : Stmt := topS 21
abbrev N_is_recipe : List Str := ["thing", "row", "at", "one", "depth", "parts", "part"]
theorem sc_is_recipe : FnScope N_is_recipe ["thing"] (defScope s_is_recipe) := ⟨rfl, rfl, rfl, by decide +kernel, rfl, by decide +kernel, by decide +kernel⟩

/-- what is still to be looked at -/
def pend (n : Nat) (rest : List (Th × Nat)) : Nat := (rest.map fun p => Th.count (9 - p.2) p.1).sum
def Row (H : Hp) : List (Th × Nat) → List V → Prop
  | [], xs => xs = []
  | p :: r, xs => ∃ (a : Addr) (x : V) (ys : List V), xs = .ref a :: ys ∧ H a = some (.tup [x, .int (p.2 : Int)]) ∧ Data H p.1 x ∧ Row H r ys
theorem Row.same {H H' : Hp} (s : Same H H') : ∀ {r : List (Th × Nat)} {xs : List V}, Row H r xs → Row H' r xs
  | [], _, h => h
  | _ :: _, _, ⟨a, x, ys, e, h, d, r⟩ => ⟨a, x, ys, e, s _ _ h, d.same s, Row.same s r⟩
theorem Row.len {H : Hp} : ∀ {r : List (Th × Nat)} {xs : List V}, Row H r xs → xs.length = r.length
  | [], _, h => by rw [show _ = [] from h]; rfl
  | _ :: _, _, ⟨a, x, ys, e, h, d, r⟩ => by rw [e, List.length_cons, Row.len r]; rfl
theorem Row.at {H : Hp} : ∀ {r : List (Th × Nat)} {xs : List V} {i : Nat} {p : Th × Nat}, Row H r xs → r[i]? = some p → ∃ (a : Addr) (x : V), xs[i]? = some (.ref a) ∧ H a = some (.tup [x, .int (p.2 : Int)]) ∧ Data H p.1 x
  | [], _, i, p, _, e => by simp at e
  | q :: _, _, 0, p, ⟨a, x, ys, e1, h, d, _⟩, e => by subst e1; cases e; exact ⟨a, x, rfl, h, d⟩
  | _ :: _, _, i + 1, p, ⟨a, x, ys, e1, h, d, r⟩, e => by subst e1; exact Row.at (i := i) r (by simpa using e)
theorem Row.snoc {H : Hp} {p : Th × Nat} {a : Addr} {x : V} (h : H a = some (.tup [x, .int (p.2 : Int)])) (d : Data H p.1 x) : ∀ {r : List (Th × Nat)} {xs : List V}, Row H r xs → Row H (r ++ [p]) (xs ++ [.ref a])
  | [], _, e => by rw [show _ = [] from e]; exact ⟨a, x, [], rfl, h, d, rfl⟩
  | _ :: _, _, ⟨b, y, ys, e, h', d', r⟩ => by subst e; exact ⟨b, y, _, rfl, h', d', Row.snoc h d r⟩
theorem pend_ge (n : Nat) : ∀ r : List (Th × Nat), r.length ≤ pend n r
  | [] => Nat.zero_le _
  | p :: r => by
    have := pend_ge n r
    have := count_pos (9 - p.2) p.1
    show r.length + 1 ≤ Th.count (9 - p.2) p.1 + pend n r
    omega
theorem pend_app (n : Nat) (a b : List (Th × Nat)) : pend n (a ++ b) = pend n a + pend n b := by unfold pend; rw [List.map_append, List.sum_append]
def allOk (r : List (Th × Nat)) : Bool := r.all fun p => Th.okay (9 - p.2) p.1
def spIsRecipe : Sp := fun vs H Q _ => ∃ (v : V) (t : Th), vs = [v] ∧ Data H t v ∧ t.tame = true ∧ ∀ H', Same H H' → Q (.bl t.isRcp) H'
theorem parts_tame {t : Th} {ps : List Th} (ht : t.tame = true) (h : t.parts = some ps) : ps.length ≤ 3 ∧ ∀ p ∈ ps, p.tame = true := by
  obtain ⟨k, l, rfl⟩ := parts_tup h
  have hm := tameL_mem (tup_tame ht).2.1
  have e : formParts k l = some ps := h
  unfold formParts at e
  have none_ne : ∀ {x : List Th}, (Option.none : Option (List Th)) = some x → False := fun z => by cases z
  split at e
  · split at e
    · cases e; exact ⟨by decide, by simp⟩
    · cases e
  split at e
  · split at e
    · cases e; exact ⟨by decide, by simp⟩
    · cases e
  split at e
  · split at e
    · rename_i h2; cases e; exact ⟨by omega, hm⟩
    · cases e
  split at e
  · split at e
    · rename_i h2; cases e; exact ⟨by omega, hm⟩
    · cases e
  split at e
  · split at e
    · rename_i h2; cases e
      refine ⟨by rw [List.length_take]; omega, fun p hp => hm p (List.mem_of_mem_take hp)⟩
    · cases e
  · cases e
theorem ok_is_recipe {tw : Addr} (T : Txt K mg) (R : RTxt K mg tw) (D : IsDef K mg "is_recipe" s_is_recipe ["thing"]) (C_within : Cal P w K mg base CX0 3 "within" ["thing"] (spWithin K)) : Cal P w K mg base CX0 4 "is_recipe" ["thing"] spIsRecipe := by
  refine D.cal sc_is_recipe (fun vs H Q E h => ?_) (fun f cdv A outer s H vs Q E hr h => ?_)
  · obtain ⟨v, t, rfl, _⟩ := h
    rfl
  obtain ⟨v, t, rfl, hv, ht, q⟩ := h
  obtain ⟨_, g_MOST_recipes⟩ := R.MOST
  obtain ⟨_, g_DEEPEST⟩ := R.DEEPEST
  refine ⟨_, (pss_cons (ps_set (i := 1) sc_is_recipe.nd rfl (Or.inl rfl) (pe_lst (pa_cons (pe_tup (pa_cons (pv 0) (pa_cons pe_int pa_nil))) pa_nil)))
      (pss_cons (ps_set (i := 2) sc_is_recipe.nd rfl (Or.inl rfl) pe_int)
      (pss_cons (ps_while PassesOwn.never (pt_cmpR op_lt (pv 2) (pe_callB call_len_seq (by rfl) T.b_len PySem.boot_len (pa_cons (pv 1) pa_nil)) (nomark _))
        (pss_cons (ps_asg (pe_ix (r := rIxL K) ix_list (pv 1) (pv 2) (fun _ _ => rfl)) (pg_tup rfl (pgs_cons (pg_name (i := 3) sc_is_recipe.nd rfl (Or.inl rfl)) (pgs_cons (pg_name (i := 4) sc_is_recipe.nd rfl (Or.inl rfl)) pgs_nil))))
      (pss_cons (ps_set (i := 5) sc_is_recipe.nd rfl (Or.inl rfl) (pe_cal C_within (hr.mono (by first | decide | omega)) pass0 (pa_cons (pv 3) pa_nil)))
      (pss_cons (ps_if (PW.pt (pw_or (pt_cmpR op_isN (pv 5) pe_non (nomark _)) (pw_or (pt_cmpR op_gt (pv 4) (pe_glob (v := .int _) rfl g_DEEPEST ⟨_, rfl⟩) (nomark _)) (pw_or1 (pt_cmpR op_gt (pe_callB call_len_seq (by rfl) T.b_len PySem.boot_len (pa_cons (pv 1) pa_nil)) (pe_glob (v := .int _) rfl g_MOST_recipes ⟨_, rfl⟩) (nomark _))))))
        (pss_one (ps_ret pe_bl))
        pss_nil)
      (pss_cons (ps_for PassesOwn.never rfl (pi_tup (pv 5)) (pg_name (i := 6) sc_is_recipe.nd rfl (Or.inl rfl))
        (pss_one (ps_expr (pe_bm PySem.F.plainAttrs_list PySem.F.slot_list_append PySem.F.type_list_append mt_append (pv 1) (pa_cons (pe_tup (pa_cons (pv 6) (pa_cons (pe_op op_add (pv 4) pe_int) pa_nil))) pa_nil)))))
      (pss_one (ps_aug (i := 2) sc_is_recipe.nd rfl (Or.inl rfl) pe_int ip_add)))))))
      (pss_one (ps_ret pe_bl))))), ?_⟩
  refine ⟨_, rfl, le_line (Nat.le_of_ble_eq_true rfl), fun p np => ⟨le_line (Nat.le_of_ble_eq_true rfl), fun L nL => ?_⟩⟩
  have s1 := same_new np (.tup [v, .int 1])
  -- the row: looked at, and still to be looked at
  refine ⟨fun m σ H' => ∃ (B : Hp) (all : List (Th × Nat)) (xs : List V) (i : Nat) (o1 o2 o3 o4 : Option V), σ = [some v, some (.ref L), some (.int (i : Int)), o1, o2, o3, o4] ∧ Same H B ∧ B L = none ∧ Same B H' ∧ H' L = some (.lst xs) ∧ Row B all xs ∧
      i ≤ all.length ∧ all.length ≤ 103 ∧ (∀ q ∈ all, q.1.tame = true ∧ 1 ≤ q.2 ∧ q.2 ≤ 9) ∧ (all.length ≤ 100 ∨ i < all.length) ∧ t.isRcp = (allOk (all.drop i) && decide (i + pend 0 (all.drop i) ≤ 100)) ∧ m = 104 - i, ?_, ?_⟩
  · refine ⟨104, _, [(t, 1)], [.ref p], 0, none, none, none, none, rfl, s1, nL, same_new nL _, upd_same, ⟨p, v, [], rfl, upd_same, hv.same s1, rfl⟩, Nat.zero_le _, Nat.le_of_ble_eq_true rfl, ?_, .inl (Nat.le_of_ble_eq_true rfl), ?_, rfl⟩
    · intro q' hq
      rw [List.mem_singleton.mp hq]
      exact ⟨ht, Nat.le_refl 1, (by decide : 1 ≤ 9)⟩
    · show (t.okay 8 && decide (t.count 8 ≤ 100)) = ((t.okay 8 && true) && decide (0 + (t.count 8 + 0) ≤ 100))
      rw [Bool.and_true, Nat.zero_add, Nat.add_zero]
  rintro m σ H1 ⟨B, all, xs, i, o1, o2, o3, o4, rfl, hB, nB, hs, hL, hrow, hi, h103, htm, hlast, heq, rfl⟩
  have hxl := hrow.len
  refine ⟨_, rfl, _, rfl, L, _, rfl, .inl (SqL.of hL), _, _, rfl, rfl, _, rfl, ?_⟩
  by_cases hlt : ((i : Nat) : Int) < ((xs.length : Nat) : Int)
  · refine iteY hlt ?_
    have hia : i < all.length := by omega
    have hget := List.getElem?_eq_getElem hia
    obtain ⟨a, x, hxa, hpa, hda⟩ := hrow.at hget
    generalize hqe : all[i] = pq at hget hpa hda
    obtain ⟨t1, d1⟩ := pq
    have hq1 := htm (t1, d1) (by rw [← hqe]; exact List.getElem_mem hia)
    have hdrop : all.drop i = (t1, d1) :: all.drop (i + 1) := by rw [List.drop_eq_getElem_cons hia, hqe]
    refine ⟨fun σ' H' => ∃ (B : Hp) (all : List (Th × Nat)) (xs : List V) (i' : Nat) (o1 o2 o3 o4 : Option V), σ' = [some v, some (.ref L), some (.int (i' : Int)), o1, o2, o3, o4] ∧ Same H B ∧ B L = none ∧ Same B H' ∧ H' L = some (.lst xs) ∧ Row B all xs ∧
      i' ≤ all.length ∧ all.length ≤ 103 ∧ (∀ q ∈ all, q.1.tame = true ∧ 1 ≤ q.2 ∧ q.2 ≤ 9) ∧ (all.length ≤ 100 ∨ i' < all.length) ∧ t.isRcp = (allOk (all.drop i') && decide (i' + pend 0 (all.drop i') ≤ 100)) ∧ i' = i + 1, ?_, ?_⟩
    · rintro σ' H' ⟨B, all, xs, i', o1, o2, o3, o4, e1, e2, e3, e4, e5, e6, e7, e8, e9, e10, e11, e12⟩
      exact ⟨104 - i', by omega, B, all, xs, i', o1, o2, o3, o4, e1, e2, e3, e4, e5, e6, e7, e8, e9, e10, e11, rfl⟩
    -- one, depth = row[at]
    refine ⟨_, rfl, _, rfl, L, _, _, _, rfl, rfl, SqL.of hL, atI_nat hxa, ?_⟩
    refine ⟨a, _, rfl, SqT.of (hs _ _ hpa), rfl, x, _, rfl, _, _, rfl, rfl, ?_⟩
    refine ⟨_, rfl, x, t1, rfl, hda.same hs, hq1.1, fun hno H2 hs2 => ?_, fun ps hps H2 ap zs hs2 hap hzs => ?_⟩
    · refine ⟨_, rfl, rfl, _, rfl, iteY rfl (iteT ?_)⟩
      have : t.isRcp = false := by
        rw [heq, hdrop]
        show ((Th.okay (9 - d1) t1 && allOk (all.drop (i + 1))) && _) = false
        have : Th.okay (9 - d1) t1 = false := by
          cases 9 - d1 with
          | zero => rfl
          | succ n => show (match t1.parts with | none => false | some ps => ps.all (Th.okay n)) = false; rw [hno]
        rw [this]
        rfl
      rw [← this]
      exact q _ (hB.trans (hs.trans hs2))
    · refine ⟨_, rfl, rfl, _, rfl, iteN (by intro z; cases z) ?_⟩
      have hs12 := hs.trans hs2
      have hL2 := hs2 _ _ hL
      refine ⟨_, rfl, _, _, rfl, rfl, _, rfl, ?_⟩
      by_cases hd9 : ((d1 : Nat) : Int) > 8
      · refine iteY hd9 (iteT ?_)
        have : t.isRcp = false := by
          rw [heq, hdrop]
          show ((Th.okay (9 - d1) t1 && allOk (all.drop (i + 1))) && _) = false
          have e9 : 9 - d1 = 0 := by omega
          rw [e9]
          rfl
        rw [← this]
        exact q _ (hB.trans hs12)
      refine iteN hd9 ?_
      refine ⟨_, rfl, L, _, rfl, .inl (SqL.of hL2), _, _, rfl, rfl, _, rfl, ?_⟩
      by_cases hbig : ((xs.length : Nat) : Int) > 100
      · refine iteY hbig ?_
        have : t.isRcp = false := by
          rw [heq, hdrop]
          have hge := pend_ge 0 (all.drop i)
          rw [hdrop] at hge
          have hln : ((t1, d1) :: all.drop (i + 1)).length = all.length - i := by rw [← hdrop, List.length_drop]
          rw [decide_eq_false (show ¬ i + pend 0 ((t1, d1) :: all.drop (i + 1)) ≤ 100 by omega), Bool.and_false]
        rw [← this]
        exact q _ (hB.trans hs12)
      refine iteN hbig ?_
      obtain ⟨hp3, hptm⟩ := parts_tame hq1.1 hps
      have hzl := (hzs B hs hda).len
      obtain ⟨nn, hnn⟩ : ∃ nn, 9 - d1 = nn + 1 := ⟨8 - d1, by omega⟩
      have hnn2 : 9 - (d1 + 1) = nn := by omega
      have hok : Th.okay (9 - d1) t1 = allOk (ps.map fun p => (p, d1 + 1)) := by
        rw [hnn]
        show (match t1.parts with | none => false | some ps => ps.all (Th.okay nn)) = _
        rw [hps]
        unfold allOk
        rw [List.all_map]
        show ps.all (Th.okay nn) = ps.all fun p => Th.okay (9 - (d1 + 1)) p
        rw [hnn2]
      have hct : Th.count (9 - d1) t1 = 1 + pend 0 (ps.map fun p => (p, d1 + 1)) := by
        rw [hnn]
        show (match t1.parts with | none => 1 | some ps => 1 + (ps.map (Th.count nn)).sum) = _
        rw [hps]
        unfold pend
        rw [List.map_map]
        show 1 + (ps.map (Th.count nn)).sum = 1 + (ps.map fun p => Th.count (9 - (d1 + 1)) p).sum
        rw [hnn2]
      -- for part in parts
      refine ⟨_, rfl, ap, rfl, ⟨_, SqT.of hap⟩, for_tup (K := K) (a := ap) (xs := zs) (fun j σ' H' => ∃ (B' : Hp) (ys : List V) (o4 : Option V), σ' = [some v, some (.ref L), some (.int (i : Int)), some x, some (.int (d1 : Int)), some (.ref ap), o4] ∧ Same B B' ∧ B' L = none ∧ Same B' H' ∧ H' ap = some (.tup zs) ∧ H' L = some (.lst ys) ∧
          Row B' (all ++ (ps.take j).map fun p => (p, d1 + 1)) ys ∧ DataL B' ps zs) ?_ (fun j σ' H' _ ⟨_, _, _, _, _, _, _, h, _⟩ => SqT.of h) ?_ ?_⟩
      · exact ⟨B, xs, o4, rfl, Same.refl _, nB, hs12, hap, hL2, by rw [List.take_zero, List.map_nil, List.append_nil]; exact hrow, hzs B hs hda⟩
      · rintro j y σ' H3 hy ⟨B', ys, o4', rfl, hBB, nB', hs3, hap3, hL3, hrow3, hzs3⟩
        obtain ⟨tj, htj, hdj⟩ := hzs3.at hy
        have hyl := hrow3.len
        have hjl : (ps.take j).length ≤ 3 := by rw [List.length_take]; omega
        rw [List.length_append, List.length_map] at hyl
        refine ⟨_, rfl, .inl ⟨rfl, _, SqL.of hL3⟩, _, rfl, _, rfl, _, _, rfl, rfl, le_line (Nat.le_of_ble_eq_true rfl), fun u nu => ⟨L, _, _, rfl, rfl, same_new nu _ _ _ hL3, lt_line (by omega), ?_⟩⟩
        have Lu : L ≠ u := ne_of_none hL3 nu
        have apL : ap ≠ L := fun z => by rw [z, hL3] at hap3; cases hap3
        have nu' : B' u = none := hs3.free nu
        refine ⟨upd B' u (.tup [y, .int ((d1 : Int) + 1)]), _, _, rfl, hBB.trans (same_new nu' _), by rw [upd_ne Lu]; exact nB', fun b o e => ?_, ?_, upd_same, ?_, hzs3.same (same_new nu' _)⟩
        · have hbL : b ≠ L := fun z => by rw [z, upd_ne Lu, nB'] at e; cases e
          rw [upd_ne hbL]
          by_cases hbu : b = u
          · rw [hbu, upd_same] at e ⊢; exact e
          · rw [upd_ne hbu] at e ⊢; exact hs3 _ _ e
        · rw [upd_ne apL]; exact same_new nu _ _ _ hap3
        · rw [List.take_add_one, htj, List.map_append, ← List.append_assoc]
          exact Row.snoc (p := (tj, d1 + 1)) upd_same (hdj.same (same_new nu' _)) (hrow3.same (same_new nu' _))
      · rintro σ' H3 ⟨B', ys, o4', rfl, hBB, nB', hs3, hap3, hL3, hrow3, hzs3⟩
        rw [hzl, List.take_length] at hrow3
        refine ⟨_, rfl, _, _, rfl, rfl, ?_⟩
        have hnl : (ps.map fun p => (p, d1 + 1)).length = ps.length := List.length_map _
        refine ⟨B', all ++ ps.map fun p => (p, d1 + 1), ys, i + 1, _, _, _, _, rfl, hB.trans hBB, nB', hs3, hL3, hrow3, ?_, ?_, ?_, ?_, ?_, rfl⟩
        · rw [List.length_append]; omega
        · rw [List.length_append, hnl]; omega
        · intro q' hq'
          rcases List.mem_append.mp hq' with h | h
          · exact htm q' h
          · obtain ⟨p', hp', rfl⟩ := List.mem_map.mp h
            exact ⟨hptm p' hp', by show 1 ≤ d1 + 1; omega, by show d1 + 1 ≤ 9; omega⟩
        · rw [List.length_append, hnl]
          cases ps with
          | nil => exact .inl (by show all.length + 0 ≤ 100; omega)
          | cons p0 r0 => exact .inr (by rw [List.length_cons]; omega)
        · rw [heq, hdrop, List.drop_append_of_le_length (by omega), pend_app]
          have ea : allOk ((t1, d1) :: all.drop (i + 1)) = (Th.okay (9 - d1) t1 && allOk (all.drop (i + 1))) := rfl
          have ep : pend 0 ((t1, d1) :: all.drop (i + 1)) = Th.count (9 - d1) t1 + pend 0 (all.drop (i + 1)) := rfl
          have eb : allOk (all.drop (i + 1) ++ ps.map fun p => (p, d1 + 1)) = (allOk (all.drop (i + 1)) && allOk (ps.map fun p => (p, d1 + 1))) := List.all_append
          rw [ea, ep, eb, hok, hct, Bool.and_comm (allOk (ps.map fun p => (p, d1 + 1)))]
          congr 2
          exact propext ⟨fun z => by omega, fun z => by omega⟩
  · refine iteN hlt ?_
    have e : all.drop i = [] := List.drop_eq_nil_of_le (by omega)
    have : t.isRcp = true := by
      rw [heq, e]
      show (true && decide (i + 0 ≤ 100)) = true
      rw [decide_eq_true (show i + 0 ≤ 100 by omega)]
      rfl
    have h := q _ (hB.trans hs)
    rw [this] at h
    exact h
end
theorem num_parts (k : List Nat) (h : k = w_number) (t1 : Th) : (t1.isInt = true → formParts k [t1] = some []) ∧ (t1.isInt = false → formParts k [t1] = none) := by
  unfold formParts
  rw [if_pos h]
  exact ⟨fun z => if_pos ⟨rfl, z⟩, fun z => if_neg fun y => by rw [show ([t1] : List Th).headD .non = t1 from rfl, z] at y; cases y.2⟩
theorem read_parts (k : List Nat) (h1 : k ≠ w_number) (h : k = w_read) (t1 : Th) : (t1.isNm = true → formParts k [t1] = some []) ∧ (t1.isNm = false → formParts k [t1] = none) := by
  unfold formParts
  rw [if_neg h1, if_pos h]
  exact ⟨fun z => if_pos ⟨rfl, z⟩, fun z => if_neg fun y => by rw [show ([t1] : List Th).headD .non = t1 from rfl, z] at y; cases y.2⟩
theorem one_none (k : List Nat) (h1 : k ≠ w_number) (h2 : k ≠ w_read) (t1 : Th) : formParts k [t1] = none := by
  unfold formParts
  rw [if_neg h1, if_neg h2]
  simp
theorem twos_parts (k : List Nat) (h : k ∈ twos) (t1 t2 : Th) : formParts k [t1, t2] = some [t1, t2] := by
  have n1 : k ≠ w_number := fun z => by rw [z] at h; revert h; decide
  have n2 : k ≠ w_read := fun z => by rw [z] at h; revert h; decide
  unfold formParts
  rw [if_neg n1, if_neg n2, if_pos h]
  rfl
theorem choose_parts (k : List Nat) (h : k = w_choose) (t1 t2 : Th) : (t2.areNms = true → formParts k [t1, t2] = some [t1]) ∧ (t2.areNms = false → formParts k [t1, t2] = none) := by
  have n1 : k ≠ w_number := by rw [h]; decide
  have n2 : k ≠ w_read := by rw [h]; decide
  have n3 : ¬ k ∈ twos := by rw [h]; decide
  have n4 : k ≠ w_pick := by rw [h]; decide
  unfold formParts
  rw [if_neg n1, if_neg n2, if_neg n3, if_neg n4, if_pos h]
  exact ⟨fun z => if_pos ⟨rfl, z⟩, fun z => if_neg fun y => by rw [show ([t1, t2] : List Th).getD 1 .non = t2 from rfl, z] at y; cases y.2⟩
theorem two_none (k : List Nat) (h1 : ¬ k ∈ twos) (h2 : k ≠ w_choose) (t1 t2 : Th) : formParts k [t1, t2] = none := by
  unfold formParts
  rw [if_neg h1, if_neg h2]
  simp
theorem pick_parts (k : List Nat) (h : k = w_pick) (t1 t2 t3 : Th) : formParts k [t1, t2, t3] = some [t1, t2, t3] := by
  have n1 : k ≠ w_number := by rw [h]; decide
  have n2 : k ≠ w_read := by rw [h]; decide
  have n3 : ¬ k ∈ twos := by rw [h]; decide
  unfold formParts
  rw [if_neg n1, if_neg n2, if_neg n3, if_pos h]
  rfl
theorem three_none (k : List Nat) (h1 : k ≠ w_pick) (t1 t2 t3 : Th) : formParts k [t1, t2, t3] = none := by
  unfold formParts
  rw [if_neg h1]
  simp
/-! ### recipes as things -/
def Kd.word : Kd → List Nat
  | .plus => w_plus | .minus => w_minus | .times => w_times | .most => w_most
theorem kd_word (k : Kd) : k.name = SX.S k.word := by cases k <;> decide +kernel
theorem kd_twos (k : Kd) : k.word ∈ twos := by cases k <;> decide
def nmsTh (ns : List (List Nat)) : List Th := ns.map Th.str
def Rcp.tail : Rcp → List Th × List Nat
  | .num n => ([.int n], w_number)
  | .read s => ([.str s], w_read)
  | _ => ([], [])
def Rcp.th : Rcp → Th
  | .num n => .tup [.str w_number, .int n]
  | .read s => .tup [.str w_read, .str s]
  | .two k a b => .tup [.str k.word, a.th, b.th]
  | .pick a b c => .tup [.str w_pick, a.th, b.th, c.th]
  | .choose a ns => .tup [.str w_choose, a.th, .tup (nmsTh ns)]
theorem nms_data (H : Hp) : ∀ ns : List (List Nat), DataL H (nmsTh ns) (txs ns)
  | [] => rfl
  | s :: ns => ⟨_, _, rfl, rfl, nms_data H ns⟩
theorem Rec.data {H : Hp} : ∀ {r : Rcp} {v : V}, Rec H r v → Data H r.th v
  | .num n, v, ⟨p, e, h⟩ => ⟨p, _, e, h, _, _, rfl, congrArg V.str q_number, _, _, rfl, rfl, rfl⟩
  | .read s, v, ⟨p, e, h⟩ => ⟨p, _, e, h, _, _, rfl, congrArg V.str q_read, _, _, rfl, rfl, rfl⟩
  | .two k a b, v, ⟨p, x, y, e, h, ra, rb⟩ => ⟨p, _, e, h, _, _, rfl, congrArg V.str (kd_word k), _, _, rfl, ra.data, _, _, rfl, rb.data, rfl⟩
  | .pick a b c, v, ⟨p, x, y, z, e, h, ra, rb, rc⟩ => ⟨p, _, e, h, _, _, rfl, congrArg V.str q_pick, _, _, rfl, ra.data, _, _, rfl, rb.data, _, _, rfl, rc.data, rfl⟩
  | .choose a ns, v, ⟨p, x, q, e, h, ra, hq⟩ => ⟨p, _, e, h, _, _, rfl, congrArg V.str q_choose, _, _, rfl, ra.data, _, _, rfl, ⟨q, _, rfl, hq, nms_data H ns⟩, rfl⟩
theorem Nm.tame {s : List Nat} (h : Nm s) : tameS s = true := by
  unfold tameS
  rw [Bool.and_eq_true, decide_eq_true_eq, List.all_eq_true]
  refine ⟨by have := h.2.1; omega, fun c hc => decide_eq_true ?_⟩
  have := h.2.2 c hc
  omega
theorem Nms.flat : ∀ {ns : List (List Nat)}, Th.flatL (nmsTh ns) = true
  | [] => rfl
  | s :: ns => by show (true && Th.flatL (nmsTh ns)) = true; rw [Nms.flat]; rfl
theorem nms_py : ∀ {ns : List (List Nat)}, (∀ s ∈ ns, Nm s) → PyData.canLayAll0 (Th.pyL (nmsTh ns)) = true ∧ PyData.depthAll (Th.pyL (nmsTh ns)) = 0
  | [], _ => ⟨rfl, rfl⟩
  | s :: ns, h => by
    have ih := nms_py (ns := ns) fun x hx => h x (List.mem_cons_of_mem _ hx)
    refine ⟨?_, ?_⟩
    · show ((SX.S s).cps.all (· < 0x110000) && PyData.canLayAll0 (Th.pyL (nmsTh ns))) = true
      rw [ih.1, Bool.and_true]
      have hs := (h s (List.mem_cons_self ..)).2.2
      rw [← Array.all_toList, List.all_eq_true]
      intro c hc
      have := hs c hc
      exact decide_eq_true (by omega)
    · show max 0 (PyData.depthAll (Th.pyL (nmsTh ns))) = 0
      rw [ih.2]
      rfl
theorem Nms.shaped {ns : List (List Nat)} (h : ∀ s ∈ ns, Nm s) : SeqAt.shaped (.list (Th.pyL (nmsTh ns))) = true := by
  rw [shaped_parts, (nms_py h).1, (nms_py h).2]
  exact ⟨rfl, by decide⟩
theorem nms_tame : ∀ {ns : List (List Nat)}, (∀ s ∈ ns, Nm s) → Th.tameL (nmsTh ns) = true
  | [], _ => rfl
  | s :: ns, h => by
    show (tameS s && Th.tameL (nmsTh ns)) = true
    rw [(h s (List.mem_cons_self ..)).tame, nms_tame fun x hx => h x (List.mem_cons_of_mem _ hx)]
    rfl
theorem tame_tup {l : List Th} (h : Th.tameL l = true) (hl : l.length ≤ 1000000) (hn : namesTame l = true) : (Th.tup l).tame = true := by
  show (Th.tameL l && decide (l.length ≤ 1000000) && namesTame l) = true
  rw [h, hn, decide_eq_true hl]
  rfl
theorem namesTame3 {k : List Nat} (hk : k ≠ w_choose) (a b : Th) : namesTame [.str k, a, b] = true := by
  cases b with
  | tup m => show (!decide (k = w_choose) || _) = true; rw [decide_eq_false hk]; rfl
  | _ => rfl
theorem namesTame4 (a b c d : Th) (r : List Th) : namesTame (a :: b :: c :: d :: r) = true := by cases a <;> cases c <;> rfl
theorem namesTame2 (a b : Th) : namesTame [a, b] = true := by cases a <;> rfl
theorem namesTameC {k : List Nat} {m : List Th} (a : Th) (h1 : Th.flatL m = true) (h2 : SeqAt.shaped (.list (Th.pyL m)) = true) : namesTame [.str k, a, .tup m] = true := by
  show (!decide (k = w_choose) || (Th.flatL m && SeqAt.shaped (.list (Th.pyL m)))) = true
  rw [h1, h2]; simp
theorem kd_nochoose (k : Kd) : k.word ≠ w_choose := by cases k <;> decide
theorem nms_names_tame {ns : List (List Nat)} (h : Nms ns) : (Th.tup (nmsTh ns)).tame = true := by
  refine tame_tup (nms_tame h.2.2) ?_ ?_
  · unfold nmsTh; rw [List.length_map]; have := h.2.1; omega
  · match ns with
    | [] => rfl
    | [a] => rfl
    | [a, b] => rfl
    | [a, b, c] => rfl
    | a :: b :: c :: d :: r => rfl
theorem Rcp.tame : ∀ {r : Rcp}, r.Good → r.th.tame = true
  | .num n, _ => tame_tup (by show (tameS w_number && (true && true)) = true; decide) (Nat.le_of_ble_eq_true rfl) rfl
  | .read s, h => tame_tup (by show (tameS w_read && (tameS s && true)) = true; rw [Nm.tame h]; decide) (Nat.le_of_ble_eq_true rfl) rfl
  | .two k a b, h => by
    refine tame_tup ?_ (Nat.le_of_ble_eq_true rfl) (namesTame3 (kd_nochoose k) _ _)
    show (tameS k.word && (a.th.tame && (b.th.tame && true))) = true
    rw [Rcp.tame h.1, Rcp.tame h.2]
    cases k <;> decide
  | .pick a b c, h => by
    refine tame_tup ?_ (Nat.le_of_ble_eq_true rfl) (namesTame4 _ _ _ _ _)
    show (tameS w_pick && (a.th.tame && (b.th.tame && (c.th.tame && true)))) = true
    rw [Rcp.tame h.1, Rcp.tame h.2.1, Rcp.tame h.2.2]
    decide
  | .choose a ns, h => by
    refine tame_tup ?_ (Nat.le_of_ble_eq_true rfl) (namesTameC _ Nms.flat (Nms.shaped h.2.2.2))
    show (tameS w_choose && (a.th.tame && ((Th.tup (nmsTh ns)).tame && true))) = true
    rw [Rcp.tame h.1, nms_names_tame h.2]
    decide
theorem nms_are {ns : List (List Nat)} (h : Nms ns) : (Th.tup (nmsTh ns)).areNms = true := by
  show (decide (1 ≤ (nmsTh ns).length) && decide ((nmsTh ns).length ≤ 9) && (nmsTh ns).all Th.isNm) = true
  have hl : (nmsTh ns).length = ns.length := List.length_map _
  rw [hl, decide_eq_true h.1, decide_eq_true h.2.1]
  show (nmsTh ns).all Th.isNm = true
  rw [List.all_eq_true]
  intro t ht
  obtain ⟨s, hs, rfl⟩ := List.mem_map.mp ht
  exact nmOk_iff.mpr (h.2.2 s hs)
def Rcp.subs : Rcp → List Rcp
  | .num _ => []
  | .read _ => []
  | .two _ a b => [a, b]
  | .pick a b c => [a, b, c]
  | .choose a _ => [a]
theorem Rcp.parts_th : ∀ {r : Rcp}, r.Good → r.th.parts = some (r.subs.map Rcp.th)
  | .num n, _ => (num_parts _ rfl _).1 rfl
  | .read s, h => (read_parts _ (by decide) rfl _).1 (nmOk_iff.mpr h)
  | .two k a b, _ => twos_parts _ (kd_twos k) _ _
  | .pick a b c, _ => pick_parts _ rfl _ _ _
  | .choose a ns, h => (choose_parts _ rfl _ _).1 (nms_are h.2)
theorem Rcp.subs_good : ∀ {r : Rcp}, r.Good → ∀ x ∈ r.subs, x.Good ∧ x.dep + 1 ≤ r.dep
  | .num n, _, x, hx => by cases hx
  | .read s, h, x, hx => by cases hx
  | .two k a b, h, x, hx => by
    have e : (Rcp.two k a b).dep = max a.dep b.dep + 1 := rfl
    simp only [Rcp.subs, List.mem_cons, List.not_mem_nil, or_false] at hx
    rcases hx with rfl | rfl
    · exact ⟨h.1, by omega⟩
    · exact ⟨h.2, by omega⟩
  | .pick a b c, h, x, hx => by
    have e : (Rcp.pick a b c).dep = max a.dep (max b.dep c.dep) + 1 := rfl
    simp only [Rcp.subs, List.mem_cons, List.not_mem_nil, or_false] at hx
    rcases hx with rfl | rfl | rfl
    · exact ⟨h.1, by omega⟩
    · exact ⟨h.2.1, by omega⟩
    · exact ⟨h.2.2, by omega⟩
  | .choose a ns, h, x, hx => by
    have e : (Rcp.choose a ns).dep = a.dep + 1 := rfl
    rw [List.mem_singleton.mp hx]
    exact ⟨h.1, by omega⟩
theorem Rcp.siz_subs : ∀ r : Rcp, r.siz = 1 + (r.subs.map Rcp.siz).sum
  | .num _ => rfl
  | .read _ => rfl
  | .two _ a b => by show a.siz + b.siz + 1 = 1 + (a.siz + (b.siz + 0)); omega
  | .pick a b c => by show a.siz + b.siz + c.siz + 1 = 1 + (a.siz + (b.siz + (c.siz + 0))); omega
  | .choose a _ => by show a.siz + 1 = 1 + (a.siz + 0); omega
theorem Rcp.okay : ∀ (n : Nat) {r : Rcp}, r.Good → r.dep ≤ n → r.th.okay n = true ∧ r.th.count n = r.siz
  | 0, r, _, h => by have := dep_pos r; omega
  | n + 1, r, hg, h => by
    have hp := r.parts_th hg
    have hs := r.subs_good hg
    refine ⟨?_, ?_⟩
    · show (match r.th.parts with | none => false | some ps => ps.all (Th.okay n)) = true
      rw [hp]
      show (r.subs.map Rcp.th).all (Th.okay n) = true
      rw [List.all_map, List.all_eq_true]
      intro x hx
      exact (Rcp.okay n (hs x hx).1 (by have := (hs x hx).2; omega)).1
    · show (match r.th.parts with | none => 1 | some ps => 1 + (ps.map (Th.count n)).sum) = r.siz
      rw [hp, Rcp.siz_subs r]
      show 1 + ((r.subs.map Rcp.th).map (Th.count n)).sum = _
      rw [List.map_map]
      congr 2
      exact List.map_congr_left fun x hx => (Rcp.okay n (hs x hx).1 (by have := (hs x hx).2; omega)).2
theorem Rcp.isRcp {r : Rcp} (hg : r.Good) (hd : r.dep ≤ 8) (hs : r.siz ≤ 100) : r.th.isRcp = true := by
  unfold Th.isRcp
  rw [(Rcp.okay 8 hg hd).1, (Rcp.okay 8 hg hd).2, decide_eq_true hs]
  rfl
/-! ### texts of recipes -/
def Kd.sign : Kd → Nat
  | .plus => 43 | .minus => 45 | .times => 42 | .most => 94
def Kd.signS : Kd → Str
  | .plus => " + " | .minus => " - " | .times => " * " | .most => " ^ "
def intL (n : Int) : List Nat := (Str.ofString (toString n)).cps.toList
theorem intL_S (n : Int) : Str.ofString (toString n) = SX.S (intL n) := (SX.S_tl _).symm
def Rcp.txt : Rcp → List Nat
  | .num n => intL n
  | .read s => s
  | .two k a b => 40 :: (a.txt ++ (32 :: k.sign :: 32 :: (b.txt ++ [41])))
  | .pick a b c => 91 :: (a.txt ++ (32 :: 63 :: 32 :: (b.txt ++ (32 :: 58 :: 32 :: (c.txt ++ [93])))))
  | .choose a ns => a.txt ++ (123 :: (TL.joinL [44] ns ++ [125]))
theorem intL_len {n : Int} (h : n.natAbs < 10 ^ 40) : (intL n).length ≤ 41 := by
  have z : ∀ m : Int, 0 ≤ m → m.natAbs < 10 ^ 40 → (Str.ofString (toString m)).length ≤ 40 := fun m m0 hm => by
    refine PyProof.Rows.toString_length_le m0 (by decide) ?_
    have e : (m.natAbs : Int) = m := Int.natAbs_of_nonneg m0
    rw [← e]
    exact Int.ofNat_lt.mpr hm
  have e : (intL n).length = (Str.ofString (toString n)).length := by
    rw [intL_S n, SX.S_len]
  rw [e]
  by_cases h0 : 0 ≤ n
  · exact Nat.le_succ_of_le (z n h0 h)
  · rw [PyProof.Rows.len_text_neg (by omega)]
    have := z (0 - n) (by omega) (by rw [show (0 - n).natAbs = n.natAbs by omega]; exact h)
    omega
theorem joinL_len : ∀ {ns : List (List Nat)} (m : Nat), (∀ s ∈ ns, s.length ≤ m) → (TL.joinL [44] ns).length ≤ (m + 1) * ns.length
  | [], _, _ => Nat.zero_le _
  | [p], m, h => by
    have := h p (by simp)
    show p.length ≤ _
    simp; omega
  | p :: q :: r, m, h => by
    have h1 := h p (by simp)
    have h2 := joinL_len (ns := q :: r) m fun s hs => h s (List.mem_cons_of_mem _ hs)
    have e : (TL.joinL [44] (p :: q :: r)).length = p.length + (1 + (TL.joinL [44] (q :: r)).length) := by
      show (p ++ ([44] ++ TL.joinL [44] (q :: r))).length = _
      rw [List.length_append, List.length_append]
      rfl
    have e2 : (m + 1) * (p :: q :: r).length = (m + 1) * (q :: r).length + (m + 1) := Nat.mul_succ _ _
    rw [e, e2]
    omega
theorem names_len {ns : List (List Nat)} (h : Nms ns) : (TL.joinL [44] ns).length ≤ 81 := by
  have := joinL_len 8 fun s hs => (h.2.2 s hs).2.1
  have := h.2.1
  omega
theorem names_sum : ∀ {ns : List (List Nat)}, (∀ s ∈ ns, Nm s) → ((ns.map SX.S).map (·.length)).sum ≤ 8 * ns.length
  | [], _ => Nat.zero_le _
  | p :: r, h => by
    have h1 := (h p (by simp)).2.1
    have h2 := names_sum (ns := r) fun s hs => h s (List.mem_cons_of_mem _ hs)
    rw [List.map_cons, List.map_cons, List.sum_cons, SX.S_len, List.length_cons]
    omega
theorem txt_len : ∀ {r : Rcp}, r.Good → r.txt.length ≤ 100 * r.siz
  | .num n, h => by
    have := intL_len h
    show (intL n).length ≤ 100
    omega
  | .read s, h => by
    have := h.2.1
    show s.length ≤ 100
    omega
  | .two k a b, h => by
    have h1 := txt_len h.1
    have h2 := txt_len h.2
    simp only [Rcp.txt, Rcp.siz, List.length_cons, List.length_append, List.length_nil]
    omega
  | .pick a b c, h => by
    have h1 := txt_len h.1
    have h2 := txt_len h.2.1
    have h3 := txt_len h.2.2
    simp only [Rcp.txt, Rcp.siz, List.length_cons, List.length_append, List.length_nil]
    omega
  | .choose a ns, h => by
    have h1 := txt_len h.1
    have h2 := names_len h.2
    simp only [Rcp.txt, Rcp.siz, List.length_cons, List.length_append, List.length_nil]
    omega
theorem q_open : ("(" : Str) = SX.S [40] := by decide +kernel
theorem q_close : (")" : Str) = SX.S [41] := by decide +kernel
theorem q_lb : ("[" : Str) = SX.S [91] := by decide +kernel
theorem q_rb : ("]" : Str) = SX.S [93] := by decide +kernel
theorem q_lc : ("{" : Str) = SX.S [123] := by decide +kernel
theorem q_rc : ("}" : Str) = SX.S [125] := by decide +kernel
theorem q_ask : (" ? " : Str) = SX.S [32, 63, 32] := by decide +kernel
theorem q_col : (" : " : Str) = SX.S [32, 58, 32] := by decide +kernel
theorem q_blank : (" " : Str) = SX.S [32] := by decide +kernel
theorem q_comma : ("," : Str) = SX.S [44] := by decide +kernel
theorem q_sign (k : Kd) : k.signS = SX.S [32, k.sign, 32] := by cases k <;> decide +kernel
theorem kn_num (k : Kd) : ¬ V.str k.name = V.str "number" := by cases k <;> decide +kernel
theorem kn_read (k : Kd) : ¬ V.str k.name = V.str "read" := by cases k <;> decide +kernel
theorem kn_pick (k : Kd) : ¬ V.str k.name = V.str "pick" := by cases k <;> decide +kernel
theorem kn_choose (k : Kd) : ¬ V.str k.name = V.str "choose" := by cases k <;> decide +kernel
theorem log_small {n : Int} (h : n.natAbs < 10 ^ 40) : n.natAbs.log2 < 1920 := by
  by_cases z : n.natAbs = 0
  · rw [z]; decide
  · exact (Nat.log2_lt z).mpr (Nat.lt_trans h (by decide +kernel))
theorem Rcp.flat : ∀ r : Rcp, r.th.flat = true
  | .num _ => rfl
  | .read _ => rfl
  | .two _ a b => by
    show (true && (a.th.flat && (b.th.flat && true))) = true
    rw [Rcp.flat a, Rcp.flat b]; rfl
  | .pick a b c => by
    show (true && (a.th.flat && (b.th.flat && (c.th.flat && true)))) = true
    rw [Rcp.flat a, Rcp.flat b, Rcp.flat c]; rfl
  | .choose a ns => by
    show (true && (a.th.flat && (Th.flatL (nmsTh ns) && true))) = true
    rw [Rcp.flat a, Nms.flat]; rfl
theorem nm_lay {s : List Nat} (h : Nm s) : (PyData.str (SX.S s)).canLay0 = true := by
  have := (nms_py (ns := [s]) fun x hx => by rw [List.mem_singleton.mp hx]; exact h).1
  have z : ((PyData.str (SX.S s)).canLay0 && true) = true := this
  rw [Bool.and_true] at z
  exact z
theorem str_lay {s : List Nat} (h : ∀ c ∈ s, c < 128) : (PyData.str (SX.S s)).canLay0 = true := by
  show (SX.S s).cps.all (· < 0x110000) = true
  rw [← Array.all_toList, List.all_eq_true]
  intro c hc
  have := h c hc
  exact decide_eq_true (by omega)
theorem Rcp.lays : ∀ {r : Rcp}, r.Good → r.th.py.canLay0 = true ∧ r.th.py.depth ≤ r.dep
  | .num n, _ => ⟨by show ((PyData.str (SX.S w_number)).canLay0 && ((PyData.int n).canLay0 && true)) = true; rw [str_lay (by decide)]; rfl, by show max 0 (max 0 0) + 1 ≤ 1; decide⟩
  | .read s, h => ⟨by show ((PyData.str (SX.S w_read)).canLay0 && ((PyData.str (SX.S s)).canLay0 && true)) = true; rw [nm_lay h, str_lay (s := w_read) (by decide)]; rfl, by show max 0 (max 0 0) + 1 ≤ 1; decide⟩
  | .two k a b, h => by
    have h1 := Rcp.lays h.1
    have h2 := Rcp.lays h.2
    refine ⟨?_, ?_⟩
    · show ((PyData.str (SX.S k.word)).canLay0 && (a.th.py.canLay0 && (b.th.py.canLay0 && true))) = true
      rw [h1.1, h2.1, str_lay (s := k.word) (by cases k <;> decide)]
      rfl
    · show max 0 (max a.th.py.depth (max b.th.py.depth 0)) + 1 ≤ max a.dep b.dep + 1
      omega
  | .pick a b c, h => by
    have h1 := Rcp.lays h.1
    have h2 := Rcp.lays h.2.1
    have h3 := Rcp.lays h.2.2
    refine ⟨?_, ?_⟩
    · show ((PyData.str (SX.S w_pick)).canLay0 && (a.th.py.canLay0 && (b.th.py.canLay0 && (c.th.py.canLay0 && true)))) = true
      rw [h1.1, h2.1, h3.1, str_lay (s := w_pick) (by decide)]
      rfl
    · show max 0 (max a.th.py.depth (max b.th.py.depth (max c.th.py.depth 0))) + 1 ≤ max a.dep (max b.dep c.dep) + 1
      omega
  | .choose a ns, h => by
    have h1 := Rcp.lays h.1
    have h2 := nms_py h.2.2.2
    have h3 := dep_pos a
    refine ⟨?_, ?_⟩
    · show ((PyData.str (SX.S w_choose)).canLay0 && (a.th.py.canLay0 && (PyData.canLayAll0 (Th.pyL (nmsTh ns)) && true))) = true
      rw [h1.1, h2.1, str_lay (s := w_choose) (by decide)]
      rfl
    · show max 0 (max a.th.py.depth (max (PyData.depthAll (Th.pyL (nmsTh ns)) + 1) 0)) + 1 ≤ a.dep + 1
      rw [h2.2]
      omega
theorem Rcp.shaped {r : Rcp} (hg : r.Good) (hd : r.dep ≤ 60) : SeqAt.shaped r.th.py = true := by
  have h := Rcp.lays hg
  show (r.th.py.canLay0 && decide (r.th.py.depth ≤ 64)) = true
  rw [h.1, decide_eq_true (by omega)]
  rfl
theorem Rcp.eqv {r : Rcp} (hg : r.Good) : PyData.eqv r.th.py r.th.py = true := SeqAt.eqv_refl _ (Rcp.lays hg).1
section
variable {X : Cx} {CX : CXT} {k : Nat} {ps : List Str} {sp : Sp} {E : L2.St → XK} {x : Str} {p pos : Pos}
theorem pe_calS {e : Expr} {es : List Expr} {t : TA} (c : Cal X.prog X.w X.K X.mg X.base CX k x ps sp) (hr : Room k X.A) (hx : ∀ σ, PassesAt CX X σ (E σ)) (ha : PA X (e :: es) t) (hg : Gl X x := by rfl)
    (hdb : (x == ("__debug__" : Str)) = false := by decide) (he : starEach (e :: es) X.env = (false, eval e X.env) :: starEach es X.env := by rfl) (hpl : (backTo pos (starEach es X.env)).any (·.1) = false := by rfl) :
    PE X (.Call (.Name x p) (e :: es) [] pos) (tCallS sp E t) := by
  obtain ⟨f, fd, F, m, kp, b⟩ := c
  exact pe_callS F hr hg m kp b hx ha hdb he hpl
end
end Mad
/-! ### try .. except X as n, where the caught error is tracked behind the suite -/
namespace L2
open PySem PySem.Spec PyProof.Rows
def EzO (cls : Value) (d : Option Addr) (a : Addr) : HO := .ext fun h =>
  ∃ (oe : Obj) (vs : Array Value), h.get? a = some oe ∧ Zc cls d oe ∧
    oe.data = .fields vs
theorem ezO_ok {P : Program} {w : World} {H : Hp} {h : Heap} {a : Addr} {cls : Value} {d : Option Addr} {oe : Obj} {vs : Array Value}
    (e : h.get? a = some oe) (z : Zc cls d oe) (k : oe.data = .fields vs) : ObjOk P w H h a (EzO cls d a) :=
  ⟨⟨oe, vs, e, z, k⟩, ⟨oe, e⟩, fun _ _ y r => by
    obtain ⟨o, v, q, t⟩ := y
    exact ⟨o, v, r o q, t⟩⟩
section
variable {X : Cx} {pins : List (Addr × Obj)} {σ : St} {H : Hp} {B : Heap} {sI s' : Shared}
theorem Inv.landedT {a : Addr} {o : HO} (I : Inv X pins σ H sI) (nb : ∀ b u, sI.heap.get? b = some u → b ∉ frs X.stack → B.get? b = some u)
    (st : B.StaysIn s'.heap) (up : sI.heap.UpToSlots s'.heap) (os : s'.os = sI.os) (ag : AllBare s'.gens)
    (n0 : sI.heap.get? a = none) (na : H a = none) (new : ObjOk X.prog X.w (upd H a o) s'.heap a o) : Inv X pins σ (upd H a o) s' := by
  have nf : ∀ b ∈ frs X.stack, ∀ u, sI.heap.get? b = some u → ∃ sl, s'.heap.get? b = some { u with slots := sl } := by
    intro b hb u e
    obtain ⟨_, u', e', hd⟩ := I.stack.mem hb
    rw [e] at e'
    cases e'
    exact up b u e hd
  have U : Un (frs X.stack) [] H (upd H a o) sI.heap s'.heap := by
    refine ⟨fun b u e _ hb _ => st b u (nb b u e hb), fun b u e _ hb _ => nf b hb u e, fun b u e n _ => ?_, fun b u e _ => ?_, fun b xs q => ?_, fun b u xs q => ?_, fun b ps q => ?_⟩
    · have z : b ≠ a := fun z => by rw [z, n0] at e; cases e
      rw [upd_ne z]
      exact n
    · by_cases hb : b ∈ frs X.stack
      · obtain ⟨sl, q⟩ := nf b hb u e
        exact ⟨_, q⟩
      · exact ⟨u, st b u (nb b u e hb)⟩
    · rw [upd_ne (ne_of_none q na)]
      exact q
    · rw [upd_ne (ne_of_none q na)]
      exact q
    · exact ⟨#[], by rw [upd_ne (ne_of_none q na), q]; simp⟩
  have J := I.call (ch := []) (h' := s'.heap) (g' := s'.gens) (t' := s'.toks) (d' := s'.drawn) U
    (HOk.laidN ((I.inGround nb).kept st) (fun _ _ h => h) na new) ag (fun _ z => nomatch z)
  obtain ⟨a1, a2, a3, a4, a5⟩ := s'
  have e5 : a5 = sI.os := os
  subst e5
  exact J
theorem Inv.suiteN {s : Shared} (I : Inv X pins σ H s) (a : Addr) : Inv (X.suite a (X.pn ++ pins)) [] σ H s :=
  ⟨I.ok.suite _ _, I.os, I.bare, I.base, I.loc,
    I.cell, I.free, I.freeC,
    fun p hp => I.pin p (by rw [List.append_nil] at hp; exact hp), I.hok, I.len⟩
theorem Inv.unsuiteN {s : Shared} {a : Addr} (I : Inv (X.suite a (X.pn ++ pins)) [] σ H s) (ok : X.Ok) : Inv X pins σ H s :=
  ⟨ok, I.os, I.bare, I.base, I.loc,
    I.cell, I.free, I.freeC,
    fun p hp => I.pin p (List.mem_append_left _ hp), I.hok, I.len⟩
end
/-- what the clause wishes of an error of the body: slot i is n's; the error is tracked from here on -/
def wKeep (K : PySem.W.Frag) (c : Value) (i : Nat) (ts : Addr → Value → Option Addr → TS) (Wout : WX) (D : Ends) : WX := fun cls d σ H =>
  ∃ b, PySem.W.exmOne K cls c = some b ∧
    (b = true → ∀ a, H a = none → ts a cls d
      { nx := fun σ2 H2 => D.nx (σ2.set i none) H2, rt := D.rt, bk := fun σ2 H2 => D.bk (σ2.set i none) H2, ct := fun σ2 H2 => D.ct (σ2.set i none) H2 }
      (σ.set i (some (.ref a))) (upd H a (EzO cls d a))) ∧
    (b = false → Wout cls d σ H)
section
variable {X : Cx} {x n : Str} {c : Value} {i : Nat} {body suite : List Stmt} {b₀ : Stmt} {np pos pos' : Pos} {tb : WX → TS} {ts : Addr → Value → Option Addr → TS} {Wout : WX}
theorem ps_try_keep (hs : X.stack = X.env :: X.outer) (hf : X.env.frame = some X.env.locals) (hN : X.N.Nodup)
    (hi : X.N[i]? = some n) (hln : X.env.kindOf n = some .local) (hc : Names X x c) (tk : Takes X Wout)
    (hb : ∀ (W : WX) (pn : List (Addr × Obj)) (xe : Value → Shared → Prop), Takes (X.tr pn xe) W →
      PassesOwn (model X.prog X.w) X.A X.env xe → PSs (X.tr pn xe) body (tb W))
    (hsu : ∀ (a : Addr) (cls : Value) (d : Option Addr) (pn : List (Addr × Obj)),
      PSs (X.suite a pn) (b₀ :: suite) (ts a cls d)) :
    PS X (.Try body [.ExceptHandler (some (.Name x np)) (some n) (b₀ :: suite) pos'] [] [] pos)
      (fun D σ H => tb (wKeep X.K c i ts Wout D) D σ H) := by
  refine ⟨fun pins s σ H D I h => ?_⟩
  have okX := I.ok
  have hfr : X.A.frames = some (X.env :: X.outer) := by
    rw [okX.frames, hs]
  have hlc : Loc X.env.scope n := .inl hln
  refine wpAny_Try_except ?_
  refine wpAny_mono
    ((hb (wKeep X.K c i ts Wout D) (X.pn ++ pins)
      (fun e t1 => wpAny (model X.prog X.w) X.A (noteFrame e X.env)
        (fun _ t2 => wpAny (model X.prog X.w) X.A (setFlight e none)
          (fun _ t3 => wpAny (model X.prog X.w) X.A (handleBy e X.env [.ExceptHandler (some (.Name x np)) (some n) (b₀ :: suite) pos']) (SP X pins D) X.xe t3)
          X.xe t2)
        X.xe t1)
      (fun u t xx => ?_) PassesOwn.looking).run [] s σ H D (I.toTry _) h)
    (fun f s1 hsp => ?_) (fun e s1 he => he)
  · obtain ⟨a, B, sI, pn2, σ2, H2, cls, d, rfl, J0, nb, up, sky, na, os, ag, b, hb1, hyes, hno⟩ := xx
    have J : Inv X pins σ2 H2 sI := J0.ofTry okX
    have sky2 : Sky B (X.env :: X.outer) a (Zc cls d) X.env.locals t.heap := by
      rw [← hs]
      exact sky
    show wpAny (model X.prog X.w) X.A (noteFrame (.ref a) X.env) _ _ _
    refine Sky.land Zc.steady hfr hf sky2 fun h3 fl3 up3 => ?_
    have J3 : Inv X pins σ2 H2 { t with heap := h3 } :=
      J.landed nb fl3.1 (up.trans up3) os ag
    obtain ⟨oe3, vs3, he3, hz3, hd3⟩ := fl3.there
    have nfr : a ∉ frs (X.env :: X.outer) := fun hm => by
      obtain ⟨_, o', e', hnf⟩ := fl3.2.2.1.mem hm
      rw [he3] at e'
      cases e'
      exact hnf _ hd3
    have n0 : sI.heap.get? a = none := by
      cases q : sI.heap.get? a with
      | none => rfl
      | some u =>
        have z := nb a u q (by rw [hs]; exact nfr)
        rw [fl3.2.1] at z
        cases z
    have S3 := J3.suiteN a
    refine wpAny_handleBy_cons (codeAny_handlers_test ?_) (by intro q; cases q)
    have LT : PySem.W.Looks (model X.prog X.w) h3 (typeOf (.ref a)) cls := fun A Q E s k q =>
      wpAny_typeOf_ref (k _ _ he3) (by rw [hz3.1]; exact q)
    have LM := PySem.W.exm_one (M := model X.prog X.w) (J3.kIn) LT hb1
    have test : ∀ {Q : Value → Shared → Prop} {E : Value → Shared → Prop}, Q c { t with heap := h3 } →
        wpAny (model X.prog X.w) (X.A.mark (some (.ref a))) (eval (.Name x np) X.env) Q E { t with heap := h3 } := by
      intro Q E q
      obtain ⟨hg, hdbg, hm | ⟨hm, hv, hnn⟩⟩ := hc
      · exact ld_glob (X := X.suite a (X.pn ++ pins)) S3 hg hm q hdbg
      · exact ld_blt (X := X.suite a (X.pn ++ pins)) S3 hg hm hv q hnn hdbg
    refine test (LM.here ?_)
    cases b with
    | true =>
      refine codeAny_handlers_suite_as ?_
      refine HandSPX.lands_againZ fl3 fun h4 fl4 up4 => ?_
      obtain ⟨oe4, vs4, he4, hz4, hd4⟩ := fl4.there
      have J4 : Inv X pins σ2 (upd H2 a (EzO cls d a)) { t with heap := h4 } :=
        J.landedT nb fl4.1 ((up.trans up3).trans up4) os ag n0 na (ezO_ok he4 hz4 hd4)
      have S4 := J4.suiteN a
      refine store_ok (X := X.suite a (X.pn ++ pins)) (v := .ref a) S4 hN hi hlc rfl (fun s5 S5 => ?_) (.inr hln)
      refine wpAny_mono ((hsu a cls d (X.pn ++ pins)).run [] s5 _ _ _ S5 (hyes rfl a na)) (fun f s6 hsp => ?_) (fun _ _ z => False.elim z)
      have fin : ∀ {σ6 : St} {H6 : Hp} {Q : Shared → Prop}, Inv (X.suite a (X.pn ++ pins)) [] σ6 H6 s6 →
          (∀ s7, Inv X pins (σ6.set i none) H6 s7 → Q s7) →
          wpAny (model X.prog X.w) X.A (do bindName X.env n .none; unbindBehindTheSuite X.env n pos') (fun _ s7 => Q s7) X.xe s6 := by
        intro σ6 H6 Q S6 hq
        exact gone_ok (S6.unsuiteN okX) hN hi hln hq
      cases f with
      | ret u =>
        obtain ⟨v6, σ6, H6, S6, r6, q6⟩ := hsp
        exact fin S6 fun s7 J7 => ⟨_, _, _, J7, r6, q6⟩
      | next =>
        obtain ⟨σ6, H6, S6, q6⟩ := hsp
        exact fin S6 fun s7 J7 => ⟨_, _, J7, q6⟩
      | brk =>
        obtain ⟨σ6, H6, S6, q6⟩ := hsp
        exact fin S6 fun s7 J7 => ⟨_, _, J7, q6⟩
      | cont =>
        obtain ⟨σ6, H6, S6, q6⟩ := hsp
        exact fin S6 fun s7 J7 => ⟨_, _, J7, q6⟩
    | false =>
      show wpAny _ X.A (handleBy (.ref a) X.env []) _ _ _
      refine wpAny_handleBy_nil ?_
      obtain ⟨k1, k2, k3, oe, vs, T, oT, ts', he, hz, hd, h1, hr⟩ := id fl3
      unfold PySem.passOn
      refine wpAny_bind (wpAny_field he hd h1 ?_)
      rw [if_neg (show ¬ ((Value.ref T == Value.none) = true) from by simp)]
      have fin : wpAny (model X.prog X.w) X.A (setFlight (.ref a) X.env.frame)
          (fun _ t4 => wpAny (model X.prog X.w) X.A (throw (.ref a) : Sem Flow) (SP X pins D) X.xe t4) X.xe { t with heap := h3 } := by
        rw [hf]
        refine HandSPX.setFlight_upZ fl3 fun h4 hh4 up4 => wpAny_throw (tk _ _ ?_)
        exact ⟨a, B, sI, pins, σ2, H2, cls, d, rfl, J, nb,
          (up.trans up3).trans up4, .inr (.inr (by rw [hs]; exact hh4)), na, os, ag, hno rfl⟩
      first
        | exact wpAny_bind (wpAny_pure (wpAny_bind fin))
        | exact wpAny_bind fin
  · cases f with
    | next =>
      obtain ⟨σ2, H2, J2, q⟩ := hsp
      exact wpAny_execs_nil ⟨σ2, H2, J2.ofTry okX, q⟩
    | brk =>
      obtain ⟨σ2, H2, J2, q⟩ := hsp
      exact ⟨σ2, H2, J2.ofTry okX, q⟩
    | cont =>
      obtain ⟨σ2, H2, J2, q⟩ := hsp
      exact ⟨σ2, H2, J2.ofTry okX, q⟩
    | ret u =>
      obtain ⟨v, σ2, H2, J2, r, q⟩ := hsp
      exact ⟨v, σ2, H2, J2.ofTry okX, r, q⟩
end
/-- the object of a tracked error -/
theorem ezO_inst {X : Cx} {pins : List (Addr × Obj)} {σ : St} {H : Hp} {s : Shared} {a D : Addr} (I : Inv X pins σ H s) (h : H a = some (EzO (.ref D) none a)) :
    ∃ oe, PySem.W.InstAt s.heap a oe D none := by
  obtain ⟨⟨oe, vs, he, hz, hd⟩, _⟩ := (show ObjOk X.prog X.w H s.heap a (EzO (.ref D) none a) from I.hok a _ h)
  obtain ⟨oc, od, oda, osl⟩ := oe
  obtain ⟨h1, h2⟩ := hz
  dsimp only at h1 h2 hd
  subst h1 h2 hd
  exact ⟨_, he, rfl, rfl, trivial⟩
/-- isinstance(e, T), e a tracked error -/
def rIsX (K : PySem.W.Frag) : List V → Hp → VK → Prop := fun xs H Q => ∃ (a D : Addr) (c : V) (cv : Value) (b : Bool),
  xs = [.ref a, c] ∧ H a = some (EzO (.ref D) none a) ∧ ExcC K D ∧ ClsV c cv ∧
  PySem.W.kitOne K (.ref D) cv = some b ∧ Q (.bl b) H
/-- isinstance(e, (T1, T2)) -/
def rIsXT (K : PySem.W.Frag) : List V → Hp → VK → Prop := fun xs H Q => ∃ (a D tp : Addr) (cs : List V) (us : List Value) (b : Bool),
  xs = [.ref a, .ref tp] ∧ H tp = some (.tup cs) ∧ Paired ClsV cs us ∧ H a = some (EzO (.ref D) none a) ∧ ExcC K D ∧
  PySem.W.kitAny K (.ref D) us = some b ∧ Q (.bl b) H
section
variable {X : Cx}
theorem call_isX : CallR X (.builtin "isinstance") (rIsX X.K) := by
  intro pins s σ H xs us Q I r h
  obtain ⟨a, D, c, cv, b, rfl, hH, C, k, e, q⟩ := h
  obtain ⟨u1, u2, rfl, r1, r2⟩ := vals2 r
  have e2 := k.eq r2
  subst e2
  cases r1
  obtain ⟨oe, J⟩ := ezO_inst I hH
  exact PySem.W.kia_one (PySem.W.handS_kitx_exc C.hg C.hk C.hs C.hd C.ha C.hn C.ht C.hm) I.kIn J e (fun z => nomatch z)
    fun tk => ⟨.bl b, H, I.tok tk, rfl, q⟩
theorem call_isXT : CallR X (.builtin "isinstance") (rIsXT X.K) := by
  intro pins s σ H xs us Q I r h
  obtain ⟨a, D, tp, cs, ws, b, rfl, hT, k, hH, C, e, q⟩ := h
  obtain ⟨u1, u2, rfl, r1, r2⟩ := vals2 r
  cases r1
  cases (show u2 = Value.ref tp from r2)
  obtain ⟨oe, J⟩ := ezO_inst I hH
  obtain ⟨_, its, rv, o, h1, h2, n, h3⟩ := (show ObjOk X.prog X.w H s.heap tp (.tup cs) from I.hok tp _ hT)
  have e3 := ClsV.all k rv
  subst e3
  obtain ⟨oc, od, dt, sl⟩ := o
  simp only at h2 h3
  subst h2 h3
  exact PySem.W.kia_tup (PySem.W.handS_kitx_exc C.hg C.hk C.hs C.hd C.ha C.hn C.ht C.hm) I.kIn J h1 e (fun z => nomatch z)
    fun tk => ⟨.bl b, H, I.tok tk, rfl, q⟩
end
end L2
namespace Mad
open PySem PySem.Spec PyProof.Rows L2
/-! ### error classes: what a class answers when asked for another -/
theorem kit_self {K : PySem.W.Frag} {t : Value} : PySem.W.kitOne K t t = some true := by
  unfold PySem.W.kitOne
  rw [if_pos (beq_self_eq_true t)]
theorem kit_built {K : PySem.W.Frag} {C : Addr} {n : String} (hm : PySem.W.kitMeta n = true) (hs : PySem.W.subIn K (.ref C) (.type n) = some true) : PySem.W.kitOne K (.ref C) (.type n) = some true := by
  unfold PySem.W.kitOne
  split
  · rfl
  · show (if PySem.W.kitMeta n = true then PySem.W.subIn K (.ref C) (.type n) else none) = some true
    rw [if_pos hm]
    exact hs
theorem kit_own {K : PySem.W.Frag} {C D : Addr} {b : Bool} (hne : (C == D) = false) (hd : PySem.W.hasDictIn K D = true) (ht : PySem.W.typeIn K (.ref D) = some (.type "type")) (hs : PySem.W.subIn K (.ref C) (.ref D) = some b) : PySem.W.kitOne K (.ref C) (.ref D) = some b := by
  obtain ⟨cd, hc, _⟩ := PySem.W.any_some hd
  have e2 : ((PySem.W.clsIn K D).isSome && PySem.W.typeIn K (.ref D) == some (.type "type")) = true := by rw [hc, ht] <;> rfl
  have hz : ¬ ((Value.ref C == Value.ref D) = true) := fun q => by
    have e : C = D := Value.ref.inj (beq_iff_eq.mp q)
    rw [e, beq_self_eq_true] at hne
    cases hne
  unfold PySem.W.kitOne
  rw [if_neg hz]
  show (if ((PySem.W.clsIn K D).isSome && PySem.W.typeIn K (.ref D) == some (.type "type")) = true then PySem.W.subIn K (.ref C) (.ref D) else none) = some b
  rw [if_pos e2]
  exact hs
theorem kit_cons {K : PySem.W.Frag} {t c : Value} {r : List Value} {b : Bool} (h : PySem.W.kitOne K t c = some false) (g : PySem.W.kitAny K t r = some b) : PySem.W.kitAny K t (c :: r) = some b := by
  show (match PySem.W.kitOne K t c with | some true => some true | some false => PySem.W.kitAny K t r | none => none) = some b
  rw [h]
  exact g
/-! ### reading: what a text writes, from a place on -/
def isLt (c : Nat) : Bool := decide (97 ≤ c) && decide (c ≤ 122)
def isFg (c : Nat) : Bool := decide (48 ≤ c) && decide (c ≤ 57)
abbrev digVal (cs : List Nat) : Nat := NumText.digitsVal cs
def rName (l : List Nat) : Option (Rcp × Nat) := if nmOk (l.takeWhile isLt) = true then some (.read (l.takeWhile isLt), (l.takeWhile isLt).length) else none
def sgn (l : List Nat) : Nat := if l.take 1 = [45] then 1 else 0
def figs (l : List Nat) : List Nat := (l.drop (sgn l)).takeWhile isFg
def rNum (l : List Nat) : Option (Rcp × Nat) :=
  if (figs l).length < 1 ∨ 40 < (figs l).length then none
  else if (figs l).take 1 = [48] ∧ (1 < (figs l).length ∨ 0 < sgn l) then none
  else some (.num (if sgn l = 1 then -(digVal (figs l) : Int) else digVal (figs l)), sgn l + (figs l).length)
def twoWord (z : List Nat) : Option Kd :=
  if z = [32, 43, 32] then some .plus else if z = [32, 45, 32] then some .minus else if z = [32, 42, 32] then some .times else if z = [32, 94, 32] then some .most else none
abbrev Rdr := List Nat → Option (Rcp × Nat)
def rTwo (rp : Rdr) : Rdr := fun l =>
  match rp l with
  | none => none
  | some (a, n) => match twoWord ((l.drop n).take 3) with
    | none => none
    | some w => match rp (l.drop (n + 3)) with
      | none => none
      | some (b, m) => if (l.drop (n + 3 + m)).take 1 = [41] then some (.two w a b, n + 3 + m + 1) else none
def rPick (rp : Rdr) : Rdr := fun l =>
  match rp l with
  | none => none
  | some (a, n) => if (l.drop n).take 3 = [32, 63, 32] then
      match rp (l.drop (n + 3)) with
      | none => none
      | some (b, m) => if (l.drop (n + 3 + m)).take 3 = [32, 58, 32] then
          match rp (l.drop (n + 3 + m + 3)) with
          | none => none
          | some (c, o) => if (l.drop (n + 3 + m + 3 + o)).take 1 = [93] then some (.pick a b c, n + 3 + m + 3 + o + 1) else none
        else none
    else none
def more (d : Nat) : Option (Rcp × Nat) → Option (Rcp × Nat)
  | none => none
  | some (r, n) => some (r, d + n)
def rBase (rp : Rdr) : Rdr := fun l =>
  if l.take 1 = [40] then more 1 (rTwo rp (l.drop 1))
  else if l.take 1 = [91] then more 1 (rPick rp (l.drop 1))
  else if (l.take 1).any isLt = true then rName l
  else rNum l
def nmSigns (l : List Nat) : List Nat := l.takeWhile fun c => isLt c || decide (c = 44)
/-- what stands behind it -/
def rTail : Nat → List Nat → Rcp → Nat → Option (Rcp × Nat)
  | 0, _, r, n => some (r, n)
  | f + 1, l, r, n =>
    if (l.drop n).take 1 = [123] then
      if (Th.tup (nmsTh (TL.spl [44] 0 [] (nmSigns (l.drop (n + 1)))))).areNms = true then
        if (l.drop (n + 1 + (nmSigns (l.drop (n + 1))).length)).take 1 = [125] then
          rTail f l (.choose r (TL.spl [44] 0 [] (nmSigns (l.drop (n + 1))))) (n + 1 + (nmSigns (l.drop (n + 1))).length + 1)
        else none
      else none
    else some (r, n)
def rPart : Nat → Rdr
  | 0, _ => none
  | k + 1, l => match rBase (rPart k) l with
    | none => none
    | some (r, n) => rTail l.length l r n
/-! ### pieces of a text -/
theorem cutS_add (z : List Nat) (a k : Nat) : cutS (SX.S z) (some (a : Int)) (some ((a : Int) + (k : Int))) = SX.S ((z.drop a).take k) := by
  have e : ((a : Int) + (k : Int)) = ((a + k : Nat) : Int) := rfl
  rw [e]
  have hl := SX.S_len z
  show (⟨(((SX.S z).cps.toList.drop (HT.sIx (SX.S z).length 0 (some (a : Int)))).take (HT.sIx (SX.S z).length (SX.S z).length (some ((a + k : Nat) : Int)) - HT.sIx (SX.S z).length 0 (some (a : Int)))).toArray⟩ : Str) = SX.S ((z.drop a).take k)
  rw [HT.sIx_nat, HT.sIx_nat, hl]
  show SX.S ((z.drop (min a z.length)).take (min (a + k) z.length - min a z.length)) = _
  congr 1
  by_cases ha : a ≤ z.length
  · rw [Nat.min_eq_left ha]
    by_cases hb : a + k ≤ z.length
    · rw [Nat.min_eq_left hb, Nat.add_sub_cancel_left]
    · rw [Nat.min_eq_right (by omega), List.take_of_length_le (by rw [List.length_drop]; omega), List.take_of_length_le (by rw [List.length_drop]; omega)]
  · have e1 : min a z.length = z.length := by omega
    rw [e1, List.drop_eq_nil_of_le (Nat.le_refl _), List.drop_eq_nil_of_le (by omega), List.take_nil, List.take_nil]
theorem take_while (p : Nat → Bool) (l : List Nat) : l.take (l.takeWhile p).length = l.takeWhile p := by
  induction l with
  | nil => rfl
  | cons a r ih =>
    rw [List.takeWhile_cons]
    cases p a with
    | true => show a :: r.take (r.takeWhile p).length = _; rw [ih]; rfl
    | false => rfl
theorem SS_eq {a b : List Nat} : (V.str (SX.S a) = V.str (SX.S b)) ↔ a = b := ⟨fun h => SX.S_inj (V.str.inj h), fun h => by rw [h]⟩
def spBehind : Sp := fun vs H Q _ => ∃ (T : List Nat) (a : Nat) (S : List Nat), vs = [.str (SX.S T), .int (a : Int), .str (SX.S S)] ∧ T.length ≤ 1000000 ∧ Q (.int ((a + ((T.drop a).takeWhile fun c => decide (c ∈ S)).length : Nat) : Int)) H
structure NoT (K : PySem.W.Frag) (mg : Str → Option Value) (C : Addr) : Prop where
  x : PySem.W.excIn K C [.type "ValueError", .type "Exception", .type "BaseException", .type "object"] "ValueError.__new__" = true
  g : mg "NoText" = some (.ref C)
  k : PySem.W.keepIn K (.ref C) = true
  b : PySem.W.subIn K (.ref C) (.type "BaseException") = some true
  t : PySem.W.typeIn K (.ref C) = some (.type "type")
structure WordsT (K : PySem.W.Frag) (w : World) (mg : Str → Option Value) (wd : Addr) (es : Array DictEntry) (n : Nat) : Prop where
  g : mg "WORDS" = some (.ref wd)
  dict : KDict K w wd es n
  no : ∀ z, twoWord z = none → PySem.W.nsIn K wd (SX.S z) = some none
  yes : ∀ z k, twoWord z = some k → KDct K w wd (SX.S z) (.str k.name)
structure FTxt (K : PySem.W.Frag) (mg : Str → Option Value) : Prop where
  FIGURES : ∃ t, mg "FIGURES" = some (.str "0123456789" t)
  MOST_FIGURES : ∃ t, mg "MOST_FIGURES" = some (.int 40 t)
/-- a def that may let an error out -/
theorem IsDef.calX {P : Program} {w : World} {K : PySem.W.Frag} {mg : Str → Option Value} {base : Heap} {x : Str} {st : Stmt} {N ps : List Str} {k : Nat} {sp : Sp} (D : IsDef K mg x st ps) (S : FnScope N ps (defScope st)) (len : ∀ vs H Q E, sp vs H Q E → vs.length = ps.length)
    (hbody : ∀ (f : Addr) (cdv : Value) (A : Around) (outer : List Env) (s : Shared) (H : Hp) (vs : List V) (Q : VK) (E : XK), Room k (A.deeper (envOfC x (defScope st) s.heap.objs.size f cdv)) → sp vs H Q E →
      ∃ t, PSs (cxOf (L2.CX P w) P w K mg base N x (defScope st) f cdv A outer s H E) (defBody st) t ∧ t { nx := fun _ H' => Q .non H', rt := Q } (start N vs) H) : Cal P w K mg base (L2.CX P w) (k + 1) x ps sp := by
  obtain ⟨f, fd, F, m, b⟩ := D
  exact ⟨f, fd, F.okX S len fun cdv A outer s H vs Q E => hbody f cdv A outer s H vs Q E, m, F.kp, b⟩
/-- a reader of a text from a place on -/
def spRd (C : Addr) (g : Rdr) : Sp := fun vs H Q E => ∃ (T : List Nat) (a : Nat), vs = [.str (SX.S T), .int (a : Int)] ∧ tameS T = true ∧
  (g (T.drop a) = none → ∀ H', Same H H' → E (.ref C) none H') ∧
  (∀ r n, g (T.drop a) = some (r, n) → ∀ (H' : Hp) (p : Addr) (v : V), Same H H' → H' p = some (.tup [v, .int ((a + n : Nat) : Int)]) → Rec H' r v → Q (.ref p) H')
def spRdD (C : Addr) (m : Nat) (g : Rdr) : Sp := fun vs H Q E => ∃ (T : List Nat) (a d : Nat), vs = [.str (SX.S T), .int (a : Int), .int (d : Int)] ∧ d + m = 9 ∧ tameS T = true ∧
  (g (T.drop a) = none → ∀ H', Same H H' → E (.ref C) none H') ∧
  (∀ r n, g (T.drop a) = some (r, n) → ∀ (H' : Hp) (p : Addr) (v : V), Same H H' → H' p = some (.tup [v, .int ((a + n : Nat) : Int)]) → Rec H' r v → Q (.ref p) H')
def spExp (C : Addr) : Sp := fun vs H Q E => ∃ (T : List Nat) (a : Nat) (wd : List Nat), vs = [.str (SX.S T), .int (a : Int), .str (SX.S wd)] ∧ T.length ≤ 1000000 ∧ wd.length ≤ 1000 ∧
  ((T.drop a).take wd.length ≠ wd → E (.ref C) none H) ∧ ((T.drop a).take wd.length = wd → Q (.int ((a + wd.length : Nat) : Int)) H)
section
variable {P : Program} {w : World} {K : PySem.W.Frag} {mg : Str → Option Value} {base : Heap}
abbrev s_behind_signs : Stmt := topS 35
abbrev N_behind_signs : List Str := ["text", "at", "signs"]
theorem sc_behind_signs : FnScope N_behind_signs ["text", "at", "signs"] (defScope s_behind_signs) := ⟨rfl, rfl, rfl, by decide +kernel, rfl, by decide +kernel, by decide +kernel⟩

theorem ok_behind_signs (T : Txt K mg) (D : IsDef K mg "behind_signs" s_behind_signs ["text", "at", "signs"]) : Cal P w K mg base CX0 1 "behind_signs" ["text", "at", "signs"] spBehind := by
  refine D.cal sc_behind_signs (fun vs H Q E h => ?_) (fun f cdv A outer s H vs Q E hr h => ?_)
  · obtain ⟨T1, a, S, rfl, _⟩ := h
    rfl
  obtain ⟨T1, a, S, rfl, hT, q⟩ := h
  refine ⟨_, (pss_cons (ps_while PassesOwn.never (PW.pt (pw_and (pt_cmpR op_lt (pv 1) (pe_callB call_len_str (by rfl) T.b_len PySem.boot_len (pa_cons (pv 0) pa_nil)) (nomark _)) (pw_and1 (pt_cmpR op_in_sign (pe_item_str (pv 0) (pv 1) (fun _ _ => rfl)) (pv 2) rfl))))
        (pss_one (ps_aug (i := 1) sc_behind_signs.nd rfl (Or.inl rfl) pe_int ip_add)))
      (pss_one (ps_ret (pv 1)))), ?_⟩
  have hl : (SX.S T1).length ≤ sizeLine := by rw [SX.S_len]; exact le_line (by omega)
  refine ⟨fun m σ H' => ∃ j : Nat, σ = [some (.str (SX.S T1)), some (.int (j : Int)), some (.str (SX.S S))] ∧ H' = H ∧ j + ((T1.drop j).takeWhile fun c => decide (c ∈ S)).length = a + ((T1.drop a).takeWhile fun c => decide (c ∈ S)).length ∧ m = T1.length - j, ⟨T1.length - a, a, rfl, rfl, rfl, rfl⟩, ?_⟩
  rintro m σ H1 ⟨j, rfl, rfl, hj, rfl⟩
  refine ⟨_, rfl, _, rfl, _, rfl, hl, _, _, rfl, rfl, _, rfl, ?_⟩
  rw [SX.S_len]
  by_cases h1 : ((j : Nat) : Int) < ((T1.length : Nat) : Int)
  · have hjl : j < T1.length := by omega
    have hd : T1.drop j = T1[j] :: T1.drop (j + 1) := List.drop_eq_getElem_cons hjl
    refine iteY h1 ?_
    refine ⟨_, rfl, _, rfl, SX.S T1, _, T1[j], rfl, rfl, by omega, by omega, by rw [SX.S_len]; exact h1, ?_, _, rfl, T1[j], SX.S S, rfl, rfl, _, rfl, ?_⟩
    · show (T1.toArray)[((j : Nat) : Int).toNat]? = some T1[j]
      simp
    show if decide (T1[j] ∈ S) = true then _ else _
    by_cases hin : T1[j] ∈ S
    · refine iteY hin ?_
      refine ⟨fun σ' H' => ∃ j' : Nat, σ' = [some (.str (SX.S T1)), some (.int (j' : Int)), some (.str (SX.S S))] ∧ H' = H1 ∧ j' + ((T1.drop j').takeWhile fun c => decide (c ∈ S)).length = a + ((T1.drop a).takeWhile fun c => decide (c ∈ S)).length ∧ j' = j + 1, ?_, ?_⟩
      · rintro σ' H' ⟨j', e1, e2, e3, e4⟩
        exact ⟨T1.length - j', by omega, j', e1, e2, e3, rfl⟩
      · refine ⟨_, rfl, _, _, rfl, rfl, j + 1, rfl, rfl, ?_, rfl⟩
        rw [← hj, hd, List.takeWhile_cons, if_pos (decide_eq_true hin), List.length_cons]
        omega
    · refine iteN hin ?_
      rw [hd, List.takeWhile_cons, if_neg (fun z => hin (of_decide_eq_true z))] at hj
      refine ⟨_, rfl, ?_⟩
      rw [← hj] at q
      exact q
  · refine iteN h1 ?_
    rw [List.drop_eq_nil_of_le (by omega)] at hj
    refine ⟨_, rfl, ?_⟩
    rw [← hj] at q
    exact q
abbrev s_expected : Stmt := topS 36
abbrev N_expected : List Str := ["text", "at", "word"]
theorem sc_expected : FnScope N_expected ["text", "at", "word"] (defScope s_expected) := ⟨rfl, rfl, rfl, by decide +kernel, rfl, by decide +kernel, by decide +kernel⟩

theorem ok_expected {C : Addr} (T0 : Txt K mg) (XNoText : NoT K mg C) (D : IsDef K mg "expected" s_expected ["text", "at", "word"]) : Cal P w K mg base (L2.CX P w) 1 "expected" ["text", "at", "word"] (spExp C) := by
  refine D.calX sc_expected (fun vs H Q E h => ?_) (fun f cdv A outer s H vs Q E hr h => ?_)
  · obtain ⟨T, a, wd, rfl, _⟩ := h
    rfl
  obtain ⟨L, a, wd, rfl, hT, hw, qe, q⟩ := h
  have T := T0
  refine ⟨_, (pss_cons (ps_if (pt_cmpR op_ne (pe_slice sl_str (pv 0) (po_some (pv 1)) (po_some (pe_op op_add (pv 1) (pe_callB call_len_str (by rfl) T.b_len PySem.boot_len (pa_cons (pv 2) pa_nil))))) (pv 2) (nomark _))
        (pss_one (ps_raise rfl (takes_of rfl rfl rfl rfl) (pmk_own PySem.F.excBase_ValueError XNoText.x XNoText.g XNoText.k (raises_own XNoText.b XNoText.t) rfl)))
        pss_nil)
      (pss_one (ps_ret (pe_op op_add (pv 1) (pe_callB call_len_str (by rfl) T.b_len PySem.boot_len (pa_cons (pv 2) pa_nil)))))), ?_⟩
  have hl : (SX.S L).length ≤ sizeLine := by rw [SX.S_len]; exact le_line (by omega)
  have hlw : (SX.S wd).length ≤ sizeLine := by rw [SX.S_len]; exact le_line (by omega)
  refine ⟨_, rfl, _, rfl, _, rfl, _, rfl, _, rfl, _, rfl, hlw, _, _, rfl, rfl, _, rfl, _, rfl, hl, _, rfl, rfl, _, rfl, ?_⟩
  rw [SX.S_len, cutS_add]
  by_cases h : (L.drop a).take wd.length = wd
  · refine not_true_eq (decide_eq_true (SS_eq.mpr h)) ?_
    refine ⟨_, rfl, _, rfl, _, rfl, hlw, _, _, rfl, rfl, ?_⟩
    rw [SX.S_len]
    exact q h
  · refine not_false_eq (decide_eq_false fun z => h (SS_eq.mp z)) ?_
    exact qe h
end
theorem cutS_nat (z : List Nat) (a k : Nat) : cutS (SX.S z) (some (a : Int)) (some ((a + k : Nat) : Int)) = SX.S ((z.drop a).take k) := cutS_add z a k
theorem lt_in : (fun c => decide (c ∈ letters)) = isLt := funext fun c => by
  have h := letter_in c
  rw [letters_is] at h
  exact h
theorem tame_cut {z : List Nat} (h : tameS z = true) (a k : Nat) : tameS ((z.drop a).take k) = true := by
  unfold tameS at h ⊢
  rw [Bool.and_eq_true, decide_eq_true_eq, List.all_eq_true] at h ⊢
  refine ⟨?_, fun c hc => h.2 c (List.mem_of_mem_drop (List.mem_of_mem_take hc))⟩
  rw [List.length_take, List.length_drop]
  omega
theorem tame_len {z : List Nat} (h : tameS z = true) : z.length ≤ 1000000 := by
  unfold tameS at h
  rw [Bool.and_eq_true, decide_eq_true_eq] at h
  exact h.1
theorem tw_all (p : Nat → Bool) : ∀ (l : List Nat), ∀ c ∈ l.takeWhile p, p c = true
  | [], c, h => by cases h
  | a :: r, c, h => by
    rw [List.takeWhile_cons] at h
    cases hp : p a with
    | false => rw [hp] at h; cases h
    | true =>
      rw [hp] at h
      rcases List.mem_cons.mp h with e | h
      · rw [e]; exact hp
      · exact tw_all p r c h
def figures : List Nat := [48, 49, 50, 51, 52, 53, 54, 55, 56, 57]
theorem figures_is : ("0123456789" : Str) = SX.S figures := by decide +kernel
theorem fg_in : (fun c => decide (c ∈ figures)) = isFg := funext fun c => by
  unfold isFg figures
  rw [← Bool.decide_and]
  refine decide_eq_decide.mpr ?_
  simp only [List.mem_cons, List.not_mem_nil, or_false]
  omega
section
variable {P : Program} {w : World} {K : PySem.W.Frag} {mg : Str → Option Value} {base : Heap}
abbrev s_read_name : Stmt := topS 37
abbrev N_read_name : List Str := ["text", "at", "behind"]
theorem sc_read_name : FnScope N_read_name ["text", "at"] (defScope s_read_name) := ⟨rfl, rfl, rfl, by decide +kernel, rfl, by decide +kernel, by decide +kernel⟩

theorem ok_read_name {C tw : Addr} (T : Txt K mg) (R : RTxt K mg tw) (XNoText : NoT K mg C) (D : IsDef K mg "read_name" s_read_name ["text", "at"]) (C_behind_signs : Cal P w K mg base CX0 1 "behind_signs" ["text", "at", "signs"] spBehind)
    (C_is_name : Cal P w K mg base CX0 1 "is_name" ["thing"] spIsName) : Cal P w K mg base (L2.CX P w) 2 "read_name" ["text", "at"] (spRd C rName) := by
  refine D.calX sc_read_name (fun vs H Q E h => ?_) (fun f cdv A outer s H vs Q E hr h => ?_)
  · obtain ⟨L, a, rfl, _⟩ := h
    rfl
  obtain ⟨L, a, rfl, ht, qe, q⟩ := h
  obtain ⟨_, g_LETTERS⟩ := R.LETTERS
  have hL := tame_len ht
  have hl : (SX.S L).length ≤ sizeLine := by rw [SX.S_len]; exact le_line (by omega)
  refine ⟨_, (pss_cons (ps_set (i := 2) sc_read_name.nd rfl (Or.inl rfl) (pe_cal C_behind_signs (hr.mono (by first | decide | omega)) pass0 (pa_cons (pv 0) (pa_cons (pv 1) (pa_cons (pe_glob (v := .str _) rfl g_LETTERS ⟨_, rfl⟩) pa_nil)))))
      (pss_cons (ps_if (pt_not (pt_val (pe_cal C_is_name (hr.mono (by first | decide | omega)) pass0 (pa_cons (pe_slice sl_str (pv 0) (po_some (pv 1)) (po_some (pv 2))) pa_nil))))
        (pss_one (ps_raise rfl (takes_of rfl rfl rfl rfl) (pmk_own PySem.F.excBase_ValueError XNoText.x XNoText.g XNoText.k (raises_own XNoText.b XNoText.t) rfl)))
        pss_nil)
      (pss_one (ps_ret (pe_tup (pa_cons (pe_tup (pa_cons pe_str (pa_cons (pe_slice sl_str (pv 0) (po_some (pv 1)) (po_some (pv 2))) pa_nil))) (pa_cons (pv 2) pa_nil))))))), ?_⟩
  refine ⟨_, rfl, _, rfl, L, a, letters, by rw [letters_is]; rfl, hL, ?_⟩
  rw [lt_in]
  have hcut : cutS (SX.S L) (some (a : Int)) (some ((a + ((L.drop a).takeWhile isLt).length : Nat) : Int)) = SX.S ((L.drop a).takeWhile isLt) := by rw [cutS_nat, take_while]
  have htm : (Th.str ((L.drop a).takeWhile isLt)).tame = true := by
    have := tame_cut ht a ((L.drop a).takeWhile isLt).length
    rw [take_while] at this
    exact this
  refine ⟨_, rfl, _, rfl, _, rfl, _, rfl, _, rfl, _, rfl, hl, _, .str ((L.drop a).takeWhile isLt), rfl, congrArg V.str hcut, htm, fun H1 hs1 => ⟨_, rfl, ?_⟩⟩
  cases hn : nmOk ((L.drop a).takeWhile isLt) with
  | false =>
    refine not_false_eq hn ?_
    exact qe (by unfold rName; rw [hn]; rfl) _ hs1
  | true =>
    refine not_true_eq hn ?_
    refine ⟨_, rfl, _, rfl, _, rfl, _, rfl, _, rfl, _, rfl, hl, le_line (Nat.le_of_ble_eq_true rfl), fun p1 n1 => ⟨_, rfl, le_line (Nat.le_of_ble_eq_true rfl), fun p2 n2 => ?_⟩⟩
    refine q (.read ((L.drop a).takeWhile isLt)) _ (by unfold rName; rw [hn]; rfl) _ p2 (.ref p1) (hs1.trans ((same_new n1 _).trans (same_new n2 _))) upd_same ⟨p1, rfl, ?_⟩
    rw [upd_ne (ne_of_none upd_same n2), upd_same, hcut]
abbrev s_read_number : Stmt := topS 38
abbrev N_read_number : List Str := ["text", "at", "first", "behind", "figures"]
theorem sc_read_number : FnScope N_read_number ["text", "at"] (defScope s_read_number) := ⟨rfl, rfl, rfl, by decide +kernel, rfl, by decide +kernel, by decide +kernel⟩

theorem ok_read_number {C : Addr} (T : Txt K mg) (F0 : FTxt K mg) (XNoText : NoT K mg C) (D : IsDef K mg "read_number" s_read_number ["text", "at"]) (C_behind_signs : Cal P w K mg base CX0 1 "behind_signs" ["text", "at", "signs"] spBehind) :
    Cal P w K mg base (L2.CX P w) 2 "read_number" ["text", "at"] (spRd C rNum) := by
  refine D.calX sc_read_number (fun vs H Q E h => ?_) (fun f cdv A outer s H vs Q E hr h => ?_)
  · obtain ⟨L, a, rfl, _⟩ := h
    rfl
  obtain ⟨L, a, rfl, ht, qe, q⟩ := h
  obtain ⟨_, g_FIGURES⟩ := F0.FIGURES
  obtain ⟨_, g_MOST_FIGURES⟩ := F0.MOST_FIGURES
  have hL := tame_len ht
  have hl : (SX.S L).length ≤ sizeLine := by rw [SX.S_len]; exact le_line (by omega)
  refine ⟨_, (pss_cons (ps_set (i := 2) sc_read_number.nd rfl (Or.inl rfl) (pe_op op_add (pv 1) (pe_callTy call_int1 (by rfl) T.b_int (by decide +kernel) (pa_cons (pe_cmpR op_eq (pe_slice sl_str (pv 0) (po_some (pv 1)) (po_some (pe_op op_add (pv 1) pe_int))) pe_str (nomark _)) pa_nil))))
      (pss_cons (ps_set (i := 3) sc_read_number.nd rfl (Or.inl rfl) (pe_cal C_behind_signs (hr.mono (by first | decide | omega)) pass0 (pa_cons (pv 0) (pa_cons (pv 2) (pa_cons (pe_glob (v := .str _) rfl g_FIGURES ⟨_, rfl⟩) pa_nil)))))
      (pss_cons (ps_set (i := 4) sc_read_number.nd rfl (Or.inl rfl) (pe_slice sl_str (pv 0) (po_some (pv 2)) (po_some (pv 3))))
      (pss_cons (ps_if (PW.pt (pw_or (pt_cmpR op_lt (pe_callB call_len_str (by rfl) T.b_len PySem.boot_len (pa_cons (pv 4) pa_nil)) pe_int (nomark _)) (pw_or1 (pt_cmpR op_gt (pe_callB call_len_str (by rfl) T.b_len PySem.boot_len (pa_cons (pv 4) pa_nil)) (pe_glob (v := .int _) rfl g_MOST_FIGURES ⟨_, rfl⟩) (nomark _)))))
        (pss_one (ps_raise rfl (takes_of rfl rfl rfl rfl) (pmk_own PySem.F.excBase_ValueError XNoText.x XNoText.g XNoText.k (raises_own XNoText.b XNoText.t) rfl)))
        pss_nil)
      (pss_cons (ps_if (PW.pt (pw_and (pt_cmpR op_eq (pe_item_str (pv 4) pe_int (fun _ _ => rfl)) pe_str (nomark _)) (pw_and1 (PW.pt (pw_or (pt_cmpR op_gt (pe_callB call_len_str (by rfl) T.b_len PySem.boot_len (pa_cons (pv 4) pa_nil)) pe_int (nomark _)) (pw_or1 (pt_cmpR op_gt (pv 2) (pv 1) (nomark _))))))))
        (pss_one (ps_raise rfl (takes_of rfl rfl rfl rfl) (pmk_own PySem.F.excBase_ValueError XNoText.x XNoText.g XNoText.k (raises_own XNoText.b XNoText.t) rfl)))
        pss_nil)
      (pss_one (ps_ret (pe_tup (pa_cons (pe_tup (pa_cons pe_str (pa_cons (pe_callTy call_int_str (by rfl) T.b_int (by decide +kernel) (pa_cons (pe_slice sl_str (pv 0) (po_some (pv 1)) (po_some (pv 3))) pa_nil)) pa_nil))) (pa_cons (pv 3) pa_nil)))))))))), ?_⟩
  generalize hgl : L.drop a = l at q qe
  have h1c : cutS (SX.S L) (some (a : Int)) (some ((a : Int) + 1)) = SX.S (l.take 1) := by rw [← hgl]; exact cutS_add L a 1
  have hmin : ("-" : Str) = SX.S [45] := by decide +kernel
  have hk : [V.bl (decide (V.str (cutS (SX.S L) (some (a : Int)) (some ((a : Int) + 1))) = V.str "-"))] = [V.bl (decide (l.take 1 = [45]))] := by
    rw [h1c, hmin]
    congr 2
    exact decide_eq_decide.mpr SS_eq
  have hj : V.int (if decide (l.take 1 = [45]) = true then 1 else 0) = V.int ((sgn l : Nat) : Int) := by
    unfold sgn
    by_cases h : l.take 1 = [45]
    · rw [if_pos h, if_pos (decide_eq_true h)]; rfl
    · rw [if_neg h, if_neg (fun z => h (of_decide_eq_true z))]; rfl
  have hfig : (L.drop (a + sgn l)).takeWhile (fun c => decide (c ∈ figures)) = figs l := by
    rw [fg_in, ← List.drop_drop, hgl]; rfl
  have hcut2 : cutS (SX.S L) (some ((a : Int) + ((sgn l : Nat) : Int))) (some ((a + sgn l + (figs l).length : Nat) : Int)) = SX.S (figs l) := by
    have := cutS_nat L (a + sgn l) (figs l).length
    rw [← List.drop_drop, hgl] at this
    rw [show figs l = (l.drop (sgn l)).takeWhile isFg from rfl] at this ⊢
    rw [take_while] at this
    exact this
  have hcut3 : cutS (SX.S L) (some (a : Int)) (some ((a + sgn l + (figs l).length : Nat) : Int)) = SX.S (l.take (sgn l + (figs l).length)) := by
    have := cutS_nat L a (sgn l + (figs l).length)
    rw [hgl, ← Nat.add_assoc] at this
    exact this
  have hfl : (figs l).length ≤ 1000000 := by
    have h1 : (figs l).length ≤ (l.drop (sgn l)).length := by
      have := congrArg List.length (take_while isFg (l.drop (sgn l)))
      rw [List.length_take] at this
      show ((l.drop (sgn l)).takeWhile isFg).length ≤ _
      omega
    have h2 : l.length ≤ 1000000 := by rw [← hgl, List.length_drop]; omega
    rw [List.length_drop] at h1
    omega
  have hlf : (SX.S (figs l)).length ≤ sizeLine := by rw [SX.S_len]; exact le_line (by omega)
  refine ⟨_, rfl, _, rfl, _, rfl, _, rfl, _, rfl, _, _, rfl, rfl, _, rfl, _, rfl, hl, rfl, .inr ⟨decide (l.take 1 = [45]), hk, (a : Int), ((sgn l : Nat) : Int), rfl, hj, ?_⟩⟩
  refine ⟨_, rfl, _, rfl, L, a + sgn l, figures, by rw [figures_is]; rfl, hL, ?_⟩
  rw [hfig]
  refine ⟨_, rfl, _, rfl, _, rfl, _, rfl, _, rfl, _, rfl, hl, ?_⟩
  rw [hcut2]
  refine ⟨_, rfl, _, rfl, hlf, _, _, rfl, rfl, _, rfl, ?_⟩
  rw [SX.S_len]
  by_cases c1 : (((figs l).length : Nat) : Int) < 1
  · refine iteY c1 (iteT ?_)
    exact qe (by unfold rNum; rw [if_pos (.inl (by omega))]) _ (Same.refl H)
  refine iteN c1 ?_
  refine ⟨_, rfl, _, rfl, hlf, _, _, rfl, rfl, _, rfl, ?_⟩
  rw [SX.S_len]
  by_cases c2 : (((figs l).length : Nat) : Int) > 40
  · refine iteY c2 ?_
    exact qe (by unfold rNum; rw [if_pos (.inr (by omega))]) _ (Same.refl H)
  refine iteN c2 ?_
  have hnot : ¬ ((figs l).length < 1 ∨ 40 < (figs l).length) := by omega
  obtain ⟨c, rest, hcr⟩ : ∃ c rest, figs l = c :: rest := by
    cases hf : figs l with
    | nil => rw [hf] at c1; exact absurd (by show ((0 : Nat) : Int) < 1; decide) c1
    | cons c rest => exact ⟨c, rest, rfl⟩
  have htk : (figs l).take 1 = [c] := by rw [hcr]; rfl
  have hdig : NumText.AllDigits (figs l) := fun c' hc' => by
    have z : isFg c' = true := tw_all isFg _ c' hc'
    unfold isFg at z
    rw [Bool.and_eq_true, decide_eq_true_eq, decide_eq_true_eq] at z
    exact z
  have hint : intText? (SX.S (l.take (sgn l + (figs l).length))) = some (if sgn l = 1 then -(digVal (figs l) : Int) else digVal (figs l)) := by
    by_cases h : l.take 1 = [45]
    · have hs1 : sgn l = 1 := by unfold sgn; rw [if_pos h]
      obtain ⟨l', hl'⟩ : ∃ l', l = 45 :: l' := by
        cases l with
        | nil => cases h
        | cons x l' => exact ⟨l', by rw [show x = 45 from List.head_eq_of_cons_eq h]⟩
      have hf' : figs l = l'.takeWhile isFg := by unfold figs; rw [hs1, hl']; rfl
      have e : l.take (1 + (figs l).length) = 45 :: figs l := by
        rw [Nat.add_comm, hl', List.take_succ_cons, ← hl', hf', take_while]
      rw [hs1, e, if_pos rfl]
      exact intText_neg (cs := figs l) rfl hdig (by rw [hcr]; exact List.cons_ne_nil _ _) (by rw [SX.S_len, List.length_cons]; omega)
    · have hs0 : sgn l = 0 := by unfold sgn; rw [if_neg h]
      have e : l.take (0 + (figs l).length) = figs l := by
        rw [Nat.zero_add]
        unfold figs
        rw [hs0, List.drop_zero, take_while]
      rw [hs0, e, if_neg (by decide)]
      exact intText_digits (x := SX.S (figs l)) hdig (by show figs l ≠ []; rw [hcr]; exact List.cons_ne_nil _ _) (by rw [SX.S_len]; omega)
  have hlen : (SX.S (l.take (sgn l + (figs l).length))).length ≤ 640 := by
    rw [SX.S_len, List.length_take]
    have : sgn l ≤ 1 := by unfold sgn; split <;> omega
    omega
  refine ⟨_, rfl, SX.S (figs l), 0, c, rfl, rfl, by decide, by decide, by rw [SX.S_len]; omega, by rw [hcr]; rfl, rfl, _, rfl, ?_⟩
  have hz : ("0" : Str) = SX.S [48] := by decide +kernel
  by_cases c3 : c = 48
  · refine iteY (by rw [c3, hz]) ?_
    refine ⟨_, rfl, _, rfl, hlf, _, _, rfl, rfl, _, rfl, ?_⟩
    rw [SX.S_len]
    by_cases c4 : (((figs l).length : Nat) : Int) > 1
    · refine iteY c4 ?_
      exact iteT (qe (by unfold rNum; rw [if_neg hnot, if_pos ⟨by rw [htk, c3], .inl (by omega)⟩]) _ (Same.refl H))
    refine iteN c4 ?_
    refine ⟨_, rfl, _, rfl, _, _, rfl, rfl, _, rfl, ?_⟩
    by_cases c5 : (a : Int) + ((sgn l : Nat) : Int) > (a : Int)
    · refine iteY c5 ?_
      exact qe (by unfold rNum; rw [if_neg hnot, if_pos ⟨by rw [htk, c3], .inr (by omega)⟩]) _ (Same.refl H)
    refine iteN c5 ?_
    have hno : ¬ ((figs l).take 1 = [48] ∧ (1 < (figs l).length ∨ 0 < sgn l)) := fun z => by
      rcases z.2 with z | z <;> omega
    refine ⟨_, rfl, _, rfl, _, rfl, _, rfl, _, rfl, _, rfl, hl, _, _, congrArg (fun z => [V.str z]) hcut3, hint, hlen, le_line (Nat.le_of_ble_eq_true rfl), fun p1 n1 => ⟨_, rfl, le_line (Nat.le_of_ble_eq_true rfl), fun p2 n2 => ?_⟩⟩
    refine q (.num (if sgn l = 1 then -(digVal (figs l) : Int) else digVal (figs l))) (sgn l + (figs l).length) (by unfold rNum; rw [if_neg hnot, if_neg hno]) _ p2 (.ref p1) ((same_new n1 _).trans (same_new n2 _)) ?_ ⟨p1, rfl, ?_⟩
    · rw [← Nat.add_assoc]
      exact upd_same
    · rw [upd_ne (ne_of_none upd_same n2), upd_same]
  · have hno : ¬ ((figs l).take 1 = [48] ∧ (1 < (figs l).length ∨ 0 < sgn l)) := fun z => by
      rw [htk] at z
      exact c3 (List.head_eq_of_cons_eq z.1)
    refine iteN (fun z => c3 (by rw [hz] at z; exact List.head_eq_of_cons_eq (SS_eq.mp (show V.str (SX.S [c]) = V.str (SX.S [48]) from z)))) ?_
    refine ⟨_, rfl, _, rfl, _, rfl, _, rfl, _, rfl, _, rfl, hl, _, _, congrArg (fun z => [V.str z]) hcut3, hint, hlen, le_line (Nat.le_of_ble_eq_true rfl), fun p1 n1 => ⟨_, rfl, le_line (Nat.le_of_ble_eq_true rfl), fun p2 n2 => ?_⟩⟩
    refine q (.num (if sgn l = 1 then -(digVal (figs l) : Int) else digVal (figs l))) (sgn l + (figs l).length) (by unfold rNum; rw [if_neg hnot, if_neg hno]) _ p2 (.ref p1) ((same_new n1 _).trans (same_new n2 _)) ?_ ⟨p1, rfl, ?_⟩
    · rw [← Nat.add_assoc]
      exact upd_same
    · rw [upd_ne (ne_of_none upd_same n2), upd_same]
end
theorem SX1 {z : List Nat} {a k : Nat} {i j : Int} (hi : i = (a : Int)) (hj : j = ((a + k : Nat) : Int)) : cutS (SX.S z) (some i) (some j) = SX.S ((z.drop a).take k) := by
  rw [hi, hj]; exact cutS_nat z a k
section
variable {P : Program} {w : World} {K : PySem.W.Frag} {mg : Str → Option Value} {base : Heap}
abbrev s_read_two : Stmt := topS 39
abbrev N_read_two : List Str := ["text", "at", "depth", "one", "word", "other"]
theorem sc_read_two : FnScope N_read_two ["text", "at", "depth"] (defScope s_read_two) := ⟨rfl, rfl, rfl, by decide +kernel, rfl, by decide +kernel, by decide +kernel⟩

theorem ok_read_two {C wd : Addr} {es : Array DictEntry} {n0 k j : Nat} (T : Txt K mg) (XW : WordsT K w mg wd es n0) (XNoText : NoT K mg C) (D : IsDef K mg "read_two" s_read_two ["text", "at", "depth"])
    (C_expected : Cal P w K mg base (L2.CX P w) 1 "expected" ["text", "at", "word"] (spExp C)) (hj1 : 1 ≤ j) (C_read_part : Cal P w K mg base (L2.CX P w) j "read_part" ["text", "at", "depth"] (spRdD C k (rPart k))) :
    Cal P w K mg base (L2.CX P w) (j + 1) "read_two" ["text", "at", "depth"] (spRdD C (k + 1) (rTwo (rPart k))) := by
  refine D.calX sc_read_two (fun vs H Q E h => ?_) (fun f cdv A outer s H vs Q E hr h => ?_)
  · obtain ⟨L, a, d, rfl, _⟩ := h
    rfl
  obtain ⟨L, a, d, rfl, hdm, ht, qe, q⟩ := h
  have g_WORDS := XW.g
  have hL := tame_len ht
  have hl : (SX.S L).length ≤ sizeLine := by rw [SX.S_len]; exact le_line (by omega)
  refine ⟨_, (pss_cons (ps_asg (pe_cal C_read_part (hr.mono (by first | decide | omega)) (passes_call (takes_of rfl rfl rfl rfl) (fun _ _ _ _ h => h)) (pa_cons (pv 0) (pa_cons (pv 1) (pa_cons (pe_op op_add (pv 2) pe_int) pa_nil)))) (pg_tup rfl (pgs_cons (pg_name (i := 3) sc_read_two.nd rfl (Or.inl rfl)) (pgs_cons (pg_name (i := 1) sc_read_two.nd rfl (Or.inl rfl)) pgs_nil))))
      (pss_cons (ps_if (pt_cmpR (op_notIn_kd XW.dict) (pe_slice sl_str (pv 0) (po_some (pv 1)) (po_some (pe_op op_add (pv 1) pe_int))) (pe_glob (v := .ref _) rfl g_WORDS rfl) (by with_unfolding_all rfl))
        (pss_one (ps_raise rfl (takes_of rfl rfl rfl rfl) (pmk_own PySem.F.excBase_ValueError XNoText.x XNoText.g XNoText.k (raises_own XNoText.b XNoText.t) rfl)))
        pss_nil)
      (pss_cons (ps_set (i := 4) sc_read_two.nd rfl (Or.inl rfl) (pe_ix (r := rIxD K w) ix_kdict (pe_glob (v := .ref _) rfl g_WORDS rfl) (pe_slice sl_str (pv 0) (po_some (pv 1)) (po_some (pe_op op_add (pv 1) pe_int))) (fun _ _ => rfl)))
      (pss_cons (ps_asg (pe_cal C_read_part (hr.mono (by first | decide | omega)) (passes_call (takes_of rfl rfl rfl rfl) (fun _ _ _ _ h => h)) (pa_cons (pv 0) (pa_cons (pe_op op_add (pv 1) pe_int) (pa_cons (pe_op op_add (pv 2) pe_int) pa_nil)))) (pg_tup rfl (pgs_cons (pg_name (i := 5) sc_read_two.nd rfl (Or.inl rfl)) (pgs_cons (pg_name (i := 1) sc_read_two.nd rfl (Or.inl rfl)) pgs_nil))))
      (pss_one (ps_ret (pe_tup (pa_cons (pe_tup (pa_cons (pv 4) (pa_cons (pv 3) (pa_cons (pv 5) pa_nil)))) (pa_cons (pe_cal C_expected (hr.mono (by first | decide | omega)) (passes_call (takes_of rfl rfl rfl rfl) (fun _ _ _ _ h => h)) (pa_cons (pv 0) (pa_cons (pv 1) (pa_cons pe_str pa_nil)))) pa_nil))))))))), ?_⟩
  have dd : ∀ i : Nat, L.drop (a + i) = (L.drop a).drop i := fun i => by rw [List.drop_drop]
  refine ⟨_, rfl, _, rfl, _, rfl, _, _, rfl, rfl, L, a, d + 1, rfl, by omega, ht, fun hg => qe (by unfold rTwo; rw [hg]), fun r1 n1 hg1 H1 p1 v1 hs1 hp1 hr1 => ?_⟩
  refine ⟨p1, _, rfl, SqT.of hp1, rfl, v1, _, rfl, _, _, rfl, rfl, ?_⟩
  have hc : cutS (SX.S L) (some ((a + n1 : Nat) : Int)) (some (((a + n1 : Nat) : Int) + 3)) = SX.S (((L.drop a).drop n1).take 3) := by rw [← dd]; exact cutS_add L (a + n1) 3
  cases hw : twoWord (((L.drop a).drop n1).take 3) with
  | none =>
    refine ⟨_, rfl, _, rfl, _, rfl, _, rfl, _, _, rfl, rfl, _, rfl, _, rfl, hl, _, none, congrArg V.str hc, rfl, XW.no _ hw, _, rfl, iteT ?_⟩
    exact qe (by unfold rTwo; rw [hg1]; dsimp only; rw [hw]) _ hs1
  | some kd =>
    obtain ⟨es', n', u, hl1, hl2, hl3, hl4⟩ := XW.yes _ kd hw
    refine ⟨_, rfl, _, rfl, _, rfl, _, rfl, _, _, rfl, rfl, _, rfl, _, rfl, hl, _, some u, congrArg V.str hc, rfl, hl3, _, rfl, iteF ?_⟩
    refine ⟨_, rfl, _, rfl, _, rfl, _, rfl, _, _, rfl, rfl, _, rfl, _, rfl, hl, wd, _, .str kd.name, rfl, congrArg V.str hc, ⟨es', n', u, hl1, hl2, hl3, hl4⟩, ?_⟩
    have e2 : ∀ x, rPart k ((L.drop a).drop (n1 + 3)) = x → rPart k (L.drop (a + n1 + 3)) = x := fun x h => by rw [Nat.add_assoc, dd]; exact h
    have e3 : ∀ x, rPart k (L.drop (a + n1 + 3)) = x → rPart k ((L.drop a).drop (n1 + 3)) = x := fun x h => by rw [Nat.add_assoc, dd] at h; exact h
    refine ⟨_, rfl, _, rfl, _, _, rfl, rfl, _, rfl, _, _, rfl, rfl, L, a + n1 + 3, d + 1, rfl, by omega, ht, fun hg => ?_, fun r2 n2 hg2 H2 p2 v2 hs2 hp2 hr2 => ?_⟩
    · intro H2 hs2
      refine qe ?_ _ (hs1.trans hs2)
      unfold rTwo
      rw [hg1]
      dsimp only
      rw [hw]
      dsimp only
      rw [e3 _ hg]
    refine ⟨p2, _, rfl, SqT.of hp2, rfl, v2, _, rfl, _, _, rfl, rfl, ?_⟩
    have hq2 : rTwo (rPart k) (L.drop a) = if ((L.drop a).drop (n1 + 3 + n2)).take 1 = [41] then some (.two kd r1 r2, n1 + 3 + n2 + 1) else none := by
      unfold rTwo
      rw [hg1]
      dsimp only
      rw [hw]
      dsimp only
      rw [e3 _ hg2]
    have hb : (")" : Str) = SX.S [41] := by decide +kernel
    have ed : L.drop (a + n1 + 3 + n2) = (L.drop a).drop (n1 + 3 + n2) := by rw [← dd]; congr 1; omega
    refine ⟨_, rfl, _, rfl, _, rfl, le_line (Nat.le_of_ble_eq_true rfl), fun p3 np3 => ⟨_, rfl, _, rfl, L, a + n1 + 3 + n2, [41], by rw [hb]; rfl, hL, by decide, fun hne => ?_, fun he => ⟨le_line (Nat.le_of_ble_eq_true rfl), fun p4 np4 => ?_⟩⟩⟩
    · refine qe ?_ _ ((hs1.trans hs2).trans (same_new np3 _))
      rw [hq2, if_neg]
      rw [ed] at hne
      exact hne
    · have s4 : Same H2 (upd (upd H2 p3 (.tup [.str kd.name, v1, v2])) p4 (.tup [.ref p3, .int ((a + n1 + 3 + n2 + 1 : Nat) : Int)])) := (same_new np3 _).trans (same_new np4 _)
      refine q (.two kd r1 r2) (n1 + 3 + n2 + 1) (by rw [hq2, if_pos]; rw [ed] at he; exact he) _ p4 (.ref p3) ((hs1.trans hs2).trans s4) ?_ ⟨p3, v1, v2, rfl, ?_, (hr1.same hs2).same s4, hr2.same s4⟩
      · rw [show a + (n1 + 3 + n2 + 1) = a + n1 + 3 + n2 + 1 by omega]
        exact upd_same
      · rw [upd_ne (ne_of_none upd_same np4)]
        exact upd_same
abbrev s_read_pick : Stmt := topS 40
abbrev N_read_pick : List Str := ["text", "at", "depth", "test", "one", "other"]
theorem sc_read_pick : FnScope N_read_pick ["text", "at", "depth"] (defScope s_read_pick) := ⟨rfl, rfl, rfl, by decide +kernel, rfl, by decide +kernel, by decide +kernel⟩

theorem ok_read_pick {C : Addr} {k j : Nat} (T : Txt K mg) (XNoText : NoT K mg C) (D : IsDef K mg "read_pick" s_read_pick ["text", "at", "depth"])
    (C_expected : Cal P w K mg base (L2.CX P w) 1 "expected" ["text", "at", "word"] (spExp C)) (hj1 : 1 ≤ j) (C_read_part : Cal P w K mg base (L2.CX P w) j "read_part" ["text", "at", "depth"] (spRdD C k (rPart k))) :
    Cal P w K mg base (L2.CX P w) (j + 1) "read_pick" ["text", "at", "depth"] (spRdD C (k + 1) (rPick (rPart k))) := by
  refine D.calX sc_read_pick (fun vs H Q E h => ?_) (fun f cdv A outer s H vs Q E hr h => ?_)
  · obtain ⟨L, a, d, rfl, _⟩ := h
    rfl
  obtain ⟨L, a, d, rfl, hdm, ht, qe, q⟩ := h
  have hL := tame_len ht
  refine ⟨_, (pss_cons (ps_asg (pe_cal C_read_part (hr.mono (by first | decide | omega)) (passes_call (takes_of rfl rfl rfl rfl) (fun _ _ _ _ h => h)) (pa_cons (pv 0) (pa_cons (pv 1) (pa_cons (pe_op op_add (pv 2) pe_int) pa_nil)))) (pg_tup rfl (pgs_cons (pg_name (i := 3) sc_read_pick.nd rfl (Or.inl rfl)) (pgs_cons (pg_name (i := 1) sc_read_pick.nd rfl (Or.inl rfl)) pgs_nil))))
      (pss_cons (ps_asg (pe_cal C_read_part (hr.mono (by first | decide | omega)) (passes_call (takes_of rfl rfl rfl rfl) (fun _ _ _ _ h => h)) (pa_cons (pv 0) (pa_cons (pe_cal C_expected (hr.mono (by first | decide | omega)) (passes_call (takes_of rfl rfl rfl rfl) (fun _ _ _ _ h => h)) (pa_cons (pv 0) (pa_cons (pv 1) (pa_cons pe_str pa_nil)))) (pa_cons (pe_op op_add (pv 2) pe_int) pa_nil)))) (pg_tup rfl (pgs_cons (pg_name (i := 4) sc_read_pick.nd rfl (Or.inl rfl)) (pgs_cons (pg_name (i := 1) sc_read_pick.nd rfl (Or.inl rfl)) pgs_nil))))
      (pss_cons (ps_asg (pe_cal C_read_part (hr.mono (by first | decide | omega)) (passes_call (takes_of rfl rfl rfl rfl) (fun _ _ _ _ h => h)) (pa_cons (pv 0) (pa_cons (pe_cal C_expected (hr.mono (by first | decide | omega)) (passes_call (takes_of rfl rfl rfl rfl) (fun _ _ _ _ h => h)) (pa_cons (pv 0) (pa_cons (pv 1) (pa_cons pe_str pa_nil)))) (pa_cons (pe_op op_add (pv 2) pe_int) pa_nil)))) (pg_tup rfl (pgs_cons (pg_name (i := 5) sc_read_pick.nd rfl (Or.inl rfl)) (pgs_cons (pg_name (i := 1) sc_read_pick.nd rfl (Or.inl rfl)) pgs_nil))))
      (pss_one (ps_ret (pe_tup (pa_cons (pe_tup (pa_cons pe_str (pa_cons (pv 3) (pa_cons (pv 4) (pa_cons (pv 5) pa_nil))))) (pa_cons (pe_cal C_expected (hr.mono (by first | decide | omega)) (passes_call (takes_of rfl rfl rfl rfl) (fun _ _ _ _ h => h)) (pa_cons (pv 0) (pa_cons (pv 1) (pa_cons pe_str pa_nil)))) pa_nil)))))))), ?_⟩
  have dd : ∀ i : Nat, L.drop (a + i) = (L.drop a).drop i := fun i => by rw [List.drop_drop]
  refine ⟨_, rfl, _, rfl, _, rfl, _, _, rfl, rfl, L, a, d + 1, rfl, by omega, ht, fun hg => qe (by unfold rPick; rw [hg]), fun r1 n1 hg1 H1 p1 v1 hs1 hp1 hr1 => ?_⟩
  refine ⟨p1, _, rfl, SqT.of hp1, rfl, v1, _, rfl, _, _, rfl, rfl, ?_⟩
  have b1 : (" ? " : Str) = SX.S [32, 63, 32] := by decide +kernel
  have b2 : (" : " : Str) = SX.S [32, 58, 32] := by decide +kernel
  have b3 : ("]" : Str) = SX.S [93] := by decide +kernel
  have t1 : L.drop (a + n1) = (L.drop a).drop n1 := dd n1
  have hq1 : rPick (rPart k) (L.drop a) = if ((L.drop a).drop n1).take 3 = [32, 63, 32] then
      match rPart k ((L.drop a).drop (n1 + 3)) with
      | none => none
      | some (b, m) => if ((L.drop a).drop (n1 + 3 + m)).take 3 = [32, 58, 32] then
          match rPart k ((L.drop a).drop (n1 + 3 + m + 3)) with
          | none => none
          | some (c, o) => if ((L.drop a).drop (n1 + 3 + m + 3 + o)).take 1 = [93] then some (.pick r1 b c, n1 + 3 + m + 3 + o + 1) else none
        else none
    else none := by
    unfold rPick
    rw [hg1]
    try rfl
  refine ⟨_, rfl, _, rfl, _, rfl, L, a + n1, [32, 63, 32], by rw [b1]; rfl, hL, by decide, fun hne => qe (by rw [hq1, if_neg]; rw [t1] at hne; exact hne) _ hs1, fun he1 => ?_⟩
  rw [t1] at he1
  have he1' : ((L.drop a).drop n1).take 3 = [32, 63, 32] := he1
  rw [if_pos he1'] at hq1
  have e3 : L.drop (a + n1 + 3) = (L.drop a).drop (n1 + 3) := by rw [Nat.add_assoc, dd]
  refine ⟨_, rfl, _, _, rfl, rfl, L, a + n1 + 3, d + 1, rfl, by omega, ht, fun hg H2 hs2 => ?_, fun r2 n2 hg2 H2 p2 v2 hs2 hp2 hr2 => ?_⟩
  · refine qe ?_ _ (hs1.trans hs2)
    rw [e3] at hg
    rw [hq1, hg]
  rw [e3] at hg2
  rw [hg2] at hq1
  dsimp only at hq1
  refine ⟨p2, _, rfl, SqT.of hp2, rfl, v2, _, rfl, _, _, rfl, rfl, ?_⟩
  have t2 : L.drop (a + n1 + 3 + n2) = (L.drop a).drop (n1 + 3 + n2) := by rw [← dd]; congr 1; omega
  refine ⟨_, rfl, _, rfl, _, rfl, L, a + n1 + 3 + n2, [32, 58, 32], by rw [b2]; rfl, hL, by decide, fun hne => qe (by rw [hq1, if_neg]; rw [t2] at hne; exact hne) _ (hs1.trans hs2), fun he2 => ?_⟩
  rw [t2] at he2
  have he2' : ((L.drop a).drop (n1 + 3 + n2)).take 3 = [32, 58, 32] := he2
  rw [if_pos he2'] at hq1
  have e4 : L.drop (a + n1 + 3 + n2 + 3) = (L.drop a).drop (n1 + 3 + n2 + 3) := by rw [← dd]; congr 1; omega
  refine ⟨_, rfl, _, _, rfl, rfl, L, a + n1 + 3 + n2 + 3, d + 1, rfl, by omega, ht, fun hg H3 hs3 => ?_, fun r3 n3 hg3 H3 p3 v3 hs3 hp3 hr3 => ?_⟩
  · refine qe ?_ _ ((hs1.trans hs2).trans hs3)
    rw [e4] at hg
    rw [hq1, hg]
  rw [e4] at hg3
  rw [hg3] at hq1
  dsimp only at hq1
  refine ⟨p3, _, rfl, SqT.of hp3, rfl, v3, _, rfl, _, _, rfl, rfl, ?_⟩
  have t3 : L.drop (a + n1 + 3 + n2 + 3 + n3) = (L.drop a).drop (n1 + 3 + n2 + 3 + n3) := by rw [← dd]; congr 1; omega
  refine ⟨_, rfl, _, rfl, _, rfl, le_line (Nat.le_of_ble_eq_true rfl), fun p4 np4 => ⟨_, rfl, _, rfl, L, a + n1 + 3 + n2 + 3 + n3, [93], by rw [b3]; rfl, hL, by decide, fun hne => ?_, fun he => ⟨le_line (Nat.le_of_ble_eq_true rfl), fun p5 np5 => ?_⟩⟩⟩
  · refine qe ?_ _ (((hs1.trans hs2).trans hs3).trans (same_new np4 _))
    rw [hq1, if_neg]
    rw [t3] at hne
    exact hne
  · rw [t3] at he
    have he' : ((L.drop a).drop (n1 + 3 + n2 + 3 + n3)).take 1 = [93] := he
    rw [if_pos he'] at hq1
    have s5 : Same H3 (upd (upd H3 p4 (.tup [.str "pick", v1, v2, v3])) p5 (.tup [.ref p4, .int ((a + n1 + 3 + n2 + 3 + n3 + 1 : Nat) : Int)])) := (same_new np4 _).trans (same_new np5 _)
    refine q (.pick r1 r2 r3) (n1 + 3 + n2 + 3 + n3 + 1) hq1 _ p5 (.ref p4) (((hs1.trans hs2).trans hs3).trans s5) ?_ ⟨p4, v1, v2, v3, rfl, ?_, ((hr1.same hs2).same hs3).same s5, (hr2.same hs3).same s5, hr3.same s5⟩
    · rw [show a + (n1 + 3 + n2 + 3 + n3 + 1) = a + n1 + 3 + n2 + 3 + n3 + 1 by omega]
      exact upd_same
    · rw [upd_ne (ne_of_none upd_same np5)]
      exact upd_same
end
theorem sn_in : (fun c => decide (c ∈ letters ++ [44])) = fun c => isLt c || decide (c = 44) := funext fun c => by
  have h : decide (c ∈ letters) = isLt c := congrFun lt_in c
  rw [← h]
  simp only [List.mem_append, List.mem_singleton]
  exact Bool.decide_or _ _
theorem take1 {l : List Nat} {c : Nat} (h : l.take 1 = [c]) : ∃ l', l = c :: l' := by
  cases l with
  | nil => cases h
  | cons x l' => exact ⟨l', by rw [show x = c from List.head_eq_of_cons_eq h]⟩
/-- all of it is a recipe -/
theorem are_nms {ps : List (List Nat)} (h : (Th.tup (nmsTh ps)).areNms = true) : Nms ps := by
  have e : (decide (1 ≤ (nmsTh ps).length) && decide ((nmsTh ps).length ≤ 9) && (nmsTh ps).all Th.isNm) = true := h
  rw [Bool.and_eq_true, Bool.and_eq_true, decide_eq_true_eq, decide_eq_true_eq, List.all_eq_true] at e
  have hl : (nmsTh ps).length = ps.length := List.length_map _
  rw [hl] at e
  refine ⟨e.1.1, e.1.2, fun s hs => ?_⟩
  have := e.2 (.str s) (List.mem_map.mpr ⟨s, hs, rfl⟩)
  exact nmOk_iff.mp this
theorem tame_drop {z : List Nat} (h : tameS z = true) (a : Nat) (p : Nat → Bool) : tameS ((z.drop a).takeWhile p) = true := by
  have := tame_cut h a ((z.drop a).takeWhile p).length
  rw [take_while] at this
  exact this
/-- what is parted is no longer than the whole, and of the same signs -/
theorem spl_tame : ∀ (z acc : List Nat) (k : Nat), (∀ c ∈ acc, c < 128) → (∀ c ∈ z, c < 128) → ∀ p ∈ TL.spl [44] k acc z, p.length ≤ acc.length + z.length ∧ ∀ c ∈ p, c < 128
  | [], acc, k, ha, hz, p, hp => by
    rw [TL.spl_nil] at hp
    rw [List.mem_singleton.mp hp]
    exact ⟨Nat.le_refl _, ha⟩
  | c :: z, acc, 0, ha, hz, p, hp => by
    have hz' : ∀ x ∈ z, x < 128 := fun x hx => hz x (List.mem_cons_of_mem _ hx)
    by_cases hpre : TL.pre [44] (c :: z) = true
    · rw [TL.spl_hit hpre] at hp
      rcases List.mem_cons.mp hp with e | hp
      · rw [e]; exact ⟨Nat.le_add_right _ _, ha⟩
      · have := spl_tame z [] _ (fun _ h => by cases h) hz' p hp
        refine ⟨?_, this.2⟩
        have h1 := this.1
        rw [List.length_cons]
        simp only [List.length_nil] at h1
        omega
    · rw [TL.spl_miss (Bool.eq_false_iff.mpr hpre)] at hp
      have := spl_tame z (acc ++ [c]) 0 (fun x hx => by
        rcases List.mem_append.mp hx with h | h
        · exact ha x h
        · rw [List.mem_singleton.mp h]; exact hz c (List.mem_cons_self ..)) hz' p hp
      refine ⟨?_, this.2⟩
      have h1 := this.1
      rw [List.length_append] at h1
      rw [List.length_cons]
      simp only [List.length_cons, List.length_nil] at h1
      omega
  | c :: z, acc, k + 1, ha, hz, p, hp => by
    have hz' : ∀ x ∈ z, x < 128 := fun x hx => hz x (List.mem_cons_of_mem _ hx)
    have := spl_tame z acc k ha hz' p hp
    refine ⟨?_, this.2⟩
    have h1 := this.1
    rw [List.length_cons]
    omega
theorem spl_len : ∀ (z acc : List Nat) (k : Nat), (TL.spl [44] k acc z).length ≤ z.length + 1
  | [], acc, k => by rw [TL.spl_nil]; exact Nat.le_refl _
  | c :: z, acc, 0 => by
    by_cases hpre : TL.pre [44] (c :: z) = true
    · rw [TL.spl_hit hpre]
      have := spl_len z [] ([44] : List Nat).length.pred
      show (TL.spl [44] _ [] z).length + 1 ≤ z.length + 1 + 1
      exact Nat.succ_le_succ (spl_len z [] _)
    · rw [TL.spl_miss (Bool.eq_false_iff.mpr hpre)]
      have := spl_len z (acc ++ [c]) 0
      rw [List.length_cons]
      omega
  | c :: z, acc, k + 1 => by
    have := spl_len z acc k
    show (TL.spl [44] k acc z).length ≤ z.length + 1 + 1
    omega
theorem split_is (z : List Nat) : Txt.split (SX.S z) "," = (TL.spl [44] 0 [] z).map SX.S := by
  have h := TL.split_spl (SX.S z) "," (by decide +kernel) (TL.kind_ok (by decide +kernel))
  have h2 := congrArg (List.map SX.S) h
  rw [List.map_map] at h2
  have e : (SX.S ∘ TL.tl) = (id : Str → Str) := by funext y; exact SX.S_tl y
  rw [e, List.map_id] at h2
  rw [h2]
  rfl
theorem low_py : ∀ {ns : List (List Nat)}, (∀ s ∈ ns, ∀ c ∈ s, c < 128) → PyData.canLayAll0 (Th.pyL (nmsTh ns)) = true ∧ PyData.depthAll (Th.pyL (nmsTh ns)) = 0
  | [], _ => ⟨rfl, rfl⟩
  | s :: ns, h => by
    have ih := low_py (ns := ns) fun x hx => h x (List.mem_cons_of_mem _ hx)
    refine ⟨?_, ?_⟩
    · show ((SX.S s).cps.all (· < 0x110000) && PyData.canLayAll0 (Th.pyL (nmsTh ns))) = true
      rw [ih.1, Bool.and_true]
      have hs := h s (List.mem_cons_self ..)
      rw [← Array.all_toList, List.all_eq_true]
      intro c hc
      have := hs c hc
      exact decide_eq_true (by omega)
    · show max 0 (PyData.depthAll (Th.pyL (nmsTh ns))) = 0
      rw [ih.2]
      rfl
theorem low_shaped {ns : List (List Nat)} (h : ∀ s ∈ ns, ∀ c ∈ s, c < 128) : SeqAt.shaped (.list (Th.pyL (nmsTh ns))) = true := by
  rw [shaped_parts, (low_py h).1, (low_py h).2]
  exact ⟨rfl, by decide⟩
theorem low_tameL : ∀ {ns : List (List Nat)}, (∀ s ∈ ns, tameS s = true) → Th.tameL (nmsTh ns) = true
  | [], _ => rfl
  | s :: ns, h => by
    show (tameS s && Th.tameL (nmsTh ns)) = true
    rw [h s (List.mem_cons_self ..), low_tameL fun x hx => h x (List.mem_cons_of_mem _ hx)]
    rfl
theorem low_tame {ns : List (List Nat)} (h : ∀ s ∈ ns, tameS s = true) (hl : ns.length ≤ 1000000) : (Th.tup (nmsTh ns)).tame = true := by
  refine tame_tup (low_tameL h) (by unfold nmsTh; rw [List.length_map]; exact hl) ?_
  match ns with
  | [] => rfl
  | [a] => rfl
  | [a, b] => rfl
  | [a, b, c] => rfl
  | a :: b :: c :: d :: r => rfl
theorem tame_of {z : List Nat} (h1 : z.length ≤ 1000000) (h2 : ∀ c ∈ z, c < 128) : tameS z = true := by
  unfold tameS
  rw [decide_eq_true h1, List.all_eq_true.mpr fun c hc => decide_eq_true (h2 c hc)]
  rfl
theorem tame_low {z : List Nat} (h : tameS z = true) : ∀ c ∈ z, c < 128 := by
  unfold tameS at h
  rw [Bool.and_eq_true, List.all_eq_true] at h
  exact fun c hc => of_decide_eq_true (h.2 c hc)
/-- the parts of a tame text, short of a million -/
theorem parts_tameS {z : List Nat} (h : tameS z = true) : (∀ s ∈ TL.spl [44] 0 [] z, ∀ c ∈ s, c < 128) ∧ ∀ s ∈ TL.spl [44] 0 [] z, tameS s = true := by
  have hp := spl_tame z [] 0 (fun _ h => by cases h) (tame_low h)
  refine ⟨fun s hs => (hp s hs).2, fun s hs => tame_of ?_ (hp s hs).2⟩
  have h1 := (hp s hs).1
  have h2 := tame_len h
  simp only [List.length_nil] at h1
  omega
section
variable {P : Program} {w : World} {K : PySem.W.Frag} {mg : Str → Option Value} {base : Heap}
abbrev s_read_part : Stmt := topS 41
abbrev N_read_part : List Str := ["text", "at", "depth", "sign", "found", "behind", "names"]
theorem sc_read_part : FnScope N_read_part ["text", "at", "depth"] (defScope s_read_part) := ⟨rfl, rfl, rfl, by decide +kernel, rfl, by decide +kernel, by decide +kernel⟩

theorem ok_read_part0 {C tw : Addr} {i j : Nat} (T : Txt K mg) (R : RTxt K mg tw) (XNoText : NoT K mg C) (D : IsDef K mg "read_part" s_read_part ["text", "at", "depth"])
    (C_behind_signs : Cal P w K mg base CX0 1 "behind_signs" ["text", "at", "signs"] spBehind) (C_are_names : Cal P w K mg base CX0 2 "are_names" ["thing"] spAreNames) (C_expected : Cal P w K mg base (L2.CX P w) 1 "expected" ["text", "at", "word"] (spExp C))
    (C_read_name : Cal P w K mg base (L2.CX P w) 2 "read_name" ["text", "at"] (spRd C rName)) (C_read_number : Cal P w K mg base (L2.CX P w) 2 "read_number" ["text", "at"] (spRd C rNum))
    (C_read_two : Cal P w K mg base (L2.CX P w) 1 "read_two" ["text", "at", "depth"] fun _ _ _ _ => False) (C_read_pick : Cal P w K mg base (L2.CX P w) 1 "read_pick" ["text", "at", "depth"] fun _ _ _ _ => False) :
    Cal P w K mg base (L2.CX P w) 3 "read_part" ["text", "at", "depth"] (spRdD C 0 (rPart 0)) := by
  refine D.calX sc_read_part (fun vs H Q E h => ?_) (fun f cdv A outer s H vs Q E hr h => ?_)
  · obtain ⟨L, a, d, rfl, _⟩ := h
    rfl
  obtain ⟨L, a, d, rfl, hdm, ht, qe, q⟩ := h
  obtain ⟨_, g_LETTERS⟩ := R.LETTERS
  obtain ⟨_, g_DEEPEST⟩ := R.DEEPEST
  refine ⟨_, (pss_cons (ps_if (pt_cmpR op_gt (pv 2) (pe_glob (v := .int _) rfl g_DEEPEST ⟨_, rfl⟩) (nomark _))
        (pss_one (ps_raise rfl (takes_of rfl rfl rfl rfl) (pmk_own PySem.F.excBase_ValueError XNoText.x XNoText.g XNoText.k (raises_own XNoText.b XNoText.t) rfl)))
        pss_nil)
      (pss_cons (ps_set (i := 3) sc_read_part.nd rfl (Or.inl rfl) (pe_slice sl_str (pv 0) (po_some (pv 1)) (po_some (pe_op op_add (pv 1) pe_int))))
      (pss_cons (ps_if (pt_cmpR op_eq (pv 3) pe_str (nomark _))
        (pss_one (ps_asg (pe_cal C_read_two (hr.mono (by first | decide | omega)) (passes_call (takes_of rfl rfl rfl rfl) (fun _ _ _ _ h => h)) (pa_cons (pv 0) (pa_cons (pe_op op_add (pv 1) pe_int) (pa_cons (pv 2) pa_nil)))) (pg_tup rfl (pgs_cons (pg_name (i := 4) sc_read_part.nd rfl (Or.inl rfl)) (pgs_cons (pg_name (i := 1) sc_read_part.nd rfl (Or.inl rfl)) pgs_nil)))))
        (pss_one (ps_if (pt_cmpR op_eq (pv 3) pe_str (nomark _))
        (pss_one (ps_asg (pe_cal C_read_pick (hr.mono (by first | decide | omega)) (passes_call (takes_of rfl rfl rfl rfl) (fun _ _ _ _ h => h)) (pa_cons (pv 0) (pa_cons (pe_op op_add (pv 1) pe_int) (pa_cons (pv 2) pa_nil)))) (pg_tup rfl (pgs_cons (pg_name (i := 4) sc_read_part.nd rfl (Or.inl rfl)) (pgs_cons (pg_name (i := 1) sc_read_part.nd rfl (Or.inl rfl)) pgs_nil)))))
        (pss_one (ps_if (PW.pt (pw_and (pt_cmpR op_ne (pv 3) pe_str (nomark _)) (pw_and1 (pt_cmpR op_in_sign (pv 3) (pe_glob (v := .str _) rfl g_LETTERS ⟨_, rfl⟩) rfl))))
        (pss_one (ps_asg (pe_cal C_read_name (hr.mono (by first | decide | omega)) (passes_call (takes_of rfl rfl rfl rfl) (fun _ _ _ _ h => h)) (pa_cons (pv 0) (pa_cons (pv 1) pa_nil))) (pg_tup rfl (pgs_cons (pg_name (i := 4) sc_read_part.nd rfl (Or.inl rfl)) (pgs_cons (pg_name (i := 1) sc_read_part.nd rfl (Or.inl rfl)) pgs_nil)))))
        (pss_one (ps_asg (pe_cal C_read_number (hr.mono (by first | decide | omega)) (passes_call (takes_of rfl rfl rfl rfl) (fun _ _ _ _ h => h)) (pa_cons (pv 0) (pa_cons (pv 1) pa_nil))) (pg_tup rfl (pgs_cons (pg_name (i := 4) sc_read_part.nd rfl (Or.inl rfl)) (pgs_cons (pg_name (i := 1) sc_read_part.nd rfl (Or.inl rfl)) pgs_nil))))))))))
      (pss_cons (ps_while (passes_of rfl) (pt_cmpR op_eq (pe_slice sl_str (pv 0) (po_some (pv 1)) (po_some (pe_op op_add (pv 1) pe_int))) pe_str (nomark _))
        (pss_cons (ps_set (i := 5) sc_read_part.nd rfl (Or.inl rfl) (pe_cal C_behind_signs (hr.mono (by first | decide | omega)) pass0 (pa_cons (pv 0) (pa_cons (pe_op op_add (pv 1) pe_int) (pa_cons (pe_op op_add_str (pe_glob (v := .str _) rfl g_LETTERS ⟨_, rfl⟩) pe_str) pa_nil)))))
      (pss_cons (ps_set (i := 6) sc_read_part.nd rfl (Or.inl rfl) (pe_callTy call_tuple_of (by rfl) T.b_tuple (by decide +kernel) (pa_cons (pe_split (pe_slice sl_str (pv 0) (po_some (pe_op op_add (pv 1) pe_int)) (po_some (pv 5))) pe_str) pa_nil)))
      (pss_cons (ps_if (pt_not (pt_val (pe_cal C_are_names (hr.mono (by first | decide | omega)) pass0 (pa_cons (pv 6) pa_nil))))
        (pss_one (ps_raise rfl (takes_of rfl rfl rfl rfl) (pmk_own PySem.F.excBase_ValueError XNoText.x XNoText.g XNoText.k (raises_own XNoText.b XNoText.t) rfl)))
        pss_nil)
      (pss_cons (ps_set (i := 4) sc_read_part.nd rfl (Or.inl rfl) (pe_tup (pa_cons pe_str (pa_cons (pv 4) (pa_cons (pv 6) pa_nil)))))
      (pss_one (ps_set (i := 1) sc_read_part.nd rfl (Or.inl rfl) (pe_cal C_expected (hr.mono (by first | decide | omega)) (passes_call (takes_of rfl rfl rfl rfl) (fun _ _ _ _ h => h)) (pa_cons (pv 0) (pa_cons (pv 5) (pa_cons pe_str pa_nil)))))))))))
      (pss_one (ps_ret (pe_tup (pa_cons (pv 4) (pa_cons (pv 1) pa_nil))))))))), ?_⟩
  refine ⟨_, rfl, _, _, rfl, rfl, _, rfl, iteY (by omega) ?_⟩
  exact qe rfl _ (Same.refl H)
theorem ok_read_part {C tw : Addr} {k j : Nat} (T : Txt K mg) (R : RTxt K mg tw) (XNoText : NoT K mg C) (D : IsDef K mg "read_part" s_read_part ["text", "at", "depth"])
    (C_behind_signs : Cal P w K mg base CX0 1 "behind_signs" ["text", "at", "signs"] spBehind) (C_are_names : Cal P w K mg base CX0 2 "are_names" ["thing"] spAreNames) (C_expected : Cal P w K mg base (L2.CX P w) 1 "expected" ["text", "at", "word"] (spExp C))
    (C_read_name : Cal P w K mg base (L2.CX P w) 2 "read_name" ["text", "at"] (spRd C rName)) (C_read_number : Cal P w K mg base (L2.CX P w) 2 "read_number" ["text", "at"] (spRd C rNum)) (hj : 2 ≤ j)
    (C_read_two : Cal P w K mg base (L2.CX P w) j "read_two" ["text", "at", "depth"] (spRdD C (k + 1) (rTwo (rPart k)))) (C_read_pick : Cal P w K mg base (L2.CX P w) j "read_pick" ["text", "at", "depth"] (spRdD C (k + 1) (rPick (rPart k)))) :
    Cal P w K mg base (L2.CX P w) (j + 1) "read_part" ["text", "at", "depth"] (spRdD C (k + 1) (rPart (k + 1))) := by
  refine D.calX sc_read_part (fun vs H Q E h => ?_) (fun f cdv A outer s H vs Q E hr h => ?_)
  · obtain ⟨L, a, d, rfl, _⟩ := h
    rfl
  obtain ⟨L, a, d, rfl, hdm, ht, qe, q⟩ := h
  obtain ⟨_, g_LETTERS⟩ := R.LETTERS
  obtain ⟨_, g_DEEPEST⟩ := R.DEEPEST
  have hL := tame_len ht
  have hl : (SX.S L).length ≤ sizeLine := by rw [SX.S_len]; exact le_line (by omega)
  have hbr : ("{" : Str) = SX.S [123] := by decide +kernel
  have hb1 : ("(" : Str) = SX.S [40] := by decide +kernel
  have hb2 : ("[" : Str) = SX.S [91] := by decide +kernel
  have hb3 : ("" : Str) = SX.S [] := by decide +kernel
  have hc1 : cutS (SX.S L) (some (a : Int)) (some ((a : Int) + 1)) = SX.S ((L.drop a).take 1) := cutS_add L a 1
  have d1 : L.drop (a + 1) = (L.drop a).drop 1 := by rw [List.drop_drop]
  have hP : ∀ x, rBase (rPart k) (L.drop a) = x → rPart (k + 1) (L.drop a) = (match x with | none => none | some (r, n) => rTail (L.drop a).length (L.drop a) r n) := fun x h => by rw [← h]; rfl
  refine ⟨_, (pss_cons (ps_if (pt_cmpR op_gt (pv 2) (pe_glob (v := .int _) rfl g_DEEPEST ⟨_, rfl⟩) (nomark _))
        (pss_one (ps_raise rfl (takes_of rfl rfl rfl rfl) (pmk_own PySem.F.excBase_ValueError XNoText.x XNoText.g XNoText.k (raises_own XNoText.b XNoText.t) rfl)))
        pss_nil)
      (pss_cons (ps_set (i := 3) sc_read_part.nd rfl (Or.inl rfl) (pe_slice sl_str (pv 0) (po_some (pv 1)) (po_some (pe_op op_add (pv 1) pe_int))))
      (pss_cons (ps_if (pt_cmpR op_eq (pv 3) pe_str (nomark _))
        (pss_one (ps_asg (pe_cal C_read_two (hr.mono (by first | decide | omega)) (passes_call (takes_of rfl rfl rfl rfl) (fun _ _ _ _ h => h)) (pa_cons (pv 0) (pa_cons (pe_op op_add (pv 1) pe_int) (pa_cons (pv 2) pa_nil)))) (pg_tup rfl (pgs_cons (pg_name (i := 4) sc_read_part.nd rfl (Or.inl rfl)) (pgs_cons (pg_name (i := 1) sc_read_part.nd rfl (Or.inl rfl)) pgs_nil)))))
        (pss_one (ps_if (pt_cmpR op_eq (pv 3) pe_str (nomark _))
        (pss_one (ps_asg (pe_cal C_read_pick (hr.mono (by first | decide | omega)) (passes_call (takes_of rfl rfl rfl rfl) (fun _ _ _ _ h => h)) (pa_cons (pv 0) (pa_cons (pe_op op_add (pv 1) pe_int) (pa_cons (pv 2) pa_nil)))) (pg_tup rfl (pgs_cons (pg_name (i := 4) sc_read_part.nd rfl (Or.inl rfl)) (pgs_cons (pg_name (i := 1) sc_read_part.nd rfl (Or.inl rfl)) pgs_nil)))))
        (pss_one (ps_if (PW.pt (pw_and (pt_cmpR op_ne (pv 3) pe_str (nomark _)) (pw_and1 (pt_cmpR op_in_sign (pv 3) (pe_glob (v := .str _) rfl g_LETTERS ⟨_, rfl⟩) rfl))))
        (pss_one (ps_asg (pe_cal C_read_name (hr.mono (by first | decide | omega)) (passes_call (takes_of rfl rfl rfl rfl) (fun _ _ _ _ h => h)) (pa_cons (pv 0) (pa_cons (pv 1) pa_nil))) (pg_tup rfl (pgs_cons (pg_name (i := 4) sc_read_part.nd rfl (Or.inl rfl)) (pgs_cons (pg_name (i := 1) sc_read_part.nd rfl (Or.inl rfl)) pgs_nil)))))
        (pss_one (ps_asg (pe_cal C_read_number (hr.mono (by first | decide | omega)) (passes_call (takes_of rfl rfl rfl rfl) (fun _ _ _ _ h => h)) (pa_cons (pv 0) (pa_cons (pv 1) pa_nil))) (pg_tup rfl (pgs_cons (pg_name (i := 4) sc_read_part.nd rfl (Or.inl rfl)) (pgs_cons (pg_name (i := 1) sc_read_part.nd rfl (Or.inl rfl)) pgs_nil))))))))))
      (pss_cons (ps_while (passes_of rfl) (pt_cmpR op_eq (pe_slice sl_str (pv 0) (po_some (pv 1)) (po_some (pe_op op_add (pv 1) pe_int))) pe_str (nomark _))
        (pss_cons (ps_set (i := 5) sc_read_part.nd rfl (Or.inl rfl) (pe_cal C_behind_signs (hr.mono (by first | decide | omega)) pass0 (pa_cons (pv 0) (pa_cons (pe_op op_add (pv 1) pe_int) (pa_cons (pe_op op_add_str (pe_glob (v := .str _) rfl g_LETTERS ⟨_, rfl⟩) pe_str) pa_nil)))))
      (pss_cons (ps_set (i := 6) sc_read_part.nd rfl (Or.inl rfl) (pe_callTy call_tuple_of (by rfl) T.b_tuple (by decide +kernel) (pa_cons (pe_split (pe_slice sl_str (pv 0) (po_some (pe_op op_add (pv 1) pe_int)) (po_some (pv 5))) pe_str) pa_nil)))
      (pss_cons (ps_if (pt_not (pt_val (pe_cal C_are_names (hr.mono (by first | decide | omega)) pass0 (pa_cons (pv 6) pa_nil))))
        (pss_one (ps_raise rfl (takes_of rfl rfl rfl rfl) (pmk_own PySem.F.excBase_ValueError XNoText.x XNoText.g XNoText.k (raises_own XNoText.b XNoText.t) rfl)))
        pss_nil)
      (pss_cons (ps_set (i := 4) sc_read_part.nd rfl (Or.inl rfl) (pe_tup (pa_cons pe_str (pa_cons (pv 4) (pa_cons (pv 6) pa_nil)))))
      (pss_one (ps_set (i := 1) sc_read_part.nd rfl (Or.inl rfl) (pe_cal C_expected (hr.mono (by first | decide | omega)) (passes_call (takes_of rfl rfl rfl rfl) (fun _ _ _ _ h => h)) (pa_cons (pv 0) (pa_cons (pv 5) (pa_cons pe_str pa_nil)))))))))))
      (pss_one (ps_ret (pe_tup (pa_cons (pv 4) (pa_cons (pv 1) pa_nil))))))))), ?_⟩
  refine ⟨_, rfl, _, _, rfl, rfl, _, rfl, iteN (by omega) ?_⟩
  refine ⟨_, rfl, _, rfl, _, rfl, _, rfl, _, _, rfl, rfl, _, rfl, _, rfl, hl, ?_⟩
  rw [hc1]
  refine ⟨_, rfl, rfl, _, rfl, ?_⟩
  rw [hb1]
  by_cases k1 : (L.drop a).take 1 = [40]
  · refine iteY (SS_eq.mpr k1) ?_
    have hB : ∀ x, rTwo (rPart k) (L.drop (a + 1)) = x → rBase (rPart k) (L.drop a) = more 1 x := fun x h => by unfold rBase; rw [if_pos k1, ← d1, h]
    refine ⟨_, rfl, _, rfl, _, _, rfl, rfl, _, rfl, L, a + 1, d, rfl, hdm, ht, fun hg => qe (hP _ (hB _ hg)), fun r1 n1 hg1 H1 p1 v1 hs1 hp1 hr1 => ?_⟩
    refine ⟨p1, _, rfl, SqT.of hp1, rfl, v1, _, rfl, _, _, rfl, rfl, ?_⟩
    refine ⟨fun u σ H' => ∃ (f : Nat) (r : Rcp) (m : Nat) (v : V) (b : Nat) (o5 o6 : Option V), σ = [some (.str (SX.S L)), some (.int (b : Int)), some (.int (d : Int)), some (.str (SX.S ((L.drop a).take 1))), some v, o5, o6] ∧ b = a + m ∧ Same H H' ∧ Rec H' r v ∧
      rPart (k + 1) (L.drop a) = rTail f (L.drop a) r m ∧ (L.drop a).length ≤ f + m ∧ u = f, ?_, ?_⟩
    · exact ⟨_, (L.drop a).length, r1, 1 + n1, v1, _, none, none, rfl, by omega, hs1, hr1, hP _ (hB _ hg1), Nat.le_add_right _ _, rfl⟩
    rintro u σ H2 ⟨f, r, m, v, b, o5, o6, rfl, hb, hs2, hr2, heq, hfm, hu⟩
    subst u
    have hc : cutS (SX.S L) (some (b : Int)) (some ((b : Int) + 1)) = SX.S ((L.drop b).take 1) := cutS_add L b 1
    have hdb : L.drop b = (L.drop a).drop m := by rw [List.drop_drop, hb]
    have hdb1 : L.drop (b + 1) = (L.drop a).drop (m + 1) := by rw [List.drop_drop, hb]; congr 1
    refine ⟨_, rfl, _, rfl, _, rfl, _, rfl, _, _, rfl, rfl, _, rfl, _, rfl, hl, rfl, _, rfl, ?_⟩
    rw [hc, hbr]
    by_cases hbrace : (L.drop b).take 1 = [123]
    · refine iteY (SS_eq.mpr hbrace) ?_
      cases f with
      | zero =>
        rw [hdb, List.drop_eq_nil_of_le (by omega)] at hbrace
        cases hbrace
      | succ f =>
        have hT : rTail (f + 1) (L.drop a) r m = if (Th.tup (nmsTh (TL.spl [44] 0 [] (nmSigns (L.drop (b + 1)))))).areNms = true then
            if (L.drop (b + 1 + (nmSigns (L.drop (b + 1))).length)).take 1 = [125] then rTail f (L.drop a) (.choose r (TL.spl [44] 0 [] (nmSigns (L.drop (b + 1))))) (m + 1 + (nmSigns (L.drop (b + 1))).length + 1) else none else none := by
          have e1 : L.drop (b + 1 + (nmSigns (L.drop (b + 1))).length) = (L.drop a).drop (m + 1 + (nmSigns (L.drop (b + 1))).length) := by rw [List.drop_drop, hb]; congr 1; omega
          rw [e1, hdb1]
          show (if ((L.drop a).drop m).take 1 = [123] then _ else _) = _
          rw [if_pos (by rw [← hdb]; exact hbrace)]
        have htz : tameS (nmSigns (L.drop (b + 1))) = true := tame_drop ht (b + 1) _
        have hzl := tame_len htz
        obtain ⟨hp1, hp2⟩ := parts_tameS htz
        have hbl : b < L.length := Decidable.byContradiction fun z => by
          rw [List.drop_eq_nil_of_le (by omega)] at hbrace
          cases hbrace
        have hzs : (nmSigns (L.drop (b + 1))).length + 1 ≤ L.length := by
          have h1 := congrArg List.length (take_while (fun c => isLt c || decide (c = 44)) (L.drop (b + 1)))
          rw [List.length_take, List.length_drop] at h1
          show ((L.drop (b + 1)).takeWhile _).length + 1 ≤ _
          omega
        have hpl := spl_len (nmSigns (L.drop (b + 1))) [] 0
        have hcut : cutS (SX.S L) (some ((b : Int) + 1)) (some ((b + 1 + (nmSigns (L.drop (b + 1))).length : Nat) : Int)) = SX.S (nmSigns (L.drop (b + 1))) := by
          have := cutS_nat L (b + 1) (nmSigns (L.drop (b + 1))).length
          rw [show (nmSigns (L.drop (b + 1))) = (L.drop (b + 1)).takeWhile (fun c => isLt c || decide (c = 44)) from rfl] at this ⊢
          rw [take_while] at this
          exact this
        refine ⟨fun σ' H' => ∃ (f' : Nat) (r : Rcp) (m : Nat) (v : V) (b : Nat) (o5 o6 : Option V), σ' = [some (.str (SX.S L)), some (.int (b : Int)), some (.int (d : Int)), some (.str (SX.S ((L.drop a).take 1))), some v, o5, o6] ∧ b = a + m ∧ Same H H' ∧ Rec H' r v ∧
          rPart (k + 1) (L.drop a) = rTail f' (L.drop a) r m ∧ (L.drop a).length ≤ f' + m ∧ f' = f, ?_, ?_⟩
        · rintro σ' H' ⟨f', r, m, v, b, o5, o6, e1, e2, e3, e4, e5, e6, e7⟩
          exact ⟨f', by omega, f', r, m, v, b, o5, o6, e1, e2, e3, e4, e5, e6, rfl⟩
        have hcm : ("," : Str) = SX.S [44] := by decide +kernel
        refine ⟨_, rfl, _, rfl, _, _, rfl, rfl, _, _, rfl, rfl, le_line (Nat.le_of_ble_eq_true (by decide +kernel)), L, b + 1, letters ++ [44], by rw [hcm, letters_is, SX.S_cat]; rfl, hL, ?_⟩
        have e9 : ((L.drop (b + 1)).takeWhile fun c => decide (c ∈ letters ++ [44])) = nmSigns (L.drop (b + 1)) := by rw [sn_in]; rfl
        rw [e9]
        refine ⟨_, rfl, _, rfl, _, _, rfl, rfl, _, rfl, _, rfl, _, rfl, _, rfl, hl, ⟨_, rfl⟩, _, _, congrArg V.str hcut, rfl, by decide +kernel, by rw [SX.S_len]; exact le_line (by omega), fun p5 n5 => ?_⟩
        rw [split_is]
        refine ⟨p5, _, rfl, .inl ⟨SqL.of upd_same, fun p6 n6 => ?_⟩⟩
        have s6 := (same_new n5 (.lst (txs (TL.spl [44] 0 [] (nmSigns (L.drop (b + 1))))))).trans (same_new n6 (.tup (txs (TL.spl [44] 0 [] (nmSigns (L.drop (b + 1)))))))
        refine ⟨_, rfl, _, .tup (nmsTh (TL.spl [44] 0 [] (nmSigns (L.drop (b + 1))))), rfl, ⟨p6, _, rfl, upd_same, nms_data _ _⟩, low_tame hp2 (by omega), fun m e => by cases e; exact ⟨Nms.flat, low_shaped hp1⟩, fun H7 hs7 => ⟨_, rfl, ?_⟩⟩
        have hp6 := hs7 _ _ (upd_same (H := upd H2 p5 (.lst (txs (TL.spl [44] 0 [] (nmSigns (L.drop (b + 1))))))) (a := p6) (o := HO.tup (txs (TL.spl [44] 0 [] (nmSigns (L.drop (b + 1)))))))
        have hs27 := s6.trans hs7
        cases har : (Th.tup (nmsTh (TL.spl [44] 0 [] (nmSigns (L.drop (b + 1)))))).areNms with
        | false =>
          refine iteT ?_
          exact qe (by rw [heq, hT, if_neg (by rw [har]; exact Bool.false_ne_true)]) _ (hs2.trans hs27)
        | true =>
          rw [if_pos har] at hT
          refine iteF ?_
          refine ⟨_, rfl, _, rfl, le_line (Nat.le_of_ble_eq_true rfl), fun p8 n8 => ?_⟩
          have hcb : ("}" : Str) = SX.S [125] := by decide +kernel
          refine ⟨_, rfl, _, rfl, L, b + 1 + (nmSigns (L.drop (b + 1))).length, [125], by rw [hcb]; rfl, hL, by decide, fun hne0 => ?_, fun he0 => ?_⟩
          · have hne : ¬ (L.drop (b + 1 + (nmSigns (L.drop (b + 1))).length)).take 1 = [125] := hne0
            exact qe (by rw [heq, hT, if_neg hne]) _ ((hs2.trans hs27).trans (same_new n8 _))
          · have he : (L.drop (b + 1 + (nmSigns (L.drop (b + 1))).length)).take 1 = [125] := he0
            refine ⟨f, .choose r (TL.spl [44] 0 [] (nmSigns (L.drop (b + 1)))), m + 1 + (nmSigns (L.drop (b + 1))).length + 1, .ref p8, _, _, _, rfl, by show _ + 1 = _; omega, (hs2.trans hs27).trans (same_new n8 _), ⟨p8, v, p6, rfl, upd_same, (hr2.same hs27).same (same_new n8 _), ?_⟩, by rw [heq, hT, if_pos he], by omega, rfl⟩
            exact same_new n8 _ _ _ hp6
    · refine iteN (fun z => hbrace (SS_eq.mp z)) ?_
      have hres : rPart (k + 1) (L.drop a) = some (r, m) := by
        rw [heq]
        cases f with
        | zero => rfl
        | succ f =>
          show (if ((L.drop a).drop m).take 1 = [123] then _ else _) = _
          rw [if_neg (by rw [← hdb]; exact hbrace)]
      refine ⟨_, rfl, _, rfl, le_line (Nat.le_of_ble_eq_true rfl), fun p9 n9 => ?_⟩
      refine q r m hres _ p9 v (hs2.trans (same_new n9 _)) ?_ (hr2.same (same_new n9 _))
      rw [← hb]
      exact upd_same
  refine iteN (fun z => k1 (SS_eq.mp z)) ?_
  refine ⟨_, rfl, rfl, _, rfl, ?_⟩
  rw [hb2]
  by_cases k2 : (L.drop a).take 1 = [91]
  · refine iteY (SS_eq.mpr k2) ?_
    have hB : ∀ x, rPick (rPart k) (L.drop (a + 1)) = x → rBase (rPart k) (L.drop a) = more 1 x := fun x h => by unfold rBase; rw [if_neg k1, if_pos k2, ← d1, h]
    refine ⟨_, rfl, _, rfl, _, _, rfl, rfl, _, rfl, L, a + 1, d, rfl, hdm, ht, fun hg => qe (hP _ (hB _ hg)), fun r1 n1 hg1 H1 p1 v1 hs1 hp1 hr1 => ?_⟩
    refine ⟨p1, _, rfl, SqT.of hp1, rfl, v1, _, rfl, _, _, rfl, rfl, ?_⟩
    refine ⟨fun u σ H' => ∃ (f : Nat) (r : Rcp) (m : Nat) (v : V) (b : Nat) (o5 o6 : Option V), σ = [some (.str (SX.S L)), some (.int (b : Int)), some (.int (d : Int)), some (.str (SX.S ((L.drop a).take 1))), some v, o5, o6] ∧ b = a + m ∧ Same H H' ∧ Rec H' r v ∧
      rPart (k + 1) (L.drop a) = rTail f (L.drop a) r m ∧ (L.drop a).length ≤ f + m ∧ u = f, ?_, ?_⟩
    · exact ⟨_, (L.drop a).length, r1, 1 + n1, v1, _, none, none, rfl, by omega, hs1, hr1, hP _ (hB _ hg1), Nat.le_add_right _ _, rfl⟩
    rintro u σ H2 ⟨f, r, m, v, b, o5, o6, rfl, hb, hs2, hr2, heq, hfm, hu⟩
    subst u
    have hc : cutS (SX.S L) (some (b : Int)) (some ((b : Int) + 1)) = SX.S ((L.drop b).take 1) := cutS_add L b 1
    have hdb : L.drop b = (L.drop a).drop m := by rw [List.drop_drop, hb]
    have hdb1 : L.drop (b + 1) = (L.drop a).drop (m + 1) := by rw [List.drop_drop, hb]; congr 1
    refine ⟨_, rfl, _, rfl, _, rfl, _, rfl, _, _, rfl, rfl, _, rfl, _, rfl, hl, rfl, _, rfl, ?_⟩
    rw [hc, hbr]
    by_cases hbrace : (L.drop b).take 1 = [123]
    · refine iteY (SS_eq.mpr hbrace) ?_
      cases f with
      | zero =>
        rw [hdb, List.drop_eq_nil_of_le (by omega)] at hbrace
        cases hbrace
      | succ f =>
        have hT : rTail (f + 1) (L.drop a) r m = if (Th.tup (nmsTh (TL.spl [44] 0 [] (nmSigns (L.drop (b + 1)))))).areNms = true then
            if (L.drop (b + 1 + (nmSigns (L.drop (b + 1))).length)).take 1 = [125] then rTail f (L.drop a) (.choose r (TL.spl [44] 0 [] (nmSigns (L.drop (b + 1))))) (m + 1 + (nmSigns (L.drop (b + 1))).length + 1) else none else none := by
          have e1 : L.drop (b + 1 + (nmSigns (L.drop (b + 1))).length) = (L.drop a).drop (m + 1 + (nmSigns (L.drop (b + 1))).length) := by rw [List.drop_drop, hb]; congr 1; omega
          rw [e1, hdb1]
          show (if ((L.drop a).drop m).take 1 = [123] then _ else _) = _
          rw [if_pos (by rw [← hdb]; exact hbrace)]
        have htz : tameS (nmSigns (L.drop (b + 1))) = true := tame_drop ht (b + 1) _
        have hzl := tame_len htz
        obtain ⟨hp1, hp2⟩ := parts_tameS htz
        have hbl : b < L.length := Decidable.byContradiction fun z => by
          rw [List.drop_eq_nil_of_le (by omega)] at hbrace
          cases hbrace
        have hzs : (nmSigns (L.drop (b + 1))).length + 1 ≤ L.length := by
          have h1 := congrArg List.length (take_while (fun c => isLt c || decide (c = 44)) (L.drop (b + 1)))
          rw [List.length_take, List.length_drop] at h1
          show ((L.drop (b + 1)).takeWhile _).length + 1 ≤ _
          omega
        have hpl := spl_len (nmSigns (L.drop (b + 1))) [] 0
        have hcut : cutS (SX.S L) (some ((b : Int) + 1)) (some ((b + 1 + (nmSigns (L.drop (b + 1))).length : Nat) : Int)) = SX.S (nmSigns (L.drop (b + 1))) := by
          have := cutS_nat L (b + 1) (nmSigns (L.drop (b + 1))).length
          rw [show (nmSigns (L.drop (b + 1))) = (L.drop (b + 1)).takeWhile (fun c => isLt c || decide (c = 44)) from rfl] at this ⊢
          rw [take_while] at this
          exact this
        refine ⟨fun σ' H' => ∃ (f' : Nat) (r : Rcp) (m : Nat) (v : V) (b : Nat) (o5 o6 : Option V), σ' = [some (.str (SX.S L)), some (.int (b : Int)), some (.int (d : Int)), some (.str (SX.S ((L.drop a).take 1))), some v, o5, o6] ∧ b = a + m ∧ Same H H' ∧ Rec H' r v ∧
          rPart (k + 1) (L.drop a) = rTail f' (L.drop a) r m ∧ (L.drop a).length ≤ f' + m ∧ f' = f, ?_, ?_⟩
        · rintro σ' H' ⟨f', r, m, v, b, o5, o6, e1, e2, e3, e4, e5, e6, e7⟩
          exact ⟨f', by omega, f', r, m, v, b, o5, o6, e1, e2, e3, e4, e5, e6, rfl⟩
        have hcm : ("," : Str) = SX.S [44] := by decide +kernel
        refine ⟨_, rfl, _, rfl, _, _, rfl, rfl, _, _, rfl, rfl, le_line (Nat.le_of_ble_eq_true (by decide +kernel)), L, b + 1, letters ++ [44], by rw [hcm, letters_is, SX.S_cat]; rfl, hL, ?_⟩
        have e9 : ((L.drop (b + 1)).takeWhile fun c => decide (c ∈ letters ++ [44])) = nmSigns (L.drop (b + 1)) := by rw [sn_in]; rfl
        rw [e9]
        refine ⟨_, rfl, _, rfl, _, _, rfl, rfl, _, rfl, _, rfl, _, rfl, _, rfl, hl, ⟨_, rfl⟩, _, _, congrArg V.str hcut, rfl, by decide +kernel, by rw [SX.S_len]; exact le_line (by omega), fun p5 n5 => ?_⟩
        rw [split_is]
        refine ⟨p5, _, rfl, .inl ⟨SqL.of upd_same, fun p6 n6 => ?_⟩⟩
        have s6 := (same_new n5 (.lst (txs (TL.spl [44] 0 [] (nmSigns (L.drop (b + 1))))))).trans (same_new n6 (.tup (txs (TL.spl [44] 0 [] (nmSigns (L.drop (b + 1)))))))
        refine ⟨_, rfl, _, .tup (nmsTh (TL.spl [44] 0 [] (nmSigns (L.drop (b + 1))))), rfl, ⟨p6, _, rfl, upd_same, nms_data _ _⟩, low_tame hp2 (by omega), fun m e => by cases e; exact ⟨Nms.flat, low_shaped hp1⟩, fun H7 hs7 => ⟨_, rfl, ?_⟩⟩
        have hp6 := hs7 _ _ (upd_same (H := upd H2 p5 (.lst (txs (TL.spl [44] 0 [] (nmSigns (L.drop (b + 1))))))) (a := p6) (o := HO.tup (txs (TL.spl [44] 0 [] (nmSigns (L.drop (b + 1)))))))
        have hs27 := s6.trans hs7
        cases har : (Th.tup (nmsTh (TL.spl [44] 0 [] (nmSigns (L.drop (b + 1)))))).areNms with
        | false =>
          refine iteT ?_
          exact qe (by rw [heq, hT, if_neg (by rw [har]; exact Bool.false_ne_true)]) _ (hs2.trans hs27)
        | true =>
          rw [if_pos har] at hT
          refine iteF ?_
          refine ⟨_, rfl, _, rfl, le_line (Nat.le_of_ble_eq_true rfl), fun p8 n8 => ?_⟩
          have hcb : ("}" : Str) = SX.S [125] := by decide +kernel
          refine ⟨_, rfl, _, rfl, L, b + 1 + (nmSigns (L.drop (b + 1))).length, [125], by rw [hcb]; rfl, hL, by decide, fun hne0 => ?_, fun he0 => ?_⟩
          · have hne : ¬ (L.drop (b + 1 + (nmSigns (L.drop (b + 1))).length)).take 1 = [125] := hne0
            exact qe (by rw [heq, hT, if_neg hne]) _ ((hs2.trans hs27).trans (same_new n8 _))
          · have he : (L.drop (b + 1 + (nmSigns (L.drop (b + 1))).length)).take 1 = [125] := he0
            refine ⟨f, .choose r (TL.spl [44] 0 [] (nmSigns (L.drop (b + 1)))), m + 1 + (nmSigns (L.drop (b + 1))).length + 1, .ref p8, _, _, _, rfl, by show _ + 1 = _; omega, (hs2.trans hs27).trans (same_new n8 _), ⟨p8, v, p6, rfl, upd_same, (hr2.same hs27).same (same_new n8 _), ?_⟩, by rw [heq, hT, if_pos he], by omega, rfl⟩
            exact same_new n8 _ _ _ hp6
    · refine iteN (fun z => hbrace (SS_eq.mp z)) ?_
      have hres : rPart (k + 1) (L.drop a) = some (r, m) := by
        rw [heq]
        cases f with
        | zero => rfl
        | succ f =>
          show (if ((L.drop a).drop m).take 1 = [123] then _ else _) = _
          rw [if_neg (by rw [← hdb]; exact hbrace)]
      refine ⟨_, rfl, _, rfl, le_line (Nat.le_of_ble_eq_true rfl), fun p9 n9 => ?_⟩
      refine q r m hres _ p9 v (hs2.trans (same_new n9 _)) ?_ (hr2.same (same_new n9 _))
      rw [← hb]
      exact upd_same
  refine iteN (fun z => k2 (SS_eq.mp z)) ?_
  refine ⟨_, rfl, rfl, _, rfl, ?_⟩
  rw [hb3]
  by_cases k3 : (L.drop a).take 1 = []
  · refine not_true_eq (decide_eq_true (SS_eq.mpr k3)) ?_
    refine iteF ?_
    have hno : ¬ ((L.drop a).take 1).any isLt = true := by rw [k3]; exact Bool.false_ne_true
    have hB : ∀ x, rNum (L.drop a) = x → rBase (rPart k) (L.drop a) = x := fun x h => by unfold rBase; rw [if_neg k1, if_neg k2, if_neg hno, h]
    refine ⟨_, rfl, _, rfl, L, a, rfl, ht, fun hg => qe (hP _ (hB _ hg)), fun r1 n1 hg1 H1 p1 v1 hs1 hp1 hr1 => ?_⟩
    refine ⟨p1, _, rfl, SqT.of hp1, rfl, v1, _, rfl, _, _, rfl, rfl, ?_⟩
    refine ⟨fun u σ H' => ∃ (f : Nat) (r : Rcp) (m : Nat) (v : V) (b : Nat) (o5 o6 : Option V), σ = [some (.str (SX.S L)), some (.int (b : Int)), some (.int (d : Int)), some (.str (SX.S ((L.drop a).take 1))), some v, o5, o6] ∧ b = a + m ∧ Same H H' ∧ Rec H' r v ∧
      rPart (k + 1) (L.drop a) = rTail f (L.drop a) r m ∧ (L.drop a).length ≤ f + m ∧ u = f, ?_, ?_⟩
    · exact ⟨_, (L.drop a).length, r1, n1, v1, _, none, none, rfl, by omega, hs1, hr1, hP _ (hB _ hg1), Nat.le_add_right _ _, rfl⟩
    rintro u σ H2 ⟨f, r, m, v, b, o5, o6, rfl, hb, hs2, hr2, heq, hfm, hu⟩
    subst u
    have hc : cutS (SX.S L) (some (b : Int)) (some ((b : Int) + 1)) = SX.S ((L.drop b).take 1) := cutS_add L b 1
    have hdb : L.drop b = (L.drop a).drop m := by rw [List.drop_drop, hb]
    have hdb1 : L.drop (b + 1) = (L.drop a).drop (m + 1) := by rw [List.drop_drop, hb]; congr 1
    refine ⟨_, rfl, _, rfl, _, rfl, _, rfl, _, _, rfl, rfl, _, rfl, _, rfl, hl, rfl, _, rfl, ?_⟩
    rw [hc, hbr]
    by_cases hbrace : (L.drop b).take 1 = [123]
    · refine iteY (SS_eq.mpr hbrace) ?_
      cases f with
      | zero =>
        rw [hdb, List.drop_eq_nil_of_le (by omega)] at hbrace
        cases hbrace
      | succ f =>
        have hT : rTail (f + 1) (L.drop a) r m = if (Th.tup (nmsTh (TL.spl [44] 0 [] (nmSigns (L.drop (b + 1)))))).areNms = true then
            if (L.drop (b + 1 + (nmSigns (L.drop (b + 1))).length)).take 1 = [125] then rTail f (L.drop a) (.choose r (TL.spl [44] 0 [] (nmSigns (L.drop (b + 1))))) (m + 1 + (nmSigns (L.drop (b + 1))).length + 1) else none else none := by
          have e1 : L.drop (b + 1 + (nmSigns (L.drop (b + 1))).length) = (L.drop a).drop (m + 1 + (nmSigns (L.drop (b + 1))).length) := by rw [List.drop_drop, hb]; congr 1; omega
          rw [e1, hdb1]
          show (if ((L.drop a).drop m).take 1 = [123] then _ else _) = _
          rw [if_pos (by rw [← hdb]; exact hbrace)]
        have htz : tameS (nmSigns (L.drop (b + 1))) = true := tame_drop ht (b + 1) _
        have hzl := tame_len htz
        obtain ⟨hp1, hp2⟩ := parts_tameS htz
        have hbl : b < L.length := Decidable.byContradiction fun z => by
          rw [List.drop_eq_nil_of_le (by omega)] at hbrace
          cases hbrace
        have hzs : (nmSigns (L.drop (b + 1))).length + 1 ≤ L.length := by
          have h1 := congrArg List.length (take_while (fun c => isLt c || decide (c = 44)) (L.drop (b + 1)))
          rw [List.length_take, List.length_drop] at h1
          show ((L.drop (b + 1)).takeWhile _).length + 1 ≤ _
          omega
        have hpl := spl_len (nmSigns (L.drop (b + 1))) [] 0
        have hcut : cutS (SX.S L) (some ((b : Int) + 1)) (some ((b + 1 + (nmSigns (L.drop (b + 1))).length : Nat) : Int)) = SX.S (nmSigns (L.drop (b + 1))) := by
          have := cutS_nat L (b + 1) (nmSigns (L.drop (b + 1))).length
          rw [show (nmSigns (L.drop (b + 1))) = (L.drop (b + 1)).takeWhile (fun c => isLt c || decide (c = 44)) from rfl] at this ⊢
          rw [take_while] at this
          exact this
        refine ⟨fun σ' H' => ∃ (f' : Nat) (r : Rcp) (m : Nat) (v : V) (b : Nat) (o5 o6 : Option V), σ' = [some (.str (SX.S L)), some (.int (b : Int)), some (.int (d : Int)), some (.str (SX.S ((L.drop a).take 1))), some v, o5, o6] ∧ b = a + m ∧ Same H H' ∧ Rec H' r v ∧
          rPart (k + 1) (L.drop a) = rTail f' (L.drop a) r m ∧ (L.drop a).length ≤ f' + m ∧ f' = f, ?_, ?_⟩
        · rintro σ' H' ⟨f', r, m, v, b, o5, o6, e1, e2, e3, e4, e5, e6, e7⟩
          exact ⟨f', by omega, f', r, m, v, b, o5, o6, e1, e2, e3, e4, e5, e6, rfl⟩
        have hcm : ("," : Str) = SX.S [44] := by decide +kernel
        refine ⟨_, rfl, _, rfl, _, _, rfl, rfl, _, _, rfl, rfl, le_line (Nat.le_of_ble_eq_true (by decide +kernel)), L, b + 1, letters ++ [44], by rw [hcm, letters_is, SX.S_cat]; rfl, hL, ?_⟩
        have e9 : ((L.drop (b + 1)).takeWhile fun c => decide (c ∈ letters ++ [44])) = nmSigns (L.drop (b + 1)) := by rw [sn_in]; rfl
        rw [e9]
        refine ⟨_, rfl, _, rfl, _, _, rfl, rfl, _, rfl, _, rfl, _, rfl, _, rfl, hl, ⟨_, rfl⟩, _, _, congrArg V.str hcut, rfl, by decide +kernel, by rw [SX.S_len]; exact le_line (by omega), fun p5 n5 => ?_⟩
        rw [split_is]
        refine ⟨p5, _, rfl, .inl ⟨SqL.of upd_same, fun p6 n6 => ?_⟩⟩
        have s6 := (same_new n5 (.lst (txs (TL.spl [44] 0 [] (nmSigns (L.drop (b + 1))))))).trans (same_new n6 (.tup (txs (TL.spl [44] 0 [] (nmSigns (L.drop (b + 1)))))))
        refine ⟨_, rfl, _, .tup (nmsTh (TL.spl [44] 0 [] (nmSigns (L.drop (b + 1))))), rfl, ⟨p6, _, rfl, upd_same, nms_data _ _⟩, low_tame hp2 (by omega), fun m e => by cases e; exact ⟨Nms.flat, low_shaped hp1⟩, fun H7 hs7 => ⟨_, rfl, ?_⟩⟩
        have hp6 := hs7 _ _ (upd_same (H := upd H2 p5 (.lst (txs (TL.spl [44] 0 [] (nmSigns (L.drop (b + 1))))))) (a := p6) (o := HO.tup (txs (TL.spl [44] 0 [] (nmSigns (L.drop (b + 1)))))))
        have hs27 := s6.trans hs7
        cases har : (Th.tup (nmsTh (TL.spl [44] 0 [] (nmSigns (L.drop (b + 1)))))).areNms with
        | false =>
          refine iteT ?_
          exact qe (by rw [heq, hT, if_neg (by rw [har]; exact Bool.false_ne_true)]) _ (hs2.trans hs27)
        | true =>
          rw [if_pos har] at hT
          refine iteF ?_
          refine ⟨_, rfl, _, rfl, le_line (Nat.le_of_ble_eq_true rfl), fun p8 n8 => ?_⟩
          have hcb : ("}" : Str) = SX.S [125] := by decide +kernel
          refine ⟨_, rfl, _, rfl, L, b + 1 + (nmSigns (L.drop (b + 1))).length, [125], by rw [hcb]; rfl, hL, by decide, fun hne0 => ?_, fun he0 => ?_⟩
          · have hne : ¬ (L.drop (b + 1 + (nmSigns (L.drop (b + 1))).length)).take 1 = [125] := hne0
            exact qe (by rw [heq, hT, if_neg hne]) _ ((hs2.trans hs27).trans (same_new n8 _))
          · have he : (L.drop (b + 1 + (nmSigns (L.drop (b + 1))).length)).take 1 = [125] := he0
            refine ⟨f, .choose r (TL.spl [44] 0 [] (nmSigns (L.drop (b + 1)))), m + 1 + (nmSigns (L.drop (b + 1))).length + 1, .ref p8, _, _, _, rfl, by show _ + 1 = _; omega, (hs2.trans hs27).trans (same_new n8 _), ⟨p8, v, p6, rfl, upd_same, (hr2.same hs27).same (same_new n8 _), ?_⟩, by rw [heq, hT, if_pos he], by omega, rfl⟩
            exact same_new n8 _ _ _ hp6
    · refine iteN (fun z => hbrace (SS_eq.mp z)) ?_
      have hres : rPart (k + 1) (L.drop a) = some (r, m) := by
        rw [heq]
        cases f with
        | zero => rfl
        | succ f =>
          show (if ((L.drop a).drop m).take 1 = [123] then _ else _) = _
          rw [if_neg (by rw [← hdb]; exact hbrace)]
      refine ⟨_, rfl, _, rfl, le_line (Nat.le_of_ble_eq_true rfl), fun p9 n9 => ?_⟩
      refine q r m hres _ p9 v (hs2.trans (same_new n9 _)) ?_ (hr2.same (same_new n9 _))
      rw [← hb]
      exact upd_same
  refine not_false_eq (decide_eq_false fun z => k3 (SS_eq.mp z)) ?_
  obtain ⟨c, hcl⟩ : ∃ c, (L.drop a).take 1 = [c] := by
    cases hd : L.drop a with
    | nil => rw [hd] at k3; exact absurd rfl k3
    | cons c l' => exact ⟨c, rfl⟩
  refine ⟨_, rfl, c, _, congrArg (fun z => V.str (SX.S z)) hcl, rfl, _, rfl, ?_⟩
  rw [letter_in]
  have hlt : ((L.drop a).take 1).any isLt = isLt c := by rw [hcl]; exact Bool.or_false _
  cases hc4 : isLt c with
  | true =>
    have hc4' : (decide (97 ≤ c) && decide (c ≤ 122)) = true := hc4
    refine if_true_eq hc4' ?_
    have hB : ∀ x, rName (L.drop a) = x → rBase (rPart k) (L.drop a) = x := fun x h => by unfold rBase; rw [if_neg k1, if_neg k2, if_pos (by rw [hlt, hc4]), h]
    refine ⟨_, rfl, _, rfl, L, a, rfl, ht, fun hg => qe (hP _ (hB _ hg)), fun r1 n1 hg1 H1 p1 v1 hs1 hp1 hr1 => ?_⟩
    refine ⟨p1, _, rfl, SqT.of hp1, rfl, v1, _, rfl, _, _, rfl, rfl, ?_⟩
    refine ⟨fun u σ H' => ∃ (f : Nat) (r : Rcp) (m : Nat) (v : V) (b : Nat) (o5 o6 : Option V), σ = [some (.str (SX.S L)), some (.int (b : Int)), some (.int (d : Int)), some (.str (SX.S ((L.drop a).take 1))), some v, o5, o6] ∧ b = a + m ∧ Same H H' ∧ Rec H' r v ∧
      rPart (k + 1) (L.drop a) = rTail f (L.drop a) r m ∧ (L.drop a).length ≤ f + m ∧ u = f, ?_, ?_⟩
    · exact ⟨_, (L.drop a).length, r1, n1, v1, _, none, none, rfl, by omega, hs1, hr1, hP _ (hB _ hg1), Nat.le_add_right _ _, rfl⟩
    rintro u σ H2 ⟨f, r, m, v, b, o5, o6, rfl, hb, hs2, hr2, heq, hfm, hu⟩
    subst u
    have hc : cutS (SX.S L) (some (b : Int)) (some ((b : Int) + 1)) = SX.S ((L.drop b).take 1) := cutS_add L b 1
    have hdb : L.drop b = (L.drop a).drop m := by rw [List.drop_drop, hb]
    have hdb1 : L.drop (b + 1) = (L.drop a).drop (m + 1) := by rw [List.drop_drop, hb]; congr 1
    refine ⟨_, rfl, _, rfl, _, rfl, _, rfl, _, _, rfl, rfl, _, rfl, _, rfl, hl, rfl, _, rfl, ?_⟩
    rw [hc, hbr]
    by_cases hbrace : (L.drop b).take 1 = [123]
    · refine iteY (SS_eq.mpr hbrace) ?_
      cases f with
      | zero =>
        rw [hdb, List.drop_eq_nil_of_le (by omega)] at hbrace
        cases hbrace
      | succ f =>
        have hT : rTail (f + 1) (L.drop a) r m = if (Th.tup (nmsTh (TL.spl [44] 0 [] (nmSigns (L.drop (b + 1)))))).areNms = true then
            if (L.drop (b + 1 + (nmSigns (L.drop (b + 1))).length)).take 1 = [125] then rTail f (L.drop a) (.choose r (TL.spl [44] 0 [] (nmSigns (L.drop (b + 1))))) (m + 1 + (nmSigns (L.drop (b + 1))).length + 1) else none else none := by
          have e1 : L.drop (b + 1 + (nmSigns (L.drop (b + 1))).length) = (L.drop a).drop (m + 1 + (nmSigns (L.drop (b + 1))).length) := by rw [List.drop_drop, hb]; congr 1; omega
          rw [e1, hdb1]
          show (if ((L.drop a).drop m).take 1 = [123] then _ else _) = _
          rw [if_pos (by rw [← hdb]; exact hbrace)]
        have htz : tameS (nmSigns (L.drop (b + 1))) = true := tame_drop ht (b + 1) _
        have hzl := tame_len htz
        obtain ⟨hp1, hp2⟩ := parts_tameS htz
        have hbl : b < L.length := Decidable.byContradiction fun z => by
          rw [List.drop_eq_nil_of_le (by omega)] at hbrace
          cases hbrace
        have hzs : (nmSigns (L.drop (b + 1))).length + 1 ≤ L.length := by
          have h1 := congrArg List.length (take_while (fun c => isLt c || decide (c = 44)) (L.drop (b + 1)))
          rw [List.length_take, List.length_drop] at h1
          show ((L.drop (b + 1)).takeWhile _).length + 1 ≤ _
          omega
        have hpl := spl_len (nmSigns (L.drop (b + 1))) [] 0
        have hcut : cutS (SX.S L) (some ((b : Int) + 1)) (some ((b + 1 + (nmSigns (L.drop (b + 1))).length : Nat) : Int)) = SX.S (nmSigns (L.drop (b + 1))) := by
          have := cutS_nat L (b + 1) (nmSigns (L.drop (b + 1))).length
          rw [show (nmSigns (L.drop (b + 1))) = (L.drop (b + 1)).takeWhile (fun c => isLt c || decide (c = 44)) from rfl] at this ⊢
          rw [take_while] at this
          exact this
        refine ⟨fun σ' H' => ∃ (f' : Nat) (r : Rcp) (m : Nat) (v : V) (b : Nat) (o5 o6 : Option V), σ' = [some (.str (SX.S L)), some (.int (b : Int)), some (.int (d : Int)), some (.str (SX.S ((L.drop a).take 1))), some v, o5, o6] ∧ b = a + m ∧ Same H H' ∧ Rec H' r v ∧
          rPart (k + 1) (L.drop a) = rTail f' (L.drop a) r m ∧ (L.drop a).length ≤ f' + m ∧ f' = f, ?_, ?_⟩
        · rintro σ' H' ⟨f', r, m, v, b, o5, o6, e1, e2, e3, e4, e5, e6, e7⟩
          exact ⟨f', by omega, f', r, m, v, b, o5, o6, e1, e2, e3, e4, e5, e6, rfl⟩
        have hcm : ("," : Str) = SX.S [44] := by decide +kernel
        refine ⟨_, rfl, _, rfl, _, _, rfl, rfl, _, _, rfl, rfl, le_line (Nat.le_of_ble_eq_true (by decide +kernel)), L, b + 1, letters ++ [44], by rw [hcm, letters_is, SX.S_cat]; rfl, hL, ?_⟩
        have e9 : ((L.drop (b + 1)).takeWhile fun c => decide (c ∈ letters ++ [44])) = nmSigns (L.drop (b + 1)) := by rw [sn_in]; rfl
        rw [e9]
        refine ⟨_, rfl, _, rfl, _, _, rfl, rfl, _, rfl, _, rfl, _, rfl, _, rfl, hl, ⟨_, rfl⟩, _, _, congrArg V.str hcut, rfl, by decide +kernel, by rw [SX.S_len]; exact le_line (by omega), fun p5 n5 => ?_⟩
        rw [split_is]
        refine ⟨p5, _, rfl, .inl ⟨SqL.of upd_same, fun p6 n6 => ?_⟩⟩
        have s6 := (same_new n5 (.lst (txs (TL.spl [44] 0 [] (nmSigns (L.drop (b + 1))))))).trans (same_new n6 (.tup (txs (TL.spl [44] 0 [] (nmSigns (L.drop (b + 1)))))))
        refine ⟨_, rfl, _, .tup (nmsTh (TL.spl [44] 0 [] (nmSigns (L.drop (b + 1))))), rfl, ⟨p6, _, rfl, upd_same, nms_data _ _⟩, low_tame hp2 (by omega), fun m e => by cases e; exact ⟨Nms.flat, low_shaped hp1⟩, fun H7 hs7 => ⟨_, rfl, ?_⟩⟩
        have hp6 := hs7 _ _ (upd_same (H := upd H2 p5 (.lst (txs (TL.spl [44] 0 [] (nmSigns (L.drop (b + 1))))))) (a := p6) (o := HO.tup (txs (TL.spl [44] 0 [] (nmSigns (L.drop (b + 1)))))))
        have hs27 := s6.trans hs7
        cases har : (Th.tup (nmsTh (TL.spl [44] 0 [] (nmSigns (L.drop (b + 1)))))).areNms with
        | false =>
          refine iteT ?_
          exact qe (by rw [heq, hT, if_neg (by rw [har]; exact Bool.false_ne_true)]) _ (hs2.trans hs27)
        | true =>
          rw [if_pos har] at hT
          refine iteF ?_
          refine ⟨_, rfl, _, rfl, le_line (Nat.le_of_ble_eq_true rfl), fun p8 n8 => ?_⟩
          have hcb : ("}" : Str) = SX.S [125] := by decide +kernel
          refine ⟨_, rfl, _, rfl, L, b + 1 + (nmSigns (L.drop (b + 1))).length, [125], by rw [hcb]; rfl, hL, by decide, fun hne0 => ?_, fun he0 => ?_⟩
          · have hne : ¬ (L.drop (b + 1 + (nmSigns (L.drop (b + 1))).length)).take 1 = [125] := hne0
            exact qe (by rw [heq, hT, if_neg hne]) _ ((hs2.trans hs27).trans (same_new n8 _))
          · have he : (L.drop (b + 1 + (nmSigns (L.drop (b + 1))).length)).take 1 = [125] := he0
            refine ⟨f, .choose r (TL.spl [44] 0 [] (nmSigns (L.drop (b + 1)))), m + 1 + (nmSigns (L.drop (b + 1))).length + 1, .ref p8, _, _, _, rfl, by show _ + 1 = _; omega, (hs2.trans hs27).trans (same_new n8 _), ⟨p8, v, p6, rfl, upd_same, (hr2.same hs27).same (same_new n8 _), ?_⟩, by rw [heq, hT, if_pos he], by omega, rfl⟩
            exact same_new n8 _ _ _ hp6
    · refine iteN (fun z => hbrace (SS_eq.mp z)) ?_
      have hres : rPart (k + 1) (L.drop a) = some (r, m) := by
        rw [heq]
        cases f with
        | zero => rfl
        | succ f =>
          show (if ((L.drop a).drop m).take 1 = [123] then _ else _) = _
          rw [if_neg (by rw [← hdb]; exact hbrace)]
      refine ⟨_, rfl, _, rfl, le_line (Nat.le_of_ble_eq_true rfl), fun p9 n9 => ?_⟩
      refine q r m hres _ p9 v (hs2.trans (same_new n9 _)) ?_ (hr2.same (same_new n9 _))
      rw [← hb]
      exact upd_same
  | false =>
    have hc4' : (decide (97 ≤ c) && decide (c ≤ 122)) = false := hc4
    refine if_false_eq hc4' ?_
    have hno : ¬ ((L.drop a).take 1).any isLt = true := by rw [hlt, hc4]; exact Bool.false_ne_true
    have hB : ∀ x, rNum (L.drop a) = x → rBase (rPart k) (L.drop a) = x := fun x h => by unfold rBase; rw [if_neg k1, if_neg k2, if_neg hno, h]
    refine ⟨_, rfl, _, rfl, L, a, rfl, ht, fun hg => qe (hP _ (hB _ hg)), fun r1 n1 hg1 H1 p1 v1 hs1 hp1 hr1 => ?_⟩
    refine ⟨p1, _, rfl, SqT.of hp1, rfl, v1, _, rfl, _, _, rfl, rfl, ?_⟩
    refine ⟨fun u σ H' => ∃ (f : Nat) (r : Rcp) (m : Nat) (v : V) (b : Nat) (o5 o6 : Option V), σ = [some (.str (SX.S L)), some (.int (b : Int)), some (.int (d : Int)), some (.str (SX.S ((L.drop a).take 1))), some v, o5, o6] ∧ b = a + m ∧ Same H H' ∧ Rec H' r v ∧
      rPart (k + 1) (L.drop a) = rTail f (L.drop a) r m ∧ (L.drop a).length ≤ f + m ∧ u = f, ?_, ?_⟩
    · exact ⟨_, (L.drop a).length, r1, n1, v1, _, none, none, rfl, by omega, hs1, hr1, hP _ (hB _ hg1), Nat.le_add_right _ _, rfl⟩
    rintro u σ H2 ⟨f, r, m, v, b, o5, o6, rfl, hb, hs2, hr2, heq, hfm, hu⟩
    subst u
    have hc : cutS (SX.S L) (some (b : Int)) (some ((b : Int) + 1)) = SX.S ((L.drop b).take 1) := cutS_add L b 1
    have hdb : L.drop b = (L.drop a).drop m := by rw [List.drop_drop, hb]
    have hdb1 : L.drop (b + 1) = (L.drop a).drop (m + 1) := by rw [List.drop_drop, hb]; congr 1
    refine ⟨_, rfl, _, rfl, _, rfl, _, rfl, _, _, rfl, rfl, _, rfl, _, rfl, hl, rfl, _, rfl, ?_⟩
    rw [hc, hbr]
    by_cases hbrace : (L.drop b).take 1 = [123]
    · refine iteY (SS_eq.mpr hbrace) ?_
      cases f with
      | zero =>
        rw [hdb, List.drop_eq_nil_of_le (by omega)] at hbrace
        cases hbrace
      | succ f =>
        have hT : rTail (f + 1) (L.drop a) r m = if (Th.tup (nmsTh (TL.spl [44] 0 [] (nmSigns (L.drop (b + 1)))))).areNms = true then
            if (L.drop (b + 1 + (nmSigns (L.drop (b + 1))).length)).take 1 = [125] then rTail f (L.drop a) (.choose r (TL.spl [44] 0 [] (nmSigns (L.drop (b + 1))))) (m + 1 + (nmSigns (L.drop (b + 1))).length + 1) else none else none := by
          have e1 : L.drop (b + 1 + (nmSigns (L.drop (b + 1))).length) = (L.drop a).drop (m + 1 + (nmSigns (L.drop (b + 1))).length) := by rw [List.drop_drop, hb]; congr 1; omega
          rw [e1, hdb1]
          show (if ((L.drop a).drop m).take 1 = [123] then _ else _) = _
          rw [if_pos (by rw [← hdb]; exact hbrace)]
        have htz : tameS (nmSigns (L.drop (b + 1))) = true := tame_drop ht (b + 1) _
        have hzl := tame_len htz
        obtain ⟨hp1, hp2⟩ := parts_tameS htz
        have hbl : b < L.length := Decidable.byContradiction fun z => by
          rw [List.drop_eq_nil_of_le (by omega)] at hbrace
          cases hbrace
        have hzs : (nmSigns (L.drop (b + 1))).length + 1 ≤ L.length := by
          have h1 := congrArg List.length (take_while (fun c => isLt c || decide (c = 44)) (L.drop (b + 1)))
          rw [List.length_take, List.length_drop] at h1
          show ((L.drop (b + 1)).takeWhile _).length + 1 ≤ _
          omega
        have hpl := spl_len (nmSigns (L.drop (b + 1))) [] 0
        have hcut : cutS (SX.S L) (some ((b : Int) + 1)) (some ((b + 1 + (nmSigns (L.drop (b + 1))).length : Nat) : Int)) = SX.S (nmSigns (L.drop (b + 1))) := by
          have := cutS_nat L (b + 1) (nmSigns (L.drop (b + 1))).length
          rw [show (nmSigns (L.drop (b + 1))) = (L.drop (b + 1)).takeWhile (fun c => isLt c || decide (c = 44)) from rfl] at this ⊢
          rw [take_while] at this
          exact this
        refine ⟨fun σ' H' => ∃ (f' : Nat) (r : Rcp) (m : Nat) (v : V) (b : Nat) (o5 o6 : Option V), σ' = [some (.str (SX.S L)), some (.int (b : Int)), some (.int (d : Int)), some (.str (SX.S ((L.drop a).take 1))), some v, o5, o6] ∧ b = a + m ∧ Same H H' ∧ Rec H' r v ∧
          rPart (k + 1) (L.drop a) = rTail f' (L.drop a) r m ∧ (L.drop a).length ≤ f' + m ∧ f' = f, ?_, ?_⟩
        · rintro σ' H' ⟨f', r, m, v, b, o5, o6, e1, e2, e3, e4, e5, e6, e7⟩
          exact ⟨f', by omega, f', r, m, v, b, o5, o6, e1, e2, e3, e4, e5, e6, rfl⟩
        have hcm : ("," : Str) = SX.S [44] := by decide +kernel
        refine ⟨_, rfl, _, rfl, _, _, rfl, rfl, _, _, rfl, rfl, le_line (Nat.le_of_ble_eq_true (by decide +kernel)), L, b + 1, letters ++ [44], by rw [hcm, letters_is, SX.S_cat]; rfl, hL, ?_⟩
        have e9 : ((L.drop (b + 1)).takeWhile fun c => decide (c ∈ letters ++ [44])) = nmSigns (L.drop (b + 1)) := by rw [sn_in]; rfl
        rw [e9]
        refine ⟨_, rfl, _, rfl, _, _, rfl, rfl, _, rfl, _, rfl, _, rfl, _, rfl, hl, ⟨_, rfl⟩, _, _, congrArg V.str hcut, rfl, by decide +kernel, by rw [SX.S_len]; exact le_line (by omega), fun p5 n5 => ?_⟩
        rw [split_is]
        refine ⟨p5, _, rfl, .inl ⟨SqL.of upd_same, fun p6 n6 => ?_⟩⟩
        have s6 := (same_new n5 (.lst (txs (TL.spl [44] 0 [] (nmSigns (L.drop (b + 1))))))).trans (same_new n6 (.tup (txs (TL.spl [44] 0 [] (nmSigns (L.drop (b + 1)))))))
        refine ⟨_, rfl, _, .tup (nmsTh (TL.spl [44] 0 [] (nmSigns (L.drop (b + 1))))), rfl, ⟨p6, _, rfl, upd_same, nms_data _ _⟩, low_tame hp2 (by omega), fun m e => by cases e; exact ⟨Nms.flat, low_shaped hp1⟩, fun H7 hs7 => ⟨_, rfl, ?_⟩⟩
        have hp6 := hs7 _ _ (upd_same (H := upd H2 p5 (.lst (txs (TL.spl [44] 0 [] (nmSigns (L.drop (b + 1))))))) (a := p6) (o := HO.tup (txs (TL.spl [44] 0 [] (nmSigns (L.drop (b + 1)))))))
        have hs27 := s6.trans hs7
        cases har : (Th.tup (nmsTh (TL.spl [44] 0 [] (nmSigns (L.drop (b + 1)))))).areNms with
        | false =>
          refine iteT ?_
          exact qe (by rw [heq, hT, if_neg (by rw [har]; exact Bool.false_ne_true)]) _ (hs2.trans hs27)
        | true =>
          rw [if_pos har] at hT
          refine iteF ?_
          refine ⟨_, rfl, _, rfl, le_line (Nat.le_of_ble_eq_true rfl), fun p8 n8 => ?_⟩
          have hcb : ("}" : Str) = SX.S [125] := by decide +kernel
          refine ⟨_, rfl, _, rfl, L, b + 1 + (nmSigns (L.drop (b + 1))).length, [125], by rw [hcb]; rfl, hL, by decide, fun hne0 => ?_, fun he0 => ?_⟩
          · have hne : ¬ (L.drop (b + 1 + (nmSigns (L.drop (b + 1))).length)).take 1 = [125] := hne0
            exact qe (by rw [heq, hT, if_neg hne]) _ ((hs2.trans hs27).trans (same_new n8 _))
          · have he : (L.drop (b + 1 + (nmSigns (L.drop (b + 1))).length)).take 1 = [125] := he0
            refine ⟨f, .choose r (TL.spl [44] 0 [] (nmSigns (L.drop (b + 1)))), m + 1 + (nmSigns (L.drop (b + 1))).length + 1, .ref p8, _, _, _, rfl, by show _ + 1 = _; omega, (hs2.trans hs27).trans (same_new n8 _), ⟨p8, v, p6, rfl, upd_same, (hr2.same hs27).same (same_new n8 _), ?_⟩, by rw [heq, hT, if_pos he], by omega, rfl⟩
            exact same_new n8 _ _ _ hp6
    · refine iteN (fun z => hbrace (SS_eq.mp z)) ?_
      have hres : rPart (k + 1) (L.drop a) = some (r, m) := by
        rw [heq]
        cases f with
        | zero => rfl
        | succ f =>
          show (if ((L.drop a).drop m).take 1 = [123] then _ else _) = _
          rw [if_neg (by rw [← hdb]; exact hbrace)]
      refine ⟨_, rfl, _, rfl, le_line (Nat.le_of_ble_eq_true rfl), fun p9 n9 => ?_⟩
      refine q r m hres _ p9 v (hs2.trans (same_new n9 _)) ?_ (hr2.same (same_new n9 _))
      rw [← hb]
      exact upd_same
end
theorem digVal_lt : ∀ (cs : List Nat) (acc : Nat), (∀ c ∈ cs, 48 ≤ c ∧ c ≤ 57) → cs.foldl (fun acc c => acc * 10 + (c - 48)) acc < (acc + 1) * 10 ^ cs.length
  | [], acc, _ => by show acc < (acc + 1) * 1; omega
  | c :: cs, acc, h => by
    have hc := h c (List.mem_cons_self ..)
    have ih := digVal_lt cs (acc * 10 + (c - 48)) fun x hx => h x (List.mem_cons_of_mem _ hx)
    show cs.foldl _ (acc * 10 + (c - 48)) < (acc + 1) * 10 ^ (cs.length + 1)
    refine Nat.lt_of_lt_of_le ih ?_
    rw [Nat.pow_succ, ← Nat.mul_assoc, Nat.mul_right_comm]
    exact Nat.mul_le_mul_right _ (by omega)
def RdGood (g : Rdr) : Prop := ∀ l r n, g l = some (r, n) → r.Good
theorem rName_good : RdGood rName := fun l r n h => by
  unfold rName at h
  by_cases c : nmOk (l.takeWhile isLt) = true
  · rw [if_pos c] at h
    cases h
    exact nmOk_iff.mp c
  · rw [if_neg c] at h
    cases h
theorem figs_dig (l : List Nat) : ∀ c ∈ figs l, 48 ≤ c ∧ c ≤ 57 := fun c hc => by
  have z : isFg c = true := tw_all isFg _ c hc
  unfold isFg at z
  rw [Bool.and_eq_true, decide_eq_true_eq, decide_eq_true_eq] at z
  exact z
theorem rNum_good : RdGood rNum := fun l r n h => by
  unfold rNum at h
  by_cases c : (figs l).length < 1 ∨ 40 < (figs l).length
  · rw [if_pos c] at h; cases h
  rw [if_neg c] at h
  by_cases c2 : (figs l).take 1 = [48] ∧ (1 < (figs l).length ∨ 0 < sgn l)
  · rw [if_pos c2] at h; cases h
  rw [if_neg c2] at h
  cases h
  have hv := digVal_lt (figs l) 0 (figs_dig l)
  have hp : 10 ^ (figs l).length ≤ 10 ^ 40 := Nat.pow_le_pow_right (by decide) (by omega)
  have hv2 : digVal (figs l) < 10 ^ 40 := Nat.lt_of_lt_of_le (by rw [Nat.zero_add, Nat.one_mul] at hv; exact hv) hp
  show (if sgn l = 1 then -((digVal (figs l) : Nat) : Int) else ((digVal (figs l) : Nat) : Int)).natAbs < 10 ^ 40
  by_cases s1 : sgn l = 1
  · rw [if_pos s1, Int.natAbs_neg, Int.natAbs_natCast]; exact hv2
  · rw [if_neg s1, Int.natAbs_natCast]; exact hv2
theorem rTwo_good {rp : Rdr} (g : RdGood rp) : RdGood (rTwo rp) := fun l r n h => by
  unfold rTwo at h
  split at h
  · cases h
  · rename_i a n1 h1
    split at h
    · cases h
    · split at h
      · cases h
      · rename_i b m h2
        split at h
        · cases h
          exact ⟨g _ _ _ h1, g _ _ _ h2⟩
        · cases h
theorem rPick_good {rp : Rdr} (g : RdGood rp) : RdGood (rPick rp) := fun l r n h => by
  unfold rPick at h
  split at h
  · cases h
  · rename_i a n1 h1
    split at h
    · split at h
      · cases h
      · rename_i b m h2
        split at h
        · split at h
          · cases h
          · rename_i c o h3
            split at h
            · cases h
              exact ⟨g _ _ _ h1, g _ _ _ h2, g _ _ _ h3⟩
            · cases h
        · cases h
    · cases h
theorem more_some {d : Nat} {x : Option (Rcp × Nat)} {r : Rcp} {n : Nat} (h : more d x = some (r, n)) : ∃ m, x = some (r, m) := by
  cases x with
  | none => cases h
  | some p =>
    obtain ⟨r', m⟩ := p
    cases h
    exact ⟨m, rfl⟩
theorem rBase_good {rp : Rdr} (g : RdGood rp) : RdGood (rBase rp) := fun l r n h => by
  unfold rBase at h
  split at h
  · obtain ⟨m, e⟩ := more_some h
    exact rTwo_good g _ _ _ e
  · split at h
    · obtain ⟨m, e⟩ := more_some h
      exact rPick_good g _ _ _ e
    · split at h
      · exact rName_good _ _ _ h
      · exact rNum_good _ _ _ h
theorem rTail_good : ∀ (f : Nat) (l : List Nat) (r0 : Rcp) (n0 : Nat) (r : Rcp) (n : Nat), r0.Good → rTail f l r0 n0 = some (r, n) → r.Good
  | 0, l, r0, n0, r, n, hg, h => by cases h; exact hg
  | f + 1, l, r0, n0, r, n, hg, h => by
    unfold rTail at h
    split at h
    · split at h
      · rename_i hn
        split at h
        · refine rTail_good f l _ _ r n ?_ h
          exact ⟨hg, are_nms hn⟩
        · cases h
      · cases h
    · cases h; exact hg
theorem rPart_good : ∀ k, RdGood (rPart k)
  | 0 => fun l r n h => by cases h
  | k + 1 => fun l r n h => by
    unfold rPart at h
    split at h
    · cases h
    · rename_i r1 n1 h1
      exact rTail_good _ _ _ _ _ _ (rBase_good (rPart_good k) _ _ _ h1) h
/-- the recipe that a thing writes -/
def rRead : Th → Option Rcp
  | .str T => match rPart 8 T with
    | none => none
    | some (r, n) => if n = T.length ∧ r.th.isRcp = true then some r else none
  | _ => none
def spRead (C : Addr) : Sp := fun vs H Q E => ∃ (v : V) (t : Th), vs = [v] ∧ Data H t v ∧ t.tame = true ∧ (rRead t = none → ∀ H', Same H H' → E (.ref C) none H') ∧
  (∀ r, rRead t = some r → r.Good → ∀ (H' : Hp) (v' : V), Same H H' → Rec H' r v' → Q v' H')
section
variable {P : Program} {w : World} {K : PySem.W.Frag} {mg : Str → Option Value} {base : Heap}
theorem all_read_part {C tw wd : Addr} {es : Array DictEntry} {n0 : Nat} (T : Txt K mg) (R : RTxt K mg tw) (XW : WordsT K w mg wd es n0) (XNoText : NoT K mg C) (D : IsDef K mg "read_part" s_read_part ["text", "at", "depth"])
    (D2 : IsDef K mg "read_two" s_read_two ["text", "at", "depth"]) (D3 : IsDef K mg "read_pick" s_read_pick ["text", "at", "depth"])
    (C1 : Cal P w K mg base CX0 1 "behind_signs" ["text", "at", "signs"] spBehind) (C2 : Cal P w K mg base CX0 2 "are_names" ["thing"] spAreNames) (C3 : Cal P w K mg base (L2.CX P w) 1 "expected" ["text", "at", "word"] (spExp C))
    (C4 : Cal P w K mg base (L2.CX P w) 2 "read_name" ["text", "at"] (spRd C rName)) (C5 : Cal P w K mg base (L2.CX P w) 2 "read_number" ["text", "at"] (spRd C rNum)) :
    ∀ k : Nat, Cal P w K mg base (L2.CX P w) (2 * k + 3) "read_part" ["text", "at", "depth"] (spRdD C k (rPart k))
  | 0 => ok_read_part0 (i := 0) (j := 0) T R XNoText D C1 C2 C3 C4 C5 (cal_none D2 fun _ _ _ _ h => h) (cal_none D3 fun _ _ _ _ h => h)
  | k + 1 => by
    have ih := all_read_part T R XW XNoText D D2 D3 C1 C2 C3 C4 C5 k
    exact ok_read_part T R XNoText D C1 C2 C3 C4 C5 (by omega) (ok_read_two T XW XNoText D2 C3 (by omega) ih) (ok_read_pick T XNoText D3 C3 (by omega) ih)
abbrev s_read_recipe : Stmt := topS 42
abbrev N_read_recipe : List Str := ["text", "found", "behind"]
theorem sc_read_recipe : FnScope N_read_recipe ["text"] (defScope s_read_recipe) := ⟨rfl, rfl, rfl, by decide +kernel, rfl, by decide +kernel, by decide +kernel⟩

theorem ok_read_recipe {C : Addr} (T : Txt K mg) (XNoText : NoT K mg C) (D : IsDef K mg "read_recipe" s_read_recipe ["text"])
    (C_is_recipe : Cal P w K mg base CX0 4 "is_recipe" ["thing"] spIsRecipe) (C_read_part : Cal P w K mg base (L2.CX P w) 19 "read_part" ["text", "at", "depth"] (spRdD C 8 (rPart 8))) :
    Cal P w K mg base (L2.CX P w) 20 "read_recipe" ["text"] (spRead C) := by
  refine D.calX sc_read_recipe (fun vs H Q E h => ?_) (fun f cdv A outer s H vs Q E hr h => ?_)
  · obtain ⟨v, t, rfl, _⟩ := h
    rfl
  obtain ⟨v, t, rfl, hv, ht, qe, q⟩ := h
  refine ⟨_, (pss_cons (ps_if (pt_not (pt_val (pe_callB call_isi (by rfl) T.b_isinstance (by decide +kernel) (pa_cons (pv 0) (pa_cons (pe_bltn (v := .ty "str") (by rfl) T.b_str (by decide +kernel) rfl) pa_nil)))))
        (pss_one (ps_raise rfl (takes_of rfl rfl rfl rfl) (pmk_own PySem.F.excBase_ValueError XNoText.x XNoText.g XNoText.k (raises_own XNoText.b XNoText.t) rfl)))
        pss_nil)
      (pss_cons (ps_asg (pe_cal C_read_part (hr.mono (by first | decide | omega)) (passes_call (takes_of rfl rfl rfl rfl) (fun _ _ _ _ h => h)) (pa_cons (pv 0) (pa_cons pe_int (pa_cons pe_int pa_nil)))) (pg_tup rfl (pgs_cons (pg_name (i := 1) sc_read_recipe.nd rfl (Or.inl rfl)) (pgs_cons (pg_name (i := 2) sc_read_recipe.nd rfl (Or.inl rfl)) pgs_nil))))
      (pss_cons (ps_if (PW.pt (pw_or (pt_cmpR op_ne (pv 2) (pe_callB call_len_str (by rfl) T.b_len PySem.boot_len (pa_cons (pv 0) pa_nil)) (nomark _)) (pw_or1 (pt_not (pt_val (pe_cal C_is_recipe (hr.mono (by first | decide | omega)) pass0 (pa_cons (pv 1) pa_nil)))))))
        (pss_one (ps_raise rfl (takes_of rfl rfl rfl rfl) (pmk_own PySem.F.excBase_ValueError XNoText.x XNoText.g XNoText.k (raises_own XNoText.b XNoText.t) rfl)))
        pss_nil)
      (pss_one (ps_ret (pv 1)))))), ?_⟩
  refine ⟨_, rfl, _, _, _, _, _, rfl, .ty _, hv.ty, kit_str t, _, rfl, ?_⟩
  cases t with
  | str L =>
    have ev : v = .str (SX.S L) := hv
    subst ev
    have hts : tameS L = true := ht
    have hL := tame_len hts
    have hl : (SX.S L).length ≤ sizeLine := by rw [SX.S_len]; exact le_line (by omega)
    refine iteF ?_
    refine ⟨_, rfl, L, 0, 1, rfl, by decide, hts, fun hg => qe (by show (match rPart 8 L with | none => none | some (r, n) => _) = none; rw [show rPart 8 L = none from hg]), fun r n hg H1 p1 v1 hs1 hp1 hr1 => ?_⟩
    have hg' : rPart 8 L = some (r, n) := hg
    have hq : rRead (.str L) = if n = L.length ∧ r.th.isRcp = true then some r else none := by
      show (match rPart 8 L with | none => none | some (r, n) => _) = _
      rw [hg']
    have hgood := rPart_good 8 _ _ _ hg'
    refine ⟨p1, _, rfl, SqT.of hp1, rfl, v1, _, rfl, _, _, rfl, rfl, ?_⟩
    refine ⟨_, rfl, _, rfl, _, rfl, hl, rfl, _, rfl, ?_⟩
    rw [SX.S_len]
    by_cases hn : n = L.length
    · refine not_true_eq (decide_eq_true (by rw [hn, Nat.zero_add])) ?_
      refine ⟨_, rfl, v1, r.th, rfl, hr1.data, Rcp.tame hgood, fun H2 hs2 => ⟨_, rfl, ?_⟩⟩
      cases hi : r.th.isRcp with
      | true =>
        refine iteF ?_
        exact ⟨_, rfl, q r (by rw [hq, if_pos ⟨hn, hi⟩]) hgood _ v1 (hs1.trans hs2) (hr1.same hs2)⟩
      | false =>
        refine iteT ?_
        exact qe (by rw [hq, if_neg (fun z => by rw [hi] at z; cases z.2)]) _ (hs1.trans hs2)
    · refine not_false_eq (decide_eq_false fun z => hn (by
        have z' : ((0 + n : Nat) : Int) = ((L.length : Nat) : Int) := V.int.inj z
        omega)) ?_
      exact iteT (qe (by rw [hq, if_neg (fun z => hn z.1)]) _ hs1)
  | _ => exact iteT (qe rfl _ (Same.refl H))
end
/-! ### the text of a recipe is read to it -/
def Free (rest : List Nat) : Prop := ∀ c, rest.take 1 = [c] → isLt c = false ∧ isFg c = false
theorem tw_app (p : Nat → Bool) : ∀ (s rest : List Nat), (∀ c ∈ s, p c = true) → (∀ c, rest.take 1 = [c] → p c = false) → (s ++ rest).takeWhile p = s
  | [], rest, _, h => by
    cases rest with
    | nil => rfl
    | cons c r =>
      show (c :: r).takeWhile p = []
      rw [List.takeWhile_cons, h c rfl]
      rfl
  | a :: s, rest, hs, h => by
    show (a :: (s ++ rest)).takeWhile p = a :: s
    rw [List.takeWhile_cons, hs a (List.mem_cons_self ..), tw_app p s rest (fun c hc => hs c (List.mem_cons_of_mem _ hc)) h]
    rfl
theorem num_head : ∀ (b n : Nat), n ≤ b → 1 ≤ n → (TL.numL n).take 1 ≠ [48]
  | 0, n, h, h1 => by omega
  | b + 1, n, h, h1 => by
    by_cases h10 : n < 10
    · rw [TL.numL_lt h10]
      intro z
      have : 48 + n = 48 := List.head_eq_of_cons_eq z
      omega
    · rw [TL.numL_step (by omega)]
      have ih := num_head b (n / 10) (by omega) (by omega)
      cases e : TL.numL (n / 10) with
      | nil => exact absurd e (TL.numL_ne _)
      | cons c r => rw [e] at ih; exact ih
theorem intL_nat (n : Nat) : intL (n : Int) = TL.numL n := TL.tl_num n
theorem lt_of {c : Nat} (h : 97 ≤ c ∧ c ≤ 122) : isLt c = true := by unfold isLt; rw [decide_eq_true h.1, decide_eq_true h.2]; rfl
theorem fg_of {c : Nat} (h : 48 ≤ c ∧ c ≤ 57) : isFg c = true := by unfold isFg; rw [decide_eq_true h.1, decide_eq_true h.2]; rfl
theorem fg_not {c : Nat} (h : ¬ (48 ≤ c ∧ c ≤ 57)) : isFg c = false := by
  unfold isFg
  by_cases h1 : 48 ≤ c
  · rw [decide_eq_false (show ¬ c ≤ 57 from fun z => h ⟨h1, z⟩), Bool.and_false]
  · rw [decide_eq_false h1]; rfl
theorem lt_not {c : Nat} (h : ¬ (97 ≤ c ∧ c ≤ 122)) : isLt c = false := by
  unfold isLt
  by_cases h1 : 97 ≤ c
  · rw [decide_eq_false (show ¬ c ≤ 122 from fun z => h ⟨h1, z⟩), Bool.and_false]
  · rw [decide_eq_false h1]; rfl
theorem free_of {c : Nat} {r : List Nat} (h1 : ¬ (97 ≤ c ∧ c ≤ 122)) (h2 : ¬ (48 ≤ c ∧ c ≤ 57)) : Free (c :: r) := fun d e => by
  have : c = d := List.head_eq_of_cons_eq e
  rw [← this]
  exact ⟨lt_not h1, fg_not h2⟩
theorem num_txt {m : Nat} (hm : m < 10 ^ 40) {rest : List Nat} (hf : Free rest) (g : Nat) (hg : g = 0 ∨ (g = 1 ∧ 1 ≤ m)) (L : List Nat) (hL : L = (if g = 1 then [45] else []) ++ (TL.numL m ++ rest)) :
    rNum L = some (.num (if g = 1 then -(m : Int) else m), g + (TL.numL m).length) ∧ L.take 1 ≠ [40] ∧ L.take 1 ≠ [91] ∧ ¬ (L.take 1).any isLt = true := by
  obtain ⟨c, r, hcr⟩ : ∃ c r, TL.numL m = c :: r := by
    cases e : TL.numL m with
    | nil => exact absurd e (TL.numL_ne _)
    | cons c r => exact ⟨c, r, rfl⟩
  have hdig := TL.numL_digits m
  have hc := hdig c (by rw [hcr]; exact List.mem_cons_self ..)
  have hlen : (TL.numL m).length ≤ 40 := TL.numL_len (by decide) hm
  have hlen1 : 1 ≤ (TL.numL m).length := by rw [hcr]; exact Nat.succ_le_succ (Nat.zero_le _)
  have hs : sgn L = g := by
    unfold sgn
    rw [hL]
    rcases hg with rfl | ⟨rfl, _⟩
    · rw [hcr, if_neg]
      intro z
      have : c = 45 := List.head_eq_of_cons_eq z
      omega
    · rfl
  have hfig : figs L = TL.numL m := by
    unfold figs
    rw [hs]
    have : L.drop g = TL.numL m ++ rest := by
      rw [hL]
      rcases hg with rfl | ⟨rfl, _⟩
      · rfl
      · rfl
    rw [this]
    exact tw_app isFg _ _ (fun c hc => fg_of (hdig c hc)) fun c hc => (hf c hc).2
  have h0 : ¬ ((TL.numL m).take 1 = [48] ∧ (1 < (TL.numL m).length ∨ 0 < g)) := by
    rintro ⟨h1, h2⟩
    by_cases m0 : m = 0
    · rw [m0] at h2
      rw [TL.numL_lt (by decide)] at h2
      rcases h2 with h2 | h2
      · exact absurd h2 (by decide)
      · rcases hg with rfl | ⟨_, hm1⟩
        · exact absurd h2 (by decide)
        · omega
    · exact num_head m m (Nat.le_refl _) (by omega) h1
  refine ⟨?_, ?_⟩
  · unfold rNum
    rw [hs, hfig, if_neg (by omega), if_neg h0]
    rw [show digVal (TL.numL m) = m from TL.numL_val m]
  · rw [hL]
    rcases hg with rfl | ⟨rfl, _⟩
    · rw [hcr]
      refine ⟨fun z => ?_, fun z => ?_, fun z => ?_⟩
      · have : c = 40 := List.head_eq_of_cons_eq z
        omega
      · have : c = 91 := List.head_eq_of_cons_eq z
        omega
      · have e : isLt c = false := lt_not (by omega)
        have z' : (isLt c || false) = true := z
        rw [e] at z'
        cases z'
    · exact ⟨fun z => absurd (List.head_eq_of_cons_eq (show 45 :: ([] : List Nat) = [40] from z)) (by decide), fun z => absurd (List.head_eq_of_cons_eq (show 45 :: ([] : List Nat) = [91] from z)) (by decide), by show ¬ ([45] : List Nat).any isLt = true; decide⟩
theorem intL_neg {m : Nat} (h : 1 ≤ m) : intL (-(m : Int)) = 45 :: TL.numL m := by
  have hn : (-(m : Int)) < 0 := by omega
  unfold intL
  rw [PyProof.Rows.toString_neg hn, show (0 - -(m : Int)) = (m : Int) by omega]
  rw [← TL.tl_num m]
  show (Str.ofString ("-" ++ toString (m : Int))).cps.toList = 45 :: (Str.ofString (toString (m : Int))).cps.toList
  rw [Str.ofString_eq_toList, Str.ofString_eq_toList]
  simp
def Rcp.chooses : Rcp → Nat
  | .choose a _ => a.chooses + 1
  | _ => 0
theorem spl_names {ns : List (List Nat)} (h : Nms ns) : TL.spl [44] 0 [] (TL.joinL [44] ns) = ns := by
  refine TL.spl_join (s := 44) (S := []) ?_ fun p hp hm => ?_
  · intro e
    have := h.1
    rw [e] at this
    exact absurd this (by decide)
  · have := (h.2.2 p hp).2.2 44 hm
    omega
theorem names_signs : ∀ {ns : List (List Nat)}, (∀ s ∈ ns, Nm s) → ∀ c ∈ TL.joinL [44] ns, (isLt c || decide (c = 44)) = true
  | [], _, c, hc => by cases hc
  | [p], h, c, hc => by
    have hc' : c ∈ p := hc
    rw [lt_of ((h p (List.mem_singleton.mpr rfl)).2.2 c hc')]
    rfl
  | p :: q :: r, h, c, hc => by
    have hc' : c ∈ p ++ ([44] ++ TL.joinL [44] (q :: r)) := hc
    rcases List.mem_append.mp hc' with m | m
    · rw [lt_of ((h p (List.mem_cons_self ..)).2.2 c m)]
      rfl
    · rcases List.mem_append.mp m with m | m
      · rw [List.mem_singleton.mp m]
        rfl
      · exact names_signs (fun s hs => h s (List.mem_cons_of_mem _ hs)) c m
theorem chooses_le : ∀ r : Rcp, r.chooses ≤ r.txt.length
  | .num _ => Nat.zero_le _
  | .read _ => Nat.zero_le _
  | .two _ _ _ => Nat.zero_le _
  | .pick _ _ _ => Nat.zero_le _
  | .choose a ns => by
    have := chooses_le a
    show a.chooses + 1 ≤ (a.txt ++ (123 :: (TL.joinL [44] ns ++ [125]))).length
    rw [List.length_append, List.length_cons]
    omega
theorem drop_len (a b : List Nat) (n : Nat) (h : n = a.length) : (a ++ b).drop n = b := by rw [h]; exact List.drop_left
def Tells (rp : Rdr) (k : Nat) : Prop := ∀ r : Rcp, r.Good → r.dep ≤ k → ∀ rest, Free rest → rest.take 1 ≠ [123] → rp (r.txt ++ rest) = some (r, r.txt.length)
theorem sign_word (k : Kd) : twoWord [32, k.sign, 32] = some k := by cases k <;> rfl
theorem base_txt {rp : Rdr} {k : Nat} (ht : Tells rp k) : ∀ r : Rcp, r.Good → r.dep ≤ k + 1 → ∀ rest, Free rest → ∃ r0 n0, rBase rp (r.txt ++ rest) = some (r0, n0) ∧ ∀ f, rTail (f + r.chooses) (r.txt ++ rest) r0 n0 = rTail f (r.txt ++ rest) r r.txt.length
  | .num n, hg, _, rest, hf => by
    have hgn : n.natAbs < 10 ^ 40 := hg
    refine ⟨.num n, (intL n).length, ?_, fun f => rfl⟩
    show rBase rp (intL n ++ rest) = _
    have key : ∀ (g m : Nat), m < 10 ^ 40 → (g = 0 ∨ (g = 1 ∧ 1 ≤ m)) → n = (if g = 1 then -(m : Int) else m) → intL n = (if g = 1 then [45] else []) ++ TL.numL m → rBase rp (intL n ++ rest) = some (.num n, (intL n).length) := fun g m hm hgm hn he => by
      obtain ⟨h1, h2, h3, h4⟩ := num_txt hm hf g hgm (intL n ++ rest) (by rw [he, List.append_assoc])
      unfold rBase
      rw [if_neg h2, if_neg h3, if_neg h4, h1, ← hn, he, List.length_append]
      congr 3
      rcases hgm with rfl | ⟨rfl, _⟩ <;> rfl
    by_cases h0 : 0 ≤ n
    · obtain ⟨m, rfl⟩ := Int.eq_ofNat_of_zero_le h0
      exact key 0 m (by omega) (.inl rfl) rfl (intL_nat m)
    · obtain ⟨m, hm⟩ := Int.eq_ofNat_of_zero_le (show 0 ≤ -n by omega)
      have hn : n = -(m : Int) := by omega
      refine key 1 m (by omega) (.inr ⟨rfl, by omega⟩) hn ?_
      rw [hn]
      exact intL_neg (by omega)
  | .read s, hg, _, rest, hf => by
    have hgs : Nm s := hg
    refine ⟨.read s, s.length, ?_, fun f => rfl⟩
    show rBase rp (s ++ rest) = _
    obtain ⟨c, s', hcs⟩ : ∃ c s', s = c :: s' := by
      cases s with
      | nil => exact absurd hgs.1 (by decide)
      | cons c s' => exact ⟨c, s', rfl⟩
    have hc := hgs.2.2 c (by rw [hcs]; exact List.mem_cons_self ..)
    have htk : (s ++ rest).take 1 = [c] := by rw [hcs]; rfl
    have htw : (s ++ rest).takeWhile isLt = s := tw_app isLt s rest (fun c hc => lt_of (hgs.2.2 c hc)) fun c hc => (hf c hc).1
    unfold rBase
    rw [htk, if_neg (fun z => by have : c = 40 := List.head_eq_of_cons_eq z; omega), if_neg (fun z => by have : c = 91 := List.head_eq_of_cons_eq z; omega), if_pos (by show (isLt c || false) = true; rw [lt_of hc]; rfl)]
    unfold rName
    rw [htw, if_pos (nmOk_iff.mpr hgs)]
  | .two kd a b, hg, hd, rest, hf => by
    have hd' : max a.dep b.dep + 1 ≤ k + 1 := hd
    refine ⟨.two kd a b, (Rcp.two kd a b).txt.length, ?_, fun f => rfl⟩
    have hL : (Rcp.two kd a b).txt ++ rest = 40 :: (a.txt ++ (32 :: kd.sign :: 32 :: (b.txt ++ (41 :: rest)))) := by
      show 40 :: (a.txt ++ (32 :: kd.sign :: 32 :: (b.txt ++ [41]))) ++ rest = _
      simp
    have hlen : (Rcp.two kd a b).txt.length = 1 + (a.txt.length + 3 + b.txt.length + 1) := by
      show (40 :: (a.txt ++ (32 :: kd.sign :: 32 :: (b.txt ++ [41])))).length = _
      simp
      omega
    have h1 := ht a hg.1 (by omega) (32 :: kd.sign :: 32 :: (b.txt ++ (41 :: rest))) (free_of (by decide) (by decide)) (fun z => absurd (List.head_eq_of_cons_eq z) (by decide))
    have h2 := ht b hg.2 (by omega) (41 :: rest) (free_of (by decide) (by decide)) (fun z => absurd (List.head_eq_of_cons_eq z) (by decide))
    have d1 : (a.txt ++ (32 :: kd.sign :: 32 :: (b.txt ++ (41 :: rest)))).drop a.txt.length = 32 :: kd.sign :: 32 :: (b.txt ++ (41 :: rest)) := List.drop_left
    have d2 : (a.txt ++ (32 :: kd.sign :: 32 :: (b.txt ++ (41 :: rest)))).drop (a.txt.length + 3) = b.txt ++ (41 :: rest) := by rw [← List.drop_drop, d1]; rfl
    have d3 : (a.txt ++ (32 :: kd.sign :: 32 :: (b.txt ++ (41 :: rest)))).drop (a.txt.length + 3 + b.txt.length) = 41 :: rest := by rw [← List.drop_drop, d2]; exact List.drop_left
    have hT : rTwo rp (a.txt ++ (32 :: kd.sign :: 32 :: (b.txt ++ (41 :: rest)))) = some (.two kd a b, a.txt.length + 3 + b.txt.length + 1) := by
      unfold rTwo
      rw [h1]
      dsimp only
      rw [d1, show (32 :: kd.sign :: 32 :: (b.txt ++ (41 :: rest))).take 3 = [32, kd.sign, 32] from rfl, sign_word]
      dsimp only
      rw [d2, h2]
      dsimp only
      rw [d3, if_pos (show (41 :: rest).take 1 = [41] from rfl)]
    rw [hL, hlen]
    unfold rBase
    rw [if_pos (show (40 :: (a.txt ++ (32 :: kd.sign :: 32 :: (b.txt ++ (41 :: rest))))).take 1 = [40] from rfl)]
    show more 1 (rTwo rp (a.txt ++ (32 :: kd.sign :: 32 :: (b.txt ++ (41 :: rest))))) = _
    rw [hT]
    rfl
  | .pick a b c, hg, hd, rest, hf => by
    have hd' : max a.dep (max b.dep c.dep) + 1 ≤ k + 1 := hd
    refine ⟨.pick a b c, (Rcp.pick a b c).txt.length, ?_, fun f => rfl⟩
    have hL : (Rcp.pick a b c).txt ++ rest = 91 :: (a.txt ++ (32 :: 63 :: 32 :: (b.txt ++ (32 :: 58 :: 32 :: (c.txt ++ (93 :: rest)))))) := by
      show 91 :: (a.txt ++ (32 :: 63 :: 32 :: (b.txt ++ (32 :: 58 :: 32 :: (c.txt ++ [93]))))) ++ rest = _
      simp
    have hlen : (Rcp.pick a b c).txt.length = 1 + (a.txt.length + 3 + b.txt.length + 3 + c.txt.length + 1) := by
      show (91 :: (a.txt ++ (32 :: 63 :: 32 :: (b.txt ++ (32 :: 58 :: 32 :: (c.txt ++ [93])))))).length = _
      simp
      omega
    have h1 := ht a hg.1 (by omega) (32 :: 63 :: 32 :: (b.txt ++ (32 :: 58 :: 32 :: (c.txt ++ (93 :: rest))))) (free_of (by decide) (by decide)) (fun z => absurd (List.head_eq_of_cons_eq z) (by decide))
    have h2 := ht b hg.2.1 (by omega) (32 :: 58 :: 32 :: (c.txt ++ (93 :: rest))) (free_of (by decide) (by decide)) (fun z => absurd (List.head_eq_of_cons_eq z) (by decide))
    have h3 := ht c hg.2.2 (by omega) (93 :: rest) (free_of (by decide) (by decide)) (fun z => absurd (List.head_eq_of_cons_eq z) (by decide))
    generalize hM : a.txt ++ (32 :: 63 :: 32 :: (b.txt ++ (32 :: 58 :: 32 :: (c.txt ++ (93 :: rest))))) = M at *
    have d1 : M.drop a.txt.length = 32 :: 63 :: 32 :: (b.txt ++ (32 :: 58 :: 32 :: (c.txt ++ (93 :: rest)))) := by rw [← hM]; exact List.drop_left
    have d2 : M.drop (a.txt.length + 3) = b.txt ++ (32 :: 58 :: 32 :: (c.txt ++ (93 :: rest))) := by rw [← List.drop_drop, d1]; rfl
    have d3 : M.drop (a.txt.length + 3 + b.txt.length) = 32 :: 58 :: 32 :: (c.txt ++ (93 :: rest)) := by rw [← List.drop_drop, d2]; exact List.drop_left
    have d4 : M.drop (a.txt.length + 3 + b.txt.length + 3) = c.txt ++ (93 :: rest) := by rw [← List.drop_drop, d3]; rfl
    have d5 : M.drop (a.txt.length + 3 + b.txt.length + 3 + c.txt.length) = 93 :: rest := by rw [← List.drop_drop, d4]; exact List.drop_left
    have hT : rPick rp M = some (.pick a b c, a.txt.length + 3 + b.txt.length + 3 + c.txt.length + 1) := by
      unfold rPick
      rw [h1]
      dsimp only
      rw [d1, if_pos (show (32 :: 63 :: 32 :: (b.txt ++ (32 :: 58 :: 32 :: (c.txt ++ (93 :: rest))))).take 3 = [32, 63, 32] from rfl), d2, h2]
      dsimp only
      rw [d3, if_pos (show (32 :: 58 :: 32 :: (c.txt ++ (93 :: rest))).take 3 = [32, 58, 32] from rfl), d4, h3]
      dsimp only
      rw [d5, if_pos (show (93 :: rest).take 1 = [93] from rfl)]
    rw [hL, hlen]
    unfold rBase
    rw [if_neg (show ¬ (91 :: M).take 1 = [40] from fun z => absurd (List.head_eq_of_cons_eq z) (by decide)), if_pos (show (91 :: M).take 1 = [91] from rfl)]
    show more 1 (rPick rp M) = _
    rw [hT]
    rfl
  | .choose a ns, hg, hd, rest, hf => by
    have hd' : a.dep + 1 ≤ k + 1 := hd
    have hns : Nms ns := hg.2
    obtain ⟨r0, n0, h1, h2⟩ := base_txt ht a hg.1 (by omega) (123 :: (TL.joinL [44] ns ++ (125 :: rest))) (free_of (by decide) (by decide))
    have hL : (Rcp.choose a ns).txt ++ rest = a.txt ++ (123 :: (TL.joinL [44] ns ++ (125 :: rest))) := by
      show (a.txt ++ (123 :: (TL.joinL [44] ns ++ [125]))) ++ rest = _
      simp
    refine ⟨r0, n0, by rw [hL]; exact h1, fun f => ?_⟩
    have hlen : (Rcp.choose a ns).txt.length = a.txt.length + 1 + (TL.joinL [44] ns).length + 1 := by
      show (a.txt ++ (123 :: (TL.joinL [44] ns ++ [125]))).length = _
      simp
      omega
    have e : f + (Rcp.choose a ns).chooses = (f + 1) + a.chooses := by
      show f + (a.chooses + 1) = _
      omega
    rw [hL, hlen, e, h2]
    generalize hM : a.txt ++ (123 :: (TL.joinL [44] ns ++ (125 :: rest))) = M
    have d1 : M.drop a.txt.length = 123 :: (TL.joinL [44] ns ++ (125 :: rest)) := by rw [← hM]; exact List.drop_left
    have d2 : M.drop (a.txt.length + 1) = TL.joinL [44] ns ++ (125 :: rest) := by rw [← List.drop_drop, d1]; rfl
    have d3 : M.drop (a.txt.length + 1 + (TL.joinL [44] ns).length) = 125 :: rest := by rw [← List.drop_drop, d2]; exact List.drop_left
    have hnm : nmSigns (TL.joinL [44] ns ++ (125 :: rest)) = TL.joinL [44] ns := by
      refine tw_app _ _ _ (names_signs hns.2.2) fun c hc => ?_
      have : 125 = c := List.head_eq_of_cons_eq hc
      rw [← this]
      rfl
    show (if (M.drop a.txt.length).take 1 = [123] then _ else _) = _
    rw [d2, hnm, spl_names hns, d3, d1, if_pos (show (123 :: (TL.joinL [44] ns ++ (125 :: rest))).take 1 = [123] from rfl), if_pos (nms_are hns), if_pos (show (125 :: rest).take 1 = [125] from rfl)]
theorem part_txt : ∀ k : Nat, Tells (rPart k) k
  | 0 => fun r _ hd => by have := dep_pos r; omega
  | k + 1 => fun r hg hd rest hf hb => by
    obtain ⟨r0, n0, h1, h2⟩ := base_txt (part_txt k) r hg hd rest hf
    have hle : r.chooses ≤ (r.txt ++ rest).length := by
      have := chooses_le r
      rw [List.length_append]
      omega
    have h3 := h2 ((r.txt ++ rest).length - r.chooses)
    rw [Nat.sub_add_cancel hle] at h3
    show (match rBase (rPart k) (r.txt ++ rest) with | none => none | some (r1, n1) => rTail (r.txt ++ rest).length (r.txt ++ rest) r1 n1) = _
    rw [h1]
    dsimp only
    rw [h3]
    cases (r.txt ++ rest).length - r.chooses with
    | zero => rfl
    | succ f =>
      show (if ((r.txt ++ rest).drop r.txt.length).take 1 = [123] then _ else _) = _
      rw [if_neg]
      rw [List.drop_left]
      exact hb
/-- the text told of a recipe is read back to it -/
theorem rRead_txt {r : Rcp} (hg : r.Good) (hd : r.dep ≤ 8) (hs : r.siz ≤ 100) : rRead (.str r.txt) = some r := by
  have h := part_txt 8 r hg hd [] (fun c hc => by cases hc) (fun z => by cases z)
  rw [List.append_nil] at h
  show (match rPart 8 r.txt with | none => none | some (r', n) => if n = r.txt.length ∧ r'.th.isRcp = true then some r' else none) = some r
  rw [h]
  dsimp only
  rw [if_pos ⟨rfl, Rcp.isRcp hg hd hs⟩]
/-! ### the words of sums as a written dict -/
theorem words_no {K : PySem.W.Frag} {wd : Addr} {n : Nat} {h1 h2 h3 h4 : Int} {t1 t2 t3 t4 : Tok} {v1 v2 v3 v4 : Value} (hl : K.lookup wd = some ⟨.type "dict", none, .dict #[⟨h1, .str " + " t1, v1⟩, ⟨h2, .str " - " t2, v2⟩, ⟨h3, .str " * " t3, v3⟩, ⟨h4, .str " ^ " t4, v4⟩] n, #[]⟩) (z : List Nat) (hz : twoWord z = none) :
    PySem.W.nsIn K wd (SX.S z) = some none := by
  have ne : ∀ (lit : Str) (wz : List Nat), lit = SX.S wz → z ≠ wz → (lit == SX.S z) = false := fun lit wz e h => by
    rw [e, SX.S_beq]
    exact beq_eq_false_iff_ne.mpr fun q => h q.symm
  have n1 : z ≠ [32, 43, 32] := fun e => by rw [e] at hz; cases hz
  have n2 : z ≠ [32, 45, 32] := fun e => by rw [e] at hz; cases hz
  have n3 : z ≠ [32, 42, 32] := fun e => by rw [e] at hz; cases hz
  have n4 : z ≠ [32, 94, 32] := fun e => by rw [e] at hz; cases hz
  have e1 : (Value.str " + " t1).isStr (SX.S z) = false := ne " + " _ (by decide +kernel) n1
  have e2 : (Value.str " - " t2).isStr (SX.S z) = false := ne " - " _ (by decide +kernel) n2
  have e3 : (Value.str " * " t3).isStr (SX.S z) = false := ne " * " _ (by decide +kernel) n3
  have e4 : (Value.str " ^ " t4).isStr (SX.S z) = false := ne " ^ " _ (by decide +kernel) n4
  unfold PySem.W.nsIn
  rw [hl]
  show (match List.find? (fun e : DictEntry => e.key.isStr (SX.S z)) [⟨h1, .str " + " t1, v1⟩, ⟨h2, .str " - " t2, v2⟩, ⟨h3, .str " * " t3, v3⟩, ⟨h4, .str " ^ " t4, v4⟩] with | some e => some (some e.val) | none => _) = _
  rw [List.find?_cons_of_neg (by rw [e1]; exact Bool.false_ne_true), List.find?_cons_of_neg (by rw [e2]; exact Bool.false_ne_true), List.find?_cons_of_neg (by rw [e3]; exact Bool.false_ne_true), List.find?_cons_of_neg (by rw [e4]; exact Bool.false_ne_true)]
  rfl
theorem two_yes {z : List Nat} {k : Kd} (h : twoWord z = some k) : z = [32, k.sign, 32] := by
  unfold twoWord at h
  split at h
  · rename_i e; cases h; exact e
  split at h
  · rename_i e; cases h; exact e
  split at h
  · rename_i e; cases h; exact e
  split at h
  · rename_i e; cases h; exact e
  · cases h
/-! ### what is read has that text -/
theorem spl_some (z acc : List Nat) : TL.spl [44] 0 acc z ≠ [] := by
  induction z generalizing acc with
  | nil => rw [TL.spl_nil]; exact List.cons_ne_nil _ _
  | cons c z ih =>
    by_cases hpre : TL.pre [44] (c :: z) = true
    · rw [TL.spl_hit hpre]; exact List.cons_ne_nil _ _
    · rw [TL.spl_miss (Bool.eq_false_iff.mpr hpre)]; exact ih _
theorem joinL_cons {p : List Nat} {l : List (List Nat)} (h : l ≠ []) : TL.joinL [44] (p :: l) = p ++ (44 :: TL.joinL [44] l) := by
  cases l with
  | nil => exact absurd rfl h
  | cons q r => rfl
theorem pre_comma {c : Nat} {z : List Nat} (h : TL.pre [44] (c :: z) = true) : c = 44 := Decidable.byContradiction fun n => by
  have e : TL.pre [44] (c :: z) = false := TL.pre_of_head [] z n
  rw [h] at e
  cases e
theorem join_spl (z acc : List Nat) : TL.joinL [44] (TL.spl [44] 0 acc z) = acc ++ z := by
  induction z generalizing acc with
  | nil => rw [TL.spl_nil, List.append_nil]; rfl
  | cons c z ih =>
    by_cases hpre : TL.pre [44] (c :: z) = true
    · rw [TL.spl_hit hpre, show ([44] : List Nat).length - 1 = 0 from rfl, joinL_cons (spl_some z []), ih, pre_comma hpre]
      rfl
    · rw [TL.spl_miss (Bool.eq_false_iff.mpr hpre), ih, List.append_assoc]
      rfl
def RevOk (g : Rdr) : Prop := ∀ l r n, g l = some (r, n) → l.take n = r.txt
theorem take_two {l : List Nat} {a b : Nat} {x y : List Nat} (h1 : l.take a = x) (h2 : (l.drop a).take b = y) : l.take (a + b) = x ++ y := by
  rw [List.take_add, h1, h2]
theorem rName_rev : RevOk rName := fun l r n h => by
  unfold rName at h
  by_cases c : nmOk (l.takeWhile isLt) = true
  · rw [if_pos c] at h
    cases h
    exact take_while _ _
  · rw [if_neg c] at h; cases h
theorem numL_back {cs : List Nat} (h1 : ∀ c ∈ cs, 48 ≤ c ∧ c ≤ 57) (h2 : 1 ≤ cs.length) (h3 : cs.length = 1 ∨ cs.take 1 ≠ [48]) : TL.numL (digVal cs) = cs := by
  obtain ⟨c, r, rfl⟩ : ∃ c r, cs = c :: r := by
    cases cs with
    | nil => exact absurd h2 (by decide)
    | cons c r => exact ⟨c, r, rfl⟩
  have hc := h1 c (List.mem_cons_self ..)
  have e := NumText.toDigits_digitsVal r.length (c :: r) rfl h1 (by
    rcases h3 with h3 | h3
    · left
      have : r.length + 1 = 1 := h3
      omega
    · right
      refine ⟨c, r, rfl, ?_⟩
      have : c ≠ 48 := fun z => h3 (by rw [z]; rfl)
      omega)
  unfold TL.numL
  rw [show Nat.toDigits 10 (digVal (c :: r)) = (c :: r).map Char.ofNat from e, List.map_map]
  have hid : ∀ l : List Nat, (∀ x ∈ l, 48 ≤ x ∧ x ≤ 57) → l.map (Char.toNat ∘ Char.ofNat) = l := by
    intro l
    induction l with
    | nil => intro _; rfl
    | cons x l ih =>
      intro hl
      rw [List.map_cons, ih fun y hy => hl y (List.mem_cons_of_mem _ hy)]
      congr 1
      have hx := hl x (List.mem_cons_self ..)
      have : x = 48 ∨ x = 49 ∨ x = 50 ∨ x = 51 ∨ x = 52 ∨ x = 53 ∨ x = 54 ∨ x = 55 ∨ x = 56 ∨ x = 57 := by omega
      rcases this with rfl | rfl | rfl | rfl | rfl | rfl | rfl | rfl | rfl | rfl <;> rfl
  exact hid _ h1
theorem rNum_rev : RevOk rNum := fun l r n h => by
  unfold rNum at h
  by_cases c : (figs l).length < 1 ∨ 40 < (figs l).length
  · rw [if_pos c] at h; cases h
  rw [if_neg c] at h
  by_cases c2 : (figs l).take 1 = [48] ∧ (1 < (figs l).length ∨ 0 < sgn l)
  · rw [if_pos c2] at h; cases h
  rw [if_neg c2] at h
  cases h
  have hb : TL.numL (digVal (figs l)) = figs l := numL_back (figs_dig l) (by omega) (by
    by_cases h1 : (figs l).length = 1
    · exact .inl h1
    · exact .inr fun z => c2 ⟨z, .inl (by omega)⟩)
  have hfg : (l.drop (sgn l)).take (figs l).length = figs l := take_while isFg _
  by_cases s1 : l.take 1 = [45]
  · have hs : sgn l = 1 := by unfold sgn; rw [if_pos s1]
    have hpos : 1 ≤ digVal (figs l) := Decidable.byContradiction fun z => by
      have z0 : digVal (figs l) = 0 := by omega
      rw [z0, TL.numL_lt (by decide)] at hb
      exact c2 ⟨by rw [← hb]; rfl, .inr (by omega)⟩
    rw [hs] at hfg ⊢
    rw [take_two s1 hfg, if_pos rfl]
    show _ = intL (-((digVal (figs l) : Nat) : Int))
    rw [intL_neg hpos, hb]
    rfl
  · have hs : sgn l = 0 := by unfold sgn; rw [if_neg s1]
    rw [hs] at hfg ⊢
    rw [Nat.zero_add, if_neg (by decide)]
    show _ = intL ((digVal (figs l) : Nat) : Int)
    rw [intL_nat, hb]
    exact hfg
theorem two_sign {z : List Nat} {k : Kd} (h : twoWord z = some k) : z = [32, k.sign, 32] := by
  unfold twoWord at h
  split at h
  · rename_i e; cases h; exact e
  split at h
  · rename_i e; cases h; exact e
  split at h
  · rename_i e; cases h; exact e
  split at h
  · rename_i e; cases h; exact e
  · cases h
theorem rTwo_rev {rp : Rdr} (g : RevOk rp) : ∀ l r n, rTwo rp l = some (r, n) → 40 :: l.take n = r.txt := fun l r n h => by
  unfold rTwo at h
  split at h
  · cases h
  · rename_i a n1 h1
    split at h
    · cases h
    · rename_i w hw
      split at h
      · cases h
      · rename_i b m h2
        split at h
        · rename_i h3
          cases h
          rw [take_two (take_two (take_two (g _ _ _ h1) (two_sign hw)) (g _ _ _ h2)) h3]
          show _ = 40 :: (a.txt ++ (32 :: w.sign :: 32 :: (b.txt ++ [41])))
          simp
        · cases h
theorem rPick_rev {rp : Rdr} (g : RevOk rp) : ∀ l r n, rPick rp l = some (r, n) → 91 :: l.take n = r.txt := fun l r n h => by
  unfold rPick at h
  split at h
  · cases h
  · rename_i a n1 h1
    split at h
    · rename_i k1
      split at h
      · cases h
      · rename_i b m h2
        split at h
        · rename_i k2
          split at h
          · cases h
          · rename_i c o h3
            split at h
            · rename_i k3
              cases h
              rw [take_two (take_two (take_two (take_two (take_two (g _ _ _ h1) k1) (g _ _ _ h2)) k2) (g _ _ _ h3)) k3]
              show _ = 91 :: (a.txt ++ (32 :: 63 :: 32 :: (b.txt ++ (32 :: 58 :: 32 :: (c.txt ++ [93])))))
              simp
            · cases h
        · cases h
    · cases h
theorem more_is {d : Nat} {x : Option (Rcp × Nat)} {r : Rcp} {n : Nat} (h : more d x = some (r, n)) : ∃ m, x = some (r, m) ∧ n = d + m := by
  cases x with
  | none => cases h
  | some p =>
    obtain ⟨r', m⟩ := p
    cases h
    exact ⟨m, rfl, rfl⟩
theorem rBase_rev {rp : Rdr} (g : RevOk rp) : RevOk (rBase rp) := fun l r n h => by
  unfold rBase at h
  split at h
  · rename_i k
    obtain ⟨m, e, rfl⟩ := more_is h
    rw [take_two k rfl, ← rTwo_rev g _ _ _ e]
    rfl
  · split at h
    · rename_i k
      obtain ⟨m, e, rfl⟩ := more_is h
      rw [take_two k rfl, ← rPick_rev g _ _ _ e]
      rfl
    · split at h
      · exact rName_rev _ _ _ h
      · exact rNum_rev _ _ _ h
theorem rTail_rev : ∀ (f : Nat) (l : List Nat) (r0 : Rcp) (n0 : Nat) (r : Rcp) (n : Nat), l.take n0 = r0.txt → rTail f l r0 n0 = some (r, n) → l.take n = r.txt
  | 0, l, r0, n0, r, n, hg, h => by cases h; exact hg
  | f + 1, l, r0, n0, r, n, hg, h => by
    unfold rTail at h
    split at h
    · rename_i k1
      split at h
      · split at h
        · rename_i k2
          refine rTail_rev f l _ _ r n ?_ h
          have k3 : (l.drop (n0 + 1)).take (nmSigns (l.drop (n0 + 1))).length = nmSigns (l.drop (n0 + 1)) := take_while _ _
          rw [take_two (take_two (take_two hg k1) k3) k2]
          show _ = r0.txt ++ (123 :: (TL.joinL [44] (TL.spl [44] 0 [] (nmSigns (l.drop (n0 + 1)))) ++ [125]))
          rw [join_spl]
          simp
        · cases h
      · cases h
    · cases h; exact hg
/-- what is read of a text's beginning has that beginning for its text -/
theorem rPart_rev : ∀ k, RevOk (rPart k)
  | 0 => fun l r n h => by cases h
  | k + 1 => fun l r n h => by
    unfold rPart at h
    split at h
    · cases h
    · rename_i r1 n1 h1
      exact rTail_rev _ _ _ _ _ _ (rBase_rev (rPart_rev k) _ _ _ h1) h
/-- a text that is let by is the text of what it is read to -/
theorem rRead_rev {T : List Nat} {r : Rcp} (h : rRead (.str T) = some r) : T = r.txt ∧ r.Good ∧ r.th.isRcp = true := by
  have h' : (match rPart 8 T with | none => none | some (r, n) => if n = T.length ∧ r.th.isRcp = true then some r else none) = some r := h
  split at h'
  · cases h'
  · rename_i r1 n h1
    split at h'
    · rename_i k
      cases h'
      have := rPart_rev 8 _ _ _ h1
      rw [k.1, List.take_length] at this
      exact ⟨this, rPart_good 8 _ _ _ h1, k.2⟩
    · cases h'
/-! ### signs counted in the text of a recipe -/
def cnt (c : Nat) (l : List Nat) : Nat := l.countP fun x => decide (x = c)
theorem cnt_app (c : Nat) (a b : List Nat) : cnt c (a ++ b) = cnt c a + cnt c b := by unfold cnt; exact List.countP_append
theorem cnt_cons (c x : Nat) (l : List Nat) : cnt c (x :: l) = (if x = c then 1 else 0) + cnt c l := by
  unfold cnt
  rw [List.countP_cons, Nat.add_comm]
  by_cases h : x = c
  · rw [if_pos h, decide_eq_true h]; rfl
  · rw [if_neg h, decide_eq_false h]; rfl
theorem cnt_nil (c : Nat) : cnt c [] = 0 := rfl
theorem cnt_zero {c : Nat} {l : List Nat} (h : c ∉ l) : cnt c l = 0 := by
  unfold cnt
  rw [List.countP_eq_zero]
  intro x hx z
  exact h (of_decide_eq_true z ▸ hx)
theorem num_signs {n : Int} {c : Nat} (h : c ∈ intL n) : c = 45 ∨ (48 ≤ c ∧ c ≤ 57) := by
  by_cases h0 : 0 ≤ n
  · obtain ⟨m, rfl⟩ := Int.eq_ofNat_of_zero_le h0
    rw [intL_nat m] at h
    exact .inr (TL.numL_digits m c h)
  · obtain ⟨m, hm⟩ := Int.eq_ofNat_of_zero_le (show 0 ≤ -n by omega)
    rw [show n = -(m : Int) by omega, intL_neg (by omega)] at h
    rcases List.mem_cons.mp h with e | h
    · exact .inl e
    · exact .inr (TL.numL_digits m c h)
def Rcp.twos : Rcp → Nat
  | .two _ a b => a.twos + b.twos + 1
  | .pick a b c => a.twos + b.twos + c.twos
  | .choose a _ => a.twos
  | _ => 0
theorem twos_siz : ∀ r : Rcp, 2 * r.twos + 1 ≤ r.siz
  | .num _ => Nat.le_refl _
  | .read _ => Nat.le_refl _
  | .two _ a b => by
    have h1 := twos_siz a
    have h2 := twos_siz b
    show 2 * (a.twos + b.twos + 1) + 1 ≤ a.siz + b.siz + 1
    omega
  | .pick a b c => by
    have h1 := twos_siz a
    have h2 := twos_siz b
    have h3 := twos_siz c
    show 2 * (a.twos + b.twos + c.twos) + 1 ≤ a.siz + b.siz + c.siz + 1
    omega
  | .choose a _ => by
    have h1 := twos_siz a
    show 2 * a.twos + 1 ≤ a.siz + 1
    omega
/-- the opening and the closing brackets of sums -/
theorem cnt_twos {s : Nat} (hs : s = 40 ∨ s = 41) : ∀ {r : Rcp}, r.Good → cnt s r.txt = r.twos
  | .num n, _ => cnt_zero fun h => by
    rcases num_signs h with e | e <;> omega
  | .read z, hg => cnt_zero fun h => by
    have := (show Nm z from hg).2.2 s h
    omega
  | .two k a b, hg => by
    have h1 := cnt_twos hs hg.1
    have h2 := cnt_twos hs hg.2
    have hk : ¬ k.sign = s := by cases k <;> rcases hs with rfl | rfl <;> decide
    show cnt s (40 :: (a.txt ++ (32 :: k.sign :: 32 :: (b.txt ++ [41])))) = a.twos + b.twos + 1
    simp only [cnt_cons, cnt_app, cnt_nil, h1, h2, if_neg hk]
    rcases hs with rfl | rfl
    · simp; omega
    · simp; omega
  | .pick a b c, hg => by
    have h1 := cnt_twos hs hg.1
    have h2 := cnt_twos hs hg.2.1
    have h3 := cnt_twos hs hg.2.2
    show cnt s (91 :: (a.txt ++ (32 :: 63 :: 32 :: (b.txt ++ (32 :: 58 :: 32 :: (c.txt ++ [93])))))) = a.twos + b.twos + c.twos
    simp only [cnt_cons, cnt_app, cnt_nil, h1, h2, h3]
    rcases hs with rfl | rfl
    · simp; omega
    · simp; omega
  | .choose a ns, hg => by
    have h1 := cnt_twos hs hg.1
    have hn : cnt s (TL.joinL [44] ns) = 0 := cnt_zero fun h => by
      have z := names_signs hg.2.2.2 s h
      rcases hs with rfl | rfl
      · revert z; decide
      · revert z; decide
    show cnt s (a.txt ++ (123 :: (TL.joinL [44] ns ++ [125]))) = a.twos
    simp only [cnt_cons, cnt_app, cnt_nil, h1, hn]
    rcases hs with rfl | rfl <;> rfl
/-- brackets ahead go no deeper than the recipe -/
def lead (s : Nat) (l : List Nat) : Nat := (l.takeWhile fun x => decide (x = s)).length
theorem lead_hit (s : Nat) (l : List Nat) : lead s (s :: l) = lead s l + 1 := by
  unfold lead
  rw [List.takeWhile_cons, if_pos (decide_eq_true rfl)]
  rfl
theorem lead_miss {s c : Nat} (h : c ≠ s) (l : List Nat) : lead s (c :: l) = 0 := by
  unfold lead
  rw [List.takeWhile_cons, if_neg (fun z => h (of_decide_eq_true z))]
  rfl
theorem txt_head_num (n : Int) : ∃ c l, intL n = c :: l ∧ (c = 45 ∨ (48 ≤ c ∧ c ≤ 57)) := by
  cases e : intL n with
  | nil =>
    by_cases h0 : 0 ≤ n
    · obtain ⟨m, rfl⟩ := Int.eq_ofNat_of_zero_le h0
      rw [intL_nat m] at e
      exact absurd e (TL.numL_ne _)
    · obtain ⟨m, hm⟩ := Int.eq_ofNat_of_zero_le (show 0 ≤ -n by omega)
      rw [show n = -(m : Int) by omega, intL_neg (by omega)] at e
      cases e
  | cons c l => exact ⟨c, l, rfl, num_signs (n := n) (by rw [e]; exact List.mem_cons_self ..)⟩
theorem lead_dep {s : Nat} (hs : s = 40 ∨ s = 91) : ∀ {r : Rcp}, r.Good → ∀ rest, lead s (r.txt ++ rest) + 1 ≤ r.dep
  | .num n, _, rest => by
    obtain ⟨c, l, e, hc⟩ := txt_head_num n
    show lead s (intL n ++ rest) + 1 ≤ 1
    rw [e]
    show lead s (c :: (l ++ rest)) + 1 ≤ 1
    rw [lead_miss (by omega)]
    exact Nat.le_refl 1
  | .read z, hg, rest => by
    have hz : Nm z := hg
    show lead s (z ++ rest) + 1 ≤ 1
    cases z with
    | nil => exact absurd hz.1 (by decide)
    | cons c l =>
      have hc := hz.2.2 c (List.mem_cons_self ..)
      show lead s (c :: (l ++ rest)) + 1 ≤ 1
      rw [lead_miss (by omega)]
      exact Nat.le_refl 1
  | .two k a b, hg, rest => by
    have h1 := lead_dep hs hg.1 ((32 :: k.sign :: 32 :: (b.txt ++ [41])) ++ rest)
    have e : (Rcp.two k a b).txt ++ rest = 40 :: (a.txt ++ ((32 :: k.sign :: 32 :: (b.txt ++ [41])) ++ rest)) := by
      show 40 :: (a.txt ++ (32 :: k.sign :: 32 :: (b.txt ++ [41]))) ++ rest = _
      simp
    rw [e]
    show _ ≤ max a.dep b.dep + 1
    rcases hs with rfl | rfl
    · rw [lead_hit]
      omega
    · rw [lead_miss (by decide)]
      omega
  | .pick a b c, hg, rest => by
    have h1 := lead_dep hs hg.1 ((32 :: 63 :: 32 :: (b.txt ++ (32 :: 58 :: 32 :: (c.txt ++ [93])))) ++ rest)
    have e : (Rcp.pick a b c).txt ++ rest = 91 :: (a.txt ++ ((32 :: 63 :: 32 :: (b.txt ++ (32 :: 58 :: 32 :: (c.txt ++ [93])))) ++ rest)) := by
      show 91 :: (a.txt ++ (32 :: 63 :: 32 :: (b.txt ++ (32 :: 58 :: 32 :: (c.txt ++ [93]))))) ++ rest = _
      simp
    rw [e]
    show _ ≤ max a.dep (max b.dep c.dep) + 1
    rcases hs with rfl | rfl
    · rw [lead_miss (by decide)]
      omega
    · rw [lead_hit]
      omega
  | .choose a ns, hg, rest => by
    have h1 := lead_dep hs hg.1 ((123 :: (TL.joinL [44] ns ++ [125])) ++ rest)
    have e : (Rcp.choose a ns).txt ++ rest = a.txt ++ ((123 :: (TL.joinL [44] ns ++ [125])) ++ rest) := by
      show (a.txt ++ (123 :: (TL.joinL [44] ns ++ [125]))) ++ rest = _
      rw [List.append_assoc]
    rw [e]
    show _ ≤ a.dep + 1
    omega
/-- of what is a recipe: no deeper than 8 -/
theorem rcp_dep : ∀ (n : Nat) {r : Rcp}, r.Good → r.th.okay n = true → r.dep ≤ n
  | 0, r, _, h => by cases h
  | n + 1, r, hg, h => by
    have hp := r.parts_th hg
    have h' : (match r.th.parts with | none => false | some ps => ps.all (Th.okay n)) = true := h
    rw [hp] at h'
    have h2 : (r.subs.map Rcp.th).all (Th.okay n) = true := h'
    rw [List.all_map, List.all_eq_true] at h2
    have key : ∀ x ∈ r.subs, x.dep ≤ n := fun x hx => rcp_dep n (r.subs_good hg x hx).1 (h2 x hx)
    cases r with
    | num _ => exact Nat.le_add_left 1 n
    | read _ => exact Nat.le_add_left 1 n
    | two k a b =>
      have h1 := key a (by simp [Rcp.subs])
      have h2 := key b (by simp [Rcp.subs])
      show max a.dep b.dep + 1 ≤ n + 1
      omega
    | pick a b c =>
      have h1 := key a (by simp [Rcp.subs])
      have h2 := key b (by simp [Rcp.subs])
      have h3 := key c (by simp [Rcp.subs])
      show max a.dep (max b.dep c.dep) + 1 ≤ n + 1
      omega
    | choose a ns =>
      have h1 := key a (by simp [Rcp.subs])
      show a.dep + 1 ≤ n + 1
      omega
theorem rcp_is {r : Rcp} (hg : r.Good) (h : r.th.isRcp = true) : r.dep ≤ 8 ∧ r.siz ≤ 100 := by
  have h' : (r.th.okay 8 && decide (r.th.count 8 ≤ 100)) = true := h
  rw [Bool.and_eq_true, decide_eq_true_eq] at h'
  have hd := rcp_dep 8 hg h'.1
  have := (Rcp.okay 8 hg hd).2
  exact ⟨hd, by omega⟩
/-- without brackets a recipe is a row of chooses -/
theorem cnt_choose : ∀ {r : Rcp}, r.Good → 40 ∉ r.txt → 91 ∉ r.txt → cnt 123 r.txt + 1 = r.dep
  | .num n, _, _, _ => by
    have e : cnt 123 (intL n) = 0 := cnt_zero fun h => by
      rcases num_signs h with e | e <;> omega
    show cnt 123 (intL n) + 1 = 1
    rw [e]
  | .read z, hg, _, _ => by
    have e : cnt 123 z = 0 := cnt_zero fun h => by
      have := (show Nm z from hg).2.2 123 h
      omega
    show cnt 123 z + 1 = 1
    rw [e]
  | .two k a b, _, h, _ => absurd (List.mem_cons_self ..) h
  | .pick a b c, _, _, h => absurd (List.mem_cons_self ..) h
  | .choose a ns, hg, h1, h2 => by
    have e1 : (Rcp.choose a ns).txt = a.txt ++ (123 :: (TL.joinL [44] ns ++ [125])) := rfl
    have ih := cnt_choose hg.1 (fun z => h1 (by rw [e1]; exact List.mem_append_left _ z)) (fun z => h2 (by rw [e1]; exact List.mem_append_left _ z))
    have hn : cnt 123 (TL.joinL [44] ns) = 0 := cnt_zero fun h => by
      have z := names_signs hg.2.2.2 123 h
      revert z
      decide
    show cnt 123 (a.txt ++ (123 :: (TL.joinL [44] ns ++ [125]))) + 1 = a.dep + 1
    rw [cnt_app, cnt_cons, cnt_app, hn, ← ih]
    rfl
/-- of letters alone there are only names -/
theorem letters_only {r : Rcp} (hg : r.Good) (h : ∀ c ∈ r.txt, isLt c = true) : r.txt.length ≤ 8 := by
  cases r with
  | num n =>
    obtain ⟨c, l, e, hc⟩ := txt_head_num n
    have e' : (Rcp.num n).txt = c :: l := e
    have z := h c (by rw [e']; exact List.mem_cons_self ..)
    rw [lt_not (by omega)] at z
    cases z
  | read z => exact (show Nm z from hg).2.1
  | two k a b => exact absurd (h 40 (List.mem_cons_self ..)) (by decide)
  | pick a b c => exact absurd (h 91 (List.mem_cons_self ..)) (by decide)
  | choose a ns =>
    have e1 : (Rcp.choose a ns).txt = a.txt ++ (123 :: (TL.joinL [44] ns ++ [125])) := rfl
    exact absurd (h 123 (by rw [e1]; exact List.mem_append_right _ (List.mem_cons_self ..))) (by decide)
/-- what is no recipe's text is refused -/
theorem refused {T : List Nat} (h : ∀ r : Rcp, r.Good → r.dep ≤ 8 → r.siz ≤ 100 → T ≠ r.txt) : rRead (.str T) = none := by
  cases e : rRead (.str T) with
  | none => rfl
  | some r =>
    obtain ⟨h1, h2, h3⟩ := rRead_rev e
    obtain ⟨h4, h5⟩ := rcp_is h2 h3
    exact absurd h1 (h r h2 h4 h5)
theorem refused_lead {s : Nat} (hs : s = 40 ∨ s = 91) {T : List Nat} (h : 8 ≤ lead s T) : rRead (.str T) = none := refused fun r hg hd _ e => by
  have := lead_dep hs hg []
  rw [List.append_nil, ← e] at this
  omega
theorem refused_many {T : List Nat} (h : 50 ≤ cnt 40 T) : rRead (.str T) = none := refused fun r hg _ hz e => by
  have h1 := cnt_twos (.inl rfl) hg
  have h2 := twos_siz r
  rw [← e] at h1
  omega
theorem refused_choose {T : List Nat} (h1 : 40 ∉ T) (h2 : 91 ∉ T) (h : 8 ≤ cnt 123 T) : rRead (.str T) = none := refused fun r hg hd _ e => by
  have := cnt_choose hg (by rw [← e]; exact h1) (by rw [← e]; exact h2)
  rw [← e] at this
  omega
theorem refused_letters {T : List Nat} (h : ∀ c ∈ T, isLt c = true) (hl : 9 ≤ T.length) : rRead (.str T) = none := refused fun r hg _ _ e => by
  have := letters_only hg (by rw [← e]; exact h)
  rw [← e] at this
  omega
/-! ### rows of pairs -/
/-- rows of a name and a number each -/
def Prs (H : Hp) : List (List Nat × Int) → List V → Prop
  | [], [] => True
  | p :: ps, v :: vs => (∃ t, v = .ref t ∧ H t = some (.tup [.str (SX.S p.1), .int p.2])) ∧ Prs H ps vs
  | _, _ => False
theorem Prs.same {H H' : Hp} (k : Same H H') : ∀ {ps : List (List Nat × Int)} {vs : List V}, Prs H ps vs → Prs H' ps vs
  | [], [], _ => trivial
  | _ :: _, _ :: _, ⟨⟨t, e, ht⟩, h⟩ => ⟨⟨t, e, k _ _ ht⟩, Prs.same k h⟩
  | [], _ :: _, h => h.elim
  | _ :: _, [], h => h.elim
theorem Prs.keep {H H' : Hp} (k : Keep H H') : ∀ {ps : List (List Nat × Int)} {vs : List V}, Prs H ps vs → Prs H' ps vs
  | [], [], _ => trivial
  | _ :: _, _ :: _, ⟨⟨t, e, ht⟩, h⟩ => ⟨⟨t, e, k _ _ ht⟩, Prs.keep k h⟩
  | [], _ :: _, h => h.elim
  | _ :: _, [], h => h.elim
theorem Prs.len {H : Hp} : ∀ {ps : List (List Nat × Int)} {vs : List V}, Prs H ps vs → vs.length = ps.length
  | [], [], _ => rfl
  | _ :: _, _ :: _, h => congrArg (· + 1) (Prs.len h.2)
  | [], _ :: _, h => h.elim
  | _ :: _, [], h => h.elim
theorem Prs.at {H : Hp} : ∀ {ps : List (List Nat × Int)} {vs : List V} {i : Nat} {v : V}, Prs H ps vs → vs[i]? = some v → ∃ p t, ps[i]? = some p ∧ v = .ref t ∧ H t = some (.tup [.str (SX.S p.1), .int p.2])
  | [], [], i, v, _, e => by simp at e
  | p :: _, _ :: _, 0, v, h, e => by
    obtain ⟨⟨t, e1, ht⟩, _⟩ := h
    exact ⟨p, t, rfl, (Option.some.inj e).symm.trans e1, ht⟩
  | _ :: _, _ :: _, i + 1, v, h, e => Prs.at (i := i) h.2 (by simpa using e)
  | [], _ :: _, _, _, h, _ => h.elim
  | _ :: _, [], _, _, h, _ => h.elim
theorem Prs.snoc {H : Hp} {p : List Nat × Int} {t : Addr} (ht : H t = some (.tup [.str (SX.S p.1), .int p.2])) : ∀ {ps : List (List Nat × Int)} {vs : List V}, Prs H ps vs → Prs H (ps ++ [p]) (vs ++ [.ref t])
  | [], [], _ => ⟨⟨t, rfl, ht⟩, trivial⟩
  | _ :: _, _ :: _, h => ⟨h.1, Prs.snoc ht h.2⟩
  | [], _ :: _, h => h.elim
  | _ :: _, [], h => h.elim
theorem Prs.drop {H : Hp} : ∀ (n : Nat) {ps : List (List Nat × Int)} {vs : List V}, Prs H ps vs → Prs H (ps.drop n) (vs.drop n)
  | 0, _, _, h => h
  | _ + 1, [], [], h => h
  | n + 1, _ :: _, _ :: _, h => Prs.drop n h.2
  | _ + 1, [], _ :: _, h => h.elim
  | _ + 1, _ :: _, [], h => h.elim
theorem Prs.take {H : Hp} : ∀ (n : Nat) {ps : List (List Nat × Int)} {vs : List V}, Prs H ps vs → Prs H (ps.take n) (vs.take n)
  | 0, _, _, _ => trivial
  | _ + 1, [], [], h => h
  | n + 1, _ :: _, _ :: _, h => ⟨h.1, Prs.take n h.2⟩
  | _ + 1, [], _ :: _, h => h.elim
  | _ + 1, _ :: _, [], h => h.elim
/-! ### a recipe gone through with the numbers read: plain facts -/
abbrev Pr := List Nat × Int
inductive Res where
  | ok (v : Int) (n : Nat)
  | lack (s : List Nat)
  | bad
inductive Out where
  | read (s : List Nat)
  | worth (v : Int)
  | none
def Kd.ap : Kd → Int → Int → Int
  | .plus, a, b => a + b
  | .minus, a, b => a - b
  | .times, a, b => a * b
  | .most, a, b => if b > a then b else a
def seen (l : List Pr) (s : List Nat) : Option Int := (l.find? fun p => decide (p.1 = s)).map (·.2)
def lookG (rd : List Pr) (n : Nat) (s : List Nat) : Res :=
  match seen (rd.take n) s with
  | some v => .ok v n
  | none => match rd[n]? with
    | none => .lack s
    | some p => if p.1 = s then .ok p.2 (n + 1) else .bad
def Res.bind (r : Res) (f : Int → Nat → Res) : Res := match r with
  | .ok v n => f v n
  | .lack s => .lack s
  | .bad => .bad
def nthN (ns : List (List Nat)) (x : Int) : List Nat := ns.getD (x % (ns.length : Int)).toNat []
def go (rd : List Pr) : Rcp → Nat → Res
  | .num v, n => .ok v n
  | .read s, n => lookG rd n s
  | .two k a b, n => (go rd a n).bind fun x m => (go rd b m).bind fun y l => .ok (k.ap x y) l
  | .pick a b c, n => (go rd a n).bind fun x m => if x > 0 then go rd b m else go rd c m
  | .choose a ns, n => (go rd a n).bind fun x m => lookG rd m (nthN ns x)
def outOf (rd : List Pr) (r : Rcp) : Out := match go rd r 0 with
  | .ok v n => if n < rd.length then .none else .worth v
  | .lack s => .read s
  | .bad => .none
/-- names fine, numbers below 2 ^ 400 -/
def Rcp.Nb : Rcp → Prop
  | .num v => v.natAbs < 2 ^ 400
  | .read s => Nm s
  | .two _ a b => a.Nb ∧ b.Nb
  | .pick a b c => a.Nb ∧ b.Nb ∧ c.Nb
  | .choose a ns => a.Nb ∧ Nms ns
theorem nth_mem {ns : List (List Nat)} (h : 1 ≤ ns.length) (x : Int) : ∃ i : Nat, x % (ns.length : Int) = (i : Int) ∧ ns[i]? = some (nthN ns x) := by
  have h0 : 0 ≤ x % (ns.length : Int) := Int.emod_nonneg _ (by omega)
  have h1 : x % (ns.length : Int) < ns.length := Int.emod_lt_of_pos _ (by omega)
  refine ⟨(x % (ns.length : Int)).toNat, by omega, ?_⟩
  have hi : (x % (ns.length : Int)).toNat < ns.length := by omega
  unfold nthN
  rw [List.getD_eq_getElem?_getD, List.getElem?_eq_getElem hi]
  rfl
theorem seen_mem {l : List Pr} {s : List Nat} {v : Int} (h : seen l s = some v) : (s, v) ∈ l := by
  unfold seen at h
  cases e : l.find? fun p => decide (p.1 = s) with
  | none => rw [e] at h; cases h
  | some p =>
    rw [e] at h
    have h1 := List.mem_of_find?_eq_some e
    have h2 : p.1 = s := by
      have := List.find?_some e
      exact of_decide_eq_true this
    have h3 : p.2 = v := Option.some.inj h
    rw [← h2, ← h3]
    exact h1
theorem seen_none {l : List Pr} {s : List Nat} (h : seen l s = none) : ¬ s ∈ l.map (·.1) := fun z => by
  obtain ⟨p, hp, e⟩ := List.mem_map.mp z
  unfold seen at h
  rw [Option.map_eq_none_iff, List.find?_eq_none] at h
  exact h p hp (decide_eq_true e)
theorem seen_not {l : List Pr} {s : List Nat} (h : ¬ s ∈ l.map (·.1)) : seen l s = none := by
  unfold seen
  rw [Option.map_eq_none_iff, List.find?_eq_none]
  exact fun p hp e => h (List.mem_map.mpr ⟨p, hp, of_decide_eq_true e⟩)
theorem seen_cons (p : Pr) (l : List Pr) (s : List Nat) : seen (p :: l) s = if p.1 = s then some p.2 else seen l s := by
  unfold seen
  rw [List.find?_cons]
  by_cases c : p.1 = s
  · rw [if_pos c, decide_eq_true c]
    rfl
  · rw [if_neg c, decide_eq_false c]
theorem lookG_seen {rd : List Pr} {n : Nat} {s : List Nat} {v : Int} (e : seen (rd.take n) s = some v) : lookG rd n s = .ok v n := by unfold lookG; rw [e]
theorem lookG_last {rd : List Pr} {n : Nat} {s : List Nat} (e : seen (rd.take n) s = none) (e2 : rd[n]? = none) : lookG rd n s = .lack s := by unfold lookG; rw [e, e2]
theorem lookG_right {rd : List Pr} {n : Nat} {s : List Nat} {p : Pr} (e : seen (rd.take n) s = none) (e2 : rd[n]? = some p) (c : p.1 = s) : lookG rd n s = .ok p.2 (n + 1) := by unfold lookG; rw [e, e2]; exact if_pos c
theorem lookG_bad {rd : List Pr} {n : Nat} {s : List Nat} {p : Pr} (e : seen (rd.take n) s = none) (e2 : rd[n]? = some p) (c : ¬ p.1 = s) : lookG rd n s = .bad := by unfold lookG; rw [e, e2]; exact if_neg c
/-! #### the walk goes ahead, and no number grows too great -/
theorem lookG_ok {rd : List Pr} {n m : Nat} {s : List Nat} {v : Int} (hn : n ≤ rd.length) (h : lookG rd n s = .ok v m) : n ≤ m ∧ m ≤ rd.length ∧ (s, v) ∈ rd := by
  unfold lookG at h
  cases e : seen (rd.take n) s with
  | some w =>
    rw [e] at h
    cases h
    exact ⟨Nat.le_refl _, hn, List.mem_of_mem_take (seen_mem e)⟩
  | none =>
    rw [e] at h
    cases e2 : rd[n]? with
    | none => rw [e2] at h; cases h
    | some p =>
      rw [e2] at h
      by_cases c : p.1 = s
      · have h' : Res.ok p.2 (n + 1) = .ok v m := by have := h; simp only [if_pos c] at this; exact this
        cases h'
        have := (List.getElem?_eq_some_iff.mp e2).1
        exact ⟨Nat.le_succ _, this, by rw [← c]; exact List.mem_of_getElem? e2⟩
      · simp only [if_neg c] at h
        cases h
theorem bind_ok {r : Res} {f : Int → Nat → Res} {v : Int} {m : Nat} (h : r.bind f = .ok v m) : ∃ x l, r = .ok x l ∧ f x l = .ok v m := by
  cases r with
  | ok x l => exact ⟨x, l, rfl, h⟩
  | lack s => cases h
  | bad => cases h
theorem ap_small {k : Kd} {x y : Int} {e : Nat} (h1 : 1 ≤ e) (hx : x.natAbs < 2 ^ e) (hy : y.natAbs < 2 ^ e) : (k.ap x y).natAbs < 2 ^ (e + e) := by
  have hs : 2 ^ e + 2 ^ e ≤ 2 ^ (e + e) := by
    have h2 : 2 ^ e * 2 ≤ 2 ^ e * 2 ^ e := Nat.mul_le_mul_left _ (by
      have := Nat.pow_le_pow_right (show 0 < 2 by decide) h1
      simpa using this)
    rw [Nat.pow_add]
    omega
  cases k with
  | plus => show (x + y).natAbs < _; omega
  | minus => show (x - y).natAbs < _; omega
  | times =>
    show (x * y).natAbs < _
    rw [Int.natAbs_mul, Nat.pow_add]
    exact Nat.mul_lt_mul'' hx hy
  | most =>
    show (if y > x then y else x).natAbs < _
    split <;> omega
theorem go_ok {rd : List Pr} (hrd : ∀ p ∈ rd, p.2.natAbs < 2 ^ 400) : ∀ {r : Rcp} {n m : Nat} {v : Int}, r.Nb → n ≤ rd.length → go rd r n = .ok v m → n ≤ m ∧ m ≤ rd.length ∧ v.natAbs < 2 ^ (400 * 2 ^ r.dep)
  | .num w, n, m, v, hb, hn, h => by
    cases h
    exact ⟨Nat.le_refl _, hn, Nat.lt_of_lt_of_le hb (Nat.pow_le_pow_right (by decide) (by show 400 ≤ 400 * 2 ^ 1; decide))⟩
  | .read s, n, m, v, hb, hn, h => by
    obtain ⟨h1, h2, h3⟩ := lookG_ok hn h
    exact ⟨h1, h2, Nat.lt_of_lt_of_le (hrd _ h3) (Nat.pow_le_pow_right (by decide) (by show 400 ≤ 400 * 2 ^ 1; decide))⟩
  | .two k a b, n, m, v, hb, hn, h => by
    obtain ⟨x, l, ha, h2⟩ := bind_ok h
    obtain ⟨y, l2, hbb, h3⟩ := bind_ok h2
    cases h3
    obtain ⟨a1, a2, a3⟩ := go_ok hrd hb.1 hn ha
    obtain ⟨b1, b2, b3⟩ := go_ok hrd hb.2 a2 hbb
    have hx : x.natAbs < 2 ^ (400 * 2 ^ max a.dep b.dep) := Nat.lt_of_lt_of_le a3 (Nat.pow_le_pow_right (by decide) (Nat.mul_le_mul_left _ (Nat.pow_le_pow_right (by decide) (Nat.le_max_left ..))))
    have hy : y.natAbs < 2 ^ (400 * 2 ^ max a.dep b.dep) := Nat.lt_of_lt_of_le b3 (Nat.pow_le_pow_right (by decide) (Nat.mul_le_mul_left _ (Nat.pow_le_pow_right (by decide) (Nat.le_max_right ..))))
    have hp : 1 ≤ 2 ^ max a.dep b.dep := Nat.one_le_two_pow
    have := ap_small (k := k) (by omega) hx hy
    refine ⟨Nat.le_trans a1 b1, b2, ?_⟩
    show _ < 2 ^ (400 * 2 ^ (max a.dep b.dep + 1))
    rw [show 400 * 2 ^ (max a.dep b.dep + 1) = 400 * 2 ^ max a.dep b.dep + 400 * 2 ^ max a.dep b.dep by rw [Nat.pow_succ]; omega]
    exact this
  | .pick a b c, n, m, v, hb, hn, h => by
    obtain ⟨x, l, ha, h2⟩ := bind_ok h
    obtain ⟨a1, a2, a3⟩ := go_ok hrd hb.1 hn ha
    have mono : ∀ d, d ≤ (Rcp.pick a b c).dep → ∀ z : Int, z.natAbs < 2 ^ (400 * 2 ^ d) → z.natAbs < 2 ^ (400 * 2 ^ (Rcp.pick a b c).dep) := fun d hd z hz => Nat.lt_of_lt_of_le hz (Nat.pow_le_pow_right (by decide) (Nat.mul_le_mul_left _ (Nat.pow_le_pow_right (by decide) hd)))
    have e : (Rcp.pick a b c).dep = max a.dep (max b.dep c.dep) + 1 := rfl
    by_cases hx : x > 0
    · simp only [if_pos hx] at h2
      obtain ⟨b1, b2, b3⟩ := go_ok hrd hb.2.1 a2 h2
      exact ⟨Nat.le_trans a1 b1, b2, mono b.dep (by omega) _ b3⟩
    · simp only [if_neg hx] at h2
      obtain ⟨b1, b2, b3⟩ := go_ok hrd hb.2.2 a2 h2
      exact ⟨Nat.le_trans a1 b1, b2, mono c.dep (by omega) _ b3⟩
  | .choose a ns, n, m, v, hb, hn, h => by
    obtain ⟨x, l, ha, h2⟩ := bind_ok h
    obtain ⟨a1, a2, a3⟩ := go_ok hrd hb.1 hn ha
    obtain ⟨h4, h5, h6⟩ := lookG_ok a2 h2
    have hp : 1 ≤ 2 ^ (Rcp.choose a ns).dep := Nat.one_le_two_pow
    exact ⟨Nat.le_trans a1 h4, h5, Nat.lt_of_lt_of_le (hrd _ h6) (Nat.pow_le_pow_right (by decide) (by omega))⟩
/-! #### one more read behind the reads that were all looked for -/
theorem lookG_lack {rd : List Pr} {n : Nat} {s t : List Nat} (hn : n ≤ rd.length) (h : lookG rd n s = .lack t) : n = rd.length ∧ s = t ∧ seen rd s = none := by
  unfold lookG at h
  cases e : seen (rd.take n) s with
  | some w => rw [e] at h; cases h
  | none =>
    rw [e] at h
    cases e2 : rd[n]? with
    | none =>
      rw [e2] at h
      cases h
      have hl := List.getElem?_eq_none_iff.mp e2
      have : n = rd.length := by omega
      rw [this, List.take_length] at e
      exact ⟨this, rfl, e⟩
    | some p =>
      rw [e2] at h
      by_cases c : p.1 = s
      · simp only [if_pos c] at h; cases h
      · simp only [if_neg c] at h; cases h
theorem lookG_more {rd : List Pr} {n m : Nat} {s : List Nat} {v : Int} (q : Pr) (hn : n ≤ rd.length) (h : lookG rd n s = .ok v m) : lookG (rd ++ [q]) n s = .ok v m := by
  unfold lookG at h ⊢
  rw [List.take_append_of_le_length hn]
  cases e : seen (rd.take n) s with
  | some w => rw [e] at h; exact h
  | none =>
    rw [e] at h
    cases e2 : rd[n]? with
    | none => rw [e2] at h; cases h
    | some p =>
      rw [e2] at h
      have hl := (List.getElem?_eq_some_iff.mp e2).1
      rw [List.getElem?_append_left hl, e2]
      exact h
/-- with all reads gone, nothing is bad -/
theorem lookG_end {rd : List Pr} {s : List Nat} : (∃ v, lookG rd rd.length s = .ok v rd.length) ∨ lookG rd rd.length s = .lack s := by
  unfold lookG
  rw [List.take_length]
  cases e : seen rd s with
  | some w => exact .inl ⟨w, rfl⟩
  | none =>
    rw [List.getElem?_eq_none (Nat.le_refl _)]
    exact .inr rfl
theorem go_end {rd : List Pr} : ∀ {r : Rcp}, (∃ v, go rd r rd.length = .ok v rd.length) ∨ ∃ s, go rd r rd.length = .lack s
  | .num v => .inl ⟨v, rfl⟩
  | .read s => lookG_end.elim .inl fun h => .inr ⟨s, h⟩
  | .two k a b => by
    rcases go_end (rd := rd) (r := a) with ⟨x, hx⟩ | ⟨s, hs⟩
    · rcases go_end (rd := rd) (r := b) with ⟨y, hy⟩ | ⟨s, hs⟩
      · exact .inl ⟨k.ap x y, by unfold go; rw [hx]; show (go rd b rd.length).bind _ = _; rw [hy]; rfl⟩
      · exact .inr ⟨s, by unfold go; rw [hx]; show (go rd b rd.length).bind _ = _; rw [hs]; rfl⟩
    · exact .inr ⟨s, by unfold go; rw [hs]; rfl⟩
  | .pick a b c => by
    rcases go_end (rd := rd) (r := a) with ⟨x, hx⟩ | ⟨s, hs⟩
    · by_cases c0 : x > 0
      · rcases go_end (rd := rd) (r := b) with ⟨y, hy⟩ | ⟨s, hs⟩
        · exact .inl ⟨y, by unfold go; rw [hx]; show (if x > 0 then _ else _) = _; rw [if_pos c0, hy]⟩
        · exact .inr ⟨s, by unfold go; rw [hx]; show (if x > 0 then _ else _) = _; rw [if_pos c0, hs]⟩
      · rcases go_end (rd := rd) (r := c) with ⟨y, hy⟩ | ⟨s, hs⟩
        · exact .inl ⟨y, by unfold go; rw [hx]; show (if x > 0 then _ else _) = _; rw [if_neg c0, hy]⟩
        · exact .inr ⟨s, by unfold go; rw [hx]; show (if x > 0 then _ else _) = _; rw [if_neg c0, hs]⟩
    · exact .inr ⟨s, by unfold go; rw [hs]; rfl⟩
  | .choose a ns => by
    rcases go_end (rd := rd) (r := a) with ⟨x, hx⟩ | ⟨s, hs⟩
    · rcases lookG_end (rd := rd) (s := nthN ns x) with ⟨v, hv⟩ | hl
      · exact .inl ⟨v, by unfold go; rw [hx]; exact hv⟩
      · exact .inr ⟨_, by unfold go; rw [hx]; exact hl⟩
    · exact .inr ⟨s, by unfold go; rw [hs]; rfl⟩
theorem go_more {rd : List Pr} (q : Pr) : ∀ {r : Rcp} {n m : Nat} {v : Int}, n ≤ rd.length → go rd r n = .ok v m → go (rd ++ [q]) r n = .ok v m ∧ m ≤ rd.length
  | .num w, n, m, v, hn, h => by cases h; exact ⟨rfl, hn⟩
  | .read s, n, m, v, hn, h => ⟨lookG_more q hn h, (lookG_ok hn h).2.1⟩
  | .two k a b, n, m, v, hn, h => by
    obtain ⟨x, l, ha, h2⟩ := bind_ok h
    obtain ⟨y, l2, hb, h3⟩ := bind_ok h2
    cases h3
    obtain ⟨a1, a2⟩ := go_more q hn ha
    obtain ⟨b1, b2⟩ := go_more q a2 hb
    refine ⟨?_, b2⟩
    unfold go
    rw [a1]
    show (go (rd ++ [q]) b l).bind _ = _
    rw [b1]
    rfl
  | .pick a b c, n, m, v, hn, h => by
    obtain ⟨x, l, ha, h2⟩ := bind_ok h
    obtain ⟨a1, a2⟩ := go_more q hn ha
    unfold go
    rw [a1]
    show (if x > 0 then _ else _) = _ ∧ _
    by_cases c0 : x > 0
    · simp only [if_pos c0] at h2
      rw [if_pos c0]
      exact go_more q a2 h2
    · simp only [if_neg c0] at h2
      rw [if_neg c0]
      exact go_more q a2 h2
  | .choose a ns, n, m, v, hn, h => by
    obtain ⟨x, l, ha, h2⟩ := bind_ok h
    obtain ⟨a1, a2⟩ := go_more q hn ha
    unfold go
    rw [a1]
    exact ⟨lookG_more q a2 h2, (lookG_ok a2 h2).2.1⟩
theorem bind_lack {r : Res} {f : Int → Nat → Res} {s : List Nat} (h : r.bind f = .lack s) : r = .lack s ∨ ∃ x l, r = .ok x l ∧ f x l = .lack s := by
  cases r with
  | ok x l => exact .inr ⟨x, l, rfl, h⟩
  | lack s' => exact .inl h
  | bad => cases h
/-- where s lacked: with s read it comes to the end of the reads, or lacks another one -/
def Fine (rd : List Pr) (r : Res) : Prop := (∃ v, r = .ok v rd.length) ∨ ∃ s, r = .lack s
theorem look_next {rd : List Pr} {n : Nat} {s t : List Nat} (w : Int) (hn : n ≤ rd.length) (h : lookG rd n t = .lack s) : lookG (rd ++ [(s, w)]) n t = .ok w (rd ++ [(s, w)]).length := by
  obtain ⟨rfl, rfl, e⟩ := lookG_lack hn h
  unfold lookG
  rw [List.take_append_of_le_length (Nat.le_refl _), List.take_length, e, List.getElem?_append_right (Nat.le_refl _), Nat.sub_self]
  show (if t = t then Res.ok w (rd.length + 1) else .bad) = _
  rw [if_pos rfl, List.length_append]
  rfl
theorem go_next {rd : List Pr} {s : List Nat} (w : Int) : ∀ {r : Rcp} {n : Nat}, n ≤ rd.length → go rd r n = .lack s → Fine (rd ++ [(s, w)]) (go (rd ++ [(s, w)]) r n)
  | .num v, n, hn, h => by cases h
  | .read t, n, hn, h => .inl ⟨w, look_next w hn h⟩
  | .two k a b, n, hn, h => by
    rcases bind_lack h with ha | ⟨x, l, ha, h2⟩
    · rcases go_next w hn ha with ⟨v, hv⟩ | ⟨t, ht⟩
      · unfold go
        rw [hv]
        show Fine _ ((go (rd ++ [(s, w)]) b (rd ++ [(s, w)]).length).bind _)
        rcases go_end (rd := rd ++ [(s, w)]) (r := b) with ⟨y, hy⟩ | ⟨t, ht⟩
        · rw [hy]; exact .inl ⟨_, rfl⟩
        · rw [ht]; exact .inr ⟨_, rfl⟩
      · unfold go
        rw [ht]
        exact .inr ⟨_, rfl⟩
    · obtain ⟨a1, a2⟩ := go_more (s, w) hn ha
      unfold go
      rw [a1]
      show Fine _ ((go (rd ++ [(s, w)]) b l).bind _)
      rcases bind_lack h2 with hb | ⟨y, l2, hb, h3⟩
      · rcases go_next w a2 hb with ⟨v, hv⟩ | ⟨t, ht⟩
        · rw [hv]; exact .inl ⟨_, rfl⟩
        · rw [ht]; exact .inr ⟨_, rfl⟩
      · cases h3
  | .pick a b c, n, hn, h => by
    rcases bind_lack h with ha | ⟨x, l, ha, h2⟩
    · rcases go_next w hn ha with ⟨v, hv⟩ | ⟨t, ht⟩
      · unfold go
        rw [hv]
        show Fine _ (if v > 0 then go _ b _ else go _ c _)
        split
        · exact go_end
        · exact go_end
      · unfold go
        rw [ht]
        exact .inr ⟨_, rfl⟩
    · obtain ⟨a1, a2⟩ := go_more (s, w) hn ha
      unfold go
      rw [a1]
      show Fine _ (if x > 0 then go _ b _ else go _ c _)
      by_cases c0 : x > 0
      · simp only [if_pos c0] at h2
        rw [if_pos c0]
        exact go_next w a2 h2
      · simp only [if_neg c0] at h2
        rw [if_neg c0]
        exact go_next w a2 h2
  | .choose a ns, n, hn, h => by
    rcases bind_lack h with ha | ⟨x, l, ha, h2⟩
    · rcases go_next w hn ha with ⟨v, hv⟩ | ⟨t, ht⟩
      · unfold go
        rw [hv]
        exact lookG_end.elim .inl fun h => .inr ⟨_, h⟩
      · unfold go
        rw [ht]
        exact .inr ⟨_, rfl⟩
    · obtain ⟨a1, a2⟩ := go_more (s, w) hn ha
      unfold go
      rw [a1]
      exact .inl ⟨w, look_next w a2 h2⟩
/-- the names that a recipe may look for -/
def Rcp.nms : Rcp → List (List Nat)
  | .num _ => []
  | .read s => [s]
  | .two _ a b => a.nms ++ b.nms
  | .pick a b c => a.nms ++ (b.nms ++ c.nms)
  | .choose a ns => a.nms ++ ns
theorem go_name {rd : List Pr} {s : List Nat} : ∀ {r : Rcp} {n : Nat}, r.Nb → n ≤ rd.length → go rd r n = .lack s → s ∈ r.nms ∧ seen rd s = none
  | .num v, n, hb, hn, h => by cases h
  | .read t, n, hb, hn, h => by
    obtain ⟨_, e, e2⟩ := lookG_lack hn h
    exact ⟨by rw [← e]; exact List.mem_singleton.mpr rfl, by rw [← e]; exact e2⟩
  | .two k a b, n, hb, hn, h => by
    rcases bind_lack h with ha | ⟨x, l, ha, h2⟩
    · obtain ⟨h1, h2⟩ := go_name hb.1 hn ha
      exact ⟨List.mem_append_left _ h1, h2⟩
    · rcases bind_lack h2 with hbb | ⟨y, l2, hbb, h3⟩
      · obtain ⟨h1, h2⟩ := go_name hb.2 (go_more (s, 0) hn ha).2 hbb
        exact ⟨List.mem_append_right _ h1, h2⟩
      · cases h3
  | .pick a b c, n, hb, hn, h => by
    rcases bind_lack h with ha | ⟨x, l, ha, h2⟩
    · obtain ⟨h1, h2⟩ := go_name hb.1 hn ha
      exact ⟨List.mem_append_left _ h1, h2⟩
    · have hl := (go_more (s, 0) hn ha).2
      by_cases c0 : x > 0
      · simp only [if_pos c0] at h2
        obtain ⟨h1, h2⟩ := go_name hb.2.1 hl h2
        exact ⟨List.mem_append_right _ (List.mem_append_left _ h1), h2⟩
      · simp only [if_neg c0] at h2
        obtain ⟨h1, h2⟩ := go_name hb.2.2 hl h2
        exact ⟨List.mem_append_right _ (List.mem_append_right _ h1), h2⟩
  | .choose a ns, n, hb, hn, h => by
    rcases bind_lack h with ha | ⟨x, l, ha, h2⟩
    · obtain ⟨h1, h2⟩ := go_name hb.1 hn ha
      exact ⟨List.mem_append_left _ h1, h2⟩
    · obtain ⟨_, e, e2⟩ := lookG_lack (go_more (s, 0) hn ha).2 h2
      obtain ⟨i, _, hi⟩ := nth_mem hb.2.1 x
      exact ⟨List.mem_append_right _ (by rw [← e]; exact List.mem_of_getElem? hi), by rw [← e]; exact e2⟩
theorem nms_ok : ∀ {r : Rcp}, r.Nb → ∀ s ∈ r.nms, Nm s
  | .num _, _, s, h => nomatch h
  | .read t, hb, s, h => by rw [List.mem_singleton.mp h]; exact hb
  | .two _ a b, hb, s, h => (List.mem_append.mp h).elim (nms_ok hb.1 s) (nms_ok hb.2 s)
  | .pick a b c, hb, s, h => (List.mem_append.mp h).elim (nms_ok hb.1 s) fun h => (List.mem_append.mp h).elim (nms_ok hb.2.1 s) (nms_ok hb.2.2 s)
  | .choose a ns, hb, s, h => (List.mem_append.mp h).elim (nms_ok hb.1 s) (hb.2.2.2 s)
/-! ### rows of pairs as data -/
def pairTh (p : List Nat × Int) : Th := .tup [.str p.1, .int p.2]
theorem Prs.data {H : Hp} : ∀ {ps : List (List Nat × Int)} {vs : List V}, Prs H ps vs → DataL H (ps.map pairTh) vs
  | [], [], _ => rfl
  | _ :: _, _ :: _, ⟨⟨t, e, ht⟩, h⟩ => ⟨_, _, rfl, ⟨t, _, e, ht, _, _, rfl, rfl, _, _, rfl, rfl, rfl⟩, Prs.data h⟩
  | [], _ :: _, h => h.elim
  | _ :: _, [], h => h.elim
theorem prs_flat : ∀ ps : List (List Nat × Int), Th.flatL (ps.map pairTh) = true
  | [] => rfl
  | p :: ps => by
    show ((pairTh p).flat && Th.flatL (ps.map pairTh)) = true
    rw [prs_flat ps]
    rfl
theorem prs_lay : ∀ {ps : List (List Nat × Int)}, (∀ p ∈ ps, Nm p.1) → PyData.canLayAll0 (Th.pyL (ps.map pairTh)) = true ∧ PyData.depthAll (Th.pyL (ps.map pairTh)) ≤ 1
  | [], _ => ⟨rfl, Nat.zero_le _⟩
  | p :: ps, h => by
    obtain ⟨h1, h2⟩ := prs_lay fun q hq => h q (List.mem_cons_of_mem _ hq)
    have h3 := nm_lay (h p (List.mem_cons_self ..))
    refine ⟨?_, ?_⟩
    · show (((PyData.str (SX.S p.1)).canLay0 && ((PyData.int p.2).canLay0 && true)) && PyData.canLayAll0 (Th.pyL (ps.map pairTh))) = true
      rw [h1, h3]
      rfl
    · show max (max 0 (max 0 0) + 1) (PyData.depthAll (Th.pyL (ps.map pairTh))) ≤ 1
      omega
theorem prs_shaped {ps : List (List Nat × Int)} (h : ∀ p ∈ ps, Nm p.1) : SeqAt.shaped (.list (Th.pyL (ps.map pairTh))) = true := by
  obtain ⟨h1, h2⟩ := prs_lay h
  show (PyData.canLayAll0 (Th.pyL (ps.map pairTh)) && decide (PyData.depthAll (Th.pyL (ps.map pairTh)) + 1 ≤ 64)) = true
  rw [h1, decide_eq_true (by omega)]
  rfl
/-- names and numbers as a dict holds them -/
def kT (s : Str) : Key := Sum.inr s
def numsK (ps : List (List Nat × Int)) : List (Key × V) := ps.map fun p => (kT (SX.S p.1), .int p.2)
theorem kS_inj {a b : List Nat} (h : kT (SX.S a) = kT (SX.S b)) : a = b := by
  have e2 : SX.S a = SX.S b := Sum.inr.inj h
  exact beq_iff_eq.mp (by rw [← SX.S_beq]; exact beq_iff_eq.mpr e2)
theorem sne {a b : Str} (h : decide (a = b) = false) : ¬ V.str a = V.str b := fun z => (of_decide_eq_false h) (V.str.inj z)
theorem strS_inj {a b : List Nat} (h : V.str (SX.S a) = V.str (SX.S b)) : a = b := beq_iff_eq.mp (by rw [← SX.S_beq]; exact beq_iff_eq.mpr (V.str.inj h))
/-! ### the law's own going -/
theorem val_seen (s : List Nat) : ∀ l : List Pr, valV (numsK l) (kT (SX.S s)) = (seen l s).map V.int
  | [] => rfl
  | p :: l => by
    rw [seen_cons]
    by_cases c : p.1 = s
    · rw [show numsK (p :: l) = (kT (SX.S p.1), V.int p.2) :: numsK l from rfl, valV_pos (by rw [c]), if_pos c]
      rfl
    · rw [show numsK (p :: l) = (kT (SX.S p.1), V.int p.2) :: numsK l from rfl, valV_neg (fun z => c (kS_inj z)), val_seen s l, if_neg c]
theorem nums_put {l : List Pr} {s : List Nat} {v : Int} (h : seen l s = none) : putK (numsK l) (kT (SX.S s)) (.int v) = numsK (l ++ [(s, v)]) := by
  rw [putK_new _ (by rw [val_seen, h]; rfl)]
  unfold numsK
  rw [List.map_append]
  rfl
theorem numsK_len (l : List Pr) : (numsK l).length = l.length := by unfold numsK; rw [List.length_map]
def stK (L D : Addr) (due : V) (wr : Bool) : List (Key × V) := [(kT "left", .ref L), (kT "had", .ref D), (kT "due", due), (kT "wrong", .bl wr)]
theorem kT_ne {a b : Str} (h : decide (a = b) = false) : ¬ kT a = kT b := fun z => (of_decide_eq_false h) (Sum.inr.inj z)
theorem st_left (L D : Addr) (due : V) (wr : Bool) : valV (stK L D due wr) (kT "left") = some (.ref L) := valV_pos rfl
theorem st_had (L D : Addr) (due : V) (wr : Bool) : valV (stK L D due wr) (kT "had") = some (.ref D) := (valV_neg (kT_ne (by decide +kernel))).trans (valV_pos rfl)
theorem st_due (L D : Addr) (due : V) (wr : Bool) : valV (stK L D due wr) (kT "due") = some due := (valV_neg (kT_ne (by decide +kernel))).trans ((valV_neg (kT_ne (by decide +kernel))).trans (valV_pos rfl))
theorem st_wrong (L D : Addr) (due : V) (wr : Bool) : valV (stK L D due wr) (kT "wrong") = some (.bl wr) := (valV_neg (kT_ne (by decide +kernel))).trans ((valV_neg (kT_ne (by decide +kernel))).trans ((valV_neg (kT_ne (by decide +kernel))).trans (valV_pos rfl)))
theorem st_put_due (L D : Addr) (due x : V) (wr : Bool) : putK (stK L D due wr) (kT "due") x = stK L D x wr := by
  unfold putK
  rw [if_pos (by rw [valV_any, st_due]; rfl)]
  show [_, _, _, _] = [_, _, _, _]
  simp only [if_neg (kT_ne (a := "left") (b := "due") (by decide +kernel)), if_neg (kT_ne (a := "had") (b := "due") (by decide +kernel)), if_neg (kT_ne (a := "wrong") (b := "due") (by decide +kernel)), if_true]
theorem st_put_wrong (L D : Addr) (due : V) (wr b : Bool) : putK (stK L D due wr) (kT "wrong") (.bl b) = stK L D due b := by
  unfold putK
  rw [if_pos (by rw [valV_any, st_wrong]; rfl)]
  show [_, _, _, _] = [_, _, _, _]
  simp only [if_neg (kT_ne (a := "left") (b := "wrong") (by decide +kernel)), if_neg (kT_ne (a := "had") (b := "wrong") (by decide +kernel)), if_neg (kT_ne (a := "due") (b := "wrong") (by decide +kernel)), if_true]
def StL (H : Hp) (st L D : Addr) (rd : List Pr) (n : Nat) : Prop := H st = some (.dK (stK L D .non false)) ∧ ∃ xs, H L = some (.lst xs) ∧ Prs H (rd.drop n) xs ∧ H D = some (.dK (numsK (rd.take n)))
def Fr3 (a b c : Addr) (H H' : Hp) : Prop := ∀ x u, x ≠ a → x ≠ b → x ≠ c → H x = some u → H' x = some u
theorem Fr3.refl (a b c : Addr) (H : Hp) : Fr3 a b c H H := fun _ _ _ _ _ e => e
theorem Fr3.trans {a b c : Addr} {A B C : Hp} (h : Fr3 a b c A B) (k : Fr3 a b c B C) : Fr3 a b c A C := fun x u n m o e => k x u n m o (h x u n m o e)
theorem Fr3.of {a b c : Addr} {A B : Hp} (h : Same A B) : Fr3 a b c A B := fun x u _ _ _ e => h x u e
/-- what is told: by the outcome -/
def TellL (Q : VK) (rd : List Pr) (st L D : Addr) (H : Hp) (res : Res) : Prop :=
  (∀ v m H', res = .ok v m → Fr3 st L D H H' → StL H' st L D rd m → Q (.int v) H') ∧
  (∀ t a H', res = .lack t → Fr3 st L D H H' → H' st = some (.dK (stK L D (.ref a) false)) → H' a = some (.tup [.str "read", .str (SX.S t)]) → Q .non H') ∧
  (∀ due H', res = .bad → Fr3 st L D H H' → H' st = some (.dK (stK L D due true)) → Q .non H')
theorem StL.keep {H H' : Hp} {st L D : Addr} {rd : List Pr} {n : Nat} (k : StL H st L D rd n) (f : Fr3 st L D H H') : Keep H H' := by
  obtain ⟨h1, xs, h2, _, h3⟩ := k
  exact fun b ys e => f b _ (fun z => by rw [z, h1] at e; cases e) (fun z => by rw [z, h2] at e; cases e) (fun z => by rw [z, h3] at e; cases e) e
def spLLook : Sp := fun vs H Q _ => ∃ (st L D : Addr) (s : List Nat) (rd : List Pr) (n : Nat), vs = [.str (SX.S s), .ref st] ∧ StL H st L D rd n ∧ n ≤ rd.length ∧ rd.length ≤ 1000000 ∧ (∀ p ∈ rd, Nm p.1) ∧ TellL Q rd st L D H (lookG rd n s)
section
variable {P : Program} {w : World} {K : PySem.W.Frag} {mg : Str → Option Value} {base : Heap}
abbrev s__law_look : Stmt := topS 58
abbrev N__law_look : List Str := ["name", "state", "read", "number"]
theorem sc__law_look : FnScope N__law_look ["name", "state"] (defScope s__law_look) := ⟨rfl, rfl, rfl, by decide +kernel, rfl, by decide +kernel, by decide +kernel⟩

theorem ok__law_look (T : Txt K mg) (D : IsDef K mg "_law_look" s__law_look ["name", "state"]) : Cal P w K mg base CX0 1 "_law_look" ["name", "state"] spLLook := by
  refine D.cal sc__law_look (fun vs H Q E h => ?_) (fun f cdv A outer s H vs Q E hr h => ?_)
  · obtain ⟨st, L, D, s, rd, n, rfl, _⟩ := h
    rfl
  obtain ⟨st, L, D, s0, rd, n, rfl, ⟨hst, xs, hL, hP, hD⟩, hn, h100, hnm, q1, q2, q3⟩ := h
  have hu : (cxOf CX0 P w K mg base N__law_look "_law_look" (defScope s__law_look) f cdv A outer s H E).nox.A.units + 1 < cLine := Nat.lt_of_le_of_lt (Nat.add_le_add_left (by decide : 1 ≤ 64) _) hr.units
  refine ⟨_, (pss_cons (ps_if (pt_cmp (pc_din hu (pv 0) (pe_dget hu (pv 1) pe_str (fun _ _ => rfl))))
        (pss_one (ps_ret (pe_dget hu (pe_dget hu (pv 1) pe_str (fun _ _ => rfl)) (pv 0) (fun _ _ => rfl))))
        pss_nil)
      (pss_cons (ps_if (pt_cmpR (op_eqD hr.units) (pe_dget hu (pv 1) pe_str (fun _ _ => rfl)) (pe_lst pa_nil) (nomark _))
        (pss_cons (ps_dput hu (pv 1) pe_str (pe_tup (pa_cons pe_str (pa_cons (pv 0) pa_nil))) rfl)
      (pss_one (ps_ret pe_non)))
        pss_nil)
      (pss_cons (ps_asg (pe_bm PySem.F.plainAttrs_list PySem.F.slot_list_pop PySem.F.type_list_pop mt_popAt (pe_dget hu (pv 1) pe_str (fun _ _ => rfl)) (pa_cons pe_int pa_nil)) (pg_tup rfl (pgs_cons (pg_name (i := 2) sc__law_look.nd rfl (Or.inl rfl)) (pgs_cons (pg_name (i := 3) sc__law_look.nd rfl (Or.inl rfl)) pgs_nil))))
      (pss_cons (ps_if (pt_cmpR op_ne (pv 2) (pv 0) (nomark _))
        (pss_cons (ps_dput hu (pv 1) pe_str pe_non rfl)
      (pss_cons (ps_dput hu (pv 1) pe_str pe_bl rfl)
      (pss_one (ps_ret pe_non))))
        pss_nil)
      (pss_cons (ps_dput hu (pe_dget hu (pv 1) pe_str (fun _ _ => rfl)) (pv 0) (pv 3) rfl)
      (pss_one (ps_ret (pv 3)))))))), ?_⟩
  have dHad : ∀ {H : Hp} {due : V} {wr : Bool}, H st = some (.dK (stK L D due wr)) → DGet H st (.str "had") (some (.ref D)) := fun h => st_had _ _ _ _ ▸ DGet.k (k := kT "had") h
  have dLeft : ∀ {H : Hp} {due : V} {wr : Bool}, H st = some (.dK (stK L D due wr)) → DGet H st (.str "left") (some (.ref L)) := fun h => st_left _ _ _ _ ▸ DGet.k (k := kT "left") h
  have nSL : st ≠ L := fun z => by rw [z, hL] at hst; cases hst
  have nDL : D ≠ L := fun z => by rw [z, hL] at hD; cases hD
  refine ⟨_, rfl, _, rfl, st, _, rfl, dHad hst, D, _, rfl, DGet.k (k := kT (SX.S s0)) hD, _, rfl, ?_⟩
  rw [val_seen]
  cases e : seen (rd.take n) s0 with
  | some v =>
    have dV : DGet H D (.str (SX.S s0)) (some (.int v)) := (show valV (numsK (rd.take n)) (kT (SX.S s0)) = some (.int v) by rw [val_seen, e]; rfl) ▸ DGet.k (k := kT (SX.S s0)) hD
    refine iteT ?_
    exact ⟨_, rfl, st, _, rfl, dHad hst, _, rfl, D, _, rfl, dV, q1 v n H (lookG_seen e) (Fr3.refl st L D H) ⟨hst, xs, hL, hP, hD⟩⟩
  | none =>
    refine iteF ?_
    have dL : ∀ {H : Hp}, H L = some (.lst xs) → Prs H (rd.drop n) xs → Dp K H (.ref L) (.list (Th.pyL ((rd.drop n).map pairTh))) := fun {H} h1 h2 => Data.dp (t := .lst ((rd.drop n).map pairTh)) (prs_flat _) (show Data H (.lst ((rd.drop n).map pairTh)) (.ref L) from ⟨L, _, rfl, h1, h2.data⟩)
    refine ⟨_, rfl, st, _, rfl, dLeft hst, le_line (Nat.le_of_ble_eq_true rfl), fun E1 nE => ?_⟩
    have sE := same_new nE (.lst [])
    refine ⟨_, _, dL (sE _ _ hL) (hP.same sE), .lst (SqL.of upd_same) .nil, prs_shaped fun p hp => hnm p (List.mem_of_mem_drop hp), rfl, _, rfl, ?_⟩
    have eqv0 : PyData.eqv (.list (Th.pyL ((rd.drop n).map pairTh))) (.list []) = decide (rd[n]? = none) := by
      by_cases c : n < rd.length
      · rw [List.drop_eq_getElem_cons c, List.getElem?_eq_getElem c]
        rfl
      · rw [List.drop_eq_nil_of_le (by omega), List.getElem?_eq_none (by omega)]
        rfl
    rw [eqv0]
    refine ite2 (fun c => ?_) (fun c => ?_)
    · have e2 : rd[n]? = none := of_decide_eq_true c
      refine ⟨_, rfl, le_line (Nat.le_of_ble_eq_true rfl), fun t nt => ?_⟩
      have s2 := same_new nt (.tup [.str "read", .str (SX.S s0)])
      have hst2 := s2 _ _ (sE _ _ hst)
      refine ⟨_, rfl, st, _, rfl, DPut.k (k := kT "due") hst2 (lt_line (by show 4 < 16777216; decide)), ?_⟩
      rw [st_put_due]
      have nts : st ≠ t := ne_of_none (sE _ _ hst) nt
      exact q2 s0 t _ (lookG_last e e2) (fun x u n1 n2 n3 e => by rw [upd_ne n1]; exact s2 _ _ (sE _ _ e)) upd_same (by rw [upd_ne nts.symm]; exact upd_same)
    · have hlt : n < rd.length := by
        refine Nat.lt_of_not_le fun z => c (decide_eq_true (List.getElem?_eq_none z))
      have e2 : rd[n]? = some rd[n] := List.getElem?_eq_getElem hlt
      obtain ⟨p, hp⟩ : ∃ p, p = rd[n] := ⟨_, rfl⟩
      rw [← hp] at e2
      have edrop : rd.drop n = p :: rd.drop (n + 1) := by rw [hp]; exact List.drop_eq_getElem_cons hlt
      rw [edrop] at hP
      obtain ⟨y, ys, rfl⟩ : ∃ y ys, xs = y :: ys := by
        cases xs with
        | nil => exact hP.elim
        | cons y ys => exact ⟨y, ys, rfl⟩
      obtain ⟨⟨t, rfl, ht⟩, hP2⟩ := hP
      have hst1 := sE _ _ hst
      have hL1 := sE _ _ hL
      have nLt : t ≠ L := fun z => by rw [z, hL] at ht; cases ht
      have hsq : seqIndex? 0 (V.ref t :: ys).length = some 0 := (ixN_seq (ixN_at (by decide) (by show (0 : Int) < ((ys.length + 1 : Nat) : Int); omega))).1
      refine ⟨_, rfl, st, _, rfl, dLeft hst1, .inl ⟨rfl, _, SqL.of hL1⟩, L, _, 0, 0, _, rfl, rfl, hL1, by decide, by decide, hsq, rfl, ?_⟩
      show ∃ _, _
      obtain ⟨H1, hH1⟩ : ∃ H1, H1 = upd (upd H E1 (.lst [])) L (.lst ((V.ref t :: ys).eraseIdx 0)) := ⟨_, rfl⟩
      have fL : Fr3 st L D H H1 := fun x u _ n2 _ e => by rw [hH1, upd_ne n2]; exact sE _ _ e
      have hL2 : H1 L = some (.lst ys) := by rw [hH1]; exact upd_same
      have hst2 : H1 st = some (.dK (stK L D .non false)) := by rw [hH1, upd_ne nSL]; exact hst1
      have hD2 : H1 D = some (.dK (numsK (rd.take n))) := by rw [hH1, upd_ne nDL]; exact sE _ _ hD
      have ht2 : H1 t = some (.tup [.str (SX.S p.1), .int p.2]) := by rw [hH1, upd_ne nLt]; exact sE _ _ ht
      have hP3 : Prs H1 (rd.drop (n + 1)) ys := hP2.keep (fun b zs e => by
        have nb : b ≠ L := fun z => by rw [z, hL] at e; cases e
        rw [hH1, upd_ne nb]
        exact sE _ _ e)
      rw [← hH1]
      refine ⟨t, _, rfl, SqT.of ht2, rfl, _, _, rfl, _, _, rfl, rfl, ?_⟩
      refine ⟨_, rfl, _, rfl, rfl, _, rfl, ?_⟩
      have hl4 : (stK L D .non false).length < sizeLine := lt_line (by show 4 < 16777216; decide)
      by_cases cp : p.1 = s0
      · refine not_true_eq (decide_eq_true (by rw [cp])) ?_
        have etk : rd.take (n + 1) = rd.take n ++ [(s0, p.2)] := by
          rw [List.take_add_one, e2, ← cp]
          rfl
        refine ⟨_, rfl, _, rfl, st, _, rfl, dHad hst2, _, rfl, D, _, rfl, DPut.k (k := kT (SX.S s0)) hD2 (lt_line (by rw [numsK_len, List.length_take]; omega)), ?_⟩
        rw [nums_put e, ← etk]
        have nLD : L ≠ D := nDL.symm
        have nSD : st ≠ D := fun z => by
          have hD' := hD
          rw [← z, hst] at hD'
          have h1 := HO.dK.inj (Option.some.inj hD')
          cases h2 : rd.take n with
          | nil => rw [h2] at h1; cases h1
          | cons x l =>
            rw [h2] at h1
            have h3 := (List.cons.inj h1).1
            have h4 := congrArg Prod.snd h3
            cases h4
        refine ⟨_, rfl, q1 p.2 (n + 1) _ (lookG_right e e2 cp) (fL.trans fun x u _ _ n3 e => by rw [upd_ne n3]; exact e) ⟨by rw [upd_ne nSD]; exact hst2, ys, by rw [upd_ne nLD]; exact hL2, hP3.keep (fun b zs e => ?_), upd_same⟩⟩
        have nb : b ≠ D := fun z => by rw [z, hD2] at e; cases e
        rw [upd_ne nb]
        exact e
      · refine not_false_eq (decide_eq_false fun z => cp (strS_inj z)) ?_
        refine ⟨_, rfl, st, _, rfl, DPut.k (k := kT "due") hst2 hl4, ?_⟩
        rw [st_put_due]
        refine ⟨_, rfl, st, _, rfl, DPut.k (k := kT "wrong") upd_same hl4, ?_⟩
        rw [st_put_wrong]
        exact q3 .non _ (lookG_bad e e2 cp) (fL.trans fun x u n1 _ _ e => by rw [upd_ne n1, upd_ne n1]; exact e) upd_same
end
/-! ### the law's own going, all of a recipe -/
theorem StL.same {H H' : Hp} {st L D : Addr} {rd : List Pr} {n : Nat} (k : StL H st L D rd n) (s : Same H H') : StL H' st L D rd n := by
  obtain ⟨h1, xs, h2, h3, h4⟩ := k
  exact ⟨s _ _ h1, xs, s _ _ h2, h3.same s, s _ _ h4⟩
def opsK (a b c d : V) : List (Key × V) := [(kT "plus", a), (kT "minus", b), (kT "times", c), (kT "most", d)]
theorem merge_ops (a b c d : V) : mergeK [] (opsK a b c d) = opsK a b c d := by
  have h1 : decide (kT "plus" = kT "minus") = false := by decide +kernel
  have h2 : decide (kT "plus" = kT "times") = false := by decide +kernel
  have h3 : decide (kT "plus" = kT "most") = false := by decide +kernel
  have h4 : decide (kT "minus" = kT "times") = false := by decide +kernel
  have h5 : decide (kT "minus" = kT "most") = false := by decide +kernel
  have h6 : decide (kT "times" = kT "most") = false := by decide +kernel
  simp only [mergeK, opsK, List.foldl_cons, List.foldl_nil, putK, List.any_nil, List.any_cons, List.nil_append, List.cons_append, h1, h2, h3, h4, h5, h6, Bool.or_false, if_neg Bool.false_ne_true]
theorem ops_at (k : Kd) (x y : Int) : valV (opsK (.int (x + y)) (.int (x - y)) (.int (x * y)) (.int (if y > x then y else x))) (kT k.name) = some (.int (k.ap x y)) := by
  unfold opsK
  cases k with
  | plus => exact valV_pos rfl
  | minus => exact (valV_neg (kT_ne (by decide +kernel))).trans (valV_pos rfl)
  | times => exact (valV_neg (kT_ne (by decide +kernel))).trans ((valV_neg (kT_ne (by decide +kernel))).trans (valV_pos rfl))
  | most => exact (valV_neg (kT_ne (by decide +kernel))).trans ((valV_neg (kT_ne (by decide +kernel))).trans ((valV_neg (kT_ne (by decide +kernel))).trans (valV_pos rfl)))
def Small (rd : List Pr) : Prop := ∀ p ∈ rd, Nm p.1 ∧ p.2.natAbs < 2 ^ 400
theorem go_small {rd : List Pr} (hs : Small rd) {r : Rcp} {n m : Nat} {v : Int} (hb : r.Nb) (hd : r.dep ≤ 9) (hn : n ≤ rd.length) (h : go rd r n = .ok v m) : n ≤ m ∧ m ≤ rd.length ∧ ∃ e, 0 < e ∧ e ≤ 204800 ∧ v.natAbs < 2 ^ e := by
  obtain ⟨h1, h2, h3⟩ := go_ok (fun p hp => (hs p hp).2) hb hn h
  have h4 : 2 ^ r.dep ≤ 2 ^ 9 := Nat.pow_le_pow_right (by decide) hd
  have h5 : 1 ≤ 2 ^ r.dep := Nat.one_le_two_pow
  have h6 : (2 : Nat) ^ 9 = 512 := by decide
  exact ⟨h1, h2, 400 * 2 ^ r.dep, by omega, by omega, h3⟩
def spLGone (j : Nat) : Sp := fun vs H Q _ => ∃ (st L D : Addr) (v : V) (r : Rcp) (rd : List Pr) (n : Nat), vs = [v, .ref st] ∧ Rec H r v ∧ r.Nb ∧ r.dep ≤ j ∧ r.dep ≤ 9 ∧ StL H st L D rd n ∧ n ≤ rd.length ∧ rd.length ≤ 1000000 ∧ Small rd ∧ TellL Q rd st L D H (go rd r n)
section
variable {P : Program} {w : World} {K : PySem.W.Frag} {mg : Str → Option Value} {base : Heap}
abbrev s__law_gone : Stmt := topS 59
abbrev N__law_gone : List Str := ["r", "state", "one", "other"]
theorem sc__law_gone : FnScope N__law_gone ["r", "state"] (defScope s__law_gone) := ⟨rfl, rfl, rfl, by decide +kernel, rfl, by decide +kernel, by decide +kernel⟩

theorem ok__law_gone (T : Txt K mg) (D : IsDef K mg "_law_gone" s__law_gone ["r", "state"]) (C_look : Cal P w K mg base CX0 1 "_law_look" ["name", "state"] spLLook) : ∀ j, Cal P w K mg base CX0 (j + 1) "_law_gone" ["r", "state"] (spLGone j)
  | 0 => cal_none D fun vs H Q E h => by
    obtain ⟨_, _, _, _, r, _, _, _, _, _, hd, _⟩ := h
    have := dep_pos r
    omega
  | j + 1 => by
    have C__law_gone := ok__law_gone T D C_look j
    have C__law_look := C_look.mono (show 1 ≤ j + 1 by omega)
    refine D.cal sc__law_gone (fun vs H Q E h => ?_) (fun f cdv A outer s H vs Q E hr h => ?_)
    · obtain ⟨st, L, D, v, r, rd, n, rfl, _⟩ := h
      rfl
    obtain ⟨st, L, D, v, r, rd, n, rfl, hRc, hNb, hd, h9, hS, hn, h100, hsm, q1, q2, q3⟩ := h
    have hu : (cxOf CX0 P w K mg base N__law_gone "_law_gone" (defScope s__law_gone) f cdv A outer s H E).nox.A.units + 1 < cLine := Nat.lt_of_le_of_lt (Nat.add_le_add_left (by decide : 1 ≤ 64) _) hr.units
    have hnm : ∀ p ∈ rd, Nm p.1 := fun p hp => (hsm p hp).1
    refine ⟨_, (pss_cons (ps_if (pt_cmpR op_eq (pe_ix (r := rIxT K) ix_tup (pv 0) pe_int (fun _ _ => rfl)) pe_str (nomark _))
        (pss_one (ps_ret (pe_ix (r := rIxT K) ix_tup (pv 0) pe_int (fun _ _ => rfl))))
        pss_nil)
      (pss_cons (ps_if (pt_cmpR op_eq (pe_ix (r := rIxT K) ix_tup (pv 0) pe_int (fun _ _ => rfl)) pe_str (nomark _))
        (pss_one (ps_ret (pe_cal C__law_look (hr.mono (by first | decide | omega)) pass0 (pa_cons (pe_ix (r := rIxT K) ix_tup (pv 0) pe_int (fun _ _ => rfl)) (pa_cons (pv 1) pa_nil)))))
        pss_nil)
      (pss_cons (ps_set (i := 2) sc__law_gone.nd rfl (Or.inl rfl) (pe_cal C__law_gone (hr.mono (by first | decide | omega)) pass0 (pa_cons (pe_ix (r := rIxT K) ix_tup (pv 0) pe_int (fun _ _ => rfl)) (pa_cons (pv 1) pa_nil))))
      (pss_cons (ps_if (pt_cmpR op_isN (pv 2) pe_non (nomark _))
        (pss_one (ps_ret pe_non))
        pss_nil)
      (pss_cons (ps_if (pt_cmpR op_eq (pe_ix (r := rIxT K) ix_tup (pv 0) pe_int (fun _ _ => rfl)) pe_str (nomark _))
        (pss_one (ps_ret (pe_cal C__law_look (hr.mono (by first | decide | omega)) pass0 (pa_cons (pe_ix (r := rIxT K) ix_tup (pe_ix (r := rIxT K) ix_tup (pv 0) pe_int (fun _ _ => rfl)) (pe_op op_mod (pv 2) (pe_callB call_len_seq (by rfl) T.b_len PySem.boot_len (pa_cons (pe_ix (r := rIxT K) ix_tup (pv 0) pe_int (fun _ _ => rfl)) pa_nil))) (fun _ _ => rfl)) (pa_cons (pv 1) pa_nil)))))
        pss_nil)
      (pss_cons (ps_if (pt_cmpR op_eq (pe_ix (r := rIxT K) ix_tup (pv 0) pe_int (fun _ _ => rfl)) pe_str (nomark _))
        (pss_one (ps_ret (pe_cal C__law_gone (hr.mono (by first | decide | omega)) pass0 (pa_cons (pe_ix (r := rIxL K) ix_list (pe_lst (pa_cons (pe_ix (r := rIxT K) ix_tup (pv 0) pe_int (fun _ _ => rfl)) (pa_cons (pe_ix (r := rIxT K) ix_tup (pv 0) pe_int (fun _ _ => rfl)) pa_nil))) (pe_callTy call_int1 (by rfl) T.b_int (by decide +kernel) (pa_cons (pe_cmpR op_gt (pv 2) pe_int (nomark _)) pa_nil)) (fun _ _ => rfl)) (pa_cons (pv 1) pa_nil)))))
        pss_nil)
      (pss_cons (ps_set (i := 3) sc__law_gone.nd rfl (Or.inl rfl) (pe_cal C__law_gone (hr.mono (by first | decide | omega)) pass0 (pa_cons (pe_ix (r := rIxT K) ix_tup (pv 0) pe_int (fun _ _ => rfl)) (pa_cons (pv 1) pa_nil))))
      (pss_cons (ps_if (pt_cmpR op_isN (pv 3) pe_non (nomark _))
        (pss_one (ps_ret pe_non))
        pss_nil)
      (pss_one (ps_ret (pe_dget hu (pe_disp (pps_cons pe_str (pe_op op_add (pv 2) (pv 3)) (pps_cons pe_str (pe_op op_sub (pv 2) (pv 3)) (pps_cons pe_str (pe_op op_mulW (pv 2) (pv 3)) (pps_cons pe_str (pe_callB (call_max2 rfl) (by rfl) T.b_max (by decide +kernel) (pa_cons (pv 2) (pa_cons (pv 3) pa_nil))) pps_nil)))) (by rfl) (by rfl) (fun z => by cases z) (by decide)) (pe_ix (r := rIxT K) ix_tup (pv 0) pe_int (fun _ _ => rfl)) (fun _ _ => rfl)))))))))))), ?_⟩
    cases r with
    | num x =>
      obtain ⟨p, rfl, hp⟩ := hRc
      refine ⟨_, rfl, p, _, _, _, rfl, rfl, SqT.of hp, rfl, rfl, _, rfl, iteY rfl ?_⟩
      exact ⟨_, rfl, p, _, _, _, rfl, rfl, SqT.of hp, rfl, q1 x n H rfl (Fr3.refl st L D H) hS⟩
    | read s0 =>
      obtain ⟨p, rfl, hp⟩ := hRc
      refine ⟨_, rfl, p, _, _, _, rfl, rfl, SqT.of hp, rfl, rfl, _, rfl, iteN (sne (by decide +kernel)) ?_⟩
      refine ⟨_, rfl, p, _, _, _, rfl, rfl, SqT.of hp, rfl, rfl, _, rfl, iteY rfl ?_⟩
      exact ⟨_, rfl, p, _, _, _, rfl, rfl, SqT.of hp, rfl, _, rfl, st, L, D, s0, rd, n, rfl, hS, hn, h100, hnm, q1, q2, q3⟩
    | two k a b =>
      obtain ⟨p, x, y, rfl, hp, ha, hb⟩ := hRc
      have hd1 : a.dep ≤ j ∧ b.dep ≤ j ∧ a.dep ≤ 9 ∧ b.dep ≤ 9 := by
        have e : (Rcp.two k a b).dep = max a.dep b.dep + 1 := rfl
        omega
      refine ⟨_, rfl, p, _, _, _, rfl, rfl, SqT.of hp, rfl, rfl, _, rfl, iteN (sne (by cases k <;> decide +kernel)) ?_⟩
      refine ⟨_, rfl, p, _, _, _, rfl, rfl, SqT.of hp, rfl, rfl, _, rfl, iteN (sne (by cases k <;> decide +kernel)) ?_⟩
      refine ⟨_, rfl, p, _, _, _, rfl, rfl, SqT.of hp, rfl, _, rfl, st, L, D, x, a, rd, n, rfl, ha, hNb.1, hd1.1, hd1.2.2.1, hS, hn, h100, hsm, ?_⟩
      refine ⟨fun vx m H1 h1 f1 S1 => ?_, fun t a H1 h1 f1 e1 e2 => ⟨_, rfl, rfl, _, rfl, iteY rfl (q2 t a H1 (by show Res.bind _ _ = _; rw [h1]; rfl) f1 e1 e2)⟩, fun due H1 h1 f1 e1 => ⟨_, rfl, rfl, _, rfl, iteY rfl (q3 due H1 (by show Res.bind _ _ = _; rw [h1]; rfl) f1 e1)⟩⟩
      obtain ⟨_, hm, e1, e10, e11, e12⟩ := go_small hsm hNb.1 hd1.2.2.1 hn h1
      have k1 := hS.keep f1
      have hp1 := k1 _ _ hp
      refine ⟨_, rfl, rfl, _, rfl, iteN (fun z => by cases z) ?_⟩
      refine ⟨_, rfl, p, _, _, _, rfl, rfl, SqT.of hp1, rfl, rfl, _, rfl, iteN (sne (by cases k <;> decide +kernel)) ?_⟩
      refine ⟨_, rfl, p, _, _, _, rfl, rfl, SqT.of hp1, rfl, rfl, _, rfl, iteN (sne (by cases k <;> decide +kernel)) ?_⟩
      refine ⟨_, rfl, p, _, _, _, rfl, rfl, SqT.of hp1, rfl, _, rfl, st, L, D, y, b, rd, m, rfl, hb.keep k1, hNb.2, hd1.2.1, hd1.2.2.2, S1, hm, h100, hsm, ?_⟩
      have e0 : go rd (.two k a b) n = (go rd b m).bind fun vy l => .ok (k.ap vx vy) l := by show Res.bind _ _ = _; rw [h1]; rfl
      rw [e0] at q1 q2 q3
      refine ⟨fun vy l H2 h2 f2 S2 => ?_, fun t a H2 h2 f2 g1 g2 => ⟨_, rfl, rfl, _, rfl, iteY rfl (q2 t a H2 (by rw [h2]; rfl) (f1.trans f2) g1 g2)⟩, fun due H2 h2 f2 g1 => ⟨_, rfl, rfl, _, rfl, iteY rfl (q3 due H2 (by rw [h2]; rfl) (f1.trans f2) g1)⟩⟩
      obtain ⟨_, _, d1, d10, d11, d12⟩ := go_small hsm hNb.2 hd1.2.2.2 hm h2
      have hp2 := S1.keep f2 _ _ hp1
      refine ⟨_, rfl, rfl, _, rfl, iteN (fun z => by cases z) ?_⟩
      refine fun dd nd => ⟨_, rfl, _, rfl, _, _, rfl, rfl, _, rfl, _, rfl, _, _, rfl, rfl, _, rfl, _, rfl, _, _, rfl, rfl, wide_mul e12 d12 e10 d10 (by omega), _, rfl, _, rfl, _, _, rfl, upd_same, opsK (.int (vx + vy)) (.int (vx - vy)) (.int (vx * vy)) (.int (if vy > vx then vy else vx)), rfl, (by show 4 ≤ 15; decide), ?_⟩
      rw [merge_ops, upd_upd]
      have sd := same_new nd (.dK (opsK (.int (vx + vy)) (.int (vx - vy)) (.int (vx * vy)) (.int (if vy > vx then vy else vx))))
      have dg : DGet (upd H2 dd (.dK (opsK (.int (vx + vy)) (.int (vx - vy)) (.int (vx * vy)) (.int (if vy > vx then vy else vx))))) dd (.str k.name) (some (.int (k.ap vx vy))) := ops_at k vx vy ▸ DGet.k (k := kT k.name) upd_same
      exact ⟨_, rfl, p, _, _, _, rfl, rfl, SqT.of (sd _ _ hp2), rfl, dd, _, rfl, dg, q1 (k.ap vx vy) l _ (by rw [h2]; rfl) (f1.trans (f2.trans (Fr3.of sd))) (S2.same sd)⟩
    | pick a b c =>
      obtain ⟨p, x, y, z, rfl, hp, ha, hb, hc⟩ := hRc
      have hd1 : a.dep ≤ j ∧ b.dep ≤ j ∧ c.dep ≤ j ∧ a.dep ≤ 9 ∧ b.dep ≤ 9 ∧ c.dep ≤ 9 := by
        have e : (Rcp.pick a b c).dep = max a.dep (max b.dep c.dep) + 1 := rfl
        omega
      refine ⟨_, rfl, p, _, _, _, rfl, rfl, SqT.of hp, rfl, rfl, _, rfl, iteN (sne (by decide +kernel)) ?_⟩
      refine ⟨_, rfl, p, _, _, _, rfl, rfl, SqT.of hp, rfl, rfl, _, rfl, iteN (sne (by decide +kernel)) ?_⟩
      refine ⟨_, rfl, p, _, _, _, rfl, rfl, SqT.of hp, rfl, _, rfl, st, L, D, x, a, rd, n, rfl, ha, hNb.1, hd1.1, hd1.2.2.2.1, hS, hn, h100, hsm, ?_⟩
      refine ⟨fun vx m H1 h1 f1 S1 => ?_, fun t a H1 h1 f1 e1 e2 => ⟨_, rfl, rfl, _, rfl, iteY rfl (q2 t a H1 (by show Res.bind _ _ = _; rw [h1]; rfl) f1 e1 e2)⟩, fun due H1 h1 f1 e1 => ⟨_, rfl, rfl, _, rfl, iteY rfl (q3 due H1 (by show Res.bind _ _ = _; rw [h1]; rfl) f1 e1)⟩⟩
      obtain ⟨_, hm, _⟩ := go_small hsm hNb.1 hd1.2.2.2.1 hn h1
      have k1 := hS.keep f1
      have hp1 := k1 _ _ hp
      have e0 : go rd (.pick a b c) n = if vx > 0 then go rd b m else go rd c m := by show Res.bind _ _ = _; rw [h1]; rfl
      rw [e0] at q1 q2 q3
      refine ⟨_, rfl, rfl, _, rfl, iteN (fun z => by cases z) ?_⟩
      refine ⟨_, rfl, p, _, _, _, rfl, rfl, SqT.of hp1, rfl, rfl, _, rfl, iteN (sne (by decide +kernel)) ?_⟩
      refine ⟨_, rfl, p, _, _, _, rfl, rfl, SqT.of hp1, rfl, rfl, _, rfl, iteY rfl ?_⟩
      refine ⟨_, rfl, p, _, _, _, rfl, rfl, SqT.of hp1, rfl, _, rfl, p, _, _, _, rfl, rfl, SqT.of hp1, rfl, le_line (Nat.le_of_ble_eq_true rfl), fun l nl => ?_⟩
      have sl := same_new nl (.lst [z, y])
      by_cases c0 : vx > 0
      · rw [if_pos c0] at q1 q2 q3
        refine ⟨_, rfl, _, _, rfl, rfl, .inr ⟨_, rfl, l, _, _, y, rfl, rfl, SqL.of upd_same, ?_, _, rfl, st, L, D, y, b, rd, m, rfl, (hb.keep k1).same sl, hNb.2.1, hd1.2.1, hd1.2.2.2.2.1, S1.same sl, hm, h100, hsm, ?_⟩⟩
        · show atI [z, y] (if decide (vx > 0) = true then 1 else 0) = _
          rw [if_pos (decide_eq_true c0)]
          rfl
        · exact ⟨fun v m' H' h f S => q1 v m' H' h (f1.trans ((Fr3.of sl).trans f)) S, fun t a H' h f g1 g2 => q2 t a H' h (f1.trans ((Fr3.of sl).trans f)) g1 g2, fun due H' h f g => q3 due H' h (f1.trans ((Fr3.of sl).trans f)) g⟩
      · rw [if_neg c0] at q1 q2 q3
        refine ⟨_, rfl, _, _, rfl, rfl, .inr ⟨_, rfl, l, _, _, z, rfl, rfl, SqL.of upd_same, ?_, _, rfl, st, L, D, z, c, rd, m, rfl, (hc.keep k1).same sl, hNb.2.2, hd1.2.2.1, hd1.2.2.2.2.2, S1.same sl, hm, h100, hsm, ?_⟩⟩
        · show atI [z, y] (if decide (vx > 0) = true then 1 else 0) = _
          rw [if_neg (fun z => c0 (of_decide_eq_true z))]
          rfl
        · exact ⟨fun v m' H' h f S => q1 v m' H' h (f1.trans ((Fr3.of sl).trans f)) S, fun t a H' h f g1 g2 => q2 t a H' h (f1.trans ((Fr3.of sl).trans f)) g1 g2, fun due H' h f g => q3 due H' h (f1.trans ((Fr3.of sl).trans f)) g⟩
    | choose a ns =>
      obtain ⟨p, x, t2, rfl, hp, ha, ht2⟩ := hRc
      have hd1 : a.dep ≤ j ∧ a.dep ≤ 9 := by
        have e : (Rcp.choose a ns).dep = a.dep + 1 := rfl
        omega
      refine ⟨_, rfl, p, _, _, _, rfl, rfl, SqT.of hp, rfl, rfl, _, rfl, iteN (sne (by decide +kernel)) ?_⟩
      refine ⟨_, rfl, p, _, _, _, rfl, rfl, SqT.of hp, rfl, rfl, _, rfl, iteN (sne (by decide +kernel)) ?_⟩
      refine ⟨_, rfl, p, _, _, _, rfl, rfl, SqT.of hp, rfl, _, rfl, st, L, D, x, a, rd, n, rfl, ha, hNb.1, hd1.1, hd1.2, hS, hn, h100, hsm, ?_⟩
      refine ⟨fun vx m H1 h1 f1 S1 => ?_, fun t a H1 h1 f1 e1 e2 => ⟨_, rfl, rfl, _, rfl, iteY rfl (q2 t a H1 (by show Res.bind _ _ = _; rw [h1]; rfl) f1 e1 e2)⟩, fun due H1 h1 f1 e1 => ⟨_, rfl, rfl, _, rfl, iteY rfl (q3 due H1 (by show Res.bind _ _ = _; rw [h1]; rfl) f1 e1)⟩⟩
      obtain ⟨_, hm, _⟩ := go_small hsm hNb.1 hd1.2 hn h1
      have k1 := hS.keep f1
      have hp1 := k1 _ _ hp
      have ht21 := k1 _ _ ht2
      have e0 : go rd (.choose a ns) n = lookG rd m (nthN ns vx) := by show Res.bind _ _ = _; rw [h1]; rfl
      rw [e0] at q1 q2 q3
      obtain ⟨i, hi, hi2⟩ := nth_mem hNb.2.1 vx
      have hi3 := (List.getElem?_eq_some_iff.mp hi2).1
      refine ⟨_, rfl, rfl, _, rfl, iteN (fun z => by cases z) ?_⟩
      refine ⟨_, rfl, p, _, _, _, rfl, rfl, SqT.of hp1, rfl, rfl, _, rfl, iteY rfl ?_⟩
      refine ⟨_, rfl, p, _, _, _, rfl, rfl, SqT.of hp1, rfl, _, rfl, _, rfl, p, _, _, _, rfl, rfl, SqT.of hp1, rfl, t2, _, rfl, .inr (SqT.of ht21), _, _, rfl, rfl, ?_, t2, _, _, .str (SX.S (nthN ns vx)), rfl, rfl, SqT.of ht21, ?_, _, rfl, st, L, D, nthN ns vx, rd, m, rfl, S1, hm, h100, hnm, ?_⟩
      · show (0 : Int) < ((txs ns).length : Nat)
        rw [txs_len]
        have := hNb.2.1
        omega
      · show atI (txs ns) (vx % (((txs ns).length : Nat) : Int)) = _
        rw [txs_len, hi]
        refine atI_nat ?_
        rw [txs_get hi3, Option.some.inj ((List.getElem?_eq_getElem hi3).symm.trans hi2)]
      · exact ⟨fun v m' H' h f S => q1 v m' H' h (f1.trans f) S, fun t a H' h f g1 g2 => q2 t a H' h (f1.trans f) g1 g2, fun due H' h f g => q3 due H' h (f1.trans f) g⟩
end
/-! ### what is told behind reads; all reads -/
def TellO (Q : VK) (qn : Hp → Prop) (o : Out) (H : Hp) : Prop :=
  (∀ s t H', o = .read s → Same H H' → H' t = some (.tup [.str "read", .str (SX.S s)]) → Q (.ref t) H') ∧ (∀ x t H', o = .worth x → Same H H' → H' t = some (.tup [.str "worth", .int x]) → Q (.ref t) H') ∧ (∀ H', o = .none → Same H H' → qn H')
theorem merge_st (L D : Addr) (due : V) (wr : Bool) : mergeK [] (stK L D due wr) = stK L D due wr := by
  have h1 : decide (kT "left" = kT "had") = false := by decide +kernel
  have h2 : decide (kT "left" = kT "due") = false := by decide +kernel
  have h3 : decide (kT "left" = kT "wrong") = false := by decide +kernel
  have h4 : decide (kT "had" = kT "due") = false := by decide +kernel
  have h5 : decide (kT "had" = kT "wrong") = false := by decide +kernel
  have h6 : decide (kT "due" = kT "wrong") = false := by decide +kernel
  simp only [mergeK, stK, List.foldl_cons, List.foldl_nil, putK, List.any_nil, List.any_cons, List.nil_append, List.cons_append, h1, h2, h3, h4, h5, h6, Bool.or_false, if_neg Bool.false_ne_true]
theorem out_ok {rd : List Pr} {r : Rcp} {v : Int} {m : Nat} (h : go rd r 0 = .ok v m) : outOf rd r = if m < rd.length then .none else .worth v := by unfold outOf; rw [h]
theorem out_lack {rd : List Pr} {r : Rcp} {s : List Nat} (h : go rd r 0 = .lack s) : outOf rd r = .read s := by unfold outOf; rw [h]
theorem out_bad {rd : List Pr} {r : Rcp} (h : go rd r 0 = .bad) : outOf rd r = .none := by unfold outOf; rw [h]
def spLBehind : Sp := fun vs H Q _ => ∃ (v : V) (R : Addr) (r : Rcp) (rd : List Pr) (xs : List V), vs = [v, .ref R] ∧ Rec H r v ∧ r.Nb ∧ r.dep ≤ 9 ∧ H R = some (.lst xs) ∧ Prs H rd xs ∧ rd.length ≤ 1000000 ∧ Small rd ∧ TellO Q (fun H' => Q .non H') (outOf rd r) H
section
variable {P : Program} {w : World} {K : PySem.W.Frag} {mg : Str → Option Value} {base : Heap}
abbrev s__law_behind : Stmt := topS 60
abbrev N__law_behind : List Str := ["r", "reads", "state", "worth"]
theorem sc__law_behind : FnScope N__law_behind ["r", "reads"] (defScope s__law_behind) := ⟨rfl, rfl, rfl, by decide +kernel, rfl, by decide +kernel, by decide +kernel⟩

theorem ok__law_behind (T : Txt K mg) (D : IsDef K mg "_law_behind" s__law_behind ["r", "reads"]) (C__law_gone : Cal P w K mg base CX0 10 "_law_gone" ["r", "state"] (spLGone 9)) : Cal P w K mg base CX0 11 "_law_behind" ["r", "reads"] spLBehind := by
  refine D.cal sc__law_behind (fun vs H Q E h => ?_) (fun f cdv A outer s H vs Q E hr h => ?_)
  · obtain ⟨v, R, r, rd, xs, rfl, _⟩ := h
    rfl
  obtain ⟨v, R, r, rd, xs, rfl, hRc, hNb, h9, hR, hP, h100, hsm, q1, q2, q3⟩ := h
  have hu : (cxOf CX0 P w K mg base N__law_behind "_law_behind" (defScope s__law_behind) f cdv A outer s H E).nox.A.units + 1 < cLine := Nat.lt_of_le_of_lt (Nat.add_le_add_left (by decide : 1 ≤ 64) _) hr.units
  refine ⟨_, (pss_cons (ps_set (i := 2) sc__law_behind.nd rfl (Or.inl rfl) (pe_disp (pps_cons pe_str (pe_callTy call_list_of (by rfl) T.b_list (by decide +kernel) (pa_cons (pv 1) pa_nil)) (pps_cons pe_str pe_dnewK (pps_cons pe_str pe_non (pps_cons pe_str pe_bl pps_nil)))) (by rfl) (by rfl) (fun z => by cases z) (by decide)))
      (pss_cons (ps_set (i := 3) sc__law_behind.nd rfl (Or.inl rfl) (pe_cal C__law_gone (hr.mono (by first | decide | omega)) pass0 (pa_cons (pv 0) (pa_cons (pv 2) pa_nil))))
      (pss_cons (ps_if (PW.pt (pw_or (pt_val (pe_dget hu (pv 2) pe_str (fun _ _ => rfl))) (pw_or1 (PW.pt (pw_and (pt_cmpR op_isN (pe_dget hu (pv 2) pe_str (fun _ _ => rfl)) pe_non (nomark _)) (pw_and1 (pt_cmpR (op_neD hr.units) (pe_dget hu (pv 2) pe_str (fun _ _ => rfl)) (pe_lst pa_nil) (nomark _))))))))
        (pss_one (ps_ret pe_non))
        pss_nil)
      (pss_cons (ps_if (pt_cmpR op_notN (pe_dget hu (pv 2) pe_str (fun _ _ => rfl)) pe_non (nomark _))
        (pss_one (ps_ret (pe_dget hu (pv 2) pe_str (fun _ _ => rfl))))
        pss_nil)
      (pss_one (ps_ret (pe_tup (pa_cons pe_str (pa_cons (pv 3) pa_nil))))))))), ?_⟩
  have dLeft : ∀ {st L D : Addr} {H : Hp} {due : V} {wr : Bool}, H st = some (.dK (stK L D due wr)) → DGet H st (.str "left") (some (.ref L)) := fun h => st_left _ _ _ _ ▸ DGet.k (k := kT "left") h
  have dDue : ∀ {st L D : Addr} {H : Hp} {due : V} {wr : Bool}, H st = some (.dK (stK L D due wr)) → DGet H st (.str "due") (some due) := fun h => st_due _ _ _ _ ▸ DGet.k (k := kT "due") h
  have dWrong : ∀ {st L D : Addr} {H : Hp} {due : V} {wr : Bool}, H st = some (.dK (stK L D due wr)) → DGet H st (.str "wrong") (some (.bl wr)) := fun h => st_wrong _ _ _ _ ▸ DGet.k (k := kT "wrong") h
  refine fun st nst => ⟨_, rfl, R, _, rfl, .inl (SqL.of (same_new nst _ _ _ hR)), fun L nL => fun D nD => ?_⟩
  have s1 := same_new nst (.dK [])
  have s2 := same_new nL (.lst xs)
  have s3 := same_new nD (.dK [])
  refine ⟨s3 _ _ (s2 _ _ upd_same), stK L D .non false, rfl, (by show 4 ≤ 15; decide), ?_⟩
  rw [merge_st]
  obtain ⟨H1, hH1⟩ : ∃ H1, H1 = upd (upd (upd (upd H st (.dK [])) L (.lst xs)) D (.dK [])) st (.dK (stK L D .non false)) := ⟨_, rfl⟩
  have sH : Same H H1 := by rw [hH1]; exact same_upd (s1.trans (s2.trans s3)) nst _
  have nLst : L ≠ st := fun z => by rw [z, upd_same] at nL; cases nL
  have nDst : D ≠ st := fun z => by
    rw [z] at nD
    have := s2 _ _ (upd_same (H := H) (a := st) (o := .dK []))
    rw [this] at nD
    cases nD
  have nDL : L ≠ D := ne_of_none upd_same nD
  have hst1 : H1 st = some (.dK (stK L D .non false)) := by rw [hH1]; exact upd_same
  have hL1 : H1 L = some (.lst xs) := by rw [hH1, upd_ne nLst]; exact s3 _ _ upd_same
  have hD1 : H1 D = some (.dK (numsK (rd.take 0))) := by rw [hH1, upd_ne nDst]; exact upd_same
  have n0L : H L = none := s1.free nL
  have n0D : H D = none := (s1.trans s2).free nD
  rw [← hH1]
  have fin : ∀ {H' : Hp}, Fr3 st L D H1 H' → Same H H' := fun {H'} f b u e => f b u (fun z => by rw [z, nst] at e; cases e) (fun z => by rw [z, n0L] at e; cases e) (fun z => by rw [z, n0D] at e; cases e) (sH _ _ e)
  refine ⟨_, rfl, _, rfl, st, L, D, v, r, rd, 0, rfl, hRc.same sH, hNb, h9, h9, ⟨hst1, xs, hL1, by rw [List.drop_zero]; exact hP.same sH, hD1⟩, Nat.zero_le _, h100, hsm, ?_, ?_, ?_⟩
  · rintro x m H2 h2 f2 ⟨hst2, ys, hL2, hP2, hD2⟩
    have hml := (go_small hsm hNb h9 (Nat.zero_le _) h2).2.1
    refine ⟨_, rfl, st, _, rfl, dWrong hst2, _, rfl, iteF ?_⟩
    refine ⟨_, rfl, st, _, rfl, dDue hst2, rfl, _, rfl, iteY rfl ?_⟩
    refine ⟨_, rfl, st, _, rfl, dLeft hst2, le_line (Nat.le_of_ble_eq_true rfl), fun E1 nE => ?_⟩
    have sE := same_new nE (.lst [])
    have dl : Data (upd H2 E1 (.lst [])) (.lst ((rd.drop m).map pairTh)) (.ref L) := ⟨L, _, rfl, sE _ _ hL2, (hP2.same sE).data⟩
    refine ⟨_, _, Data.dp (t := .lst ((rd.drop m).map pairTh)) (prs_flat _) dl, .lst (SqL.of upd_same) .nil, prs_shaped fun p hp => (hsm p (List.mem_of_mem_drop hp)).1, rfl, _, rfl, ?_⟩
    have eqv0 : PyData.eqv (.list (Th.pyL ((rd.drop m).map pairTh))) (.list []) = decide (¬ m < rd.length) := by
      by_cases c : m < rd.length
      · rw [List.drop_eq_getElem_cons c, decide_eq_false (fun z => z c)]
        rfl
      · rw [List.drop_eq_nil_of_le (by omega), decide_eq_true c]
        rfl
    rw [show (Th.lst ((rd.drop m).map pairTh)).py = .list (Th.pyL ((rd.drop m).map pairTh)) from rfl, eqv0]
    by_cases c : m < rd.length
    · refine not_false_eq (decide_eq_false (fun z => z c)) ?_
      exact q3 _ ((out_ok h2).trans (if_pos c)) ((fin f2).trans sE)
    · refine not_true_eq (decide_eq_true c) ?_
      refine ⟨_, rfl, st, _, rfl, dDue (sE _ _ hst2), rfl, _, rfl, not_true_eq (decide_eq_true rfl) ?_⟩
      refine ⟨_, rfl, le_line (Nat.le_of_ble_eq_true rfl), fun t nt => ?_⟩
      exact q2 x t _ ((out_ok h2).trans (if_neg c)) ((fin f2).trans (sE.trans (same_new nt _))) upd_same
  · intro s0 a H2 h2 f2 hst2 ha
    refine ⟨_, rfl, st, _, rfl, dWrong hst2, _, rfl, iteF ?_⟩
    refine ⟨_, rfl, st, _, rfl, dDue hst2, rfl, _, rfl, iteN (fun z => by cases z) ?_⟩
    refine iteF ⟨_, rfl, st, _, rfl, dDue hst2, rfl, _, rfl, not_false_eq (decide_eq_false fun z => by cases z) ?_⟩
    exact ⟨_, rfl, st, _, rfl, dDue hst2, q1 s0 a H2 (out_lack h2) (fin f2) ha⟩
  · intro due H2 h2 f2 hst2
    refine ⟨_, rfl, st, _, rfl, dWrong hst2, _, rfl, iteT ?_⟩
    exact q3 H2 (out_bad h2) (fin f2)
end
/-! ### all reads, by the numbers at hand -/
theorem sub_len {α : Type} [DecidableEq α] : ∀ {l m : List α}, l.Nodup → (∀ x ∈ l, x ∈ m) → l.length ≤ m.length
  | [], _, _, _ => Nat.zero_le _
  | a :: l, m, nd, h => by
    obtain ⟨h1, h2⟩ := List.nodup_cons.mp nd
    have ha := h a (List.mem_cons_self ..)
    have := sub_len (m := m.erase a) h2 fun x hx => (List.mem_erase_of_ne (fun e => h1 (by rw [← e]; exact hx))).mpr (h x (List.mem_cons_of_mem _ hx))
    rw [List.length_erase_of_mem ha] at this
    have : 0 < m.length := List.length_pos_of_mem ha
    show l.length + 1 ≤ m.length
    omega
theorem out_next {rd : List Pr} {r : Rcp} {s : List Nat} (w : Int) (h : outOf rd r = .read s) : go rd r 0 = .lack s ∧ ((∃ t, outOf (rd ++ [(s, w)]) r = .read t) ∨ ∃ v, outOf (rd ++ [(s, w)]) r = .worth v) := by
  have hg : go rd r 0 = .lack s := by
    unfold outOf at h
    cases e : go rd r 0 with
    | ok v n =>
      rw [e] at h
      by_cases c : n < rd.length
      · simp only [if_pos c] at h; cases h
      · simp only [if_neg c] at h; cases h
    | lack t => rw [e] at h; cases h; rfl
    | bad => rw [e] at h; cases h
  refine ⟨hg, ?_⟩
  rcases go_next w (Nat.zero_le _) hg with ⟨v, hv⟩ | ⟨t, ht⟩
  · exact .inr ⟨v, (out_ok hv).trans (if_neg (by omega))⟩
  · exact .inl ⟨t, out_lack ht⟩
theorem out_first (r : Rcp) : (∃ t, outOf [] r = .read t) ∨ ∃ v, outOf [] r = .worth v := by
  rcases go_end (rd := []) (r := r) with ⟨v, hv⟩ | ⟨t, ht⟩
  · exact .inr ⟨v, (out_ok hv).trans (if_neg (by show ¬ 0 < 0; omega))⟩
  · exact .inl ⟨t, out_lack ht⟩
/-- what is due stands in a tuple -/
def DueAt (H : Hp) (d : V) (o : Out) : Prop := (∃ t s, d = .ref t ∧ o = .read s ∧ H t = some (.tup [.str "read", .str (SX.S s)])) ∨ ∃ t x, d = .ref t ∧ o = .worth x ∧ H t = some (.tup [.str "worth", .int x])
structure Gone (r : Rcp) (ν : List Nat → Int) (rd : List Pr) : Prop where
  sm : Small rd
  nd : (rd.map (·.1)).Nodup
  mem : ∀ p ∈ rd, p.1 ∈ r.nms
  val : ∀ p ∈ rd, p.2 = ν p.1
def spLAll : Sp := fun vs H Q _ => ∃ (v : V) (N : Addr) (r : Rcp) (nums : List (Key × V)) (ν : List Nat → Int) (ns : List (List Nat)), vs = [v, .ref N] ∧ Rec H r v ∧ r.Nb ∧ r.dep ≤ 9 ∧ H N = some (.dK nums) ∧ (∀ s ∈ r.nms, s ∈ ns ∧ valV nums (kT (SX.S s)) = some (.int (ν s)) ∧ (ν s).natAbs < 2 ^ 400) ∧ ns.length ≤ 90 ∧
  ∀ (H' : Hp) (t R : Addr) (xs : List V) (rd : List Pr) (x : Int), Same H H' → H' t = some (.tup [.ref R, .int x]) → H' R = some (.lst xs) → Prs H' rd xs → outOf rd r = .worth x → Gone r ν rd → rd.length ≤ 90 → Q (.ref t) H'
section
variable {P : Program} {w : World} {K : PySem.W.Frag} {mg : Str → Option Value} {base : Heap}
abbrev s__law_all_reads : Stmt := topS 61
abbrev N__law_all_reads : List Str := ["r", "numbers", "reads", "due"]
theorem sc__law_all_reads : FnScope N__law_all_reads ["r", "numbers"] (defScope s__law_all_reads) := ⟨rfl, rfl, rfl, by decide +kernel, rfl, by decide +kernel, by decide +kernel⟩

theorem ok__law_all_reads (T : Txt K mg) (D : IsDef K mg "_law_all_reads" s__law_all_reads ["r", "numbers"]) (C__law_behind : Cal P w K mg base CX0 11 "_law_behind" ["r", "reads"] spLBehind) : Cal P w K mg base CX0 12 "_law_all_reads" ["r", "numbers"] spLAll := by
  refine D.cal sc__law_all_reads (fun vs H Q E h => ?_) (fun f cdv A outer s H vs Q E hr h => ?_)
  · obtain ⟨v, N, r, nums, ν, ns, rfl, _⟩ := h
    rfl
  obtain ⟨v, N, r, nums, ν, ns, rfl, hRc, hNb, h9, hN, hA, h90, q⟩ := h
  have hu : (cxOf CX0 P w K mg base N__law_all_reads "_law_all_reads" (defScope s__law_all_reads) f cdv A outer s H E).nox.A.units + 1 < cLine := Nat.lt_of_le_of_lt (Nat.add_le_add_left (by decide : 1 ≤ 64) _) hr.units
  refine ⟨_, (pss_cons (ps_set (i := 2) sc__law_all_reads.nd rfl (Or.inl rfl) (pe_lst pa_nil))
      (pss_cons (ps_set (i := 3) sc__law_all_reads.nd rfl (Or.inl rfl) (pe_cal C__law_behind (hr.mono (by first | decide | omega)) pass0 (pa_cons (pv 0) (pa_cons (pv 2) pa_nil))))
      (pss_cons (ps_while PassesOwn.never (pt_cmpR op_eq (pe_ix (r := rIxT K) ix_tup (pv 3) pe_int (fun _ _ => rfl)) pe_str (nomark _))
        (pss_cons (ps_expr (pe_bm PySem.F.plainAttrs_list PySem.F.slot_list_append PySem.F.type_list_append mt_append (pv 2) (pa_cons (pe_tup (pa_cons (pe_ix (r := rIxT K) ix_tup (pv 3) pe_int (fun _ _ => rfl)) (pa_cons (pe_dget hu (pv 1) (pe_ix (r := rIxT K) ix_tup (pv 3) pe_int (fun _ _ => rfl)) (fun _ _ => rfl)) pa_nil))) pa_nil)))
      (pss_one (ps_set (i := 3) sc__law_all_reads.nd rfl (Or.inl rfl) (pe_cal C__law_behind (hr.mono (by first | decide | omega)) pass0 (pa_cons (pv 0) (pa_cons (pv 2) pa_nil)))))))
      (pss_one (ps_ret (pe_tup (pa_cons (pv 2) (pa_cons (pe_ix (r := rIxT K) ix_tup (pv 3) pe_int (fun _ _ => rfl)) pa_nil)))))))), ?_⟩
  refine ⟨le_line (Nat.le_of_ble_eq_true rfl), fun R nR => ?_⟩
  have sR := same_new nR (.lst [])
  have low : ∀ {rd : List Pr}, Gone r ν rd → rd.length ≤ ns.length := fun {rd} g => by
    have := sub_len (m := ns) g.nd fun s hs => by
      obtain ⟨p, hp, e⟩ := List.mem_map.mp hs
      rw [← e]
      exact (hA _ (g.mem p hp)).1
    rw [List.length_map] at this
    exact this
  -- a call of _law_behind: what is due is told
  have tell : ∀ {H1 : Hp} {rd : List Pr} {xs : List V} {Q1 : VK}, ((∃ t, outOf rd r = .read t) ∨ ∃ x, outOf rd r = .worth x) → (∀ d H', Same H1 H' → DueAt H' d (outOf rd r) → Q1 d H') → TellO Q1 (fun H' => Q1 .non H') (outOf rd r) H1 := fun {H1 rd xs Q1} ho k =>
    ⟨fun s t H' e s1 ht => k _ H' s1 (.inl ⟨t, s, rfl, e, ht⟩), fun x t H' e s1 ht => k _ H' s1 (.inr ⟨t, x, rfl, e, ht⟩), fun H' e _ => by
      rcases ho with ⟨t, h⟩ | ⟨x, h⟩
      · rw [h] at e; cases e
      · rw [h] at e; cases e⟩
  refine ⟨_, rfl, _, rfl, v, R, r, [], [], rfl, hRc.same sR, hNb, h9, upd_same, trivial, Nat.zero_le _, fun _ h => (nomatch h), tell (xs := []) (out_first r) fun d H1 hs1 hd => ?_⟩
  refine ⟨fun m σ H' => ∃ (d : V) (rd : List Pr) (xs : List V), σ = [some v, some (.ref N), some (.ref R), some d] ∧ Same H H' ∧ H' R = some (.lst xs) ∧ Prs H' rd xs ∧ DueAt H' d (outOf rd r) ∧ Gone r ν rd ∧ m = ns.length - rd.length,
    ⟨_, d, [], [], rfl, sR.trans hs1, hs1 _ _ upd_same, trivial, hd, ⟨fun _ h => (nomatch h), List.nodup_nil, fun _ h => (nomatch h), fun _ h => (nomatch h)⟩, rfl⟩, ?_⟩
  rintro m σ H2 ⟨d, rd, xs, rfl, hs2, hR2, hP2, hd2, hg, rfl⟩
  have hrl := low hg
  have hxl := hP2.len
  rcases hd2 with ⟨t, s0, rfl, ho, ht⟩ | ⟨t, x, rfl, ho, ht⟩
  · obtain ⟨hgo, hnext⟩ := out_next (ν s0) ho
    obtain ⟨hmem, hseen⟩ := go_name hNb (Nat.zero_le _) hgo
    obtain ⟨hns, hval, hsm⟩ := hA s0 hmem
    have hg2 : Gone r ν (rd ++ [(s0, ν s0)]) := by
      refine ⟨fun p hp => ?_, ?_, fun p hp => ?_, fun p hp => ?_⟩
      · rcases List.mem_append.mp hp with h | h
        · exact hg.sm p h
        · rw [List.mem_singleton.mp h]; exact ⟨nms_ok hNb s0 hmem, hsm⟩
      · rw [List.map_append]
        refine List.nodup_append.mpr ⟨hg.nd, by simp, fun a ha b hb e => ?_⟩
        rw [List.mem_singleton.mp hb] at e
        have e' : a = s0 := e
        exact seen_none hseen (by rw [← e']; exact ha)
      · rcases List.mem_append.mp hp with h | h
        · exact hg.mem p h
        · rw [List.mem_singleton.mp h]; exact hmem
      · rcases List.mem_append.mp hp with h | h
        · exact hg.val p h
        · rw [List.mem_singleton.mp h]
    have hrl2 := low hg2
    rw [List.length_append] at hrl2
    have hrl3 : rd.length + 1 ≤ ns.length := hrl2
    have hN2 := hs2 _ _ hN
    have dg : DGet H2 N (.str (SX.S s0)) (some (.int (ν s0))) := hval ▸ DGet.k (k := kT (SX.S s0)) hN2
    refine ⟨_, rfl, t, _, _, _, rfl, rfl, SqT.of ht, rfl, rfl, _, rfl, iteY rfl ?_⟩
    refine ⟨_, fun σ' H' h => h, ?_⟩
    refine ⟨_, rfl, .inl ⟨rfl, _, SqL.of hR2⟩, _, rfl, t, _, _, _, rfl, rfl, SqT.of ht, rfl, _, rfl, _, rfl, t, _, _, _, rfl, rfl, SqT.of ht, rfl, N, _, rfl, dg, le_line (Nat.le_of_ble_eq_true rfl), fun u nu => ?_⟩
    have su := same_new nu (.tup [.str (SX.S s0), .int (ν s0)])
    refine ⟨R, _, _, rfl, rfl, su _ _ hR2, lt_line (by omega), ?_⟩
    obtain ⟨H3, hH3⟩ : ∃ H3, H3 = upd (upd H2 u (.tup [.str (SX.S s0), .int (ν s0)])) R (.lst (xs ++ [.ref u])) := ⟨_, rfl⟩
    have hs3 : Same H H3 := by rw [hH3]; exact same_upd (hs2.trans su) nR _
    have hR3 : H3 R = some (.lst (xs ++ [.ref u])) := by rw [hH3]; exact upd_same
    have hP3 : Prs H3 (rd ++ [(s0, ν s0)]) (xs ++ [.ref u]) := by rw [hH3]; exact (Prs.snoc (p := (s0, ν s0)) upd_same (hP2.same su)).keep (keep_lst (su _ _ hR2))
    rw [← hH3]
    refine ⟨_, rfl, _, rfl, v, R, r, rd ++ [(s0, ν s0)], _, rfl, hRc.same hs3, hNb, h9, hR3, hP3, by rw [List.length_append]; show rd.length + 1 ≤ 1000000; omega, hg2.sm, tell (xs := []) hnext fun d H4 hs4 hd4 => ?_⟩
    exact ⟨_, by rw [List.length_append]; show ns.length - (rd.length + 1) < _; omega, d, rd ++ [(s0, ν s0)], _, rfl, hs3.trans hs4, hs4 _ _ hR3, hP3.same hs4, hd4, hg2, rfl⟩
  · refine ⟨_, rfl, t, _, _, _, rfl, rfl, SqT.of ht, rfl, rfl, _, rfl, iteN (sne (by decide +kernel)) ?_⟩
    refine ⟨_, rfl, _, rfl, t, _, _, _, rfl, rfl, SqT.of ht, rfl, le_line (Nat.le_of_ble_eq_true rfl), fun u nu => ?_⟩
    have su := same_new nu (.tup [.ref R, .int x])
    exact q _ u R xs rd x (hs2.trans su) upd_same (su _ _ hR2) (hP2.same su) ho hg (by omega)
end
/-! ### defs that raise, an own error class without a word of its own -/
theorem IsDef.calX2 {P : Program} {w : World} {K : PySem.W.Frag} {mg : Str → Option Value} {base : Heap} {x : Str} {st : Stmt} {N ps : List Str} {k : Nat} {sp : Sp} (D : IsDef K mg x st ps) (S : FnScope N ps (defScope st)) (len : ∀ vs H Q E, sp vs H Q E → vs.length = ps.length)
    (hbody : ∀ (f : Addr) (cdv : Value) (A : Around) (outer : List Env) (s : Shared) (H : Hp) (vs : List V) (Q : VK) (E : XK), Room k (A.deeper (envOfC x (defScope st) s.heap.objs.size f cdv)) → sp vs H Q E →
      ∃ t, PSs (cxOf (L2.CX P w) P w K mg base N x (defScope st) f cdv A outer s H E) (defBody st) t ∧ t { nx := fun _ H' => Q .non H', rt := Q } (start N vs) H) : Cal P w K mg base (L2.CX P w) (k + 1) x ps sp := by
  obtain ⟨f, fd, F, m, b⟩ := D
  exact ⟨f, fd, F.okX S len fun cdv A outer s H vs Q E => hbody f cdv A outer s H vs Q E, m, F.kp, b⟩
structure NoX (K : PySem.W.Frag) (mg : Str → Option Value) (n : Str) (C : Addr) : Prop where
  x : PySem.W.excIn K C [.type "ValueError", .type "Exception", .type "BaseException", .type "object"] "ValueError.__new__" = true
  g : mg n = some (.ref C)
  k : PySem.W.keepIn K (.ref C) = true
  b : PySem.W.subIn K (.ref C) (.type "BaseException") = some true
  t : PySem.W.typeIn K (.ref C) = some (.type "type")
theorem call_isXK {X : Cx} {K : PySem.W.Frag} (h : X.K = K) : CallR X (.builtin "isinstance") (rIsX K) := by
  subst h
  exact call_isX
/-! ### own classes: methods by their promises -/
/-- the method m of the class at C stands in the text as st says -/
def IsMet (K : PySem.W.Frag) (C : Addr) (m nm : Str) (st : Stmt) (ps : List Str) : Prop := ∃ (f : Addr) (fd : FuncData), Fun K m nm st f fd ∧ Meth K C m f ∧ Binds K fd ps []
def Met (P : Program) (w : World) (K : PySem.W.Frag) (mg : Str → Option Value) (base : Heap) (CX : CXT) (k : Nat) (C : Addr) (m : Str) (ps : List Str) (sp : Sp) : Prop := ∃ (f : Addr) (fd : FuncData), FnOk P w K mg base CX k f fd ps sp ∧ Meth K C m f ∧ Binds K fd ps []
section
variable {P : Program} {w : World} {K : PySem.W.Frag} {mg : Str → Option Value} {base : Heap} {C : Addr}
theorem Met.mono {CX : CXT} {j k : Nat} {m : Str} {ps : List Str} {sp : Sp} (c : Met P w K mg base CX j C m ps sp) (h : j ≤ k) : Met P w K mg base CX k C m ps sp := by
  obtain ⟨f, fd, F, r⟩ := c
  exact ⟨f, fd, F.mono h, r⟩
theorem met_none {m nm : Str} {st : Stmt} {ps : List Str} {sp : Sp} {CX : CXT} {k : Nat} (D : IsMet K C m nm st ps) (no : ∀ vs H Q E, ¬ sp vs H Q E) : Met P w K mg base CX k C m ps sp := by
  obtain ⟨f, fd, F, m, b⟩ := D
  exact ⟨f, fd, ⟨fun vs H Q E h => absurd h (no vs H Q E), fun A outer s H args us vs Q E _ _ _ _ h => absurd h (no vs H Q E)⟩, m, b⟩
theorem IsMet.met {m nm : Str} {st : Stmt} {N ps : List Str} {k : Nat} {sp : Sp} (D : IsMet K C m nm st ps) (S : FnScope N ps (defScope st)) (len : ∀ vs H Q E, sp vs H Q E → vs.length = ps.length)
    (hbody : ∀ (f : Addr) (cdv : Value) (A : Around) (outer : List Env) (s : Shared) (H : Hp) (vs : List V) (Q : VK) (E : XK), Room k (A.deeper (envOfC nm (defScope st) s.heap.objs.size f cdv)) → sp vs H Q E →
      ∃ t, PSs (cxOf CX0 P w K mg base N nm (defScope st) f cdv A outer s H E).nox (defBody st) t ∧ t { nx := fun _ H' => Q .non H', rt := Q } (start N vs) H) : Met P w K mg base CX0 (k + 1) C m ps sp := by
  obtain ⟨f, fd, F, m, b⟩ := D
  exact ⟨f, fd, F.ok S len fun cdv A outer s H vs Q E => hbody f cdv A outer s H vs Q E, m, b⟩
theorem IsMet.metX {m nm : Str} {st : Stmt} {N ps : List Str} {k : Nat} {sp : Sp} (D : IsMet K C m nm st ps) (S : FnScope N ps (defScope st)) (len : ∀ vs H Q E, sp vs H Q E → vs.length = ps.length)
    (hbody : ∀ (f : Addr) (cdv : Value) (A : Around) (outer : List Env) (s : Shared) (H : Hp) (vs : List V) (Q : VK) (E : XK), Room k (A.deeper (envOfC nm (defScope st) s.heap.objs.size f cdv)) → sp vs H Q E →
      ∃ t, PSs (cxOf (L2.CX P w) P w K mg base N nm (defScope st) f cdv A outer s H E) (defBody st) t ∧ t { nx := fun _ H' => Q .non H', rt := Q } (start N vs) H) : Met P w K mg base (L2.CX P w) (k + 1) C m ps sp := by
  obtain ⟨f, fd, F, m, b⟩ := D
  exact ⟨f, fd, F.okX S len fun cdv A outer s H vs Q E => hbody f cdv A outer s H vs Q E, m, b⟩
end
/-! ### the class Going -/
structure GoT (K : PySem.W.Frag) (mg : Str → Option Value) (C fI : Addr) : Prop where
  cl : Cls K C
  nR : NoAttr K C "reads"
  nH : NoAttr K C "had"
  nL : NoAttr K C "lacking"
  g : mg "Going" = some (.ref C)
  mkI : Mk K C fI
def ObG (H : Hp) (g C R D : Addr) (lk : V) : Prop := ∃ dx fs, H g = some (.ins C dx fs) ∧ fs.lookup ("reads" : Str) = some (.ref R) ∧ fs.lookup ("had" : Str) = some (.ref D) ∧ fs.lookup ("lacking" : Str) = some lk ∧
  fs.lookup ("look" : Str) = none ∧ fs.lookup ("worth" : Str) = none ∧ fs.lookup ("two" : Str) = none ∧ fs.length = 3
theorem ObG.same {H H' : Hp} {g C R D : Addr} {lk : V} (h : ObG H g C R D lk) (s : H' g = H g) : ObG H' g C R D lk := by
  obtain ⟨dx, fs, h1, h2⟩ := h
  exact ⟨dx, fs, s.trans h1, h2⟩
theorem putF_len {f : Str} {v x : V} : ∀ {fs : List (Str × V)}, fs.lookup f = some x → (putF f v fs).length = fs.length
  | [], h => by cases h
  | (g, y) :: r, h => by
    unfold putF
    by_cases c : g = f
    · rw [if_pos c]
      rfl
    · rw [if_neg c]
      have hb : (f == g) = false := beq_eq_false_iff_ne.mpr fun z => c z.symm
      have h' : r.lookup f = some x := by
        rw [List.lookup, hb] at h
        exact h
      show (putF f v r).length + 1 = r.length + 1
      rw [putF_len h']
theorem ObG.lack {H : Hp} {g C R D : Addr} {lk : V} (h : ObG H g C R D lk) (x : V) : ∃ dx fs, H g = some (.ins C dx fs) ∧ fs.length < 1000 ∧ ObG (upd H g (.ins C dx (putF "lacking" x fs))) g C R D x := by
  obtain ⟨dx, fs, h1, h2, h3, h4, h5, h6, h7, h8⟩ := h
  refine ⟨dx, fs, h1, by omega, dx, putF "lacking" x fs, upd_same, ?_, ?_, ?_, ?_, ?_, ?_, ?_⟩
  · rw [lookup_putF, if_neg (by decide +kernel)]; exact h2
  · rw [lookup_putF, if_neg (by decide +kernel)]; exact h3
  · rw [lookup_putF, if_pos rfl]
  · rw [lookup_putF, if_neg (by decide +kernel)]; exact h5
  · rw [lookup_putF, if_neg (by decide +kernel)]; exact h6
  · rw [lookup_putF, if_neg (by decide +kernel)]; exact h7
  · rw [putF_len h4]; exact h8
def Fr2 (a b : Addr) (H H' : Hp) : Prop := ∀ x u, x ≠ a → x ≠ b → H x = some u → H' x = some u
theorem Fr2.refl (a b : Addr) (H : Hp) : Fr2 a b H H := fun _ _ _ _ e => e
theorem Fr2.trans {a b : Addr} {A B C : Hp} (h : Fr2 a b A B) (k : Fr2 a b B C) : Fr2 a b A C := fun x u n m e => k x u n m (h x u n m e)
theorem Fr2.of {a b : Addr} {A B : Hp} (h : Same A B) : Fr2 a b A B := fun x u _ _ e => h x u e
/-- a Going in the work: n reads of rd were looked for -/
def StG (C : Addr) (H : Hp) (g R D : Addr) (rd : List Pr) (n : Nat) : Prop := ObG H g C R D .non ∧ H D = some (.dK (numsK (rd.take n))) ∧ ∃ xs, H R = some (.lst xs) ∧ Prs H rd xs
theorem StG.keep {C : Addr} {H H' : Hp} {g R D : Addr} {rd : List Pr} {n : Nat} (k : StG C H g R D rd n) (f : Fr2 g D H H') : Keep H H' := by
  obtain ⟨⟨dx, fs, h1, _⟩, h2, _⟩ := k
  exact fun b ys e => f b _ (fun z => by rw [z, h1] at e; cases e) (fun z => by rw [z, h2] at e; cases e) e
def TellG (Q : VK) (E : XK) (C CN : Addr) (rd : List Pr) (g R D : Addr) (H : Hp) (res : Res) : Prop :=
  (∀ v m H', res = .ok v m → Fr2 g D H H' → StG C H' g R D rd m → Q (.int v) H') ∧
  (∀ t H', res = .lack t → Fr2 g D H H' → ObG H' g C R D (.str (SX.S t)) → Q .non H') ∧
  (∀ H', res = .bad → Fr2 g D H H' → E (.ref CN) none H')
def spGInit (C : Addr) : Sp := fun vs H Q _ => ∃ (g R dx : Addr), vs = [.ref g, .ref R] ∧ H g = some (.ins C dx []) ∧ ∀ (D : Addr) (H' : Hp), H D = none → ObG H' g C R D .non → H' D = some (.dK []) → (∀ b o, b ≠ g → H b = some o → H' b = some o) → Q .non H'
def spGLook (C CN : Addr) : Sp := fun vs H Q E => ∃ (g R D : Addr) (s : List Nat) (rd : List Pr) (n : Nat), vs = [.ref g, .str (SX.S s)] ∧ StG C H g R D rd n ∧ n ≤ rd.length ∧ rd.length ≤ 1000000 ∧ TellG Q E C CN rd g R D H (lookG rd n s)
section
variable {P : Program} {w : World} {K : PySem.W.Frag} {mg : Str → Option Value} {base : Heap} {C fI CN : Addr}
abbrev s_Going___init__ : Stmt := inClass (topS 23) 0
abbrev N_Going___init__ : List Str := ["self", "reads"]
theorem sc_Going___init__ : FnScope N_Going___init__ ["self", "reads"] (defScope s_Going___init__) := ⟨rfl, rfl, rfl, by decide +kernel, rfl, by decide +kernel, by decide +kernel⟩

theorem ok_Going_init (T : Txt K mg) (ZGoing : GoT K mg C fI) {fd : FuncData} (F : Fun K "__init__" "Going.__init__" s_Going___init__ fI fd) : FnOk P w K mg base CX0 1 fI fd ["self", "reads"] (spGInit C) := by
  refine F.ok sc_Going___init__ (fun vs H Q E h => ?_) (fun cdv A outer s H vs Q E hr h => ?_)
  · obtain ⟨g, R, dx, rfl, _⟩ := h
    rfl
  obtain ⟨g, R, dx, rfl, hg, q⟩ := h
  refine ⟨_, (pss_cons (ps_fld (pv 0) (pv 1) rfl)
      (pss_cons (ps_fld (pv 0) pe_dnewK rfl)
      (pss_one (ps_fld (pv 0) pe_non rfl)))), ?_⟩
  refine ⟨_, rfl, _, rfl, g, C, dx, _, rfl, hg, ZGoing.cl, ZGoing.nR, (by show 0 < 1000; decide), ?_⟩
  refine fun D nD => ?_
  have ngD : g ≠ D := ne_of_none (H := upd H g (.ins C dx (putF "reads" (.ref R) []))) upd_same nD
  refine ⟨_, rfl, g, C, dx, _, rfl, (by rw [upd_ne ngD]; exact upd_same), ZGoing.cl, ZGoing.nH, (by show 1 < 1000; decide), _, rfl, g, C, dx, _, rfl, upd_same, ZGoing.cl, ZGoing.nL, ?_, ?_⟩
  · show (putF "had" (.ref D) [(("reads" : Str), V.ref R)]).length < 1000
    unfold putF
    rw [if_neg (by decide +kernel)]
    show 2 < 1000
    decide
  have e3 : putF "lacking" .non (putF "had" (.ref D) (putF "reads" (.ref R) [])) = ([("reads", .ref R), ("had", .ref D), ("lacking", .non)] : List (Str × V)) := by
    show putF "lacking" .non (putF "had" (.ref D) [(("reads" : Str), V.ref R)]) = _
    rw [show putF "had" (.ref D) [(("reads" : Str), V.ref R)] = [(("reads" : Str), V.ref R), ("had", .ref D)] by unfold putF; rw [if_neg (by decide +kernel)]; rfl]
    unfold putF
    rw [if_neg (by decide +kernel)]
    unfold putF
    rw [if_neg (by decide +kernel)]
    rfl
  have nD0 : H D = none := by rw [upd_ne ngD.symm] at nD; exact nD
  refine q D _ nD0 ⟨dx, _, upd_same, ?_⟩ (by rw [upd_ne ngD.symm, upd_ne ngD.symm]; exact upd_same) (fun b o nb e => ?_)
  · have lk : ∀ f : Str, (putF "lacking" V.non (putF "had" (.ref D) (putF "reads" (.ref R) []))).lookup f = if f = "lacking" then some .non else if f = "had" then some (.ref D) else if f = "reads" then some (.ref R) else none := fun f => by
      rw [lookup_putF, lookup_putF, lookup_putF]
      rfl
    refine ⟨?_, ?_, ?_, ?_, ?_, ?_, by rw [e3]; rfl⟩
    · rw [lk, if_neg (by decide +kernel), if_neg (by decide +kernel), if_pos rfl]
    · rw [lk, if_neg (by decide +kernel), if_pos rfl]
    · rw [lk, if_pos rfl]
    · rw [lk, if_neg (by decide +kernel), if_neg (by decide +kernel), if_neg (by decide +kernel)]
    · rw [lk, if_neg (by decide +kernel), if_neg (by decide +kernel), if_neg (by decide +kernel)]
    · rw [lk, if_neg (by decide +kernel), if_neg (by decide +kernel), if_neg (by decide +kernel)]
  · rw [upd_ne nb, upd_ne nb, upd_ne (fun z => by rw [z, nD0] at e; cases e), upd_ne nb]
    exact e
abbrev s_Going_look : Stmt := inClass (topS 23) 1
abbrev N_Going_look : List Str := ["self", "name", "read", "number"]
theorem sc_Going_look : FnScope N_Going_look ["self", "name"] (defScope s_Going_look) := ⟨rfl, rfl, rfl, by decide +kernel, rfl, by decide +kernel, by decide +kernel⟩

theorem ok_Going_look (T : Txt K mg) (ZGoing : GoT K mg C fI) (XNoRead : NoX K mg "NoRead" CN) (D : IsMet K C "look" "Going.look" s_Going_look ["self", "name"]) : Met P w K mg base (L2.CX P w) 1 C "look" ["self", "name"] (spGLook C CN) := by
  refine D.metX sc_Going_look (fun vs H Q E h => ?_) (fun f cdv A outer s H vs Q E hr h => ?_)
  · obtain ⟨g, R, D, s, rd, n, rfl, _⟩ := h
    rfl
  obtain ⟨g, R, D, s0, rd, n, rfl, ⟨hO, hD, xs, hR, hP⟩, hn, h100, q1, q2, q3⟩ := h
  have hu : (cxOf (L2.CX P w) P w K mg base N_Going_look "Going.look" (defScope s_Going_look) f cdv A outer s H E).A.units + 1 < cLine := Nat.lt_of_le_of_lt (Nat.add_le_add_left (by decide : 1 ≤ 64) _) hr.units
  refine ⟨_, (pss_cons (ps_if (pt_cmp (pc_din hu (pv 1) (pe_fld (pv 0) rfl)))
        (pss_one (ps_ret (pe_dget hu (pe_fld (pv 0) rfl) (pv 1) (fun _ _ => rfl))))
        pss_nil)
      (pss_cons (ps_if (pt_cmpR op_eq (pe_callB call_lenD (by rfl) T.b_len PySem.boot_len (pa_cons (pe_fld (pv 0) rfl) pa_nil)) (pe_callB call_len_seq (by rfl) T.b_len PySem.boot_len (pa_cons (pe_fld (pv 0) rfl) pa_nil)) (nomark _))
        (pss_cons (ps_fld (pv 0) (pv 1) rfl)
      (pss_one (ps_ret pe_non)))
        pss_nil)
      (pss_cons (ps_asg (pe_ix (r := rIxL K) ix_list (pe_fld (pv 0) rfl) (pe_callB call_lenD (by rfl) T.b_len PySem.boot_len (pa_cons (pe_fld (pv 0) rfl) pa_nil)) (fun _ _ => rfl)) (pg_tup rfl (pgs_cons (pg_name (i := 2) sc_Going_look.nd rfl (Or.inl rfl)) (pgs_cons (pg_name (i := 3) sc_Going_look.nd rfl (Or.inl rfl)) pgs_nil))))
      (pss_cons (ps_if (pt_cmpR op_ne (pv 2) (pv 1) (nomark _))
        (pss_one (ps_raise rfl (takes_of rfl rfl rfl rfl) (pmk_own PySem.F.excBase_ValueError XNoRead.x XNoRead.g XNoRead.k (raises_own XNoRead.b XNoRead.t) rfl)))
        pss_nil)
      (pss_cons (ps_dput hu (pe_fld (pv 0) rfl) (pv 1) (pv 3) rfl)
      (pss_one (ps_ret (pv 3)))))))), ?_⟩
  obtain ⟨dx, fs, hg, l1, l2, l3, l4, l5, l6, l7⟩ := id hO
  have ngD : g ≠ D := fun z => by rw [z, hD] at hg; cases hg
  have hln : (numsK (rd.take n)).length = n := by rw [numsK_len, List.length_take]; omega
  have hxl := hP.len
  refine ⟨_, rfl, _, rfl, g, C, dx, _, _, rfl, hg, ZGoing.cl, ZGoing.nH, l2, D, _, rfl, DGet.k (k := kT (SX.S s0)) hD, _, rfl, ?_⟩
  rw [val_seen]
  cases e : seen (rd.take n) s0 with
  | some v =>
    have dV : DGet H D (.str (SX.S s0)) (some (.int v)) := (show valV (numsK (rd.take n)) (kT (SX.S s0)) = some (.int v) by rw [val_seen, e]; rfl) ▸ DGet.k (k := kT (SX.S s0)) hD
    refine iteT ?_
    exact ⟨_, rfl, g, C, dx, _, _, rfl, hg, ZGoing.cl, ZGoing.nH, l2, _, rfl, D, _, rfl, dV, q1 v n H (lookG_seen e) (Fr2.refl g D H) ⟨hO, hD, xs, hR, hP⟩⟩
  | none =>
    refine iteF ?_
    refine ⟨_, rfl, g, C, dx, _, _, rfl, hg, ZGoing.cl, ZGoing.nH, l2, D, _, rfl, hD, _, rfl, g, C, dx, _, _, rfl, hg, ZGoing.cl, ZGoing.nR, l1, R, _, rfl, .inl (SqL.of hR), rfl, _, rfl, ?_⟩
    rw [hln, hxl]
    by_cases c : n = rd.length
    · refine iteY (by rw [c]) ?_
      obtain ⟨dx', fs', hg', hl', hO'⟩ := hO.lack (.str (SX.S s0))
      refine ⟨_, rfl, _, rfl, g, C, dx', _, rfl, hg', ZGoing.cl, ZGoing.nL, hl', ?_⟩
      exact q2 s0 _ (lookG_last e (List.getElem?_eq_none (by omega))) (fun x u n1 _ e => by rw [upd_ne n1]; exact e) hO'
    · refine iteN (fun z => c (by have := V.int.inj z; omega)) ?_
      have hlt : n < rd.length := by omega
      have e2 : rd[n]? = some rd[n] := List.getElem?_eq_getElem hlt
      obtain ⟨p, hp⟩ : ∃ p, p = rd[n] := ⟨_, rfl⟩
      rw [← hp] at e2
      have hxn : xs[n]? = some xs[n] := List.getElem?_eq_getElem (by omega)
      obtain ⟨p', t, hp', ht0, ht⟩ := hP.at hxn
      obtain rfl : p' = p := Option.some.inj (hp'.symm.trans e2)
      rw [ht0] at hxn
      refine ⟨_, rfl, g, C, dx, _, _, rfl, hg, ZGoing.cl, ZGoing.nR, l1, _, rfl, g, C, dx, _, _, rfl, hg, ZGoing.cl, ZGoing.nH, l2, D, _, rfl, hD, R, _, _, _, rfl, rfl, SqL.of hR, by rw [hln]; exact atI_nat hxn, t, _, rfl, SqT.of ht, rfl, _, _, rfl, _, _, rfl, rfl, ?_⟩
      refine ⟨_, rfl, _, rfl, rfl, _, rfl, ?_⟩
      by_cases cp : p'.1 = s0
      · refine not_true_eq (decide_eq_true (by rw [cp])) ?_
        have etk : rd.take (n + 1) = rd.take n ++ [(s0, p'.2)] := by
          rw [List.take_add_one, e2, ← cp]
          rfl
        refine ⟨_, rfl, _, rfl, g, C, dx, _, _, rfl, hg, ZGoing.cl, ZGoing.nH, l2, _, rfl, D, _, rfl, DPut.k (k := kT (SX.S s0)) hD (lt_line (by omega)), ?_⟩
        rw [nums_put e, ← etk]
        have nRD : R ≠ D := fun z => by rw [z, hD] at hR; cases hR
        refine ⟨_, rfl, q1 p'.2 (n + 1) _ (lookG_right e e2 cp) (fun x u _ n2 e => by rw [upd_ne n2]; exact e) ⟨hO.same (upd_ne ngD), upd_same, xs, by rw [upd_ne nRD]; exact hR, hP.keep fun b zs e => ?_⟩⟩
        have nb : b ≠ D := fun z => by rw [z, hD] at e; cases e
        rw [upd_ne nb]
        exact e
      · refine not_false_eq (decide_eq_false fun z => cp (strS_inj z)) ?_
        exact q3 _ (lookG_bad e e2 cp) (Fr2.refl g D H)
end
/-! ### Going through a recipe; behind -/
theorem StG.same {C : Addr} {H H' : Hp} {g R D : Addr} {rd : List Pr} {n : Nat} (k : StG C H g R D rd n) (s : Same H H') : StG C H' g R D rd n := by
  obtain ⟨⟨dx, fs, h1, h2⟩, h3, xs, h4, h5⟩ := k
  exact ⟨⟨dx, fs, s _ _ h1, h2⟩, s _ _ h3, xs, s _ _ h4, h5.same s⟩
def spGTwo (C CN : Addr) (j : Nat) : Sp := fun vs H Q E => ∃ (g R D : Addr) (k : Kd) (x : Int) (v : V) (b : Rcp) (rd : List Pr) (m e : Nat), vs = [.ref g, .str k.name, .int x, v] ∧ Rec H b v ∧ b.Nb ∧ b.dep ≤ j ∧ b.dep ≤ 9 ∧ StG C H g R D rd m ∧ m ≤ rd.length ∧ rd.length ≤ 1000000 ∧ Small rd ∧ 0 < e ∧ e ≤ 204800 ∧ x.natAbs < 2 ^ e ∧
  TellG Q E C CN rd g R D H ((go rd b m).bind fun y l => .ok (k.ap x y) l)
def spGWorth (C CN : Addr) (j : Nat) : Sp := fun vs H Q E => ∃ (g R D : Addr) (v : V) (r : Rcp) (rd : List Pr) (n : Nat), vs = [.ref g, v] ∧ Rec H r v ∧ r.Nb ∧ r.dep ≤ j ∧ r.dep ≤ 9 ∧ StG C H g R D rd n ∧ n ≤ rd.length ∧ rd.length ≤ 1000000 ∧ Small rd ∧ TellG Q E C CN rd g R D H (go rd r n)
section
variable {P : Program} {w : World} {K : PySem.W.Frag} {mg : Str → Option Value} {base : Heap} {C fI CN : Addr}
abbrev s_Going_two : Stmt := inClass (topS 23) 2
abbrev N_Going_two : List Str := ["self", "kind", "one", "r", "other"]
theorem sc_Going_two : FnScope N_Going_two ["self", "kind", "one", "r"] (defScope s_Going_two) := ⟨rfl, rfl, rfl, by decide +kernel, rfl, by decide +kernel, by decide +kernel⟩

theorem ok_Going_two {j : Nat} (T : Txt K mg) (ZGoing : GoT K mg C fI) (D : IsMet K C "two" "Going.two" s_Going_two ["self", "kind", "one", "r"]) (MW : Met P w K mg base (L2.CX P w) (2 * j + 1) C "worth" ["self", "r"] (spGWorth C CN j)) :
    Met P w K mg base (L2.CX P w) (2 * j + 2) C "two" ["self", "kind", "one", "r"] (spGTwo C CN j) := by
  obtain ⟨f_w, fd_w, F_Going_worth, M_Going_worth, B_Going_worth⟩ := MW
  refine D.metX sc_Going_two (fun vs H Q E h => ?_) (fun f cdv A outer s H vs Q E hr h => ?_)
  · obtain ⟨g, R, D, k, x, v, b, rd, m, e, rfl, _⟩ := h
    rfl
  obtain ⟨g, R, D, k, x, v, b, rd, m, e, rfl, hRc, hNb, hd, h9, hS, hm, h100, hsm, e0, e1, ex, q1, q2, q3⟩ := h
  refine ⟨_, (pss_cons (ps_set (i := 4) sc_Going_two.nd rfl (Or.inl rfl) (pe_meth (pv 0) ZGoing.cl M_Going_worth F_Going_worth (hr.mono (by first | decide | omega)) B_Going_worth .nil (passes_call (takes_of rfl rfl rfl rfl) (fun _ _ _ _ h => h)) (pa_cons (pv 3) pa_nil)))
      (pss_cons (ps_if (pt_cmpR op_isN (pv 4) pe_non (nomark _))
        (pss_one (ps_ret pe_non))
        pss_nil)
      (pss_cons (ps_if (pt_cmpR op_eq (pv 1) pe_str (nomark _))
        (pss_one (ps_ret (pe_op op_add (pv 2) (pv 4))))
        pss_nil)
      (pss_cons (ps_if (pt_cmpR op_eq (pv 1) pe_str (nomark _))
        (pss_one (ps_ret (pe_op op_sub (pv 2) (pv 4))))
        pss_nil)
      (pss_cons (ps_if (pt_cmpR op_eq (pv 1) pe_str (nomark _))
        (pss_one (ps_ret (pe_op op_mulW (pv 2) (pv 4))))
        pss_nil)
      (pss_one (ps_ret (pe_callB (call_max2 rfl) (by rfl) T.b_max (by decide +kernel) (pa_cons (pv 2) (pa_cons (pv 4) pa_nil)))))))))), ?_⟩
  obtain ⟨dx, fs, hg, _, _, _, _, l5, _⟩ := hS.1
  refine ⟨_, rfl, g, dx, fs, rfl, hg, l5, _, rfl, g, R, D, v, b, rd, m, rfl, hRc, hNb, hd, h9, hS, hm, h100, hsm, ?_, ?_, ?_⟩
  · intro y l H1 h1 f1 S1
    obtain ⟨_, _, d, d0, d1, dy⟩ := go_small hsm hNb h9 hm h1
    have q1' := q1 (k.ap x y) l H1 (by rw [h1]; rfl) f1 S1
    refine ⟨_, rfl, rfl, _, rfl, iteN (fun z => by cases z) ?_⟩
    cases k with
    | plus => exact ⟨_, rfl, rfl, _, rfl, iteY rfl ⟨_, rfl, _, rfl, _, _, rfl, rfl, q1'⟩⟩
    | minus => exact ⟨_, rfl, rfl, _, rfl, iteN (sne (by decide +kernel)) ⟨_, rfl, rfl, _, rfl, iteY rfl ⟨_, rfl, _, rfl, _, _, rfl, rfl, q1'⟩⟩⟩
    | times => exact ⟨_, rfl, rfl, _, rfl, iteN (sne (by decide +kernel)) ⟨_, rfl, rfl, _, rfl, iteN (sne (by decide +kernel)) ⟨_, rfl, rfl, _, rfl, iteY rfl ⟨_, rfl, _, rfl, _, _, rfl, rfl, wide_mul ex dy e0 d0 (by omega), q1'⟩⟩⟩⟩
    | most => exact ⟨_, rfl, rfl, _, rfl, iteN (sne (by decide +kernel)) ⟨_, rfl, rfl, _, rfl, iteN (sne (by decide +kernel)) ⟨_, rfl, rfl, _, rfl, iteN (sne (by decide +kernel)) ⟨_, rfl, _, rfl, _, _, rfl, q1'⟩⟩⟩⟩
  · intro t H1 h1 f1 O1
    exact ⟨_, rfl, rfl, _, rfl, iteY rfl (q2 t H1 (by rw [h1]; rfl) f1 O1)⟩
  · intro H1 h1 f1
    exact q3 H1 (by rw [h1]; rfl) f1
abbrev s_Going_worth : Stmt := inClass (topS 23) 3
abbrev N_Going_worth : List Str := ["self", "r", "one"]
theorem sc_Going_worth : FnScope N_Going_worth ["self", "r"] (defScope s_Going_worth) := ⟨rfl, rfl, rfl, by decide +kernel, rfl, by decide +kernel, by decide +kernel⟩

theorem ok_Going_worth (T : Txt K mg) (ZGoing : GoT K mg C fI) (D : IsMet K C "worth" "Going.worth" s_Going_worth ["self", "r"]) (D2 : IsMet K C "two" "Going.two" s_Going_two ["self", "kind", "one", "r"]) (ML : Met P w K mg base (L2.CX P w) 1 C "look" ["self", "name"] (spGLook C CN)) :
    ∀ j, Met P w K mg base (L2.CX P w) (2 * j + 1) C "worth" ["self", "r"] (spGWorth C CN j)
  | 0 => met_none D fun vs H Q E h => by
    obtain ⟨_, _, _, _, r, _, _, _, _, _, hd, _⟩ := h
    have := dep_pos r
    omega
  | j + 1 => by
    have MW := ok_Going_worth T ZGoing D D2 ML j
    have M2 := ok_Going_two T ZGoing D2 MW
    obtain ⟨f_w, fd_w, F_Going_worth, M_Going_worth, B_Going_worth⟩ := MW
    obtain ⟨f_t, fd_t, F_Going_two, M_Going_two, B_Going_two⟩ := M2
    obtain ⟨f_l, fd_l, F_Going_look, M_Going_look, B_Going_look⟩ := ML
    refine D.metX (k := 2 * j + 2) sc_Going_worth (fun vs H Q E h => ?_) (fun f cdv A outer s H vs Q E hr h => ?_)
    · obtain ⟨g, R, D, v, r, rd, n, rfl, _⟩ := h
      rfl
    obtain ⟨g, R, D, v, r, rd, n, rfl, hRc, hNb, hd, h9, hS, hn, h100, hsm, q1, q2, q3⟩ := h
    refine ⟨_, (pss_cons (ps_if (pt_cmpR op_eq (pe_ix (r := rIxT K) ix_tup (pv 1) pe_int (fun _ _ => rfl)) pe_str (nomark _))
        (pss_one (ps_ret (pe_ix (r := rIxT K) ix_tup (pv 1) pe_int (fun _ _ => rfl))))
        pss_nil)
      (pss_cons (ps_if (pt_cmpR op_eq (pe_ix (r := rIxT K) ix_tup (pv 1) pe_int (fun _ _ => rfl)) pe_str (nomark _))
        (pss_one (ps_ret (pe_meth (pv 0) ZGoing.cl M_Going_look F_Going_look (hr.mono (by first | decide | omega)) B_Going_look .nil (passes_call (takes_of rfl rfl rfl rfl) (fun _ _ _ _ h => h)) (pa_cons (pe_ix (r := rIxT K) ix_tup (pv 1) pe_int (fun _ _ => rfl)) pa_nil))))
        pss_nil)
      (pss_cons (ps_set (i := 2) sc_Going_worth.nd rfl (Or.inl rfl) (pe_meth (pv 0) ZGoing.cl M_Going_worth F_Going_worth (hr.mono (by first | decide | omega)) B_Going_worth .nil (passes_call (takes_of rfl rfl rfl rfl) (fun _ _ _ _ h => h)) (pa_cons (pe_ix (r := rIxT K) ix_tup (pv 1) pe_int (fun _ _ => rfl)) pa_nil)))
      (pss_cons (ps_if (pt_cmpR op_isN (pv 2) pe_non (nomark _))
        (pss_one (ps_ret pe_non))
        pss_nil)
      (pss_cons (ps_if (pt_cmpR op_eq (pe_ix (r := rIxT K) ix_tup (pv 1) pe_int (fun _ _ => rfl)) pe_str (nomark _))
        (pss_one (ps_ret (pe_meth (pv 0) ZGoing.cl M_Going_look F_Going_look (hr.mono (by first | decide | omega)) B_Going_look .nil (passes_call (takes_of rfl rfl rfl rfl) (fun _ _ _ _ h => h)) (pa_cons (pe_ix (r := rIxT K) ix_tup (pe_ix (r := rIxT K) ix_tup (pv 1) pe_int (fun _ _ => rfl)) (pe_op op_mod (pv 2) (pe_callB call_len_seq (by rfl) T.b_len PySem.boot_len (pa_cons (pe_ix (r := rIxT K) ix_tup (pv 1) pe_int (fun _ _ => rfl)) pa_nil))) (fun _ _ => rfl)) pa_nil))))
        pss_nil)
      (pss_cons (ps_if (pt_cmpR op_eq (pe_ix (r := rIxT K) ix_tup (pv 1) pe_int (fun _ _ => rfl)) pe_str (nomark _))
        (pss_one (ps_ret (pe_meth (pv 0) ZGoing.cl M_Going_worth F_Going_worth (hr.mono (by first | decide | omega)) B_Going_worth .nil (passes_call (takes_of rfl rfl rfl rfl) (fun _ _ _ _ h => h)) (pa_cons (pe_ix (r := rIxT K) ix_tup (pv 1) (pe_op op_add pe_int (pe_callTy call_int1 (by rfl) T.b_int (by decide +kernel) (pa_cons (pe_cmpR op_le (pv 2) pe_int (nomark _)) pa_nil))) (fun _ _ => rfl)) pa_nil))))
        pss_nil)
      (pss_one (ps_ret (pe_meth (pv 0) ZGoing.cl M_Going_two F_Going_two (hr.mono (by first | decide | omega)) B_Going_two .nil (passes_call (takes_of rfl rfl rfl rfl) (fun _ _ _ _ h => h)) (pa_cons (pe_ix (r := rIxT K) ix_tup (pv 1) pe_int (fun _ _ => rfl)) (pa_cons (pv 2) (pa_cons (pe_ix (r := rIxT K) ix_tup (pv 1) pe_int (fun _ _ => rfl)) pa_nil)))))))))))), ?_⟩
    obtain ⟨dx, fs, hg, _, _, _, l4, l5, l6, _⟩ := id hS.1
    cases r with
    | num x =>
      obtain ⟨p, rfl, hp⟩ := hRc
      refine ⟨_, rfl, p, _, _, _, rfl, rfl, SqT.of hp, rfl, rfl, _, rfl, iteY rfl ?_⟩
      exact ⟨_, rfl, p, _, _, _, rfl, rfl, SqT.of hp, rfl, q1 x n H rfl (Fr2.refl g D H) hS⟩
    | read s0 =>
      obtain ⟨p, rfl, hp⟩ := hRc
      refine ⟨_, rfl, p, _, _, _, rfl, rfl, SqT.of hp, rfl, rfl, _, rfl, iteN (sne (by decide +kernel)) ?_⟩
      refine ⟨_, rfl, p, _, _, _, rfl, rfl, SqT.of hp, rfl, rfl, _, rfl, iteY rfl ?_⟩
      exact ⟨_, rfl, g, dx, fs, rfl, hg, l4, _, rfl, p, _, _, _, rfl, rfl, SqT.of hp, rfl, g, R, D, s0, rd, n, rfl, hS, hn, h100, q1, q2, q3⟩
    | two k a b =>
      obtain ⟨p, x, y, rfl, hp, ha, hb⟩ := hRc
      have hd1 : a.dep ≤ j ∧ b.dep ≤ j ∧ a.dep ≤ 9 ∧ b.dep ≤ 9 := by
        have e : (Rcp.two k a b).dep = max a.dep b.dep + 1 := rfl
        omega
      refine ⟨_, rfl, p, _, _, _, rfl, rfl, SqT.of hp, rfl, rfl, _, rfl, iteN (sne (by cases k <;> decide +kernel)) ?_⟩
      refine ⟨_, rfl, p, _, _, _, rfl, rfl, SqT.of hp, rfl, rfl, _, rfl, iteN (sne (by cases k <;> decide +kernel)) ?_⟩
      refine ⟨_, rfl, g, dx, fs, rfl, hg, l5, _, rfl, p, _, _, _, rfl, rfl, SqT.of hp, rfl, g, R, D, x, a, rd, n, rfl, ha, hNb.1, hd1.1, hd1.2.2.1, hS, hn, h100, hsm, ?_⟩
      refine ⟨fun vx m H1 h1 f1 S1 => ?_, fun t H1 h1 f1 O1 => ⟨_, rfl, rfl, _, rfl, iteY rfl (q2 t H1 (by show Res.bind _ _ = _; rw [h1]; rfl) f1 O1)⟩, fun H1 h1 f1 => q3 H1 (by show Res.bind _ _ = _; rw [h1]; rfl) f1⟩
      obtain ⟨_, hm, e1, e10, e11, e12⟩ := go_small hsm hNb.1 hd1.2.2.1 hn h1
      have k1 := hS.keep f1
      have hp1 := k1 _ _ hp
      obtain ⟨dx1, fs1, hg1, _, _, _, l41, l51, l61, _⟩ := id S1.1
      have e0 : go rd (.two k a b) n = (go rd b m).bind fun vy l => .ok (k.ap vx vy) l := by show Res.bind _ _ = _; rw [h1]; rfl
      rw [e0] at q1 q2 q3
      refine ⟨_, rfl, rfl, _, rfl, iteN (fun z => by cases z) ?_⟩
      refine ⟨_, rfl, p, _, _, _, rfl, rfl, SqT.of hp1, rfl, rfl, _, rfl, iteN (sne (by cases k <;> decide +kernel)) ?_⟩
      refine ⟨_, rfl, p, _, _, _, rfl, rfl, SqT.of hp1, rfl, rfl, _, rfl, iteN (sne (by cases k <;> decide +kernel)) ?_⟩
      refine ⟨_, rfl, g, dx1, fs1, rfl, hg1, l61, _, rfl, p, _, _, _, rfl, rfl, SqT.of hp1, rfl, _, rfl, _, rfl, p, _, _, _, rfl, rfl, SqT.of hp1, rfl, g, R, D, k, vx, y, b, rd, m, e1, rfl, hb.keep k1, hNb.2, hd1.2.1, hd1.2.2.2, S1, hm, h100, hsm, e10, e11, e12, ?_⟩
      exact ⟨fun v m' H' h f S => q1 v m' H' h (f1.trans f) S, fun t H' h f O => q2 t H' h (f1.trans f) O, fun H' h f => q3 H' h (f1.trans f)⟩
    | pick a b c =>
      obtain ⟨p, x, y, z, rfl, hp, ha, hb, hc⟩ := hRc
      have hd1 : a.dep ≤ j ∧ b.dep ≤ j ∧ c.dep ≤ j ∧ a.dep ≤ 9 ∧ b.dep ≤ 9 ∧ c.dep ≤ 9 := by
        have e : (Rcp.pick a b c).dep = max a.dep (max b.dep c.dep) + 1 := rfl
        omega
      refine ⟨_, rfl, p, _, _, _, rfl, rfl, SqT.of hp, rfl, rfl, _, rfl, iteN (sne (by decide +kernel)) ?_⟩
      refine ⟨_, rfl, p, _, _, _, rfl, rfl, SqT.of hp, rfl, rfl, _, rfl, iteN (sne (by decide +kernel)) ?_⟩
      refine ⟨_, rfl, g, dx, fs, rfl, hg, l5, _, rfl, p, _, _, _, rfl, rfl, SqT.of hp, rfl, g, R, D, x, a, rd, n, rfl, ha, hNb.1, hd1.1, hd1.2.2.2.1, hS, hn, h100, hsm, ?_⟩
      refine ⟨fun vx m H1 h1 f1 S1 => ?_, fun t H1 h1 f1 O1 => ⟨_, rfl, rfl, _, rfl, iteY rfl (q2 t H1 (by show Res.bind _ _ = _; rw [h1]; rfl) f1 O1)⟩, fun H1 h1 f1 => q3 H1 (by show Res.bind _ _ = _; rw [h1]; rfl) f1⟩
      obtain ⟨_, hm, _⟩ := go_small hsm hNb.1 hd1.2.2.2.1 hn h1
      have k1 := hS.keep f1
      have hp1 := k1 _ _ hp
      obtain ⟨dx1, fs1, hg1, _, _, _, l41, l51, l61, _⟩ := id S1.1
      have e0 : go rd (.pick a b c) n = if vx > 0 then go rd b m else go rd c m := by show Res.bind _ _ = _; rw [h1]; rfl
      rw [e0] at q1 q2 q3
      refine ⟨_, rfl, rfl, _, rfl, iteN (fun z => by cases z) ?_⟩
      refine ⟨_, rfl, p, _, _, _, rfl, rfl, SqT.of hp1, rfl, rfl, _, rfl, iteN (sne (by decide +kernel)) ?_⟩
      refine ⟨_, rfl, p, _, _, _, rfl, rfl, SqT.of hp1, rfl, rfl, _, rfl, iteY rfl ?_⟩
      by_cases c0 : vx > 0
      · rw [if_pos c0] at q1 q2 q3
        refine ⟨_, rfl, g, dx1, fs1, rfl, hg1, l51, _, rfl, _, rfl, _, _, rfl, rfl, .inr ⟨_, rfl, _, _, rfl, rfl, p, _, _, y, rfl, rfl, SqT.of hp1, ?_, g, R, D, y, b, rd, m, rfl, hb.keep k1, hNb.2.1, hd1.2.1, hd1.2.2.2.2.1, S1, hm, h100, hsm, ?_⟩⟩
        · show atI [.str "pick", x, y, z] (2 + (if decide (vx ≤ 0) = true then 1 else 0)) = _
          rw [if_neg (fun z => by have := of_decide_eq_true z; omega)]
          rfl
        · exact ⟨fun v m' H' h f S => q1 v m' H' h (f1.trans f) S, fun t H' h f O => q2 t H' h (f1.trans f) O, fun H' h f => q3 H' h (f1.trans f)⟩
      · rw [if_neg c0] at q1 q2 q3
        refine ⟨_, rfl, g, dx1, fs1, rfl, hg1, l51, _, rfl, _, rfl, _, _, rfl, rfl, .inr ⟨_, rfl, _, _, rfl, rfl, p, _, _, z, rfl, rfl, SqT.of hp1, ?_, g, R, D, z, c, rd, m, rfl, hc.keep k1, hNb.2.2, hd1.2.2.1, hd1.2.2.2.2.2, S1, hm, h100, hsm, ?_⟩⟩
        · show atI [.str "pick", x, y, z] (2 + (if decide (vx ≤ 0) = true then 1 else 0)) = _
          rw [if_pos (decide_eq_true (by omega))]
          rfl
        · exact ⟨fun v m' H' h f S => q1 v m' H' h (f1.trans f) S, fun t H' h f O => q2 t H' h (f1.trans f) O, fun H' h f => q3 H' h (f1.trans f)⟩
    | choose a ns =>
      obtain ⟨p, x, t2, rfl, hp, ha, ht2⟩ := hRc
      have hd1 : a.dep ≤ j ∧ a.dep ≤ 9 := by
        have e : (Rcp.choose a ns).dep = a.dep + 1 := rfl
        omega
      refine ⟨_, rfl, p, _, _, _, rfl, rfl, SqT.of hp, rfl, rfl, _, rfl, iteN (sne (by decide +kernel)) ?_⟩
      refine ⟨_, rfl, p, _, _, _, rfl, rfl, SqT.of hp, rfl, rfl, _, rfl, iteN (sne (by decide +kernel)) ?_⟩
      refine ⟨_, rfl, g, dx, fs, rfl, hg, l5, _, rfl, p, _, _, _, rfl, rfl, SqT.of hp, rfl, g, R, D, x, a, rd, n, rfl, ha, hNb.1, hd1.1, hd1.2, hS, hn, h100, hsm, ?_⟩
      refine ⟨fun vx m H1 h1 f1 S1 => ?_, fun t H1 h1 f1 O1 => ⟨_, rfl, rfl, _, rfl, iteY rfl (q2 t H1 (by show Res.bind _ _ = _; rw [h1]; rfl) f1 O1)⟩, fun H1 h1 f1 => q3 H1 (by show Res.bind _ _ = _; rw [h1]; rfl) f1⟩
      obtain ⟨_, hm, _⟩ := go_small hsm hNb.1 hd1.2 hn h1
      have k1 := hS.keep f1
      have hp1 := k1 _ _ hp
      have ht21 := k1 _ _ ht2
      obtain ⟨dx1, fs1, hg1, _, _, _, l41, l51, l61, _⟩ := id S1.1
      have e0 : go rd (.choose a ns) n = lookG rd m (nthN ns vx) := by show Res.bind _ _ = _; rw [h1]; rfl
      rw [e0] at q1 q2 q3
      obtain ⟨i, hi, hi2⟩ := nth_mem hNb.2.1 vx
      have hi3 := (List.getElem?_eq_some_iff.mp hi2).1
      refine ⟨_, rfl, rfl, _, rfl, iteN (fun z => by cases z) ?_⟩
      refine ⟨_, rfl, p, _, _, _, rfl, rfl, SqT.of hp1, rfl, rfl, _, rfl, iteY rfl ?_⟩
      refine ⟨_, rfl, g, dx1, fs1, rfl, hg1, l41, _, rfl, p, _, _, _, rfl, rfl, SqT.of hp1, rfl, _, rfl, _, rfl, p, _, _, _, rfl, rfl, SqT.of hp1, rfl, t2, _, rfl, .inr (SqT.of ht21), _, _, rfl, rfl, ?_, t2, _, _, .str (SX.S (nthN ns vx)), rfl, rfl, SqT.of ht21, ?_, g, R, D, nthN ns vx, rd, m, rfl, S1, hm, h100, ?_⟩
      · show (0 : Int) < ((txs ns).length : Nat)
        rw [txs_len]
        have := hNb.2.1
        omega
      · show atI (txs ns) (vx % (((txs ns).length : Nat) : Int)) = _
        rw [txs_len, hi]
        refine atI_nat ?_
        rw [txs_get hi3, Option.some.inj ((List.getElem?_eq_getElem hi3).symm.trans hi2)]
      · exact ⟨fun v m' H' h f S => q1 v m' H' h (f1.trans f) S, fun t H' h f O => q2 t H' h (f1.trans f) O, fun H' h f => q3 H' h (f1.trans f)⟩
end
/-! ### behind -/
def spBhd (CN : Addr) : Sp := fun vs H Q E => ∃ (v : V) (R : Addr) (r : Rcp) (rd : List Pr) (xs : List V), vs = [v, .ref R] ∧ Rec H r v ∧ r.Nb ∧ r.dep ≤ 9 ∧ H R = some (.lst xs) ∧ Prs H rd xs ∧ rd.length ≤ 1000000 ∧ Small rd ∧ TellO Q (fun H' => E (.ref CN) none H') (outOf rd r) H
section
variable {P : Program} {w : World} {K : PySem.W.Frag} {mg : Str → Option Value} {base : Heap} {C fI CN : Addr}
abbrev s_behind : Stmt := topS 24
abbrev N_behind : List Str := ["r", "reads", "going", "worth"]
theorem sc_behind : FnScope N_behind ["r", "reads"] (defScope s_behind) := ⟨rfl, rfl, rfl, by decide +kernel, rfl, by decide +kernel, by decide +kernel⟩

theorem ok_behind (T : Txt K mg) (ZGoing : GoT K mg C fI) (XNoRead : NoX K mg "NoRead" CN) (D : IsDef K mg "behind" s_behind ["r", "reads"]) {fdI : FuncData} (F_Going___init__ : FnOk P w K mg base CX0 1 fI fdI ["self", "reads"] (spGInit C)) (B_Going___init__ : Binds K fdI ["self", "reads"] [])
    (MW : Met P w K mg base (L2.CX P w) 19 C "worth" ["self", "r"] (spGWorth C CN 9)) : Cal P w K mg base (L2.CX P w) 20 "behind" ["r", "reads"] (spBhd CN) := by
  obtain ⟨f_w, fd_w, F_Going_worth, M_Going_worth, B_Going_worth⟩ := MW
  refine D.calX2 sc_behind (fun vs H Q E h => ?_) (fun f cdv A outer s H vs Q E hr h => ?_)
  · obtain ⟨v, R, r, rd, xs, rfl, _⟩ := h
    rfl
  obtain ⟨v, R, r, rd, xs, rfl, hRc, hNb, h9, hR, hP, h100, hsm, q1, q2, q3⟩ := h
  refine ⟨_, (pss_cons (ps_set (i := 2) sc_behind.nd rfl (Or.inl rfl) (pe_make ZGoing.mkI F_Going___init__ (hr.mono (by first | decide | omega)) rfl ZGoing.g B_Going___init__ .nil pass0 (pa_cons (pv 1) pa_nil)))
      (pss_cons (ps_set (i := 3) sc_behind.nd rfl (Or.inl rfl) (pe_meth (pv 2) ZGoing.cl M_Going_worth F_Going_worth (hr.mono (by first | decide | omega)) B_Going_worth .nil (passes_call (takes_of rfl rfl rfl rfl) (fun _ _ _ _ h => h)) (pa_cons (pv 0) pa_nil)))
      (pss_cons (ps_if (pt_cmpR op_notN (pe_fld (pv 2) rfl) pe_non (nomark _))
        (pss_one (ps_ret (pe_tup (pa_cons pe_str (pa_cons (pe_fld (pv 2) rfl) pa_nil)))))
        pss_nil)
      (pss_cons (ps_if (pt_cmpR op_lt (pe_callB call_lenD (by rfl) T.b_len PySem.boot_len (pa_cons (pe_fld (pv 2) rfl) pa_nil)) (pe_callB call_len_seq (by rfl) T.b_len PySem.boot_len (pa_cons (pv 1) pa_nil)) (nomark _))
        (pss_one (ps_raise rfl (takes_of rfl rfl rfl rfl) (pmk_own PySem.F.excBase_ValueError XNoRead.x XNoRead.g XNoRead.k (raises_own XNoRead.b XNoRead.t) rfl)))
        pss_nil)
      (pss_one (ps_ret (pe_tup (pa_cons pe_str (pa_cons (pv 3) pa_nil))))))))), ?_⟩
  refine ⟨_, rfl, fun g dx ng ndx ne => ⟨g, R, dx, rfl, upd_same, fun D H1 nD hO hD hk => ⟨rfl, ?_⟩⟩⟩
  have ng0 : H g = none := ng
  have s0 : Same H (upd (upd H dx (.own g)) g (.ins C dx [])) := fun b o e => by
    rw [upd_ne (ne_of_none e ng), upd_ne (ne_of_none e ndx)]
    exact e
  have s1 : Same H H1 := fun b o e => hk b o (ne_of_none e ng) (s0 b o e)
  have nD0 : H D = none := s0.free nD
  obtain ⟨dx1, fs1, hg1, _, _, _, l4, l5, l6, _⟩ := id hO
  have fin : ∀ {H' : Hp}, Fr2 g D H1 H' → Same H H' := fun {H'} f b u e => f b u (fun z => by rw [z, ng0] at e; cases e) (fun z => by rw [z, nD0] at e; cases e) (s1 _ _ e)
  refine ⟨_, rfl, g, dx1, fs1, rfl, hg1, l5, _, rfl, g, R, D, v, r, rd, 0, rfl, hRc.same s1, hNb, h9, h9, ⟨hO, hD, xs, s1 _ _ hR, hP.same s1⟩, Nat.zero_le _, h100, hsm, ?_, ?_, ?_⟩
  · rintro x m H2 h2 f2 ⟨⟨dx2, fs2, hg2, _, l22, l32, _⟩, hD2, ys, hR2, hP2⟩
    have hml := (go_small hsm hNb h9 (Nat.zero_le _) h2).2.1
    have hln : (numsK (rd.take m)).length = m := by rw [numsK_len, List.length_take]; omega
    have hyl := hP2.len
    refine ⟨_, rfl, g, C, dx2, _, _, rfl, hg2, ZGoing.cl, ZGoing.nL, l32, rfl, _, rfl, not_true_eq (decide_eq_true rfl) ?_⟩
    refine ⟨_, rfl, g, C, dx2, _, _, rfl, hg2, ZGoing.cl, ZGoing.nH, l22, D, _, rfl, hD2, _, rfl, R, _, rfl, .inl (SqL.of hR2), _, _, rfl, rfl, _, rfl, ?_⟩
    rw [hln, hyl]
    by_cases c : m < rd.length
    · refine iteY (by omega) ?_
      exact q3 H2 ((out_ok h2).trans (if_pos c)) (fin f2)
    · refine iteN (by omega) ?_
      refine ⟨_, rfl, le_line (Nat.le_of_ble_eq_true rfl), fun t nt => ?_⟩
      exact q2 x t _ ((out_ok h2).trans (if_neg c)) ((fin f2).trans (same_new nt _)) upd_same
  · rintro s0 H2 h2 f2 ⟨dx2, fs2, hg2, _, l22, l32, _⟩
    refine ⟨_, rfl, g, C, dx2, _, _, rfl, hg2, ZGoing.cl, ZGoing.nL, l32, rfl, _, rfl, not_false_eq (decide_eq_false fun z => by cases z) ?_⟩
    refine ⟨_, rfl, g, C, dx2, _, _, rfl, hg2, ZGoing.cl, ZGoing.nL, l32, le_line (Nat.le_of_ble_eq_true rfl), fun t nt => ?_⟩
    exact q1 s0 t _ (out_lack h2) ((fin f2).trans (same_new nt _)) upd_same
  · intro H2 h2 f2
    exact q3 H2 (out_bad h2) (fin f2)
end
/-! ### what the law draws -/
def pl (r m c : Int) : List V := [.int r, .int m, .int c]
def spPoolL (K : PySem.W.Frag) : Sp := fun vs H Q _ => ∃ (a : Addr) (ns : List Int) (k : Int), vs = [.ref a, .int k] ∧ SqL K H a (ns.map V.int) ∧ ns.length ≤ 63 ∧ 0 ≤ k ∧ k ≤ 1000 ∧ ∀ (p : Addr) (r m c : Int), H p = none → 0 ≤ c → c ≤ 11000 → Q (.ref p) (upd H p (.lst (pl r m c)))
def Fr1 (p : Addr) (H H' : Hp) : Prop := ∀ b u, b ≠ p → H b = some u → H' b = some u
theorem Fr1.refl (p : Addr) (H : Hp) : Fr1 p H H := fun _ _ _ e => e
theorem Fr1.trans {p : Addr} {A B C : Hp} (h : Fr1 p A B) (k : Fr1 p B C) : Fr1 p A C := fun b u n e => k b u n (h b u n e)
theorem Fr1.of {p : Addr} {A B : Hp} (h : Same A B) : Fr1 p A B := fun b u _ e => h b u e
theorem Fr1.keep {p : Addr} {A B : Hp} {xs : List V} (h : A p = some (.lst xs)) (f : Fr1 p A B) : Keep A B := fun b ys e => f b _ (fun z => by rw [z, h] at e; cases e) e
def spTakeL : Sp := fun vs H Q _ => ∃ (p : Addr) (r m c many : Int), vs = [.ref p, .int many] ∧ H p = some (.lst (pl r m c)) ∧ 0 < many ∧ many.natAbs < 2 ^ 400 ∧ 0 ≤ c ∧ c ≤ 1000000 ∧
  ∀ (H' : Hp) (v r' c' : Int), (∀ b, b ≠ p → H' b = H b) → H' p = some (.lst (pl r' m c')) → 0 ≤ c' → c' ≤ c + 1 → 0 ≤ v → v < many → Q (.int v) H'
section
variable {P : Program} {w : World} {K : PySem.W.Frag} {mg : Str → Option Value} {base : Heap}
abbrev s__law_pool : Stmt := topS 52
abbrev N__law_pool : List Str := ["script", "k", "cell"]
theorem sc__law_pool : FnScope N__law_pool ["script", "k"] (defScope s__law_pool) := ⟨rfl, rfl, rfl, by decide +kernel, rfl, by decide +kernel, by decide +kernel⟩

theorem ok__law_pool (T : Txt K mg) (D : IsDef K mg "_law_pool" s__law_pool ["script", "k"]) : Cal P w K mg base CX0 1 "_law_pool" ["script", "k"] (spPoolL K) := by
  refine D.cal sc__law_pool (fun vs H Q E h => ?_) (fun f cdv A outer s H vs Q E hr h => ?_)
  · obtain ⟨a, ns, k, rfl, _⟩ := h
    rfl
  obtain ⟨a, ns, k, rfl, hS, h63, k0, k1, q⟩ := h
  refine ⟨_, (pss_cons (ps_set (i := 2) sc__law_pool.nd rfl (Or.inl rfl) pe_int)
      (pss_cons (ps_if (pt_cmpR op_lt (pv 1) (pe_callB call_len_seq (by rfl) T.b_len PySem.boot_len (pa_cons (pv 0) pa_nil)) (nomark _))
        (pss_one (ps_set (i := 2) sc__law_pool.nd rfl (Or.inl rfl) (pe_ix (r := rIxL K) ix_list (pv 0) (pv 1) (fun _ _ => rfl))))
        pss_nil)
      (pss_cons (ps_if (pt_cmpR op_ge (pv 2) (pe_op op_pow pe_int pe_int) (nomark _))
        (pss_one (ps_ret (pe_lst (pa_cons (pe_op op_sub (pv 2) (pe_op op_pow pe_int pe_int)) (pa_cons pe_int (pa_cons pe_int pa_nil))))))
        pss_nil)
      (pss_one (ps_ret (pe_lst (pa_cons (pv 2) (pa_cons pe_int (pa_cons (pe_op op_mul pe_int (pv 1)) pa_nil))))))))), ?_⟩
  have fin : ∀ cell : Int, (∃ x, (V.int cell) = .int x) := fun c => ⟨c, rfl⟩
  refine ⟨_, rfl, _, rfl, a, _, rfl, .inl hS, _, _, rfl, rfl, _, rfl, ?_⟩
  refine ite2 (fun c => ?_) (fun c => ?_)
  · have c' : k < (((ns.map V.int).length : Nat) : Int) := of_decide_eq_true c
    rw [List.length_map] at c'
    obtain ⟨v, hv⟩ := int_at k0 c'
    refine ⟨_, rfl, _, rfl, a, _, _, _, rfl, rfl, hS, hv, ?_⟩
    refine ⟨_, rfl, _, _, rfl, rfl, ⟨by decide, by decide, by decide⟩, _, _, rfl, rfl, _, rfl, ?_⟩
    refine ite2 (fun _ => ?_) (fun _ => ?_)
    · exact ⟨_, rfl, _, _, rfl, rfl, ⟨by decide, by decide, by decide⟩, _, _, rfl, rfl, le_line (Nat.le_of_ble_eq_true rfl), fun p np => q p _ 1 0 np (by decide) (by decide)⟩
    · exact ⟨_, rfl, _, rfl, _, _, rfl, rfl, .inl ⟨by decide, by decide⟩, le_line (Nat.le_of_ble_eq_true rfl), fun p np => q p _ 0 (11 * k) np (by omega) (by omega)⟩
  · refine ⟨_, rfl, _, _, rfl, rfl, ⟨by decide, by decide, by decide⟩, _, _, rfl, rfl, _, rfl, ?_⟩
    refine ite2 (fun _ => ?_) (fun _ => ?_)
    · exact ⟨_, rfl, _, _, rfl, rfl, ⟨by decide, by decide, by decide⟩, _, _, rfl, rfl, le_line (Nat.le_of_ble_eq_true rfl), fun p np => q p _ 1 0 np (by decide) (by decide)⟩
    · exact ⟨_, rfl, _, rfl, _, _, rfl, rfl, .inl ⟨by decide, by decide⟩, le_line (Nat.le_of_ble_eq_true rfl), fun p np => q p _ 0 (11 * k) np (by omega) (by omega)⟩
abbrev s__law_take : Stmt := topS 53
abbrev N__law_take : List Str := ["pool", "many", "found", "step", "mark"]
theorem sc__law_take : FnScope N__law_take ["pool", "many"] (defScope s__law_take) := ⟨rfl, rfl, rfl, by decide +kernel, rfl, by decide +kernel, by decide +kernel⟩

theorem ok__law_take (T : Txt K mg) (D : IsDef K mg "_law_take" s__law_take ["pool", "many"]) : Cal P w K mg base CX0 1 "_law_take" ["pool", "many"] spTakeL := by
  refine D.cal sc__law_take (fun vs H Q E h => ?_) (fun f cdv A outer s H vs Q E hr h => ?_)
  · obtain ⟨p, r, m, c, many, rfl, _⟩ := h
    rfl
  obtain ⟨p, r, m, c, many, rfl, hp, m0, mb, c0, c1, q⟩ := h
  refine ⟨_, (pss_cons (ps_if (pt_cmpR op_eq (pe_ix (r := rIxL K) ix_list (pv 0) pe_int (fun _ _ => rfl)) pe_int (nomark _))
        (pss_cons (ps_set (i := 2) sc__law_take.nd rfl (Or.inl rfl) (pe_op op_mod (pe_ix (r := rIxL K) ix_list (pv 0) pe_int (fun _ _ => rfl)) (pv 1)))
      (pss_cons (ps_asg (pe_op op_fdivW (pe_ix (r := rIxL K) ix_list (pv 0) pe_int (fun _ _ => rfl)) (pv 1)) (pg_sub (pv 0) pe_int set_list))
      (pss_one (ps_ret (pv 2)))))
        pss_nil)
      (pss_cons (ps_asg (pe_op op_add (pe_ix (r := rIxL K) ix_list (pv 0) pe_int (fun _ _ => rfl)) pe_int) (pg_sub (pv 0) pe_int set_list))
      (pss_cons (ps_set (i := 3) sc__law_take.nd rfl (Or.inl rfl) (pe_ix (r := rIxL K) ix_list (pv 0) pe_int (fun _ _ => rfl)))
      (pss_cons (ps_set (i := 4) sc__law_take.nd rfl (Or.inl rfl) (pe_op op_mul (pe_op op_add (pe_op op_mod (pe_ix (r := rIxL K) ix_list (pv 0) pe_int (fun _ _ => rfl)) pe_int) pe_int) (pe_op op_add (pe_op op_mul pe_int (pv 3)) pe_int)))
      (pss_cons (ps_set (i := 4) sc__law_take.nd rfl (Or.inl rfl) (pe_op op_add (pv 4) (pe_op op_mul (pe_op op_mul pe_int (pv 3)) (pv 3))))
      (pss_cons (ps_set (i := 4) sc__law_take.nd rfl (Or.inl rfl) (pe_op op_mod (pe_op op_mul (pv 4) (pv 4)) pe_int))
      (pss_one (ps_ret (pe_op op_mod (pe_op op_fdivW (pe_op op_mod (pe_op op_mul (pv 4) (pe_op op_add (pv 4) pe_int)) pe_int) pe_int) (pv 1)))))))))), ?_⟩
  have at0 : ∀ r m c : Int, atI (pl r m c) 0 = some (.int r) := fun _ _ _ => rfl
  have at1 : ∀ r m c : Int, atI (pl r m c) 1 = some (.int m) := fun _ _ _ => rfl
  have at2 : ∀ r m c : Int, atI (pl r m c) 2 = some (.int c) := fun _ _ _ => rfl
  refine ⟨_, rfl, p, _, _, _, rfl, rfl, SqL.of hp, at1 r m c, rfl, _, rfl, ?_⟩
  refine ite2 (fun cm => ?_) (fun cm => ?_)
  · refine ⟨_, rfl, p, _, _, _, rfl, rfl, SqL.of hp, at0 r m c, _, rfl, _, _, rfl, rfl, m0, ?_⟩
    refine ⟨_, rfl, p, _, _, _, rfl, rfl, SqL.of hp, at0 r m c, _, rfl, _, _, rfl, rfl, wide_div m0 mb (by decide) (by decide), _, rfl, p, _, 0, 0, rfl, rfl, hp, rfl, ?_⟩
    exact ⟨_, rfl, q _ _ (r / many) c (fun b hb => upd_ne hb) upd_same c0 (by omega) (Int.emod_nonneg _ (by omega)) (Int.emod_lt_of_pos _ m0)⟩
  · refine ⟨_, rfl, p, _, _, _, rfl, rfl, SqL.of hp, at2 r m c, _, _, rfl, rfl, _, rfl, p, _, 2, 2, rfl, rfl, hp, rfl, ?_⟩
    have hp1 : upd H p (.lst (pl r m (c + 1))) p = some (.lst (pl r m (c + 1))) := upd_same
    refine ⟨_, rfl, p, _, _, _, rfl, rfl, SqL.of hp1, at2 r m (c + 1), ?_⟩
    refine ⟨_, rfl, p, _, _, _, rfl, rfl, SqL.of hp1, at0 r m (c + 1), _, _, rfl, rfl, (by show (0 : Int) < 9999999851; decide), _, _, rfl, rfl, _, rfl, _, _, rfl, rfl, .inl ⟨by decide, by decide⟩, _, _, rfl, rfl, _, _, rfl, rfl, ?_⟩
    have y0 : 0 ≤ r % 9999999851 := Int.emod_nonneg _ (by decide)
    have y1 : r % 9999999851 < 9999999851 := Int.emod_lt_of_pos _ (by decide)
    refine ⟨.inl ⟨by show -(2 ^ 64) < r % 9999999851 + 577; omega, by show r % 9999999851 + 577 < 2 ^ 64; omega⟩, ?_⟩
    show gName 4 (V.int ((r % 9999999851 + 577) * (5 * (c + 1) + 23))) _ _ _
    obtain ⟨M, hM, M0, M1⟩ : ∃ M, (r % 9999999851 + 577) * (5 * (c + 1) + 23) = M ∧ 0 ≤ M ∧ M ≤ 10000000428 * 5000028 := ⟨_, rfl, Int.mul_nonneg (by omega) (by omega), Int.mul_le_mul (by omega) (by omega) (by omega) (by decide)⟩
    rw [hM]
    refine ⟨_, rfl, _, rfl, _, _, rfl, rfl, .inl ⟨by decide, by decide⟩, _, rfl, _, _, rfl, rfl, .inr ⟨by show -(2 ^ 64) < c + 1; omega, by show c + 1 < 2 ^ 64; omega⟩, _, _, rfl, rfl, ?_⟩
    show gName 4 (V.int (M + 2711 * (c + 1) * (c + 1))) _ _ _
    obtain ⟨M2, hM2, N0, N1⟩ : ∃ M2, M + 2711 * (c + 1) * (c + 1) = M2 ∧ 0 ≤ M2 ∧ M2 < 2 ^ 64 := by
      have h1 : 0 ≤ 2711 * (c + 1) * (c + 1) := Int.mul_nonneg (by omega) (by omega)
      have h2 : 2711 * (c + 1) * (c + 1) ≤ 2711000000000 * 1000001 := Int.mul_le_mul (by omega) (by omega) (by omega) (by decide)
      exact ⟨_, rfl, by omega, by omega⟩
    rw [hM2]
    refine ⟨_, rfl, _, rfl, _, _, rfl, rfl, .inl ⟨by omega, N1⟩, _, _, rfl, rfl, (by show (0 : Int) < 99999999871; decide), ?_⟩
    show gName 4 (V.int (M2 * M2 % 99999999871)) _ _ _
    have z0 : 0 ≤ M2 * M2 % 99999999871 := Int.emod_nonneg _ (by decide)
    have z1 : M2 * M2 % 99999999871 < 99999999871 := Int.emod_lt_of_pos _ (by decide)
    generalize M2 * M2 % 99999999871 = M3 at z0 z1
    refine ⟨_, rfl, _, rfl, _, _, rfl, rfl, _, _, rfl, rfl, .inl ⟨by omega, by omega⟩, _, _, rfl, rfl, (by show (0 : Int) < 99999999907; decide), _, _, rfl, rfl, ⟨by decide, by decide +kernel⟩, _, rfl, _, _, rfl, rfl, m0, ?_⟩
    exact q _ _ r (c + 1) (fun b hb => upd_ne hb) upd_same (by omega) (Int.le_refl _) (Int.emod_nonneg _ (by omega)) (Int.emod_lt_of_pos _ m0)
end
/-! ### names, leaves, recipes drawn -/
def keysOf (kvs : List (Key × V)) : List Key := kvs.map (·.1)
theorem keys_put_old {kvs : List (Key × V)} {k : Key} {v : V} (h : k ∈ keysOf kvs) : keysOf (putK kvs k v) = keysOf kvs := by
  unfold putK
  rw [if_pos (by
    obtain ⟨kv, hk, e⟩ := List.mem_map.mp h
    exact List.any_eq_true.mpr ⟨kv, hk, decide_eq_true e⟩)]
  unfold keysOf
  rw [List.map_map]
  refine List.map_congr_left fun kv _ => ?_
  show (if kv.1 = k then (kv.1, v) else kv).1 = kv.1
  split <;> rfl
theorem keys_put_new {kvs : List (Key × V)} {k : Key} {v : V} (h : ¬ k ∈ keysOf kvs) : keysOf (putK kvs k v) = keysOf kvs ++ [k] := by
  unfold putK
  rw [if_neg (fun z => by
    obtain ⟨kv, hk, e⟩ := List.any_eq_true.mp z
    exact h (List.mem_map.mpr ⟨kv, hk, of_decide_eq_true e⟩))]
  unfold keysOf
  rw [List.map_append]
  rfl
theorem joinL_nil5 : ∀ l : List (List Nat), TL.joinL [] l = l.flatten
  | [] => rfl
  | [p] => by simp [TL.joinL]
  | p :: q :: r => by
    show p ++ ([] ++ TL.joinL [] (q :: r)) = _
    rw [joinL_nil5 (q :: r)]
    simp
theorem cutS_to (z : List Nat) (k : Nat) : cutS (SX.S z) none (some (k : Int)) = SX.S (z.take k) := by
  have h1 : HT.sIx (SX.S z).length 0 none = 0 := HT.sIx_none _ _
  have h2 : HT.sIx (SX.S z).length (SX.S z).length (some (k : Int)) = min k (SX.S z).length := HT.sIx_nat _ _ _
  unfold cutS
  rw [h1, h2, Nat.sub_zero, List.drop_zero, SX.S_len]
  show (⟨(z.toArray.toList.take (min k z.length)).toArray⟩ : Str) = SX.S (z.take k)
  rw [List.toList_toArray]
  by_cases c : k ≤ z.length
  · rw [Nat.min_eq_left c]
    try rfl
  · rw [Nat.min_eq_right (by omega), List.take_of_length_le (Nat.le_refl _), List.take_of_length_le (by omega)]
    try rfl
def spNamesL : Sp := fun vs H Q _ => ∃ (p : Addr) (r m c : Int), vs = [.ref p] ∧ H p = some (.lst (pl r m c)) ∧ 0 ≤ c ∧ c ≤ 900000 ∧
  ∀ (H' : Hp) (l : Addr) (ns : List (List Nat)) (r' c' : Int), Fr1 p H H' → H' l = some (.lst (txs ns)) → H l = none → 1 ≤ ns.length → ns.length ≤ 7 → (∀ s ∈ ns, Nm s) → ns.Nodup → H' p = some (.lst (pl r' m c')) → 0 ≤ c' → c' ≤ c + 100 → Q (.ref l) H'
section
variable {P : Program} {w : World} {K : PySem.W.Frag} {mg : Str → Option Value} {base : Heap}
abbrev s__law_names : Stmt := topS 54
abbrev N__law_names : List Str := ["pool", "letters", "found", "k", "wide", "word", "at"]
theorem sc__law_names : FnScope N__law_names ["pool"] (defScope s__law_names) := ⟨rfl, rfl, rfl, by decide +kernel, rfl, by decide +kernel, by decide +kernel⟩

theorem ok__law_names (T : Txt K mg) (D : IsDef K mg "_law_names" s__law_names ["pool"]) (C__law_take : Cal P w K mg base CX0 1 "_law_take" ["pool", "many"] spTakeL) : Cal P w K mg base CX0 2 "_law_names" ["pool"] spNamesL := by
  refine D.cal sc__law_names (fun vs H Q E h => ?_) (fun f cdv A outer s H vs Q E hr h => ?_)
  · obtain ⟨p, r, m, c, rfl, _⟩ := h
    rfl
  obtain ⟨p, r, m, c, rfl, hp, c0, c1, q⟩ := h
  have hu : (cxOf CX0 P w K mg base N__law_names "_law_names" (defScope s__law_names) f cdv A outer s H E).nox.A.units + 1 < cLine := Nat.lt_of_le_of_lt (Nat.add_le_add_left (by decide : 1 ≤ 64) _) hr.units
  refine ⟨_, (pss_cons (ps_set (i := 1) sc__law_names.nd rfl (Or.inr rfl) pe_str)
      (pss_cons (ps_set (i := 2) sc__law_names.nd rfl (Or.inl rfl) pe_dnewK)
      (pss_cons (ps_for PassesOwn.never rfl (pi_range1 rfl T.b_range (pa_cons pe_int pa_nil)) (pg_name (i := 3) sc__law_names.nd rfl (Or.inl rfl))
        (pss_cons (ps_set (i := 4) sc__law_names.nd rfl (Or.inr rfl) (pe_ix (r := rIxL K) ix_list (pe_lst (pa_cons pe_int (pa_cons pe_int pa_nil))) (pe_cal C__law_take (hr.mono (by first | decide | omega)) pass0 (pa_cons (pv 0) (pa_cons pe_int pa_nil))) (fun _ _ => rfl)))
      (pss_cons (ps_set (i := 5) sc__law_names.nd rfl (Or.inl rfl) (pe_join pe_str (pe_lc (own := [("at", 6)]) (g := gName 6)  (by rfl) sc__law_names.nd  (pi_range1 rfl T.b_range (pa_cons pe_int pa_nil)) (blkOk_by (own := [("at", 6)]) (N := N__law_names) (sc := defScope s__law_names) (by decide +kernel)) (fun _ _ _ _ _ => (pg_name (i := 6) sc__law_names.nd rfl (Or.inl rfl))) (fun _ _ _ _ _ => pts_nil) (fun _ _ _ _ _ => (pe_item_str (pv 1) (pe_cal C__law_take (hr.mono (by first | decide | omega)) pass0 (pa_cons (pv 0) (pa_cons (pv 4) pa_nil))) (fun _ _ => rfl))))))
      (pss_one (ps_dput hu (pv 2) (pe_slice sl_str (pv 5) po_none (po_some (pe_op op_add pe_int (pe_cal C__law_take (hr.mono (by first | decide | omega)) pass0 (pa_cons (pv 0) (pa_cons pe_int pa_nil)))))) pe_bl rfl)))))
      (pss_one (ps_ret (pe_callTy (call_listD rfl) (by rfl) T.b_list (by decide +kernel) (pa_cons (pv 2) pa_nil))))))), ?_⟩
  refine fun D nD => ?_
  have npD : p ≠ D := ne_of_none hp nD
  have big : ∀ {n : Nat}, n ≤ 30 → ((n : Int)).natAbs < 2 ^ 400 := fun {n} h => by
    have h1 : (2 : Nat) ^ 5 ≤ 2 ^ 400 := Nat.pow_le_pow_right (by decide) (by decide)
    exact Nat.lt_of_lt_of_le (show ((n : Int)).natAbs < 32 by omega) h1
  have hlen : ("abcdefghijklmnopqrstuvwxyz" : Str).length = 26 := by rw [letters_is, SX.S_len]; rfl
  have let26 : ∀ v : Int, 0 ≤ v → v < 26 → ∃ c, ("abcdefghijklmnopqrstuvwxyz" : Str).cps[v.toNat]? = some c ∧ 97 ≤ c ∧ c ≤ 122 := fun v v0 v26 => by
    have hv : v.toNat < letters.length := by show v.toNat < 26; omega
    refine ⟨letters[v.toNat], ?_, letters_ok _ (List.getElem_mem hv)⟩
    rw [letters_is]
    show letters.toArray[v.toNat]? = _
    rw [List.getElem?_toArray, List.getElem?_eq_getElem hv]
  refine ⟨7, rfl, by decide, by decide, for_range (lo := 0) (n := 7) (fun i σ H' => ∃ (v3 v4 v5 v6 : Option V) (kvs : List (Key × V)) (ns : List (List Nat)) (r' c' : Int), σ = [some (.ref p), some (.str "abcdefghijklmnopqrstuvwxyz"), some (.ref D), v3, v4, v5, v6] ∧ Fr2 p D H H' ∧ H' p = some (.lst (pl r' m c')) ∧ 0 ≤ c' ∧ c' ≤ c + 10 * i ∧ H' D = some (.dK kvs) ∧ keysOf kvs = ns.map (fun s => kT (SX.S s)) ∧ ns.length ≤ i ∧ (1 ≤ i → 1 ≤ ns.length) ∧ (∀ s ∈ ns, Nm s) ∧ ns.Nodup) ⟨none, none, none, none, [], [], r, c, rfl, Fr2.of (same_new nD _), by rw [upd_ne npD]; exact hp, c0, by omega, upd_same, rfl, Nat.le_refl _, by omega, fun _ h => (nomatch h), List.nodup_nil⟩ ?_ ?_⟩
  · rintro i σ H1 hi ⟨v3, v4, v5, v6, kvs, ns, r1, c1', rfl, f1, p1, d0, d1, hD1, hk, hnl, hn1, hnm, hnd⟩
    refine ⟨le_line (Nat.le_of_ble_eq_true rfl), fun l nl => ?_⟩
    have pl1 : p ≠ l := ne_of_none p1 nl
    have Dl1 : D ≠ l := ne_of_none hD1 nl
    refine ⟨_, rfl, p, r1, m, c1', 2, rfl, by rw [upd_ne pl1]; exact p1, by decide, big (n := 2) (by decide), d0, by omega, fun H2 w1 r2 c2 k2 p2 e0 e1 w10 w11 => ?_⟩
    have hl2 := (k2 l pl1.symm).trans upd_same
    obtain ⟨x, hx, hat⟩ := one_of (xs := ([.int 2, .int 26] : List V)) w10 w11
    obtain ⟨wd, rfl, wd0, wd26⟩ : ∃ wd : Int, x = .int wd ∧ 0 < wd ∧ wd ≤ 26 := by
      simp only [List.mem_cons, List.not_mem_nil, or_false] at hx
      rcases hx with h | h <;> exact ⟨_, h, by decide, by decide⟩
    refine ⟨l, _, w1, _, rfl, rfl, SqL.of hl2, hat, ?_⟩
    have hD2 : H2 D = some (.dK kvs) := (k2 D npD.symm).trans ((upd_ne Dl1).trans hD1)
    have f2 : Fr2 p D H1 H2 := fun b u n1 n2 e => by rw [k2 b n1]; exact same_new nl _ _ _ e
    refine ⟨⟨_, rfl⟩, 8, rfl, by decide, by decide, fun L nL => lc_range (lo := 0) (n := 8) (fun i H' => ∃ (ss : List Nat) (r' c' : Int), Fr1 p H2 H' ∧ H' p = some (.lst (pl r' m c')) ∧ 0 ≤ c' ∧ c' ≤ c2 + i ∧ H' L = some (.lst (txs (ones ss))) ∧ ss.length = i ∧ ∀ c ∈ ss, 97 ≤ c ∧ c ≤ 122)
      ⟨[], r2, c2, Fr1.of (same_new nL _), by rw [upd_ne (ne_of_none p2 nL)]; exact p2, e0, by omega, upd_same, rfl, fun _ h => (nomatch h)⟩ ?_ ?_⟩
    · rintro j H3 hj ⟨ss, r3, c3, f3, p3, g0, g1, hL3, hn, hc⟩
      have nLp : L ≠ p := (ne_of_none p2 nL).symm
      refine ⟨rfl, _, rfl, _, rfl, _, rfl, p, r3, m, c3, wd, rfl, p3, wd0, ?_, g0, by omega, fun H4 v r4 c4 k4 p4 i0 i1 v0 v26 => ?_⟩
      · have := big (n := wd.toNat) (by omega)
        rw [show ((wd.toNat : Nat) : Int) = wd by omega] at this
        exact this
      obtain ⟨cc, hcc, hc1⟩ := let26 v v0 (by omega)
      refine ⟨_, v, cc, rfl, rfl, v0, by omega, by rw [hlen]; omega, hcc, _, (k4 L nLp).trans hL3, lt_line (by rw [txs_len, ones_len]; omega), ss ++ [cc], r4, c4, fun b u n e => ?_, by rw [upd_ne nLp.symm]; exact p4, i0, by omega, ?_, by rw [List.length_append, hn]; rfl, fun x hx => ?_⟩
      · have nb : b ≠ L := fun z => by rw [z, nL] at e; cases e
        rw [upd_ne nb, k4 b n]
        exact f3 b u n e
      · rw [upd_same]
        unfold ones
        rw [List.map_append, txs_app]
        rfl
      · rcases List.mem_append.mp hx with h | h
        · exact hc x h
        · rw [List.mem_singleton.mp h]
          exact hc1
    rintro H3 ⟨ss, r3, c3, f3, p3, g0, g1, hL3, hn, hc⟩
    have ee : ("" : Str) = SX.S [] := by decide +kernel
    have ej : Txt.join "" ((ones ss).map SX.S) = SX.S ss := by
      rw [ee]
      refine (SX.join_S [] (ones ss)).trans ?_
      rw [joinL_nil5, ones_flat]
    refine ⟨"", L, (ones ss).map SX.S, rfl, rfl, .inl (SqL.of hL3), ?_, ?_⟩
    · rw [ones_sum, List.length_map, ones_len, ee, SX.S_len]
      show ss.length + ss.length * 0 ≤ 16777216
      omega
    rw [ej]
    have hD3 := f3 D _ npD.symm hD2
    have n10 : ∀ b u, H b = some u → b ≠ p → b ≠ D → H3 b = some u := fun b u e n1 n2 => f3 b u n1 (f2 b u n1 n2 (f1 b u n1 n2 e))
    refine ⟨_, rfl, _, rfl, _, rfl, p, r3, m, c3, 8, rfl, p3, by decide, big (n := 8) (by decide), g0, by omega, fun H4 v r4 c4 k4 p4 i0 i1 v0 v8 => ⟨_, _, rfl, rfl, 1 + v, rfl, _, rfl, le_line (by rw [SX.S_len]; omega), ?_⟩⟩
    obtain ⟨kn, hkn, kn1, kn8⟩ : ∃ kn : Nat, 1 + v = (kn : Int) ∧ 1 ≤ kn ∧ kn ≤ 8 := ⟨(1 + v).toNat, by omega, by omega, by omega⟩
    have hcut : cutS (SX.S ss) none (some (1 + v)) = SX.S (ss.take kn) := by rw [hkn]; exact cutS_to ss kn
    have hD4 : H4 D = some (.dK kvs) := (k4 D npD.symm).trans hD3
    have hkl : kvs.length = ns.length := by have := congrArg List.length hk; rw [List.length_map] at this; unfold keysOf at this; rw [List.length_map] at this; exact this
    have hNw : Nm (ss.take kn) := ⟨by rw [List.length_take]; omega, by rw [List.length_take]; omega, fun x hx => hc x (List.mem_of_mem_take hx)⟩
    rw [hcut]
    refine ⟨D, _, rfl, DPut.k (k := kT (SX.S (ss.take kn))) hD4 (lt_line (by omega)), ?_⟩
    have fin : Fr2 p D H (upd H4 D (.dK (putK kvs (kT (SX.S (ss.take kn))) (.bl true)))) := fun b u n1 n2 e => by
      rw [upd_ne n2, k4 b n1]
      exact n10 b u e n1 n2
    by_cases hin : ss.take kn ∈ ns
    · refine ⟨_, _, _, _, _, ns, r4, c4, rfl, fin, by rw [upd_ne npD]; exact p4, i0, by omega, upd_same, ?_, by omega, fun _ => List.length_pos_of_mem hin, hnm, hnd⟩
      rw [keys_put_old (by rw [hk]; exact List.mem_map.mpr ⟨_, hin, rfl⟩)]
      exact hk
    · refine ⟨_, _, _, _, _, ns ++ [ss.take kn], r4, c4, rfl, fin, by rw [upd_ne npD]; exact p4, i0, by omega, upd_same, ?_, by rw [List.length_append]; show ns.length + 1 ≤ i + 1; omega, fun _ => by rw [List.length_append]; show 1 ≤ ns.length + 1; omega, fun s hs => ?_, ?_⟩
      · rw [keys_put_new (fun z => by
          rw [hk] at z
          obtain ⟨t, ht, e⟩ := List.mem_map.mp z
          exact hin (by rw [← kS_inj e]; exact ht)), hk, List.map_append]
        rfl
      · rcases List.mem_append.mp hs with h | h
        · exact hnm s h
        · rw [List.mem_singleton.mp h]; exact hNw
      · refine List.nodup_append.mpr ⟨hnd, by simp, fun a ha b hb e => ?_⟩
        rw [List.mem_singleton.mp hb] at e
        exact hin (by rw [← e]; exact ha)
  · rintro σ H1 ⟨v3, v4, v5, v6, kvs, ns, r1, c1', rfl, f1, p1, d0, d1, hD1, hk, hnl, hn1, hnm, hnd⟩
    refine ⟨_, rfl, D, kvs, rfl, .inl hD1, fun l nl => ?_⟩
    have ev : (kvs.map fun kv => kV kv.1) = txs ns := by
      have : (kvs.map fun kv => kV kv.1) = (keysOf kvs).map kV := by unfold keysOf; rw [List.map_map]; rfl
      rw [this, hk, List.map_map]
      unfold txs
      rw [List.map_map]
      rfl
    rw [ev]
    have s1 := same_new nl (.lst (txs ns))
    have nlH : H l = none := by
      cases e : H l with
      | none => rfl
      | some u =>
        have n1 : l ≠ p := fun z => by rw [z, p1] at nl; cases nl
        have n2 : l ≠ D := fun z => by rw [z, hD1] at nl; cases nl
        rw [f1 l u n1 n2 e] at nl
        cases nl
    exact q _ l ns r1 c1' (fun b u n1 e => s1 _ _ (f1 b u n1 (fun z => by rw [z, nD] at e; cases e) e)) upd_same nlH (hn1 (by decide)) hnl hnm hnd (by rw [upd_ne (ne_of_none p1 nl)]; exact p1) d0 (by omega)
end
/-! ### leaves -/
/-- times stands over leaves alone -/
def Rcp.Tm : Rcp → Prop
  | .num _ => True
  | .read _ => True
  | .two k a b => a.Tm ∧ b.Tm ∧ (k = .times → a.dep ≤ 1 ∧ b.dep ≤ 1)
  | .pick a b c => a.Tm ∧ b.Tm ∧ c.Tm
  | .choose a _ => a.Tm
theorem tm_leaf : ∀ {x : Rcp}, x.dep ≤ 1 → x.Tm
  | .num _, _ => trivial
  | .read _, _ => trivial
  | .two _ a b, h => by have := dep_pos a; have h' : max a.dep b.dep + 1 ≤ 1 := h; omega
  | .pick a b c, h => by have := dep_pos a; have h' : max a.dep (max b.dep c.dep) + 1 ≤ 1 := h; omega
  | .choose a _, h => by have := dep_pos a; have h' : a.dep + 1 ≤ 1 := h; omega
def szt : Nat → Nat
  | 0 => 1
  | n + 1 => 3 * szt n + 1
theorem szt_pos : ∀ n, 1 ≤ szt n
  | 0 => by decide
  | n + 1 => by show 1 ≤ 3 * szt n + 1; omega
theorem txs_pl {ns : List (List Nat)} {r m c : Int} : ¬ txs ns = pl r m c := fun z => by
  cases ns with
  | nil => cases z
  | cons a l =>
    have h := (List.cons.inj (show V.str (SX.S a) :: txs l = V.int r :: [.int m, .int c] from z)).1
    cases h
def spLeafL : Sp := fun vs H Q _ => ∃ (p N : Addr) (r m c most : Int) (ns : List (List Nat)), vs = [.ref p, .ref N, .int most] ∧ H p = some (.lst (pl r m c)) ∧ H N = some (.lst (txs ns)) ∧ 1 ≤ ns.length ∧ ns.length ≤ 7 ∧ (∀ s ∈ ns, Nm s) ∧ 0 ≤ most ∧ most < 2 ^ 100 ∧ 0 ≤ c ∧ c ≤ 990000 ∧
  ∀ (H' : Hp) (v : V) (x : Rcp) (r' c' : Int), Fr1 p H H' → Rec H' x v → x.Nb → (x.dep ≤ 1 ∧ x.siz ≤ 1) → (∀ s ∈ x.nms, s ∈ ns) → H' p = some (.lst (pl r' m c')) → 0 ≤ c' → c' ≤ c + 10 → Q v H'
theorem small400 {x : Int} (h0 : -(2 ^ 100) - 8 ≤ x) (h1 : x ≤ 2 ^ 101 + 8) : x.natAbs < 2 ^ 400 := by
  have h2 : (2 : Nat) ^ 102 ≤ 2 ^ 400 := Nat.pow_le_pow_right (by decide) (by decide)
  exact Nat.lt_of_lt_of_le (show x.natAbs < 2 ^ 102 by omega) h2
section
variable {P : Program} {w : World} {K : PySem.W.Frag} {mg : Str → Option Value} {base : Heap}
theorem names_dp (K : PySem.W.Frag) {H : Hp} {N : Addr} {ns : List (List Nat)} (h : H N = some (.lst (txs ns))) : Dp K H (.ref N) (.list (Th.pyL (nmsTh ns))) := by
  have key : ∀ ns : List (List Nat), DpAll K H (txs ns) (Th.pyL (nmsTh ns)) := fun ns => by
    induction ns with
    | nil => exact .nil
    | cons a l ih => exact .cons (.str _) ih
  exact .lst (SqL.of h) (key ns)
theorem names_shaped {ns : List (List Nat)} (h : ∀ s ∈ ns, Nm s) : SeqAt.shaped (.list (Th.pyL (nmsTh ns))) = true := by
  have h2 := nms_py (ns := ns) h
  show (PyData.canLayAll0 (Th.pyL (nmsTh ns)) && decide (PyData.depthAll (Th.pyL (nmsTh ns)) + 1 ≤ 64)) = true
  rw [h2.1, decide_eq_true (by have := h2.2; omega)]
  rfl
theorem names_empty {ns : List (List Nat)} (h : 1 ≤ ns.length) : PyData.eqv (.list (Th.pyL (nmsTh ns))) (.list []) = false := by
  cases ns with
  | nil => exact absurd h (by decide)
  | cons a l => rfl
abbrev s__law_leaf : Stmt := topS 55
abbrev N__law_leaf : List Str := ["pool", "names", "most", "some", "number"]
theorem sc__law_leaf : FnScope N__law_leaf ["pool", "names", "most"] (defScope s__law_leaf) := ⟨rfl, rfl, rfl, by decide +kernel, rfl, by decide +kernel, by decide +kernel⟩

theorem ok__law_leaf (T : Txt K mg) (D : IsDef K mg "_law_leaf" s__law_leaf ["pool", "names", "most"]) (C__law_take : Cal P w K mg base CX0 1 "_law_take" ["pool", "many"] spTakeL) : Cal P w K mg base CX0 2 "_law_leaf" ["pool", "names", "most"] spLeafL := by
  refine D.cal sc__law_leaf (fun vs H Q E h => ?_) (fun f cdv A outer s H vs Q E hr h => ?_)
  · obtain ⟨p, N, r, m, c, most, ns, rfl, _⟩ := h
    rfl
  obtain ⟨p, N, r, m, c, most, ns, rfl, hp, hN, n1, n7, hnm, m0, mb, c0, c1, q⟩ := h
  refine ⟨_, (pss_cons (ps_set (i := 3) sc__law_leaf.nd rfl (Or.inl rfl) (pe_lst (pa_cons (pe_cal C__law_take (hr.mono (by first | decide | omega)) pass0 (pa_cons (pv 0) (pa_cons pe_int pa_nil))) (pa_cons (pe_op op_sub (pe_cal C__law_take (hr.mono (by first | decide | omega)) pass0 (pa_cons (pv 0) (pa_cons pe_int pa_nil))) pe_int) (pa_cons (pe_op op_sub (pe_cal C__law_take (hr.mono (by first | decide | omega)) pass0 (pa_cons (pv 0) (pa_cons (pe_op op_add (pe_op op_mul pe_int (pv 2)) pe_int) pa_nil))) (pv 2)) pa_nil)))))
      (pss_cons (ps_set (i := 4) sc__law_leaf.nd rfl (Or.inl rfl) (pe_ix (r := rIxL K) ix_list (pv 3) (pe_cal C__law_take (hr.mono (by first | decide | omega)) pass0 (pa_cons (pv 0) (pa_cons pe_int pa_nil))) (fun _ _ => rfl)))
      (pss_cons (ps_if (PW.pt (pw_or (pt_cmpR (op_eqD hr.units) (pv 1) (pe_lst pa_nil) (nomark _)) (pw_or1 (pt_cmpR op_eq (pe_cal C__law_take (hr.mono (by first | decide | omega)) pass0 (pa_cons (pv 0) (pa_cons pe_int pa_nil))) pe_int (nomark _)))))
        (pss_one (ps_ret (pe_tup (pa_cons pe_str (pa_cons (pv 4) pa_nil)))))
        pss_nil)
      (pss_one (ps_ret (pe_tup (pa_cons pe_str (pa_cons (pe_ix (r := rIxL K) ix_list (pv 1) (pe_cal C__law_take (hr.mono (by first | decide | omega)) pass0 (pa_cons (pv 0) (pa_cons (pe_callB call_len_seq (by rfl) T.b_len PySem.boot_len (pa_cons (pv 1) pa_nil)) pa_nil))) (fun _ _ => rfl)) pa_nil)))))))), ?_⟩
  have nNp : N ≠ p := fun z => by rw [z, hp] at hN; exact txs_pl (HO.lst.inj (Option.some.inj hN)).symm
  refine ⟨_, rfl, p, r, m, c, 4, rfl, hp, by decide, small400 (by decide) (by decide), c0, by omega, fun H1 v1 r1 c1' k1 p1 d0 d1 v10 v11 => ?_⟩
  refine ⟨_, rfl, p, r1, m, c1', 9, rfl, p1, by decide, small400 (by decide) (by decide), d0, by omega, fun H2 v2 r2 c2 k2 p2 e0 e1 v20 v21 => ?_⟩
  refine ⟨_, _, rfl, rfl, _, rfl, _, rfl, _, _, rfl, rfl, .inl ⟨by decide, by decide⟩, _, _, rfl, rfl, p, r2, m, c2, _, rfl, p2, by omega, small400 (by omega) (by omega), e0, by omega, fun H3 v3 r3 c3 k3 p3 f0 f1 v30 v31 => ?_⟩
  refine ⟨_, rfl, _, _, rfl, rfl, le_line (Nat.le_of_ble_eq_true rfl), fun L nL => ?_⟩
  have npL : p ≠ L := ne_of_none p3 nL
  refine ⟨_, rfl, _, rfl, p, r3, m, c3, 3, rfl, by rw [upd_ne npL]; exact p3, by decide, small400 (by decide) (by decide), f0, by omega, fun H4 v4 r4 c4 k4 p4 g0 g1 v40 v41 => ?_⟩
  have hL4 := (k4 L npL.symm).trans upd_same
  have f04 : Fr1 p H H4 := fun b u n e => by
    rw [k4 b n]
    refine same_new nL _ _ _ ?_
    rw [k3 b n, k2 b n, k1 b n]
    exact e
  obtain ⟨x, hx, hat⟩ := one_of (xs := ([.int v1, .int (v2 - 4), .int (v3 - most)] : List V)) v40 v41
  obtain ⟨num, rfl, hnum⟩ : ∃ num : Int, x = .int num ∧ num.natAbs < 2 ^ 400 := by
    simp only [List.mem_cons, List.not_mem_nil, or_false] at hx
    rcases hx with h | h | h
    · exact ⟨_, h, small400 (by omega) (by omega)⟩
    · exact ⟨_, h, small400 (by omega) (by omega)⟩
    · exact ⟨_, h, small400 (by omega) (by omega)⟩
  refine ⟨L, _, v4, _, rfl, rfl, SqL.of hL4, hat, ?_⟩
  have hN4 := f04 N _ nNp hN
  refine ⟨_, rfl, le_line (Nat.le_of_ble_eq_true rfl), fun E1 nE => ?_⟩
  have sE := same_new nE (.lst [])
  have npE : p ≠ E1 := ne_of_none p4 nE
  refine ⟨_, _, names_dp K (sE _ _ hN4), .lst (SqL.of upd_same) .nil, names_shaped hnm, rfl, _, rfl, ?_⟩
  rw [names_empty n1]
  refine iteF ?_
  refine ⟨_, rfl, p, r4, m, c4, 3, rfl, by rw [upd_ne npE]; exact p4, by decide, small400 (by decide) (by decide), g0, by omega, fun H5 v5 r5 c5 k5 p5 h0 h1 v50 v51 => ?_⟩
  have f05 : Fr1 p H H5 := fun b u n e => by
    rw [k5 b n]
    exact sE _ _ (f04 b u n e)
  refine ⟨rfl, _, rfl, ?_⟩
  refine ite2 (fun _ => ?_) (fun _ => ?_)
  · refine ⟨_, rfl, le_line (Nat.le_of_ble_eq_true rfl), fun t nt => ?_⟩
    exact q _ (.ref t) (.num num) r5 c5 (f05.trans (Fr1.of (same_new nt _))) ⟨t, rfl, upd_same⟩ hnum ⟨Nat.le_refl _, Nat.le_refl _⟩ (fun _ h => (nomatch h)) (by rw [upd_ne (ne_of_none p5 nt)]; exact p5) h0 (by omega)
  · have hN5 := f05 N _ nNp hN
    refine ⟨_, rfl, _, rfl, _, rfl, N, _, rfl, .inl (SqL.of hN5), p, r5, m, c5, _, rfl, p5, ?_, ?_, h0, by omega, fun H6 v6 r6 c6 k6 p6 i0 i1 v60 v61 => ?_⟩
    · rw [txs_len]; omega
    · rw [txs_len]; exact small400 (by omega) (by omega)
    have hN6 := (k6 N nNp).trans hN5
    rw [txs_len] at v61
    have hi : v6.toNat < ns.length := by omega
    refine ⟨N, _, v6, .str (SX.S ns[v6.toNat]), rfl, rfl, SqL.of hN6, atI_at v60 (txs_get hi), le_line (Nat.le_of_ble_eq_true rfl), fun t nt => ?_⟩
    have hm := List.getElem_mem hi
    exact q _ (.ref t) (.read ns[v6.toNat]) r6 c6 (fun b u n e => same_new nt _ _ _ (by rw [k6 b n]; exact f05 b u n e)) ⟨t, rfl, upd_same⟩ (hnm _ hm) ⟨Nat.le_refl _, Nat.le_refl _⟩ (fun s hs => by rw [List.mem_singleton.mp hs]; exact hm) (by rw [upd_ne (ne_of_none p6 nt)]; exact p6) i0 (by omega)
end
/-! ### parts and recipes drawn -/
theorem call_len_seqK {X : Cx} {K : PySem.W.Frag} (h : X.K = K) : CallR X (.builtin "len") (fun xs H Q => ∃ p ys, xs = [V.ref p] ∧ (SqL K H p ys ∨ SqT K H p ys) ∧ Q (V.int (ys.length : Int)) H) := by
  subst h
  exact call_len_seq
def cst : Nat → Int
  | 0 => 12
  | n + 1 => 3 * cst n + 15
theorem cst_pos : ∀ n, 0 ≤ cst n
  | 0 => by decide
  | n + 1 => by have := cst_pos n; show 0 ≤ 3 * cst n + 15; omega
def spPartL (j : Nat) : Sp := fun vs H Q _ => ∃ (p N : Addr) (r m c most : Int) (d : Nat) (ns : List (List Nat)), vs = [.ref p, .ref N, .int (d : Int), .int most] ∧ d < j ∧ H p = some (.lst (pl r m c)) ∧ H N = some (.lst (txs ns)) ∧ 1 ≤ ns.length ∧ ns.length ≤ 7 ∧ (∀ s ∈ ns, Nm s) ∧ 0 ≤ most ∧ most < 2 ^ 100 ∧ 0 ≤ c ∧ c + cst d ≤ 950000 ∧
  ∀ (H' : Hp) (v : V) (x : Rcp) (r' c' : Int), Fr1 p H H' → Rec H' x v → x.Nb → (x.dep ≤ d + 1 ∧ x.siz ≤ szt d ∧ x.Tm) → (∀ s ∈ x.nms, s ∈ ns) → H' p = some (.lst (pl r' m c')) → 0 ≤ c' → c' ≤ c + cst d → Q v H'
theorem kind3 {n : Int} (h0 : 0 ≤ n) (h : n < 3) : ∃ k : Kd, atI ([.str "plus", .str "minus", .str "most"] : List V) n = some (.str k.name) ∧ k ≠ .times := by
  have e : n = 0 ∨ n = 1 ∨ n = 2 := by omega
  rcases e with e | e | e <;> subst e
  · exact ⟨.plus, rfl, fun z => nomatch z⟩
  · exact ⟨.minus, rfl, fun z => nomatch z⟩
  · exact ⟨.most, rfl, fun z => nomatch z⟩
section
variable {P : Program} {w : World} {K : PySem.W.Frag} {mg : Str → Option Value} {base : Heap}
abbrev s__law_part : Stmt := topS 56
abbrev N__law_part : List Str := ["pool", "names", "deep", "most", "kind", "one", "some", "other", "k"]
theorem sc__law_part : FnScope N__law_part ["pool", "names", "deep", "most"] (defScope s__law_part) := ⟨rfl, rfl, rfl, by decide +kernel, rfl, by decide +kernel, by decide +kernel⟩

theorem ok__law_part (T : Txt K mg) (D : IsDef K mg "_law_part" s__law_part ["pool", "names", "deep", "most"]) (C_take : Cal P w K mg base CX0 1 "_law_take" ["pool", "many"] spTakeL) (C_leaf : Cal P w K mg base CX0 2 "_law_leaf" ["pool", "names", "most"] spLeafL) : ∀ j, Cal P w K mg base CX0 (j + 2) "_law_part" ["pool", "names", "deep", "most"] (spPartL j)
  | 0 => cal_none D fun vs H Q E h => by
    obtain ⟨_, _, _, _, _, _, d, _, _, hd, _⟩ := h
    omega
  | j + 1 => by
    have C__law_part := ok__law_part T D C_take C_leaf j
    have C__law_take := C_take.mono (show 1 ≤ j + 2 by omega)
    have C__law_leaf := C_leaf.mono (show 2 ≤ j + 2 by omega)
    refine D.cal sc__law_part (fun vs H Q E h => ?_) (fun f cdv A outer s H vs Q E hr h => ?_)
    · obtain ⟨p, N, r, m, c, most, d, ns, rfl, _⟩ := h
      rfl
    obtain ⟨p, N, r, m, c, most, d, ns, rfl, hdj, hp, hN, n1, n7, hnm, m0, mb, c0, c1, q⟩ := h
    refine ⟨_, (pss_cons (ps_set (i := 4) sc__law_part.nd rfl (Or.inl rfl) (pe_cal C__law_take (hr.mono (by first | decide | omega)) pass0 (pa_cons (pv 0) (pa_cons pe_int pa_nil))))
      (pss_cons (ps_if (PW.pt (pw_or (pt_cmpR op_eq (pv 2) pe_int (nomark _)) (pw_or1 (pt_cmpR op_lt (pv 4) pe_int (nomark _)))))
        (pss_one (ps_ret (pe_cal C__law_leaf (hr.mono (by first | decide | omega)) pass0 (pa_cons (pv 0) (pa_cons (pv 1) (pa_cons (pv 3) pa_nil))))))
        pss_nil)
      (pss_cons (ps_set (i := 5) sc__law_part.nd rfl (Or.inl rfl) (pe_cal C__law_part (hr.mono (by first | decide | omega)) pass0 (pa_cons (pv 0) (pa_cons (pv 1) (pa_cons (pe_op op_sub (pv 2) pe_int) (pa_cons (pv 3) pa_nil))))))
      (pss_cons (ps_if (PW.pt (pw_and (pt_cmpR op_lt (pv 4) pe_int (nomark _)) (pw_and1 (pt_cmpR (op_neD hr.units) (pv 1) (pe_lst pa_nil) (nomark _)))))
        (pss_cons (ps_setLc (i := 6) (own := [("k", 8)]) (g := gName 8)  (by rfl) sc__law_part.nd rfl rfl (sw_true rfl rfl rfl (by decide +kernel)) (pi_range1 rfl T.b_range (pa_cons (pe_op op_add pe_int (pe_cal C__law_take (hr.mono (by first | decide | omega)) pass0 (pa_cons (pv 0) (pa_cons pe_int pa_nil)))) pa_nil)) (blkOk_by (own := [("k", 8)]) (N := N__law_part) (sc := defScope s__law_part) (by decide +kernel)) (fun _ _ _ _ _ => (pg_name (i := 8) sc__law_part.nd rfl (Or.inl rfl))) (fun _ _ _ _ _ => pts_nil) (fun _ _ _ _ _ => (pe_ix (r := rIxL K) ix_list (pv 1) (pe_cal C__law_take (hr.mono (by first | decide | omega)) pass0 (pa_cons (pv 0) (pa_cons (pe_callB (call_len_seqK (K := K) rfl) (by rfl) T.b_len PySem.boot_len (pa_cons (pv 1) pa_nil)) pa_nil))) (fun _ _ => rfl))))
      (pss_one (ps_ret (pe_tup (pa_cons pe_str (pa_cons (pv 5) (pa_cons (pe_callTy call_tuple_of (by rfl) T.b_tuple (by decide +kernel) (pa_cons (pv 6) pa_nil)) pa_nil)))))))
        pss_nil)
      (pss_cons (ps_set (i := 7) sc__law_part.nd rfl (Or.inl rfl) (pe_cal C__law_part (hr.mono (by first | decide | omega)) pass0 (pa_cons (pv 0) (pa_cons (pv 1) (pa_cons (pe_op op_sub (pv 2) pe_int) (pa_cons (pv 3) pa_nil))))))
      (pss_cons (ps_if (pt_cmpR op_lt (pv 4) pe_int (nomark _))
        (pss_one (ps_ret (pe_tup (pa_cons pe_str (pa_cons (pv 5) (pa_cons (pv 7) (pa_cons (pe_cal C__law_part (hr.mono (by first | decide | omega)) pass0 (pa_cons (pv 0) (pa_cons (pv 1) (pa_cons (pe_op op_sub (pv 2) pe_int) (pa_cons (pv 3) pa_nil))))) pa_nil)))))))
        pss_nil)
      (pss_cons (ps_if (PW.pt (pw_and (pt_cmpR op_eq (pv 2) pe_int (nomark _)) (pw_and1 (pt_cmpR op_eq (pv 4) pe_int (nomark _)))))
        (pss_one (ps_ret (pe_tup (pa_cons pe_str (pa_cons (pv 5) (pa_cons (pv 7) pa_nil))))))
        pss_nil)
      (pss_one (ps_ret (pe_tup (pa_cons (pe_ix (r := rIxL K) ix_list (pe_lst (pa_cons pe_str (pa_cons pe_str (pa_cons pe_str pa_nil)))) (pe_op op_mod (pv 4) pe_int) (fun _ _ => rfl)) (pa_cons (pv 5) (pa_cons (pv 7) pa_nil))))))))))))), ?_⟩
    have nNp : N ≠ p := fun z => by rw [z, hp] at hN; exact txs_pl (HO.lst.inj (Option.some.inj hN)).symm
    have hcd : 12 ≤ cst d := by
      cases d with
      | zero => decide
      | succ d => have := cst_pos d; show 12 ≤ 3 * cst d + 15; omega
    refine ⟨_, rfl, p, r, m, c, 10, rfl, hp, by decide, small400 (by decide) (by decide), c0, by omega, fun H1 kd r1 c1' k1 p1 d0 d1 kd0 kd1 => ?_⟩
    have f1 : Fr1 p H H1 := fun b u n e => by rw [k1 b n]; exact e
    have hN1 := f1 N _ nNp hN
    have lf : ∀ {x : Rcp}, (x.dep ≤ 1 ∧ x.siz ≤ 1) → (x.dep ≤ d + 1 ∧ x.siz ≤ szt d ∧ x.Tm) := fun {x} h => ⟨by omega, by have := szt_pos d; omega, tm_leaf h.1⟩
    refine ⟨_, rfl, rfl, _, rfl, ?_⟩
    by_cases dz : d = 0
    · refine iteY (by rw [dz]; rfl) ?_
      refine ⟨_, rfl, _, rfl, _, rfl, p, N, r1, m, c1', most, ns, rfl, p1, hN1, n1, n7, hnm, m0, mb, d0, by omega, fun H2 v x r2 c2 f2 hv hb hd hs p2 e0 e1 => ?_⟩
      exact q H2 v x r2 c2 (f1.trans f2) hv hb (lf hd) hs p2 e0 (by omega)
    refine iteN (fun z => dz (by have := V.int.inj z; omega)) ?_
    refine ⟨_, rfl, _, _, rfl, rfl, _, rfl, ?_⟩
    by_cases k2 : kd < 2
    · refine iteY k2 ?_
      refine ⟨_, rfl, _, rfl, _, rfl, p, N, r1, m, c1', most, ns, rfl, p1, hN1, n1, n7, hnm, m0, mb, d0, by omega, fun H2 v x r2 c2 f2 hv hb hd hs p2 e0 e1 => ?_⟩
      exact q H2 v x r2 c2 (f1.trans f2) hv hb (lf hd) hs p2 e0 (by omega)
    refine iteN k2 ?_
    obtain ⟨d', rfl⟩ : ∃ d', d = d' + 1 := ⟨d - 1, by omega⟩
    have ecst : cst (d' + 1) = 3 * cst d' + 15 := rfl
    have pos := cst_pos d'
    have esz : szt (d' + 1) = 3 * szt d' + 1 := rfl
    have hdm : ((d' + 1 : Nat) : Int) - 1 = (d' : Int) := by omega
    refine ⟨_, rfl, _, rfl, _, rfl, _, _, rfl, rfl, _, rfl, p, N, r1, m, c1', most, d', ns, congrArg (fun z => [V.ref p, V.ref N, V.int z, V.int most]) hdm, by omega, p1, hN1, n1, n7, hnm, m0, mb, d0, by omega, fun H2 v1 x1 r2 c2 f2 hv1 hb1 hd1 hs1 p2 e0 e1 => ?_⟩
    have hN2 := f2 N _ nNp hN1
    refine ⟨_, rfl, _, _, rfl, rfl, _, rfl, ?_⟩
    by_cases k4 : kd < 4
    · refine iteY k4 ?_
      refine ⟨_, rfl, le_line (Nat.le_of_ble_eq_true rfl), fun E1 nE => ?_⟩
      have sE := same_new nE (.lst [])
      have npE : p ≠ E1 := ne_of_none p2 nE
      refine ⟨_, _, names_dp K (sE _ _ hN2), .lst (SqL.of upd_same) .nil, names_shaped hnm, rfl, _, rfl, ?_⟩
      rw [names_empty n1]
      refine not_false_eq rfl ?_
      refine ⟨_, rfl, p, r2, m, c2, 9, rfl, by rw [upd_ne npE]; exact p2, by decide, small400 (by decide) (by decide), e0, by omega, fun H3 w r3 c3 k3 p3 g0 g1 w0 w1 => ?_⟩
      have f23 : Fr1 p H2 H3 := fun b u n e => by rw [k3 b n]; exact sE _ _ e
      refine ⟨_, _, rfl, rfl, 1 + w, rfl, by omega, by omega, fun S nS => lc_range (lo := 0) (n := (1 + w).toNat) (fun i H' => ∃ (ss : List (List Nat)) (r' c' : Int), Fr1 p H3 H' ∧ H' p = some (.lst (pl r' m c')) ∧ 0 ≤ c' ∧ c' ≤ c3 + i ∧ H' S = some (.lst (txs ss)) ∧ ss.length = i ∧ ∀ s ∈ ss, s ∈ ns)
        ⟨[], r3, c3, Fr1.of (same_new nS _), by rw [upd_ne (ne_of_none p3 nS)]; exact p3, g0, by omega, upd_same, rfl, fun _ h => (nomatch h)⟩ ?_ ?_⟩
      · rintro i H4 hi ⟨ss, r4, c4, f4, p4, i0, i1, hS, hn, hss⟩
        have nSp : S ≠ p := (ne_of_none p3 nS).symm
        have hN4 := f4 N _ nNp (f23 N _ nNp hN2)
        refine ⟨rfl, _, rfl, _, rfl, _, rfl, N, _, rfl, .inl (SqL.of hN4), p, r4, m, c4, _, rfl, p4, ?_, ?_, i0, by omega, fun H5 u r5 c5 k5 p5 j0 j1 u0 u1 => ?_⟩
        · rw [txs_len]; omega
        · rw [txs_len]; exact small400 (by omega) (by omega)
        have hN5 := (k5 N nNp).trans hN4
        rw [txs_len] at u1
        have hiu : u.toNat < ns.length := by omega
        refine ⟨N, _, u, .str (SX.S ns[u.toNat]), rfl, rfl, SqL.of hN5, atI_at u0 (txs_get hiu), _, (k5 S nSp).trans hS, lt_line (by rw [txs_len]; omega), ss ++ [ns[u.toNat]], r5, c5, fun b x n e => ?_, by rw [upd_ne nSp.symm]; exact p5, j0, by omega, ?_, by rw [List.length_append, hn]; rfl, fun s hs => ?_⟩
        · have nb : b ≠ S := fun z => by rw [z, nS] at e; cases e
          rw [upd_ne nb, k5 b n]
          exact f4 b x n e
        · rw [upd_same, txs_app]
          rfl
        · rcases List.mem_append.mp hs with h | h
          · exact hss s h
          · rw [List.mem_singleton.mp h]; exact List.getElem_mem hiu
      · rintro H4 ⟨ss, r4, c4, f4, p4, i0, i1, hS, hn, hss⟩
        refine ⟨_, rfl, _, rfl, S, _, rfl, .inl ⟨SqL.of hS, fun tt nt => ⟨le_line (Nat.le_of_ble_eq_true rfl), fun t nt2 => ?_⟩⟩⟩
        have s1 := same_new nt (.tup (txs ss))
        have s2 := same_new nt2 (.tup [.str "choose", v1, .ref tt])
        have f24 : Fr1 p H2 (upd (upd H4 tt (.tup (txs ss))) t (.tup [.str "choose", v1, .ref tt])) := f23.trans (f4.trans (Fr1.of (s1.trans s2)))
        refine q _ (.ref t) (.choose x1 ss) r4 c4 (f1.trans (f2.trans f24)) ⟨t, v1, tt, rfl, upd_same, hv1.keep (Fr1.keep p2 f24), s2 _ _ upd_same⟩ ⟨hb1, by omega, by omega, fun s hs => hnm s (hss s hs)⟩ ⟨by show x1.dep + 1 ≤ _; omega, by show x1.siz + 1 ≤ _; omega, hd1.2.2⟩ (fun s hs => ?_) (s2 _ _ (s1 _ _ p4)) i0 (by omega)
        rcases List.mem_append.mp hs with h | h
        · exact hs1 s h
        · exact hss s h
    · refine iteN k4 ?_
      refine iteF ⟨_, rfl, _, rfl, _, rfl, _, _, rfl, rfl, _, rfl, p, N, r2, m, c2, most, d', ns, congrArg (fun z => [V.ref p, V.ref N, V.int z, V.int most]) hdm, by omega, p2, hN2, n1, n7, hnm, m0, mb, e0, by omega, fun H3 v2 x2 r3 c3 f3 hv2 hb2 hd2 hs2 p3 g0 g1 => ?_⟩
      have hN3 := f3 N _ nNp hN2
      have hv13 := hv1.keep (Fr1.keep p2 f3)
      refine ⟨_, rfl, _, _, rfl, rfl, _, rfl, ?_⟩
      by_cases k6 : kd < 6
      · refine iteY k6 ?_
        refine ⟨_, rfl, _, rfl, _, rfl, _, rfl, _, rfl, _, _, rfl, rfl, _, rfl, p, N, r3, m, c3, most, d', ns, congrArg (fun z => [V.ref p, V.ref N, V.int z, V.int most]) hdm, by omega, p3, hN3, n1, n7, hnm, m0, mb, g0, by omega, fun H4 v3 x3 r4 c4 f4 hv3 hb3 hd3 hs3 p4 i0 i1 => ?_⟩
        refine ⟨le_line (Nat.le_of_ble_eq_true rfl), fun t nt => ?_⟩
        have st := same_new nt (.tup [.str "pick", v1, v2, v3])
        have k34 := (Fr1.keep p3 f4).trans (same_keep st)
        refine q _ (.ref t) (.pick x1 x2 x3) r4 c4 (f1.trans (f2.trans (f3.trans (f4.trans (Fr1.of st))))) ⟨t, v1, v2, v3, rfl, upd_same, hv13.keep k34, hv2.keep k34, hv3.same st⟩ ⟨hb1, hb2, hb3⟩ ⟨by show max x1.dep (max x2.dep x3.dep) + 1 ≤ _; omega, by show x1.siz + x2.siz + x3.siz + 1 ≤ _; omega, hd1.2.2, hd2.2.2, hd3.2.2⟩ (fun s hs => ?_) (st _ _ p4) i0 (by omega)
        rcases List.mem_append.mp hs with h | h
        · exact hs1 s h
        · exact (List.mem_append.mp h).elim (hs2 s) (hs3 s)
      · refine iteN k6 ?_
        have tail : ∀ (k : Kd) (t : Addr), (k = .times → x1.dep ≤ 1 ∧ x2.dep ≤ 1) → H3 t = none → Q (.ref t) (upd H3 t (.tup [.str k.name, v1, v2])) := fun k t hk nt => by
          have st := same_new nt (.tup [.str k.name, v1, v2])
          refine q _ (.ref t) (.two k x1 x2) r3 c3 (f1.trans (f2.trans (f3.trans (Fr1.of st)))) ⟨t, v1, v2, rfl, upd_same, hv13.same st, hv2.same st⟩ ⟨hb1, hb2⟩ ⟨by show max x1.dep x2.dep + 1 ≤ _; omega, by show x1.siz + x2.siz + 1 ≤ _; omega, hd1.2.2, hd2.2.2, hk⟩ (fun s hs => ?_) (st _ _ p3) g0 (by omega)
          exact (List.mem_append.mp hs).elim (hs1 s) (hs2 s)
        have kd9 : ∃ k : Kd, atI ([.str "plus", .str "minus", .str "most"] : List V) (kd % 3) = some (.str k.name) ∧ k ≠ .times := kind3 (Int.emod_nonneg _ (by decide)) (Int.emod_lt_of_pos _ (by decide))
        obtain ⟨kk, hkk, hkt⟩ := kd9
        have rest : ∀ {A B : Prop}, B → B := fun b => b
        refine ⟨_, rfl, rfl, _, rfl, ?_⟩
        by_cases c1 : d' = 0
        · refine iteY (by rw [c1]; rfl) ?_
          refine ⟨_, rfl, rfl, _, rfl, ?_⟩
          by_cases c9 : kd = 9
          · refine iteY (by rw [c9]) ?_
            exact ⟨_, rfl, _, rfl, le_line (Nat.le_of_ble_eq_true rfl), fun t nt => tail .times t (fun _ => ⟨by omega, by omega⟩) nt⟩
          · refine iteN (fun z => c9 (V.int.inj z)) ?_
            refine ⟨le_line (Nat.le_of_ble_eq_true rfl), fun l nl => ⟨_, rfl, _, _, rfl, rfl, (by show (0 : Int) < 3; decide), l, _, _, .str kk.name, rfl, rfl, SqL.of upd_same, hkk, _, rfl, _, rfl, le_line (Nat.le_of_ble_eq_true rfl), fun t nt => ?_⟩⟩
            have sl := same_new nl (.lst [.str "plus", .str "minus", .str "most"])
            have st := same_new nt (.tup [.str kk.name, v1, v2])
            refine q _ (.ref t) (.two kk x1 x2) r3 c3 (f1.trans (f2.trans (f3.trans (Fr1.of (sl.trans st))))) ⟨t, v1, v2, rfl, upd_same, hv13.same (sl.trans st), hv2.same (sl.trans st)⟩ ⟨hb1, hb2⟩ ⟨by show max x1.dep x2.dep + 1 ≤ _; omega, by show x1.siz + x2.siz + 1 ≤ _; omega, hd1.2.2, hd2.2.2, fun z => absurd z hkt⟩ (fun s hs => ?_) (st _ _ (sl _ _ p3)) g0 (by omega)
            exact (List.mem_append.mp hs).elim (hs1 s) (hs2 s)
        · refine iteN (fun z => c1 (by have := V.int.inj z; omega)) ?_
          refine iteF ⟨le_line (Nat.le_of_ble_eq_true rfl), fun l nl => ⟨_, rfl, _, _, rfl, rfl, (by show (0 : Int) < 3; decide), l, _, _, .str kk.name, rfl, rfl, SqL.of upd_same, hkk, _, rfl, _, rfl, le_line (Nat.le_of_ble_eq_true rfl), fun t nt => ?_⟩⟩
          have sl := same_new nl (.lst [.str "plus", .str "minus", .str "most"])
          have st := same_new nt (.tup [.str kk.name, v1, v2])
          refine q _ (.ref t) (.two kk x1 x2) r3 c3 (f1.trans (f2.trans (f3.trans (Fr1.of (sl.trans st))))) ⟨t, v1, v2, rfl, upd_same, hv13.same (sl.trans st), hv2.same (sl.trans st)⟩ ⟨hb1, hb2⟩ ⟨by show max x1.dep x2.dep + 1 ≤ _; omega, by show x1.siz + x2.siz + 1 ≤ _; omega, hd1.2.2, hd2.2.2, fun z => absurd z hkt⟩ (fun s hs => ?_) (st _ _ (sl _ _ p3)) g0 (by omega)
          exact (List.mem_append.mp hs).elim (hs1 s) (hs2 s)
end
/-! ### recipes drawn -/
def spRecipeL : Sp := fun vs H Q _ => ∃ (p N : Addr) (r m c most : Int) (ns : List (List Nat)), vs = [.ref p, .ref N, .int most] ∧ H p = some (.lst (pl r m c)) ∧ H N = some (.lst (txs ns)) ∧ 1 ≤ ns.length ∧ ns.length ≤ 7 ∧ (∀ s ∈ ns, Nm s) ∧ 0 ≤ most ∧ most < 2 ^ 100 ∧ 0 ≤ c ∧ c ≤ 900000 ∧
  ∀ (H' : Hp) (v : V) (x : Rcp) (r' c' : Int), Fr1 p H H' → Rec H' x v → x.Nb → (x.dep ≤ 9 ∧ x.siz ≤ 100 ∧ x.Tm) → (∀ s ∈ x.nms, s ∈ ns) → H' p = some (.lst (pl r' m c')) → 0 ≤ c' → c' ≤ c + 2000 → Q v H'
theorem szt4 : ∀ d : Nat, d < 4 → szt d ≤ 40 := by decide +kernel
theorem cst4 : ∀ d : Nat, d < 4 → cst d ≤ 700 := by decide +kernel
section
variable {P : Program} {w : World} {K : PySem.W.Frag} {mg : Str → Option Value} {base : Heap}
abbrev s__law_recipe : Stmt := topS 57
abbrev N__law_recipe : List Str := ["pool", "names", "most", "found", "k"]
theorem sc__law_recipe : FnScope N__law_recipe ["pool", "names", "most"] (defScope s__law_recipe) := ⟨rfl, rfl, rfl, by decide +kernel, rfl, by decide +kernel, by decide +kernel⟩

theorem ok__law_recipe (T : Txt K mg) (D : IsDef K mg "_law_recipe" s__law_recipe ["pool", "names", "most"]) (C_take : Cal P w K mg base CX0 1 "_law_take" ["pool", "many"] spTakeL) (C_leaf : Cal P w K mg base CX0 2 "_law_leaf" ["pool", "names", "most"] spLeafL) (C__law_part : Cal P w K mg base CX0 6 "_law_part" ["pool", "names", "deep", "most"] (spPartL 4)) : Cal P w K mg base CX0 7 "_law_recipe" ["pool", "names", "most"] spRecipeL := by
  have C__law_take := C_take.mono (show 1 ≤ 6 by omega)
  have C__law_leaf := C_leaf.mono (show 2 ≤ 6 by omega)
  refine D.cal sc__law_recipe (fun vs H Q E h => ?_) (fun f cdv A outer s H vs Q E hr h => ?_)
  · obtain ⟨p, N, r, m, c, most, ns, rfl, _⟩ := h
    rfl
  obtain ⟨p, N, r, m, c, most, ns, rfl, hp, hN, n1, n7, hnm, m0, mb, c0, c1, q⟩ := h
  refine ⟨_, (pss_cons (ps_set (i := 3) sc__law_recipe.nd rfl (Or.inl rfl) (pe_cal C__law_part (hr.mono (by first | decide | omega)) pass0 (pa_cons (pv 0) (pa_cons (pv 1) (pa_cons (pe_cal C__law_take (hr.mono (by first | decide | omega)) pass0 (pa_cons (pv 0) (pa_cons pe_int pa_nil))) (pa_cons (pv 2) pa_nil))))))
      (pss_cons (ps_for PassesOwn.never rfl (pi_range1 rfl T.b_range (pa_cons (pe_ix (r := rIxL K) ix_list (pe_lst (pa_cons pe_int (pa_cons (pe_cal C__law_take (hr.mono (by first | decide | omega)) pass0 (pa_cons (pv 0) (pa_cons pe_int pa_nil))) pa_nil))) (pe_cal C__law_take (hr.mono (by first | decide | omega)) pass0 (pa_cons (pv 0) (pa_cons pe_int pa_nil))) (fun _ _ => rfl)) pa_nil)) (pg_name (i := 4) sc__law_recipe.nd rfl (Or.inl rfl))
        (pss_one (ps_set (i := 3) sc__law_recipe.nd rfl (Or.inl rfl) (pe_tup (pa_cons (pe_ix (r := rIxL K) ix_list (pe_lst (pa_cons pe_str (pa_cons pe_str (pa_cons pe_str pa_nil)))) (pe_cal C__law_take (hr.mono (by first | decide | omega)) pass0 (pa_cons (pv 0) (pa_cons pe_int pa_nil))) (fun _ _ => rfl)) (pa_cons (pv 3) (pa_cons (pe_cal C__law_leaf (hr.mono (by first | decide | omega)) pass0 (pa_cons (pv 0) (pa_cons (pv 1) (pa_cons (pv 2) pa_nil)))) pa_nil)))))))
      (pss_one (ps_ret (pv 3))))), ?_⟩
  have nNp : N ≠ p := fun z => by rw [z, hp] at hN; exact txs_pl (HO.lst.inj (Option.some.inj hN)).symm
  refine ⟨_, rfl, _, rfl, _, rfl, p, r, m, c, 4, rfl, hp, by decide, small400 (by decide) (by decide), c0, by omega, fun H1 kd r1 c1' k1 p1 d0 d1 kd0 kd1 => ?_⟩
  have f1 : Fr1 p H H1 := fun b u n e => by rw [k1 b n]; exact e
  have hN1 := f1 N _ nNp hN
  obtain ⟨d, rfl⟩ : ∃ d : Nat, kd = (d : Int) := ⟨kd.toNat, by omega⟩
  have hc4 := cst4 d (by omega)
  refine ⟨_, rfl, p, N, r1, m, c1', most, d, ns, rfl, by omega, p1, hN1, n1, n7, hnm, m0, mb, d0, by omega, fun H2 v1 x1 r2 c2 f2 hv1 hb1 hd1 hs1 p2 e0 e1 => ?_⟩
  refine ⟨_, rfl, p, r2, m, c2, 5, rfl, p2, by decide, small400 (by decide) (by decide), e0, by omega, fun H3 w r3 c3 k3 p3 g0 g1 w0 w1 => ?_⟩
  refine ⟨le_line (Nat.le_of_ble_eq_true rfl), fun L nL => ?_⟩
  have npL : p ≠ L := ne_of_none p3 nL
  refine ⟨_, rfl, p, r3, m, c3, 2, rfl, by rw [upd_ne npL]; exact p3, by decide, small400 (by decide) (by decide), g0, by omega, fun H4 u r4 c4 k4 p4 i0 i1 u0 u1 => ?_⟩
  have hL4 := (k4 L npL.symm).trans upd_same
  have f24 : Fr1 p H2 H4 := fun b x n e => by
    rw [k4 b n]
    refine same_new nL _ _ _ ?_
    rw [k3 b n]
    exact e
  obtain ⟨x, hx, hat⟩ := one_of (xs := ([.int 0, .int w] : List V)) u0 u1
  obtain ⟨times, rfl, t0, t4⟩ : ∃ times : Int, x = .int times ∧ 0 ≤ times ∧ times ≤ 4 := by
    simp only [List.mem_cons, List.not_mem_nil, or_false] at hx
    rcases hx with h | h
    · exact ⟨_, h, by decide, by decide⟩
    · exact ⟨_, h, w0, by omega⟩
  refine ⟨L, _, u, _, rfl, rfl, SqL.of hL4, hat, ?_⟩
  refine ⟨times, rfl, by omega, by omega, for_range (lo := 0) (n := times.toNat) (fun i σ H' => ∃ (v : V) (x : Rcp) (v4 : Option V) (r' c' : Int), σ = [some (.ref p), some (.ref N), some (.int most), some v, v4] ∧ Fr1 p H4 H' ∧ Rec H' x v ∧ x.Nb ∧ (x.dep ≤ 4 + i ∧ x.siz ≤ 40 + 2 * i ∧ x.Tm) ∧ (∀ s ∈ x.nms, s ∈ ns) ∧ H' p = some (.lst (pl r' m c')) ∧ 0 ≤ c' ∧ c' ≤ c4 + 20 * i) ⟨v1, x1, none, r4, c4, rfl, Fr1.refl p H4, hv1.keep (Fr1.keep p2 f24), hb1, ⟨by omega, by have := szt4 d (by omega); omega, hd1.2.2⟩, hs1, p4, i0, by omega⟩ ?_ ?_⟩
  · rintro i σ H5 hi ⟨v, y, v4, r5, c5, rfl, f5, hv, hb, hd, hs, p5, j0, j1⟩
    refine ⟨le_line (Nat.le_of_ble_eq_true rfl), fun l nl => ?_⟩
    have npl : p ≠ l := ne_of_none p5 nl
    refine ⟨_, rfl, p, r5, m, c5, 3, rfl, by rw [upd_ne npl]; exact p5, by decide, small400 (by decide) (by decide), j0, by omega, fun H6 z r6 c6 k6 p6 a0 a1 z0 z1 => ?_⟩
    have hl6 := (k6 l npl.symm).trans upd_same
    have f56 : Fr1 p H5 H6 := fun b x n e => by rw [k6 b n]; exact same_new nl _ _ _ e
    obtain ⟨kk, hkk, hkt⟩ := kind3 z0 z1
    have hN6 := f56 N _ nNp (f5 N _ nNp (f24 N _ nNp (f2 N _ nNp hN1)))
    refine ⟨l, _, z, .str kk.name, rfl, rfl, SqL.of hl6, hkk, _, rfl, _, rfl, _, rfl, _, rfl, p, N, r6, m, c6, most, ns, rfl, p6, hN6, n1, n7, hnm, m0, mb, a0, by omega, fun H7 v2 x2 r7 c7 f7 hv2 hb2 hd2 hs2 p7 b0 b1 => ?_⟩
    refine ⟨le_line (Nat.le_of_ble_eq_true rfl), fun t nt => ?_⟩
    have st := same_new nt (.tup [.str kk.name, v, v2])
    exact ⟨.ref t, .two kk y x2, _, r7, c7, rfl, f5.trans (f56.trans (f7.trans (Fr1.of st))), ⟨t, v, v2, rfl, upd_same, (hv.keep (Fr1.keep p5 (f56.trans f7))).same st, hv2.same st⟩, ⟨hb, hb2⟩, ⟨by show max y.dep x2.dep + 1 ≤ 4 + (i + 1); have := dep_pos y; omega, by show y.siz + x2.siz + 1 ≤ _; omega, hd.2.2, tm_leaf hd2.1, fun z => absurd z hkt⟩, fun s h => (List.mem_append.mp h).elim (hs s) (hs2 s), st _ _ p7, b0, by omega⟩
  · rintro σ H5 ⟨v, y, v4, r5, c5, rfl, f5, hv, hb, hd, hs, p5, j0, j1⟩
    exact ⟨_, rfl, q _ v y r5 c5 (f1.trans (f2.trans (f24.trans f5))) hv hb ⟨by omega, by omega, hd.2.2⟩ hs p5 j0 (by omega)⟩
end
/-! ### the kinds of what was caught -/
/-- the class C among the seven: hits says which of them it is -/
structure Kin7 (K : PySem.W.Frag) (mg : Str → Option Value) (C CM c0 c1 c2 c3 c4 c5 c6 : Addr) (due : Nat) : Prop where
  gM : mg "MadeError" = some (.ref CM)
  g0 : mg "NoRead" = some (.ref c0)
  g1 : mg "NoRecord" = some (.ref c1)
  g2 : mg "NoText" = some (.ref c2)
  g3 : mg "NoName" = some (.ref c3)
  g4 : mg "Ring" = some (.ref c4)
  g5 : mg "NoDeed" = some (.ref c5)
  g6 : mg "NoRow" = some (.ref c6)
  exm : PySem.W.exmOne K (.ref C) (.ref CM) = some true
  exc : ExcC K C
  isV : PySem.W.kitOne K (.ref C) (.type "ValueError") = some true
  i0 : PySem.W.kitOne K (.ref C) (.ref c0) = some (decide (0 = due))
  i1 : PySem.W.kitOne K (.ref C) (.ref c1) = some (decide (1 = due))
  i2 : PySem.W.kitOne K (.ref C) (.ref c2) = some (decide (2 = due))
  i3 : PySem.W.kitOne K (.ref C) (.ref c3) = some (decide (3 = due))
  i4 : PySem.W.kitOne K (.ref C) (.ref c4) = some (decide (4 = due))
  i5 : PySem.W.kitOne K (.ref C) (.ref c5) = some (decide (5 = due))
  i6 : PySem.W.kitOne K (.ref C) (.ref c6) = some (decide (6 = due))
  lt : due < 7
def spKinds (C : Addr) (due : Nat) : Sp := fun vs H Q _ => ∃ e : Addr, vs = [.ref e, .int (due : Int)] ∧ H e = some (EzO (.ref C) none e) ∧ ∀ H', Same H H' → Q (.bl true) H'
section
variable {P : Program} {w : World} {K : PySem.W.Frag} {mg : Str → Option Value} {base : Heap}
abbrev s__law_kinds : Stmt := topS 62
abbrev N__law_kinds : List Str := ["caught", "due", "kinds", "k"]
theorem sc__law_kinds : FnScope N__law_kinds ["caught", "due"] (defScope s__law_kinds) := ⟨rfl, rfl, rfl, by decide +kernel, rfl, by decide +kernel, by decide +kernel⟩

theorem ok__law_kinds {C CM c0 c1 c2 c3 c4 c5 c6 : Addr} {due : Nat} (T : Txt K mg) (R : Kin7 K mg C CM c0 c1 c2 c3 c4 c5 c6 due) (D : IsDef K mg "_law_kinds" s__law_kinds ["caught", "due"]) : Cal P w K mg base CX0 1 "_law_kinds" ["caught", "due"] (spKinds C due) := by
  refine D.cal sc__law_kinds (fun vs H Q E h => ?_) (fun f cdv A outer s H vs Q E hr h => ?_)
  · obtain ⟨e, rfl, _⟩ := h
    rfl
  obtain ⟨e, rfl, he, q⟩ := h
  have GNoRead := R.g0
  have GNoRecord := R.g1
  have GNoText := R.g2
  have GNoName := R.g3
  have GRing := R.g4
  have GNoDeed := R.g5
  have GNoRow := R.g6
  refine ⟨_, (pss_cons (ps_set (i := 2) sc__law_kinds.nd rfl (Or.inl rfl) (pe_lst (pa_cons (pe_callB (call_isXK (K := K) rfl) (by rfl) T.b_isinstance (by decide +kernel) (pa_cons (pv 0) (pa_cons (pe_glob (v := .ref _) rfl GNoRead rfl) pa_nil))) (pa_cons (pe_callB (call_isXK (K := K) rfl) (by rfl) T.b_isinstance (by decide +kernel) (pa_cons (pv 0) (pa_cons (pe_glob (v := .ref _) rfl GNoRecord rfl) pa_nil))) (pa_cons (pe_callB (call_isXK (K := K) rfl) (by rfl) T.b_isinstance (by decide +kernel) (pa_cons (pv 0) (pa_cons (pe_glob (v := .ref _) rfl GNoText rfl) pa_nil))) pa_nil)))))
      (pss_cons (ps_set (i := 2) sc__law_kinds.nd rfl (Or.inl rfl) (pe_op op_cat (pv 2) (pe_lst (pa_cons (pe_callB (call_isXK (K := K) rfl) (by rfl) T.b_isinstance (by decide +kernel) (pa_cons (pv 0) (pa_cons (pe_glob (v := .ref _) rfl GNoName rfl) pa_nil))) (pa_cons (pe_callB (call_isXK (K := K) rfl) (by rfl) T.b_isinstance (by decide +kernel) (pa_cons (pv 0) (pa_cons (pe_glob (v := .ref _) rfl GRing rfl) pa_nil))) (pa_cons (pe_callB (call_isXK (K := K) rfl) (by rfl) T.b_isinstance (by decide +kernel) (pa_cons (pv 0) (pa_cons (pe_glob (v := .ref _) rfl GNoDeed rfl) pa_nil))) pa_nil))))))
      (pss_cons (ps_set (i := 2) sc__law_kinds.nd rfl (Or.inl rfl) (pe_op op_cat (pv 2) (pe_lst (pa_cons (pe_callB (call_isXK (K := K) rfl) (by rfl) T.b_isinstance (by decide +kernel) (pa_cons (pv 0) (pa_cons (pe_glob (v := .ref _) rfl GNoRow rfl) pa_nil))) (pa_cons (pe_not (pe_callB (call_isXK (K := K) rfl) (by rfl) T.b_isinstance (by decide +kernel) (pa_cons (pv 0) (pa_cons (pe_bltn (v := .ty "ValueError") (by rfl) T.b_ValueError (by decide +kernel) rfl) pa_nil)))) pa_nil)))))
      (pss_one (ps_ret (pe_and (pe_cmpR op_notN (pv 0) pe_non (nomark _)) (pe_one (pe_cmpR (op_eqD hr.units) (pv 2) (pe_lc (own := [("k", 3)]) (g := gName 3)  (by rfl) sc__law_kinds.nd  (pi_range1 rfl T.b_range (pa_cons pe_int pa_nil)) (blkOk_by (own := [("k", 3)]) (N := N__law_kinds) (sc := defScope s__law_kinds) (by decide +kernel)) (fun _ _ _ _ _ => (pg_name (i := 3) sc__law_kinds.nd rfl (Or.inl rfl))) (fun _ _ _ _ _ => pts_nil) (fun _ _ _ _ _ => (pe_cmpR op_eq (pv 3) (pv 1) (nomark _)))) (nomark _))))))))), ?_⟩
  refine ⟨_, rfl, e, C, _, _, _, rfl, he, R.exc, .own c0, R.i0, _, rfl, e, C, _, _, _, rfl, he, R.exc, .own c1, R.i1, _, rfl, e, C, _, _, _, rfl, he, R.exc, .own c2, R.i2, le_line (Nat.le_of_ble_eq_true rfl), fun L1 n1 => ?_⟩
  have s1 := same_new n1 (.lst [.bl (decide (0 = due)), .bl (decide (1 = due)), .bl (decide (2 = due))])
  have he1 := s1 _ _ he
  refine ⟨_, rfl, _, rfl, e, C, _, _, _, rfl, he1, R.exc, .own c3, R.i3, _, rfl, e, C, _, _, _, rfl, he1, R.exc, .own c4, R.i4, _, rfl, e, C, _, _, _, rfl, he1, R.exc, .own c5, R.i5, le_line (Nat.le_of_ble_eq_true rfl), fun L2 n2 => ?_⟩
  have s2 := same_new n2 (.lst [.bl (decide (3 = due)), .bl (decide (4 = due)), .bl (decide (5 = due))])
  refine ⟨L1, L2, _, _, rfl, rfl, s2 _ _ upd_same, upd_same, le_line (Nat.le_of_ble_eq_true rfl), fun L3 n3 => ?_⟩
  have s3 := same_new n3 (.lst [.bl (decide (0 = due)), .bl (decide (1 = due)), .bl (decide (2 = due)), .bl (decide (3 = due)), .bl (decide (4 = due)), .bl (decide (5 = due))])
  have he3 := s3 _ _ (s2 _ _ he1)
  refine ⟨_, rfl, _, rfl, e, C, _, _, _, rfl, he3, R.exc, .own c6, R.i6, _, rfl, e, C, _, _, _, rfl, he3, R.exc, .ty _, R.isV, _, rfl, le_line (Nat.le_of_ble_eq_true rfl), fun L4 n4 => ?_⟩
  have s4 := same_new n4 (.lst [.bl (decide (6 = due)), .bl (!true)])
  refine ⟨L3, L4, _, _, rfl, rfl, s4 _ _ upd_same, upd_same, le_line (Nat.le_of_ble_eq_true rfl), fun L5 n5 => ?_⟩
  have s5 := same_new n5 (.lst [.bl (decide (0 = due)), .bl (decide (1 = due)), .bl (decide (2 = due)), .bl (decide (3 = due)), .bl (decide (4 = due)), .bl (decide (5 = due)), .bl (decide (6 = due)), .bl (!true)])
  obtain ⟨H5, hH5⟩ : ∃ H5, H5 = upd (upd (upd (upd (upd H L1 (.lst [.bl (decide (0 = due)), .bl (decide (1 = due)), .bl (decide (2 = due))])) L2 (.lst [.bl (decide (3 = due)), .bl (decide (4 = due)), .bl (decide (5 = due))])) L3 (.lst [.bl (decide (0 = due)), .bl (decide (1 = due)), .bl (decide (2 = due)), .bl (decide (3 = due)), .bl (decide (4 = due)), .bl (decide (5 = due))])) L4 (.lst [.bl (decide (6 = due)), .bl (!true)])) L5 (.lst [.bl (decide (0 = due)), .bl (decide (1 = due)), .bl (decide (2 = due)), .bl (decide (3 = due)), .bl (decide (4 = due)), .bl (decide (5 = due)), .bl (decide (6 = due)), .bl (!true)]) := ⟨_, rfl⟩
  have sA : Same H H5 := by rw [hH5]; exact s1.trans (s2.trans (s3.trans (s4.trans s5)))
  have hL5 : H5 L5 = some (.lst [.bl (decide (0 = due)), .bl (decide (1 = due)), .bl (decide (2 = due)), .bl (decide (3 = due)), .bl (decide (4 = due)), .bl (decide (5 = due)), .bl (decide (6 = due)), .bl (!true)]) := by rw [hH5]; exact upd_same
  show ∃ _, _
  refine ⟨_, rfl, rfl, _, rfl, not_false_eq (decide_eq_false fun z => by cases z) ?_⟩
  refine ⟨_, rfl, ?_⟩
  have lead : ∀ {G : Hp → Prop}, G H5 → G (upd (upd (upd (upd (upd H L1 (.lst [.bl (decide (0 = due)), .bl (decide (1 = due)), .bl (decide (2 = due))])) L2 (.lst [.bl (decide (3 = due)), .bl (decide (4 = due)), .bl (decide (5 = due))])) L3 (.lst [.bl (decide (0 = due)), .bl (decide (1 = due)), .bl (decide (2 = due)), .bl (decide (3 = due)), .bl (decide (4 = due)), .bl (decide (5 = due))])) L4 (.lst [.bl (decide (6 = due)), .bl (!true)])) L5 (.lst [.bl (decide (0 = due)), .bl (decide (1 = due)), .bl (decide (2 = due)), .bl (decide (3 = due)), .bl (decide (4 = due)), .bl (decide (5 = due)), .bl (decide (6 = due)), .bl (!true)])) := fun g => by rw [← hH5]; exact g
  refine ⟨8, rfl, by decide, by decide, fun M nM => lc_range (lo := 0) (n := 8) (fun i H' => Same H5 H' ∧ H' M = some (.lst ((List.range i).map fun j => V.bl (decide (j = due))))) ⟨by rw [hH5]; exact same_new nM _, upd_same⟩ ?_ ?_⟩
  · rintro i H6 hi ⟨hs6, hM⟩
    have nM5 : H5 M = none := by rw [hH5]; exact nM
    refine ⟨rfl, _, rfl, _, rfl, rfl, _, hM, lt_line (by rw [List.length_map, List.length_range]; omega), same_upd hs6 nM5 _, ?_⟩
    rw [upd_same, List.range_succ, List.map_append]
    have e : decide (V.int (0 + (i : Int)) = V.int (due : Int)) = decide (i = due) := decide_eq_decide.mpr ⟨fun z => by have := V.int.inj z; omega, fun z => congrArg V.int (by omega)⟩
    rw [e]
    rfl
  rintro H6 ⟨hs6, hM⟩
  have bls : ∀ {H : Hp} {L : Addr} {b0 b1 b2 b3 b4 b5 b6 b7 : Bool}, H L = some (.lst [.bl b0, .bl b1, .bl b2, .bl b3, .bl b4, .bl b5, .bl b6, .bl b7]) → Dp K H (.ref L) (.list [.bool b0, .bool b1, .bool b2, .bool b3, .bool b4, .bool b5, .bool b6, .bool b7]) := fun h =>
    .lst (SqL.of h) (.cons (.bl _) (.cons (.bl _) (.cons (.bl _) (.cons (.bl _) (.cons (.bl _) (.cons (.bl _) (.cons (.bl _) (.cons (.bl _) .nil))))))))
  have hM2 : H6 M = some (.lst [.bl (decide (0 = due)), .bl (decide (1 = due)), .bl (decide (2 = due)), .bl (decide (3 = due)), .bl (decide (4 = due)), .bl (decide (5 = due)), .bl (decide (6 = due)), .bl (decide (7 = due))]) := hM
  have e7 : decide (7 = due) = (!true) := decide_eq_false (by have := R.lt; omega)
  rw [e7] at hM2
  refine ⟨_, _, bls (hs6 _ _ hL5), bls hM2, rfl, rfl, ?_⟩
  rw [SeqAt.eqv_refl _ (by rfl)]
  exact q _ (sA.trans hs6)
end
/-! ### what is due, as data -/
theorem dp_read (K : PySem.W.Frag) {H : Hp} {t : Addr} {s : List Nat} (h : H t = some (.tup [.str "read", .str (SX.S s)])) (hs : Nm s) : Dp K H (.ref t) (.tuple [.str "read", .str (SX.S s)]) ∧ SeqAt.shaped (.tuple [.str "read", .str (SX.S s)]) = true ∧ PyData.eqv (.tuple [.str "read", .str (SX.S s)]) (.tuple [.str "read", .str (SX.S s)]) = true := by
  have h3 : (PyData.str (SX.S s)).canLay0 = true := nm_lay hs
  have h4 : (PyData.str "read").canLay0 = true := by decide +kernel
  have hc : (PyData.tuple [.str "read", .str (SX.S s)]).canLay0 = true := by
    show ((PyData.str "read").canLay0 && ((PyData.str (SX.S s)).canLay0 && true)) = true
    rw [h3, h4]
    rfl
  refine ⟨.tup (SqT.of h) (.cons (.str _) (.cons (.str _) .nil)), ?_, SeqAt.eqv_refl _ hc⟩
  show (((PyData.str "read").canLay0 && ((PyData.str (SX.S s)).canLay0 && true)) && decide (PyData.depthAll [.str "read", .str (SX.S s)] + 1 ≤ 64)) = true
  rw [h3, h4]
  rfl
theorem dp_worth (K : PySem.W.Frag) {H : Hp} {t : Addr} {x : Int} (h : H t = some (.tup [.str "worth", .int x])) : Dp K H (.ref t) (.tuple [.str "worth", .int x]) ∧ SeqAt.shaped (.tuple [.str "worth", .int x]) = true ∧ PyData.eqv (.tuple [.str "worth", .int x]) (.tuple [.str "worth", .int x]) = true := by
  have h3 : (PyData.int x).canLay0 = true := rfl
  have h4 : (PyData.str "worth").canLay0 = true := by decide +kernel
  have hc : (PyData.tuple [.str "worth", .int x]).canLay0 = true := by
    show ((PyData.str "worth").canLay0 && ((PyData.int x).canLay0 && true)) = true
    rw [h3, h4]
    rfl
  refine ⟨.tup (SqT.of h) (.cons (.str _) (.cons (.int _) .nil)), ?_, SeqAt.eqv_refl _ hc⟩
  show (((PyData.str "worth").canLay0 && ((PyData.int x).canLay0 && true)) && decide (PyData.depthAll [.str "worth", .int x] + 1 ≤ 64)) = true
  rw [h3, h4]
  rfl
theorem dp_reads (K : PySem.W.Frag) {H : Hp} {R : Addr} {rd : List Pr} {xs : List V} (h : H R = some (.lst xs)) (hP : Prs H rd xs) : Dp K H (.ref R) (.list (Th.pyL (rd.map pairTh))) :=
  Data.dp (t := .lst (rd.map pairTh)) (prs_flat _) ⟨R, _, rfl, h, hP.data⟩
theorem reads_eqv {rd : List Pr} (h : ∀ p ∈ rd, Nm p.1) : PyData.eqv (.list (Th.pyL (rd.map pairTh))) (.list (Th.pyL (rd.map pairTh))) = true := by
  obtain ⟨h1, _⟩ := prs_lay h
  exact SeqAt.eqv_refl _ h1
theorem out_nm {rd : List Pr} {r : Rcp} {s : List Nat} (hb : r.Nb) (h : outOf rd r = .read s) : Nm s :=
  nms_ok hb s (go_name hb (Nat.zero_le _) (out_next 0 h).1).1
/-! ### true records, by recipes at hand -/
theorem good_nb : ∀ {r : Rcp}, r.Good → r.Nb
  | .num n, h => by
    have h1 : (10 : Nat) ^ 40 ≤ 2 ^ 400 := by decide +kernel
    exact Nat.lt_of_lt_of_le (show n.natAbs < 10 ^ 40 from h) h1
  | .read _, h => h
  | .two _ _ _, h => ⟨good_nb h.1, good_nb h.2⟩
  | .pick _ _ _, h => ⟨good_nb h.1, good_nb h.2.1, good_nb h.2.2⟩
  | .choose _ _, h => ⟨good_nb h.1, h.2⟩
/-- a record stands at v -/
def RecAt (H : Hp) (r : Rcp) (rd : List Pr) (w : Int) (v : V) : Prop := ∃ (t L : Addr) (rv : V) (xs : List V), v = .ref t ∧ H t = some (.tup [rv, .ref L, .int w]) ∧ H L = some (.lst xs) ∧ Rec H r rv ∧ Prs H rd xs
theorem RecAt.same {H H' : Hp} {r : Rcp} {rd : List Pr} {w : Int} {v : V} (h : RecAt H r rd w v) (s : Same H H') : RecAt H' r rd w v := by
  obtain ⟨t, L, rv, xs, e, h1, h2, h3, h4⟩ := h
  exact ⟨t, L, rv, xs, e, s _ _ h1, s _ _ h2, h3.same s, h4.same s⟩
def Out.isW (o : Out) (w : Int) : Bool := match o with
  | .worth x => decide (x = w)
  | _ => false
def trueR (r : Rcp) (rd : List Pr) (w : Int) : Bool := r.th.isRcp && (outOf rd r).isW w
def spIsRead : Sp := fun vs H Q _ => ∃ (t : Addr) (s : List Nat) (n : Int), vs = [.ref t] ∧ H t = some (.tup [.str (SX.S s), .int n]) ∧ Nm s ∧ ∀ H', Same H H' → Q (.bl true) H'
def spTrueR : Sp := fun vs H Q _ => ∃ (v : V) (r : Rcp) (rd : List Pr) (w : Int), vs = [v] ∧ RecAt H r rd w v ∧ r.th.tame = true ∧ r.Nb ∧ (r.th.isRcp = true → r.dep ≤ 9) ∧ Small rd ∧ rd.length ≤ 1000000 ∧ ∀ H', Same H H' → Q (.bl (trueR r rd w)) H'
theorem read_rcp {s : List Nat} (h : Nm s) : (Rcp.read s).th.isRcp = true := Rcp.isRcp (r := .read s) h (by show 1 ≤ 8; decide) (by show 1 ≤ 100; decide)
theorem sh_worth (x : Int) : SeqAt.shaped (.tuple [.str "worth", .int x]) = true := by
  have h4 : (PyData.str "worth").canLay0 = true := by decide +kernel
  show (((PyData.str "worth").canLay0 && ((PyData.int x).canLay0 && true)) && decide (PyData.depthAll [.str "worth", .int x] + 1 ≤ 64)) = true
  rw [h4]
  rfl
section
variable {P : Program} {w : World} {K : PySem.W.Frag} {mg : Str → Option Value} {base : Heap}
abbrev s_is_read : Stmt := topS 27
abbrev N_is_read : List Str := ["thing"]
theorem sc_is_read : FnScope N_is_read ["thing"] (defScope s_is_read) := ⟨rfl, rfl, rfl, by decide +kernel, rfl, by decide +kernel, by decide +kernel⟩

theorem ok_is_readR (T : Txt K mg) (D : IsDef K mg "is_read" s_is_read ["thing"]) (C_is_recipe : Cal P w K mg base CX0 4 "is_recipe" ["thing"] spIsRecipe) (C_whole : Cal P w K mg base CX0 1 "is_whole_behind" ["thing"] spIsWhole) : Cal P w K mg base CX0 5 "is_read" ["thing"] spIsRead := by
  have C_is_whole_behind := C_whole.mono (show 1 ≤ 4 by omega)
  refine D.cal sc_is_read (fun vs H Q E h => ?_) (fun f cdv A outer s H vs Q E hr h => ?_)
  · obtain ⟨t, s0, n, rfl, _⟩ := h
    rfl
  obtain ⟨t, s0, n, rfl, ht, hs, q⟩ := h
  refine ⟨_, (pss_one (ps_ret (pe_and (pe_callB call_isi (by rfl) T.b_isinstance (by decide +kernel) (pa_cons (pv 0) (pa_cons (pe_bltn (v := .ty "tuple") (by rfl) T.b_tuple (by decide +kernel) rfl) pa_nil))) (pe_and (pe_cmpR op_eq (pe_callB call_len_seq (by rfl) T.b_len PySem.boot_len (pa_cons (pv 0) pa_nil)) pe_int (nomark _)) (pe_and (pe_cal C_is_recipe (hr.mono (by first | decide | omega)) pass0 (pa_cons (pe_tup (pa_cons pe_str (pa_cons (pe_ix (r := rIxT K) ix_tup (pv 0) pe_int (fun _ _ => rfl)) pa_nil))) pa_nil)) (pe_one (pe_cal C_is_whole_behind (hr.mono (by first | decide | omega)) pass0 (pa_cons (pe_ix (r := rIxT K) ix_tup (pv 0) pe_int (fun _ _ => rfl)) pa_nil)))))))), ?_⟩
  refine ⟨_, rfl, _, _, .type "tuple", _, true, rfl, .ty _, .base (.tup ht), kit_ty (by decide +kernel), _, rfl, iteT ?_⟩
  refine ⟨_, rfl, t, _, rfl, .inr (SqT.of ht), rfl, _, rfl, iteY rfl ?_⟩
  refine ⟨_, rfl, t, _, _, _, rfl, rfl, SqT.of ht, rfl, le_line (Nat.le_of_ble_eq_true rfl), fun u nu => ?_⟩
  have su := same_new nu (.tup [.str "read", .str (SX.S s0)])
  have hR : Rec (upd H u (.tup [.str "read", .str (SX.S s0)])) (.read s0) (.ref u) := ⟨u, rfl, upd_same⟩
  refine ⟨.ref u, (Rcp.read s0).th, rfl, hR.data, Rcp.tame (r := .read s0) hs, fun H2 s2 => ⟨_, rfl, ?_⟩⟩
  rw [read_rcp hs]
  refine iteT ?_
  have ht2 := s2 _ _ (su _ _ ht)
  refine ⟨_, rfl, t, _, _, _, rfl, rfl, SqT.of ht2, rfl, .int n, .int n, rfl, rfl, ?_⟩
  exact q _ (su.trans s2)
abbrev s_is_true_record : Stmt := topS 28
abbrev N_is_true_record : List Str := ["thing", "told", "read"]
theorem sc_is_true_record : FnScope N_is_true_record ["thing"] (defScope s_is_true_record) := ⟨rfl, rfl, rfl, by decide +kernel, rfl, by decide +kernel, by decide +kernel⟩

theorem ok_is_trueR {CN : Addr} (T : Txt K mg) (XNoRead : NoX K mg "NoRead" CN) (hm : PySem.W.exmOne K (.ref CN) (.ref CN) = some true) (D : IsDef K mg "is_true_record" s_is_true_record ["thing"]) (C_rec : Cal P w K mg base CX0 4 "is_recipe" ["thing"] spIsRecipe) (C_whole : Cal P w K mg base CX0 1 "is_whole_behind" ["thing"] spIsWhole)
    (C_read : Cal P w K mg base CX0 5 "is_read" ["thing"] spIsRead) (C_behind0 : Cal P w K mg base (L2.CX P w) 20 "behind" ["r", "reads"] (spBhd CN)) : Cal P w K mg base CX0 21 "is_true_record" ["thing"] spTrueR := by
  have C_behind := C_behind0
  have C_is_recipe := C_rec.mono (show 4 ≤ 20 by omega)
  have C_is_whole_behind := C_whole.mono (show 1 ≤ 20 by omega)
  have C_is_read := C_read.mono (show 5 ≤ 20 by omega)
  have GNoRead := XNoRead.g
  refine D.cal sc_is_true_record (fun vs H Q E h => ?_) (fun f cdv A outer s H vs Q E hr h => ?_)
  · obtain ⟨v, r, rd, w, rfl, _⟩ := h
    rfl
  obtain ⟨v, r, rd, wt, rfl, ⟨t, L, rv, xs, rfl, ht, hL, hRc, hP⟩, htm, hNb, hdp, hsm, hrl, q⟩ := h
  have hxl := hP.len
  refine ⟨_, (pss_cons (ps_if (PW.pt (pw_or (pt_not (pt_val (pe_callB call_isi (by rfl) T.b_isinstance (by decide +kernel) (pa_cons (pv 0) (pa_cons (pe_bltn (v := .ty "tuple") (by rfl) T.b_tuple (by decide +kernel) rfl) pa_nil))))) (pw_or (pt_cmpR op_ne (pe_callB call_len_seq (by rfl) T.b_len PySem.boot_len (pa_cons (pv 0) pa_nil)) pe_int (nomark _)) (pw_or (pt_not (pt_val (pe_cal C_is_recipe (hr.mono (by first | decide | omega)) pass0 (pa_cons (pe_ix (r := rIxT K) ix_tup (pv 0) pe_int (fun _ _ => rfl)) pa_nil)))) (pw_or1 (pt_not (pt_val (pe_cal C_is_whole_behind (hr.mono (by first | decide | omega)) pass0 (pa_cons (pe_ix (r := rIxT K) ix_tup (pv 0) pe_int (fun _ _ => rfl)) pa_nil)))))))))
        (pss_one (ps_ret pe_bl))
        pss_nil)
      (pss_cons (ps_if (PW.pt (pw_or (pt_not (pt_val (pe_callB call_isi (by rfl) T.b_isinstance (by decide +kernel) (pa_cons (pe_ix (r := rIxT K) ix_tup (pv 0) pe_int (fun _ _ => rfl)) (pa_cons (pe_bltn (v := .ty "list") (by rfl) T.b_list (by decide +kernel) rfl) pa_nil))))) (pw_or1 (pt_cmpR (op_neD hr.units) (pe_lc (own := [("read", 2)]) (g := gName 2)  (by rfl) sc_is_true_record.nd  (pi_list (pe_ix (r := rIxT K) ix_tup (pv 0) pe_int (fun _ _ => rfl))) (blkOk_by (own := [("read", 2)]) (N := N_is_true_record) (sc := defScope s_is_true_record) (by decide +kernel)) (fun _ _ _ _ _ => (pg_name (i := 2) sc_is_true_record.nd rfl (Or.inl rfl))) (fun _ _ _ _ _ => (pts_one (pt_not (pt_val (pe_cal C_is_read (hr.mono (by first | decide | omega)) pass0 (pa_cons (pv 2) pa_nil)))))) (fun _ _ _ _ _ => (pv 2))) (pe_lst pa_nil) (nomark _)))))
        (pss_one (ps_ret pe_bl))
        pss_nil)
      (pss_cons (ps_try_only rfl rfl ⟨rfl, by decide, .inl GNoRead⟩ takes0 (fun W pn xe tk _ => (pss_one (ps_set (i := 1) sc_is_true_record.nd rfl (Or.inl rfl) (pe_calS C_behind (hr.mono (by first | decide | omega)) (fun σ => passAt tk σ) (pa_cons (pe_ix (r := rIxT K) ix_tup (pv 0) pe_int (fun _ _ => rfl)) (pa_cons (pe_ix (r := rIxT K) ix_tup (pv 0) pe_int (fun _ _ => rfl)) pa_nil))))))
        (fun a oe cls d pn _ _ => (pss_one (ps_set (i := 1) sc_is_true_record.nd rfl (Or.inl rfl) (pe_tup (pa_cons pe_str pa_nil))))))
      (pss_one (ps_ret (pe_cmpR (op_eqD hr.units) (pv 1) (pe_tup (pa_cons pe_str (pa_cons (pe_ix (r := rIxT K) ix_tup (pv 0) pe_int (fun _ _ => rfl)) pa_nil))) (nomark _))))))), ?_⟩
  refine ⟨_, rfl, _, _, .type "tuple", _, true, rfl, .ty _, .base (.tup ht), kit_ty (by decide +kernel), _, rfl, not_true_eq rfl ?_⟩
  refine ⟨_, rfl, t, _, rfl, .inr (SqT.of ht), rfl, _, rfl, not_true_eq (decide_eq_true rfl) ?_⟩
  refine ⟨_, rfl, t, _, _, _, rfl, rfl, SqT.of ht, rfl, rv, r.th, rfl, hRc.data, htm, fun H1 s1 => ⟨_, rfl, ?_⟩⟩
  unfold trueR at q
  cases hrc : r.th.isRcp with
  | false =>
    rw [hrc] at q
    exact not_false_eq rfl (q _ s1)
  | true =>
    rw [hrc] at q
    refine not_true_eq rfl ?_
    have ht1 := s1 _ _ ht
    have hL1 := s1 _ _ hL
    refine ⟨_, rfl, t, _, _, _, rfl, rfl, SqT.of ht1, rfl, .int wt, .int wt, rfl, rfl, ⟨_, rfl, not_true_eq rfl ?_⟩⟩
    refine ⟨_, rfl, t, _, _, _, rfl, rfl, SqT.of ht1, rfl, _, _, .type "list", _, true, rfl, .ty _, .base (.lst hL1), kit_ty (by decide +kernel), _, rfl, not_true_eq rfl ?_⟩
    refine ⟨_, rfl, t, _, _, _, rfl, rfl, SqT.of ht1, rfl, L, rfl, ⟨_, SqL.of hL1⟩, fun M nM => lc_list (K := K) (xs := xs) (fun i G => Same H1 G ∧ G M = some (.lst [])) ⟨same_new nM _, upd_same⟩ (fun i G _ h => SqL.of (h.1 _ _ hL1)) (fun i x G hx h => ?_) (fun G h => ?_)⟩
    · obtain ⟨p, u, hp1, rfl, hu⟩ := hP.at hx
      have hu1 := h.1 _ _ (s1 _ _ hu)
      exact ⟨rfl, _, rfl, u, p.1, p.2, rfl, hu1, (hsm p (List.mem_of_getElem? hp1)).1, fun G2 s2 => ⟨_, rfl, not_true_eq rfl ⟨h.1.trans s2, s2 _ _ h.2⟩⟩⟩
    · obtain ⟨g1, g2⟩ := h
      refine ⟨Nat.zero_le _, fun e ne => ?_⟩
      have se := same_new ne (.lst [])
      refine ⟨.list [], .list [], .lst (SqL.of (se _ _ g2)) .nil, .lst (SqL.of upd_same) .nil, rfl, rfl, _, rfl, ?_⟩
      rw [show PyData.eqv (.list []) (.list []) = true from rfl]
      refine iteF ?_
      have sA := s1.trans (g1.trans se)
      have htA := sA _ _ ht
      have hLA := sA _ _ hL
      have hPA := hP.same sA
      refine ⟨_, rfl, t, _, _, _, rfl, rfl, SqT.of htA, rfl, _, rfl, t, _, _, _, rfl, rfl, SqT.of htA, rfl, rv, L, r, rd, xs, rfl, hRc.same sA, hNb, hdp hrc, hLA, hPA, hrl, hsm, ?_⟩
      refine ⟨fun s0 u G2 e2 s2 hu => ?_, fun x u G2 e2 s2 hu => ?_, fun G2 e2 s2 => ?_⟩
      · have hu1 := s2 _ _ htA
        refine ⟨_, rfl, _, rfl, t, _, _, _, rfl, rfl, SqT.of hu1, rfl, le_line (Nat.le_of_ble_eq_true rfl), fun u2 nu2 => ?_⟩
        have su2 := same_new nu2 (.tup [.str "worth", .int wt])
        refine ⟨_, _, (dp_read K (su2 _ _ hu) (out_nm hNb e2)).1, (dp_worth K upd_same).1, (dp_read K (su2 _ _ hu) (out_nm hNb e2)).2.1, sh_worth _, ?_⟩
        have hq := q _ (sA.trans (s2.trans su2))
        rw [e2] at hq
        exact hq
      · have hu1 := s2 _ _ htA
        refine ⟨_, rfl, _, rfl, t, _, _, _, rfl, rfl, SqT.of hu1, rfl, le_line (Nat.le_of_ble_eq_true rfl), fun u2 nu2 => ?_⟩
        have su2 := same_new nu2 (.tup [.str "worth", .int wt])
        refine ⟨_, _, (dp_worth K (su2 _ _ hu)).1, (dp_worth K upd_same).1, (dp_worth K (su2 _ _ hu)).2.1, sh_worth _, ?_⟩
        have hq := q _ (sA.trans (s2.trans su2))
        have eb : PyData.eqv (.tuple [.str "worth", .int x]) (.tuple [.str "worth", .int wt]) = (outOf rd r).isW wt := by
          rw [e2]
          show ((("worth" : Str) == "worth") && ((x == wt) && true)) = decide (x = wt)
          rw [beq_self_eq_true, Bool.true_and, Bool.and_true]
          by_cases c : x = wt
          · rw [c, beq_self_eq_true, decide_eq_true rfl]
          · rw [beq_eq_false_iff_ne.mpr c, decide_eq_false c]
        rw [eb]
        exact hq
      · refine ⟨true, hm, fun _ a na => ?_, fun z => nomatch z⟩
        refine ⟨le_line (Nat.le_of_ble_eq_true rfl), fun u nu => ?_⟩
        have su := same_new nu (.tup [.str "none"])
        have hu1 := su _ _ (s2 _ _ htA)
        refine ⟨_, rfl, _, rfl, t, _, _, _, rfl, rfl, SqT.of hu1, rfl, le_line (Nat.le_of_ble_eq_true rfl), fun u2 nu2 => ?_⟩
        have su2 := same_new nu2 (.tup [.str "worth", .int wt])
        have hun : upd (upd G2 u (.tup [.str "none"])) u2 (.tup [.str "worth", .int wt]) u = some (.tup [.str "none"]) := su2 _ _ upd_same
        refine ⟨.tuple [.str "none"], _, .tup (SqT.of hun) (.cons (.str _) .nil), (dp_worth K upd_same).1, by decide +kernel, sh_worth _, ?_⟩
        have hq := q _ (sA.trans (s2.trans (su.trans su2)))
        rw [e2] at hq
        exact hq
end
/-! ### the numbers of a record -/
def Rcp.nums : Rcp → List Int
  | .num n => [n]
  | .read _ => []
  | .two _ a b => a.nums ++ b.nums
  | .pick a b c => a.nums ++ (b.nums ++ c.nums)
  | .choose a _ => a.nums
theorem nums_le : ∀ r : Rcp, r.nums.length ≤ r.siz
  | .num _ => Nat.le_refl _
  | .read _ => Nat.zero_le _
  | .two _ a b => by
    have h1 := nums_le a
    have h2 := nums_le b
    show (a.nums ++ b.nums).length ≤ a.siz + b.siz + 1
    rw [List.length_append]
    omega
  | .pick a b c => by
    have h1 := nums_le a
    have h2 := nums_le b
    have h3 := nums_le c
    show (a.nums ++ (b.nums ++ c.nums)).length ≤ a.siz + b.siz + c.siz + 1
    rw [List.length_append, List.length_append]
    omega
  | .choose a _ => by
    have := nums_le a
    show a.nums.length ≤ a.siz + 1
    omega
def intsV (l : List Int) : List V := l.map V.int
theorem intsV_app (a b : List Int) : intsV (a ++ b) = intsV a ++ intsV b := List.map_append ..
theorem intsV_len (a : List Int) : (intsV a).length = a.length := List.length_map ..
def spNums (k : Nat) : Sp := fun vs H Q _ => ∃ (v : V) (r : Rcp), vs = [v] ∧ Rec H r v ∧ r.dep ≤ k ∧ r.siz ≤ 1000 ∧ ∀ (H' : Hp) (L : Addr), Same H H' → H' L = some (.lst (intsV r.nums)) → H L = none → Q (.ref L) H'
theorem cut_not_whole_from2 (xs : List V) (h : 2 ≤ xs.length) (_ : True) : ¬ (HT.sIx xs.length 0 (some 2) = 0 ∧ HT.sIx xs.length xs.length none = xs.length) := fun z => by
  have z1 : HT.sIx xs.length 0 (some ((2 : Nat) : Int)) = 0 := z.1
  rw [HT.sIx_nat] at z1
  omega
section
variable {P : Program} {w : World} {K : PySem.W.Frag} {mg : Str → Option Value} {base : Heap}
abbrev s_numbers_in : Stmt := topS 45
abbrev N_numbers_in : List Str := ["r", "found", "part"]
theorem sc_numbers_in : FnScope N_numbers_in ["r"] (defScope s_numbers_in) := ⟨rfl, rfl, rfl, by decide +kernel, rfl, by decide +kernel, by decide +kernel⟩

theorem ok_numbers_in (T : Txt K mg) (D : IsDef K mg "numbers_in" s_numbers_in ["r"]) : ∀ k, Cal P w K mg base CX0 k "numbers_in" ["r"] (spNums k)
  | 0 => cal_none D fun vs H Q E h => by
    obtain ⟨_, r, _, _, hd, _⟩ := h
    have := dep_pos r
    omega
  | k + 1 => by
    have C_numbers_in := ok_numbers_in T D k
    refine D.cal sc_numbers_in (fun vs H Q E h => ?_) (fun f cdv A outer s H vs Q E hr h => ?_)
    · obtain ⟨v, r, rfl, _⟩ := h
      rfl
    obtain ⟨v, r, rfl, hR, hd, hz, q⟩ := h
    refine ⟨_, (pss_cons (ps_if (pt_cmpR op_eq (pe_ix (r := rIxT K) ix_tup (pv 0) pe_int (fun _ _ => rfl)) pe_str (nomark _))
        (pss_one (ps_ret (pe_lst (pa_cons (pe_ix (r := rIxT K) ix_tup (pv 0) pe_int (fun _ _ => rfl)) pa_nil))))
        pss_nil)
      (pss_cons (ps_if (pt_cmpR op_eq (pe_ix (r := rIxT K) ix_tup (pv 0) pe_int (fun _ _ => rfl)) pe_str (nomark _))
        (pss_one (ps_ret (pe_lst pa_nil)))
        pss_nil)
      (pss_cons (ps_set (i := 1) sc_numbers_in.nd rfl (Or.inl rfl) (pe_cal C_numbers_in (hr.mono (by first | decide | omega)) pass0 (pa_cons (pe_ix (r := rIxT K) ix_tup (pv 0) pe_int (fun _ _ => rfl)) pa_nil)))
      (pss_cons (ps_if (pt_cmpR op_ne (pe_ix (r := rIxT K) ix_tup (pv 0) pe_int (fun _ _ => rfl)) pe_str (nomark _))
        (pss_one (ps_for PassesOwn.never rfl (pi_tup (pe_slice (r := rSlT K) sl_tup (pv 0) (po_some pe_int) po_none)) (pg_name (i := 2) sc_numbers_in.nd rfl (Or.inl rfl))
        (pss_one (ps_expr (pe_bm PySem.F.plainAttrs_list PySem.F.slot_list_extend PySem.F.type_list_extend mt_extend (pv 1) (pa_cons (pe_cal C_numbers_in (hr.mono (by first | decide | omega)) pass0 (pa_cons (pv 2) pa_nil)) pa_nil))))))
        pss_nil)
      (pss_one (ps_ret (pv 1))))))), ?_⟩
    cases r with
    | num n =>
      obtain ⟨p, rfl, hp⟩ := hR
      refine ⟨_, rfl, p, _, _, _, rfl, rfl, SqT.of hp, rfl, rfl, _, rfl, iteY rfl ?_⟩
      refine ⟨_, rfl, p, _, _, _, rfl, rfl, SqT.of hp, rfl, le_line (Nat.le_of_ble_eq_true rfl), fun L nL => ?_⟩
      exact q _ L (same_new nL _) upd_same nL
    | read s0 =>
      obtain ⟨p, rfl, hp⟩ := hR
      refine ⟨_, rfl, p, _, _, _, rfl, rfl, SqT.of hp, rfl, rfl, _, rfl, iteN (sne (by decide +kernel)) ?_⟩
      refine ⟨_, rfl, p, _, _, _, rfl, rfl, SqT.of hp, rfl, rfl, _, rfl, iteY rfl ?_⟩
      exact ⟨le_line (Nat.le_of_ble_eq_true rfl), fun L nL => q _ L (same_new nL _) upd_same nL⟩
    | choose a ns =>
      obtain ⟨p, x, t2, rfl, hp, ha, ht2⟩ := hR
      have e : (Rcp.choose a ns).dep = a.dep + 1 := rfl
      have e2 : (Rcp.choose a ns).siz = a.siz + 1 := rfl
      refine ⟨_, rfl, p, _, _, _, rfl, rfl, SqT.of hp, rfl, rfl, _, rfl, iteN (sne (by decide +kernel)) ?_⟩
      refine ⟨_, rfl, p, _, _, _, rfl, rfl, SqT.of hp, rfl, rfl, _, rfl, iteN (sne (by decide +kernel)) ?_⟩
      refine ⟨_, rfl, p, _, _, _, rfl, rfl, SqT.of hp, rfl, x, a, rfl, ha, by omega, by omega, fun H1 L s1 hL nL => ?_⟩
      refine ⟨_, rfl, p, _, _, _, rfl, rfl, SqT.of (s1 _ _ hp), rfl, rfl, _, rfl, not_true_eq (decide_eq_true rfl) ?_⟩
      exact ⟨_, rfl, q _ L s1 hL nL⟩
    | two kd a b =>
      obtain ⟨p, x, y, rfl, hp, ha, hb⟩ := hR
      have e : (Rcp.two kd a b).dep = max a.dep b.dep + 1 := rfl
      have e2 : (Rcp.two kd a b).siz = a.siz + b.siz + 1 := rfl
      have na := nums_le a
      have nb := nums_le b
      refine ⟨_, rfl, p, _, _, _, rfl, rfl, SqT.of hp, rfl, rfl, _, rfl, iteN (sne (by cases kd <;> decide +kernel)) ?_⟩
      refine ⟨_, rfl, p, _, _, _, rfl, rfl, SqT.of hp, rfl, rfl, _, rfl, iteN (sne (by cases kd <;> decide +kernel)) ?_⟩
      refine ⟨_, rfl, p, _, _, _, rfl, rfl, SqT.of hp, rfl, x, a, rfl, ha, by omega, by omega, fun H1 L s1 hL nL => ?_⟩
      refine ⟨_, rfl, p, _, _, _, rfl, rfl, SqT.of (s1 _ _ hp), rfl, rfl, _, rfl, not_false_eq (decide_eq_false (sne (by cases kd <;> decide +kernel))) ?_⟩
      refine ⟨_, rfl, _, rfl, p, _, rfl, SqT.of (s1 _ _ hp), cut_not_whole_from2 _ (Nat.le_of_ble_eq_true rfl) trivial, fun T0 nT0 => ?_⟩
      have e3 : cutV ([.str kd.name, x, y] : List V) (some 2) none = [y] := rfl
      rw [e3]
      have sT := same_new nT0 (.tup [y])
      refine ⟨T0, rfl, ⟨_, SqT.of upd_same⟩, for_tup (K := K) (a := T0) (xs := [y]) (fun i σ G => ∃ v2 : Option V, σ = [some (.ref p), some (.ref L), v2] ∧ Fr1 L (upd H1 T0 (.tup [y])) G ∧ G L = some (.lst (intsV (if i = 0 then a.nums else a.nums ++ b.nums)))) ⟨none, rfl, Fr1.refl _ _, sT _ _ hL⟩ (fun i σ G _ ⟨_, _, f, _⟩ => SqT.of (f _ _ (ne_of_none hL nT0).symm upd_same)) (fun i x0 σ G hx ⟨v2, hσ, f, hG⟩ => ?_) (fun σ G ⟨v2, hσ, f, hG⟩ => ?_)⟩
      · subst hσ
        match i, hx with
        | 0, hx =>
          have hx0 : y = x0 := Option.some.inj hx
          subst hx0
          have hb1 : Rec G b y := (hb.same (s1.trans sT)).keep (f.keep (sT _ _ hL))
          refine ⟨_, rfl, .inl ⟨rfl, _, SqL.of hG⟩, _, rfl, y, b, rfl, hb1, by omega, by omega, fun H3 M s3 hM nM => ?_⟩
          have hL3 := s3 _ _ hG
          rw [if_pos rfl] at hL3
          refine ⟨L, M, _, _, rfl, rfl, hL3, hM, le_line (by rw [intsV_len, intsV_len]; omega), _, rfl, fun z u n e => by rw [upd_ne n]; exact s3 _ _ (f z u n e), ?_⟩
          rw [upd_same, if_neg (by decide), intsV_app]
      · subst hσ
        have hG : G L = some (.lst (intsV (a.nums ++ b.nums))) := hG
        have sG : Same H G := fun z u e => f z u (fun e1 => by rw [e1, nL] at e; cases e) (sT _ _ (s1 _ _ e))
        exact ⟨_, rfl, q _ L sG hG nL⟩
    | pick a b c =>
      obtain ⟨p, x, y, z0, rfl, hp, ha, hb, hc⟩ := hR
      have e : (Rcp.pick a b c).dep = max a.dep (max b.dep c.dep) + 1 := rfl
      have e2 : (Rcp.pick a b c).siz = a.siz + b.siz + c.siz + 1 := rfl
      have na := nums_le a
      have nb := nums_le b
      have nc := nums_le c
      refine ⟨_, rfl, p, _, _, _, rfl, rfl, SqT.of hp, rfl, rfl, _, rfl, iteN (sne (by decide +kernel)) ?_⟩
      refine ⟨_, rfl, p, _, _, _, rfl, rfl, SqT.of hp, rfl, rfl, _, rfl, iteN (sne (by decide +kernel)) ?_⟩
      refine ⟨_, rfl, p, _, _, _, rfl, rfl, SqT.of hp, rfl, x, a, rfl, ha, by omega, by omega, fun H1 L s1 hL nL => ?_⟩
      refine ⟨_, rfl, p, _, _, _, rfl, rfl, SqT.of (s1 _ _ hp), rfl, rfl, _, rfl, not_false_eq (decide_eq_false (sne (by decide +kernel))) ?_⟩
      refine ⟨_, rfl, _, rfl, p, _, rfl, SqT.of (s1 _ _ hp), cut_not_whole_from2 _ (Nat.le_of_ble_eq_true rfl) trivial, fun T0 nT0 => ?_⟩
      have e3 : cutV ([.str "pick", x, y, z0] : List V) (some 2) none = [y, z0] := rfl
      rw [e3]
      have sT := same_new nT0 (.tup [y, z0])
      refine ⟨T0, rfl, ⟨_, SqT.of upd_same⟩, for_tup (K := K) (a := T0) (xs := [y, z0]) (fun i σ G => ∃ v2 : Option V, σ = [some (.ref p), some (.ref L), v2] ∧ Fr1 L (upd H1 T0 (.tup [y, z0])) G ∧ G L = some (.lst (intsV (if i = 0 then a.nums else if i = 1 then a.nums ++ b.nums else (a.nums ++ b.nums) ++ c.nums)))) ⟨none, rfl, Fr1.refl _ _, sT _ _ hL⟩ (fun i σ G _ ⟨_, _, f, _⟩ => SqT.of (f _ _ (ne_of_none hL nT0).symm upd_same)) (fun i x0 σ G hx ⟨v2, hσ, f, hG⟩ => ?_) (fun σ G ⟨v2, hσ, f, hG⟩ => ?_)⟩
      · subst hσ
        have kp := f.keep (sT _ _ hL)
        have ss := s1.trans sT
        match i, hx with
        | 0, hx =>
          have hx0 : y = x0 := Option.some.inj hx
          subst hx0
          refine ⟨_, rfl, .inl ⟨rfl, _, SqL.of hG⟩, _, rfl, y, b, rfl, (hb.same ss).keep kp, by omega, by omega, fun H3 M s3 hM nM => ?_⟩
          have hL3 := s3 _ _ hG
          rw [if_pos rfl] at hL3
          refine ⟨L, M, _, _, rfl, rfl, hL3, hM, le_line (by rw [intsV_len, intsV_len]; omega), _, rfl, fun z u n e => by rw [upd_ne n]; exact s3 _ _ (f z u n e), ?_⟩
          rw [upd_same, if_neg (by decide), if_pos rfl, intsV_app]
        | 1, hx =>
          have hx0 : z0 = x0 := Option.some.inj hx
          subst hx0
          refine ⟨_, rfl, .inl ⟨rfl, _, SqL.of hG⟩, _, rfl, z0, c, rfl, (hc.same ss).keep kp, by omega, by omega, fun H3 M s3 hM nM => ?_⟩
          have hL3 := s3 _ _ hG
          rw [if_neg (by decide), if_pos rfl] at hL3
          refine ⟨L, M, _, _, rfl, rfl, hL3, hM, le_line (by rw [intsV_len, intsV_len, List.length_append]; omega), _, rfl, fun z u n e => by rw [upd_ne n]; exact s3 _ _ (f z u n e), ?_⟩
          rw [upd_same, if_neg (by decide), if_neg (by decide), intsV_app (a.nums ++ b.nums) c.nums]
      · subst hσ
        have hG' : G L = some (.lst (intsV (Rcp.pick a b c).nums)) := by
          show G L = some (.lst (intsV (a.nums ++ (b.nums ++ c.nums))))
          rw [← List.append_assoc]
          exact hG
        have sG : Same H G := fun z u e => f z u (fun e1 => by rw [e1, nL] at e; cases e) (sT _ _ (s1 _ _ e))
        exact ⟨_, rfl, q _ L sG hG' nL⟩
end
/-! ### the text of a record -/
theorem call_str_any {X : Cx} : CallR X (.type "str") (fun xs H Q => (∃ i, xs = [.int i] ∧ i.natAbs.log2 < 1920 ∧ Q (.str (toString i)) H) ∨ ∃ a, xs = [.str a] ∧ Q (.str a) H) := by
  intro pins s σ H xs us Q I r h
  rcases h with h | h
  · exact call_str_int pins s σ H xs us Q I r h
  · exact SkE.call_str_str pins s σ H xs us Q I r h
theorem intL_lenG {n : Int} {d : Nat} (hd : 1 ≤ d) (h : n.natAbs < 10 ^ d) : (intL n).length ≤ d + 1 := by
  have z : ∀ m : Int, 0 ≤ m → m.natAbs < 10 ^ d → (Str.ofString (toString m)).length ≤ d := fun m m0 hm => by
    refine PyProof.Rows.toString_length_le m0 hd ?_
    have e : (m.natAbs : Int) = m := Int.natAbs_of_nonneg m0
    rw [← e]
    exact Int.ofNat_lt.mpr hm
  have e : (intL n).length = (Str.ofString (toString n)).length := by
    rw [intL_S n, SX.S_len]
  rw [e]
  by_cases h0 : 0 ≤ n
  · exact Nat.le_succ_of_le (z n h0 h)
  · rw [PyProof.Rows.len_text_neg (by omega)]
    have := z (0 - n) (by omega) (by rw [show (0 - n).natAbs = n.natAbs by omega]; exact h)
    omega
theorem intL_chars (n : Int) : ∀ c ∈ intL n, c = 45 ∨ (48 ≤ c ∧ c ≤ 57) := fun c hc => by
  by_cases h0 : 0 ≤ n
  · obtain ⟨m, rfl⟩ : ∃ m : Nat, n = (m : Int) := ⟨n.toNat, by omega⟩
    rw [intL_nat] at hc
    exact .inr (TL.numL_digits m c hc)
  · obtain ⟨m, rfl, hm⟩ : ∃ m : Nat, n = -(m : Int) ∧ 1 ≤ m := ⟨(-n).toNat, by omega, by omega⟩
    rw [intL_neg hm] at hc
    rcases List.mem_cons.mp hc with h | h
    · exact .inl h
    · exact .inr (TL.numL_digits m c h)
theorem log400 {n : Int} (h : n.natAbs < 2 ^ 400) : n.natAbs.log2 < 1920 := by
  by_cases z : n.natAbs = 0
  · rw [z]; decide
  · exact (Nat.log2_lt z).mpr (Nat.lt_of_lt_of_le h (Nat.pow_le_pow_right (by decide) (by decide)))
theorem log1900 {n : Int} (h : n.natAbs < 2 ^ 1900) : n.natAbs.log2 < 1920 := by
  by_cases z : n.natAbs = 0
  · rw [z]; decide
  · exact (Nat.log2_lt z).mpr (Nat.lt_of_lt_of_le h (Nat.pow_le_pow_right (by decide) (by decide)))
theorem len400 {n : Int} (h : n.natAbs < 2 ^ 400) : (intL n).length ≤ 122 := intL_lenG (d := 121) (by decide) (Nat.lt_of_lt_of_le h (by decide +kernel))
theorem len1900 {n : Int} (h : n.natAbs < 2 ^ 1900) : (intL n).length ≤ 601 := intL_lenG (d := 600) (by decide) (Nat.lt_of_lt_of_le h (by decide +kernel))
theorem nms_len {ns : List (List Nat)} (h : Nms ns) : (TL.joinL [44] ns).length ≤ 81 := names_len h
theorem txt_lenB : ∀ {r : Rcp}, r.Nb → r.txt.length ≤ 200 * r.siz
  | .num n, h => by
    have := len400 (n := n) h
    show (intL n).length ≤ 200
    omega
  | .read s, h => by
    have := h.2.1
    show s.length ≤ 200
    omega
  | .two k a b, h => by
    have h1 := txt_lenB h.1
    have h2 := txt_lenB h.2
    show (40 :: (a.txt ++ (32 :: k.sign :: 32 :: (b.txt ++ [41])))).length ≤ 200 * (a.siz + b.siz + 1)
    simp
    omega
  | .pick a b c, h => by
    have h1 := txt_lenB h.1
    have h2 := txt_lenB h.2.1
    have h3 := txt_lenB h.2.2
    show (91 :: (a.txt ++ (32 :: 63 :: 32 :: (b.txt ++ (32 :: 58 :: 32 :: (c.txt ++ [93])))))).length ≤ 200 * (a.siz + b.siz + c.siz + 1)
    simp
    omega
  | .choose a ns, h => by
    have h1 := txt_lenB h.1
    have h2 := nms_len h.2
    show (a.txt ++ (123 :: (TL.joinL [44] ns ++ [125]))).length ≤ 200 * (a.siz + 1)
    simp
    omega
theorem joinL_chars : ∀ {ns : List (List Nat)} {P : Nat → Prop}, (∀ s ∈ ns, ∀ c ∈ s, P c) → P 44 → ∀ c ∈ TL.joinL [44] ns, P c
  | [], _, _, _, c, hc => by cases hc
  | [p], _, h, _, c, hc => h p (List.mem_singleton.mpr rfl) c hc
  | p :: q :: r, P, h, h44, c, hc => by
    have hc' : c ∈ p ++ ([44] ++ TL.joinL [44] (q :: r)) := hc
    rcases List.mem_append.mp hc' with m | m
    · exact h p (List.mem_cons_self ..) c m
    · rcases List.mem_append.mp m with m | m
      · rw [List.mem_singleton.mp m]; exact h44
      · exact joinL_chars (fun s hs => h s (List.mem_cons_of_mem _ hs)) h44 c m
theorem txt_lowB : ∀ {r : Rcp}, r.Nb → ∀ c ∈ r.txt, c < 128
  | .num n, _, c, hc => by have := intL_chars n c hc; omega
  | .read s, h, c, hc => by have := h.2.2 c hc; omega
  | .two k a b, h, c, hc => by
    have hk : k.sign < 128 := by cases k <;> decide
    have hc' : c ∈ 40 :: (a.txt ++ (32 :: k.sign :: 32 :: (b.txt ++ [41]))) := hc
    simp only [List.mem_cons, List.mem_append, List.not_mem_nil, or_false] at hc'
    rcases hc' with h1 | h1 | h1 | h1 | h1 | h1 | h1
    · omega
    · exact txt_lowB h.1 c h1
    · omega
    · omega
    · omega
    · exact txt_lowB h.2 c h1
    · omega
  | .pick a b d, h, c, hc => by
    have hc' : c ∈ 91 :: (a.txt ++ (32 :: 63 :: 32 :: (b.txt ++ (32 :: 58 :: 32 :: (d.txt ++ [93]))))) := hc
    simp only [List.mem_cons, List.mem_append, List.not_mem_nil, or_false] at hc'
    rcases hc' with h1 | h1 | h1 | h1 | h1 | h1 | h1 | h1 | h1 | h1 | h1
    · omega
    · exact txt_lowB h.1 c h1
    · omega
    · omega
    · omega
    · exact txt_lowB h.2.1 c h1
    · omega
    · omega
    · omega
    · exact txt_lowB h.2.2 c h1
    · omega
  | .choose a ns, h, c, hc => by
    have hc' : c ∈ a.txt ++ (123 :: (TL.joinL [44] ns ++ [125])) := hc
    simp only [List.mem_cons, List.mem_append, List.not_mem_nil, or_false] at hc'
    rcases hc' with h1 | h1 | h1 | h1
    · exact txt_lowB h.1 c h1
    · omega
    · exact joinL_chars (P := fun c => c < 128) (fun s hs c hc => by have := (h.2.2.2 s hs).2.2 c hc; omega) (by decide) c h1
    · omega
def pairTx (p : Pr) : List Nat := p.1 ++ (61 :: intL p.2)
def recTx (r : Rcp) (rd : List Pr) (w : Int) : List Nat := r.txt ++ ([32, 91] ++ (TL.joinL [44] (rd.map pairTx) ++ ([93, 32, 61, 32] ++ intL w)))
theorem pairTx_len {rd : List Pr} (h : Small rd) : ∀ s ∈ rd.map pairTx, s.length ≤ 140 := fun s hs => by
  obtain ⟨p, hp, rfl⟩ := List.mem_map.mp hs
  obtain ⟨h1, h2⟩ := h p hp
  have := h1.2.1
  have := len400 h2
  show (p.1 ++ (61 :: intL p.2)).length ≤ 140
  simp
  omega
theorem pairTx_low {rd : List Pr} (h : Small rd) : ∀ s ∈ rd.map pairTx, ∀ c ∈ s, c < 128 := fun s hs c hc => by
  obtain ⟨p, hp, rfl⟩ := List.mem_map.mp hs
  obtain ⟨h1, h2⟩ := h p hp
  rcases List.mem_append.mp hc with m | m
  · have := h1.2.2 c m; omega
  · rcases List.mem_cons.mp m with m | m
    · omega
    · have := intL_chars p.2 c m; omega
theorem reads_len {rd : List Pr} (h : Small rd) : (TL.joinL [44] (rd.map pairTx)).length ≤ 141 * rd.length := by
  have := joinL_len (ns := rd.map pairTx) 140 (pairTx_len h)
  rw [List.length_map] at this
  exact this
theorem recTx_len {r : Rcp} {rd : List Pr} {w : Int} (hr : r.Nb) (hs : Small rd) (hw : w.natAbs < 2 ^ 1900) : (recTx r rd w).length ≤ 200 * r.siz + 141 * rd.length + 607 := by
  have h1 := txt_lenB hr
  have h2 := reads_len hs
  have h3 := len1900 hw
  unfold recTx
  simp
  omega
theorem recTx_low {r : Rcp} {rd : List Pr} {w : Int} (hr : r.Nb) (hs : Small rd) : ∀ c ∈ recTx r rd w, c < 128 := fun c hc => by
  unfold recTx at hc
  rcases List.mem_append.mp hc with m | m
  · exact txt_lowB hr c m
  · rcases List.mem_append.mp m with m | m
    · simp at m; omega
    · rcases List.mem_append.mp m with m | m
      · exact joinL_chars (P := fun c => c < 128) (pairTx_low hs) (by decide) c m
      · rcases List.mem_append.mp m with m | m
        · simp at m; omega
        · have := intL_chars w c m; omega
def signs4 : List (Key × V) := [(Sum.inr ("plus" : Str), .str " + "), (Sum.inr ("minus" : Str), .str " - "), (Sum.inr ("times" : Str), .str " * "), (Sum.inr ("most" : Str), .str " ^ ")]
theorem signs4_get (k : Kd) : valV (mergeK [] signs4) (Sum.inr k.name) = some (.str k.signS) := by cases k <;> decide +kernel
def spShownL (k : Nat) : Sp := fun vs H Q _ => ∃ (v : V) (r : Rcp), vs = [v] ∧ Rec H r v ∧ r.Nb ∧ r.dep ≤ k ∧ r.siz ≤ 1000 ∧ ∀ H', Same H H' → Q (.str (SX.S r.txt)) H'
section
variable {P : Program} {w : World} {K : PySem.W.Frag} {mg : Str → Option Value} {base : Heap}
abbrev s__law_shown : Stmt := topS 63
abbrev N__law_shown : List Str := ["r", "signs"]
theorem sc__law_shown : FnScope N__law_shown ["r"] (defScope s__law_shown) := ⟨rfl, rfl, rfl, by decide +kernel, rfl, by decide +kernel, by decide +kernel⟩

theorem ok__law_shown (T : Txt K mg) (D : IsDef K mg "_law_shown" s__law_shown ["r"]) : ∀ k, Cal P w K mg base CX0 k "_law_shown" ["r"] (spShownL k)
  | 0 => cal_none D fun vs H Q E h => by
    obtain ⟨_, r, _, _, _, hd, _⟩ := h
    have := dep_pos r
    omega
  | k + 1 => by
    have C__law_shown := ok__law_shown T D k
    refine D.cal sc__law_shown (fun vs H Q E h => ?_) (fun f cdv A outer s H0 vs Q E hr h => ?_)
    · obtain ⟨v, r, rfl, _⟩ := h
      rfl
    have hu := hu_of hr
    obtain ⟨v, r, rfl, hR0, hG, hd, hz, q0⟩ := h
    refine ⟨_, (pss_cons (ps_set (i := 1) sc__law_shown.nd rfl (Or.inl rfl) (pe_disp (pps_cons pe_str pe_str (pps_cons pe_str pe_str (pps_cons pe_str pe_str (pps_cons pe_str pe_str pps_nil)))) (by rfl) (by rfl) (fun z => by cases z) (by decide)))
      (pss_cons (ps_if (PW.pt (pw_or (pt_cmpR op_eq (pe_ix (r := rIxT K) ix_tup (pv 0) pe_int (fun _ _ => rfl)) pe_str (nomark _)) (pw_or1 (pt_cmpR op_eq (pe_ix (r := rIxT K) ix_tup (pv 0) pe_int (fun _ _ => rfl)) pe_str (nomark _)))))
        (pss_one (ps_ret (pe_callTy call_str_any (by rfl) T.b_str (by decide +kernel) (pa_cons (pe_ix (r := rIxT K) ix_tup (pv 0) pe_int (fun _ _ => rfl)) pa_nil))))
        pss_nil)
      (pss_cons (ps_if (pt_cmpR op_eq (pe_ix (r := rIxT K) ix_tup (pv 0) pe_int (fun _ _ => rfl)) pe_str (nomark _))
        (pss_one (ps_ret (pe_op op_add_str (pe_op op_add_str (pe_op op_add_str (pe_cal C__law_shown (hr.mono (by first | decide | omega)) pass0 (pa_cons (pe_ix (r := rIxT K) ix_tup (pv 0) pe_int (fun _ _ => rfl)) pa_nil)) pe_str) (pe_join pe_str (pe_ix (r := rIxT K) ix_tup (pv 0) pe_int (fun _ _ => rfl)))) pe_str)))
        pss_nil)
      (pss_cons (ps_if (pt_cmpR op_eq (pe_ix (r := rIxT K) ix_tup (pv 0) pe_int (fun _ _ => rfl)) pe_str (nomark _))
        (pss_one (ps_ret (pe_op op_add_str (pe_op op_add_str (pe_op op_add_str (pe_op op_add_str (pe_op op_add_str (pe_op op_add_str pe_str (pe_cal C__law_shown (hr.mono (by first | decide | omega)) pass0 (pa_cons (pe_ix (r := rIxT K) ix_tup (pv 0) pe_int (fun _ _ => rfl)) pa_nil))) pe_str) (pe_cal C__law_shown (hr.mono (by first | decide | omega)) pass0 (pa_cons (pe_ix (r := rIxT K) ix_tup (pv 0) pe_int (fun _ _ => rfl)) pa_nil))) pe_str) (pe_cal C__law_shown (hr.mono (by first | decide | omega)) pass0 (pa_cons (pe_ix (r := rIxT K) ix_tup (pv 0) pe_int (fun _ _ => rfl)) pa_nil))) pe_str)))
        pss_nil)
      (pss_one (ps_ret (pe_op op_add_str (pe_op op_add_str (pe_op op_add_str (pe_op op_add_str pe_str (pe_cal C__law_shown (hr.mono (by first | decide | omega)) pass0 (pa_cons (pe_ix (r := rIxT K) ix_tup (pv 0) pe_int (fun _ _ => rfl)) pa_nil))) (pe_dget hu (pv 1) (pe_ix (r := rIxT K) ix_tup (pv 0) pe_int (fun _ _ => rfl)) (fun _ _ => rfl))) (pe_cal C__law_shown (hr.mono (by first | decide | omega)) pass0 (pa_cons (pe_ix (r := rIxT K) ix_tup (pv 0) pe_int (fun _ _ => rfl)) pa_nil))) pe_str))))))), ?_⟩
    refine fun D4 nD4 => ⟨upd_same, signs4, rfl, by decide, ?_⟩
    rw [upd_upd]
    have sD := same_new nD4 (.dK (mergeK [] signs4))
    obtain ⟨H, hH⟩ : ∃ H, H = upd H0 D4 (.dK (mergeK [] signs4)) := ⟨_, rfl⟩
    have hD4 : H D4 = some (.dK (mergeK [] signs4)) := by rw [hH]; exact upd_same
    rw [← hH] at sD ⊢
    have hR := hR0.same sD
    have q : ∀ H', Same H H' → Q (.str (SX.S r.txt)) H' := fun H' s' => q0 H' (sD.trans s')
    cases r with
    | num n =>
      obtain ⟨p, rfl, hp⟩ := hR
      refine ⟨_, rfl, p, _, _, _, rfl, rfl, SqT.of hp, rfl, rfl, _, rfl, iteY rfl ?_⟩
      refine ⟨_, rfl, p, _, _, _, rfl, rfl, SqT.of hp, rfl, .inl ⟨n, rfl, log400 hG, ?_⟩⟩
      rw [intL_S]
      exact q _ (Same.refl _)
    | read s0 =>
      obtain ⟨p, rfl, hp⟩ := hR
      refine ⟨_, rfl, p, _, _, _, rfl, rfl, SqT.of hp, rfl, rfl, _, rfl, iteN (sne (by decide +kernel)) ?_⟩
      refine ⟨_, rfl, p, _, _, _, rfl, rfl, SqT.of hp, rfl, rfl, _, rfl, iteY rfl ?_⟩
      exact ⟨_, rfl, p, _, _, _, rfl, rfl, SqT.of hp, rfl, .inr ⟨_, rfl, q _ (Same.refl _)⟩⟩
    | two kd a b =>
      obtain ⟨p, x, y, rfl, hp, ra, rb⟩ := hR
      have da : a.dep ≤ k ∧ b.dep ≤ k := by
        have : max a.dep b.dep + 1 ≤ k + 1 := hd
        omega
      have za : a.siz ≤ 1000 ∧ b.siz ≤ 1000 := by
        have : a.siz + b.siz + 1 ≤ 1000 := hz
        omega
      have la := txt_lenB hG.1
      have lb := txt_lenB hG.2
      refine ⟨_, rfl, p, _, _, _, rfl, rfl, SqT.of hp, rfl, rfl, _, rfl, iteN (kn_num kd) ?_⟩
      refine ⟨_, rfl, p, _, _, _, rfl, rfl, SqT.of hp, rfl, rfl, _, rfl, iteN (kn_read kd) ?_⟩
      refine ⟨_, rfl, p, _, _, _, rfl, rfl, SqT.of hp, rfl, rfl, _, rfl, iteN (kn_choose kd) ?_⟩
      refine ⟨_, rfl, p, _, _, _, rfl, rfl, SqT.of hp, rfl, rfl, _, rfl, iteN (kn_pick kd) ?_⟩
      refine ⟨_, rfl, p, _, _, _, rfl, rfl, SqT.of hp, rfl, x, a, rfl, ra, hG.1, da.1, za.1, fun H1 s1 => ?_⟩
      have dg : DGet H1 D4 (.str kd.name) (some (.str kd.signS)) := signs4_get kd ▸ DGet.k (k := Sum.inr kd.name) (s1 _ _ hD4)
      refine ⟨_, _, rfl, rfl, ?_, _, rfl, _, rfl, p, _, _, _, rfl, rfl, SqT.of (s1 _ _ hp), rfl, D4, _, rfl, dg, _, _, rfl, rfl, ?_, _, rfl, p, _, _, _, rfl, rfl, SqT.of (s1 _ _ hp), rfl, y, b, rfl, rb.same s1, hG.2, da.2, za.2, fun H2 s2 => ⟨_, _, rfl, rfl, ?_, _, _, rfl, rfl, ?_, ?_⟩⟩
      case refine_5 =>
        rw [q_open, q_close, q_sign, SX.S_cat, SX.S_cat, SX.S_cat, SX.S_cat]
        have e : ([40] ++ a.txt ++ [32, kd.sign, 32] ++ b.txt ++ [41]) = (Rcp.two kd a b).txt := by simp [Rcp.txt]
        rw [e]
        exact q _ (s1.trans s2)
      all_goals
        simp only [q_open, q_close, q_sign, SX.S_cat, SX.S_len, List.length_append, List.length_cons, List.length_nil]
        exact le_line (by omega)
    | pick a b c =>
      obtain ⟨p, x, y, z, rfl, hp, ra, rb, rc⟩ := hR
      have da : a.dep ≤ k ∧ b.dep ≤ k ∧ c.dep ≤ k := by
        have : max a.dep (max b.dep c.dep) + 1 ≤ k + 1 := hd
        omega
      have za : a.siz ≤ 1000 ∧ b.siz ≤ 1000 ∧ c.siz ≤ 1000 := by
        have : a.siz + b.siz + c.siz + 1 ≤ 1000 := hz
        omega
      have la := txt_lenB hG.1
      have lb := txt_lenB hG.2.1
      have lc := txt_lenB hG.2.2
      refine ⟨_, rfl, p, _, _, _, rfl, rfl, SqT.of hp, rfl, rfl, _, rfl, iteN (sne (by decide +kernel)) ?_⟩
      refine ⟨_, rfl, p, _, _, _, rfl, rfl, SqT.of hp, rfl, rfl, _, rfl, iteN (sne (by decide +kernel)) ?_⟩
      refine ⟨_, rfl, p, _, _, _, rfl, rfl, SqT.of hp, rfl, rfl, _, rfl, iteN (sne (by decide +kernel)) ?_⟩
      refine ⟨_, rfl, p, _, _, _, rfl, rfl, SqT.of hp, rfl, rfl, _, rfl, iteY rfl ?_⟩
      refine ⟨_, rfl, p, _, _, _, rfl, rfl, SqT.of hp, rfl, x, a, rfl, ra, hG.1, da.1, za.1, fun H1 s1 => ⟨_, _, rfl, rfl, ?_, _, _, rfl, rfl, ?_, _, rfl, p, _, _, _, rfl, rfl, SqT.of (s1 _ _ hp), rfl, y, b, rfl, rb.same s1, hG.2.1, da.2.1, za.2.1, fun H2 s2 => ⟨_, _, rfl, rfl, ?_, _, _, rfl, rfl, ?_, _, rfl, p, _, _, _, rfl, rfl, SqT.of (s2 _ _ (s1 _ _ hp)), rfl, z, c, rfl, (rc.same s1).same s2, hG.2.2, da.2.2, za.2.2, fun H3 s3 => ⟨_, _, rfl, rfl, ?_, _, _, rfl, rfl, ?_, ?_⟩⟩⟩⟩
      case refine_7 =>
        rw [q_lb, q_rb, q_ask, q_col, SX.S_cat, SX.S_cat, SX.S_cat, SX.S_cat, SX.S_cat, SX.S_cat]
        have e : ([91] ++ a.txt ++ [32, 63, 32] ++ b.txt ++ [32, 58, 32] ++ c.txt ++ [93]) = (Rcp.pick a b c).txt := by simp [Rcp.txt]
        rw [e]
        exact q _ (s1.trans (s2.trans s3))
      all_goals
        simp only [q_lb, q_rb, q_ask, q_col, SX.S_cat, SX.S_len, List.length_append, List.length_cons, List.length_nil]
        exact le_line (by omega)
    | choose a ns =>
      obtain ⟨p, x, qa, rfl, hp, ra, hq⟩ := hR
      have da : a.dep ≤ k := by
        have : a.dep + 1 ≤ k + 1 := hd
        omega
      have za : a.siz ≤ 1000 := by
        have : a.siz + 1 ≤ 1000 := hz
        omega
      have la := txt_lenB hG.1
      have ln := names_len hG.2
      have l9 := hG.2.2.1
      have ls := names_sum hG.2.2.2
      refine ⟨_, rfl, p, _, _, _, rfl, rfl, SqT.of hp, rfl, rfl, _, rfl, iteN (sne (by decide +kernel)) ?_⟩
      refine ⟨_, rfl, p, _, _, _, rfl, rfl, SqT.of hp, rfl, rfl, _, rfl, iteN (sne (by decide +kernel)) ?_⟩
      refine ⟨_, rfl, p, _, _, _, rfl, rfl, SqT.of hp, rfl, rfl, _, rfl, iteY rfl ?_⟩
      refine ⟨_, rfl, p, _, _, _, rfl, rfl, SqT.of hp, rfl, x, a, rfl, ra, hG.1, da, za, fun H1 s1 => ⟨_, _, rfl, rfl, ?_, ⟨_, rfl⟩, _, rfl, p, _, _, _, rfl, rfl, SqT.of (s1 _ _ hp), rfl, _, qa, ns.map SX.S, rfl, rfl, .inr (SqT.of (s1 _ _ hq)), ?_, _, _, rfl, rfl, ?_, _, _, rfl, rfl, ?_, ?_⟩⟩
      case refine_5 =>
        rw [q_lc, q_rc, q_comma, SX.join_S, SX.S_cat, SX.S_cat, SX.S_cat]
        have e : (a.txt ++ [123] ++ TL.joinL [44] ns ++ [125]) = (Rcp.choose a ns).txt := by simp [Rcp.txt]
        rw [e]
        exact q _ s1
      case refine_2 =>
        rw [q_comma, SX.S_len, List.length_map]
        show _ + ns.length * 1 ≤ _
        omega
      all_goals
        simp only [q_lc, q_rc, q_comma, SX.join_S, SX.S_cat, SX.S_len, List.length_append, List.length_cons, List.length_nil]
        exact le_line (by omega)
end
def spShow (k : Nat) : Sp := fun vs H Q _ => ∃ (v : V) (r : Rcp), vs = [v] ∧ Rec H r v ∧ r.Good ∧ r.dep ≤ k ∧ r.siz ≤ 1000 ∧ Q (.str (SX.S r.txt)) H
section
variable {P : Program} {w : World} {K : PySem.W.Frag} {mg : Str → Option Value} {base : Heap}
abbrev s_show_recipe : Stmt := topS 34
abbrev N_show_recipe : List Str := ["r", "kind"]
theorem sc_show_recipe : FnScope N_show_recipe ["r"] (defScope s_show_recipe) := ⟨rfl, rfl, rfl, by decide +kernel, rfl, by decide +kernel, by decide +kernel⟩

theorem ok_show_recipe {sg : Addr} (T : Txt K mg) (g_SIGNS : mg "SIGNS" = some (.ref sg)) (hsg : ∀ k : Kd, KDct K w sg k.name (.str k.signS)) (D : IsDef K mg "show_recipe" s_show_recipe ["r"]) {k : Nat}
    (C_show_recipe : Cal P w K mg base CX0 k "show_recipe" ["r"] (spShow k)) : Cal P w K mg base CX0 (k + 1) "show_recipe" ["r"] (spShow (k + 1)) := by
  refine D.cal sc_show_recipe (fun vs H Q E h => ?_) (fun f cdv A outer s H vs Q E hr h => ?_)
  · obtain ⟨v, r, rfl, _⟩ := h
    rfl
  obtain ⟨v, r, rfl, hR, hG, hd, hz, q⟩ := h
  refine ⟨_, (pss_cons (ps_set (i := 1) sc_show_recipe.nd rfl (Or.inl rfl) (pe_ix (r := rIxT K) ix_tup (pv 0) pe_int (fun _ _ => rfl)))
      (pss_cons (ps_if (pt_cmpR op_eq (pv 1) pe_str (nomark _))
        (pss_one (ps_ret (pe_callTy call_str_int (by rfl) T.b_str (by decide +kernel) (pa_cons (pe_ix (r := rIxT K) ix_tup (pv 0) pe_int (fun _ _ => rfl)) pa_nil))))
        pss_nil)
      (pss_cons (ps_if (pt_cmpR op_eq (pv 1) pe_str (nomark _))
        (pss_one (ps_ret (pe_ix (r := rIxT K) ix_tup (pv 0) pe_int (fun _ _ => rfl))))
        pss_nil)
      (pss_cons (ps_if (pt_cmpR op_eq (pv 1) pe_str (nomark _))
        (pss_one (ps_ret (pe_op op_add_str (pe_op op_add_str (pe_op op_add_str (pe_op op_add_str (pe_op op_add_str (pe_op op_add_str pe_str (pe_cal C_show_recipe (hr.mono (by first | decide | omega)) pass0 (pa_cons (pe_ix (r := rIxT K) ix_tup (pv 0) pe_int (fun _ _ => rfl)) pa_nil))) pe_str) (pe_cal C_show_recipe (hr.mono (by first | decide | omega)) pass0 (pa_cons (pe_ix (r := rIxT K) ix_tup (pv 0) pe_int (fun _ _ => rfl)) pa_nil))) pe_str) (pe_cal C_show_recipe (hr.mono (by first | decide | omega)) pass0 (pa_cons (pe_ix (r := rIxT K) ix_tup (pv 0) pe_int (fun _ _ => rfl)) pa_nil))) pe_str)))
        pss_nil)
      (pss_cons (ps_if (pt_cmpR op_eq (pv 1) pe_str (nomark _))
        (pss_one (ps_ret (pe_op op_add_str (pe_op op_add_str (pe_op op_add_str (pe_cal C_show_recipe (hr.mono (by first | decide | omega)) pass0 (pa_cons (pe_ix (r := rIxT K) ix_tup (pv 0) pe_int (fun _ _ => rfl)) pa_nil)) pe_str) (pe_join pe_str (pe_ix (r := rIxT K) ix_tup (pv 0) pe_int (fun _ _ => rfl)))) pe_str)))
        pss_nil)
      (pss_one (ps_ret (pe_op op_add_str (pe_op op_add_str (pe_op op_add_str (pe_op op_add_str pe_str (pe_cal C_show_recipe (hr.mono (by first | decide | omega)) pass0 (pa_cons (pe_ix (r := rIxT K) ix_tup (pv 0) pe_int (fun _ _ => rfl)) pa_nil))) (pe_ix (r := rIxD K w) ix_kdict (pe_glob (v := .ref _) rfl g_SIGNS rfl) (pv 1) (fun _ _ => rfl))) (pe_cal C_show_recipe (hr.mono (by first | decide | omega)) pass0 (pa_cons (pe_ix (r := rIxT K) ix_tup (pv 0) pe_int (fun _ _ => rfl)) pa_nil))) pe_str)))))))), ?_⟩
  cases r with
  | num n =>
    obtain ⟨p, rfl, hp⟩ := hR
    refine ⟨_, rfl, p, _, _, _, rfl, rfl, SqT.of hp, rfl, _, rfl, rfl, _, rfl, iteY rfl ?_⟩
    refine ⟨_, rfl, p, _, _, _, rfl, rfl, SqT.of hp, rfl, n, rfl, log_small hG, ?_⟩
    rw [intL_S]
    exact q
  | read s =>
    obtain ⟨p, rfl, hp⟩ := hR
    refine ⟨_, rfl, p, _, _, _, rfl, rfl, SqT.of hp, rfl, _, rfl, rfl, _, rfl, iteN (by decide +kernel) ?_⟩
    refine ⟨_, rfl, rfl, _, rfl, iteY rfl ?_⟩
    exact ⟨_, rfl, p, _, _, _, rfl, rfl, SqT.of hp, rfl, q⟩
  | two kd a b =>
    obtain ⟨p, x, y, rfl, hp, ra, rb⟩ := hR
    have da : a.dep ≤ k ∧ b.dep ≤ k := by
      have : max a.dep b.dep + 1 ≤ k + 1 := hd
      omega
    have za : a.siz ≤ 1000 ∧ b.siz ≤ 1000 := by
      have : a.siz + b.siz + 1 ≤ 1000 := hz
      omega
    have la := txt_len hG.1
    have lb := txt_len hG.2
    refine ⟨_, rfl, p, _, _, _, rfl, rfl, SqT.of hp, rfl, _, rfl, rfl, _, rfl, iteN (kn_num kd) ?_⟩
    refine ⟨_, rfl, rfl, _, rfl, iteN (kn_read kd) ?_⟩
    refine ⟨_, rfl, rfl, _, rfl, iteN (kn_pick kd) ?_⟩
    refine ⟨_, rfl, rfl, _, rfl, iteN (kn_choose kd) ?_⟩
    refine ⟨_, rfl, p, _, _, _, rfl, rfl, SqT.of hp, rfl, x, a, rfl, ra, hG.1, da.1, za.1, _, _, rfl, rfl, ?_, _, rfl, sg, _, _, rfl, rfl, hsg kd, _, _, rfl, rfl, ?_,
      _, rfl, p, _, _, _, rfl, rfl, SqT.of hp, rfl, y, b, rfl, rb, hG.2, da.2, za.2, _, _, rfl, rfl, ?_, _, _, rfl, rfl, ?_, ?_⟩
    case refine_5 =>
      rw [q_open, q_close, q_sign, SX.S_cat, SX.S_cat, SX.S_cat, SX.S_cat]
      have e : ([40] ++ a.txt ++ [32, kd.sign, 32] ++ b.txt ++ [41]) = (Rcp.two kd a b).txt := by simp [Rcp.txt]
      rw [e]
      exact q
    all_goals
      simp only [q_open, q_close, q_sign, SX.S_cat, SX.S_len, List.length_append, List.length_cons, List.length_nil]
      exact le_line (by omega)
  | pick a b c =>
    obtain ⟨p, x, y, z, rfl, hp, ra, rb, rc⟩ := hR
    have da : a.dep ≤ k ∧ b.dep ≤ k ∧ c.dep ≤ k := by
      have : max a.dep (max b.dep c.dep) + 1 ≤ k + 1 := hd
      omega
    have za : a.siz ≤ 1000 ∧ b.siz ≤ 1000 ∧ c.siz ≤ 1000 := by
      have : a.siz + b.siz + c.siz + 1 ≤ 1000 := hz
      omega
    have la := txt_len hG.1
    have lb := txt_len hG.2.1
    have lc := txt_len hG.2.2
    refine ⟨_, rfl, p, _, _, _, rfl, rfl, SqT.of hp, rfl, _, rfl, rfl, _, rfl, iteN (by decide +kernel) ?_⟩
    refine ⟨_, rfl, rfl, _, rfl, iteN (by decide +kernel) ?_⟩
    refine ⟨_, rfl, rfl, _, rfl, iteY rfl ?_⟩
    refine ⟨_, rfl, p, _, _, _, rfl, rfl, SqT.of hp, rfl, x, a, rfl, ra, hG.1, da.1, za.1, _, _, rfl, rfl, ?_, _, _, rfl, rfl, ?_,
      _, rfl, p, _, _, _, rfl, rfl, SqT.of hp, rfl, y, b, rfl, rb, hG.2.1, da.2.1, za.2.1, _, _, rfl, rfl, ?_, _, _, rfl, rfl, ?_,
      _, rfl, p, _, _, _, rfl, rfl, SqT.of hp, rfl, z, c, rfl, rc, hG.2.2, da.2.2, za.2.2, _, _, rfl, rfl, ?_, _, _, rfl, rfl, ?_, ?_⟩
    case refine_7 =>
      rw [q_lb, q_rb, q_ask, q_col, SX.S_cat, SX.S_cat, SX.S_cat, SX.S_cat, SX.S_cat, SX.S_cat]
      have e : ([91] ++ a.txt ++ [32, 63, 32] ++ b.txt ++ [32, 58, 32] ++ c.txt ++ [93]) = (Rcp.pick a b c).txt := by simp [Rcp.txt]
      rw [e]
      exact q
    all_goals
      simp only [q_lb, q_rb, q_ask, q_col, SX.S_cat, SX.S_len, List.length_append, List.length_cons, List.length_nil]
      exact le_line (by omega)
  | choose a ns =>
    obtain ⟨p, x, qa, rfl, hp, ra, hq⟩ := hR
    have da : a.dep ≤ k := by
      have : a.dep + 1 ≤ k + 1 := hd
      omega
    have za : a.siz ≤ 1000 := by
      have : a.siz + 1 ≤ 1000 := hz
      omega
    have la := txt_len hG.1
    have ln := names_len hG.2
    have l9 := hG.2.2.1
    have ls := names_sum hG.2.2.2
    refine ⟨_, rfl, p, _, _, _, rfl, rfl, SqT.of hp, rfl, _, rfl, rfl, _, rfl, iteN (by decide +kernel) ?_⟩
    refine ⟨_, rfl, rfl, _, rfl, iteN (by decide +kernel) ?_⟩
    refine ⟨_, rfl, rfl, _, rfl, iteN (by decide +kernel) ?_⟩
    refine ⟨_, rfl, rfl, _, rfl, iteY rfl ?_⟩
    refine ⟨_, rfl, p, _, _, _, rfl, rfl, SqT.of hp, rfl, x, a, rfl, ra, hG.1, da, za, _, _, rfl, rfl, ?_, ⟨_, rfl⟩, _, rfl, p, _, _, _, rfl, rfl, SqT.of hp, rfl, _, qa, ns.map SX.S, rfl, rfl, .inr (SqT.of hq), ?_, _, _, rfl, rfl, ?_, _, _, rfl, rfl, ?_, ?_⟩
    case refine_5 =>
      rw [q_lc, q_rc, q_comma, SX.join_S, SX.S_cat, SX.S_cat, SX.S_cat]
      have e : (a.txt ++ [123] ++ TL.joinL [44] ns ++ [125]) = (Rcp.choose a ns).txt := by simp [Rcp.txt]
      rw [e]
      exact q
    case refine_2 =>
      rw [q_comma, SX.S_len, List.length_map]
      show _ + ns.length * 1 ≤ _
      omega
    all_goals
      simp only [q_lc, q_rc, q_comma, SX.join_S, SX.S_cat, SX.S_len, List.length_append, List.length_cons, List.length_nil]
      exact le_line (by omega)
theorem all_show_recipe {sg : Addr} (T : Txt K mg) (g_SIGNS : mg "SIGNS" = some (.ref sg)) (hsg : ∀ k : Kd, KDct K w sg k.name (.str k.signS)) (D : IsDef K mg "show_recipe" s_show_recipe ["r"]) :
    ∀ k : Nat, Cal P w K mg base CX0 k "show_recipe" ["r"] (spShow k)
  | 0 => cal_none D fun vs H Q E h => by
    obtain ⟨v, r, _, _, _, h1, _⟩ := h
    have := dep_pos r
    omega
  | k + 1 => ok_show_recipe T g_SIGNS hsg D (all_show_recipe T g_SIGNS hsg D k)
end
/-! ### short records, records written -/
def recNums (r : Rcp) (rd : List Pr) (w : Int) : List Int := (r.nums ++ rd.map (·.2)) ++ [w]
def isSh (n : Int) : Bool := decide (n.natAbs < 10 ^ 40)
def shortR (r : Rcp) (rd : List Pr) (w : Int) : Bool := (recNums r rd w).all isSh
theorem good_of : ∀ {r : Rcp}, r.Nb → (∀ n ∈ r.nums, isSh n = true) → r.Good
  | .num n, _, h => (show n.natAbs < 10 ^ 40 from of_decide_eq_true (h n (List.mem_singleton.mpr rfl)))
  | .read _, h, _ => h
  | .two _ _ _, h, k => ⟨good_of h.1 fun n hn => k n (List.mem_append_left _ hn), good_of h.2 fun n hn => k n (List.mem_append_right _ hn)⟩
  | .pick _ _ _, h, k => ⟨good_of h.1 fun n hn => k n (List.mem_append_left _ hn), good_of h.2.1 fun n hn => k n (List.mem_append_right _ (List.mem_append_left _ hn)), good_of h.2.2 fun n hn => k n (List.mem_append_right _ (List.mem_append_right _ hn))⟩
  | .choose _ _, h, k => ⟨good_of h.1 k, h.2⟩
def intsPy (l : List Int) : List PyData := l.map PyData.int
theorem ints_dp (K : PySem.W.Frag) (H : Hp) : ∀ l : List Int, DpAll K H (intsV l) (intsPy l)
  | [] => .nil
  | _ :: l => .cons (.int _) (ints_dp K H l)
theorem ints_lay : ∀ l : List Int, PyData.canLayAll0 (intsPy l) = true ∧ PyData.depthAll (intsPy l) = 0
  | [] => ⟨rfl, rfl⟩
  | a :: l => by
    obtain ⟨h1, h2⟩ := ints_lay l
    refine ⟨?_, ?_⟩
    · show ((PyData.int a).canLay0 && PyData.canLayAll0 (intsPy l)) = true
      rw [h1]
      rfl
    · show max 0 (PyData.depthAll (intsPy l)) = 0
      rw [h2]
      rfl
theorem ints_empty (l : List Int) : PyData.eqv (.list (intsPy l)) (.list []) = l.isEmpty := by cases l <;> rfl
theorem no_badI (l : List Int) : (l.filter fun n => !isSh n).isEmpty = l.all isSh := by
  induction l with
  | nil => rfl
  | cons c l ih =>
    rw [List.all_cons, List.filter_cons, ← ih]
    cases isSh c <;> rfl
theorem intsV_at {l : List Int} {i : Nat} {x : V} (h : (intsV l)[i]? = some x) : ∃ b, l[i]? = some b ∧ x = .int b := by
  unfold intsV at h
  rw [List.getElem?_map] at h
  cases e : l[i]? with
  | none => rw [e] at h; cases h
  | some b => rw [e] at h; exact ⟨b, rfl, (Option.some.inj h).symm⟩
theorem big_abs (n : Int) : decide ((10000000000000000000000000000000000000000 : Int) ≤ (if n < 0 then -n else n)) = !isSh n := by
  have e : (10 : Nat) ^ 40 = 10000000000000000000000000000000000000000 := by decide +kernel
  unfold isSh
  rw [e]
  by_cases c : n.natAbs < 10000000000000000000000000000000000000000
  · rw [decide_eq_true c, decide_eq_false (by split <;> omega)]; rfl
  · rw [decide_eq_false c, decide_eq_true (by split <;> omega)]; rfl
theorem pair_str (p : Pr) : (SX.S p.1 ++ ("=" : Str)) ++ Str.ofString (toString p.2) = SX.S (pairTx p) := by
  rw [show ("=" : Str) = SX.S [61] by decide +kernel, intL_S, SX.S_cat, SX.S_cat]
  unfold pairTx
  simp
theorem take_snocM {α β : Type} {f : α → β} {l : List α} {i : Nat} {b : α} (h : l[i]? = some b) : (l.take (i + 1)).map f = (l.take i).map f ++ [f b] := by
  rw [List.take_add_one, h, List.map_append]
  rfl
theorem words_sum : ∀ {l : List (List Nat)} {m : Nat}, (∀ s ∈ l, s.length ≤ m) → ((l.map SX.S).map (·.length)).sum ≤ m * l.length
  | [], _, _ => Nat.zero_le _
  | p :: r, m, h => by
    have h1 := h p (by simp)
    have h2 := words_sum (l := r) (m := m) fun s hs => h s (List.mem_cons_of_mem _ hs)
    rw [List.map_cons, List.map_cons, List.sum_cons, SX.S_len, List.length_cons, Nat.mul_succ]
    omega
def spShort (k : Nat) : Sp := fun vs H Q _ => ∃ (v : V) (r : Rcp) (rd : List Pr) (w : Int), vs = [v] ∧ RecAt H r rd w v ∧ r.dep ≤ k ∧ r.siz ≤ 1000 ∧ rd.length ≤ 50000 ∧ ∀ H', Same H H' → Q (.bl (shortR r rd w)) H'
def spShowRec (C : Addr) : Sp := fun vs H Q E => ∃ (v : V) (r : Rcp) (rd : List Pr) (w : Int), vs = [v] ∧ RecAt H r rd w v ∧ r.th.tame = true ∧ r.Nb ∧ r.dep ≤ 9 ∧ r.siz ≤ 1000 ∧ Small rd ∧ rd.length ≤ 50000 ∧ w.natAbs < 2 ^ 1900 ∧
  ((trueR r rd w && shortR r rd w) = true → ∀ H', Same H H' → Q (.str (SX.S (recTx r rd w))) H') ∧ ((trueR r rd w && shortR r rd w) = false → ∀ H', Same H H' → E (.ref C) none H')
def spWritten : Sp := fun vs H Q _ => ∃ (v : V) (r : Rcp) (rd : List Pr) (w : Int), vs = [v] ∧ RecAt H r rd w v ∧ r.Nb ∧ r.dep ≤ 12 ∧ r.siz ≤ 1000 ∧ Small rd ∧ rd.length ≤ 50000 ∧ w.natAbs < 2 ^ 1900 ∧ ∀ H', Same H H' → Q (.str (SX.S (recTx r rd w))) H'
section
variable {P : Program} {w : World} {K : PySem.W.Frag} {mg : Str → Option Value} {base : Heap}
abbrev s_is_short : Stmt := topS 46
abbrev N_is_short : List Str := ["record", "recipe", "reads", "worth", "numbers", "name", "number"]
theorem sc_is_short : FnScope N_is_short ["record"] (defScope s_is_short) := ⟨rfl, rfl, rfl, by decide +kernel, rfl, by decide +kernel, by decide +kernel⟩

theorem ok_is_short {k : Nat} (T : Txt K mg) (Tabs : mg "abs" = none) (gM : ∃ t, mg "MOST_recordtexts" = some (.int 10000000000000000000000000000000000000000 t)) (D : IsDef K mg "is_short" s_is_short ["record"]) (C_numbers_in : Cal P w K mg base CX0 k "numbers_in" ["r"] (spNums k)) : Cal P w K mg base CX0 (k + 1) "is_short" ["record"] (spShort k) := by
  obtain ⟨_, g_MOST_recordtexts⟩ := gM
  refine D.cal sc_is_short (fun vs H Q E h => ?_) (fun f cdv A outer s H vs Q E hr h => ?_)
  · obtain ⟨v, r, rd, w, rfl, _⟩ := h
    rfl
  obtain ⟨v, r, rd, wt, rfl, ⟨t, L, rv, xs, rfl, ht, hL, hRc, hP⟩, hd, hz, hrl, q⟩ := h
  have hxl := hP.len
  have hnl := nums_le r
  refine ⟨_, (pss_cons (ps_asg (pv 0) (pg_tup rfl (pgs_cons (pg_name (i := 1) sc_is_short.nd rfl (Or.inl rfl)) (pgs_cons (pg_name (i := 2) sc_is_short.nd rfl (Or.inl rfl)) (pgs_cons (pg_name (i := 3) sc_is_short.nd rfl (Or.inl rfl)) pgs_nil)))))
      (pss_cons (ps_set (i := 4) sc_is_short.nd rfl (Or.inl rfl) (pe_op op_cat (pe_op op_cat (pe_cal C_numbers_in (hr.mono (by first | decide | omega)) pass0 (pa_cons (pv 1) pa_nil)) (pe_lc (own := [("name", 5), ("number", 6)]) (g := gTup K 2 (gCons (gName 5) (gCons (gName 6) gNil)))  (by rfl) sc_is_short.nd  (pi_list (pv 2)) (blkOk_by (own := [("name", 5), ("number", 6)]) (N := N_is_short) (sc := defScope s_is_short) (by decide +kernel)) (fun _ _ _ _ _ => (pg_tup rfl (pgs_cons (pg_name (i := 5) sc_is_short.nd rfl (Or.inl rfl)) (pgs_cons (pg_name (i := 6) sc_is_short.nd rfl (Or.inl rfl)) pgs_nil)))) (fun _ _ _ _ _ => pts_nil) (fun _ _ _ _ _ => (pv 6)))) (pe_lst (pa_cons (pv 3) pa_nil))))
      (pss_one (ps_ret (pe_cmpR (op_eqD hr.units) (pe_lc (own := [("number", 6)]) (g := gName 6)  (by rfl) sc_is_short.nd  (pi_list (pv 4)) (blkOk_by (own := [("number", 6)]) (N := N_is_short) (sc := defScope s_is_short) (by decide +kernel)) (fun _ _ _ _ _ => (pg_name (i := 6) sc_is_short.nd rfl (Or.inl rfl))) (fun _ _ _ _ _ => (pts_one (pt_cmpR op_ge (pe_callB call_abs (by rfl) Tabs (by decide +kernel) (pa_cons (pv 6) pa_nil)) (pe_glob (v := .int _) rfl g_MOST_recordtexts ⟨_, rfl⟩) (nomark _)))) (fun _ _ _ _ _ => (pv 6))) (pe_lst pa_nil) (nomark _)))))), ?_⟩
  refine ⟨_, rfl, t, _, rfl, SqT.of ht, rfl, _, _, rfl, _, _, rfl, _, _, rfl, rfl, ?_⟩
  refine ⟨_, rfl, rv, r, rfl, hRc, hd, hz, fun H1 L1 s1 hL1 nL1 => ?_⟩
  have hLa := s1 _ _ hL
  have hPa := hP.same s1
  refine ⟨_, rfl, L, rfl, ⟨_, SqL.of hLa⟩, fun M nM => lc_list (K := K) (xs := xs) (fun i G => Same H1 G ∧ G M = some (.lst (intsV ((rd.take i).map (·.2))))) ⟨same_new nM _, upd_same⟩ (fun i G _ h => SqL.of (h.1 _ _ hLa)) (fun i x G hx h => ?_) (fun G h => ?_)⟩
  · obtain ⟨p, u, hp1, rfl, hu⟩ := hPa.at hx
    have il := (List.getElem?_eq_some_iff.mp hp1).1
    refine ⟨u, _, rfl, SqT.of (h.1 _ _ hu), rfl, _, _, rfl, _, _, rfl, rfl, rfl, _, rfl, _, h.2, lt_line (by rw [intsV_len, List.length_map, List.length_take]; omega), same_upd h.1 nM _, ?_⟩
    rw [upd_same, take_snocM hp1, intsV_app]
    rfl
  obtain ⟨g1, g2⟩ := h
  rw [List.take_of_length_le (by omega)] at g2
  refine ⟨L1, M, _, _, rfl, rfl, g1 _ _ hL1, g2, le_line (by rw [intsV_len, intsV_len, List.length_map]; omega), fun N1 nN1 => ?_⟩
  have sN1 := same_new nN1 (.lst (intsV r.nums ++ intsV (rd.map (·.2))))
  refine ⟨_, rfl, le_line (Nat.le_of_ble_eq_true rfl), fun l nl => ?_⟩
  have sl := same_new nl (.lst [.int wt])
  refine ⟨N1, l, _, _, rfl, rfl, sl _ _ upd_same, upd_same, le_line (by rw [List.length_append, intsV_len, intsV_len, List.length_map]; show _ + 1 ≤ _; omega), fun N nN => ?_⟩
  have eN : (intsV r.nums ++ intsV (rd.map (·.2))) ++ [V.int wt] = intsV (recNums r rd wt) := by
    unfold recNums
    rw [intsV_app, intsV_app]
    rfl
  rw [eN]
  have sN := same_new nN (.lst (intsV (recNums r rd wt)))
  obtain ⟨H2, hH2⟩ : ∃ H2, H2 = upd (upd (upd G N1 (.lst (intsV r.nums ++ intsV (rd.map (·.2))))) l (.lst [.int wt])) N (.lst (intsV (recNums r rd wt))) := ⟨_, rfl⟩
  have hN2 : H2 N = some (.lst (intsV (recNums r rd wt))) := by rw [hH2]; exact upd_same
  have s2 : Same H H2 := by rw [hH2]; exact s1.trans (g1.trans (sN1.trans (sl.trans sN)))
  rw [← hH2]
  have hal : (recNums r rd wt).length ≤ 60000 := by
    unfold recNums
    rw [List.length_append, List.length_append, List.length_map]
    show _ + 1 ≤ _
    omega
  refine ⟨_, rfl, N, rfl, ⟨_, SqL.of hN2⟩, fun M2 nM2 => lc_list (K := K) (xs := intsV (recNums r rd wt)) (fun i G => Same H2 G ∧ G M2 = some (.lst (intsV (((recNums r rd wt).take i).filter fun n => !isSh n)))) ⟨same_new nM2 _, upd_same⟩ (fun i G _ h => SqL.of (h.1 _ _ hN2)) (fun i x G hx h => ?_) (fun G h => ?_)⟩
  · obtain ⟨b, hb, rfl⟩ := intsV_at hx
    have e1 : (recNums r rd wt).take (i + 1) = (recNums r rd wt).take i ++ [b] := by rw [List.take_add_one, hb]; rfl
    refine ⟨rfl, _, rfl, b, rfl, _, _, rfl, rfl, _, rfl, ?_⟩
    rw [big_abs]
    cases hs : isSh b with
    | true =>
      refine ⟨h.1, ?_⟩
      rw [e1, List.filter_append, List.filter_cons_of_neg (by rw [hs]; decide), List.filter_nil, List.append_nil]
      exact h.2
    | false =>
      refine ⟨_, rfl, _, h.2, lt_line (by rw [intsV_len]; exact Nat.lt_of_le_of_lt (List.length_filter_le _ _) (by rw [List.length_take]; omega)), same_upd h.1 nM2 _, ?_⟩
      rw [upd_same, e1, List.filter_append, List.filter_cons_of_pos (by rw [hs]; rfl), List.filter_nil, intsV_app]
      rfl
  obtain ⟨h1, h2⟩ := h
  rw [intsV_len, List.take_of_length_le (Nat.le_refl _)] at h2
  refine ⟨Nat.zero_le _, fun e ne => ?_⟩
  have se := same_new ne (.lst [])
  have sh := ints_lay ((recNums r rd wt).filter fun n => !isSh n)
  refine ⟨_, _, .lst (SqL.of (se _ _ h2)) (ints_dp _ _ _), .lst (SqL.of upd_same) .nil, shaped_parts.mpr ⟨sh.1, by rw [sh.2]; decide⟩, rfl, ?_⟩
  rw [ints_empty, no_badI]
  exact q _ (s2.trans (h1.trans se))
abbrev s__law_written : Stmt := topS 64
abbrev N__law_written : List Str := ["record", "r", "reads", "worth", "words", "name", "number"]
theorem sc__law_written : FnScope N__law_written ["record"] (defScope s__law_written) := ⟨rfl, rfl, rfl, by decide +kernel, rfl, by decide +kernel, by decide +kernel⟩

theorem ok__law_written (T : Txt K mg) (D : IsDef K mg "_law_written" s__law_written ["record"]) (C__law_shown : Cal P w K mg base CX0 12 "_law_shown" ["r"] (spShownL 12)) : Cal P w K mg base CX0 13 "_law_written" ["record"] spWritten := by
  refine D.cal sc__law_written (fun vs H Q E h => ?_) (fun f cdv A outer s H vs Q E hr h => ?_)
  · obtain ⟨v, r, rd, w, rfl, _⟩ := h
    rfl
  obtain ⟨v, r, rd, wt, rfl, ⟨t, L, rv, xs, rfl, ht, hL, hRc, hP⟩, hNb, hd, hz, hsm, hrl, hw, q⟩ := h
  have hxl := hP.len
  refine ⟨_, (pss_cons (ps_asg (pv 0) (pg_tup rfl (pgs_cons (pg_name (i := 1) sc__law_written.nd rfl (Or.inl rfl)) (pgs_cons (pg_name (i := 2) sc__law_written.nd rfl (Or.inl rfl)) (pgs_cons (pg_name (i := 3) sc__law_written.nd rfl (Or.inl rfl)) pgs_nil)))))
      (pss_cons (ps_setLc (i := 4) (own := [("name", 5), ("number", 6)]) (g := gTup K 2 (gCons (gName 5) (gCons (gName 6) gNil)))  (by rfl) sc__law_written.nd rfl rfl (sw_true rfl rfl rfl (by decide +kernel)) (pi_list (pv 2)) (blkOk_by (own := [("name", 5), ("number", 6)]) (N := N__law_written) (sc := defScope s__law_written) (by decide +kernel)) (fun _ _ _ _ _ => (pg_tup rfl (pgs_cons (pg_name (i := 5) sc__law_written.nd rfl (Or.inl rfl)) (pgs_cons (pg_name (i := 6) sc__law_written.nd rfl (Or.inl rfl)) pgs_nil)))) (fun _ _ _ _ _ => pts_nil) (fun _ _ _ _ _ => (pe_op op_add_str (pe_op op_add_str (pv 5) pe_str) (pe_callTy call_str_int (by rfl) T.b_str (by decide +kernel) (pa_cons (pv 6) pa_nil)))))
      (pss_one (ps_ret (pe_op op_add_str (pe_op op_add_str (pe_op op_add_str (pe_op op_add_str (pe_cal C__law_shown (hr.mono (by first | decide | omega)) pass0 (pa_cons (pv 1) pa_nil)) pe_str) (pe_join pe_str (pv 4))) pe_str) (pe_callTy call_str_int (by rfl) T.b_str (by decide +kernel) (pa_cons (pv 3) pa_nil))))))), ?_⟩
  refine ⟨_, rfl, t, _, rfl, SqT.of ht, rfl, _, _, rfl, _, _, rfl, _, _, rfl, rfl, ?_⟩
  refine ⟨_, rfl, L, rfl, ⟨_, SqL.of hL⟩, fun M nM => lc_list (K := K) (xs := xs) (fun i G => Same H G ∧ G M = some (.lst (txs ((rd.take i).map pairTx)))) ⟨same_new nM _, upd_same⟩ (fun i G _ h => SqL.of (h.1 _ _ hL)) (fun i x G hx h => ?_) (fun G h => ?_)⟩
  · obtain ⟨p, u, hp1, rfl, hu⟩ := (hP).at hx
    have il := (List.getElem?_eq_some_iff.mp hp1).1
    obtain ⟨hn1, hn2⟩ := hsm p (List.mem_of_getElem? hp1)
    have hn8 := hn1.2.1
    have hnl := len400 hn2
    refine ⟨u, _, rfl, SqT.of (h.1 _ _ hu), rfl, _, _, rfl, _, _, rfl, rfl, rfl, _, rfl, _, _, rfl, rfl, le_line (by rw [SX.S_len, show ("=" : Str) = SX.S [61] by decide +kernel, SX.S_len]; show _ + 1 ≤ _; omega), _, rfl, p.2, rfl, log400 hn2, _, _, rfl, rfl, le_line (by rw [intL_S, show ("=" : Str) = SX.S [61] by decide +kernel, SX.S_cat, SX.S_len, SX.S_len, List.length_append]; show _ + 1 + _ ≤ _; omega), _, h.2, lt_line (by rw [txs_len, List.length_map, List.length_take]; omega), same_upd h.1 nM _, ?_⟩
    rw [upd_same, take_snocM hp1, txs_app, pair_str]
    rfl
  obtain ⟨g1, g2⟩ := h
  rw [List.take_of_length_le (by omega)] at g2
  have q1 : (" [" : Str) = SX.S [32, 91] := by decide +kernel
  have q2 : ("] = " : Str) = SX.S [93, 32, 61, 32] := by decide +kernel
  have b1 := txt_lenB hNb
  have b2 := reads_len hsm
  have b3 := len1900 hw
  have b4 := words_sum (pairTx_len hsm)
  rw [List.length_map] at b4
  refine ⟨_, rfl, rv, r, rfl, hRc.same g1, hNb, hd, hz, fun H2 s2 => ⟨_, _, rfl, rfl, ?_, ⟨_, rfl⟩, _, rfl, _, M, (rd.map pairTx).map SX.S, rfl, rfl, .inl (SqL.of (s2 _ _ g2)), ?_, _, _, rfl, rfl, ?_, _, _, rfl, rfl, ?_, _, rfl, wt, rfl, log1900 hw, _, _, rfl, rfl, ?_, ?_⟩⟩
  case refine_6 =>
    rw [q1, q2, q_comma, SX.join_S, intL_S, SX.S_cat, SX.S_cat, SX.S_cat, SX.S_cat]
    have e : (((r.txt ++ [32, 91]) ++ TL.joinL [44] (rd.map pairTx)) ++ [93, 32, 61, 32]) ++ intL wt = recTx r rd wt := by unfold recTx; simp
    rw [e]
    exact q _ (g1.trans s2)
  case refine_2 =>
    rw [q_comma, SX.S_len, List.length_map, List.length_map]
    show _ + rd.length * 1 ≤ _
    omega
  all_goals
    simp only [q1, q2, q_comma, SX.join_S, intL_S, SX.S_cat, SX.S_len, List.length_append, List.length_cons, List.length_nil]
    exact le_line (by omega)
abbrev s_show_record : Stmt := topS 47
abbrev N_show_record : List Str := ["record", "recipe", "reads", "worth", "words", "name", "number"]
theorem sc_show_record : FnScope N_show_record ["record"] (defScope s_show_record) := ⟨rfl, rfl, rfl, by decide +kernel, rfl, by decide +kernel, by decide +kernel⟩

theorem ok_show_record {C : Addr} (T : Txt K mg) (XNoRecord : NoX K mg "NoRecord" C) (D : IsDef K mg "show_record" s_show_record ["record"]) (C_true : Cal P w K mg base CX0 21 "is_true_record" ["thing"] spTrueR) (C_short : Cal P w K mg base CX0 10 "is_short" ["record"] (spShort 9)) (C_show : Cal P w K mg base CX0 9 "show_recipe" ["r"] (spShow 9)) :
    Cal P w K mg base (L2.CX P w) 22 "show_record" ["record"] (spShowRec C) := by
  have C_is_true_record := C_true
  have C_is_short := C_short.mono (show 10 ≤ 21 by omega)
  have C_show_recipe := C_show.mono (show 9 ≤ 21 by omega)
  refine D.calX2 sc_show_record (fun vs H Q E h => ?_) (fun f cdv A outer s H vs Q E hr h => ?_)
  · obtain ⟨v, r, rd, w, rfl, _⟩ := h
    rfl
  obtain ⟨v, r, rd, wt, rfl, hAt, htm, hNb, hd, hz, hsm, hrl, hw, qy, qn⟩ := h
  refine ⟨_, (pss_cons (ps_if (PW.pt (pw_or (pt_not (pt_val (pe_cal C_is_true_record (hr.mono (by first | decide | omega)) pass0 (pa_cons (pv 0) pa_nil)))) (pw_or1 (pt_not (pt_val (pe_cal C_is_short (hr.mono (by first | decide | omega)) pass0 (pa_cons (pv 0) pa_nil)))))))
        (pss_one (ps_raise rfl (takes_of rfl rfl rfl rfl) (pmk_own PySem.F.excBase_ValueError XNoRecord.x XNoRecord.g XNoRecord.k (raises_own XNoRecord.b XNoRecord.t) rfl)))
        pss_nil)
      (pss_cons (ps_asg (pv 0) (pg_tup rfl (pgs_cons (pg_name (i := 1) sc_show_record.nd rfl (Or.inl rfl)) (pgs_cons (pg_name (i := 2) sc_show_record.nd rfl (Or.inl rfl)) (pgs_cons (pg_name (i := 3) sc_show_record.nd rfl (Or.inl rfl)) pgs_nil)))))
      (pss_cons (ps_setLc (i := 4) (own := [("name", 5), ("number", 6)]) (g := gTup K 2 (gCons (gName 5) (gCons (gName 6) gNil)))  (by rfl) sc_show_record.nd rfl rfl (sw_true rfl rfl rfl (by decide +kernel)) (pi_list (pv 2)) (blkOk_by (own := [("name", 5), ("number", 6)]) (N := N_show_record) (sc := defScope s_show_record) (by decide +kernel)) (fun _ _ _ _ _ => (pg_tup rfl (pgs_cons (pg_name (i := 5) sc_show_record.nd rfl (Or.inl rfl)) (pgs_cons (pg_name (i := 6) sc_show_record.nd rfl (Or.inl rfl)) pgs_nil)))) (fun _ _ _ _ _ => pts_nil) (fun _ _ _ _ _ => (pe_op op_add_str (pe_op op_add_str (pv 5) pe_str) (pe_callTy call_str_int (by rfl) T.b_str (by decide +kernel) (pa_cons (pv 6) pa_nil)))))
      (pss_one (ps_ret (pe_op op_add_str (pe_op op_add_str (pe_op op_add_str (pe_op op_add_str (pe_cal C_show_recipe (hr.mono (by first | decide | omega)) pass0 (pa_cons (pv 1) pa_nil)) pe_str) (pe_join pe_str (pv 4))) pe_str) (pe_callTy call_str_int (by rfl) T.b_str (by decide +kernel) (pa_cons (pv 3) pa_nil)))))))), ?_⟩
  refine ⟨_, rfl, v, r, rd, wt, rfl, hAt, htm, hNb, fun _ => hd, hsm, by omega, fun H1 s1 => ⟨_, rfl, ?_⟩⟩
  cases htr : trueR r rd wt with
  | false =>
    refine not_false_eq rfl ?_
    exact qn (by rw [htr]; rfl) _ s1
  | true =>
    refine not_true_eq rfl ?_
    refine ⟨_, rfl, v, r, rd, wt, rfl, hAt.same s1, hd, hz, hrl, fun H2 s2 => ⟨_, rfl, ?_⟩⟩
    have s12 := s1.trans s2
    cases hsh : shortR r rd wt with
    | false =>
      refine not_false_eq rfl ?_
      exact qn (by rw [htr, hsh]; rfl) _ s12
    | true =>
      refine not_true_eq rfl ?_
      have qq := qy (by rw [htr, hsh]; rfl)
      have hG : r.Good := good_of hNb fun n hn => List.all_eq_true.mp hsh n (List.mem_append_left _ (List.mem_append_left _ hn))
      obtain ⟨t, L, rv, xs, rfl, ht, hL, hRc, hP⟩ := hAt.same s12
      have hxl := hP.len
      refine ⟨_, rfl, t, _, rfl, SqT.of ht, rfl, _, _, rfl, _, _, rfl, _, _, rfl, rfl, ?_⟩
      refine ⟨_, rfl, L, rfl, ⟨_, SqL.of hL⟩, fun M nM => lc_list (K := K) (xs := xs) (fun i G => Same H2 G ∧ G M = some (.lst (txs ((rd.take i).map pairTx)))) ⟨same_new nM _, upd_same⟩ (fun i G _ h => SqL.of (h.1 _ _ hL)) (fun i x G hx h => ?_) (fun G h => ?_)⟩
      · obtain ⟨p, u, hp1, rfl, hu⟩ := (hP).at hx
        have il := (List.getElem?_eq_some_iff.mp hp1).1
        obtain ⟨hn1, hn2⟩ := hsm p (List.mem_of_getElem? hp1)
        have hn8 := hn1.2.1
        have hnl := len400 hn2
        refine ⟨u, _, rfl, SqT.of (h.1 _ _ hu), rfl, _, _, rfl, _, _, rfl, rfl, rfl, _, rfl, _, _, rfl, rfl, le_line (by rw [SX.S_len, show ("=" : Str) = SX.S [61] by decide +kernel, SX.S_len]; show _ + 1 ≤ _; omega), _, rfl, p.2, rfl, log400 hn2, _, _, rfl, rfl, le_line (by rw [intL_S, show ("=" : Str) = SX.S [61] by decide +kernel, SX.S_cat, SX.S_len, SX.S_len, List.length_append]; show _ + 1 + _ ≤ _; omega), _, h.2, lt_line (by rw [txs_len, List.length_map, List.length_take]; omega), same_upd h.1 nM _, ?_⟩
        rw [upd_same, take_snocM hp1, txs_app, pair_str]
        rfl
      obtain ⟨g1, g2⟩ := h
      rw [List.take_of_length_le (by omega)] at g2
      have q1 : (" [" : Str) = SX.S [32, 91] := by decide +kernel
      have q2 : ("] = " : Str) = SX.S [93, 32, 61, 32] := by decide +kernel
      have b1 := txt_lenB hNb
      have b2 := reads_len hsm
      have b3 := len1900 hw
      have b4 := words_sum (pairTx_len hsm)
      rw [List.length_map] at b4
      refine ⟨_, rfl, rv, r, rfl, hRc.same g1, hG, hd, hz, _, _, rfl, rfl, ?_, ⟨_, rfl⟩, _, rfl, _, M, (rd.map pairTx).map SX.S, rfl, rfl, .inl (SqL.of g2), ?_, _, _, rfl, rfl, ?_, _, _, rfl, rfl, ?_, _, rfl, wt, rfl, log1900 hw, _, _, rfl, rfl, ?_, ?_⟩
      case refine_6 =>
        rw [q1, q2, q_comma, SX.join_S, intL_S, SX.S_cat, SX.S_cat, SX.S_cat, SX.S_cat]
        have e : (((r.txt ++ [32, 91]) ++ TL.joinL [44] (rd.map pairTx)) ++ [93, 32, 61, 32]) ++ intL wt = recTx r rd wt := by unfold recTx; simp
        rw [e]
        exact qq _ (s12.trans g1)
      case refine_2 =>
        rw [q_comma, SX.S_len, List.length_map, List.length_map]
        show _ + rd.length * 1 ≤ _
        omega
      all_goals
        simp only [q1, q2, q_comma, SX.join_S, intL_S, SX.S_cat, SX.S_len, List.length_append, List.length_cons, List.length_nil]
        exact le_line (by omega)
end
/-! ### records read: what a text writes -/
def nameOf (z : List Nat) : Option (List Nat) := if nmOk z = true then some z else none
def numOf (z : List Nat) : Option Int := match rNum z with
  | some (.num n, k) => if k = z.length then some n else none
  | _ => none
theorem num_full {n : Int} (h : n.natAbs < 10 ^ 40) : numOf (intL n) = some n := by
  have fr : Free [] := fun c e => by cases e
  unfold numOf
  by_cases h0 : 0 ≤ n
  · obtain ⟨m, rfl⟩ : ∃ m : Nat, n = (m : Int) := ⟨n.toNat, by omega⟩
    rw [intL_nat, (num_txt (m := m) (by omega) fr 0 (.inl rfl) (TL.numL m) (by rw [if_neg (by decide), List.append_nil]; rfl)).1, if_neg (by decide), Nat.zero_add]
    show (if _ then _ else _) = _
    rw [if_pos rfl]
  · obtain ⟨m, rfl, hm⟩ : ∃ m : Nat, n = -(m : Int) ∧ 1 ≤ m := ⟨(-n).toNat, by omega, by omega⟩
    rw [intL_neg hm, (num_txt (m := m) (by omega) fr 1 (.inr ⟨rfl, hm⟩) (45 :: TL.numL m) (by rw [if_pos rfl, List.append_nil]; rfl)).1, if_pos rfl]
    show (if 1 + (TL.numL m).length = (TL.numL m).length + 1 then _ else _) = _
    rw [if_pos (Nat.add_comm _ _)]
theorem num_back {z : List Nat} {n : Int} (h : numOf z = some n) : z = intL n ∧ n.natAbs < 10 ^ 40 := by
  unfold numOf at h
  cases e : rNum z with
  | none => rw [e] at h; cases h
  | some p =>
    obtain ⟨r, k⟩ := p
    rw [e] at h
    cases r with
    | num m =>
      have h' : (if k = z.length then some m else none) = some n := h
      by_cases c : k = z.length
      · rw [if_pos c] at h'
        cases h'
        have h1 := rNum_rev z _ k e
        rw [c, List.take_length] at h1
        exact ⟨h1, rNum_good z _ k e⟩
      · rw [if_neg c] at h'; cases h'
    | _ => cases h
theorem name_back {z s : List Nat} (h : nameOf z = some s) : s = z ∧ Nm z := by
  unfold nameOf at h
  by_cases c : nmOk z = true
  · rw [if_pos c] at h
    cases h
    exact ⟨rfl, nmOk_iff.mp c⟩
  · rw [if_neg c] at h; cases h
theorem rd_name {z : List Nat} (h : Nm z) : rRead (.str z) = some (.read z) := rRead_txt (r := .read z) h (by show 1 ≤ 8; decide) (by show 1 ≤ 100; decide)
theorem rd_num {n : Int} (h : n.natAbs < 10 ^ 40) : rRead (.str (intL n)) = some (.num n) := rRead_txt (r := .num n) h (by show 1 ≤ 8; decide) (by show 1 ≤ 100; decide)
/-- what a thing read says of names and numbers -/
theorem read_is {z : List Nat} {r : Rcp} (h : rRead (.str z) = some r) : (nameOf z = match r with | .read s => some s | _ => none) ∧ (numOf z = match r with | .num n => some n | _ => none) := by
  obtain ⟨h1, h2, _⟩ := rRead_rev h
  refine ⟨?_, ?_⟩
  · by_cases c : nmOk z = true
    · have e := rd_name (nmOk_iff.mp c)
      rw [h] at e
      cases e
      unfold nameOf
      rw [if_pos c]
    · have e : nameOf z = none := by unfold nameOf; rw [if_neg c]
      rw [e]
      cases r with
      | read s =>
        exfalso
        have h1' : z = s := h1
        exact c (nmOk_iff.mpr (by rw [h1']; exact h2))
      | _ => rfl
  · cases e : numOf z with
    | some n =>
      obtain ⟨k1, k2⟩ := num_back e
      have e2 := rd_num k2
      rw [← k1, h] at e2
      cases e2
      rfl
    | none =>
      cases r with
      | num n =>
        exfalso
        have h1' : z = intL n := h1
        rw [h1', num_full h2] at e
        cases e
      | _ => rfl
theorem read_no {z : List Nat} (h : rRead (.str z) = none) : nameOf z = none ∧ numOf z = none := by
  refine ⟨?_, ?_⟩
  · cases e : nameOf z with
    | none => rfl
    | some s => rw [rd_name (name_back e).2] at h; cases h
  · cases e : numOf z with
    | none => rfl
    | some n =>
      obtain ⟨k1, k2⟩ := num_back e
      rw [k1, rd_num k2] at h
      cases h
theorem numOf_nil : numOf [] = none := read_no (by
  cases e : rRead (.str []) with
  | none => rfl
  | some r =>
    obtain ⟨h1, h2, _⟩ := rRead_rev e
    exfalso
    have : ∀ {r : Rcp}, r.Good → r.txt ≠ [] := fun {r} => by
      induction r with
      | num n =>
        intro _ e
        have e' : intL n = [] := e
        by_cases h0 : 0 ≤ n
        · obtain ⟨m, rfl⟩ : ∃ m : Nat, n = (m : Int) := ⟨n.toNat, by omega⟩
          rw [intL_nat] at e'
          exact TL.numL_ne _ e'
        · obtain ⟨m, rfl, hm⟩ : ∃ m : Nat, n = -(m : Int) ∧ 1 ≤ m := ⟨(-n).toNat, by omega, by omega⟩
          rw [intL_neg hm] at e'
          cases e'
      | read s => intro h e; have e' : s = [] := e; rw [e'] at h; exact absurd h.1 (by decide)
      | two k a b _ _ => intro _ e; cases e
      | pick a b c _ _ _ => intro _ e; cases e
      | choose a ns ih => intro h e; have e' : a.txt ++ _ = [] := e; exact ih h.1 (List.append_eq_nil_iff.mp e').1
    exact this h2 h1.symm) |>.2
/-! parting a text -/
theorem spl_par {S : List Nat} (hS : S ≠ []) : ∀ (l acc : List Nat), TL.spl S 0 acc l = match TL.par S acc l with
    | none => [acc ++ l]
    | some (p, q) => p :: TL.spl S 0 [] q
  | [], acc => by rw [TL.spl_nil]; show _ = [acc ++ []]; rw [List.append_nil]
  | c :: r, acc => by
    cases h : TL.pre S (c :: r) with
    | true =>
      rw [TL.spl_hit h, TL.par_hit h, TL.spl_pass]
      show _ = acc :: TL.spl S 0 [] ((c :: r).drop S.length)
      cases S with
      | nil => exact absurd rfl hS
      | cons s S => rfl
    | false =>
      rw [TL.spl_miss h, TL.par_miss h, spl_par hS r (acc ++ [c])]
      cases TL.par S (acc ++ [c]) r with
      | none => show [acc ++ [c] ++ r] = [acc ++ c :: r]; simp
      | some p => rfl
theorem par_split {S : List Nat} : ∀ {l acc p q : List Nat}, TL.par S acc l = some (p, q) → acc ++ l = p ++ (S ++ q)
  | [], _, _, _, h => by cases h
  | c :: r, acc, p, q, h => by
    cases hp : TL.pre S (c :: r) with
    | true =>
      rw [TL.par_hit hp] at h
      cases h
      have e : (c :: r).take S.length = S := eq_of_beq hp
      conv => lhs; rw [← List.take_append_drop S.length (c :: r), e]
    | false =>
      rw [TL.par_miss hp] at h
      have := par_split h
      rw [List.append_assoc] at this
      exact this
def pairOf (w : List Nat) : Option Pr := match TL.par [61] [] w with
  | none => none
  | some (p, q) => match nameOf p, numOf q with
    | some s, some n => some (s, n)
    | _, _ => none
def goReads : List (List Nat) → Option (List Pr)
  | [] => some []
  | w :: ws => match pairOf w with
    | none => none
    | some p => match goReads ws with
      | none => none
      | some ps => some (p :: ps)
def readsOf (z : List Nat) : Option (List Pr) := if z = [] then some [] else goReads (TL.spl [44] 0 [] z)
theorem pair_back {w : List Nat} {p : Pr} (h : pairOf w = some p) : w = pairTx p ∧ Nm p.1 ∧ p.2.natAbs < 10 ^ 40 := by
  unfold pairOf at h
  cases e : TL.par [61] [] w with
  | none => rw [e] at h; cases h
  | some x =>
    obtain ⟨a, b⟩ := x
    rw [e] at h
    have h' : (match nameOf a, numOf b with | some s, some n => some (s, n) | _, _ => none) = some p := h
    cases e1 : nameOf a with
    | none => rw [e1] at h'; cases h'
    | some s =>
      cases e2 : numOf b with
      | none => rw [e1, e2] at h'; cases h'
      | some n =>
        rw [e1, e2] at h'
        cases h'
        obtain ⟨k1, k2⟩ := name_back e1
        obtain ⟨k3, k4⟩ := num_back e2
        have hs := par_split e
        rw [List.nil_append] at hs
        exact ⟨by rw [hs, k3, k1]; rfl, by rw [k1]; exact k2, k4⟩
theorem goReads_back : ∀ {ws : List (List Nat)} {rd : List Pr}, goReads ws = some rd → ws = rd.map pairTx ∧ (∀ p ∈ rd, Nm p.1 ∧ p.2.natAbs < 10 ^ 40)
  | [], rd, h => by cases h; exact ⟨rfl, fun _ h => by cases h⟩
  | w :: ws, rd, h => by
    have h' : (match pairOf w with | none => none | some p => match goReads ws with | none => none | some ps => some (p :: ps)) = some rd := h
    cases e1 : pairOf w with
    | none => rw [e1] at h'; cases h'
    | some p =>
      cases e2 : goReads ws with
      | none => rw [e1, e2] at h'; cases h'
      | some ps =>
        rw [e1, e2] at h'
        cases h'
        obtain ⟨k1, k2⟩ := pair_back e1
        obtain ⟨k3, k4⟩ := goReads_back e2
        refine ⟨by rw [k1, k3]; rfl, fun q hq => ?_⟩
        rcases List.mem_cons.mp hq with h | h
        · rw [h]; exact k2
        · exact k4 q h
theorem readsOf_back {z : List Nat} {rd : List Pr} (h : readsOf z = some rd) : z = TL.joinL [44] (rd.map pairTx) ∧ (∀ p ∈ rd, Nm p.1 ∧ p.2.natAbs < 10 ^ 40) ∧ rd.length ≤ z.length + 1 := by
  unfold readsOf at h
  by_cases c : z = []
  · rw [if_pos c] at h
    cases h
    exact ⟨c, fun _ h => (by cases h), Nat.zero_le _⟩
  · rw [if_neg c] at h
    obtain ⟨h1, h2⟩ := goReads_back h
    have e := join_spl z []
    rw [h1, List.nil_append] at e
    refine ⟨e.symm, h2, ?_⟩
    have := spl_len z [] 0
    rw [h1, List.length_map] at this
    exact this
theorem small_of {rd : List Pr} (h : ∀ p ∈ rd, Nm p.1 ∧ p.2.natAbs < 10 ^ 40) : Small rd := fun p hp => ⟨(h p hp).1, Nat.lt_of_lt_of_le (h p hp).2 (by decide +kernel)⟩
def isAt (z : List Nat) (i : Nat) : Bool := decide ((z.drop i).take 2 = [32, 91])
def placesR (z : List Nat) : List Nat := (List.range z.length).filter (isAt z)
def patE : List Nat := [93, 32, 61, 32]
def recAtT (z : List Nat) (i : Nat) : Option (Rcp × List Pr × Int) := match TL.par patE [] (z.drop (i + 2)) with
  | none => none
  | some (t, q) => match rRead (.str (z.take i)), readsOf t, numOf q with
    | some r, some rd, some w => if trueR r rd w = true then some (r, rd, w) else none
    | _, _, _ => none
def recOf (z : List Nat) : Option (Rcp × List Pr × Int) := match (placesR z).getLast? with
  | none => none
  | some i => recAtT z i
theorem isAt_lt {z : List Nat} {i : Nat} (h : isAt z i = true) : i + 2 ≤ z.length := by
  have e := congrArg List.length (of_decide_eq_true h)
  rw [List.length_take, List.length_drop] at e
  have e' : min 2 (z.length - i) = 2 := e
  omega
theorem last_filter {p : Nat → Bool} {n i : Nat} (hi : i < n) (hp : p i = true) (hl : ∀ k, i < k → k < n → p k = false) : ((List.range n).filter p).getLast? = some i := by
  induction n with
  | zero => exact absurd hi (Nat.not_lt_zero _)
  | succ n ih =>
    rw [List.range_succ, List.filter_append]
    by_cases c : i = n
    · rw [← c, List.filter_cons_of_pos hp, List.filter_nil]
      simp
    · rw [List.filter_cons_of_neg (by rw [hl n (by omega) (by omega)]; exact Bool.false_ne_true), List.filter_nil, List.append_nil]
      exact ih (by omega) fun k h1 h2 => hl k h1 (by omega)
theorem at_two {z : List Nat} {i : Nat} : StrLaws.At (SX.S z) (SX.S [32, 91]) (SX.S z).length i ↔ isAt z i = true := by
  unfold StrLaws.At
  rw [StrLaws.subAt_eq, SX.S_len, SX.S_len]
  show (i + 2 ≤ z.length ∧ ((z.toArray.toList.drop i).take 2 == [32, 91]) = true) ↔ _
  rw [List.toList_toArray, beq_iff_eq]
  constructor
  · rintro ⟨_, h2⟩
    exact decide_eq_true h2
  · intro h
    exact ⟨isAt_lt h, of_decide_eq_true h⟩
theorem rec_back {z : List Nat} {r : Rcp} {rd : List Pr} {w : Int} (h : recOf z = some (r, rd, w)) : z = recTx r rd w ∧ r.Good ∧ trueR r rd w = true ∧ (∀ p ∈ rd, Nm p.1 ∧ p.2.natAbs < 10 ^ 40) ∧ w.natAbs < 10 ^ 40 ∧ rd.length ≤ z.length + 1 := by
  unfold recOf at h
  cases e : (placesR z).getLast? with
  | none => rw [e] at h; cases h
  | some i =>
    rw [e] at h
    have hi : isAt z i = true := (List.mem_filter.mp (List.mem_of_getLast? e)).2
    have h' : recAtT z i = some (r, rd, w) := h
    unfold recAtT at h'
    cases e2 : TL.par patE [] (z.drop (i + 2)) with
    | none => rw [e2] at h'; cases h'
    | some x =>
      obtain ⟨t, q⟩ := x
      rw [e2] at h'
      have h3 : (match rRead (.str (z.take i)), readsOf t, numOf q with | some r, some rd, some w => if trueR r rd w = true then some (r, rd, w) else none | _, _, _ => none) = some (r, rd, w) := h'
      cases e3 : rRead (.str (z.take i)) with
      | none => rw [e3] at h3; cases h3
      | some r' =>
        cases e4 : readsOf t with
        | none => rw [e3, e4] at h3; cases h3
        | some rd' =>
          cases e5 : numOf q with
          | none => rw [e3, e4, e5] at h3; cases h3
          | some w' =>
            rw [e3, e4, e5] at h3
            have h6 : (if trueR r' rd' w' = true then some (r', rd', w') else none) = some (r, rd, w) := h3
            by_cases c : trueR r' rd' w' = true
            · rw [if_pos c] at h6
              cases h6
              obtain ⟨a1, a2, _⟩ := rRead_rev e3
              obtain ⟨b1, b2, b3⟩ := readsOf_back e4
              obtain ⟨c1, c2⟩ := num_back e5
              have hs := par_split e2
              rw [List.nil_append] at hs
              have hz : z = z.take i ++ ([32, 91] ++ z.drop (i + 2)) := by
                have e7 : (z.drop i).take 2 = [32, 91] := of_decide_eq_true hi
                rw [← e7, ← List.drop_drop, List.take_append_drop, List.take_append_drop]
              refine ⟨?_, a2, c, b2, c2, ?_⟩
              · rw [hz, hs, a1, b1, c1]
                rfl
              · have : t.length ≤ z.length := by
                  have e8 := congrArg List.length hs
                  rw [List.length_append, List.length_drop] at e8
                  omega
                omega
            · rw [if_neg c] at h6; cases h6
/-! ### records read: the walks -/
def spOne (C : Addr) : Sp := fun vs H Q E => ∃ z : List Nat, tameS z = true ∧
  ((vs = [.str (SX.S z), .str "read"] ∧ (nameOf z = none → ∀ H', Same H H' → E (.ref C) none H') ∧ ∀ s, nameOf z = some s → ∀ H', Same H H' → Q (.str (SX.S s)) H') ∨
   (vs = [.str (SX.S z), .str "number"] ∧ (numOf z = none → ∀ H', Same H H' → E (.ref C) none H') ∧ ∀ n, numOf z = some n → ∀ H', Same H H' → Q (.int n) H'))
def spRdReads (C : Addr) : Sp := fun vs H Q E => ∃ z : List Nat, vs = [.str (SX.S z)] ∧ tameS z = true ∧ (readsOf z = none → ∀ H', Same H H' → E (.ref C) none H') ∧
  ∀ rd, readsOf z = some rd → ∀ (H' : Hp) (L : Addr) (xs : List V), Same H H' → H' L = some (.lst xs) → Prs H' rd xs → Q (.ref L) H'
def recTh : Th → Option (Rcp × List Pr × Int)
  | .str z => recOf z
  | _ => none
def spReadRec (C : Addr) : Sp := fun vs H Q E => ∃ (v : V) (t : Th), vs = [v] ∧ Data H t v ∧ t.tame = true ∧ (∀ z, t = .str z → z.length ≤ 900000) ∧ (recTh t = none → ∀ H', Same H H' → E (.ref C) none H') ∧
  ∀ r rd w, recTh t = some (r, rd, w) → ∀ (H' : Hp) (v : V), Same H H' → RecAt H' r rd w v → Q v H'
theorem spl_tame5 : ∀ {z : List Nat}, tameS z = true → ∀ s ∈ TL.spl [44] 0 [] z, tameS s = true := fun {z} h s hs => by
  have hl := tame_len h
  have h128 : ∀ c ∈ z, c < 128 := fun c hc => by
    unfold tameS at h
    rw [Bool.and_eq_true, List.all_eq_true] at h
    exact of_decide_eq_true (h.2 c hc)
  have key : ∀ (z acc : List Nat) (k : Nat), ∀ s ∈ TL.spl [44] k acc z, s.length ≤ acc.length + z.length ∧ ∀ c ∈ s, c ∈ acc ∨ c ∈ z := by
    intro z
    induction z with
    | nil =>
      intro acc k s hs
      rw [TL.spl_nil] at hs
      rw [List.mem_singleton.mp hs]
      exact ⟨Nat.le_add_right _ _, fun c hc => .inl hc⟩
    | cons x z ih =>
      intro acc k s hs
      cases k with
      | zero =>
        by_cases hpre : TL.pre [44] (x :: z) = true
        · rw [TL.spl_hit hpre] at hs
          rcases List.mem_cons.mp hs with h | h
          · rw [h]; exact ⟨Nat.le_add_right _ _, fun c hc => .inl hc⟩
          · obtain ⟨h1, h2⟩ := ih [] _ s h
            refine ⟨by simp at h1 ⊢; omega, fun c hc => ?_⟩
            rcases h2 c hc with h | h
            · cases h
            · exact .inr (List.mem_cons_of_mem _ h)
        · rw [TL.spl_miss (Bool.eq_false_iff.mpr hpre)] at hs
          obtain ⟨h1, h2⟩ := ih _ _ s hs
          refine ⟨by simp at h1 ⊢; omega, fun c hc => ?_⟩
          rcases h2 c hc with h | h
          · rcases List.mem_append.mp h with h | h
            · exact .inl h
            · rw [List.mem_singleton.mp h]; exact .inr (List.mem_cons_self ..)
          · exact .inr (List.mem_cons_of_mem _ h)
      | succ k =>
        obtain ⟨h1, h2⟩ := ih acc k s hs
        refine ⟨by simp at h1 ⊢; omega, fun c hc => ?_⟩
        rcases h2 c hc with h | h
        · exact .inl h
        · exact .inr (List.mem_cons_of_mem _ h)
  obtain ⟨h1, h2⟩ := key z [] 0 s hs
  unfold tameS
  rw [Bool.and_eq_true, List.all_eq_true]
  refine ⟨decide_eq_true (by simp at h1; omega), fun c hc => decide_eq_true ?_⟩
  rcases h2 c hc with h | h
  · cases h
  · exact h128 c h
theorem tame_part {z p s q : List Nat} (h : tameS z = true) (e : z = p ++ (s ++ q)) : tameS p = true ∧ tameS q = true := by
  unfold tameS at h ⊢
  rw [Bool.and_eq_true, List.all_eq_true, decide_eq_true_eq] at h
  obtain ⟨h1, h2⟩ := h
  rw [e] at h1 h2
  rw [List.length_append, List.length_append] at h1
  rw [Bool.and_eq_true, Bool.and_eq_true, List.all_eq_true, List.all_eq_true]
  exact ⟨⟨decide_eq_true (by omega), fun c hc => h2 c (List.mem_append_left _ hc)⟩, ⟨decide_eq_true (by omega), fun c hc => h2 c (List.mem_append_right _ (List.mem_append_right _ hc))⟩⟩
theorem cutS_from5 (z : List Nat) (a : Nat) : cutS (SX.S z) (some (a : Int)) none = SX.S (z.drop a) := by
  show SX.S ((z.drop (HT.sIx (SX.S z).length 0 (some (a : Int)))).take (HT.sIx (SX.S z).length (SX.S z).length none - HT.sIx (SX.S z).length 0 (some (a : Int)))) = _
  rw [HT.sIx_nat, HT.sIx_none, SX.S_len]
  congr 1
  by_cases ha : a ≤ z.length
  · rw [Nat.min_eq_left ha, List.take_of_length_le (by rw [List.length_drop]; exact Nat.le_refl _)]
  · rw [show min a z.length = z.length by omega, List.drop_eq_nil_of_le (Nat.le_refl _), List.drop_eq_nil_of_le (show z.length ≤ a by omega), List.take_nil]
theorem tame_of2 {z : List Nat} (h : tameS z = true) : z.length ≤ 1000000 ∧ ∀ c ∈ z, c < 128 := by
  unfold tameS at h
  rw [Bool.and_eq_true, decide_eq_true_eq, List.all_eq_true] at h
  exact ⟨h.1, fun c hc => of_decide_eq_true (h.2 c hc)⟩
theorem tame_sl5 {z : List Nat} (h : tameS z = true) : (SX.S z).length ≤ sizeLine := by rw [SX.S_len]; exact le_line (by have := tame_len h; omega)
theorem tame_take {z : List Nat} (h : tameS z = true) (k : Nat) : tameS (z.take k) = true := by
  have := tame_cut h 0 k
  rw [List.drop_zero] at this
  exact this
theorem tame_drop5 {z : List Nat} (h : tameS z = true) (k : Nat) : tameS (z.drop k) = true := by
  have := tame_cut h k z.length
  rw [List.take_of_length_le (by rw [List.length_drop]; omega)] at this
  exact this
section
variable {P : Program} {w : World} {K : PySem.W.Frag} {mg : Str → Option Value} {base : Heap}
abbrev s_read_one : Stmt := topS 48
abbrev N_read_one : List Str := ["word", "kind", "found"]
theorem sc_read_one : FnScope N_read_one ["word", "kind"] (defScope s_read_one) := ⟨rfl, rfl, rfl, by decide +kernel, rfl, by decide +kernel, by decide +kernel⟩

theorem ok_read_one {C : Addr} (T : Txt K mg) (XNoText : NoT K mg C) (D : IsDef K mg "read_one" s_read_one ["word", "kind"]) (C_read_recipe : Cal P w K mg base (L2.CX P w) 20 "read_recipe" ["text"] (spRead C)) : Cal P w K mg base (L2.CX P w) 21 "read_one" ["word", "kind"] (spOne C) := by
  refine D.calX sc_read_one (fun vs H Q E h => ?_) (fun f cdv A outer s H vs Q E hr h => ?_)
  · obtain ⟨z, _, ⟨rfl, _⟩ | ⟨rfl, _⟩⟩ := h <;> rfl
  obtain ⟨z, ht, h⟩ := h
  refine ⟨_, (pss_cons (ps_set (i := 2) sc_read_one.nd rfl (Or.inl rfl) (pe_cal C_read_recipe (hr.mono (by first | decide | omega)) (passes_call (takes_of rfl rfl rfl rfl) (fun _ _ _ _ h => h)) (pa_cons (pv 0) pa_nil)))
      (pss_cons (ps_if (pt_cmpR op_ne (pe_ix (r := rIxT K) ix_tup (pv 2) pe_int (fun _ _ => rfl)) (pv 1) (nomark _))
        (pss_one (ps_raise rfl (takes_of rfl rfl rfl rfl) (pmk_own PySem.F.excBase_ValueError XNoText.x XNoText.g XNoText.k (raises_own XNoText.b XNoText.t) rfl)))
        pss_nil)
      (pss_one (ps_ret (pe_ix (r := rIxT K) ix_tup (pv 2) pe_int (fun _ _ => rfl)))))), ?_⟩
  rcases h with ⟨rfl, qe, q⟩ | ⟨rfl, qe, q⟩
  · refine ⟨_, rfl, .str (SX.S z), .str z, rfl, rfl, ht, fun e H1 s1 => qe (read_no e).1 H1 s1, fun r e hG H1 v s1 hR => ?_⟩
    have hi := (read_is e).1
    cases r with
    | read s0 =>
      obtain ⟨p, rfl, hp⟩ := hR
      refine ⟨_, rfl, p, _, _, _, rfl, rfl, SqT.of hp, rfl, _, rfl, rfl, _, rfl, not_true_eq (decide_eq_true rfl) ?_⟩
      exact ⟨_, rfl, p, _, _, _, rfl, rfl, SqT.of hp, rfl, q s0 hi H1 s1⟩
    | num n =>
      obtain ⟨p, rfl, hp⟩ := hR
      refine ⟨_, rfl, p, _, _, _, rfl, rfl, SqT.of hp, rfl, _, rfl, rfl, _, rfl, not_false_eq (decide_eq_false (sne (by decide +kernel))) ?_⟩
      exact qe hi H1 s1
    | two k a b =>
      obtain ⟨p, _, _, rfl, hp, _⟩ := hR
      refine ⟨_, rfl, p, _, _, _, rfl, rfl, SqT.of hp, rfl, _, rfl, rfl, _, rfl, not_false_eq (decide_eq_false (sne (by cases k <;> decide +kernel))) ?_⟩
      exact qe hi H1 s1
    | pick a b c =>
      obtain ⟨p, _, _, _, rfl, hp, _⟩ := hR
      refine ⟨_, rfl, p, _, _, _, rfl, rfl, SqT.of hp, rfl, _, rfl, rfl, _, rfl, not_false_eq (decide_eq_false (sne (by decide +kernel))) ?_⟩
      exact qe hi H1 s1
    | choose a ns =>
      obtain ⟨p, _, _, rfl, hp, _⟩ := hR
      refine ⟨_, rfl, p, _, _, _, rfl, rfl, SqT.of hp, rfl, _, rfl, rfl, _, rfl, not_false_eq (decide_eq_false (sne (by decide +kernel))) ?_⟩
      exact qe hi H1 s1
  · refine ⟨_, rfl, .str (SX.S z), .str z, rfl, rfl, ht, fun e H1 s1 => qe (read_no e).2 H1 s1, fun r e hG H1 v s1 hR => ?_⟩
    have hi := (read_is e).2
    cases r with
    | num n =>
      obtain ⟨p, rfl, hp⟩ := hR
      refine ⟨_, rfl, p, _, _, _, rfl, rfl, SqT.of hp, rfl, _, rfl, rfl, _, rfl, not_true_eq (decide_eq_true rfl) ?_⟩
      exact ⟨_, rfl, p, _, _, _, rfl, rfl, SqT.of hp, rfl, q n hi H1 s1⟩
    | read s0 =>
      obtain ⟨p, rfl, hp⟩ := hR
      refine ⟨_, rfl, p, _, _, _, rfl, rfl, SqT.of hp, rfl, _, rfl, rfl, _, rfl, not_false_eq (decide_eq_false (sne (by decide +kernel))) ?_⟩
      exact qe hi H1 s1
    | two k a b =>
      obtain ⟨p, _, _, rfl, hp, _⟩ := hR
      refine ⟨_, rfl, p, _, _, _, rfl, rfl, SqT.of hp, rfl, _, rfl, rfl, _, rfl, not_false_eq (decide_eq_false (sne (by cases k <;> decide +kernel))) ?_⟩
      exact qe hi H1 s1
    | pick a b c =>
      obtain ⟨p, _, _, _, rfl, hp, _⟩ := hR
      refine ⟨_, rfl, p, _, _, _, rfl, rfl, SqT.of hp, rfl, _, rfl, rfl, _, rfl, not_false_eq (decide_eq_false (sne (by decide +kernel))) ?_⟩
      exact qe hi H1 s1
    | choose a ns =>
      obtain ⟨p, _, _, rfl, hp, _⟩ := hR
      refine ⟨_, rfl, p, _, _, _, rfl, rfl, SqT.of hp, rfl, _, rfl, rfl, _, rfl, not_false_eq (decide_eq_false (sne (by decide +kernel))) ?_⟩
      exact qe hi H1 s1
abbrev s_read_reads : Stmt := topS 49
abbrev N_read_reads : List Str := ["text", "found", "word", "name", "equals", "number"]
theorem sc_read_reads : FnScope N_read_reads ["text"] (defScope s_read_reads) := ⟨rfl, rfl, rfl, by decide +kernel, rfl, by decide +kernel, by decide +kernel⟩

theorem ok_read_reads {C : Addr} (T : Txt K mg) (XNoText : NoT K mg C) (D : IsDef K mg "read_reads" s_read_reads ["text"]) (C_read_one : Cal P w K mg base (L2.CX P w) 21 "read_one" ["word", "kind"] (spOne C)) : Cal P w K mg base (L2.CX P w) 22 "read_reads" ["text"] (spRdReads C) := by
  refine D.calX sc_read_reads (fun vs H Q E h => ?_) (fun f cdv A outer s H vs Q E hr h => ?_)
  · obtain ⟨z, rfl, _⟩ := h
    rfl
  obtain ⟨z, rfl, ht, qe, q⟩ := h
  have hz := tame_sl5 ht
  have hzl := tame_len ht
  have hem : ("" : Str) = SX.S [] := by decide +kernel
  have heq : ("=" : Str) = SX.S [61] := by decide +kernel
  refine ⟨_, (pss_cons (ps_if (pt_cmpR op_eq (pv 0) pe_str (nomark _))
        (pss_one (ps_ret (pe_lst pa_nil)))
        pss_nil)
      (pss_cons (ps_set (i := 1) sc_read_reads.nd rfl (Or.inl rfl) (pe_lst pa_nil))
      (pss_cons (ps_for (passes_of rfl) rfl (pi_list (pe_split (pv 0) pe_str)) (pg_name (i := 2) sc_read_reads.nd rfl (Or.inl rfl))
        (pss_cons (ps_asg (pe_partition (pv 2) pe_str) (pg_tup rfl (pgs_cons (pg_name (i := 3) sc_read_reads.nd rfl (Or.inl rfl)) (pgs_cons (pg_name (i := 4) sc_read_reads.nd rfl (Or.inl rfl)) (pgs_cons (pg_name (i := 5) sc_read_reads.nd rfl (Or.inl rfl)) pgs_nil)))))
      (pss_one (ps_expr (pe_bm PySem.F.plainAttrs_list PySem.F.slot_list_append PySem.F.type_list_append mt_append (pv 1) (pa_cons (pe_tup (pa_cons (pe_cal C_read_one (hr.mono (by first | decide | omega)) (passes_call (takes_of rfl rfl rfl rfl) (fun _ _ _ _ h => h)) (pa_cons (pv 3) (pa_cons pe_str pa_nil))) (pa_cons (pe_cal C_read_one (hr.mono (by first | decide | omega)) (passes_call (takes_of rfl rfl rfl rfl) (fun _ _ _ _ h => h)) (pa_cons (pv 5) (pa_cons pe_str pa_nil))) pa_nil))) pa_nil))))))
      (pss_one (ps_ret (pv 1)))))), ?_⟩
  by_cases c0 : z = []
  · refine ⟨_, rfl, rfl, _, rfl, iteY (by rw [c0, hem]) ⟨le_line (Nat.le_of_ble_eq_true rfl), fun L nL => ?_⟩⟩
    exact q [] (by unfold readsOf; rw [if_pos c0]) _ L [] (same_new nL _) upd_same trivial
  refine ⟨_, rfl, rfl, _, rfl, iteN (fun e => c0 (by rw [hem] at e; exact SS_eq.mp e)) ?_⟩
  have hdef : readsOf z = goReads (TL.spl [44] 0 [] z) := by unfold readsOf; rw [if_neg c0]
  rw [hdef] at qe q
  refine ⟨le_line (Nat.le_of_ble_eq_true rfl), fun L nL => ?_⟩
  have sL := same_new nL (.lst [])
  refine ⟨_, rfl, ⟨_, rfl⟩, _, _, rfl, rfl, by decide +kernel, by rw [SX.S_len]; exact le_line (by omega), fun p5 n5 => ?_⟩
  rw [split_is]
  have hwt := spl_tame5 ht
  have hwl := spl_len z [] 0
  generalize TL.spl [44] 0 [] z = ws at qe q hwt hwl ⊢
  have nLp : L ≠ p5 := ne_of_none upd_same n5
  have s5 := same_new n5 (.lst ((ws.map SX.S).map V.str))
  obtain ⟨H1, hH1⟩ : ∃ H1, H1 = upd (upd H L (.lst [])) p5 (.lst ((ws.map SX.S).map V.str)) := ⟨_, rfl⟩
  have hp5 : H1 p5 = some (.lst (txs ws)) := by rw [hH1]; exact upd_same
  have hL1 : H1 L = some (.lst []) := by rw [hH1, upd_ne nLp]; exact upd_same
  have s01 : Same H H1 := by rw [hH1]; exact sL.trans s5
  rw [← hH1]
  refine ⟨p5, rfl, ⟨_, SqL.of hp5⟩, for_list (K := K) (a := p5) (xs := txs ws) (fun i σ G => ∃ (v2 v3 v4 v5 : Option V) (rd : List Pr) (xs : List V), σ = [some (.str (SX.S z)), some (.ref L), v2, v3, v4, v5] ∧ Fr1 L H1 G ∧ G L = some (.lst xs) ∧ Prs G rd xs ∧ rd.length = i ∧ (goReads (ws.drop i) = none → goReads ws = none) ∧ ∀ ps, goReads (ws.drop i) = some ps → goReads ws = some (rd ++ ps)) ⟨none, none, none, none, [], [], rfl, Fr1.refl _ _, hL1, trivial, rfl, fun e => e, fun ps e => e⟩ (fun i σ G _ ⟨_, _, _, _, _, _, _, f, _⟩ => SqL.of (f _ _ nLp.symm hp5)) (fun i x σ G hx ⟨v2, v3, v4, v5, rd, xs, hσ, f, hG, hP, hrl, g1, g2⟩ => ?_) (fun σ G ⟨v2, v3, v4, v5, rd, xs, hσ, f, hG, hP, hrl, g1, g2⟩ => ?_)⟩
  · subst hσ
    have hi : i < ws.length := by
      have := (List.getElem?_eq_some_iff.mp hx).1
      rw [txs_len] at this
      exact this
    rw [txs_get hi] at hx
    obtain rfl := Option.some.inj hx
    have hd : ws.drop i = ws[i] :: ws.drop (i + 1) := List.drop_eq_getElem_cons hi
    have hwi := hwt _ (List.getElem_mem hi)
    generalize ws[i] = wd at hd hwi
    rw [hd] at g1 g2
    have sG : ∀ {G2 : Hp}, Fr1 L H1 G2 → Same H G2 := fun {G2} f2 b u e => f2 b u (fun z => by rw [z, nL] at e; cases e) (s01 _ _ e)
    -- the parts of a word
    have parts : ∃ (a b m : List Nat), Txt.partition (SX.S wd) "=" = (SX.S a, SX.S m, SX.S b) ∧ tameS a = true ∧ tameS b = true ∧ ((nameOf a = none ∨ numOf b = none) → pairOf wd = none) ∧ ∀ s n, nameOf a = some s → numOf b = some n → pairOf wd = some (s, n) := by
      rw [heq]
      cases e : TL.par [61] [] wd with
      | none =>
        refine ⟨wd, [], [], SX.partition_none (by decide) e, hwi, rfl, fun _ => ?_, fun s n _ h => ?_⟩
        · unfold pairOf; rw [e]
        · rw [numOf_nil] at h; cases h
      | some x =>
        obtain ⟨a, b⟩ := x
        have hs := par_split e
        rw [List.nil_append] at hs
        obtain ⟨t1, t2⟩ := tame_part hwi hs
        refine ⟨a, b, [61], SX.partition_some (by decide) e, t1, t2, fun h => ?_, fun s n h1 h2 => ?_⟩
        · unfold pairOf
          rw [e]
          show (match nameOf a, numOf b with | some s, some n => some (s, n) | _, _ => none) = none
          rcases h with h | h
          · rw [h]
          · rw [h]; cases nameOf a <;> rfl
        · unfold pairOf
          rw [e]
          show (match nameOf a, numOf b with | some s, some n => some (s, n) | _, _ => none) = _
          rw [h1, h2]
    obtain ⟨a, b, m, hpt, ta, tb, pn, py⟩ := parts
    have hwdl := tame_len hwi
    refine ⟨_, rfl, ⟨_, rfl⟩, _, _, rfl, rfl, by decide +kernel, tame_sl5 hwi, fun t nt => ?_⟩
    rw [hpt]
    have st := same_new nt (.tup [.str (SX.S a), .str (SX.S m), .str (SX.S b)])
    have hLt : L ≠ t := ne_of_none hG nt
    refine ⟨t, _, rfl, SqT.of upd_same, rfl, _, _, rfl, _, _, rfl, _, _, rfl, rfl, ?_⟩
    refine ⟨_, rfl, .inl ⟨rfl, _, SqL.of (st _ _ hG)⟩, _, rfl, a, ta, .inl ⟨rfl, fun e G2 s2 => ?_, fun s0 e1 G2 s2 => ?_⟩⟩
    · exact qe (g1 (by show (match pairOf wd with | none => none | some p => _) = none; rw [pn (.inl e)])) _ ((sG f).trans (st.trans s2))
    refine ⟨_, rfl, b, tb, .inr ⟨rfl, fun e G3 s3 => ?_, fun n e2 G3 s3 => ?_⟩⟩
    · exact qe (g1 (by show (match pairOf wd with | none => none | some p => _) = none; rw [pn (.inr e)])) _ ((sG f).trans (st.trans (s2.trans s3)))
    have sG3 := st.trans (s2.trans s3)
    refine ⟨le_line (Nat.le_of_ble_eq_true rfl), fun u nu => ?_⟩
    have su := same_new nu (.tup [.str (SX.S s0), .int n])
    have hxl := hP.len
    have hL4 := su _ _ (sG3 _ _ hG)
    have hpair := py s0 n e1 e2
    refine ⟨L, _, _, rfl, rfl, hL4, lt_line (by omega), _, _, _, _, rd ++ [(s0, n)], _, rfl, fun y o ne ey => by rw [upd_ne ne]; exact su _ _ (sG3 _ _ (f y o ne ey)), upd_same, (Prs.snoc (p := (s0, n)) upd_same (hP.same (sG3.trans su))).keep (keep_lst hL4), by rw [List.length_append, hrl]; rfl, fun e => g1 ?_, fun ps e => ?_⟩
    · show (match pairOf wd with | none => none | some p => match goReads (ws.drop (i + 1)) with | none => none | some ps => some (p :: ps)) = none
      rw [hpair, e]
    · have := g2 ((s0, n) :: ps) (by
        show (match pairOf wd with | none => none | some p => match goReads (ws.drop (i + 1)) with | none => none | some ps => some (p :: ps)) = _
        rw [hpair, e])
      rw [this, List.append_assoc]
      rfl
  · subst hσ
    rw [txs_len, List.drop_eq_nil_of_le (Nat.le_refl _)] at g2
    have e := g2 [] rfl
    rw [List.append_nil] at e
    exact ⟨_, rfl, q rd e G L xs (fun b u e => f b u (fun z => by rw [z, nL] at e; cases e) (s01 _ _ e)) hG hP⟩
end
/-! ### records read, and the law's own numbers and names -/
theorem atS5 {z : List Nat} {i c : Nat} (h : z[i]? = some c) : atI (SX.S z).cps.toList ((i : Nat) : Int) = some c := by
  refine atI_nat ?_
  show z.toArray.toList[i]? = _
  rw [List.toList_toArray]
  exact h
theorem rec_placesN {z : List Nat} (h : ∀ i, ¬ isAt z i = true) : recOf z = none := by
  have e : placesR z = [] := List.filter_eq_nil_iff.mpr fun i _ => h i
  unfold recOf
  rw [e]
  rfl
theorem rec_placesS {z : List Nat} {i : Nat} (h : isAt z i = true) (hl : ∀ k, i < k → ¬ isAt z k = true) : recOf z = recAtT z i := by
  have e : (placesR z).getLast? = some i := last_filter (by have := isAt_lt h; omega) h fun k h1 _ => Bool.eq_false_iff.mpr (hl k h1)
  unfold recOf
  rw [e]
theorem tw_same5 {p : Nat → Bool} {l : List Nat} (h : l.all p = true) : l.takeWhile p = l := by
  have e := tw_app p l [] (fun c hc => List.all_eq_true.mp h c hc) (fun c e => by cases e)
  rw [List.append_nil] at e
  exact e
theorem tw_full5 {p : Nat → Bool} {l : List Nat} (h : (l.takeWhile p).length = l.length) : l.all p = true := by
  have e := take_while p l
  rw [h, List.take_length] at e
  rw [List.all_eq_true]
  intro c hc
  rw [e] at hc
  exact tw_all p _ c hc
theorem sgn_len5 (z : List Nat) : sgn z + (z.drop (sgn z)).length = z.length := by
  rw [List.length_drop]
  have : sgn z ≤ z.length := by
    unfold sgn
    split
    · rename_i h
      cases z with
      | nil => cases h
      | cons a b => exact Nat.succ_le_succ (Nat.zero_le _)
    · exact Nat.zero_le _
  omega
theorem num_no {z : List Nat} (h : ¬ (1 ≤ (z.drop (sgn z)).length ∧ (z.drop (sgn z)).length ≤ 40 ∧ (z.drop (sgn z)).all isFg = true)) : numOf z = none := by
  cases e0 : numOf z with
  | none => rfl
  | some n =>
    exfalso
    unfold numOf at e0
    cases e : rNum z with
    | none => rw [e] at e0; cases e0
    | some p =>
      obtain ⟨r, k⟩ := p
      rw [e] at e0
      have c : k = z.length := by
        cases r with
        | num m =>
          have h' : (if k = z.length then some m else none) = some n := e0
          by_cases c : k = z.length
          · exact c
          · rw [if_neg c] at h'; cases h'
        | _ => cases e0
      unfold rNum at e
      by_cases c1 : (figs z).length < 1 ∨ 40 < (figs z).length
      · rw [if_pos c1] at e; cases e
      rw [if_neg c1] at e
      by_cases c2 : (figs z).take 1 = [48] ∧ (1 < (figs z).length ∨ 0 < sgn z)
      · rw [if_pos c2] at e; cases e
      rw [if_neg c2] at e
      have hnn : k = sgn z + (figs z).length := by cases e; rfl
      have hs := sgn_len5 z
      have hfl : ((z.drop (sgn z)).takeWhile isFg).length = (z.drop (sgn z)).length := by
        show (figs z).length = _
        omega
      have hf : (figs z).length = (z.drop (sgn z)).length := hfl
      exact h ⟨by omega, by omega, tw_full5 hfl⟩
theorem num_fig {z : List Nat} (h1 : 1 ≤ (z.drop (sgn z)).length) (h2 : (z.drop (sgn z)).length ≤ 40) (h3 : (z.drop (sgn z)).all isFg = true) :
    ((z.drop (sgn z)).take 1 = [48] ∧ (1 < (z.drop (sgn z)).length ∨ 0 < sgn z) → numOf z = none) ∧ (¬ ((z.drop (sgn z)).take 1 = [48] ∧ (1 < (z.drop (sgn z)).length ∨ 0 < sgn z)) → numOf z = some (if sgn z = 1 then -(digVal (z.drop (sgn z)) : Int) else digVal (z.drop (sgn z)))) := by
  have hf : figs z = z.drop (sgn z) := tw_same5 h3
  have hs := sgn_len5 z
  unfold numOf rNum
  rw [hf, if_neg (by omega)]
  refine ⟨fun h => ?_, fun h => ?_⟩
  · rw [if_pos h]
  · rw [if_neg h]
    show (if sgn z + (z.drop (sgn z)).length = z.length then _ else _) = _
    rw [if_pos hs]
theorem num_int {z : List Nat} (h1 : 1 ≤ (z.drop (sgn z)).length) (h2 : (z.drop (sgn z)).length ≤ 40) (h3 : (z.drop (sgn z)).all isFg = true) : intText? (SX.S z) = some (if sgn z = 1 then -(digVal (z.drop (sgn z)) : Int) else digVal (z.drop (sgn z))) := by
  have hdig : NumText.AllDigits (z.drop (sgn z)) := fun c' hc' => by
    have y : isFg c' = true := List.all_eq_true.mp h3 c' hc'
    unfold isFg at y
    rw [Bool.and_eq_true, decide_eq_true_eq, decide_eq_true_eq] at y
    exact y
  have hs := sgn_len5 z
  by_cases h : z.take 1 = [45]
  · have hs1 : sgn z = 1 := by unfold sgn; rw [if_pos h]
    obtain ⟨l', hl'⟩ : ∃ l', z = 45 :: l' := by
      cases z with
      | nil => cases h
      | cons x l' => exact ⟨l', by rw [show x = 45 from List.head_eq_of_cons_eq h]⟩
    rw [hs1] at h1 h2 hdig hs
    have e : z.drop 1 = l' := by rw [hl']; rfl
    rw [hs1, e, if_pos rfl]
    rw [e] at h1 h2 hdig
    rw [hl']
    exact intText_neg (cs := l') rfl hdig (fun z0 => by rw [z0] at h1; exact absurd h1 (by decide)) (by rw [SX.S_len, List.length_cons]; omega)
  · have hs0 : sgn z = 0 := by unfold sgn; rw [if_neg h]
    rw [hs0, List.drop_zero] at h1 h2 hdig
    rw [hs0, List.drop_zero, if_neg (by decide)]
    exact intText_digits (x := SX.S z) hdig (by show z ≠ []; exact fun z0 => by rw [z0] at h1; exact absurd h1 (by decide)) (by rw [SX.S_len]; omega)
theorem no_badF5 (l : List Nat) : (l.filter fun c => !isFg c).isEmpty = l.all isFg := by
  induction l with
  | nil => rfl
  | cons c l ih =>
    rw [List.all_cons, List.filter_cons, ← ih]
    cases isFg c <;> rfl
def chPy (l : List Nat) : List PyData := l.map fun c => PyData.str (SX.S [c])
theorem ch_dp (K : PySem.W.Frag) (H : Hp) : ∀ l : List Nat, DpAll K H (txs (ones l)) (chPy l)
  | [] => .nil
  | _ :: l => .cons (.str _) (ch_dp K H l)
theorem ch_shaped : ∀ {l : List Nat}, (∀ c ∈ l, c < 128) → PyData.canLayAll0 (chPy l) = true ∧ PyData.depthAll (chPy l) = 0
  | [], _ => ⟨rfl, rfl⟩
  | c :: l, h => by
    obtain ⟨h1, h2⟩ := ch_shaped fun t ht => h t (List.mem_cons_of_mem _ ht)
    refine ⟨?_, ?_⟩
    · show ((PyData.str (SX.S [c])).canLay0 && PyData.canLayAll0 (chPy l)) = true
      rw [h1, str_lay (fun d hd => by rw [List.mem_singleton.mp hd]; exact h c (List.mem_cons_self ..))]
      rfl
    · show max 0 (PyData.depthAll (chPy l)) = 0
      rw [h2]
      rfl
theorem ch_eqv (l : List Nat) : PyData.eqv (.list (chPy l)) (.list []) = l.isEmpty := by cases l <;> rfl
def spLNum : Sp := fun vs H Q _ => ∃ (z : List Nat), vs = [.str (SX.S z)] ∧ tameS z = true ∧ (numOf z = none → ∀ H', Same H H' → Q .non H') ∧ ∀ n, numOf z = some n → ∀ H', Same H H' → Q (.int n) H'
def spLName : Sp := fun vs H Q _ => ∃ (z : List Nat), vs = [.str (SX.S z)] ∧ tameS z = true ∧ ∀ H', Same H H' → Q (.bl (nmOk z)) H'
def spLRecIn : Sp := fun vs H Q _ => ∃ (z : List Nat), vs = [.str (SX.S z)] ∧ tameS z = true ∧ (rRead (.str z) = none → ∀ H', Same H H' → Q .non H') ∧ ∀ r, rRead (.str z) = some r → r.Good → ∀ H' v, Same H H' → Rec H' r v → Q v H'
section
variable {P : Program} {w : World} {K : PySem.W.Frag} {mg : Str → Option Value} {base : Heap}
abbrev s__law_number : Stmt := topS 65
abbrev N__law_number : List Str := ["word", "first", "figures", "sign"]
theorem sc__law_number : FnScope N__law_number ["word"] (defScope s__law_number) := ⟨rfl, rfl, rfl, by decide +kernel, rfl, by decide +kernel, by decide +kernel⟩

theorem ok__law_number5 (T : Txt K mg) (D : IsDef K mg "_law_number" s__law_number ["word"]) : Cal P w K mg base CX0 1 "_law_number" ["word"] spLNum := by
  refine D.cal sc__law_number (fun vs H Q E h => ?_) (fun f cdv A outer s H vs Q E hr h => ?_)
  · obtain ⟨z, rfl, _⟩ := h
    rfl
  obtain ⟨z, rfl, ht, qn, q⟩ := h
  have hz := tame_sl5 ht
  have hzn := tame_len ht
  refine ⟨_, (pss_cons (ps_set (i := 1) sc__law_number.nd rfl (Or.inl rfl) (pe_callTy call_int1 (by rfl) T.b_int (by decide +kernel) (pa_cons (pe_cmpR op_eq (pe_slice sl_str (pv 0) po_none (po_some pe_int)) pe_str (nomark _)) pa_nil)))
      (pss_cons (ps_set (i := 2) sc__law_number.nd rfl (Or.inl rfl) (pe_slice sl_str (pv 0) (po_some (pv 1)) po_none))
      (pss_cons (ps_if (PW.pt (pw_or (pt_not (pt_chain op_le op_le pe_int (pe_callB call_len_str (by rfl) T.b_len PySem.boot_len (pa_cons (pv 2) pa_nil)) pe_int)) (pw_or1 (pt_cmpR (op_neD hr.units) (pe_lc (own := [("sign", 3)]) (g := gName 3)  (by rfl) sc__law_number.nd  (pi_str (pv 2)) (blkOk_by (own := [("sign", 3)]) (N := N__law_number) (sc := defScope s__law_number) (by decide +kernel)) (fun _ _ _ _ _ => (pg_name (i := 3) sc__law_number.nd rfl (Or.inl rfl))) (fun _ _ _ _ _ => (pts_one (pt_cmpR op_notIn_sign (pv 3) pe_str rfl))) (fun _ _ _ _ _ => (pv 3))) (pe_lst pa_nil) (nomark _)))))
        (pss_one (ps_ret pe_non))
        pss_nil)
      (pss_cons (ps_if (PW.pt (pw_and (pt_cmpR op_eq (pe_ix (r := rIxS) ix_str (pv 2) pe_int (fun _ _ => rfl)) pe_str (nomark _)) (pw_and1 (PW.pt (pw_or (pt_cmpR op_gt (pe_callB call_len_str (by rfl) T.b_len PySem.boot_len (pa_cons (pv 2) pa_nil)) pe_int (nomark _)) (pw_or1 (pt_cmpR op_eq (pv 1) pe_int (nomark _))))))))
        (pss_one (ps_ret pe_non))
        pss_nil)
      (pss_one (ps_ret (pe_callTy call_int_str (by rfl) T.b_int (by decide +kernel) (pa_cons (pv 0) pa_nil)))))))), ?_⟩
  have hmin : ("-" : Str) = SX.S [45] := by decide +kernel
  have h0 : ("0" : Str) = SX.S [48] := by decide +kernel
  have hk : [V.bl (decide (V.str (cutS (SX.S z) none (some 1)) = V.str "-"))] = [V.bl (decide (z.take 1 = [45]))] := by
    rw [show (some (1 : Int)) = some ((1 : Nat) : Int) from rfl, cutS_to, hmin]
    congr 2
    exact decide_eq_decide.mpr SS_eq
  have hj : V.int (if decide (z.take 1 = [45]) = true then 1 else 0) = V.int ((sgn z : Nat) : Int) := by
    unfold sgn
    by_cases h : z.take 1 = [45]
    · rw [if_pos h, if_pos (decide_eq_true h)]; rfl
    · rw [if_neg h, if_neg (fun z => h (of_decide_eq_true z))]; rfl
  refine ⟨_, rfl, _, rfl, SX.S z, rfl, hz, rfl, .inr ⟨decide (z.take 1 = [45]), hk, ?_⟩⟩
  show gName 1 (V.int (if decide (z.take 1 = [45]) = true then 1 else 0)) _ _ _
  rw [hj]
  refine ⟨_, rfl, _, rfl, _, rfl, SX.S z, rfl, hz, ?_⟩
  show gName 2 (V.str (cutS (SX.S z) (some ((sgn z : Nat) : Int)) none)) _ _ _
  rw [cutS_from5]
  have l1 := num_no (z := z)
  have l2 := num_fig (z := z)
  have l3 := num_int (z := z)
  have hdl : (z.drop (sgn z)).length ≤ 1000000 := by rw [List.length_drop]; omega
  have hd128 : ∀ c ∈ z.drop (sgn z), c < 128 := fun c hc => (tame_of2 ht).2 c (List.mem_of_mem_drop hc)
  have hzl := sgn_len5 z
  generalize z.drop (sgn z) = d at l1 l2 l3 hdl hd128 hzl
  have hl : (SX.S d).length ≤ sizeLine := by rw [SX.S_len]; exact le_line (by omega)
  refine ⟨_, rfl, _, rfl, hl, _, _, rfl, rfl, _, rfl, ?_⟩
  rw [SX.S_len]
  have none1 : ¬ (1 ≤ d.length ∧ d.length ≤ 40) → Q .non H := fun h => qn (l1 fun z => h ⟨z.1, z.2.1⟩) H (Same.refl H)
  by_cases h1 : (1 : Int) ≤ ((d.length : Nat) : Int)
  · refine iteY h1 ⟨_, _, rfl, rfl, _, rfl, ?_⟩
    by_cases h2 : ((d.length : Nat) : Int) ≤ 40
    · rw [decide_eq_true h2]
      refine iteF ?_
      obtain ⟨tst, htst⟩ : ∃ tst, tst = isFg := ⟨_, rfl⟩
      have ein : ∀ c, decide (c ∈ ("0123456789" : Str).cps.toList) = tst c := fun c => by
        rw [figures_is, htst]
        show decide (c ∈ figures.toArray.toList) = isFg c
        rw [List.toList_toArray]
        exact congrFun fg_in c
      refine ⟨_, rfl, _, rfl, fun L nL => lcS (z := SX.S d) (fun i H' => Same H H' ∧ H' L = some (.lst (txs (ones ((d.take i).filter fun c => !tst c)))))
        ⟨same_new nL _, upd_same⟩ ?_ ?_⟩
      · rintro i c H2 hc1 ⟨hs, hL⟩
        have hci : d[i]? = some c := by
          have : d.toArray[i]? = some c := hc1
          rwa [List.getElem?_toArray] at this
        have e1 : (d.take (i + 1)) = d.take i ++ [c] := by rw [List.take_add_one, hci]; rfl
        refine ⟨rfl, _, rfl,  c, _, rfl, rfl, _, rfl, ?_⟩
        rw [ein c]
        cases hcc : tst c with
        | true =>
          refine ⟨hs, ?_⟩
          rw [e1, List.filter_append, List.filter_cons_of_neg (by rw [hcc]; decide), List.filter_nil, List.append_nil]
          exact hL
        | false =>
          refine ⟨_, rfl, _, hL, ?_, same_upd hs nL _, ?_⟩
          · rw [txs_len, ones_len]
            exact lt_line (Nat.lt_of_le_of_lt (List.length_filter_le _ _) (by rw [List.length_take]; omega))
          · rw [upd_same, e1, List.filter_append, List.filter_cons_of_pos (by rw [hcc]; rfl), List.filter_nil]
            unfold ones
            rw [List.map_append, txs_app]
            rfl
      · rintro H2 ⟨hs, hL⟩
        have ez : d.take (SX.S d).cps.size = d := List.take_of_length_le (by show d.length ≤ d.toArray.size; simp)
        rw [ez] at hL
        refine ⟨Nat.zero_le _, fun e ne => ?_⟩
        have Le : L ≠ e := ne_of_none hL ne
        have s1 := ch_shaped (l := d.filter fun c => !tst c) fun c h => hd128 c (List.mem_filter.mp h).1
        refine ⟨_, _, .lst (SqL.of (by rw [upd_ne Le]; exact hL)) (ch_dp _ _ _), .lst (SqL.of upd_same) .nil, shaped_parts.mpr ⟨s1.1, by rw [s1.2]; decide⟩, rfl, _, rfl, ?_⟩
        rw [ch_eqv, htst, no_badF5]
        have se := hs.trans (same_new ne (.lst []))
        cases hall : d.all isFg with
        | false => exact iteT (qn (l1 fun z => by rw [hall] at z; exact Bool.noConfusion z.2.2) _ se)
        | true =>
          refine iteF ?_
          have m1 : 1 ≤ d.length := by omega
          have m2 : d.length ≤ 40 := by omega
          obtain ⟨g1, g2⟩ := l2 m1 m2 hall
          have g3 := l3 m1 m2 hall
          obtain ⟨c, t, hct⟩ : ∃ c t, d = c :: t := by
            cases d with
            | nil => exact absurd m1 (by decide)
            | cons c t => exact ⟨c, t, rfl⟩
          have htk : d.take 1 = [c] := by rw [hct]; rfl
          have hlen : (SX.S z).length ≤ 640 := by
            rw [SX.S_len]
            have : sgn z ≤ 1 := by unfold sgn; split <;> omega
            omega
          refine ⟨_, rfl, SX.S d, 0, c, rfl, rfl, hl, atS5 (i := 0) (by rw [hct]; rfl), rfl, _, rfl, ?_⟩
          by_cases c3 : c = 48
          · refine iteY (by rw [c3, h0]) ?_
            refine ⟨_, rfl, _, rfl, hl, _, _, rfl, rfl, _, rfl, ?_⟩
            rw [SX.S_len]
            by_cases c4 : 1 < d.length
            · exact iteY (by omega) (qn (g1 ⟨by rw [htk, c3], .inl c4⟩) _ se)
            · refine iteN (by omega) ?_
              refine ⟨_, rfl, rfl, _, rfl, ?_⟩
              by_cases c5 : 0 < sgn z
              · have s1 : sgn z = 1 := by have : sgn z ≤ 1 := (by unfold sgn; split <;> omega); omega
                exact iteY (by rw [s1]; rfl) (qn (g1 ⟨by rw [htk, c3], .inr c5⟩) _ se)
              · refine iteN (fun e => c5 (by have := V.int.inj e; omega)) ?_
                exact ⟨_, rfl, SX.S z, _, rfl, g3, hlen, q _ (g2 fun y => y.2.elim c4 c5) _ se⟩
          · refine iteN (fun y => c3 (by rw [h0] at y; exact List.head_eq_of_cons_eq (SS_eq (a := [c]).mp y))) ?_
            exact ⟨_, rfl, SX.S z, _, rfl, g3, hlen, q _ (g2 fun y => c3 (by rw [htk] at y; exact List.head_eq_of_cons_eq y.1)) _ se⟩
    · rw [decide_eq_false h2]
      exact iteT (none1 (by omega))
  · exact iteN h1 ⟨_, rfl, iteT (none1 (by omega))⟩
abbrev s__law_name : Stmt := topS 66
abbrev N__law_name : List Str := ["word", "letters", "sign"]
theorem sc__law_name : FnScope N__law_name ["word"] (defScope s__law_name) := ⟨rfl, rfl, rfl, by decide +kernel, rfl, by decide +kernel, by decide +kernel⟩

theorem ok__law_name5 (T : Txt K mg) (D : IsDef K mg "_law_name" s__law_name ["word"]) : Cal P w K mg base CX0 1 "_law_name" ["word"] spLName := by
  refine D.cal sc__law_name (fun vs H Q E h => ?_) (fun f cdv A outer s H vs Q E hr h => ?_)
  · obtain ⟨z, rfl, _⟩ := h
    rfl
  obtain ⟨d, rfl, ht, q⟩ := h
  have hz := tame_sl5 ht
  have hzn := tame_len ht
  have hd128 := (tame_of2 ht).2
  refine ⟨_, (pss_cons (ps_set (i := 1) sc__law_name.nd rfl (Or.inr rfl) pe_str)
      (pss_one (ps_ret (pe_and (pe_chain op_le op_le pe_int (pe_callB call_len_str (by rfl) T.b_len PySem.boot_len (pa_cons (pv 0) pa_nil)) pe_int) (pe_one (pe_cmpR (op_eqD hr.units) (pe_lc (own := [("sign", 2)]) (g := gName 2)  (by rfl) sc__law_name.nd  (pi_str (pv 0)) (blkOk_by (own := [("sign", 2)]) (N := N__law_name) (sc := defScope s__law_name) (by decide +kernel)) (fun _ _ _ _ _ => (pg_name (i := 2) sc__law_name.nd rfl (Or.inl rfl))) (fun _ _ _ _ _ => (pts_one (pt_cmpR op_notIn_sign (pv 2) (pv 1) rfl))) (fun _ _ _ _ _ => (pv 2))) (pe_lst pa_nil) (nomark _))))))), ?_⟩
  refine ⟨_, rfl, _, rfl, hz, _, _, rfl, rfl, _, rfl, ?_⟩
  rw [SX.S_len]
  have none1 : ¬ (1 ≤ d.length ∧ d.length ≤ 8) → Q (.bl false) H := fun h => by
    have hq := q H (Same.refl H)
    have e : nmOk d = false := Bool.eq_false_iff.mpr fun e => h ⟨(nmOk_iff.mp e).1, (nmOk_iff.mp e).2.1⟩
    rw [e] at hq
    exact hq
  by_cases h1 : (1 : Int) ≤ ((d.length : Nat) : Int)
  · refine iteY h1 ⟨_, _, rfl, rfl, _, rfl, ?_⟩
    by_cases h2 : ((d.length : Nat) : Int) ≤ 8
    · rw [decide_eq_true h2]
      refine iteT ?_
      obtain ⟨tst, htst⟩ : ∃ tst : Nat → Bool, tst = fun c => decide (97 ≤ c) && decide (c ≤ 122) := ⟨_, rfl⟩
      have ein : ∀ c, decide (c ∈ ("abcdefghijklmnopqrstuvwxyz" : Str).cps.toList) = tst c := fun c => by rw [htst]; exact letter_in c
      refine ⟨_, rfl, _, rfl, fun L nL => lcS (z := SX.S d) (fun i H' => Same H H' ∧ H' L = some (.lst (txs (ones ((d.take i).filter fun c => !tst c)))))
        ⟨same_new nL _, upd_same⟩ ?_ ?_⟩
      · rintro i c H2 hc1 ⟨hs, hL⟩
        have hci : d[i]? = some c := by
          have : d.toArray[i]? = some c := hc1
          rwa [List.getElem?_toArray] at this
        have e1 : (d.take (i + 1)) = d.take i ++ [c] := by rw [List.take_add_one, hci]; rfl
        refine ⟨rfl, _, rfl, _, rfl, c, _, rfl, rfl, _, rfl, ?_⟩
        rw [ein c]
        cases hcc : tst c with
        | true =>
          refine ⟨hs, ?_⟩
          rw [e1, List.filter_append, List.filter_cons_of_neg (by rw [hcc]; decide), List.filter_nil, List.append_nil]
          exact hL
        | false =>
          refine ⟨_, rfl, _, hL, ?_, same_upd hs nL _, ?_⟩
          · rw [txs_len, ones_len]
            exact lt_line (Nat.lt_of_le_of_lt (List.length_filter_le _ _) (by rw [List.length_take]; omega))
          · rw [upd_same, e1, List.filter_append, List.filter_cons_of_pos (by rw [hcc]; rfl), List.filter_nil]
            unfold ones
            rw [List.map_append, txs_app]
            rfl
      · rintro H2 ⟨hs, hL⟩
        have ez : d.take (SX.S d).cps.size = d := List.take_of_length_le (by show d.length ≤ d.toArray.size; simp)
        rw [ez] at hL
        refine ⟨Nat.zero_le _, fun e ne => ?_⟩
        have Le : L ≠ e := ne_of_none hL ne
        have s1 := ch_shaped (l := d.filter fun c => !tst c) fun c h => hd128 c (List.mem_filter.mp h).1
        refine ⟨_, _, .lst (SqL.of (by rw [upd_ne Le]; exact hL)) (ch_dp _ _ _), .lst (SqL.of upd_same) .nil, shaped_parts.mpr ⟨s1.1, by rw [s1.2]; decide⟩, rfl, ?_⟩
        have hb : (d.filter fun c => !tst c).isEmpty = d.all tst := by
          clear ein hL s1
          clear ez hd128 h1 h2 hzn hz ht q none1
          induction d with
          | nil => rfl
          | cons c l ih =>
            rw [List.all_cons, List.filter_cons, ← ih]
            cases tst c <;> rfl
        rw [ch_eqv, hb]
        have hq := q _ (hs.trans (same_new ne (.lst [])))
        have en : nmOk d = d.all tst := by
          unfold nmOk
          rw [decide_eq_true (show 1 ≤ d.length by omega), decide_eq_true (show d.length ≤ 8 by omega), htst]
          rfl
        rw [en] at hq
        exact hq
    · rw [decide_eq_false h2]
      exact iteF (none1 (by omega))
  · exact iteN h1 ⟨_, rfl, iteF (none1 (by omega))⟩
abbrev s__law_recipe_in : Stmt := topS 67
abbrev N__law_recipe_in : List Str := ["text", "caught", "found", "e"]
theorem sc__law_recipe_in : FnScope N__law_recipe_in ["text"] (defScope s__law_recipe_in) := ⟨rfl, rfl, rfl, by decide +kernel, rfl, by decide +kernel, by decide +kernel⟩

theorem ok__law_recipe_in {C : Addr} (T : Txt K mg) (X0 : NoT K mg C) (hm : PySem.W.exmOne K (.ref C) (.ref C) = some true) (D : IsDef K mg "_law_recipe_in" s__law_recipe_in ["text"]) (C_read_recipe : Cal P w K mg base (L2.CX P w) 20 "read_recipe" ["text"] (spRead C)) : Cal P w K mg base CX0 21 "_law_recipe_in" ["text"] spLRecIn := by
  refine D.cal sc__law_recipe_in (fun vs H Q E h => ?_) (fun f cdv A outer s H vs Q E hr h => ?_)
  · obtain ⟨z, rfl, _⟩ := h
    rfl
  obtain ⟨z, rfl, ht, qn, q⟩ := h
  have GNoText := X0.g
  refine ⟨_, (pss_cons (ps_set (i := 1) sc__law_recipe_in.nd rfl (Or.inl rfl) pe_non)
      (pss_cons (ps_set (i := 2) sc__law_recipe_in.nd rfl (Or.inl rfl) pe_non)
      (pss_cons (ps_try_keep (i := 3) rfl rfl sc__law_recipe_in.nd rfl rfl ⟨rfl, by decide, .inl GNoText⟩ takes0 (fun W pn xe tk _ => (pss_one (ps_set (i := 2) sc__law_recipe_in.nd rfl (Or.inl rfl) (pe_calS C_read_recipe (hr.mono (by first | decide | omega)) (fun σ => passAt tk σ) (pa_cons (pv 0) pa_nil)))))
        (fun a cls d pn => (pss_one (ps_set (i := 1) sc__law_recipe_in.nd rfl (Or.inl rfl) (pv 3)))))
      (pss_cons (ps_if (pt_cmpR op_notN (pv 1) pe_non (nomark _))
        (pss_one (ps_ret pe_non))
        pss_nil)
      (pss_one (ps_ret (pv 2))))))), ?_⟩
  refine ⟨_, rfl, .str (SX.S z), .str z, rfl, rfl, ht, fun hn H1 hs1 => ?_, fun r e hG H1 v hs1 hR => ?_⟩
  · refine ⟨true, hm, fun _ a na => ?_, fun z => nomatch z⟩
    refine ⟨_, rfl, ?_⟩
    refine ⟨_, rfl, rfl, _, rfl, not_false_eq (decide_eq_false fun e => nomatch e) ?_⟩
    exact qn hn _ (hs1.trans (same_new na _))
  · refine ⟨_, rfl, rfl, _, rfl, not_true_eq (decide_eq_true rfl) ?_⟩
    exact ⟨_, rfl, q r e hG _ v hs1 hR⟩
end
/-! ### a record's text read, by the program and by the law -/
def spLReads : Sp := fun vs H Q _ => ∃ z : List Nat, vs = [.str (SX.S z)] ∧ tameS z = true ∧ (readsOf z = none → ∀ H', Same H H' → Q .non H') ∧
  ∀ rd, readsOf z = some rd → ∀ (H' : Hp) (L : Addr) (xs : List V), Same H H' → H' L = some (.lst xs) → Prs H' rd xs → Q (.ref L) H'
def spLDue : Sp := fun vs H Q _ => ∃ z : List Nat, vs = [.str (SX.S z)] ∧ tameS z = true ∧ z.length ≤ 900000 ∧ (recOf z = none → ∀ H', Same H H' → Q .non H') ∧
  ∀ r rd w, recOf z = some (r, rd, w) → ∀ (H' : Hp) (v : V), Same H H' → RecAt H' r rd w v → Q v H'
theorem str_or : ∀ t : Th, t.isStr = false ∨ ∃ z, t = .str z
  | .str z => .inr ⟨z, rfl⟩
  | .non => .inl rfl
  | .bl _ => .inl rfl
  | .int _ => .inl rfl
  | .tup _ => .inl rfl
  | .lst _ => .inl rfl
  | .dct => .inl rfl
theorem recTh_no : ∀ {t : Th}, t.isStr = false → recTh t = none
  | .str _, h => nomatch h
  | .non, _ => rfl
  | .bl _, _ => rfl
  | .int _, _ => rfl
  | .tup _, _ => rfl
  | .lst _, _ => rfl
  | .dct, _ => rfl
theorem split_isP (z : List Nat) (p : List Nat) (hp : p ≠ []) (hk : p.all (· < 256) = true) : Txt.split (SX.S z) (SX.S p) = (TL.spl p 0 [] z).map SX.S := SX.split_S hp hk
section
variable {P : Program} {w : World} {K : PySem.W.Frag} {mg : Str → Option Value} {base : Heap}
abbrev s_read_record : Stmt := topS 50
abbrev N_read_record : List Str := ["text", "at", "between", "ends", "worth", "record"]
theorem sc_read_record : FnScope N_read_record ["text"] (defScope s_read_record) := ⟨rfl, rfl, rfl, by decide +kernel, rfl, by decide +kernel, by decide +kernel⟩

theorem ok_read_record {C : Addr} (T : Txt K mg) (XNoText : NoT K mg C) (D : IsDef K mg "read_record" s_read_record ["text"]) (C_rr : Cal P w K mg base (L2.CX P w) 20 "read_recipe" ["text"] (spRead C)) (C_reads : Cal P w K mg base (L2.CX P w) 22 "read_reads" ["text"] (spRdReads C)) (C_one : Cal P w K mg base (L2.CX P w) 21 "read_one" ["word", "kind"] (spOne C))
    (C_true : Cal P w K mg base CX0 21 "is_true_record" ["thing"] spTrueR) : Cal P w K mg base (L2.CX P w) 23 "read_record" ["text"] (spReadRec C) := by
  have C_read_recipe := C_rr.mono (show 20 ≤ 22 by omega)
  have C_read_reads := C_reads
  have C_read_one := C_one.mono (show 21 ≤ 22 by omega)
  have C_is_true_record := C_true.mono (show 21 ≤ 22 by omega)
  refine D.calX sc_read_record (fun vs H Q E h => ?_) (fun f cdv A outer s H vs Q E hr h => ?_)
  · obtain ⟨v, t, rfl, _⟩ := h
    rfl
  obtain ⟨v, t, rfl, hd, ht, hl9, qe, q⟩ := h
  refine ⟨_, (pss_cons (ps_if (PW.pt (pw_or (pt_not (pt_val (pe_callB call_isi (by rfl) T.b_isinstance (by decide +kernel) (pa_cons (pv 0) (pa_cons (pe_bltn (v := .ty "str") (by rfl) T.b_str (by decide +kernel) rfl) pa_nil))))) (pw_or1 (pt_cmpR op_notIn_str pe_str (pv 0) (by with_unfolding_all rfl)))))
        (pss_one (ps_raise rfl (takes_of rfl rfl rfl rfl) (pmk_own PySem.F.excBase_ValueError XNoText.x XNoText.g XNoText.k (raises_own XNoText.b XNoText.t) rfl)))
        pss_nil)
      (pss_cons (ps_set (i := 1) sc_read_record.nd rfl (Or.inl rfl) (pe_m1 PySem.F.slot_str_rfind PySem.F.type_str_rfind mt_rfind (pv 0) pe_str))
      (pss_cons (ps_asg (pe_partition (pe_slice sl_str (pv 0) (po_some (pe_op op_add (pv 1) pe_int)) po_none) pe_str) (pg_tup rfl (pgs_cons (pg_name (i := 2) sc_read_record.nd rfl (Or.inl rfl)) (pgs_cons (pg_name (i := 3) sc_read_record.nd rfl (Or.inl rfl)) (pgs_cons (pg_name (i := 4) sc_read_record.nd rfl (Or.inl rfl)) pgs_nil)))))
      (pss_cons (ps_set (i := 5) sc_read_record.nd rfl (Or.inl rfl) (pe_tup (pa_cons (pe_cal C_read_recipe (hr.mono (by first | decide | omega)) (passes_call (takes_of rfl rfl rfl rfl) (fun _ _ _ _ h => h)) (pa_cons (pe_slice sl_str (pv 0) po_none (po_some (pv 1))) pa_nil)) (pa_cons (pe_cal C_read_reads (hr.mono (by first | decide | omega)) (passes_call (takes_of rfl rfl rfl rfl) (fun _ _ _ _ h => h)) (pa_cons (pv 2) pa_nil)) (pa_cons (pe_cal C_read_one (hr.mono (by first | decide | omega)) (passes_call (takes_of rfl rfl rfl rfl) (fun _ _ _ _ h => h)) (pa_cons (pv 4) (pa_cons pe_str pa_nil))) pa_nil)))))
      (pss_cons (ps_if (pt_not (pt_val (pe_cal C_is_true_record (hr.mono (by first | decide | omega)) pass0 (pa_cons (pv 5) pa_nil))))
        (pss_one (ps_raise rfl (takes_of rfl rfl rfl rfl) (pmk_own PySem.F.excBase_ValueError XNoText.x XNoText.g XNoText.k (raises_own XNoText.b XNoText.t) rfl)))
        pss_nil)
      (pss_one (ps_ret (pv 5)))))))), ?_⟩
  refine ⟨_, rfl, _, _, _, _, _, rfl, .ty _, hd.ty, kit_str t, _, rfl, ?_⟩
  rcases str_or t with hns | ⟨z, rfl⟩
  · rw [hns]
    refine iteT ?_
    exact qe (recTh_no hns) _ (Same.refl H)
  have ev : v = .str (SX.S z) := hd
  subst ev
  replace hl9 := hl9 z rfl
  have ht : tameS z = true := ht
  replace qe : recOf z = none → ∀ H', Same H H' → E (.ref C) none H' := qe
  replace q : ∀ r rd w, recOf z = some (r, rd, w) → ∀ (H' : Hp) (v : V), Same H H' → RecAt H' r rd w v → Q v H' := q
  have hz := tame_sl5 ht
  have hzl := tame_len ht
  have q1 : (" [" : Str) = SX.S [32, 91] := by decide +kernel
  have q2 : ("] = " : Str) = SX.S patE := by decide +kernel
  refine not_true_eq rfl ?_
  refine ⟨_, rfl, _, _, rfl, rfl, _, rfl, ?_⟩
  rw [q1]
  rcases rfind_whole (SX.S z) (SX.S [32, 91]) with ⟨h1, h2⟩ | ⟨i, h1, h2, h3⟩
  · have eb : (!(Builtin.Str.occurrences (SX.S z) (SX.S [32, 91]) 0 (SX.S z).length 1).isEmpty) = false := Bool.eq_false_iff.mpr fun e => by
      obtain ⟨i, hi1, hi2⟩ := (StrLaws.found_iff (SX.S z) (SX.S [32, 91])).mp e
      exact h2 i ⟨hi1, hi2⟩
    rw [eb]
    refine iteT ?_
    exact qe (rec_placesN fun i hi => h2 i (at_two.mpr hi)) _ (Same.refl H)
  have hia := at_two.mp h2
  have eb : (!(Builtin.Str.occurrences (SX.S z) (SX.S [32, 91]) 0 (SX.S z).length 1).isEmpty) = true := (StrLaws.found_iff (SX.S z) (SX.S [32, 91])).mpr ⟨i, h2.1, h2.2⟩
  rw [eb]
  refine iteF ?_
  rw [rec_placesS hia fun k hk e => h3 k hk (at_two.mpr e)] at qe q
  refine ⟨_, rfl, ⟨_, rfl⟩, _, _, rfl, rfl, ?_⟩
  show gName 1 (V.int (Txt.rfind (SX.S z) " [")) _ _ _
  rw [q1, h1]
  have hcut : cutS (SX.S z) (some ((i : Int) + 2)) none = SX.S (z.drop (i + 2)) := cutS_from5 z (i + 2)
  have hcut2 : cutS (SX.S z) none (some (i : Int)) = SX.S (z.take i) := cutS_to z i
  have htr := tame_drop5 ht (i + 2)
  have hta := tame_take ht i
  obtain ⟨a, b, m, hpt, ta, tb, pn, py⟩ : ∃ (a b m : List Nat), Txt.partition (SX.S (z.drop (i + 2))) "] = " = (SX.S a, SX.S m, SX.S b) ∧ tameS a = true ∧ tameS b = true ∧ ((rRead (.str (z.take i)) = none ∨ readsOf a = none ∨ numOf b = none) → recAtT z i = none) ∧ ∀ r rd w, rRead (.str (z.take i)) = some r → readsOf a = some rd → numOf b = some w → recAtT z i = if trueR r rd w = true then some (r, rd, w) else none := by
    rw [q2]
    cases e : TL.par patE [] (z.drop (i + 2)) with
    | none =>
      refine ⟨z.drop (i + 2), [], [], SX.partition_none (by decide) e, htr, rfl, fun _ => ?_, fun r rd w _ _ h => ?_⟩
      · unfold recAtT; rw [e]
      · rw [numOf_nil] at h; cases h
    | some x =>
      obtain ⟨a, b⟩ := x
      have hs := par_split e
      rw [List.nil_append] at hs
      obtain ⟨t1, t2⟩ := tame_part htr hs
      refine ⟨a, b, patE, SX.partition_some (by decide) e, t1, t2, fun h => ?_, fun r rd w k1 k2 k3 => ?_⟩
      · unfold recAtT
        rw [e]
        show (match rRead (.str (z.take i)), readsOf a, numOf b with | some r, some rd, some w => if trueR r rd w = true then some (r, rd, w) else none | _, _, _ => none) = none
        rcases h with h | h | h
        · rw [h]
        · rw [h]; cases rRead (.str (z.take i)) <;> rfl
        · rw [h]; cases rRead (.str (z.take i)) <;> cases readsOf a <;> rfl
      · unfold recAtT
        rw [e]
        show (match rRead (.str (z.take i)), readsOf a, numOf b with | some r, some rd, some w => if trueR r rd w = true then some (r, rd, w) else none | _, _, _ => none) = _
        rw [k1, k2, k3]
  refine ⟨_, rfl, _, rfl, _, _, rfl, rfl, _, rfl, SX.S z, rfl, hz, ⟨_, rfl⟩, _, _, congrArg V.str hcut, rfl, by decide +kernel, tame_sl5 htr, fun t nt => ?_⟩
  rw [hpt]
  have st := same_new nt (.tup [.str (SX.S a), .str (SX.S m), .str (SX.S b)])
  refine ⟨t, _, rfl, SqT.of upd_same, rfl, _, _, rfl, _, _, rfl, _, _, rfl, rfl, ?_⟩
  refine ⟨_, rfl, _, rfl, _, rfl, SX.S z, rfl, hz, .str (SX.S (z.take i)), .str (z.take i), congrArg (fun x => [V.str x]) hcut2, rfl, hta, fun e G1 s1 => qe (pn (.inl e)) _ (st.trans s1), fun r er hG G1 v s1 hR => ?_⟩
  refine ⟨_, rfl, a, rfl, ta, fun e G2 s2 => qe (pn (.inr (.inl e))) _ (st.trans (s1.trans s2)), fun rd erd G2 L xs s2 hL hP => ?_⟩
  refine ⟨_, rfl, b, tb, .inr ⟨rfl, fun e G3 s3 => qe (pn (.inr (.inr e))) _ (st.trans (s1.trans (s2.trans s3))), fun wt ew G3 s3 => ?_⟩⟩
  refine ⟨le_line (Nat.le_of_ble_eq_true rfl), fun p np => ?_⟩
  have sp := same_new np (.tup [v, .ref L, .int wt])
  have hAt : RecAt (upd G3 p (.tup [v, .ref L, .int wt])) r rd wt (.ref p) := ⟨p, L, v, xs, rfl, upd_same, sp _ _ (s3 _ _ hL), ((hR.same s2).same s3).same sp, (hP.same s3).same sp⟩
  obtain ⟨_, b2, b3⟩ := readsOf_back erd
  have hal : a.length ≤ 1000000 := tame_len ta
  have hal2 : a.length ≤ 900000 := by
    have e8 : ∀ {x y m : List Nat}, x = a ++ (m ++ y) → x.length ≤ 900000 → a.length ≤ 900000 := fun {x y m} e h => by rw [e, List.length_append] at h; omega
    cases e : TL.par patE [] (z.drop (i + 2)) with
    | none =>
      rw [q2, SX.partition_none (by decide) e] at hpt
      have ha : z.drop (i + 2) = a := SX.S_inj (congrArg Prod.fst hpt)
      rw [← ha, List.length_drop]
      omega
    | some x =>
      obtain ⟨a', b'⟩ := x
      rw [q2, SX.partition_some (by decide) e] at hpt
      have ha : a' = a := SX.S_inj (congrArg Prod.fst hpt)
      have hs := par_split e
      rw [List.nil_append, ha] at hs
      exact e8 hs (by rw [List.length_drop]; omega)
  refine ⟨_, rfl, .ref p, r, rd, wt, rfl, hAt, Rcp.tame hG, good_nb hG, fun hh => by have := (rcp_is hG hh).1; omega, small_of b2, by omega, fun G4 s4 => ⟨_, rfl, ?_⟩⟩
  have hrec := py r rd wt er erd ew
  have sAll := st.trans (s1.trans (s2.trans (s3.trans (sp.trans s4))))
  cases htr : trueR r rd wt with
  | true =>
    refine not_true_eq rfl ?_
    exact ⟨_, rfl, q r rd wt (by rw [hrec, if_pos htr]) _ _ sAll (hAt.same s4)⟩
  | false =>
    refine not_false_eq rfl ?_
    exact qe (by rw [hrec, if_neg (by rw [htr]; exact Bool.false_ne_true)]) _ sAll
abbrev s__law_reads_in : Stmt := topS 68
abbrev N__law_reads_in : List Str := ["text", "reads", "word", "parts"]
theorem sc__law_reads_in : FnScope N__law_reads_in ["text"] (defScope s__law_reads_in) := ⟨rfl, rfl, rfl, by decide +kernel, rfl, by decide +kernel, by decide +kernel⟩

theorem ok__law_reads_in (T : Txt K mg) (D : IsDef K mg "_law_reads_in" s__law_reads_in ["text"]) (C__law_name : Cal P w K mg base CX0 1 "_law_name" ["word"] spLName) (C__law_number : Cal P w K mg base CX0 1 "_law_number" ["word"] spLNum) : Cal P w K mg base CX0 2 "_law_reads_in" ["text"] spLReads := by
  refine D.cal sc__law_reads_in (fun vs H Q E h => ?_) (fun f cdv A outer s H vs Q E hr h => ?_)
  · obtain ⟨z, rfl, _⟩ := h
    rfl
  obtain ⟨z, rfl, ht, qe, q⟩ := h
  have hz := tame_sl5 ht
  have hzl := tame_len ht
  have hem : ("" : Str) = SX.S [] := by decide +kernel
  have heq : ("=" : Str) = SX.S [61] := by decide +kernel
  refine ⟨_, (pss_cons (ps_set (i := 1) sc__law_reads_in.nd rfl (Or.inl rfl) (pe_lst pa_nil))
      (pss_cons (ps_if (pt_cmpR op_eq (pv 0) pe_str (nomark _))
        (pss_one (ps_ret (pv 1)))
        pss_nil)
      (pss_cons (ps_for PassesOwn.never rfl (pi_list (pe_split (pv 0) pe_str)) (pg_name (i := 2) sc__law_reads_in.nd rfl (Or.inl rfl))
        (pss_cons (ps_set (i := 3) sc__law_reads_in.nd rfl (Or.inl rfl) (pe_split (pv 2) pe_str))
      (pss_cons (ps_if (PW.pt (pw_or (pt_cmpR op_ne (pe_callB call_len_seq (by rfl) T.b_len PySem.boot_len (pa_cons (pv 3) pa_nil)) pe_int (nomark _)) (pw_or (pt_not (pt_val (pe_cal C__law_name (hr.mono (by first | decide | omega)) pass0 (pa_cons (pe_ix (r := rIxL K) ix_list (pv 3) pe_int (fun _ _ => rfl)) pa_nil)))) (pw_or1 (pt_cmpR op_isN (pe_cal C__law_number (hr.mono (by first | decide | omega)) pass0 (pa_cons (pe_ix (r := rIxL K) ix_list (pv 3) pe_int (fun _ _ => rfl)) pa_nil)) pe_non (nomark _))))))
        (pss_one (ps_ret pe_non))
        pss_nil)
      (pss_one (ps_expr (pe_bm PySem.F.plainAttrs_list PySem.F.slot_list_append PySem.F.type_list_append mt_append (pv 1) (pa_cons (pe_tup (pa_cons (pe_ix (r := rIxL K) ix_list (pv 3) pe_int (fun _ _ => rfl)) (pa_cons (pe_cal C__law_number (hr.mono (by first | decide | omega)) pass0 (pa_cons (pe_ix (r := rIxL K) ix_list (pv 3) pe_int (fun _ _ => rfl)) pa_nil)) pa_nil))) pa_nil)))))))
      (pss_one (ps_ret (pv 1)))))), ?_⟩
  refine ⟨le_line (Nat.le_of_ble_eq_true rfl), fun L nL => ?_⟩
  have sL := same_new nL (.lst [])
  by_cases c0 : z = []
  · refine ⟨_, rfl, rfl, _, rfl, iteY (by rw [c0, hem]) ?_⟩
    exact ⟨_, rfl, q [] (by unfold readsOf; rw [if_pos c0]) _ L [] sL upd_same trivial⟩
  refine ⟨_, rfl, rfl, _, rfl, iteN (fun e => c0 (by rw [hem] at e; exact SS_eq.mp e)) ?_⟩
  have hdef : readsOf z = goReads (TL.spl [44] 0 [] z) := by unfold readsOf; rw [if_neg c0]
  rw [hdef] at qe q
  refine ⟨_, rfl, ⟨_, rfl⟩, _, _, rfl, rfl, by decide +kernel, by rw [SX.S_len]; exact le_line (by omega), fun p5 n5 => ?_⟩
  rw [split_is]
  have hwt := spl_tame5 ht
  have hwl := spl_len z [] 0
  generalize TL.spl [44] 0 [] z = ws at qe q hwt hwl ⊢
  have nLp : L ≠ p5 := ne_of_none upd_same n5
  have s5 := same_new n5 (.lst ((ws.map SX.S).map V.str))
  obtain ⟨H1, hH1⟩ : ∃ H1, H1 = upd (upd H L (.lst [])) p5 (.lst ((ws.map SX.S).map V.str)) := ⟨_, rfl⟩
  have hp5 : H1 p5 = some (.lst (txs ws)) := by rw [hH1]; exact upd_same
  have hL1 : H1 L = some (.lst []) := by rw [hH1, upd_ne nLp]; exact upd_same
  have s01 : Same H H1 := by rw [hH1]; exact sL.trans s5
  rw [← hH1]
  refine ⟨p5, rfl, ⟨_, SqL.of hp5⟩, for_list (K := K) (a := p5) (xs := txs ws) (fun i σ G => ∃ (v2 v3 : Option V) (rd : List Pr) (xs : List V), σ = [some (.str (SX.S z)), some (.ref L), v2, v3] ∧ Fr1 L H1 G ∧ G L = some (.lst xs) ∧ Prs G rd xs ∧ rd.length = i ∧ (goReads (ws.drop i) = none → goReads ws = none) ∧ ∀ ps, goReads (ws.drop i) = some ps → goReads ws = some (rd ++ ps)) ⟨none, none, [], [], rfl, Fr1.refl _ _, hL1, trivial, rfl, fun e => e, fun ps e => e⟩ (fun i σ G _ ⟨_, _, _, _, _, f, _⟩ => SqL.of (f _ _ nLp.symm hp5)) (fun i x σ G hx ⟨v2, v3, rd, xs, hσ, f, hG, hP, hrl, g1, g2⟩ => ?_) (fun σ G ⟨v2, v3, rd, xs, hσ, f, hG, hP, hrl, g1, g2⟩ => ?_)⟩
  · subst hσ
    have hi : i < ws.length := by
      have := (List.getElem?_eq_some_iff.mp hx).1
      rw [txs_len] at this
      exact this
    rw [txs_get hi] at hx
    obtain rfl := Option.some.inj hx
    have hd : ws.drop i = ws[i] :: ws.drop (i + 1) := List.drop_eq_getElem_cons hi
    have hwi := hwt _ (List.getElem_mem hi)
    generalize ws[i] = wd at hd hwi
    rw [hd] at g1 g2
    have sG : ∀ {G2 : Hp}, Fr1 L H1 G2 → Same H G2 := fun {G2} f2 b u e => f2 b u (fun z => by rw [z, nL] at e; cases e) (s01 _ _ e)
    have hwdl := tame_len hwi
    have bad : pairOf wd = none → ∀ G2, Fr1 L H1 G2 → Q .non G2 := fun e G2 f2 => qe (g1 (by show (match pairOf wd with | none => none | some p => _) = none; rw [e])) _ (sG f2)
    refine ⟨_, rfl, ⟨_, rfl⟩, _, _, rfl, rfl, by decide +kernel, by rw [SX.S_len]; exact le_line (by omega), fun p6 n6 => ?_⟩
    rw [heq, split_isP wd [61] (by decide) (by decide)]
    cases e : TL.par [61] [] wd with
    | none =>
      have hpn : pairOf wd = none := by unfold pairOf; rw [e]
      have h1 : TL.spl [61] 0 [] wd = [wd] := by rw [spl_par (by decide), e]; rfl
      rw [h1]
      have s6 := same_new n6 (.lst (([wd].map SX.S).map V.str))
      refine ⟨_, rfl, p6, _, rfl, .inl (SqL.of upd_same), rfl, _, rfl, not_false_eq (decide_eq_false fun y => absurd (show (1 : Int) = 2 from V.int.inj y) (by decide)) ?_⟩
      exact bad hpn _ (f.trans (Fr1.of s6))
    | some x =>
      obtain ⟨a, b⟩ := x
      have hs := par_split e
      rw [List.nil_append] at hs
      obtain ⟨ta, tb⟩ := tame_part hwi hs
      have hpair : pairOf wd = match nameOf a, numOf b with | some s, some n => some (s, n) | _, _ => none := by unfold pairOf; rw [e]; try rfl
      have h1 : TL.spl [61] 0 [] wd = a :: TL.spl [61] 0 [] b := by rw [spl_par (by decide), e]
      rw [h1]
      cases e2 : TL.par [61] [] b with
      | some y =>
        obtain ⟨b1, b2⟩ := y
        have hb := par_split e2
        have hnb : numOf b = none := by
          cases en : numOf b with
          | none => rfl
          | some n =>
            exfalso
            have hz2 := (num_back en).1
            have : 61 ∈ intL n := by rw [← hz2, show b = b1 ++ ([61] ++ b2) from hb]; simp
            have := intL_chars n 61 this
            omega
        have hpn : pairOf wd = none := by rw [hpair, hnb]; cases nameOf a <;> rfl
        obtain ⟨rest, hrest⟩ : ∃ rest, rest = TL.spl [61] 0 [] b2 := ⟨_, rfl⟩
        have hrl2 : rest ≠ [] := by
          rw [hrest, spl_par (by decide)]
          cases TL.par [61] [] b2 with
          | none => exact fun h => by cases h
          | some p => exact fun h => by cases h
        have hsp : TL.spl [61] 0 [] b = b1 :: rest := by rw [spl_par (by decide), e2, hrest]
        rw [hsp]
        have s6 := same_new n6 (.lst (((a :: b1 :: rest).map SX.S).map V.str))
        refine ⟨_, rfl, p6, _, rfl, .inl (SqL.of upd_same), rfl, _, rfl, not_false_eq (decide_eq_false fun y => ?_) ?_⟩
        · have := V.int.inj y
          rw [List.length_map, List.length_map, List.length_cons, List.length_cons] at this
          have h0 : rest.length ≠ 0 := fun h => hrl2 (List.eq_nil_of_length_eq_zero h)
          omega
        · exact bad hpn _ (f.trans (Fr1.of s6))
      | none =>
        have hsp : TL.spl [61] 0 [] b = [b] := by rw [spl_par (by decide), e2]; rfl
        rw [hsp]
        have s6 := same_new n6 (.lst (([a, b].map SX.S).map V.str))
        have hp6 : upd G p6 (.lst (([a, b].map SX.S).map V.str)) p6 = some (.lst [.str (SX.S a), .str (SX.S b)]) := upd_same
        refine ⟨_, rfl, p6, _, rfl, .inl (SqL.of upd_same), rfl, _, rfl, not_true_eq (decide_eq_true rfl) ?_⟩
        refine ⟨_, rfl, p6, _, _, _, rfl, rfl, SqL.of hp6, rfl, a, rfl, ta, fun G2 s2 => ⟨_, rfl, ?_⟩⟩
        cases hnm : nmOk a with
        | false =>
          refine not_false_eq rfl ?_
          exact bad (by rw [hpair, show nameOf a = none by unfold nameOf; rw [hnm, if_neg Bool.false_ne_true]]) _ (f.trans (Fr1.of (s6.trans s2)))
        | true =>
          refine not_true_eq rfl ?_
          have hna : nameOf a = some a := by unfold nameOf; rw [if_pos hnm]
          refine ⟨_, rfl, p6, _, _, _, rfl, rfl, SqL.of (s2 _ _ hp6), rfl, b, rfl, tb, fun en G3 s3 => ?_, fun n en G3 s3 => ?_⟩
          · refine ⟨rfl, _, rfl, iteY rfl ?_⟩
            exact bad (by rw [hpair, hna, en]) _ (f.trans (Fr1.of (s6.trans (s2.trans s3))))
          · refine ⟨rfl, _, rfl, iteN (fun e => nomatch e) ?_⟩
            have s63 := s6.trans (s2.trans s3)
            have hp63 := s3 _ _ (s2 _ _ hp6)
            refine ⟨_, rfl, .inl ⟨rfl, _, SqL.of (s63 _ _ hG)⟩, _, rfl, p6, _, _, _, rfl, rfl, SqL.of hp63, rfl, _, rfl, p6, _, _, _, rfl, rfl, SqL.of hp63, rfl, b, rfl, tb, fun en2 => (by rw [en] at en2; cases en2), fun n2 en2 G4 s4 => ?_⟩
            rw [en] at en2
            cases en2
            have s64 := s63.trans s4
            refine ⟨le_line (Nat.le_of_ble_eq_true rfl), fun u nu => ?_⟩
            have su := same_new nu (.tup [.str (SX.S a), .int n])
            have hxl := hP.len
            have hL4 := su _ _ (s64 _ _ hG)
            have hpr : pairOf wd = some (a, n) := by rw [hpair, hna, en]
            refine ⟨L, _, _, rfl, rfl, hL4, lt_line (by omega), _, _, rd ++ [(a, n)], _, rfl, fun y o ne ey => by rw [upd_ne ne]; exact su _ _ (s64 _ _ (f y o ne ey)), upd_same, (Prs.snoc (p := (a, n)) upd_same (hP.same (s64.trans su))).keep (keep_lst hL4), by rw [List.length_append, hrl]; rfl, fun e => g1 ?_, fun ps e => ?_⟩
            · show (match pairOf wd with | none => none | some p => match goReads (ws.drop (i + 1)) with | none => none | some ps => some (p :: ps)) = none
              rw [hpr, e]
            · have := g2 ((a, n) :: ps) (by
                show (match pairOf wd with | none => none | some p => match goReads (ws.drop (i + 1)) with | none => none | some ps => some (p :: ps)) = _
                rw [hpr, e])
              rw [this, List.append_assoc]
              rfl
  · subst hσ
    rw [txs_len, List.drop_eq_nil_of_le (Nat.le_refl _)] at g2
    have e := g2 [] rfl
    rw [List.append_nil] at e
    exact ⟨_, rfl, q rd e G L xs (fun b u e => f b u (fun z => by rw [z, nL] at e; cases e) (s01 _ _ e)) hG hP⟩
end
/-! ### what is due, by the law -/
def natsW (l : List Nat) : List V := intsV (l.map fun n : Nat => (n : Int))
theorem natsW_app (a b : List Nat) : natsW (a ++ b) = natsW a ++ natsW b := by unfold natsW; rw [List.map_append, intsV_app]
theorem natsW_len (a : List Nat) : (natsW a).length = a.length := by unfold natsW; rw [intsV_len, List.length_map]
theorem natsW_last {l : List Nat} {i : Nat} (h : l.getLast? = some i) : atI (natsW l) (-1) = some (.int (i : Int)) := by
  have hne : l ≠ [] := fun e => by rw [e] at h; cases h
  rw [List.getLast?_eq_getLast hne] at h
  have e := (List.dropLast_concat_getLast hne).symm
  rw [Option.some.inj h] at e
  rw [e, natsW_app]
  exact atI_last _ _
section
variable {P : Program} {w : World} {K : PySem.W.Frag} {mg : Str → Option Value} {base : Heap}
abbrev s__law_due : Stmt := topS 69
abbrev N__law_due : List Str := ["text", "places", "tail", "r", "reads", "worth", "at"]
theorem sc__law_due : FnScope N__law_due ["text"] (defScope s__law_due) := ⟨rfl, rfl, rfl, by decide +kernel, rfl, by decide +kernel, by decide +kernel⟩

theorem ok__law_due5 (T : Txt K mg) (D : IsDef K mg "_law_due" s__law_due ["text"]) (C_rec : Cal P w K mg base CX0 21 "_law_recipe_in" ["text"] spLRecIn) (C_reads : Cal P w K mg base CX0 2 "_law_reads_in" ["text"] spLReads) (C_num : Cal P w K mg base CX0 1 "_law_number" ["word"] spLNum)
    (C_beh : Cal P w K mg base CX0 11 "_law_behind" ["r", "reads"] spLBehind) : Cal P w K mg base CX0 22 "_law_due" ["text"] spLDue := by
  have C__law_recipe_in := C_rec
  have C__law_reads_in := C_reads.mono (show 2 ≤ 21 by omega)
  have C__law_number := C_num.mono (show 1 ≤ 21 by omega)
  have C__law_behind := C_beh.mono (show 11 ≤ 21 by omega)
  refine D.cal sc__law_due (fun vs H Q E h => ?_) (fun f cdv A outer s H vs Q E hr h => ?_)
  · obtain ⟨z, rfl, _⟩ := h
    rfl
  obtain ⟨z, rfl, ht, hl9, qn, q⟩ := h
  have hz := tame_sl5 ht
  have hzl := tame_len ht
  have q1 : (" [" : Str) = SX.S [32, 91] := by decide +kernel
  have q2 : ("] = " : Str) = SX.S patE := by decide +kernel
  refine ⟨_, (pss_cons (ps_setLc (i := 1) (own := [("at", 6)]) (g := gName 6)  (by rfl) sc__law_due.nd rfl rfl (sw_true rfl rfl rfl (by decide +kernel)) (pi_range1 rfl T.b_range (pa_cons (pe_callB call_len_str (by rfl) T.b_len PySem.boot_len (pa_cons (pv 0) pa_nil)) pa_nil)) (blkOk_by (own := [("at", 6)]) (N := N__law_due) (sc := defScope s__law_due) (by decide +kernel)) (fun _ _ _ _ _ => (pg_name (i := 6) sc__law_due.nd rfl (Or.inl rfl))) (fun _ _ _ _ _ => (pts_one (pt_cmpR op_eq (pe_slice sl_str (pv 0) (po_some (pv 6)) (po_some (pe_op op_add (pv 6) pe_int))) pe_str (nomark _)))) (fun _ _ _ _ _ => (pv 6)))
      (pss_cons (ps_if (pt_cmpR (op_eqD hr.units) (pv 1) (pe_lst pa_nil) (nomark _))
        (pss_one (ps_ret pe_non))
        pss_nil)
      (pss_cons (ps_set (i := 2) sc__law_due.nd rfl (Or.inl rfl) (pe_split (pe_slice sl_str (pv 0) (po_some (pe_op op_add (pe_ix (r := rIxL K) ix_list (pv 1) (pe_un un_neg pe_int) (fun _ _ => rfl)) pe_int)) po_none) pe_str))
      (pss_cons (ps_if (pt_cmpR op_ne (pe_callB call_len_seq (by rfl) T.b_len PySem.boot_len (pa_cons (pv 2) pa_nil)) pe_int (nomark _))
        (pss_one (ps_ret pe_non))
        pss_nil)
      (pss_cons (ps_set (i := 3) sc__law_due.nd rfl (Or.inl rfl) (pe_cal C__law_recipe_in (hr.mono (by first | decide | omega)) pass0 (pa_cons (pe_slice sl_str (pv 0) po_none (po_some (pe_ix (r := rIxL K) ix_list (pv 1) (pe_un un_neg pe_int) (fun _ _ => rfl)))) pa_nil)))
      (pss_cons (ps_set (i := 4) sc__law_due.nd rfl (Or.inl rfl) (pe_cal C__law_reads_in (hr.mono (by first | decide | omega)) pass0 (pa_cons (pe_ix (r := rIxL K) ix_list (pv 2) pe_int (fun _ _ => rfl)) pa_nil)))
      (pss_cons (ps_set (i := 5) sc__law_due.nd rfl (Or.inl rfl) (pe_cal C__law_number (hr.mono (by first | decide | omega)) pass0 (pa_cons (pe_ix (r := rIxL K) ix_list (pv 2) pe_int (fun _ _ => rfl)) pa_nil)))
      (pss_cons (ps_if (PW.pt (pw_or (pt_cmpR op_isN (pv 3) pe_non (nomark _)) (pw_or (pt_cmpR op_isN (pv 4) pe_non (nomark _)) (pw_or (pt_cmpR op_isN (pv 5) pe_non (nomark _)) (pw_or1 (pt_cmpR (op_neD hr.units) (pe_cal C__law_behind (hr.mono (by first | decide | omega)) pass0 (pa_cons (pv 3) (pa_cons (pv 4) pa_nil))) (pe_tup (pa_cons pe_str (pa_cons (pv 5) pa_nil))) (nomark _)))))))
        (pss_one (ps_ret pe_non))
        pss_nil)
      (pss_one (ps_ret (pe_tup (pa_cons (pv 3) (pa_cons (pv 4) (pa_cons (pv 5) pa_nil)))))))))))))), ?_⟩
  refine ⟨_, rfl, _, rfl, hz, ?_⟩
  rw [SX.S_len]
  refine ⟨((z.length : Nat) : Int), rfl, by omega, by omega, fun M nM => lc_range (lo := 0) (n := ((z.length : Nat) : Int).toNat) (fun i G => Same H G ∧ G M = some (.lst (natsW ((List.range i).filter (isAt z))))) ⟨same_new nM _, upd_same⟩ ?_ ?_⟩
  · rintro i G hi ⟨hs, hM⟩
    have hwin : cutS (SX.S z) (some (0 + (i : Int))) (some (0 + (i : Int) + 2)) = SX.S ((z.drop i).take 2) := by
      rw [Int.zero_add]
      exact cutS_add z i 2
    refine ⟨rfl, _, rfl, _, rfl, _, rfl, _, rfl, _, _, rfl, rfl, _, rfl, SX.S z, rfl, hz, rfl, _, rfl, ?_⟩
    rw [hwin, q1, show decide (V.str (SX.S ((z.drop i).take 2)) = V.str (SX.S [32, 91])) = isAt z i from decide_eq_decide.mpr SS_eq]
    cases hia : isAt z i with
    | true =>
      have hl : ((List.range i).filter (isAt z)).length ≤ i := by have := List.length_filter_le (isAt z) (List.range i); rw [List.length_range] at this; exact this
      refine ⟨_, rfl, _, hM, lt_line (by rw [natsW_len]; omega), same_upd hs nM _, ?_⟩
      rw [upd_same, List.range_succ, List.filter_append, List.filter_cons_of_pos hia, List.filter_nil, natsW_app, Int.zero_add]
      rfl
    | false =>
      refine ⟨hs, ?_⟩
      rw [List.range_succ, List.filter_append, List.filter_cons_of_neg (by rw [hia]; exact Bool.false_ne_true), List.filter_nil, List.append_nil]
      exact hM
  rintro G ⟨sG, hM⟩
  have hM : G M = some (.lst (natsW (placesR z))) := by
    rw [show ((z.length : Nat) : Int).toNat = z.length from Int.toNat_natCast _] at hM
    exact hM
  refine ⟨_, rfl, le_line (Nat.le_of_ble_eq_true rfl), fun e ne => ?_⟩
  have se := same_new ne (.lst [])
  have sh := ints_lay ((placesR z).map fun n : Nat => (n : Int))
  refine ⟨_, _, .lst (SqL.of (se _ _ hM)) (ints_dp _ _ _), .lst (SqL.of upd_same) .nil, shaped_parts.mpr ⟨sh.1, by rw [sh.2]; decide⟩, rfl, _, rfl, ?_⟩
  rw [ints_empty]
  have sGe := sG.trans se
  cases hpl : (placesR z).getLast? with
  | none =>
    have e0 : placesR z = [] := List.getLast?_eq_none_iff.mp hpl
    rw [e0]
    exact iteT (qn (by unfold recOf; rw [hpl]) _ sGe)
  | some i =>
    have hne : ((placesR z).map fun n : Nat => (n : Int)).isEmpty = false := by
      cases hp : placesR z with
      | nil => rw [hp] at hpl; cases hpl
      | cons a b => rfl
    rw [hne]
    refine iteF ?_
    have hrec : recOf z = recAtT z i := by unfold recOf; rw [hpl]
    rw [hrec] at qn q
    have hM1 := se _ _ hM
    obtain ⟨H1, hH1⟩ : ∃ H1, H1 = upd G e (.lst []) := ⟨_, rfl⟩
    rw [← hH1] at hM1 sGe ⊢
    have hcut : cutS (SX.S z) (some ((i : Int) + 2)) none = SX.S (z.drop (i + 2)) := cutS_from5 z (i + 2)
    have hcut2 : cutS (SX.S z) none (some (i : Int)) = SX.S (z.take i) := cutS_to z i
    have htr := tame_drop5 ht (i + 2)
    have hta := tame_take ht i
    have hrl := tame_len htr
    refine ⟨_, rfl, _, rfl, _, rfl, M, _, _, .int (i : Int), rfl, rfl, SqL.of hM1, natsW_last hpl, _, _, rfl, rfl, _, rfl, SX.S z, rfl, hz, ⟨_, rfl⟩, _, _, congrArg V.str hcut, rfl, by decide +kernel, le_line (by rw [SX.S_len]; omega), fun p5 n5 => ?_⟩
    rw [q2, split_isP _ patE (by decide) (by decide)]
    cases epar : TL.par patE [] (z.drop (i + 2)) with
    | none =>
      have h1 : TL.spl patE 0 [] (z.drop (i + 2)) = [z.drop (i + 2)] := by rw [spl_par (by decide), epar]; rfl
      rw [h1]
      have s5 := same_new n5 (.lst (([z.drop (i + 2)].map SX.S).map V.str))
      refine ⟨_, rfl, p5, _, rfl, .inl (SqL.of upd_same), rfl, _, rfl, not_false_eq (decide_eq_false fun y => absurd (show (1 : Int) = 2 from V.int.inj y) (by decide)) ?_⟩
      exact qn (by unfold recAtT; rw [epar]) _ (sGe.trans s5)
    | some x =>
      obtain ⟨a, b⟩ := x
      have hs := par_split epar
      rw [List.nil_append] at hs
      obtain ⟨ta, tb⟩ := tame_part htr hs
      have hdef : recAtT z i = match rRead (.str (z.take i)), readsOf a, numOf b with | some r, some rd, some w => if trueR r rd w = true then some (r, rd, w) else none | _, _, _ => none := by unfold recAtT; rw [epar]; try rfl
      have h1 : TL.spl patE 0 [] (z.drop (i + 2)) = a :: TL.spl patE 0 [] b := by rw [spl_par (by decide), epar]
      rw [h1]
      cases e2 : TL.par patE [] b with
      | some y =>
        obtain ⟨b1, b2⟩ := y
        have hb := par_split e2
        have hnb : numOf b = none := by
          cases en : numOf b with
          | none => rfl
          | some n =>
            exfalso
            have hz2 := (num_back en).1
            have : 93 ∈ intL n := by rw [← hz2, show b = b1 ++ (patE ++ b2) from hb]; simp [patE]
            have := intL_chars n 93 this
            omega
        obtain ⟨rest, hrest⟩ : ∃ rest, rest = TL.spl patE 0 [] b2 := ⟨_, rfl⟩
        have hrl2 : rest ≠ [] := by
          rw [hrest, spl_par (by decide)]
          cases TL.par patE [] b2 with
          | none => exact fun h => by cases h
          | some p => exact fun h => by cases h
        have hsp : TL.spl patE 0 [] b = b1 :: rest := by rw [spl_par (by decide), e2, hrest]
        rw [hsp]
        have s5 := same_new n5 (.lst (((a :: b1 :: rest).map SX.S).map V.str))
        refine ⟨_, rfl, p5, _, rfl, .inl (SqL.of upd_same), rfl, _, rfl, not_false_eq (decide_eq_false fun y => ?_) ?_⟩
        · have := V.int.inj y
          rw [List.length_map, List.length_map, List.length_cons, List.length_cons] at this
          have h0 : rest.length ≠ 0 := fun h => hrl2 (List.eq_nil_of_length_eq_zero h)
          omega
        · exact qn (by rw [hdef, hnb]; cases rRead (.str (z.take i)) <;> cases readsOf a <;> rfl) _ (sGe.trans s5)
      | none =>
        have hsp : TL.spl patE 0 [] b = [b] := by rw [spl_par (by decide), e2]; rfl
        rw [hsp]
        have s5 := same_new n5 (.lst (([a, b].map SX.S).map V.str))
        have hp5 : upd H1 p5 (.lst (([a, b].map SX.S).map V.str)) p5 = some (.lst [.str (SX.S a), .str (SX.S b)]) := upd_same
        refine ⟨_, rfl, p5, _, rfl, .inl (SqL.of upd_same), rfl, _, rfl, not_true_eq (decide_eq_true rfl) ?_⟩
        obtain ⟨H2, hH2⟩ : ∃ H2, H2 = upd H1 p5 (.lst (([a, b].map SX.S).map V.str)) := ⟨_, rfl⟩
        rw [← hH2] at hp5 s5 ⊢
        have hM2 := s5 _ _ hM1
        have s02 := sGe.trans s5
        have bad : (rRead (.str (z.take i)) = none ∨ readsOf a = none ∨ numOf b = none) → ∀ G', Same H2 G' → Q .non G' := fun h G' s' => qn (by
          rw [hdef]
          rcases h with h | h | h
          · rw [h]
          · rw [h]; cases rRead (.str (z.take i)) <;> rfl
          · rw [h]; cases rRead (.str (z.take i)) <;> cases readsOf a <;> rfl) _ (s02.trans s')
        refine ⟨_, rfl, _, rfl, _, rfl, M, _, _, .int (i : Int), rfl, rfl, SqL.of hM2, natsW_last hpl, _, rfl, SX.S z, rfl, hz, z.take i, congrArg (fun x => [V.str x]) hcut2, hta, fun er G1 s1 => ?_, fun r er hG G1 v s1 hR => ?_⟩
        · refine ⟨_, rfl, p5, _, _, _, rfl, rfl, SqL.of (s1 _ _ hp5), rfl, a, rfl, ta, fun ea G2 s2 => ?_, fun rd ea G2 L xs s2 hL hP => ?_⟩
          all_goals
            refine ⟨_, rfl, p5, _, _, _, rfl, rfl, SqL.of (s2 _ _ (s1 _ _ hp5)), rfl, b, rfl, tb, fun eb G3 s3 => ?_, fun wt eb G3 s3 => ?_⟩
            all_goals
              refine ⟨_, rfl, rfl, _, rfl, iteY rfl ?_⟩
              exact bad (.inl er) _ (s1.trans (s2.trans s3))
        have hvn : ¬ v = .non := fun h => by
          cases r with
          | num _ => obtain ⟨p, e, _⟩ := hR; rw [h] at e; cases e
          | read _ => obtain ⟨p, e, _⟩ := hR; rw [h] at e; cases e
          | two _ _ _ => obtain ⟨p, _, _, e, _⟩ := hR; rw [h] at e; cases e
          | pick _ _ _ => obtain ⟨p, _, _, _, e, _⟩ := hR; rw [h] at e; cases e
          | choose _ _ => obtain ⟨p, _, _, e, _⟩ := hR; rw [h] at e; cases e
        refine ⟨_, rfl, p5, _, _, _, rfl, rfl, SqL.of (s1 _ _ hp5), rfl, a, rfl, ta, fun ea G2 s2 => ?_, fun rd ea G2 L xs s2 hL hP => ?_⟩
        · refine ⟨_, rfl, p5, _, _, _, rfl, rfl, SqL.of (s2 _ _ (s1 _ _ hp5)), rfl, b, rfl, tb, fun eb G3 s3 => ?_, fun wt eb G3 s3 => ?_⟩
          all_goals
            refine ⟨_, rfl, rfl, _, rfl, iteN hvn ?_⟩
            refine ⟨_, rfl, rfl, _, rfl, iteY rfl ?_⟩
            exact bad (.inr (.inl ea)) _ (s1.trans (s2.trans s3))
        refine ⟨_, rfl, p5, _, _, _, rfl, rfl, SqL.of (s2 _ _ (s1 _ _ hp5)), rfl, b, rfl, tb, fun eb G3 s3 => ?_, fun wt eb G3 s3 => ?_⟩
        · refine ⟨_, rfl, rfl, _, rfl, iteN hvn ?_⟩
          refine ⟨_, rfl, rfl, _, rfl, iteN (fun y => nomatch y) ?_⟩
          refine ⟨_, rfl, rfl, _, rfl, iteY rfl ?_⟩
          exact bad (.inr (.inr eb)) _ (s1.trans (s2.trans s3))
        refine ⟨_, rfl, rfl, _, rfl, iteN hvn ?_⟩
        refine ⟨_, rfl, rfl, _, rfl, iteN (fun y => nomatch y) ?_⟩
        refine ⟨_, rfl, rfl, _, rfl, iteN (fun y => nomatch y) ?_⟩
        obtain ⟨_, b2, b3⟩ := readsOf_back ea
        have hal : a.length ≤ 900000 := by
          have := congrArg List.length hs
          rw [List.length_append, List.length_drop] at this
          omega
        obtain ⟨_, _, hisr⟩ := rRead_rev er
        have hd8 := (rcp_is hG hisr).1
        have hfin : recAtT z i = if trueR r rd wt = true then some (r, rd, wt) else none := by rw [hdef, er, ea, eb]
        have hsm := small_of b2
        have hR3 := (hR.same s2).same s3
        have hL3 := s3 _ _ hL
        have hP3 := hP.same s3
        have s13 := s1.trans (s2.trans s3)
        refine ⟨_, rfl, _, rfl, v, L, r, rd, xs, rfl, hR3, good_nb hG, by omega, hL3, hP3, by omega, hsm, fun s0 u G4 eo s4 hu => ?_, fun x u G4 eo s4 hu => ?_, fun G4 eo s4 => ?_⟩
        · refine ⟨_, rfl, le_line (Nat.le_of_ble_eq_true rfl), fun u2 nu2 => ?_⟩
          have su2 := same_new nu2 (.tup [.str "worth", .int wt])
          refine ⟨_, _, (dp_read K (su2 _ _ hu) (out_nm (good_nb hG) eo)).1, (dp_worth K upd_same).1, (dp_read K (su2 _ _ hu) (out_nm (good_nb hG) eo)).2.1, sh_worth _, _, rfl, ?_⟩
          refine iteT ?_
          exact qn (by rw [hfin, if_neg (by unfold trueR; rw [eo, hisr]; exact Bool.false_ne_true)]) _ (s02.trans (s13.trans (s4.trans su2)))
        · refine ⟨_, rfl, le_line (Nat.le_of_ble_eq_true rfl), fun u2 nu2 => ?_⟩
          have su2 := same_new nu2 (.tup [.str "worth", .int wt])
          refine ⟨_, _, (dp_worth K (su2 _ _ hu)).1, (dp_worth K upd_same).1, (dp_worth K (su2 _ _ hu)).2.1, sh_worth _, _, rfl, ?_⟩
          have ebq : PyData.eqv (.tuple [.str "worth", .int x]) (.tuple [.str "worth", .int wt]) = trueR r rd wt := by
            unfold trueR
            rw [eo, hisr]
            show ((("worth" : Str) == "worth") && ((x == wt) && true)) = (true && decide (x = wt))
            rw [beq_self_eq_true, Bool.true_and, Bool.and_true, Bool.true_and]
            by_cases c : x = wt
            · rw [c, beq_self_eq_true, decide_eq_true rfl]
            · rw [beq_eq_false_iff_ne.mpr c, decide_eq_false c]
          rw [ebq]
          have sA := s02.trans (s13.trans (s4.trans su2))
          cases htr : trueR r rd wt with
          | false =>
            refine iteT ?_
            exact qn (by rw [hfin, if_neg (by rw [htr]; exact Bool.false_ne_true)]) _ sA
          | true =>
            refine iteF ?_
            refine ⟨_, rfl, _, rfl, _, rfl, le_line (Nat.le_of_ble_eq_true rfl), fun p np => ?_⟩
            have sp := same_new np (.tup [v, .ref L, .int wt])
            have s4p := s4.trans (su2.trans sp)
            exact q r rd wt (by rw [hfin, if_pos htr]) _ _ (sA.trans sp) ⟨p, L, v, xs, rfl, upd_same, s4p _ _ hL3, hR3.same s4p, hP3.same s4p⟩
        · refine ⟨_, rfl, le_line (Nat.le_of_ble_eq_true rfl), fun u2 nu2 => ?_⟩
          have su2 := same_new nu2 (.tup [.str "worth", .int wt])
          refine ⟨.none, _, .non, (dp_worth K upd_same).1, rfl, sh_worth _, _, rfl, ?_⟩
          refine iteT ?_
          exact qn (by rw [hfin, if_neg (by unfold trueR; rw [eo, hisr]; exact Bool.false_ne_true)]) _ (s02.trans (s13.trans (s4.trans su2)))
end
/-! ### what a text writes and what is told of it -/
def spRight : Sp := fun vs H Q _ => ∃ (v : V) (t : Th), vs = [v] ∧ Data H t v ∧ t.tame = true ∧ (∀ z, t = .str z → z.length ≤ 49000) ∧ ∀ H', Same H H' → Q (.bl true) H'
def recD (r : Rcp) (ps : List Pr) (wo : Int) : Th := .tup [r.th, .lst (ps.map pairTh), .int wo]
theorem RecAt.data {H : Hp} {r : Rcp} {rd : List Pr} {w : Int} {v : V} (h : RecAt H r rd w v) : Data H (recD r rd w) v := by
  obtain ⟨t, L, rv, xs, e, h1, h2, h3, h4⟩ := h
  exact ⟨t, _, e, h1, rv, _, rfl, h3.data, .ref L, _, rfl, ⟨L, xs, rfl, h2, h4.data⟩, _, _, rfl, rfl, rfl⟩
theorem recD_flat (r : Rcp) (ps : List Pr) (wo : Int) : (recD r ps wo).flat = true := by
  show (r.th.flat && (Th.flatL (ps.map pairTh) && true)) = true
  rw [Rcp.flat, prs_flat]
  rfl
theorem recD_lay {r : Rcp} {ps : List Pr} (wo : Int) (hg : r.Good) (hn : ∀ p ∈ ps, Nm p.1) : (recD r ps wo).py.canLay0 = true ∧ (recD r ps wo).py.depth ≤ max r.dep 2 + 1 := by
  obtain ⟨h1, h2⟩ := Rcp.lays hg
  obtain ⟨h3, h4⟩ := prs_lay hn
  refine ⟨?_, ?_⟩
  · show (r.th.py.canLay0 && (PyData.canLayAll0 (Th.pyL (ps.map pairTh)) && true)) = true
    rw [h1, h3]
    rfl
  · show max r.th.py.depth (max (PyData.depthAll (Th.pyL (ps.map pairTh)) + 1) (max 0 0)) + 1 ≤ max r.dep 2 + 1
    omega
theorem recD_shaped {r : Rcp} {ps : List Pr} (wo : Int) (hg : r.Good) (hd : r.dep ≤ 60) (hn : ∀ p ∈ ps, Nm p.1) : SeqAt.shaped (recD r ps wo).py = true := by
  obtain ⟨h1, h2⟩ := recD_lay wo hg hn
  show ((recD r ps wo).py.canLay0 && decide ((recD r ps wo).py.depth ≤ 64)) = true
  rw [h1, decide_eq_true (by omega)]
  rfl
theorem nums_good : ∀ {r : Rcp}, r.Good → ∀ n ∈ r.nums, isSh n = true
  | .num m, h, n, hn => by rw [List.mem_singleton.mp hn]; exact decide_eq_true h
  | .read _, _, n, hn => nomatch hn
  | .two _ a b, h, n, hn => by
    rcases List.mem_append.mp hn with k | k
    · exact nums_good h.1 n k
    · exact nums_good h.2 n k
  | .pick a b c, h, n, hn => by
    rcases List.mem_append.mp hn with k | k
    · exact nums_good h.1 n k
    · rcases List.mem_append.mp k with k | k
      · exact nums_good h.2.1 n k
      · exact nums_good h.2.2 n k
  | .choose a _, h, n, hn => nums_good h.1 n hn
theorem short_all {r : Rcp} {rd : List Pr} {w : Int} (hg : r.Good) (hr : ∀ p ∈ rd, Nm p.1 ∧ p.2.natAbs < 10 ^ 40) (hw : w.natAbs < 10 ^ 40) : shortR r rd w = true := by
  unfold shortR recNums
  rw [List.all_eq_true]
  intro n hn
  rcases List.mem_append.mp hn with k | k
  · rcases List.mem_append.mp k with k | k
    · exact nums_good hg n k
    · obtain ⟨p, hp, rfl⟩ := List.mem_map.mp k
      exact decide_eq_true (hr p hp).2
  · rw [List.mem_singleton.mp k]
    exact decide_eq_true hw
section
variable {P : Program} {w : World} {K : PySem.W.Frag} {mg : Str → Option Value} {base : Heap}
abbrev s__law_right : Stmt := topS 74
abbrev N__law_right : List Str := ["text", "due", "caught", "found", "e"]
theorem sc__law_right : FnScope N__law_right ["text"] (defScope s__law_right) := ⟨rfl, rfl, rfl, by decide +kernel, rfl, by decide +kernel, by decide +kernel⟩

theorem ok__law_right5 {C CM c0 c1 c2 c3 c4 c5 c6 : Addr} (T : Txt K mg) (R7 : Kin7 K mg C CM c0 c1 c2 c3 c4 c5 c6 2) (D : IsDef K mg "_law_right" s__law_right ["text"]) (C_rr : Cal P w K mg base (L2.CX P w) 23 "read_record" ["text"] (spReadRec C)) (C_sr : Cal P w K mg base (L2.CX P w) 23 "show_record" ["record"] (spShowRec c1))
    (C_due : Cal P w K mg base CX0 22 "_law_due" ["text"] spLDue) (C_lk : Cal P w K mg base CX0 1 "_law_kinds" ["caught", "due"] (spKinds C 2)) : Cal P w K mg base CX0 24 "_law_right" ["text"] spRight := by
  have C_read_record := C_rr
  have C_show_record := C_sr
  have C__law_due := C_due.mono (show 22 ≤ 23 by omega)
  have C__law_kinds := C_lk.mono (show 1 ≤ 23 by omega)
  have GMadeError := R7.gM
  refine D.cal sc__law_right (fun vs H Q E h => ?_) (fun f cdv A outer s H vs Q E hr h => ?_)
  · obtain ⟨v, t, rfl, _⟩ := h
    rfl
  obtain ⟨v, t, rfl, hd, ht, hl9, q⟩ := h
  refine ⟨_, (pss_cons (ps_set (i := 1) sc__law_right.nd rfl (Or.inl rfl) pe_non)
      (pss_cons (ps_if (pt_val (pe_callB call_isi (by rfl) T.b_isinstance (by decide +kernel) (pa_cons (pv 0) (pa_cons (pe_bltn (v := .ty "str") (by rfl) T.b_str (by decide +kernel) rfl) pa_nil))))
        (pss_one (ps_set (i := 1) sc__law_right.nd rfl (Or.inl rfl) (pe_cal C__law_due (hr.mono (by first | decide | omega)) pass0 (pa_cons (pv 0) pa_nil))))
        pss_nil)
      (pss_cons (ps_set (i := 2) sc__law_right.nd rfl (Or.inl rfl) pe_non)
      (pss_cons (ps_set (i := 3) sc__law_right.nd rfl (Or.inl rfl) pe_non)
      (pss_cons (ps_try_keep (i := 4) rfl rfl sc__law_right.nd rfl rfl ⟨rfl, by decide, .inl GMadeError⟩ takes0 (fun W pn xe tk _ => (pss_one (ps_set (i := 3) sc__law_right.nd rfl (Or.inl rfl) (pe_calS C_read_record (hr.mono (by first | decide | omega)) (fun σ => passAt tk σ) (pa_cons (pv 0) pa_nil)))))
        (fun a cls d pn => (pss_one (ps_set (i := 2) sc__law_right.nd rfl (Or.inl rfl) (pv 4)))))
      (pss_cons (ps_if (pt_cmpR op_isN (pv 1) pe_non (nomark _))
        (pss_one (ps_ret (pe_cal C__law_kinds (hr.mono (by first | decide | omega)) pass0 (pa_cons (pv 2) (pa_cons pe_int pa_nil)))))
        pss_nil)
      (pss_one (ps_ret (pe_and (pe_cmpR op_isN (pv 2) pe_non (nomark _)) (pe_and (pe_cmpR (op_eqD hr.units) (pv 3) (pv 1) (nomark _)) (pe_one (pe_cmpR op_eq (pe_cal C_show_record (hr.mono (by first | decide | omega)) passL (pa_cons (pv 3) pa_nil)) (pv 0) (nomark _))))))))))))), ?_⟩
  refine ⟨_, rfl, _, _, _, _, _, rfl, .ty _, hd.ty, kit_str t, _, rfl, ?_⟩
  rcases str_or t with hns | ⟨z, rfl⟩
  · rw [hns]
    refine iteF ?_
    refine ⟨_, rfl, v, t, rfl, hd, ht, fun z e => (by rw [e] at hns; cases hns), fun _ H1 s1 => ?_, fun r rd w e => (by rw [recTh_no hns] at e; cases e)⟩
    refine ⟨true, R7.exm, fun _ a na => ?_, fun z => nomatch z⟩
    refine ⟨_, rfl, _, rfl, rfl, _, rfl, iteY rfl ?_⟩
    exact ⟨_, rfl, a, rfl, upd_same, fun H2 s2 => q _ (s1.trans ((same_new na _).trans s2))⟩
  have ev : v = .str (SX.S z) := hd
  subst ev
  replace hl9 := hl9 z rfl
  have ht : tameS z = true := ht
  refine iteT ?_
  refine ⟨_, rfl, z, rfl, ht, by omega, fun en H1 s1 => ?_, fun r rd wt er H1 v1 s1 h1 => ?_⟩
  · refine ⟨_, rfl, .str (SX.S z), .str z, rfl, rfl, ht, fun y e => (by cases e; omega), fun _ H2 s2 => ?_, fun r rd w e => (by rw [show recTh (.str z) = none from en] at e; cases e)⟩
    refine ⟨true, R7.exm, fun _ a na => ?_, fun z => nomatch z⟩
    refine ⟨_, rfl, _, rfl, rfl, _, rfl, iteY rfl ?_⟩
    exact ⟨_, rfl, a, rfl, upd_same, fun H3 s3 => q _ (s1.trans (s2.trans ((same_new na _).trans s3)))⟩
  obtain ⟨b1, b2, b3, b4, b5, b6⟩ := rec_back er
  have hisr : r.th.isRcp = true := by
    unfold trueR at b3
    rw [Bool.and_eq_true] at b3
    exact b3.1
  obtain ⟨hd8, hz1⟩ := rcp_is b2 hisr
  refine ⟨_, rfl, .str (SX.S z), .str z, rfl, rfl, ht, fun y e => (by cases e; omega), fun e => (by rw [show recTh (.str z) = some (r, rd, wt) from er] at e; cases e), fun r2 rd2 w2 e2 H2 v2 s2 h2 => ?_⟩
  have e3 := (show recTh (.str z) = some (r, rd, wt) from er).symm.trans e2
  cases e3
  have h12 := h1.same s2
  have hvn : ¬ v1 = .non := fun h => by
    obtain ⟨p, _, _, _, e, _⟩ := h1
    rw [h] at e
    cases e
  refine ⟨_, rfl, rfl, _, rfl, iteN hvn ?_⟩
  have hn : ∀ p ∈ rd, Nm p.1 := fun p hp => (b4 p hp).1
  have hsh := recD_shaped wt b2 (show r.dep ≤ 60 by omega) hn
  refine ⟨_, rfl, rfl, _, rfl, iteY rfl ?_⟩
  refine ⟨_, rfl, _, rfl, _, _, Data.dp (recD_flat _ _ _) h2.data, Data.dp (recD_flat _ _ _) h12.data, hsh, hsh, _, rfl, ?_⟩
  rw [SeqAt.eqv_refl _ (recD_lay wt b2 hn).1]
  refine iteT ?_
  have hcap : (10 : Nat) ^ 40 ≤ 2 ^ 1900 := Nat.le_trans (by decide +kernel : (10 : Nat) ^ 40 ≤ 2 ^ 400) (Nat.pow_le_pow_right (by decide) (by decide))
  have hok : (trueR r rd wt && shortR r rd wt) = true := by rw [b3, short_all b2 b4 b5]; rfl
  refine ⟨_, rfl, v2, r, rd, wt, rfl, h2, Rcp.tame b2, good_nb b2, by omega, by omega, small_of b4, by omega, Nat.lt_of_lt_of_le b5 hcap, fun _ H3 s3 => ?_, fun e => (by rw [hok] at e; cases e)⟩
  refine ⟨_, rfl, ?_⟩
  rw [← b1]
  refine ⟨rfl, ?_⟩
  rw [show decide (V.str (SX.S z) = V.str (SX.S z)) = true from decide_eq_true rfl]
  exact q _ (s1.trans (s2.trans s3))
end
end Mad
/-! ### tuples, lists made: what is told is a heap that keeps all -/
namespace L2
open PySem PySem.Spec PyProof.Rows
/-! one step of a walk, with the slots told anew -/
theorem in_name {i : Nat} {v : V} {σ σ' : St} {H : Hp} {Q : St → Hp → Prop} (e : σ.set i (some v) = σ') (h : Q σ' H) : gName i v σ H Q := by
  subst e
  exact h
theorem in_nx {nx bk ct : St → Hp → Prop} {rt : VK} {σ : St} {H : Hp} (h : nx σ H) : Ends.nx (Ends.mk nx rt bk ct) σ H := h
theorem in_seq {t u : TS} {D : Ends} {σ : St} {H : Hp} (h : t { D with nx := u D } σ H) : tSeq t u D σ H := h
theorem in_asg {te : TE} {g : TG} {D : Ends} {σ : St} {H : Hp} (h : te σ H fun x H1 => g x σ H1 D.nx) : tAsg te g D σ H := h
def SameU (A B : Hp) : Prop := ∀ b u, A b = some u → B b = some u
def tTupA (t : TA) : TE := fun σ H Q => t σ H fun xs H1 => xs.length ≤ sizeLine ∧ ∀ p H2, H1 p = none → SameU H1 H2 → H2 p = some (.tup xs) → Q (.ref p) H2
def tLstA (t : TA) : TE := fun σ H Q => t σ H fun xs H1 => xs.length ≤ sizeLine ∧ ∀ p H2, H1 p = none → SameU H1 H2 → H2 p = some (.lst xs) → Q (.ref p) H2
theorem sameU_new {H : Hp} {p : Addr} (h : H p = none) (o : HO) : SameU H (upd H p o) := fun b u q => by rw [upd_ne (ne_of_none q h)]; exact q
section
variable {X : Cx} {es : List Expr} {t : TA} {pos : Pos}
theorem pe_tupA {x1} (h : PA X es t) : PE X (.Tuple es x1 pos) (tTupA t) := by
  refine ⟨fun pins s σ H Q I hq => ?_⟩
  refine wpAny_Tuple_spliced (thn (h.run pos pins s σ H _ I hq) fun us s1 ⟨xs, H1, I1, r, z, q⟩ => ⟨by rw [← r.length]; exact z, ?_⟩)
  have hf : H1 s1.heap.objs.size = none := I1.hok.fresh (Nat.le_refl _)
  refine ⟨.ref s1.heap.objs.size, upd H1 s1.heap.objs.size (.tup xs), I1.laid (t' := s1.toks) (fun b u e => Heap.get?_push_of_some _ e) (Nat.le_refl _) ?_, rfl, q _ _ hf (sameU_new hf _) upd_same⟩
  exact ⟨z, us, r, ⟨_, Heap.get?_push_size _ rfl, rfl, _, rfl⟩⟩
theorem pe_lstA (h : PA X es t) : PE X (.List es pos) (tLstA t) := by
  refine ⟨fun pins s σ H Q I hq => ?_⟩
  refine wpAny_List_spliced (thn (h.run pos pins s σ H _ I hq) fun us s1 ⟨xs, H1, I1, r, z, q⟩ => ⟨by rw [← r.length]; exact z, ?_⟩)
  have hf : H1 s1.heap.objs.size = none := I1.hok.fresh (Nat.le_refl _)
  refine ⟨.ref s1.heap.objs.size, upd H1 s1.heap.objs.size (.lst xs), I1.laid (t' := s1.toks) (fun b u e => Heap.get?_push_of_some _ e) (Nat.le_refl _) ?_, rfl, q _ _ hf (sameU_new hf _) upd_same⟩
  exact ⟨z, us, 0, r, Heap.get?_push_size _ rfl⟩
def rCatU : R2 := fun x y H Q => ∃ l b xs zs, x = .ref l ∧ y = .ref b ∧ H l = some (.lst xs) ∧ H b = some (.lst zs) ∧ xs.length + zs.length ≤ sizeLine ∧ ∀ p H2, H p = none → SameU H H2 → H2 p = some (.lst (xs ++ zs)) → Q (.ref p) H2
theorem op_catU : OpR X (binaryOp .Add) rCatU := by
  intro pins s σ H x y v u Q I rx ry h
  obtain ⟨l, b, xs, zs, e1, e2, h1, h2, h3, q⟩ := h
  exact op_cat pins s σ H x y v u Q I rx ry ⟨l, b, xs, zs, e1, e2, h1, h2, h3, fun p np => q p _ np (sameU_new np _) upd_same⟩
end
end L2
namespace Mad
open PySem PySem.Spec PyProof.Rows L2
/-! ### great records -/
theorem ap_le {k : Kd} {x y : Int} {M : Nat} (hk : k ≠ .times) (hx : x.natAbs ≤ M) (hy : y.natAbs ≤ M) : (k.ap x y).natAbs ≤ 2 * M := by
  cases k with
  | plus => show (x + y).natAbs ≤ _; omega
  | minus => show (x - y).natAbs ≤ _; omega
  | times => exact absurd rfl hk
  | most => show (if y > x then y else x).natAbs ≤ _; split <;> omega
theorem look_small {rd : List Pr} {n m : Nat} {s : List Nat} {x : Int} (hs : Small rd) (h : lookG rd n s = .ok x m) : x.natAbs < 2 ^ 400 := by
  unfold lookG at h
  cases e : seen (rd.take n) s with
  | some v =>
    rw [e] at h
    cases h
    unfold seen at e
    rw [Option.map_eq_some_iff] at e
    obtain ⟨p, hp, rfl⟩ := e
    exact (hs p (List.mem_of_mem_take (List.mem_of_find?_eq_some hp))).2
  | none =>
    rw [e] at h
    have h' : (match rd[n]? with | none => Res.lack s | some p => if p.1 = s then .ok p.2 (n + 1) else .bad) = .ok x m := h
    cases e2 : rd[n]? with
    | none => rw [e2] at h'; cases h'
    | some p =>
      rw [e2] at h'
      have h2 : (if p.1 = s then Res.ok p.2 (n + 1) else .bad) = .ok x m := h'
      by_cases c : p.1 = s
      · rw [if_pos c] at h2
        cases h2
        exact (hs p (List.mem_of_getElem? e2)).2
      · rw [if_neg c] at h2; cases h2
theorem leaf_small {rd : List Pr} (hs : Small rd) : ∀ {r : Rcp} {n m : Nat} {x : Int}, r.dep ≤ 1 → r.Nb → go rd r n = .ok x m → x.natAbs < 2 ^ 400
  | .num v, n, m, x, _, hb, h => by cases h; exact hb
  | .read s, n, m, x, _, _, h => look_small hs h
  | .two _ a b, _, _, _, hd, _, _ => by have := dep_pos a; have h' : max a.dep b.dep + 1 ≤ 1 := hd; omega
  | .pick a b c, _, _, _, hd, _, _ => by have := dep_pos a; have h' : max a.dep (max b.dep c.dep) + 1 ≤ 1 := hd; omega
  | .choose a _, _, _, _, hd, _, _ => by have := dep_pos a; have h' : a.dep + 1 ≤ 1 := hd; omega
theorem goT_small {rd : List Pr} (hs : Small rd) : ∀ {r : Rcp} {n m : Nat} {x : Int}, r.Nb → r.Tm → go rd r n = .ok x m → x.natAbs ≤ 2 ^ (800 + r.dep)
  | .num v, n, m, x, hb, _, h => by
    cases h
    exact Nat.le_trans (Nat.le_of_lt hb) (Nat.pow_le_pow_right (by decide) (by omega))
  | .read s, n, m, x, _, _, h => Nat.le_trans (Nat.le_of_lt (look_small hs h)) (Nat.pow_le_pow_right (by decide) (by omega))
  | .two k a b, n, m, x, hb, ht, h => by
    obtain ⟨y, l, h1, h2⟩ := bind_ok h
    obtain ⟨z, l2, h3, h4⟩ := bind_ok h2
    cases h4
    show _ ≤ 2 ^ (800 + (max a.dep b.dep + 1))
    by_cases c : k = .times
    · subst c
      have k1 := leaf_small hs (ht.2.2 rfl).1 hb.1 h1
      have k2 := leaf_small hs (ht.2.2 rfl).2 hb.2 h3
      show (y * z).natAbs ≤ _
      rw [Int.natAbs_mul]
      refine Nat.le_trans (Nat.mul_le_mul (Nat.le_of_lt k1) (Nat.le_of_lt k2)) ?_
      rw [← Nat.pow_add]
      exact Nat.pow_le_pow_right (by decide) (by omega)
    · have k1 := Nat.le_trans (goT_small hs hb.1 ht.1 h1) (Nat.pow_le_pow_right (by decide) (show 800 + a.dep ≤ 800 + max a.dep b.dep by omega))
      have k2 := Nat.le_trans (goT_small hs hb.2 ht.2.1 h3) (Nat.pow_le_pow_right (by decide) (show 800 + b.dep ≤ 800 + max a.dep b.dep by omega))
      have k3 := ap_le c k1 k2
      rw [show 800 + (max a.dep b.dep + 1) = (800 + max a.dep b.dep) + 1 from rfl, Nat.pow_succ]
      omega
  | .pick a b c, n, m, x, hb, ht, h => by
    obtain ⟨y, l, h1, h2⟩ := bind_ok h
    have h3 : (if y > 0 then go rd b l else go rd c l) = .ok x m := h2
    show _ ≤ 2 ^ (800 + (max a.dep (max b.dep c.dep) + 1))
    by_cases cc : y > 0
    · rw [if_pos cc] at h3
      exact Nat.le_trans (goT_small hs hb.2.1 ht.2.1 h3) (Nat.pow_le_pow_right (by decide) (by omega))
    · rw [if_neg cc] at h3
      exact Nat.le_trans (goT_small hs hb.2.2 ht.2.2 h3) (Nat.pow_le_pow_right (by decide) (by omega))
  | .choose a ns, n, m, x, hb, ht, h => by
    obtain ⟨y, l, h1, h2⟩ := bind_ok h
    exact Nat.le_trans (Nat.le_of_lt (look_small hs h2)) (Nat.pow_le_pow_right (by decide) (by omega))
theorem out_small {rd : List Pr} {r : Rcp} {x : Int} (hs : Small rd) (hb : r.Nb) (ht : r.Tm) (h9 : r.dep ≤ 99) (h : outOf rd r = .worth x) : x.natAbs < 2 ^ 1000 := by
  unfold outOf at h
  cases e : go rd r 0 with
  | lack s => rw [e] at h; cases h
  | bad => rw [e] at h; cases h
  | ok v n =>
    rw [e] at h
    have h' : (if n < rd.length then Out.none else .worth v) = .worth x := h
    by_cases c : n < rd.length
    · rw [if_pos c] at h'; cases h'
    · rw [if_neg c] at h'
      cases h'
      exact Nat.lt_of_le_of_lt (goT_small hs hb ht e) (Nat.pow_lt_pow_right (by decide) (by omega))
/-- a record that the law writes -/
structure Wr (r : Rcp) (rd : List Pr) (w : Int) : Prop where
  nb : r.Nb
  dep : r.dep ≤ 12
  siz : r.siz ≤ 100
  sm : Small rd
  len : rd.length ≤ 90
  wo : w.natAbs < 2 ^ 1000
def spWrapped : Sp := fun vs H Q _ => ∃ (p : Addr) (v : V) (r m c : Int) (x : Rcp) (own : List Nat), vs = [.ref p, v, .str (SX.S own)] ∧ H p = some (.lst (pl r m c)) ∧ Rec H x v ∧ x.Nb ∧ x.dep ≤ 2 ∧ x.siz ≤ 4 ∧ Nm own ∧ 0 ≤ c ∧ c ≤ 900000 ∧
  ∀ (H' : Hp) (v' : V) (y : Rcp) (r' c' : Int), Fr1 p H H' → Rec H' y v' → y.Nb → y.dep ≤ 8 → y.siz ≤ 40 → H' p = some (.lst (pl r' m c')) → 0 ≤ c' → c' ≤ c + 100 → Q v' H'
theorem kind4 {n : Int} (h0 : 0 ≤ n) (h : n < 4) : ∃ k : Kd, atI ([.str "plus", .str "minus", .str "times", .str "most"] : List V) n = some (.str k.name) := by
  have e : n = 0 ∨ n = 1 ∨ n = 2 ∨ n = 3 := by omega
  rcases e with e | e | e | e <;> subst e
  · exact ⟨.plus, rfl⟩
  · exact ⟨.minus, rfl⟩
  · exact ⟨.times, rfl⟩
  · exact ⟨.most, rfl⟩
section
variable {P : Program} {w : World} {K : PySem.W.Frag} {mg : Str → Option Value} {base : Heap}
abbrev s__law_wrapped : Stmt := topS 70
abbrev N__law_wrapped : List Str := ["pool", "great", "own", "turn", "leaf", "word", "rows"]
theorem sc__law_wrapped : FnScope N__law_wrapped ["pool", "great", "own"] (defScope s__law_wrapped) := ⟨rfl, rfl, rfl, by decide +kernel, rfl, by decide +kernel, by decide +kernel⟩

theorem ok__law_wrapped (T : Txt K mg) (D : IsDef K mg "_law_wrapped" s__law_wrapped ["pool", "great", "own"]) (C__law_take : Cal P w K mg base CX0 1 "_law_take" ["pool", "many"] spTakeL) : Cal P w K mg base CX0 2 "_law_wrapped" ["pool", "great", "own"] spWrapped := by
  refine D.cal sc__law_wrapped (fun vs H Q E h => ?_) (fun f cdv A outer s H vs Q E hr h => ?_)
  · obtain ⟨p, v, r, m, c, x, own, rfl, _⟩ := h
    rfl
  obtain ⟨p, v, r, m, c, x, own, rfl, hp, hv, hb, hd, hz, ho, c0, c1, q⟩ := h
  refine ⟨_, (pss_cons (ps_for PassesOwn.never rfl (pi_range1 rfl T.b_range (pa_cons (pe_cal C__law_take (hr.mono (by first | decide | omega)) pass0 (pa_cons (pv 0) (pa_cons pe_int pa_nil))) pa_nil)) (pg_name (i := 3) sc__law_wrapped.nd rfl (Or.inl rfl))
        (pss_cons (ps_set (i := 4) sc__law_wrapped.nd rfl (Or.inl rfl) (pe_ix (r := rIxL K) ix_list (pe_lstA (pa_cons (pe_tupA (pa_cons pe_str (pa_cons pe_int pa_nil))) (pa_cons (pe_tupA (pa_cons pe_str (pa_cons (pv 2) pa_nil))) pa_nil))) (pe_cal C__law_take (hr.mono (by first | decide | omega)) pass0 (pa_cons (pv 0) (pa_cons pe_int pa_nil))) (fun _ _ => rfl)))
      (pss_cons (ps_set (i := 5) sc__law_wrapped.nd rfl (Or.inl rfl) (pe_ix (r := rIxL K) ix_list (pe_lstA (pa_cons pe_str (pa_cons pe_str (pa_cons pe_str (pa_cons pe_str pa_nil))))) (pe_cal C__law_take (hr.mono (by first | decide | omega)) pass0 (pa_cons (pv 0) (pa_cons pe_int pa_nil))) (fun _ _ => rfl)))
      (pss_cons (ps_set (i := 6) sc__law_wrapped.nd rfl (Or.inl rfl) (pe_lstA (pa_cons (pe_tupA (pa_cons (pv 5) (pa_cons (pv 1) (pa_cons (pv 4) pa_nil)))) (pa_cons (pe_tupA (pa_cons (pv 5) (pa_cons (pv 4) (pa_cons (pv 1) pa_nil)))) (pa_cons (pe_tupA (pa_cons pe_str (pa_cons (pv 1) (pa_cons (pv 4) (pa_cons (pv 4) pa_nil))))) pa_nil)))))
      (pss_cons (ps_set (i := 6) sc__law_wrapped.nd rfl (Or.inl rfl) (pe_op op_catU (pv 6) (pe_lstA (pa_cons (pe_tupA (pa_cons pe_str (pa_cons (pv 4) (pa_cons (pv 1) (pa_cons (pv 4) pa_nil))))) (pa_cons (pe_tupA (pa_cons pe_str (pa_cons (pv 4) (pa_cons (pv 4) (pa_cons (pv 1) pa_nil))))) (pa_cons (pe_tupA (pa_cons pe_str (pa_cons (pv 1) (pa_cons (pe_tupA (pa_cons (pv 2) pa_nil)) pa_nil)))) pa_nil))))))
      (pss_one (ps_set (i := 1) sc__law_wrapped.nd rfl (Or.inl rfl) (pe_ix (r := rIxL K) ix_list (pv 6) (pe_cal C__law_take (hr.mono (by first | decide | omega)) pass0 (pa_cons (pv 0) (pa_cons pe_int pa_nil))) (fun _ _ => rfl)))))))))
      (pss_one (ps_ret (pe_tupA (pa_cons pe_str (pa_cons (pe_tupA (pa_cons pe_str (pa_cons pe_int pa_nil))) (pa_cons (pv 1) (pa_cons (pe_tupA (pa_cons pe_str (pa_cons pe_int pa_nil))) pa_nil)))))))), ?_⟩
  refine ⟨_, rfl, p, r, m, c, 5, rfl, hp, by decide, small400 (by decide) (by decide), c0, by omega, fun H1 t r1 c1' k1 p1 d0 d1 t0 t1 => ?_⟩
  have f1 : Fr1 p H H1 := fun b u n e => by rw [k1 b n]; exact e
  refine ⟨t, rfl, by omega, by omega, for_range (lo := 0) (n := t.toNat) (fun i σ H' => ∃ (v : V) (x : Rcp) (v3 v4 v5 v6 : Option V) (r' c' : Int), σ = [some (.ref p), some v, some (.str (SX.S own)), v3, v4, v5, v6] ∧ Fr1 p H1 H' ∧ Rec H' x v ∧ x.Nb ∧ x.dep ≤ 2 + i ∧ x.siz ≤ 4 + 3 * i ∧ H' p = some (.lst (pl r' m c')) ∧ 0 ≤ c' ∧ c' ≤ c1' + 10 * i) ⟨v, x, none, none, none, none, r1, c1', rfl, Fr1.refl p H1, hv.keep (Fr1.keep hp f1), hb, by omega, by omega, p1, d0, by omega⟩ ?_ ?_⟩
  · rintro i σ H2 hi ⟨v, x, v3, v4, v5, v6, r2, c2, rfl, f2, hv, hb, hd, hz, p2, e0, e1⟩
    refine ⟨le_line (Nat.le_of_ble_eq_true rfl), fun a1 Ha na1 sa1 ha1 => ?_⟩
    refine ⟨_, rfl, le_line (Nat.le_of_ble_eq_true rfl), fun a2 Hb na2 sa2 ha2 => ?_⟩
    refine ⟨le_line (Nat.le_of_ble_eq_true rfl), fun L Hc nL sL hL => ?_⟩
    have pc := sL _ _ (sa2 _ _ (sa1 _ _ p2))
    have r1c : Rec Hc (.num 3) (.ref a1) := ⟨a1, rfl, sL _ _ (sa2 _ _ ha1)⟩
    have r2c : Rec Hc (.read own) (.ref a2) := ⟨a2, rfl, sL _ _ ha2⟩
    have hvc := hv.keep (same_keep (Same.trans sa1 (Same.trans sa2 sL)))
    have f2c := f2.trans (Fr1.of (Same.trans sa1 (Same.trans sa2 sL)))
    have npL : p ≠ L := ne_of_none (sa2 _ _ (sa1 _ _ p2)) nL
    refine ⟨_, rfl, p, r2, m, c2, 2, rfl, pc, by decide, small400 (by decide) (by decide), e0, by omega, fun H3 u r3 c3 k3 p3 g0 g1 u0 u1 => ?_⟩
    have hL3 := (k3 L npL.symm).trans hL
    have f3 : Fr1 p Hc H3 := fun b u n e => by rw [k3 b n]; exact e
    have kp3 := Fr1.keep pc f3
    obtain ⟨x2, hx2, hat⟩ := one_of (xs := ([.ref a1, .ref a2] : List V)) u0 u1
    obtain ⟨lf, hlf, hlb, hld, hls⟩ : ∃ lf : Rcp, Rec H3 lf x2 ∧ lf.Nb ∧ lf.dep ≤ 1 ∧ lf.siz ≤ 1 := by
      simp only [List.mem_cons, List.not_mem_nil, or_false] at hx2
      rcases hx2 with h | h
      · rw [h]; exact ⟨_, r1c.keep kp3, (show (3 : Int).natAbs < 2 ^ 400 from small400 (by decide) (by decide)), Nat.le_refl _, Nat.le_refl _⟩
      · rw [h]; exact ⟨_, r2c.keep kp3, ho, Nat.le_refl _, Nat.le_refl _⟩
    have hv3 := hvc.keep kp3
    have f23 := f2c.trans f3
    refine ⟨L, _, u, _, rfl, rfl, SqL.of hL3, hat, ?_⟩
    refine ⟨le_line (Nat.le_of_ble_eq_true rfl), fun L2 Hd nL2 sL2 hL2 => ?_⟩
    have pd := sL2 _ _ p3
    have npL2 : p ≠ L2 := ne_of_none p3 nL2
    refine ⟨_, rfl, p, r3, m, c3, 4, rfl, pd, by decide, small400 (by decide) (by decide), g0, by omega, fun H4 u4 r4 c4 k4 p4 i0 i1 u40 u41 => ?_⟩
    have hL4 := (k4 L2 npL2.symm).trans hL2
    have f34 : Fr1 p H3 H4 := fun b u n e => by rw [k4 b n]; exact sL2 _ _ e
    obtain ⟨kk, hkk⟩ := kind4 u40 u41
    have hv4 := hv3.keep (Fr1.keep p3 f34)
    have hlf4 := hlf.keep (Fr1.keep p3 f34)
    have f24 := f23.trans f34
    refine ⟨L2, _, u4, _, rfl, rfl, SqL.of hL4, hkk, ?_⟩
    refine ⟨_, rfl, _, rfl, _, rfl, le_line (Nat.le_of_ble_eq_true rfl), fun b1 G1 nb1 sb1 hb1 => ?_⟩
    refine ⟨_, rfl, _, rfl, _, rfl, le_line (Nat.le_of_ble_eq_true rfl), fun b2 G2 nb2 sb2 hb2 => ?_⟩
    refine ⟨_, rfl, _, rfl, _, rfl, le_line (Nat.le_of_ble_eq_true rfl), fun b3 G3 nb3 sb3 hb3 => ?_⟩
    refine ⟨le_line (Nat.le_of_ble_eq_true rfl), fun M1 G4 nM1 sM1 hM1 => ?_⟩
    refine ⟨_, rfl, _, rfl, _, rfl, _, rfl, le_line (Nat.le_of_ble_eq_true rfl), fun b4 G5 nb4 sb4 hb4 => ?_⟩
    refine ⟨_, rfl, _, rfl, _, rfl, le_line (Nat.le_of_ble_eq_true rfl), fun b5 G6 nb5 sb5 hb5 => ?_⟩
    refine ⟨_, rfl, _, rfl, le_line (Nat.le_of_ble_eq_true rfl), fun o1 G7 no1 so1 ho1 => ?_⟩
    refine ⟨le_line (Nat.le_of_ble_eq_true rfl), fun b6 G8 nb6 sb6 hb6 => ?_⟩
    refine ⟨le_line (Nat.le_of_ble_eq_true rfl), fun M2 G9 nM2 sM2 hM2 => ?_⟩
    have s49 : Same H4 G9 := Same.trans sb1 (Same.trans sb2 (Same.trans sb3 (Same.trans sM1 (Same.trans sb4 (Same.trans sb5 (Same.trans so1 (Same.trans sb6 sM2)))))))
    have hM19 := sM2 _ _ (sb6 _ _ (so1 _ _ (sb5 _ _ (sb4 _ _ hM1))))
    refine ⟨M1, M2, _, _, rfl, rfl, hM19, hM2, le_line (Nat.le_of_ble_eq_true rfl), fun M Gm nM sM hM => ?_⟩
    have s4m := Same.trans s49 sM
    have pm := s4m _ _ p4
    have npM : p ≠ M := ne_of_none (s49 _ _ p4) nM
    refine ⟨_, rfl, _, rfl, p, r4, m, c4, 6, rfl, pm, by decide, small400 (by decide) (by decide), i0, by omega, fun H5 u5 r5 c5 k5 p5 j0 j1 u50 u51 => ?_⟩
    have hM5 := (k5 M npM.symm).trans hM
    have f5 : Fr1 p Gm H5 := fun b u n e => by rw [k5 b n]; exact e
    have k45 : Keep H4 H5 := fun b ys e => (Fr1.keep pm f5) b ys (s4m _ _ e)
    have hv5 := hv4.keep k45
    have hl5 := hlf4.keep k45
    have kM := Fr1.keep pm f5
    obtain ⟨x5, hx5, hat5⟩ := one_of (xs := ([.ref b1, .ref b2, .ref b3] ++ [.ref b4, .ref b5, .ref b6] : List V)) u50 (by show u5 < 6; exact u51)
    have t1 := kM _ _ (sM _ _ (sM2 _ _ (sb6 _ _ (so1 _ _ (sb5 _ _ (sb4 _ _ (sM1 _ _ (sb3 _ _ (sb2 _ _ hb1)))))))))
    have t2 := kM _ _ (sM _ _ (sM2 _ _ (sb6 _ _ (so1 _ _ (sb5 _ _ (sb4 _ _ (sM1 _ _ (sb3 _ _ hb2))))))))
    have t3 := kM _ _ (sM _ _ (sM2 _ _ (sb6 _ _ (so1 _ _ (sb5 _ _ (sb4 _ _ (sM1 _ _ hb3)))))))
    have t4 := kM _ _ (sM _ _ (sM2 _ _ (sb6 _ _ (so1 _ _ (sb5 _ _ hb4)))))
    have t5 := kM _ _ (sM _ _ (sM2 _ _ (sb6 _ _ (so1 _ _ hb5))))
    have t6 := kM _ _ (sM _ _ (sM2 _ _ hb6))
    have to := kM _ _ (sM _ _ (sM2 _ _ (sb6 _ _ ho1)))
    have hdz := hd
    obtain ⟨y, hy, hyb, hyd, hyz⟩ : ∃ y : Rcp, Rec H5 y x5 ∧ y.Nb ∧ y.dep ≤ 2 + (i + 1) ∧ y.siz ≤ 4 + 3 * (i + 1) := by
      have dx := dep_pos x
      simp only [List.cons_append, List.nil_append, List.mem_cons, List.not_mem_nil, or_false] at hx5
      rcases hx5 with h | h | h | h | h | h
      · exact ⟨.two kk x lf, by rw [h]; exact ⟨b1, _, _, rfl, t1, hv5, hl5⟩, ⟨hb, hlb⟩, by show max x.dep lf.dep + 1 ≤ _; omega, by show x.siz + lf.siz + 1 ≤ _; omega⟩
      · exact ⟨.two kk lf x, by rw [h]; exact ⟨b2, _, _, rfl, t2, hl5, hv5⟩, ⟨hlb, hb⟩, by show max lf.dep x.dep + 1 ≤ _; omega, by show lf.siz + x.siz + 1 ≤ _; omega⟩
      · exact ⟨.pick x lf lf, by rw [h]; exact ⟨b3, _, _, _, rfl, t3, hv5, hl5, hl5⟩, ⟨hb, hlb, hlb⟩, by show max x.dep (max lf.dep lf.dep) + 1 ≤ _; omega, by show x.siz + lf.siz + lf.siz + 1 ≤ _; omega⟩
      · exact ⟨.pick lf x lf, by rw [h]; exact ⟨b4, _, _, _, rfl, t4, hl5, hv5, hl5⟩, ⟨hlb, hb, hlb⟩, by show max lf.dep (max x.dep lf.dep) + 1 ≤ _; omega, by show lf.siz + x.siz + lf.siz + 1 ≤ _; omega⟩
      · exact ⟨.pick lf lf x, by rw [h]; exact ⟨b5, _, _, _, rfl, t5, hl5, hl5, hv5⟩, ⟨hlb, hlb, hb⟩, by show max lf.dep (max lf.dep x.dep) + 1 ≤ _; omega, by show lf.siz + lf.siz + x.siz + 1 ≤ _; omega⟩
      · exact ⟨.choose x [own], by rw [h]; exact ⟨b6, _, o1, rfl, t6, hv5, to⟩, ⟨hb, (by show 1 ≤ 1; decide), (by show 1 ≤ 9; decide), fun s hs => by rw [List.mem_singleton.mp hs]; exact ho⟩, by show x.dep + 1 ≤ _; omega, by show x.siz + 1 ≤ _; omega⟩
    refine ⟨M, _, u5, _, rfl, rfl, SqL.of hM5, hat5, ?_⟩
    exact ⟨_, y, _, _, _, _, r5, c5, rfl, f24.trans ((Fr1.of s4m).trans f5), hy, hyb, hyd, hyz, p5, j0, by omega⟩
  · rintro σ H2 ⟨v, x, v3, v4, v5, v6, r2, c2, rfl, f2, hv, hb, hd, hz, p2, e0, e1⟩
    refine ⟨le_line (Nat.le_of_ble_eq_true rfl), fun a1 Ha na1 sa1 ha1 => ?_⟩
    refine ⟨_, rfl, le_line (Nat.le_of_ble_eq_true rfl), fun a2 Hb na2 sa2 ha2 => ?_⟩
    refine ⟨le_line (Nat.le_of_ble_eq_true rfl), fun t Hc nt st ht => ?_⟩
    have sA := Same.trans sa1 (Same.trans sa2 st)
    refine q _ (.ref t) (.pick (.num 0) x (.num 4)) r2 c2 (f1.trans (f2.trans (Fr1.of sA))) ⟨t, _, _, _, rfl, ht, ⟨a1, rfl, st _ _ (sa2 _ _ ha1)⟩, hv.keep (same_keep sA), ⟨a2, rfl, st _ _ ha2⟩⟩ ⟨(show (0 : Int).natAbs < 2 ^ 400 from small400 (by decide) (by decide)), hb, (show (4 : Int).natAbs < 2 ^ 400 from small400 (by decide) (by decide))⟩ ?_ ?_ (sA _ _ p2) e0 (by omega)
    · show max 1 (max x.dep 1) + 1 ≤ 8
      omega
    · show 1 + x.siz + 1 + 1 ≤ 40
      omega
end
/-! ### records of some reads -/
def spSeveral : Sp := fun vs H Q _ => ∃ (p : Addr) (num r m c : Int), vs = [.ref p, .int num] ∧ H p = some (.lst (pl r m c)) ∧ num.natAbs < 2 ^ 400 ∧ 0 ≤ c ∧ c ≤ 900000 ∧
  ∀ (H' : Hp) (v : V) (x : Rcp) (rd : List Pr) (wo r' c' : Int), Fr1 p H H' → RecAt H' x rd wo v → Wr x rd wo → H' p = some (.lst (pl r' m c')) → 0 ≤ c' → c' ≤ c + 100 → Q v H'
def five : List (List Nat) := [[97], [98], [99], [100], [101]]
theorem five_txs : ([.str "a", .str "b", .str "c", .str "d", .str "e"] : List V) = txs five := by
  have h : ∀ n : Nat, n < 128 → True := fun _ _ => trivial
  show ([.str "a", .str "b", .str "c", .str "d", .str "e"] : List V) = [.str (SX.S [97]), .str (SX.S [98]), .str (SX.S [99]), .str (SX.S [100]), .str (SX.S [101])]
  rw [show ("a" : Str) = SX.S [97] by decide +kernel, show ("b" : Str) = SX.S [98] by decide +kernel, show ("c" : Str) = SX.S [99] by decide +kernel, show ("d" : Str) = SX.S [100] by decide +kernel, show ("e" : Str) = SX.S [101] by decide +kernel]
theorem five_nm : ∀ s ∈ five, Nm s := by
  intro s hs
  simp only [five, List.mem_cons, List.not_mem_nil, or_false] at hs
  rcases hs with h | h | h | h | h <;> rw [h] <;> exact ⟨by decide, by decide, by decide⟩
theorem five_take : ∀ n : Nat, n < 4 → cutV (txs five) none (some ((2 : Int) + (n : Int))) = txs (five.take (2 + n))
  | 0, _ => rfl
  | 1, _ => rfl
  | 2, _ => rfl
  | 3, _ => rfl
  | n + 4, h => absurd h (by omega)
section
variable {P : Program} {w : World} {K : PySem.W.Frag} {mg : Str → Option Value} {base : Heap}
abbrev s__law_several : Stmt := topS 71
abbrev N__law_several : List Str := ["pool", "number", "names", "numbers", "r", "name", "reads", "worth"]
theorem sc__law_several : FnScope N__law_several ["pool", "number"] (defScope s__law_several) := ⟨rfl, rfl, rfl, by decide +kernel, rfl, by decide +kernel, by decide +kernel⟩

theorem ok__law_several (T : Txt K mg) (D : IsDef K mg "_law_several" s__law_several ["pool", "number"]) (C_take : Cal P w K mg base CX0 1 "_law_take" ["pool", "many"] spTakeL) (C_all : Cal P w K mg base CX0 12 "_law_all_reads" ["r", "numbers"] spLAll) : Cal P w K mg base CX0 13 "_law_several" ["pool", "number"] spSeveral := by
  have C__law_take := C_take.mono (show 1 ≤ 12 by omega)
  have C__law_all_reads := C_all
  refine D.cal sc__law_several (fun vs H Q E h => ?_) (fun f cdv A outer s H vs Q E hr h => ?_)
  · obtain ⟨p, num, r, m, c, rfl, _⟩ := h
    rfl
  obtain ⟨p, num, r, m, c, rfl, hp, hnum, c0, c1, q⟩ := h
  have hu : (cxOf CX0 P w K mg base N__law_several "_law_several" (defScope s__law_several) f cdv A outer s H E).nox.A.units + 1 < cLine := Nat.lt_of_le_of_lt (Nat.add_le_add_left (by decide : 1 ≤ 64) _) hr.units
  refine ⟨_, (pss_cons (ps_set (i := 2) sc__law_several.nd rfl (Or.inl rfl) (pe_slice (r := rSlL K) sl_list (pe_lstA (pa_cons pe_str (pa_cons pe_str (pa_cons pe_str (pa_cons pe_str (pa_cons pe_str pa_nil)))))) po_none (po_some (pe_op op_add pe_int (pe_cal C__law_take (hr.mono (by first | decide | omega)) pass0 (pa_cons (pv 0) (pa_cons pe_int pa_nil)))))))
      (pss_cons (ps_set (i := 3) sc__law_several.nd rfl (Or.inl rfl) pe_dnewK)
      (pss_cons (ps_set (i := 4) sc__law_several.nd rfl (Or.inl rfl) (pe_tupA (pa_cons pe_str (pa_cons pe_str pa_nil))))
      (pss_cons (ps_for PassesOwn.never rfl (pi_list (pv 2)) (pg_name (i := 5) sc__law_several.nd rfl (Or.inl rfl))
        (pss_cons (ps_dput hu (pv 3) (pv 5) (pe_op op_sub (pe_cal C__law_take (hr.mono (by first | decide | omega)) pass0 (pa_cons (pv 0) (pa_cons pe_int pa_nil))) pe_int) rfl)
      (pss_one (ps_set (i := 4) sc__law_several.nd rfl (Or.inl rfl) (pe_ix (r := rIxL K) ix_list (pe_lstA (pa_cons (pe_tupA (pa_cons pe_str (pa_cons (pv 4) (pa_cons (pe_tupA (pa_cons pe_str (pa_cons (pv 5) pa_nil))) pa_nil)))) (pa_cons (pv 4) pa_nil))) (pe_callTy call_int1 (by rfl) T.b_int (by decide +kernel) (pa_cons (pe_cmpR op_eq (pv 5) pe_str (nomark _)) pa_nil)) (fun _ _ => rfl))))))
      (pss_cons (ps_dput hu (pv 3) (pe_ix (r := rIxL K) ix_list (pv 2) (pe_cal C__law_take (hr.mono (by first | decide | omega)) pass0 (pa_cons (pv 0) (pa_cons (pe_callB call_len_seq (by rfl) T.b_len PySem.boot_len (pa_cons (pv 2) pa_nil)) pa_nil))) (fun _ _ => rfl)) (pv 1) rfl)
      (pss_cons (ps_set (i := 4) sc__law_several.nd rfl (Or.inl rfl) (pe_tupA (pa_cons pe_str (pa_cons (pv 4) (pa_cons (pe_tupA (pa_cons pe_str (pa_cons pe_int pa_nil))) (pa_cons (pe_tupA (pa_cons pe_str (pa_cons pe_int pa_nil))) pa_nil))))))
      (pss_cons (ps_asg (pe_cal C__law_all_reads (hr.mono (by first | decide | omega)) pass0 (pa_cons (pv 4) (pa_cons (pv 3) pa_nil))) (pg_tup rfl (pgs_cons (pg_name (i := 6) sc__law_several.nd rfl (Or.inl rfl)) (pgs_cons (pg_name (i := 7) sc__law_several.nd rfl (Or.inl rfl)) pgs_nil))))
      (pss_one (ps_ret (pe_tupA (pa_cons (pv 4) (pa_cons (pv 6) (pa_cons (pv 7) pa_nil))))))))))))), ?_⟩
  refine ⟨le_line (Nat.le_of_ble_eq_true rfl), fun L0 H0 nL0 sL0 hL0 => ?_⟩
  rw [five_txs] at hL0
  refine ⟨_, rfl, p, r, m, c, 4, rfl, sL0 _ _ hp, by decide, small400 (by decide) (by decide), c0, by omega, fun H1 t r1 c1' k1 p1 d0 d1 t0 t1 => ?_⟩
  have npL0 : p ≠ L0 := ne_of_none hp nL0
  have hL1 := (k1 L0 npL0.symm).trans hL0
  obtain ⟨n, rfl⟩ : ∃ n : Nat, t = (n : Int) := ⟨t.toNat, by omega⟩
  have f1 : Fr1 p H H1 := fun b u n e => by rw [k1 b n]; exact sL0 _ _ e
  refine ⟨_, _, rfl, rfl, _, rfl, L0, _, rfl, SqL.of hL1, fun N nN => ?_⟩
  rw [five_take n (by omega)]
  have hnm : ∀ s ∈ five.take (2 + n), Nm s := fun s hs => five_nm s (List.mem_of_mem_take hs)
  have hnl : (five.take (2 + n)).length = 2 + n := by rw [List.length_take]; show min (2 + n) 5 = _; omega
  have ha : [97] ∈ five.take (2 + n) := by
    rw [show 2 + n = (n + 1) + 1 by omega]
    exact List.mem_cons_self ..
  generalize five.take (2 + n) = nms at hnm hnl ha ⊢
  have sN := same_new nN (.lst (txs nms))
  have hN : upd H1 N (.lst (txs nms)) N = some (.lst (txs nms)) := upd_same
  have p2 := sN _ _ p1
  have nNp : N ≠ p := (ne_of_none p1 nN).symm
  generalize upd H1 N (.lst (txs nms)) = H2 at sN hN p2 ⊢
  refine fun D nD => ?_
  have sD := same_new nD (.dK [])
  have hD : upd H2 D (.dK []) D = some (.dK []) := upd_same
  have p3 := sD _ _ p2
  have npD : p ≠ D := ne_of_none p2 nD
  have nND : N ≠ D := ne_of_none hN nD
  have hN3 := sD _ _ hN
  generalize upd H2 D (.dK []) = H3 at sD hD p3 hN3 ⊢
  refine ⟨le_line (Nat.le_of_ble_eq_true rfl), fun a0 H4 na0 sa0 ha0 => ?_⟩
  have p4 := sa0 _ _ p3
  have hD4 := sa0 _ _ hD
  have hN4 := sa0 _ _ hN3
  have ea : ("a" : Str) = SX.S [97] := by decide +kernel
  rw [ea] at ha0
  have nDH : H D = none := by
    cases e : H D with
    | none => rfl
    | some u => rw [sN _ _ (f1 D u npD.symm e)] at nD; cases nD
  refine ⟨_, rfl, N, rfl, ⟨_, SqL.of hN4⟩, for_list (K := K) (xs := txs nms) (fun j σ H' => ∃ (v : V) (x : Rcp) (v5 : Option V) (kvs : List (Key × V)) (r' c' : Int), σ = [some (.ref p), some (.int num), some (.ref N), some (.ref D), some v, v5, none, none] ∧ Fr2 p D H4 H' ∧ Rec H' x v ∧ x.Nb ∧ x.dep ≤ 1 + j ∧ x.siz ≤ 1 + 2 * j ∧ x.Tm ∧ (∀ s ∈ x.nms, s ∈ nms) ∧ H' p = some (.lst (pl r' m c')) ∧ 0 ≤ c' ∧ c' ≤ c1' + 10 * j ∧ H' D = some (.dK kvs) ∧ kvs.length ≤ j ∧ ∀ s ∈ nms.take j, ∃ y, valV kvs (kT (SX.S s)) = some (.int y) ∧ y.natAbs < 2 ^ 400)
      ⟨.ref a0, .read [97], none, [], r1, c1', rfl, Fr2.refl _ _ _, ⟨a0, rfl, ha0⟩, hnm _ ha, Nat.le_refl _, Nat.le_refl _, trivial, fun s hs => by rw [List.mem_singleton.mp hs]; exact ha, p4, d0, by omega, hD4, Nat.le_refl _, fun _ h => (nomatch h)⟩ (fun j σ H' _ ⟨_, _, _, _, _, _, _, f, _⟩ => SqL.of (f N _ nNp nND hN4)) ?_ ?_⟩
  · rintro j x0 σ H5 hx ⟨v, x, v5, kvs, r5, c5, rfl, f5, hv, hb, hd, hz, htm, hsub, hp5, g0, g1, hD5, hkl, hval⟩
    have hj : j < nms.length := by
      have := (List.getElem?_eq_some_iff.mp hx).1
      rw [txs_len] at this
      exact this
    rw [txs_get hj] at hx
    obtain rfl := Option.some.inj hx
    have hmj : nms[j] ∈ nms := List.getElem_mem hj
    refine ⟨_, rfl, p, r5, m, c5, 9, rfl, hp5, by decide, small400 (by decide) (by decide), g0, by omega, fun H6 y1 r6 c6 k6 hp6 i0 i1 y10 y11 => ?_⟩
    have hD6 := (k6 D npD.symm).trans hD5
    refine ⟨_, _, rfl, rfl, _, rfl, _, rfl, D, _, rfl, DPut.k (k := kT (SX.S nms[j])) hD6 (lt_line (by omega)), ?_⟩
    have hD7 : upd H6 D (.dK (putK kvs (kT (SX.S nms[j])) (.int (y1 - 4)))) D = some (.dK (putK kvs (kT (SX.S nms[j])) (.int (y1 - 4)))) := upd_same
    have p7 : upd H6 D (.dK (putK kvs (kT (SX.S nms[j])) (.int (y1 - 4)))) p = some (.lst (pl r6 m c6)) := by rw [upd_ne npD]; exact hp6
    have f67 : Fr2 p D H5 (upd H6 D (.dK (putK kvs (kT (SX.S nms[j])) (.int (y1 - 4))))) := fun b u e1 e2 e => by rw [upd_ne e2, k6 b e1]; exact e
    generalize upd H6 D (.dK (putK kvs (kT (SX.S nms[j])) (.int (y1 - 4)))) = H7 at hD7 p7 f67 ⊢
    refine ⟨_, rfl, _, rfl, le_line (Nat.le_of_ble_eq_true rfl), fun a1 Ha na1 sa1 ha1 => ?_⟩
    refine ⟨le_line (Nat.le_of_ble_eq_true rfl), fun a2 Hb na2 sa2 ha2 => ?_⟩
    refine ⟨_, rfl, le_line (Nat.le_of_ble_eq_true rfl), fun L Hc nL sL hL => ?_⟩
    have s7c := Same.trans sa1 (Same.trans sa2 sL)
    have k5c : Keep H5 Hc := fun b ys e => s7c _ _ (f67 b _ (fun z => by rw [z, hp5] at e; cases e) (fun z => by rw [z, hD5] at e; cases e) e)
    have hvc := hv.keep k5c
    have hp2 : Rec Hc (.two .plus x (.read nms[j])) (.ref a2) := ⟨a2, v, .ref a1, rfl, sL _ _ ha2, hvc, ⟨a1, rfl, sL _ _ (sa2 _ _ ha1)⟩⟩
    refine ⟨_, rfl, rfl, .inr ⟨_, rfl, ?_⟩⟩
    obtain ⟨x', v', hat, hx', hxb, hxd, hxz, hxt, hxs⟩ : ∃ (x' : Rcp) (v' : V), atI ([.ref a2, v] : List V) (if decide (V.str (SX.S nms[j]) = V.str "a") = true then 1 else 0) = some v' ∧ Rec Hc x' v' ∧ x'.Nb ∧ x'.dep ≤ 1 + (j + 1) ∧ x'.siz ≤ 1 + 2 * (j + 1) ∧ x'.Tm ∧ ∀ s ∈ x'.nms, s ∈ nms := by
      cases decide (V.str (SX.S nms[j]) = V.str "a") with
      | true => exact ⟨x, v, rfl, hvc, hb, by omega, by omega, htm, hsub⟩
      | false => exact ⟨_, _, rfl, hp2, ⟨hb, hnm _ hmj⟩, by show max x.dep 1 + 1 ≤ _; omega, by show x.siz + 1 + 1 ≤ _; omega, ⟨htm, trivial, fun z => nomatch z⟩, fun s hs => (List.mem_append.mp hs).elim (hsub s) fun h => by rw [List.mem_singleton.mp h]; exact hmj⟩
    refine ⟨L, _, _, v', rfl, rfl, SqL.of hL, hat, ?_⟩
    refine ⟨v', x', _, _, r6, c6, rfl, fun b u e1 e2 e => s7c _ _ (f67 b u e1 e2 (f5 b u e1 e2 e)), hx', hxb, hxd, hxz, hxt, hxs, s7c _ _ p7, i0, by omega, s7c _ _ hD7, Nat.le_trans (length_putK _ _ _) (by omega), fun s hs => ?_⟩
    rw [valV_put]
    by_cases cc : kT (SX.S s) = kT (SX.S nms[j])
    · rw [if_pos cc]
      exact ⟨_, rfl, small400 (by omega) (by omega)⟩
    · rw [if_neg cc]
      refine hval s ?_
      rw [List.take_add_one, List.getElem?_eq_getElem hj] at hs
      rcases List.mem_append.mp hs with h | h
      · exact h
      · rw [show s = nms[j] from List.mem_singleton.mp h] at cc
        exact absurd rfl cc
  · rintro σ H5 ⟨v, x, v5, kvs, r5, c5, rfl, f5, hv, hb, hd, hz, htm, hsub, hp5, g0, g1, hD5, hkl, hval⟩
    rw [txs_len] at hkl g1 hd hz hval
    rw [List.take_of_length_le (Nat.le_refl _)] at hval
    have hN5 := f5 N _ nNp nND hN4
    refine ⟨_, rfl, _, rfl, _, rfl, _, rfl, _, rfl, N, _, rfl, .inl (SqL.of hN5), p, r5, m, c5, _, rfl, hp5, ?_, ?_, g0, by omega, fun H6 y1 r6 c6 k6 hp6 i0 i1 y10 y11 => ?_⟩
    · rw [txs_len, hnl]; omega
    · rw [txs_len, hnl]; exact small400 (by omega) (by omega)
    rw [txs_len] at y11
    have hN6 := (k6 N nNp).trans hN5
    have hD6 := (k6 D npD.symm).trans hD5
    have hiu : y1.toNat < nms.length := by omega
    have hmu : nms[y1.toNat] ∈ nms := List.getElem_mem hiu
    refine ⟨N, _, y1, _, rfl, rfl, SqL.of hN6, atI_at y10 (txs_get hiu), D, _, rfl, DPut.k (k := kT (SX.S nms[y1.toNat])) hD6 (lt_line (by omega)), ?_⟩
    have hval7 : ∀ s ∈ nms, ∃ y, valV (putK kvs (kT (SX.S nms[y1.toNat])) (.int num)) (kT (SX.S s)) = some (.int y) ∧ y.natAbs < 2 ^ 400 := fun s hs => by
      rw [valV_put]
      by_cases cc : kT (SX.S s) = kT (SX.S nms[y1.toNat])
      · rw [if_pos cc]; exact ⟨num, rfl, hnum⟩
      · rw [if_neg cc]; exact hval s hs
    generalize putK kvs (kT (SX.S nms[y1.toNat])) (.int num) = kv7 at hval7 ⊢
    have hD7 : upd H6 D (.dK kv7) D = some (.dK kv7) := upd_same
    have p7 : upd H6 D (.dK kv7) p = some (.lst (pl r6 m c6)) := by rw [upd_ne npD]; exact hp6
    have f67 : Fr2 p D H5 (upd H6 D (.dK kv7)) := fun b u e1 e2 e => by rw [upd_ne e2, k6 b e1]; exact e
    generalize upd H6 D (.dK kv7) = H7 at hD7 p7 f67 ⊢
    refine ⟨_, rfl, le_line (Nat.le_of_ble_eq_true rfl), fun a1 Ha na1 sa1 ha1 => ?_⟩
    refine ⟨le_line (Nat.le_of_ble_eq_true rfl), fun a2 Hb na2 sa2 ha2 => ?_⟩
    refine ⟨le_line (Nat.le_of_ble_eq_true rfl), fun a3 Hc na3 sa3 ha3 => ?_⟩
    have s7c := Same.trans sa1 (Same.trans sa2 sa3)
    have k5c : Keep H5 Hc := fun b ys e => s7c _ _ (f67 b _ (fun z => by rw [z, hp5] at e; cases e) (fun z => by rw [z, hD5] at e; cases e) e)
    have n4 : (4 : Int).natAbs < 2 ^ 400 := small400 (by decide) (by decide)
    have hRc : Rec Hc (.pick x (.num 4) (.num 4)) (.ref a3) := ⟨a3, _, _, _, rfl, ha3, hv.keep k5c, ⟨a1, rfl, sa3 _ _ (sa2 _ _ ha1)⟩, ⟨a2, rfl, sa3 _ _ ha2⟩⟩
    have hNb : (Rcp.pick x (.num 4) (.num 4)).Nb := ⟨hb, n4, n4⟩
    have hdd : (Rcp.pick x (.num 4) (.num 4)).dep ≤ 9 := by show max x.dep (max 1 1) + 1 ≤ 9; omega
    have hsub2 : ∀ s ∈ (Rcp.pick x (.num 4) (.num 4)).nms, s ∈ nms := fun s hs => by
      rcases List.mem_append.mp hs with h | h
      · exact hsub s h
      · rcases List.mem_append.mp h with h | h <;> exact (nomatch h)
    have hval2 : ∀ s ∈ nms, valV kv7 (kT (SX.S s)) = some (.int (match valV kv7 (kT (SX.S s)) with | some (.int y) => y | _ => 0)) ∧ (match valV kv7 (kT (SX.S s)) with | some (.int y) => y | _ => (0 : Int)).natAbs < 2 ^ 400 := fun s hs => by
      obtain ⟨y, h1, h2⟩ := hval7 s hs
      rw [h1]
      exact ⟨rfl, h2⟩
    refine ⟨_, rfl, _, rfl, _, D, _, kv7, fun s => match valV kv7 (kT (SX.S s)) with | some (.int y) => y | _ => 0, nms, rfl, hRc, hNb, hdd, s7c _ _ hD7, fun s hs => ⟨hsub2 s hs, hval2 s (hsub2 s hs)⟩, by omega, fun H8 t R ys rd y s8 ht hR hP hout hg h90 => ?_⟩
    refine ⟨t, _, rfl, SqT.of ht, rfl, _, _, rfl, _, _, rfl, rfl, ?_⟩
    refine ⟨_, rfl, _, rfl, _, rfl, le_line (Nat.le_of_ble_eq_true rfl), fun z H9 nz sz hz9 => ?_⟩
    have fA : Fr1 p H H9 := fun b u e1 e => by
      have e2 : b ≠ D := fun zz => by rw [zz, nDH] at e; cases e
      exact sz _ _ (s8 _ _ (s7c _ _ (f67 b u e1 e2 (f5 b u e1 e2 (sa0 _ _ (sD _ _ (sN _ _ (f1 b u e1 e))))))))
    refine q H9 (.ref z) _ rd y r6 c6 fA ⟨z, R, _, ys, rfl, hz9, sz _ _ hR, (hRc.same s8).same sz, hP.same sz⟩ ⟨hNb, by omega, by show x.siz + 1 + 1 + 1 ≤ 100; omega, hg.sm, h90, out_small hg.sm hNb ⟨htm, trivial, trivial⟩ (by omega) hout⟩ (sz _ _ (s8 _ _ (s7c _ _ p7))) i0 (by omega)
end
/-! ### great numbers in records -/
/-- a recipe of at most k levels over one name -/
structure OkL (own : List Nat) (k : Nat) (x : Rcp) : Prop where
  nb : x.Nb
  dep : x.dep ≤ k
  siz : x.siz ≤ 4 ^ k
  tm : x.Tm
  nms : ∀ s ∈ x.nms, s = own
theorem OkL.mono {own : List Nat} {k l : Nat} {x : Rcp} (h : OkL own k x) (le : k ≤ l) : OkL own l x := ⟨h.nb, Nat.le_trans h.dep le, Nat.le_trans h.siz (Nat.pow_le_pow_right (by decide) le), h.tm, h.nms⟩
theorem okl_num {own : List Nat} {n : Int} (h : n.natAbs < 2 ^ 400) : OkL own 1 (.num n) := ⟨h, Nat.le_refl _, (by show 1 ≤ 4 ^ 1; decide), trivial, fun _ h => nomatch h⟩
theorem okl_read {own : List Nat} (h : Nm own) : OkL own 1 (.read own) := ⟨h, Nat.le_refl _, (by show 1 ≤ 4 ^ 1; decide), trivial, fun s hs => List.mem_singleton.mp hs⟩
theorem p4 (k : Nat) : 1 ≤ 4 ^ k := Nat.one_le_pow _ _ (by decide)
theorem okl_two {own : List Nat} {k : Nat} {kd : Kd} {a b : Rcp} (h : kd ≠ .times) (ha : OkL own k a) (hb : OkL own k b) : OkL own (k + 1) (.two kd a b) :=
  ⟨⟨ha.nb, hb.nb⟩, by have := ha.dep; have := hb.dep; show max a.dep b.dep + 1 ≤ _; omega, by have := ha.siz; have := hb.siz; have := p4 k; show a.siz + b.siz + 1 ≤ _; rw [Nat.pow_succ]; omega, ⟨ha.tm, hb.tm, fun z => absurd z h⟩, fun s hs => (List.mem_append.mp hs).elim (ha.nms s) (hb.nms s)⟩
theorem okl_times {own : List Nat} {a b : Rcp} (ha : OkL own 1 a) (hb : OkL own 1 b) : OkL own 2 (.two .times a b) :=
  ⟨⟨ha.nb, hb.nb⟩, by have := ha.dep; have := hb.dep; show max a.dep b.dep + 1 ≤ _; omega, by have := ha.siz; have := hb.siz; show a.siz + b.siz + 1 ≤ 16; omega, ⟨ha.tm, hb.tm, fun _ => ⟨ha.dep, hb.dep⟩⟩, fun s hs => (List.mem_append.mp hs).elim (ha.nms s) (hb.nms s)⟩
theorem okl_pick {own : List Nat} {k : Nat} {a b c : Rcp} (ha : OkL own k a) (hb : OkL own k b) (hc : OkL own k c) : OkL own (k + 1) (.pick a b c) :=
  ⟨⟨ha.nb, hb.nb, hc.nb⟩, by have := ha.dep; have := hb.dep; have := hc.dep; show max a.dep (max b.dep c.dep) + 1 ≤ _; omega, by have := ha.siz; have := hb.siz; have := hc.siz; have := p4 k; show a.siz + b.siz + c.siz + 1 ≤ _; rw [Nat.pow_succ]; omega, ⟨ha.tm, hb.tm, hc.tm⟩, fun s hs => (List.mem_append.mp hs).elim (ha.nms s) fun h => (List.mem_append.mp h).elim (hb.nms s) (hc.nms s)⟩
theorem okl_choose {own : List Nat} {k : Nat} {a : Rcp} (ho : Nm own) (ha : OkL own k a) : OkL own (k + 1) (.choose a [own]) :=
  ⟨⟨ha.nb, (by show 1 ≤ 1; decide), (by show 1 ≤ 9; decide), fun s hs => by rw [List.mem_singleton.mp hs]; exact ho⟩, by have := ha.dep; show a.dep + 1 ≤ _; omega, by have := ha.siz; have := p4 k; show a.siz + 1 ≤ _; rw [Nat.pow_succ]; omega, ha.tm, fun s hs => (List.mem_append.mp hs).elim (ha.nms s) fun h => List.mem_singleton.mp h⟩
theorem told0 {n : Int} (h : n.natAbs < 2 ^ 20) : n.natAbs < 2 ^ 400 := Nat.lt_of_lt_of_le h (Nat.pow_le_pow_right (by decide) (by decide))
/-- a row: a recipe and what its name is told -/
def RowOk (own : List Nat) (H : Hp) (v : V) : Prop := ∃ (t : Addr) (rv : V) (x : Rcp) (told : Int), v = .ref t ∧ H t = some (.tup [rv, .int told]) ∧ Rec H x rv ∧ OkL own 3 x ∧ told.natAbs < 2 ^ 400
theorem RowOk.keep {own : List Nat} {H H' : Hp} {v : V} (h : RowOk own H v) (s : Keep H H') : RowOk own H' v := by
  obtain ⟨t, rv, x, told, e, h1, h2, h3, h4⟩ := h
  exact ⟨t, rv, x, told, e, s _ _ h1, h2.keep s, h3, h4⟩
theorem RowOk.same {own : List Nat} {H H' : Hp} {v : V} (h : RowOk own H v) (s : Same H H') : RowOk own H' v := h.keep (same_keep s)
inductive AllRow (own : List Nat) (H : Hp) : List V → Prop
  | nil : AllRow own H []
  | cons {v : V} {l : List V} (h : RowOk own H v) (k : AllRow own H l) : AllRow own H (v :: l)
theorem AllRow.mem {own : List Nat} {H : Hp} {l : List V} (h : AllRow own H l) : ∀ v ∈ l, RowOk own H v := by
  induction h with
  | nil => exact fun _ h => nomatch h
  | cons h k ih => exact fun v hv => (List.mem_cons.mp hv).elim (fun e => by rw [e]; exact h) (ih v)
def RowsL (own : List Nat) (H : Hp) (L : Addr) (n : Nat) : Prop := ∃ xs, H L = some (.lst xs) ∧ xs.length = n ∧ ∀ v ∈ xs, RowOk own H v
theorem RowsL.same {own : List Nat} {H H' : Hp} {L : Addr} {n : Nat} (h : RowsL own H L n) (s : Same H H') : RowsL own H' L n := by
  obtain ⟨xs, h1, h2, h3⟩ := h
  exact ⟨xs, s _ _ h1, h2, fun v hv => (h3 v hv).same s⟩
theorem rows_of {own : List Nat} {H : Hp} {L : Addr} {xs : List V} (h : H L = some (.lst xs)) (k : AllRow own H xs) : RowsL own H L xs.length := ⟨xs, h, rfl, k.mem⟩
structure Gr (H : Hp) (p : Addr) (r m c num : Int) (own : List Nat) (vG vN vR vF vT : V) : Prop where
  p : H p = some (.lst (pl r m c))
  G : Rec H (.num num) vG
  N : Rec H (.num 0) vN
  R : Rec H (.read own) vR
  F : Rec H (.num 4) vF
  T : Rec H (.two .times (.read own) (.read own)) vT
theorem Gr.same {H H' : Hp} {p : Addr} {r m c num : Int} {own : List Nat} {vG vN vR vF vT : V} (h : Gr H p r m c num own vG vN vR vF vT) (s : Same H H') : Gr H' p r m c num own vG vN vR vF vT := ⟨s _ _ h.p, h.G.same s, h.N.same s, h.R.same s, h.F.same s, h.T.same s⟩
/-- ints below 10 ^ 100 -/
def BigI (v : V) : Prop := ∃ n : Int, v = .int n ∧ n.natAbs < 10 ^ 100
theorem pow10 : (10 : Int) ^ (20 : Int).toNat = 100000000000000000000 ∧ (10 : Int) ^ (21 : Int).toNat = 1000000000000000000000 ∧ (10 : Int) ^ (37 : Int).toNat = 10000000000000000000000000000000000000 ∧ (10 : Int) ^ (39 : Int).toNat = 1000000000000000000000000000000000000000 ∧ (10 : Int) ^ (40 : Int).toNat = 10000000000000000000000000000000000000000 ∧ (10 : Int) ^ (41 : Int).toNat = 100000000000000000000000000000000000000000 ∧ (10 : Int) ^ (49 : Int).toNat = 10000000000000000000000000000000000000000000000000 ∧ (10 : Int) ^ (60 : Int).toNat = 1000000000000000000000000000000000000000000000000000000000000 ∧ (10 : Int) ^ (19 : Int).toNat = 10000000000000000000 := by decide +kernel
theorem neg_abs {num : Int} (h : num.natAbs < 2 ^ 400) : (0 - (if num < 0 then -num else num)).natAbs < 2 ^ 400 := by
  refine Nat.lt_of_le_of_lt ?_ h
  split <;> omega
theorem far_small {root : Int} (h : root.natAbs < 10 ^ 50) : (root * 10 ^ (19 : Int).toNat).natAbs < 2 ^ 400 := by
  rw [pow10.2.2.2.2.2.2.2.2, Int.natAbs_mul]
  exact Nat.lt_of_lt_of_le (Nat.mul_lt_mul_of_pos_right h (by decide)) (by decide +kernel)
theorem rows_0 {σ : L2.St} {H : Hp} {Q : VK} {p L : Addr} {r m c num root : Int} {own : List Nat} {vG vN vR vF vT : V} (ho : Nm own) (hnum : num.natAbs < 2 ^ 400) (hroot : root.natAbs < 10 ^ 50) (k1 : σ[1]? = some (some (.str (SX.S own)))) (k4 : σ[4]? = some (some (.int num))) (k5 : σ[5]? = some (some (.int root))) (k7 : σ[7]? = some (some vG)) (k8 : σ[8]? = some (some vN)) (k9 : σ[9]? = some (some vR)) (k10 : σ[10]? = some (some vF)) (k11 : σ[11]? = some (some vT)) (g : Gr H p r m c num own vG vN vR vF vT) (q : ∀ L' H', H L' = none → Same H H' → RowsL own H' L' 4 → Q (.ref L') H') : (tLstA (tCons (tTupA (tCons (tVar 7) (tCons (tC (V.int 0)) tNil))) (tCons (tTupA (tCons (tVar 9) (tCons (tVar 4) tNil))) (tCons (tTupA (tCons (tTupA (tCons (tC (V.str "pick")) (tCons (tVar 9) (tCons (tVar 10) (tCons (tVar 10) tNil))))) (tCons (tVar 4) tNil))) (tCons (tTupA (tCons (tVar 11) (tCons (tVar 5) tNil))) tNil))))) σ H Q := by
  have okG : OkL own 1 (.num num) := okl_num hnum
  have okR : OkL own 1 (.read own) := okl_read ho
  have okT : OkL own 2 (.two .times (.read own) (.read own)) := okl_times okR okR
  have hneg : (0 - (if num < 0 then -num else num)).natAbs < 2 ^ 400 := neg_abs hnum
  have hfar : (root * 10 ^ (19 : Int).toNat).natAbs < 2 ^ 400 := far_small hroot
  have sAll : Same H H := Same.refl H
  refine ⟨_, k7, le_line (Nat.le_of_ble_eq_true rfl), fun a1 J1 n1 s1 h1 => ?_⟩
  have g := g.same s1
  have sAll := Same.trans sAll s1
  have w1 : RowOk own J1 (.ref a1) := ⟨a1, _, (.num num), _, rfl, h1, g.G, (okG).mono (by decide : 1 ≤ 3), (told0 (by decide))⟩
  refine ⟨_, k9, _, k4, le_line (Nat.le_of_ble_eq_true rfl), fun a2 J2 n2 s2 h2 => ?_⟩
  have g := g.same s2
  have sAll := Same.trans sAll s2
  have w1 := w1.same s2
  have w2 : RowOk own J2 (.ref a2) := ⟨a2, _, (.read own), _, rfl, h2, g.R, (okR).mono (by decide : 1 ≤ 3), hnum⟩
  refine ⟨_, k9, _, k10, _, k10, le_line (Nat.le_of_ble_eq_true rfl), fun a3 J3 n3 s3 h3 => ?_⟩
  have g := g.same s3
  have sAll := Same.trans sAll s3
  have w1 := w1.same s3
  have w2 := w2.same s3
  have c3 : Rec J3 (.pick (.read own) (.num 4) (.num 4)) (.ref a3) := ⟨a3, _, _, _, rfl, h3, g.R, g.F, g.F⟩
  refine ⟨_, k4, le_line (Nat.le_of_ble_eq_true rfl), fun a4 J4 n4 s4 h4 => ?_⟩
  have g := g.same s4
  have sAll := Same.trans sAll s4
  have w1 := w1.same s4
  have w2 := w2.same s4
  have c3 := c3.same s4
  have w4 : RowOk own J4 (.ref a4) := ⟨a4, _, (.pick (.read own) (.num 4) (.num 4)), _, rfl, h4, c3, ((okl_pick okR (okl_num (told0 (n := 4) (by decide))) (okl_num (told0 (n := 4) (by decide))))).mono (by decide : 2 ≤ 3), hnum⟩
  refine ⟨_, k11, _, k5, le_line (Nat.le_of_ble_eq_true rfl), fun a5 J5 n5 s5 h5 => ?_⟩
  have g := g.same s5
  have sAll := Same.trans sAll s5
  have w1 := w1.same s5
  have w2 := w2.same s5
  have w4 := w4.same s5
  have w5 : RowOk own J5 (.ref a5) := ⟨a5, _, (.two .times (.read own) (.read own)), _, rfl, h5, g.T, (okT).mono (by decide : 2 ≤ 3), (Nat.lt_of_lt_of_le hroot (by decide +kernel))⟩
  have sPre := sAll
  refine ⟨le_line (Nat.le_of_ble_eq_true rfl), fun a6 J6 n6 s6 h6 => ?_⟩
  have g := g.same s6
  have sAll := Same.trans sAll s6
  have w1 := w1.same s6
  have w2 := w2.same s6
  have w4 := w4.same s6
  have w5 := w5.same s6
  have new : RowsL own J6 a6 4 := rows_of h6 (.cons w1 (.cons w2 (.cons w4 (.cons w5 .nil))))
  exact q _ _ (Same.free sPre n6) sAll new
theorem rows_1 {σ : L2.St} {H : Hp} {Q : VK} {p L : Addr} {r m c num root : Int} {own : List Nat} {vG vN vR vF vT : V} (ho : Nm own) (hnum : num.natAbs < 2 ^ 400) (hroot : root.natAbs < 10 ^ 50) (k1 : σ[1]? = some (some (.str (SX.S own)))) (k4 : σ[4]? = some (some (.int num))) (k5 : σ[5]? = some (some (.int root))) (k7 : σ[7]? = some (some vG)) (k8 : σ[8]? = some (some vN)) (k9 : σ[9]? = some (some vR)) (k10 : σ[10]? = some (some vF)) (k11 : σ[11]? = some (some vT)) (g : Gr H p r m c num own vG vN vR vF vT) (k12 : σ[12]? = some (some (.ref L))) (rows : RowsL own H L 4) (q : ∀ L' H', H L' = none → Same H H' → RowsL own H' L' 6 → Q (.ref L') H') : (tOp rCatU (tVar 12) (tLstA (tCons (tTupA (tCons (tTupA (tCons (tC (V.str "pick")) (tCons (tVar 8) (tCons (tTupA (tCons (tC (V.str "choose")) (tCons (tVar 7) (tCons (tTupA (tCons (tVar 1) tNil)) tNil)))) (tCons (tVar 10) tNil))))) (tCons (tC (V.int 0)) tNil))) (tCons (tTupA (tCons (tTupA (tCons (tC (V.str "pick")) (tCons (tVar 10) (tCons (tVar 10) (tCons (tVar 7) tNil))))) (tCons (tC (V.int 0)) tNil))) tNil)))) σ H Q := by
  have okG : OkL own 1 (.num num) := okl_num hnum
  have okR : OkL own 1 (.read own) := okl_read ho
  have okT : OkL own 2 (.two .times (.read own) (.read own)) := okl_times okR okR
  have hneg : (0 - (if num < 0 then -num else num)).natAbs < 2 ^ 400 := neg_abs hnum
  have hfar : (root * 10 ^ (19 : Int).toNat).natAbs < 2 ^ 400 := far_small hroot
  have sAll : Same H H := Same.refl H
  refine ⟨_, k12, _, k8, _, k7, _, k1, le_line (Nat.le_of_ble_eq_true rfl), fun a1 J1 n1 s1 h1 => ?_⟩
  have g := g.same s1
  have rows := rows.same s1
  have sAll := Same.trans sAll s1
  refine ⟨le_line (Nat.le_of_ble_eq_true rfl), fun a2 J2 n2 s2 h2 => ?_⟩
  have g := g.same s2
  have rows := rows.same s2
  have sAll := Same.trans sAll s2
  have h1 := s2 _ _ h1
  have c2 : Rec J2 (.choose (.num num) [own]) (.ref a2) := ⟨a2, _, a1, rfl, h2, g.G, h1⟩
  refine ⟨_, k10, le_line (Nat.le_of_ble_eq_true rfl), fun a3 J3 n3 s3 h3 => ?_⟩
  have g := g.same s3
  have rows := rows.same s3
  have sAll := Same.trans sAll s3
  have c2 := c2.same s3
  have c3 : Rec J3 (.pick (.num 0) (.choose (.num num) [own]) (.num 4)) (.ref a3) := ⟨a3, _, _, _, rfl, h3, g.N, c2, g.F⟩
  refine ⟨le_line (Nat.le_of_ble_eq_true rfl), fun a4 J4 n4 s4 h4 => ?_⟩
  have g := g.same s4
  have rows := rows.same s4
  have sAll := Same.trans sAll s4
  have c3 := c3.same s4
  have w4 : RowOk own J4 (.ref a4) := ⟨a4, _, (.pick (.num 0) (.choose (.num num) [own]) (.num 4)), _, rfl, h4, c3, ((okl_pick ((okl_num (told0 (n := 0) (by decide))).mono (by decide : 1 ≤ 2)) (okl_choose ho okG) ((okl_num (told0 (n := 4) (by decide))).mono (by decide : 1 ≤ 2)))).mono (by decide : 3 ≤ 3), (told0 (by decide))⟩
  refine ⟨_, k10, _, k10, _, k7, le_line (Nat.le_of_ble_eq_true rfl), fun a5 J5 n5 s5 h5 => ?_⟩
  have g := g.same s5
  have rows := rows.same s5
  have sAll := Same.trans sAll s5
  have w4 := w4.same s5
  have c5 : Rec J5 (.pick (.num 4) (.num 4) (.num num)) (.ref a5) := ⟨a5, _, _, _, rfl, h5, g.F, g.F, g.G⟩
  refine ⟨le_line (Nat.le_of_ble_eq_true rfl), fun a6 J6 n6 s6 h6 => ?_⟩
  have g := g.same s6
  have rows := rows.same s6
  have sAll := Same.trans sAll s6
  have w4 := w4.same s6
  have c5 := c5.same s6
  have w6 : RowOk own J6 (.ref a6) := ⟨a6, _, (.pick (.num 4) (.num 4) (.num num)), _, rfl, h6, c5, ((okl_pick (okl_num (told0 (n := 4) (by decide))) (okl_num (told0 (n := 4) (by decide))) okG)).mono (by decide : 2 ≤ 3), (told0 (by decide))⟩
  have sPre := sAll
  refine ⟨le_line (Nat.le_of_ble_eq_true rfl), fun a7 J7 n7 s7 h7 => ?_⟩
  have g := g.same s7
  have rows := rows.same s7
  have sAll := Same.trans sAll s7
  have w4 := w4.same s7
  have w6 := w6.same s7
  have new : RowsL own J7 a7 2 := rows_of h7 (.cons w4 (.cons w6 .nil))
  obtain ⟨xs1, e1, l1, o1⟩ := rows
  obtain ⟨xs2, e2, l2, o2⟩ := new
  refine ⟨_, _, _, _, rfl, rfl, e1, e2, (by rw [l1, l2]; exact le_line (by decide)), fun a8 J8 n8 s8 h8 => ?_⟩
  exact q _ _ (Same.free sAll n8) (Same.trans sAll s8) ⟨_, h8, by rw [List.length_append, l1, l2], fun v hv => (List.mem_append.mp hv).elim (fun h => (o1 v h).same s8) (fun h => (o2 v h).same s8)⟩
theorem rows_2 {σ : L2.St} {H : Hp} {Q : VK} {p L : Addr} {r m c num root : Int} {own : List Nat} {vG vN vR vF vT : V} (ho : Nm own) (hnum : num.natAbs < 2 ^ 400) (hroot : root.natAbs < 10 ^ 50) (k1 : σ[1]? = some (some (.str (SX.S own)))) (k4 : σ[4]? = some (some (.int num))) (k5 : σ[5]? = some (some (.int root))) (k7 : σ[7]? = some (some vG)) (k8 : σ[8]? = some (some vN)) (k9 : σ[9]? = some (some vR)) (k10 : σ[10]? = some (some vF)) (k11 : σ[11]? = some (some vT)) (g : Gr H p r m c num own vG vN vR vF vT) (k12 : σ[12]? = some (some (.ref L))) (rows : RowsL own H L 6) (q : ∀ L' H', H L' = none → Same H H' → RowsL own H' L' 8 → Q (.ref L') H') : (tOp rCatU (tVar 12) (tLstA (tCons (tTupA (tCons (tTupA (tCons (tC (V.str "pick")) (tCons (tVar 7) (tCons (tVar 10) (tCons (tVar 10) tNil))))) (tCons (tC (V.int 0)) tNil))) (tCons (tTupA (tCons (tTupA (tCons (tC (V.str "times")) (tCons (tVar 7) (tCons (tVar 8) tNil)))) (tCons (tC (V.int 0)) tNil))) tNil)))) σ H Q := by
  have okG : OkL own 1 (.num num) := okl_num hnum
  have okR : OkL own 1 (.read own) := okl_read ho
  have okT : OkL own 2 (.two .times (.read own) (.read own)) := okl_times okR okR
  have hneg : (0 - (if num < 0 then -num else num)).natAbs < 2 ^ 400 := neg_abs hnum
  have hfar : (root * 10 ^ (19 : Int).toNat).natAbs < 2 ^ 400 := far_small hroot
  have sAll : Same H H := Same.refl H
  refine ⟨_, k12, _, k7, _, k10, _, k10, le_line (Nat.le_of_ble_eq_true rfl), fun a1 J1 n1 s1 h1 => ?_⟩
  have g := g.same s1
  have rows := rows.same s1
  have sAll := Same.trans sAll s1
  have c1 : Rec J1 (.pick (.num num) (.num 4) (.num 4)) (.ref a1) := ⟨a1, _, _, _, rfl, h1, g.G, g.F, g.F⟩
  refine ⟨le_line (Nat.le_of_ble_eq_true rfl), fun a2 J2 n2 s2 h2 => ?_⟩
  have g := g.same s2
  have rows := rows.same s2
  have sAll := Same.trans sAll s2
  have c1 := c1.same s2
  have w2 : RowOk own J2 (.ref a2) := ⟨a2, _, (.pick (.num num) (.num 4) (.num 4)), _, rfl, h2, c1, ((okl_pick okG (okl_num (told0 (n := 4) (by decide))) (okl_num (told0 (n := 4) (by decide))))).mono (by decide : 2 ≤ 3), (told0 (by decide))⟩
  refine ⟨_, k7, _, k8, le_line (Nat.le_of_ble_eq_true rfl), fun a3 J3 n3 s3 h3 => ?_⟩
  have g := g.same s3
  have rows := rows.same s3
  have sAll := Same.trans sAll s3
  have w2 := w2.same s3
  have c3 : Rec J3 (.two .times (.num num) (.num 0)) (.ref a3) := ⟨a3, _, _, rfl, h3, g.G, g.N⟩
  refine ⟨le_line (Nat.le_of_ble_eq_true rfl), fun a4 J4 n4 s4 h4 => ?_⟩
  have g := g.same s4
  have rows := rows.same s4
  have sAll := Same.trans sAll s4
  have w2 := w2.same s4
  have c3 := c3.same s4
  have w4 : RowOk own J4 (.ref a4) := ⟨a4, _, (.two .times (.num num) (.num 0)), _, rfl, h4, c3, ((okl_times okG (okl_num (told0 (n := 0) (by decide))))).mono (by decide : 2 ≤ 3), (told0 (by decide))⟩
  have sPre := sAll
  refine ⟨le_line (Nat.le_of_ble_eq_true rfl), fun a5 J5 n5 s5 h5 => ?_⟩
  have g := g.same s5
  have rows := rows.same s5
  have sAll := Same.trans sAll s5
  have w2 := w2.same s5
  have w4 := w4.same s5
  have new : RowsL own J5 a5 2 := rows_of h5 (.cons w2 (.cons w4 .nil))
  obtain ⟨xs1, e1, l1, o1⟩ := rows
  obtain ⟨xs2, e2, l2, o2⟩ := new
  refine ⟨_, _, _, _, rfl, rfl, e1, e2, (by rw [l1, l2]; exact le_line (by decide)), fun a6 J6 n6 s6 h6 => ?_⟩
  exact q _ _ (Same.free sAll n6) (Same.trans sAll s6) ⟨_, h6, by rw [List.length_append, l1, l2], fun v hv => (List.mem_append.mp hv).elim (fun h => (o1 v h).same s6) (fun h => (o2 v h).same s6)⟩
theorem rows_3 {σ : L2.St} {H : Hp} {Q : VK} {p L : Addr} {r m c num root : Int} {own : List Nat} {vG vN vR vF vT : V} (ho : Nm own) (hnum : num.natAbs < 2 ^ 400) (hroot : root.natAbs < 10 ^ 50) (k1 : σ[1]? = some (some (.str (SX.S own)))) (k4 : σ[4]? = some (some (.int num))) (k5 : σ[5]? = some (some (.int root))) (k7 : σ[7]? = some (some vG)) (k8 : σ[8]? = some (some vN)) (k9 : σ[9]? = some (some vR)) (k10 : σ[10]? = some (some vF)) (k11 : σ[11]? = some (some vT)) (g : Gr H p r m c num own vG vN vR vF vT) (k12 : σ[12]? = some (some (.ref L))) (rows : RowsL own H L 8) (q : ∀ L' H', H L' = none → Same H H' → RowsL own H' L' 10 → Q (.ref L') H') : (tOp rCatU (tVar 12) (tLstA (tCons (tTupA (tCons (tTupA (tCons (tC (V.str "minus")) (tCons (tVar 7) (tCons (tVar 7) tNil)))) (tCons (tC (V.int 0)) tNil))) (tCons (tTupA (tCons (tTupA (tCons (tC (V.str "most")) (tCons (tVar 10) (tCons (tTupA (tCons (tC (V.str "number")) (tCons (tOp (rI0 fun i j => V.int (i - j)) (tC (V.int 0)) (tCB (fun xs H Q => ∃ i, xs = [V.int i] ∧ Q (V.int (if i < 0 then -i else i)) H) (tCons (tVar 4) tNil))) tNil))) tNil)))) (tCons (tC (V.int 0)) tNil))) tNil)))) σ H Q := by
  have okG : OkL own 1 (.num num) := okl_num hnum
  have okR : OkL own 1 (.read own) := okl_read ho
  have okT : OkL own 2 (.two .times (.read own) (.read own)) := okl_times okR okR
  have hneg : (0 - (if num < 0 then -num else num)).natAbs < 2 ^ 400 := neg_abs hnum
  have hfar : (root * 10 ^ (19 : Int).toNat).natAbs < 2 ^ 400 := far_small hroot
  have sAll : Same H H := Same.refl H
  refine ⟨_, k12, _, k7, _, k7, le_line (Nat.le_of_ble_eq_true rfl), fun a1 J1 n1 s1 h1 => ?_⟩
  have g := g.same s1
  have rows := rows.same s1
  have sAll := Same.trans sAll s1
  have c1 : Rec J1 (.two .minus (.num num) (.num num)) (.ref a1) := ⟨a1, _, _, rfl, h1, g.G, g.G⟩
  refine ⟨le_line (Nat.le_of_ble_eq_true rfl), fun a2 J2 n2 s2 h2 => ?_⟩
  have g := g.same s2
  have rows := rows.same s2
  have sAll := Same.trans sAll s2
  have c1 := c1.same s2
  have w2 : RowOk own J2 (.ref a2) := ⟨a2, _, (.two .minus (.num num) (.num num)), _, rfl, h2, c1, ((okl_two (kd := .minus) (fun z => nomatch z) okG okG)).mono (by decide : 2 ≤ 3), (told0 (by decide))⟩
  refine ⟨_, k10, _, k4, _, rfl, _, _, rfl, rfl, le_line (Nat.le_of_ble_eq_true rfl), fun a3 J3 n3 s3 h3 => ?_⟩
  have g := g.same s3
  have rows := rows.same s3
  have sAll := Same.trans sAll s3
  have w2 := w2.same s3
  have c3 : Rec J3 (.num (0 - (if num < 0 then -num else num))) (.ref a3) := ⟨a3, rfl, h3⟩
  refine ⟨le_line (Nat.le_of_ble_eq_true rfl), fun a4 J4 n4 s4 h4 => ?_⟩
  have g := g.same s4
  have rows := rows.same s4
  have sAll := Same.trans sAll s4
  have w2 := w2.same s4
  have c3 := c3.same s4
  have c4 : Rec J4 (.two .most (.num 4) (.num (0 - (if num < 0 then -num else num)))) (.ref a4) := ⟨a4, _, _, rfl, h4, g.F, c3⟩
  refine ⟨le_line (Nat.le_of_ble_eq_true rfl), fun a5 J5 n5 s5 h5 => ?_⟩
  have g := g.same s5
  have rows := rows.same s5
  have sAll := Same.trans sAll s5
  have w2 := w2.same s5
  have c4 := c4.same s5
  have w5 : RowOk own J5 (.ref a5) := ⟨a5, _, (.two .most (.num 4) (.num (0 - (if num < 0 then -num else num)))), _, rfl, h5, c4, ((okl_two (kd := .most) (fun z => nomatch z) (okl_num (told0 (n := 4) (by decide))) (okl_num hneg))).mono (by decide : 2 ≤ 3), (told0 (by decide))⟩
  have sPre := sAll
  refine ⟨le_line (Nat.le_of_ble_eq_true rfl), fun a6 J6 n6 s6 h6 => ?_⟩
  have g := g.same s6
  have rows := rows.same s6
  have sAll := Same.trans sAll s6
  have w2 := w2.same s6
  have w5 := w5.same s6
  have new : RowsL own J6 a6 2 := rows_of h6 (.cons w2 (.cons w5 .nil))
  obtain ⟨xs1, e1, l1, o1⟩ := rows
  obtain ⟨xs2, e2, l2, o2⟩ := new
  refine ⟨_, _, _, _, rfl, rfl, e1, e2, (by rw [l1, l2]; exact le_line (by decide)), fun a7 J7 n7 s7 h7 => ?_⟩
  exact q _ _ (Same.free sAll n7) (Same.trans sAll s7) ⟨_, h7, by rw [List.length_append, l1, l2], fun v hv => (List.mem_append.mp hv).elim (fun h => (o1 v h).same s7) (fun h => (o2 v h).same s7)⟩
theorem rows_4 {σ : L2.St} {H : Hp} {Q : VK} {p L : Addr} {r m c num root : Int} {own : List Nat} {vG vN vR vF vT : V} (ho : Nm own) (hnum : num.natAbs < 2 ^ 400) (hroot : root.natAbs < 10 ^ 50) (k1 : σ[1]? = some (some (.str (SX.S own)))) (k4 : σ[4]? = some (some (.int num))) (k5 : σ[5]? = some (some (.int root))) (k7 : σ[7]? = some (some vG)) (k8 : σ[8]? = some (some vN)) (k9 : σ[9]? = some (some vR)) (k10 : σ[10]? = some (some vF)) (k11 : σ[11]? = some (some vT)) (g : Gr H p r m c num own vG vN vR vF vT) (k12 : σ[12]? = some (some (.ref L))) (rows : RowsL own H L 10) (q : ∀ L' H', H L' = none → Same H H' → RowsL own H' L' 12 → Q (.ref L') H') : (tOp rCatU (tVar 12) (tLstA (tCons (tTupA (tCons (tTupA (tCons (tC (V.str "choose")) (tCons (tVar 7) (tCons (tTupA (tCons (tVar 1) tNil)) tNil)))) (tCons (tC (V.int 4)) tNil))) (tCons (tTupA (tCons (tTupA (tCons (tC (V.str "plus")) (tCons (tVar 9) (tCons (tVar 9) tNil)))) (tCons (tOp (rI CMul fun i j => V.int (i * j)) (tVar 5) (tOp (rI CPow fun i j => V.int (i ^ j.toNat)) (tC (V.int 10)) (tC (V.int 19)))) tNil))) tNil)))) σ H Q := by
  have okG : OkL own 1 (.num num) := okl_num hnum
  have okR : OkL own 1 (.read own) := okl_read ho
  have okT : OkL own 2 (.two .times (.read own) (.read own)) := okl_times okR okR
  have hneg : (0 - (if num < 0 then -num else num)).natAbs < 2 ^ 400 := neg_abs hnum
  have hfar : (root * 10 ^ (19 : Int).toNat).natAbs < 2 ^ 400 := far_small hroot
  have sAll : Same H H := Same.refl H
  refine ⟨_, k12, _, k7, _, k1, le_line (Nat.le_of_ble_eq_true rfl), fun a1 J1 n1 s1 h1 => ?_⟩
  have g := g.same s1
  have rows := rows.same s1
  have sAll := Same.trans sAll s1
  refine ⟨le_line (Nat.le_of_ble_eq_true rfl), fun a2 J2 n2 s2 h2 => ?_⟩
  have g := g.same s2
  have rows := rows.same s2
  have sAll := Same.trans sAll s2
  have h1 := s2 _ _ h1
  have c2 : Rec J2 (.choose (.num num) [own]) (.ref a2) := ⟨a2, _, a1, rfl, h2, g.G, h1⟩
  refine ⟨le_line (Nat.le_of_ble_eq_true rfl), fun a3 J3 n3 s3 h3 => ?_⟩
  have g := g.same s3
  have rows := rows.same s3
  have sAll := Same.trans sAll s3
  have c2 := c2.same s3
  have w3 : RowOk own J3 (.ref a3) := ⟨a3, _, (.choose (.num num) [own]), _, rfl, h3, c2, ((okl_choose ho okG)).mono (by decide : 2 ≤ 3), (told0 (by decide))⟩
  refine ⟨_, k9, _, k9, le_line (Nat.le_of_ble_eq_true rfl), fun a4 J4 n4 s4 h4 => ?_⟩
  have g := g.same s4
  have rows := rows.same s4
  have sAll := Same.trans sAll s4
  have w3 := w3.same s4
  have c4 : Rec J4 (.two .plus (.read own) (.read own)) (.ref a4) := ⟨a4, _, _, rfl, h4, g.R, g.R⟩
  refine ⟨_, k5, _, _, rfl, rfl, ⟨by decide, by decide, by decide⟩, _, _, rfl, rfl, .inr ⟨by decide, by decide⟩, le_line (Nat.le_of_ble_eq_true rfl), fun a5 J5 n5 s5 h5 => ?_⟩
  have g := g.same s5
  have rows := rows.same s5
  have sAll := Same.trans sAll s5
  have w3 := w3.same s5
  have c4 := c4.same s5
  have w5 : RowOk own J5 (.ref a5) := ⟨a5, _, (.two .plus (.read own) (.read own)), _, rfl, h5, c4, ((okl_two (kd := .plus) (fun z => nomatch z) okR okR)).mono (by decide : 2 ≤ 3), hfar⟩
  have sPre := sAll
  refine ⟨le_line (Nat.le_of_ble_eq_true rfl), fun a6 J6 n6 s6 h6 => ?_⟩
  have g := g.same s6
  have rows := rows.same s6
  have sAll := Same.trans sAll s6
  have w3 := w3.same s6
  have w5 := w5.same s6
  have new : RowsL own J6 a6 2 := rows_of h6 (.cons w3 (.cons w5 .nil))
  obtain ⟨xs1, e1, l1, o1⟩ := rows
  obtain ⟨xs2, e2, l2, o2⟩ := new
  refine ⟨_, _, _, _, rfl, rfl, e1, e2, (by rw [l1, l2]; exact le_line (by decide)), fun a7 J7 n7 s7 h7 => ?_⟩
  exact q _ _ (Same.free sAll n7) (Same.trans sAll s7) ⟨_, h7, by rw [List.length_append, l1, l2], fun v hv => (List.mem_append.mp hv).elim (fun h => (o1 v h).same s7) (fun h => (o2 v h).same s7)⟩
theorem rows_5 {σ : L2.St} {H : Hp} {Q : VK} {p L : Addr} {r m c num root : Int} {own : List Nat} {vG vN vR vF vT : V} (ho : Nm own) (hnum : num.natAbs < 2 ^ 400) (hroot : root.natAbs < 10 ^ 50) (k1 : σ[1]? = some (some (.str (SX.S own)))) (k4 : σ[4]? = some (some (.int num))) (k5 : σ[5]? = some (some (.int root))) (k7 : σ[7]? = some (some vG)) (k8 : σ[8]? = some (some vN)) (k9 : σ[9]? = some (some vR)) (k10 : σ[10]? = some (some vF)) (k11 : σ[11]? = some (some vT)) (g : Gr H p r m c num own vG vN vR vF vT) (k12 : σ[12]? = some (some (.ref L))) (rows : RowsL own H L 12) (q : ∀ L' H', H L' = none → Same H H' → RowsL own H' L' 14 → Q (.ref L') H') : (tOp rCatU (tVar 12) (tLstA (tCons (tTupA (tCons (tTupA (tCons (tC (V.str "pick")) (tCons (tVar 11) (tCons (tVar 10) (tCons (tVar 10) tNil))))) (tCons (tVar 5) tNil))) (tCons (tTupA (tCons (tTupA (tCons (tC (V.str "minus")) (tCons (tVar 11) (tCons (tVar 11) tNil)))) (tCons (tVar 5) tNil))) tNil)))) σ H Q := by
  have okG : OkL own 1 (.num num) := okl_num hnum
  have okR : OkL own 1 (.read own) := okl_read ho
  have okT : OkL own 2 (.two .times (.read own) (.read own)) := okl_times okR okR
  have hneg : (0 - (if num < 0 then -num else num)).natAbs < 2 ^ 400 := neg_abs hnum
  have hfar : (root * 10 ^ (19 : Int).toNat).natAbs < 2 ^ 400 := far_small hroot
  have sAll : Same H H := Same.refl H
  refine ⟨_, k12, _, k11, _, k10, _, k10, le_line (Nat.le_of_ble_eq_true rfl), fun a1 J1 n1 s1 h1 => ?_⟩
  have g := g.same s1
  have rows := rows.same s1
  have sAll := Same.trans sAll s1
  have c1 : Rec J1 (.pick (.two .times (.read own) (.read own)) (.num 4) (.num 4)) (.ref a1) := ⟨a1, _, _, _, rfl, h1, g.T, g.F, g.F⟩
  refine ⟨_, k5, le_line (Nat.le_of_ble_eq_true rfl), fun a2 J2 n2 s2 h2 => ?_⟩
  have g := g.same s2
  have rows := rows.same s2
  have sAll := Same.trans sAll s2
  have c1 := c1.same s2
  have w2 : RowOk own J2 (.ref a2) := ⟨a2, _, (.pick (.two .times (.read own) (.read own)) (.num 4) (.num 4)), _, rfl, h2, c1, ((okl_pick okT ((okl_num (told0 (n := 4) (by decide))).mono (by decide : 1 ≤ 2)) ((okl_num (told0 (n := 4) (by decide))).mono (by decide : 1 ≤ 2)))).mono (by decide : 3 ≤ 3), (Nat.lt_of_lt_of_le hroot (by decide +kernel))⟩
  refine ⟨_, k11, _, k11, le_line (Nat.le_of_ble_eq_true rfl), fun a3 J3 n3 s3 h3 => ?_⟩
  have g := g.same s3
  have rows := rows.same s3
  have sAll := Same.trans sAll s3
  have w2 := w2.same s3
  have c3 : Rec J3 (.two .minus (.two .times (.read own) (.read own)) (.two .times (.read own) (.read own))) (.ref a3) := ⟨a3, _, _, rfl, h3, g.T, g.T⟩
  refine ⟨_, k5, le_line (Nat.le_of_ble_eq_true rfl), fun a4 J4 n4 s4 h4 => ?_⟩
  have g := g.same s4
  have rows := rows.same s4
  have sAll := Same.trans sAll s4
  have w2 := w2.same s4
  have c3 := c3.same s4
  have w4 : RowOk own J4 (.ref a4) := ⟨a4, _, (.two .minus (.two .times (.read own) (.read own)) (.two .times (.read own) (.read own))), _, rfl, h4, c3, ((okl_two (kd := .minus) (fun z => nomatch z) okT okT)).mono (by decide : 3 ≤ 3), (Nat.lt_of_lt_of_le hroot (by decide +kernel))⟩
  have sPre := sAll
  refine ⟨le_line (Nat.le_of_ble_eq_true rfl), fun a5 J5 n5 s5 h5 => ?_⟩
  have g := g.same s5
  have rows := rows.same s5
  have sAll := Same.trans sAll s5
  have w2 := w2.same s5
  have w4 := w4.same s5
  have new : RowsL own J5 a5 2 := rows_of h5 (.cons w2 (.cons w4 .nil))
  obtain ⟨xs1, e1, l1, o1⟩ := rows
  obtain ⟨xs2, e2, l2, o2⟩ := new
  refine ⟨_, _, _, _, rfl, rfl, e1, e2, (by rw [l1, l2]; exact le_line (by decide)), fun a6 J6 n6 s6 h6 => ?_⟩
  exact q _ _ (Same.free sAll n6) (Same.trans sAll s6) ⟨_, h6, by rw [List.length_append, l1, l2], fun v hv => (List.mem_append.mp hv).elim (fun h => (o1 v h).same s6) (fun h => (o2 v h).same s6)⟩
theorem rows_6 {σ : L2.St} {H : Hp} {Q : VK} {p L : Addr} {r m c num root : Int} {own : List Nat} {vG vN vR vF vT : V} (ho : Nm own) (hnum : num.natAbs < 2 ^ 400) (hroot : root.natAbs < 10 ^ 50) (k1 : σ[1]? = some (some (.str (SX.S own)))) (k4 : σ[4]? = some (some (.int num))) (k5 : σ[5]? = some (some (.int root))) (k7 : σ[7]? = some (some vG)) (k8 : σ[8]? = some (some vN)) (k9 : σ[9]? = some (some vR)) (k10 : σ[10]? = some (some vF)) (k11 : σ[11]? = some (some vT)) (g : Gr H p r m c num own vG vN vR vF vT) (k12 : σ[12]? = some (some (.ref L))) (rows : RowsL own H L 14) (q : ∀ L' H', H L' = none → Same H H' → RowsL own H' L' 16 → Q (.ref L') H') : (tOp rCatU (tVar 12) (tLstA (tCons (tTupA (tCons (tTupA (tCons (tC (V.str "choose")) (tCons (tVar 11) (tCons (tTupA (tCons (tVar 1) tNil)) tNil)))) (tCons (tVar 5) tNil))) (tCons (tTupA (tCons (tTupA (tCons (tC (V.str "minus")) (tCons (tVar 8) (tCons (tVar 11) tNil)))) (tCons (tVar 5) tNil))) tNil)))) σ H Q := by
  have okG : OkL own 1 (.num num) := okl_num hnum
  have okR : OkL own 1 (.read own) := okl_read ho
  have okT : OkL own 2 (.two .times (.read own) (.read own)) := okl_times okR okR
  have hneg : (0 - (if num < 0 then -num else num)).natAbs < 2 ^ 400 := neg_abs hnum
  have hfar : (root * 10 ^ (19 : Int).toNat).natAbs < 2 ^ 400 := far_small hroot
  have sAll : Same H H := Same.refl H
  refine ⟨_, k12, _, k11, _, k1, le_line (Nat.le_of_ble_eq_true rfl), fun a1 J1 n1 s1 h1 => ?_⟩
  have g := g.same s1
  have rows := rows.same s1
  have sAll := Same.trans sAll s1
  refine ⟨le_line (Nat.le_of_ble_eq_true rfl), fun a2 J2 n2 s2 h2 => ?_⟩
  have g := g.same s2
  have rows := rows.same s2
  have sAll := Same.trans sAll s2
  have h1 := s2 _ _ h1
  have c2 : Rec J2 (.choose (.two .times (.read own) (.read own)) [own]) (.ref a2) := ⟨a2, _, a1, rfl, h2, g.T, h1⟩
  refine ⟨_, k5, le_line (Nat.le_of_ble_eq_true rfl), fun a3 J3 n3 s3 h3 => ?_⟩
  have g := g.same s3
  have rows := rows.same s3
  have sAll := Same.trans sAll s3
  have c2 := c2.same s3
  have w3 : RowOk own J3 (.ref a3) := ⟨a3, _, (.choose (.two .times (.read own) (.read own)) [own]), _, rfl, h3, c2, ((okl_choose ho okT)).mono (by decide : 3 ≤ 3), (Nat.lt_of_lt_of_le hroot (by decide +kernel))⟩
  refine ⟨_, k8, _, k11, le_line (Nat.le_of_ble_eq_true rfl), fun a4 J4 n4 s4 h4 => ?_⟩
  have g := g.same s4
  have rows := rows.same s4
  have sAll := Same.trans sAll s4
  have w3 := w3.same s4
  have c4 : Rec J4 (.two .minus (.num 0) (.two .times (.read own) (.read own))) (.ref a4) := ⟨a4, _, _, rfl, h4, g.N, g.T⟩
  refine ⟨_, k5, le_line (Nat.le_of_ble_eq_true rfl), fun a5 J5 n5 s5 h5 => ?_⟩
  have g := g.same s5
  have rows := rows.same s5
  have sAll := Same.trans sAll s5
  have w3 := w3.same s5
  have c4 := c4.same s5
  have w5 : RowOk own J5 (.ref a5) := ⟨a5, _, (.two .minus (.num 0) (.two .times (.read own) (.read own))), _, rfl, h5, c4, ((okl_two (kd := .minus) (fun z => nomatch z) ((okl_num (told0 (n := 0) (by decide))).mono (by decide : 1 ≤ 2)) okT)).mono (by decide : 3 ≤ 3), (Nat.lt_of_lt_of_le hroot (by decide +kernel))⟩
  have sPre := sAll
  refine ⟨le_line (Nat.le_of_ble_eq_true rfl), fun a6 J6 n6 s6 h6 => ?_⟩
  have g := g.same s6
  have rows := rows.same s6
  have sAll := Same.trans sAll s6
  have w3 := w3.same s6
  have w5 := w5.same s6
  have new : RowsL own J6 a6 2 := rows_of h6 (.cons w3 (.cons w5 .nil))
  obtain ⟨xs1, e1, l1, o1⟩ := rows
  obtain ⟨xs2, e2, l2, o2⟩ := new
  refine ⟨_, _, _, _, rfl, rfl, e1, e2, (by rw [l1, l2]; exact le_line (by decide)), fun a7 J7 n7 s7 h7 => ?_⟩
  exact q _ _ (Same.free sAll n7) (Same.trans sAll s7) ⟨_, h7, by rw [List.length_append, l1, l2], fun v hv => (List.mem_append.mp hv).elim (fun h => (o1 v h).same s7) (fun h => (o2 v h).same s7)⟩
def spGreat : Sp := fun vs H Q _ => ∃ (p : Addr) (r m c : Int) (own : List Nat), vs = [.ref p, .str (SX.S own)] ∧ H p = some (.lst (pl r m c)) ∧ Nm own ∧ 0 ≤ c ∧ c ≤ 890000 ∧
  ∀ (H' : Hp) (v : V) (x : Rcp) (rd : List Pr) (wo r' c' : Int), Fr1 p H H' → RecAt H' x rd wo v → Wr x rd wo → H' p = some (.lst (pl r' m c')) → 0 ≤ c' → c' ≤ c + 200 → Q v H'
section
variable {P : Program} {w : World} {K : PySem.W.Frag} {mg : Str → Option Value} {base : Heap}
abbrev s__law_great : Stmt := topS 72
abbrev N__law_great : List Str := ["pool", "own", "small", "some", "number", "root", "way", "great", "nought", "read", "four", "twice", "rows", "r", "told", "reads", "worth"]
theorem sc__law_great : FnScope N__law_great ["pool", "own"] (defScope s__law_great) := ⟨rfl, rfl, rfl, by decide +kernel, rfl, by decide +kernel, by decide +kernel⟩

theorem ok__law_great (T : Txt K mg) (Tabs : mg "abs" = none) (D : IsDef K mg "_law_great" s__law_great ["pool", "own"]) (C_take : Cal P w K mg base CX0 1 "_law_take" ["pool", "many"] spTakeL) (C_all : Cal P w K mg base CX0 12 "_law_all_reads" ["r", "numbers"] spLAll) (C_wr : Cal P w K mg base CX0 2 "_law_wrapped" ["pool", "great", "own"] spWrapped) (C_sev : Cal P w K mg base CX0 13 "_law_several" ["pool", "number"] spSeveral) : Cal P w K mg base CX0 14 "_law_great" ["pool", "own"] spGreat := by
  have C__law_take := C_take.mono (show 1 ≤ 13 by omega)
  have C__law_all_reads := C_all.mono (show 12 ≤ 13 by omega)
  have C__law_wrapped := C_wr.mono (show 2 ≤ 13 by omega)
  have C__law_several := C_sev
  refine D.cal sc__law_great (fun vs H Q E h => ?_) (fun f cdv A outer s H vs Q E hr h => ?_)
  · obtain ⟨p, r, m, c, own, rfl, _⟩ := h
    rfl
  obtain ⟨p, r, m, c, own, rfl, hp, ho, c0, c1, q⟩ := h
  have hu : (cxOf CX0 P w K mg base N__law_great "_law_great" (defScope s__law_great) f cdv A outer s H E).nox.A.units + 1 < cLine := Nat.lt_of_le_of_lt (Nat.add_le_add_left (by decide : 1 ≤ 64) _) hr.units
  obtain ⟨e20, e21, e37, e39, e40, e41, e49, e60, e19⟩ := pow10
  refine ⟨_, (pss_cons (ps_set (i := 2) sc__law_great.nd rfl (Or.inl rfl) (pe_cal C__law_take (hr.mono (by first | decide | omega)) pass0 (pa_cons (pv 0) (pa_cons (pe_op op_pow pe_int pe_int) pa_nil))))
      (pss_cons (ps_set (i := 3) sc__law_great.nd rfl (Or.inl rfl) (pe_lstA (pa_cons (pe_op op_sub (pe_op op_sub (pe_op op_pow pe_int pe_int) pe_int) (pv 2)) (pa_cons (pe_op op_sub (pe_op op_sub (pe_op op_pow pe_int pe_int) pe_int) (pv 2)) (pa_cons (pe_op op_add (pe_op op_pow pe_int pe_int) (pv 2)) (pa_cons (pe_op op_sub (pe_op op_pow pe_int pe_int) pe_int) (pa_cons (pe_op op_pow pe_int pe_int) pa_nil)))))))
      (pss_cons (ps_set (i := 3) sc__law_great.nd rfl (Or.inl rfl) (pe_op op_catU (pv 3) (pe_lstA (pa_cons (pe_op op_sub (pe_op op_sub (pe_op op_pow pe_int pe_int) pe_int) (pv 2)) (pa_cons (pe_op op_add (pe_op op_pow pe_int pe_int) (pv 2)) (pa_cons (pe_op op_add (pe_op op_mulW (pe_op op_pow pe_int pe_int) (pe_op op_pow pe_int pe_int)) (pv 2)) pa_nil))))))
      (pss_cons (ps_set (i := 4) sc__law_great.nd rfl (Or.inl rfl) (pe_op op_mul (pe_ix (r := rIxL K) ix_list (pv 3) (pe_cal C__law_take (hr.mono (by first | decide | omega)) pass0 (pa_cons (pv 0) (pa_cons pe_int pa_nil))) (fun _ _ => rfl)) (pe_ix (r := rIxL K) ix_list (pe_lstA (pa_cons pe_int (pa_cons (pe_un un_neg pe_int) pa_nil))) (pe_cal C__law_take (hr.mono (by first | decide | omega)) pass0 (pa_cons (pv 0) (pa_cons pe_int pa_nil))) (fun _ _ => rfl))))
      (pss_cons (ps_set (i := 3) sc__law_great.nd rfl (Or.inl rfl) (pe_lstA (pa_cons (pe_op op_sub (pe_op op_pow pe_int pe_int) pe_int) (pa_cons (pe_op op_pow pe_int pe_int) (pa_cons (pe_op op_sub (pe_op op_sub (pe_op op_pow pe_int pe_int) pe_int) (pe_op op_fdivW (pv 2) pe_int)) (pa_cons (pe_op op_add (pe_op op_pow pe_int pe_int) (pv 2)) (pa_cons (pe_op op_add (pe_op op_pow pe_int pe_int) (pv 2)) pa_nil)))))))
      (pss_cons (ps_set (i := 5) sc__law_great.nd rfl (Or.inl rfl) (pe_ix (r := rIxL K) ix_list (pe_op op_catU (pv 3) (pe_lstA (pa_cons (pe_op op_sub (pe_op op_pow pe_int pe_int) (pv 2)) pa_nil))) (pe_cal C__law_take (hr.mono (by first | decide | omega)) pass0 (pa_cons (pv 0) (pa_cons pe_int pa_nil))) (fun _ _ => rfl)))
      (pss_cons (ps_set (i := 6) sc__law_great.nd rfl (Or.inl rfl) (pe_cal C__law_take (hr.mono (by first | decide | omega)) pass0 (pa_cons (pv 0) (pa_cons pe_int pa_nil))))
      (pss_cons (ps_if (pt_cmpR op_eq (pv 6) pe_int (nomark _))
        (pss_one (ps_ret (pe_cal C__law_several (hr.mono (by first | decide | omega)) pass0 (pa_cons (pv 0) (pa_cons (pe_ix (r := rIxL K) ix_list (pe_lstA (pa_cons (pv 4) (pa_cons (pv 5) pa_nil))) (pe_callTy call_int1 (by rfl) T.b_int (by decide +kernel) (pa_cons (pe_cmpR op_gt (pe_callB call_abs (by rfl) Tabs (by decide +kernel) (pa_cons (pv 4) pa_nil)) (pe_op op_pow pe_int pe_int) (nomark _)) pa_nil)) (fun _ _ => rfl)) pa_nil)))))
        pss_nil)
      (pss_cons (ps_set (i := 7) sc__law_great.nd rfl (Or.inl rfl) (pe_tupA (pa_cons pe_str (pa_cons (pv 4) pa_nil))))
      (pss_cons (ps_if (pt_cmpR op_eq (pv 6) pe_int (nomark _))
        (pss_one (ps_ret (pe_tupA (pa_cons (pe_cal C__law_wrapped (hr.mono (by first | decide | omega)) pass0 (pa_cons (pv 0) (pa_cons (pv 7) (pa_cons (pv 1) pa_nil)))) (pa_cons (pe_lstA pa_nil) (pa_cons pe_int pa_nil))))))
        pss_nil)
      (pss_cons (ps_set (i := 8) sc__law_great.nd rfl (Or.inl rfl) (pe_tupA (pa_cons pe_str (pa_cons pe_int pa_nil))))
      (pss_cons (ps_set (i := 9) sc__law_great.nd rfl (Or.inl rfl) (pe_tupA (pa_cons pe_str (pa_cons (pv 1) pa_nil))))
      (pss_cons (ps_set (i := 10) sc__law_great.nd rfl (Or.inl rfl) (pe_tupA (pa_cons pe_str (pa_cons pe_int pa_nil))))
      (pss_cons (ps_set (i := 11) sc__law_great.nd rfl (Or.inl rfl) (pe_tupA (pa_cons pe_str (pa_cons (pv 9) (pa_cons (pv 9) pa_nil)))))
      (pss_cons (ps_set (i := 12) sc__law_great.nd rfl (Or.inl rfl) (pe_lstA (pa_cons (pe_tupA (pa_cons (pv 7) (pa_cons pe_int pa_nil))) (pa_cons (pe_tupA (pa_cons (pv 9) (pa_cons (pv 4) pa_nil))) (pa_cons (pe_tupA (pa_cons (pe_tupA (pa_cons pe_str (pa_cons (pv 9) (pa_cons (pv 10) (pa_cons (pv 10) pa_nil))))) (pa_cons (pv 4) pa_nil))) (pa_cons (pe_tupA (pa_cons (pv 11) (pa_cons (pv 5) pa_nil))) pa_nil))))))
      (pss_cons (ps_set (i := 12) sc__law_great.nd rfl (Or.inl rfl) (pe_op op_catU (pv 12) (pe_lstA (pa_cons (pe_tupA (pa_cons (pe_tupA (pa_cons pe_str (pa_cons (pv 8) (pa_cons (pe_tupA (pa_cons pe_str (pa_cons (pv 7) (pa_cons (pe_tupA (pa_cons (pv 1) pa_nil)) pa_nil)))) (pa_cons (pv 10) pa_nil))))) (pa_cons pe_int pa_nil))) (pa_cons (pe_tupA (pa_cons (pe_tupA (pa_cons pe_str (pa_cons (pv 10) (pa_cons (pv 10) (pa_cons (pv 7) pa_nil))))) (pa_cons pe_int pa_nil))) pa_nil)))))
      (pss_cons (ps_set (i := 12) sc__law_great.nd rfl (Or.inl rfl) (pe_op op_catU (pv 12) (pe_lstA (pa_cons (pe_tupA (pa_cons (pe_tupA (pa_cons pe_str (pa_cons (pv 7) (pa_cons (pv 10) (pa_cons (pv 10) pa_nil))))) (pa_cons pe_int pa_nil))) (pa_cons (pe_tupA (pa_cons (pe_tupA (pa_cons pe_str (pa_cons (pv 7) (pa_cons (pv 8) pa_nil)))) (pa_cons pe_int pa_nil))) pa_nil)))))
      (pss_cons (ps_set (i := 12) sc__law_great.nd rfl (Or.inl rfl) (pe_op op_catU (pv 12) (pe_lstA (pa_cons (pe_tupA (pa_cons (pe_tupA (pa_cons pe_str (pa_cons (pv 7) (pa_cons (pv 7) pa_nil)))) (pa_cons pe_int pa_nil))) (pa_cons (pe_tupA (pa_cons (pe_tupA (pa_cons pe_str (pa_cons (pv 10) (pa_cons (pe_tupA (pa_cons pe_str (pa_cons (pe_op op_sub pe_int (pe_callB call_abs (by rfl) Tabs (by decide +kernel) (pa_cons (pv 4) pa_nil))) pa_nil))) pa_nil)))) (pa_cons pe_int pa_nil))) pa_nil)))))
      (pss_cons (ps_set (i := 12) sc__law_great.nd rfl (Or.inl rfl) (pe_op op_catU (pv 12) (pe_lstA (pa_cons (pe_tupA (pa_cons (pe_tupA (pa_cons pe_str (pa_cons (pv 7) (pa_cons (pe_tupA (pa_cons (pv 1) pa_nil)) pa_nil)))) (pa_cons pe_int pa_nil))) (pa_cons (pe_tupA (pa_cons (pe_tupA (pa_cons pe_str (pa_cons (pv 9) (pa_cons (pv 9) pa_nil)))) (pa_cons (pe_op op_mul (pv 5) (pe_op op_pow pe_int pe_int)) pa_nil))) pa_nil)))))
      (pss_cons (ps_set (i := 12) sc__law_great.nd rfl (Or.inl rfl) (pe_op op_catU (pv 12) (pe_lstA (pa_cons (pe_tupA (pa_cons (pe_tupA (pa_cons pe_str (pa_cons (pv 11) (pa_cons (pv 10) (pa_cons (pv 10) pa_nil))))) (pa_cons (pv 5) pa_nil))) (pa_cons (pe_tupA (pa_cons (pe_tupA (pa_cons pe_str (pa_cons (pv 11) (pa_cons (pv 11) pa_nil)))) (pa_cons (pv 5) pa_nil))) pa_nil)))))
      (pss_cons (ps_set (i := 12) sc__law_great.nd rfl (Or.inl rfl) (pe_op op_catU (pv 12) (pe_lstA (pa_cons (pe_tupA (pa_cons (pe_tupA (pa_cons pe_str (pa_cons (pv 11) (pa_cons (pe_tupA (pa_cons (pv 1) pa_nil)) pa_nil)))) (pa_cons (pv 5) pa_nil))) (pa_cons (pe_tupA (pa_cons (pe_tupA (pa_cons pe_str (pa_cons (pv 8) (pa_cons (pv 11) pa_nil)))) (pa_cons (pv 5) pa_nil))) pa_nil)))))
      (pss_cons (ps_expr (pe_bm PySem.F.plainAttrs_list PySem.F.slot_list_append PySem.F.type_list_append mt_append (pv 12) (pa_cons (pe_tupA (pa_cons (pe_tupA (pa_cons pe_str (pa_cons (pv 8) (pa_cons (pv 7) pa_nil)))) (pa_cons pe_int pa_nil))) pa_nil)))
      (pss_cons (ps_asg (pe_ix (r := rIxL K) ix_list (pv 12) (pe_cal C__law_take (hr.mono (by first | decide | omega)) pass0 (pa_cons (pv 0) (pa_cons pe_int pa_nil))) (fun _ _ => rfl)) (pg_tup rfl (pgs_cons (pg_name (i := 13) sc__law_great.nd rfl (Or.inl rfl)) (pgs_cons (pg_name (i := 14) sc__law_great.nd rfl (Or.inl rfl)) pgs_nil))))
      (pss_cons (ps_asg (pe_cal C__law_all_reads (hr.mono (by first | decide | omega)) pass0 (pa_cons (pv 13) (pa_cons (pe_disp (pps_cons (pv 1) (pv 14) pps_nil) (by rfl) (by rfl) (fun z => by cases z) (by decide)) pa_nil))) (pg_tup rfl (pgs_cons (pg_name (i := 15) sc__law_great.nd rfl (Or.inl rfl)) (pgs_cons (pg_name (i := 16) sc__law_great.nd rfl (Or.inl rfl)) pgs_nil))))
      (pss_one (ps_ret (pe_tupA (pa_cons (pv 13) (pa_cons (pv 15) (pa_cons (pv 16) pa_nil)))))))))))))))))))))))))))))), ?_⟩
  refine ⟨_, rfl, _, _, rfl, rfl, ⟨by decide, by decide, by decide⟩, p, r, m, c, _, rfl, hp, by decide +kernel, by decide +kernel, c0, by omega, fun H1 small r1 c1' k1 p1 d0 d1 t0 t1 => ?_⟩
  have hs1 : small < 100000000000000000000 := by rw [← e20]; exact t1
  have f1 : Fr1 p H H1 := fun b u n e => by rw [k1 b n]; exact e
  have big : ∀ n : Int, n.natAbs < 10 ^ 100 → BigI (.int n) := fun n h => ⟨n, rfl, h⟩
  refine ⟨_, _, rfl, rfl, ⟨by decide, by decide, by decide⟩, _, _, rfl, rfl, _, rfl, _, _, rfl, rfl, _, _, rfl, rfl, ⟨by decide, by decide, by decide⟩, _, _, rfl, rfl, _, rfl, _, _, rfl, rfl, _, _, rfl, rfl, ⟨by decide, by decide, by decide⟩, _, rfl, _, _, rfl, rfl, _, _, rfl, rfl, ⟨by decide, by decide, by decide⟩, _, _, rfl, rfl, _, _, rfl, rfl, ⟨by decide, by decide, by decide⟩, le_line (Nat.le_of_ble_eq_true rfl), fun L1 Ha nL1 sL1 hL1 => ?_⟩
  refine ⟨_, rfl, _, _, rfl, rfl, ⟨by decide, by decide, by decide⟩, _, _, rfl, rfl, _, rfl, _, _, rfl, rfl, _, _, rfl, rfl, ⟨by decide, by decide, by decide⟩, _, rfl, _, _, rfl, rfl, _, _, rfl, rfl, ⟨by decide, by decide, by decide⟩, _, _, rfl, rfl, ⟨by decide, by decide, by decide⟩, _, _, rfl, rfl, (by unfold CMulW; decide +kernel), _, rfl, _, _, rfl, rfl, le_line (Nat.le_of_ble_eq_true rfl), fun L2 Hb nL2 sL2 hL2 => ?_⟩
  refine ⟨_, _, _, _, rfl, rfl, sL2 _ _ hL1, hL2, le_line (Nat.le_of_ble_eq_true rfl), fun L3 Hc nL3 sL3 hL3 => ?_⟩
  have s1c := Same.trans sL1 (Same.trans sL2 sL3)
  have pc := s1c _ _ p1
  have npL3 : p ≠ L3 := ne_of_none (sL2 _ _ (sL1 _ _ p1)) nL3
  refine ⟨_, rfl, _, rfl, p, r1, m, c1', 8, rfl, pc, by decide, small400 (by decide) (by decide), d0, by omega, fun H2 u2 r2 c2 k2 p2 i0 i1 u20 u21 => ?_⟩
  have hL32 := (k2 L3 npL3.symm).trans hL3
  obtain ⟨x2, hx2, at2⟩ := one_of (xs := ([.int (10 ^ (39 : Int).toNat - 1 - small), .int (10 ^ (40 : Int).toNat - 1 - small), .int (10 ^ (40 : Int).toNat + small), .int (10 ^ (40 : Int).toNat - 1), .int (10 ^ (40 : Int).toNat)] ++ [.int (10 ^ (41 : Int).toNat - 1 - small), .int (10 ^ (60 : Int).toNat + small), .int (10 ^ (60 : Int).toNat * 10 ^ (39 : Int).toNat + small)] : List V)) u20 (by show u2 < 8; exact u21)
  obtain ⟨n2, rfl, hn2⟩ : BigI x2 := by
    simp only [List.cons_append, List.nil_append, List.mem_cons, List.not_mem_nil, or_false] at hx2
    rw [e39, e40, e41, e60] at hx2
    rcases hx2 with h | h | h | h | h | h | h | h <;> rw [h] <;> exact big _ (by omega)
  refine ⟨L3, _, u2, _, rfl, rfl, SqL.of hL32, at2, ?_⟩
  refine ⟨_, rfl, le_line (Nat.le_of_ble_eq_true rfl), fun L4 Hd nL4 sL4 hL4 => ?_⟩
  have f12 : Fr1 p H1 H2 := fun b u n e => by rw [k2 b n]; exact s1c _ _ e
  have pd := sL4 _ _ p2
  have npL4 : p ≠ L4 := ne_of_none p2 nL4
  refine ⟨_, rfl, p, r2, m, c2, 2, rfl, pd, by decide, small400 (by decide) (by decide), i0, by omega, fun H3 u3 r3 c3 k3 p3 j0 j1 u30 u31 => ?_⟩
  have hL43 := (k3 L4 npL4.symm).trans hL4
  obtain ⟨x3, hx3, at3⟩ := one_of (xs := ([.int 1, .int (-1)] : List V)) u30 u31
  obtain ⟨n3, rfl, hn3, hn4⟩ : ∃ n : Int, x3 = .int n ∧ n.natAbs = 1 ∧ (-(2 ^ 64) < n ∧ n < 2 ^ 64) := by
    simp only [List.mem_cons, List.not_mem_nil, or_false] at hx3
    rcases hx3 with h | h <;> rw [h] <;> exact ⟨_, rfl, by decide, by decide, by decide⟩
  refine ⟨L4, _, u3, _, rfl, rfl, SqL.of hL43, at3, _, _, rfl, rfl, .inr hn4, ?_⟩
  have f23 : Fr1 p H2 H3 := fun b u n e => by rw [k3 b n]; exact sL4 _ _ e
  obtain ⟨num, hnm, hnum0⟩ : ∃ num : Int, num = n2 * n3 ∧ num.natAbs < 10 ^ 100 := ⟨_, rfl, by rw [Int.natAbs_mul, hn3, Nat.mul_one]; exact hn2⟩
  show gName 4 (V.int (n2 * n3)) _ _ _
  rw [← hnm]
  have cap : (10 : Nat) ^ 100 ≤ 2 ^ 400 := by decide +kernel
  have hnum : num.natAbs < 2 ^ 400 := Nat.lt_of_lt_of_le hnum0 cap
  refine ⟨_, _, rfl, rfl, ⟨by decide, by decide, by decide⟩, _, _, rfl, rfl, _, _, rfl, rfl, ⟨by decide, by decide, by decide⟩, _, _, rfl, rfl, ⟨by decide, by decide, by decide⟩, _, _, rfl, rfl, _, rfl, _, _, rfl, rfl, ⟨by decide, by decide +kernel⟩, _, _, rfl, rfl, _, _, rfl, rfl, ⟨by decide, by decide, by decide⟩, _, rfl, _, _, rfl, rfl, _, _, rfl, rfl, ⟨by decide, by decide, by decide⟩, _, rfl, _, _, rfl, rfl, le_line (Nat.le_of_ble_eq_true rfl), fun L5 He nL5 sL5 hL5 => ?_⟩
  refine ⟨_, rfl, _, _, rfl, rfl, ⟨by decide, by decide, by decide⟩, _, rfl, _, _, rfl, rfl, le_line (Nat.le_of_ble_eq_true rfl), fun L6 Hf nL6 sL6 hL6 => ?_⟩
  refine ⟨_, _, _, _, rfl, rfl, sL6 _ _ hL5, hL6, le_line (Nat.le_of_ble_eq_true rfl), fun L7 Hg nL7 sL7 hL7 => ?_⟩
  have s3g := Same.trans sL5 (Same.trans sL6 sL7)
  have pg := s3g _ _ p3
  have npL7 : p ≠ L7 := ne_of_none (sL6 _ _ (sL5 _ _ p3)) nL7
  refine ⟨_, rfl, p, r3, m, c3, 6, rfl, pg, by decide, small400 (by decide) (by decide), j0, by omega, fun H4 u4 r4 c4 k4 p4 l0 l1 u40 u41 => ?_⟩
  have hL74 := (k4 L7 npL7.symm).trans hL7
  obtain ⟨x4, hx4, at4⟩ := one_of (xs := ([.int (10 ^ (20 : Int).toNat - 1), .int (10 ^ (20 : Int).toNat), .int (10 ^ (20 : Int).toNat - 1 - small / 2), .int (10 ^ (21 : Int).toNat + small), .int (10 ^ (37 : Int).toNat + small)] ++ [.int (10 ^ (49 : Int).toNat - small)] : List V)) u40 (by show u4 < 6; exact u41)
  obtain ⟨root, rfl, hroot⟩ : ∃ n : Int, x4 = .int n ∧ n.natAbs < 10 ^ 50 := by
    simp only [List.cons_append, List.nil_append, List.mem_cons, List.not_mem_nil, or_false] at hx4
    rw [e20, e21, e37, e49] at hx4
    rcases hx4 with h | h | h | h | h | h <;> rw [h] <;> exact ⟨_, rfl, by omega⟩
  refine ⟨L7, _, u4, _, rfl, rfl, SqL.of hL74, at4, ?_⟩
  have f34 : Fr1 p H3 H4 := fun b u n e => by rw [k4 b n]; exact s3g _ _ e
  refine ⟨_, rfl, p, r4, m, c4, 4, rfl, p4, by decide, small400 (by decide) (by decide), l0, by omega, fun H5 way r5 c5 k5 p5 q0 q1 w0 w1 => ?_⟩
  have f5 : Fr1 p H H5 := f1.trans (f12.trans (f23.trans (f34.trans fun b u n e => by rw [k5 b n]; exact e)))
  have hroot4 : root.natAbs < 2 ^ 400 := Nat.lt_of_lt_of_le hroot (by decide +kernel)
  refine ⟨_, rfl, rfl, _, rfl, ?_⟩
  by_cases cw : way = 0
  · refine iteY (by rw [cw]) ?_
    refine ⟨_, rfl, _, rfl, _, rfl, le_line (Nat.le_of_ble_eq_true rfl), fun L8 Hh nL8 sL8 hL8 => ?_⟩
    refine ⟨_, rfl, num, rfl, _, _, rfl, rfl, ⟨by decide, by decide, by decide⟩, _, _, rfl, rfl, .inr ⟨_, rfl, ?_⟩⟩
    obtain ⟨nn, hat8, hnn⟩ : ∃ nn : Int, atI ([.int num, .int root] : List V) (if decide (10 ^ (61 : Int).toNat < if num < 0 then -num else num) = true then 1 else 0) = some (.int nn) ∧ nn.natAbs < 2 ^ 400 := by
      cases decide (10 ^ (61 : Int).toNat < if num < 0 then -num else num) with
      | true => exact ⟨root, rfl, hroot4⟩
      | false => exact ⟨num, rfl, hnum⟩
    refine ⟨L8, _, _, .int nn, rfl, rfl, SqL.of hL8, hat8, ?_⟩
    exact ⟨p, nn, r5, m, c5, rfl, sL8 _ _ p5, hnn, q0, by omega, fun H' v x rd wo r' c' ff hv hw hp' a0 a1 => q H' v x rd wo r' c' (f5.trans ((Fr1.of sL8).trans ff)) hv hw hp' a0 (by omega)⟩
  refine iteN (fun z => cw (V.int.inj z)) ?_
  refine ⟨_, rfl, le_line (Nat.le_of_ble_eq_true rfl), fun aG Ja nG sG hG => ?_⟩
  have pa := sG _ _ p5
  refine ⟨_, rfl, rfl, _, rfl, ?_⟩
  have b4 : (4 : Int).natAbs < 2 ^ 1000 := Nat.lt_of_lt_of_le (by decide : (4 : Int).natAbs < 2 ^ 20) (Nat.pow_le_pow_right (by decide) (by decide))
  by_cases cw1 : way = 1
  · refine iteY (by rw [cw1]) ?_
    refine ⟨_, rfl, _, rfl, _, rfl, p, .ref aG, r5, m, c5, .num num, own, rfl, pa, ⟨aG, rfl, hG⟩, hnum, (by show 1 ≤ 2; decide), (by show 1 ≤ 4; decide), ho, q0, by omega, fun H6 v y r6 c6 ff hv hb hd hz hp6 a0 a1 => ?_⟩
    refine ⟨le_line (Nat.le_of_ble_eq_true rfl), fun Le Jb nLe sLe hLe => ?_⟩
    refine ⟨le_line (Nat.le_of_ble_eq_true rfl), fun z Jc nz sz hz2 => ?_⟩
    exact q Jc (.ref z) y [] 4 r6 c6 (f5.trans ((Fr1.of sG).trans (ff.trans (Fr1.of (Same.trans sLe sz))))) ⟨z, Le, v, [], rfl, hz2, sz _ _ hLe, (hv.same sLe).same sz, trivial⟩ ⟨hb, by omega, by omega, fun _ h => (nomatch h), Nat.zero_le _, b4⟩ (sz _ _ (sLe _ _ hp6)) a0 (by omega)
  refine iteN (fun z => cw1 (V.int.inj z)) ?_
  refine ⟨le_line (Nat.le_of_ble_eq_true rfl), fun aN Jb nN sN hN => ?_⟩
  refine ⟨_, rfl, le_line (Nat.le_of_ble_eq_true rfl), fun aR Jc nR sR hR => ?_⟩
  refine ⟨le_line (Nat.le_of_ble_eq_true rfl), fun aF Jd nF sF hF => ?_⟩
  refine ⟨_, rfl, _, rfl, le_line (Nat.le_of_ble_eq_true rfl), fun aT J0 nT sT hT => ?_⟩
  have g : Gr J0 p r5 m c5 num own (.ref aG) (.ref aN) (.ref aR) (.ref aF) (.ref aT) := by
    have hR' := sT _ _ (sF _ _ hR)
    exact ⟨sT _ _ (sF _ _ (sR _ _ (sN _ _ pa))), ⟨aG, rfl, sT _ _ (sF _ _ (sR _ _ (sN _ _ hG)))⟩, ⟨aN, rfl, sT _ _ (sF _ _ (sR _ _ hN))⟩, ⟨aR, rfl, hR'⟩, ⟨aF, rfl, sT _ _ hF⟩, ⟨aT, _, _, rfl, hT, ⟨aR, rfl, hR'⟩, ⟨aR, rfl, hR'⟩⟩⟩
  have sAll : Same Ja J0 := Same.trans sN (Same.trans sR (Same.trans sF sT))
  refine in_name (σ' := [some (.ref p), some (.str (SX.S own)), some (.int small), some (.ref L5), some (.int num), some (.int root), some (.int way), some (.ref aG), some (.ref aN), some (.ref aR), some (.ref aF), some (.ref aT), none, none, none, none, none]) rfl ?_
  refine in_nx ?_
  refine in_seq ?_
  refine in_asg ?_
  refine rows_0 (L := p) ho hnum hroot rfl rfl rfl rfl rfl rfl rfl rfl g fun L0 K0 _ z0 rows => ?_
  replace sAll := Same.trans sAll z0
  replace g := g.same z0
  refine in_name (σ' := [some (.ref p), some (.str (SX.S own)), some (.int small), some (.ref L5), some (.int num), some (.int root), some (.int way), some (.ref aG), some (.ref aN), some (.ref aR), some (.ref aF), some (.ref aT), some (.ref L0), none, none, none, none]) rfl ?_
  refine in_nx ?_
  refine in_seq ?_
  refine in_asg ?_
  refine rows_1 ho hnum hroot rfl rfl rfl rfl rfl rfl rfl rfl g rfl rows fun L11 K1 fz z1 rows => ?_
  have sB := sAll
  replace sAll := Same.trans sAll z1
  replace g := g.same z1
  refine in_name (σ' := [some (.ref p), some (.str (SX.S own)), some (.int small), some (.ref L5), some (.int num), some (.int root), some (.int way), some (.ref aG), some (.ref aN), some (.ref aR), some (.ref aF), some (.ref aT), some (.ref L11), none, none, none, none]) rfl ?_
  refine in_nx ?_
  refine in_seq ?_
  refine in_asg ?_
  refine rows_2 ho hnum hroot rfl rfl rfl rfl rfl rfl rfl rfl g rfl rows fun L12 K2 fz z2 rows => ?_
  have sB := sAll
  replace sAll := Same.trans sAll z2
  replace g := g.same z2
  refine in_name (σ' := [some (.ref p), some (.str (SX.S own)), some (.int small), some (.ref L5), some (.int num), some (.int root), some (.int way), some (.ref aG), some (.ref aN), some (.ref aR), some (.ref aF), some (.ref aT), some (.ref L12), none, none, none, none]) rfl ?_
  refine in_nx ?_
  refine in_seq ?_
  refine in_asg ?_
  refine rows_3 ho hnum hroot rfl rfl rfl rfl rfl rfl rfl rfl g rfl rows fun L13 K3 fz z3 rows => ?_
  have sB := sAll
  replace sAll := Same.trans sAll z3
  replace g := g.same z3
  refine in_name (σ' := [some (.ref p), some (.str (SX.S own)), some (.int small), some (.ref L5), some (.int num), some (.int root), some (.int way), some (.ref aG), some (.ref aN), some (.ref aR), some (.ref aF), some (.ref aT), some (.ref L13), none, none, none, none]) rfl ?_
  refine in_nx ?_
  refine in_seq ?_
  refine in_asg ?_
  refine rows_4 ho hnum hroot rfl rfl rfl rfl rfl rfl rfl rfl g rfl rows fun L14 K4 fz z4 rows => ?_
  have sB := sAll
  replace sAll := Same.trans sAll z4
  replace g := g.same z4
  refine in_name (σ' := [some (.ref p), some (.str (SX.S own)), some (.int small), some (.ref L5), some (.int num), some (.int root), some (.int way), some (.ref aG), some (.ref aN), some (.ref aR), some (.ref aF), some (.ref aT), some (.ref L14), none, none, none, none]) rfl ?_
  refine in_nx ?_
  refine in_seq ?_
  refine in_asg ?_
  refine rows_5 ho hnum hroot rfl rfl rfl rfl rfl rfl rfl rfl g rfl rows fun L15 K5 fz z5 rows => ?_
  have sB := sAll
  replace sAll := Same.trans sAll z5
  replace g := g.same z5
  refine in_name (σ' := [some (.ref p), some (.str (SX.S own)), some (.int small), some (.ref L5), some (.int num), some (.int root), some (.int way), some (.ref aG), some (.ref aN), some (.ref aR), some (.ref aF), some (.ref aT), some (.ref L15), none, none, none, none]) rfl ?_
  refine in_nx ?_
  refine in_seq ?_
  refine in_asg ?_
  refine rows_6 ho hnum hroot rfl rfl rfl rfl rfl rfl rfl rfl g rfl rows fun L16 K6 fz z6 rows => ?_
  have sB := sAll
  replace sAll := Same.trans sAll z6
  replace g := g.same z6
  obtain ⟨xs, hL, hlen, hrow⟩ := rows
  have nLp : L16 ≠ p := fun z => by
    have hp := g.p
    rw [← z, hL] at hp
    have e := congrArg List.length (HO.lst.inj (Option.some.inj hp))
    rw [hlen] at e
    exact absurd (show (17 : Nat) - 1 = 3 from e) (by decide)
  refine in_name (σ' := [some (.ref p), some (.str (SX.S own)), some (.int small), some (.ref L5), some (.int num), some (.int root), some (.int way), some (.ref aG), some (.ref aN), some (.ref aR), some (.ref aF), some (.ref aT), some (.ref L16), none, none, none, none]) rfl ?_
  refine in_nx ?_
  refine in_seq ?_
  refine ⟨_, rfl, .inl ⟨rfl, _, SqL.of hL⟩, _, rfl, _, rfl, le_line (Nat.le_of_ble_eq_true rfl), fun aX K7 nX sX hX => ?_⟩
  refine ⟨le_line (Nat.le_of_ble_eq_true rfl), fun aY K8 nY sY hY => ?_⟩
  have s78 := Same.trans sX sY
  have g8 := g.same s78
  have hL8 := s78 _ _ hL
  have okG : OkL own 1 (.num num) := okl_num hnum
  have wY : RowOk own K8 (.ref aY) := ⟨aY, _, (.two .times (.num 0) (.num num)), _, rfl, hY, ⟨aX, _, _, rfl, sY _ _ hX, g8.N, g8.G⟩, (okl_times (okl_num (told0 (n := 0) (by decide))) okG).mono (by decide : 2 ≤ 3), told0 (n := 0) (by decide)⟩
  have all8 : ∀ v ∈ xs ++ [.ref aY], RowOk own K8 v := fun v hv => (List.mem_append.mp hv).elim (fun h => (hrow v h).same s78) (fun h => by rw [List.mem_singleton.mp h]; exact wY)
  refine ⟨L16, xs, _, rfl, rfl, hL8, lt_line (by rw [hlen]; decide), ?_⟩
  obtain ⟨K9, hK9⟩ : ∃ K9, K9 = upd K8 L16 (.lst (xs ++ [.ref aY])) := ⟨_, rfl⟩
  have hL9 : K9 L16 = some (.lst (xs ++ [.ref aY])) := by rw [hK9]; exact upd_same
  have p9 : K9 p = some (.lst (pl r5 m c5)) := by rw [hK9, upd_ne (Ne.symm nLp)]; exact g8.p
  have k89 : Keep K8 K9 := fun b ys e => by
    rw [hK9, upd_ne (fun z => by rw [z, hL8] at e; cases e)]
    exact e
  have fr9 : Fr1 L16 K8 K9 := fun b u n e => by rw [hK9, upd_ne n]; exact e
  rw [← hK9]
  refine ⟨_, rfl, _, rfl, p, r5, m, c5, 17, rfl, p9, by decide, small400 (by decide) (by decide), q0, by omega, fun K10 u6 r6 c6 k6 p6 a0 a1 u60 u61 => ?_⟩
  have hL10 := (k6 L16 nLp).trans hL9
  obtain ⟨x6, hx6, at6⟩ := one_of (xs := xs ++ [.ref aY]) u60 (by rw [List.length_append, hlen]; exact u61)
  have k810 : Keep K8 K10 := fun b ys e => (Fr1.keep p9 (fun b u n e => by rw [k6 b n]; exact e)) b ys (k89 b ys e)
  obtain ⟨t, rv, x, told, rfl, ht, hR, ok, htold⟩ := (all8 x6 hx6).keep k810
  refine ⟨L16, _, u6, _, rfl, rfl, SqL.of hL10, at6, t, _, rfl, SqT.of ht, rfl, _, _, rfl, _, _, rfl, rfl, ?_⟩
  refine ⟨_, rfl, fun D nD => ?_⟩
  refine ⟨_, rfl, _, rfl, upd_same, [(kT (SX.S own), .int told)], rfl, (by show 1 ≤ 15; decide), ?_⟩
  have em : mergeK [] [(kT (SX.S own), V.int told)] = [(kT (SX.S own), V.int told)] := rfl
  rw [em]
  have nDp : p ≠ D := ne_of_none p6 nD
  obtain ⟨K11, hK11⟩ : ∃ K11, K11 = upd (upd K10 D (.dK [])) D (.dK [(kT (SX.S own), .int told)]) := ⟨_, rfl⟩
  have hD11 : K11 D = some (.dK [(kT (SX.S own), .int told)]) := by rw [hK11]; exact upd_same
  have s11 : Same K10 K11 := fun b u e => by
    have nb : b ≠ D := fun z => by rw [z, nD] at e; cases e
    rw [hK11, upd_ne nb, upd_ne nb]
    exact e
  rw [← hK11]
  have hd3 := ok.dep
  have hz3 : x.siz ≤ 64 := ok.siz
  refine ⟨rv, D, x, _, fun _ => told, [own], rfl, hR.same s11, ok.nb, by omega, hD11, fun s hs => ?_, (by show 1 ≤ 90; decide), fun K12 t2 R ys rd y s12 ht2 hR2 hP hout hg h90 => ?_⟩
  · have es := ok.nms s hs
    rw [es]
    refine ⟨List.mem_singleton.mpr rfl, ?_, htold⟩
    have := valV_put (kvs := []) (k := kT (SX.S own)) (y := V.int told) (j := kT (SX.S own))
    rw [if_pos rfl] at this
    exact this
  refine ⟨t2, _, rfl, SqT.of ht2, rfl, _, _, rfl, _, _, rfl, rfl, ?_⟩
  refine ⟨_, rfl, _, rfl, _, rfl, le_line (Nat.le_of_ble_eq_true rfl), fun z K13 nz sz hz => ?_⟩
  have nLH : H L16 = none := by
    cases e : H L16 with
    | none => rfl
    | some u => rw [sB _ _ (sG _ _ (f5 L16 u nLp e))] at fz; cases fz
  have fA : Fr1 p H K13 := fun b u e1 e => by
    have e2 : b ≠ L16 := fun zz => by rw [zz, nLH] at e; cases e
    have h9 := fr9 b u e2 (s78 _ _ (sAll _ _ (sG _ _ (f5 b u e1 e))))
    have h10 : K10 b = some u := by rw [k6 b e1]; exact h9
    exact sz _ _ (s12 _ _ (s11 _ _ h10))
  exact q K13 (.ref z) x rd y r6 c6 fA ⟨z, R, rv, ys, rfl, hz, sz _ _ hR2, ((hR.same s11).same s12).same sz, hP.same sz⟩ ⟨ok.nb, by omega, by omega, hg.sm, h90, out_small hg.sm ok.nb ok.tm (by omega) hout⟩ (sz _ _ (s12 _ _ (s11 _ _ p6))) a0 (by omega)
end
/-! ### texts spoilt -/
theorem pet_ix {X : Cx} {a b : Expr} {ta tb : TE} {pos : Pos} {r : R2} (hr : IxR X r) (ha : PET X a ta) (hb : PE X b tb) (hs : PlainIx b) : PET X (.Subscript a b pos) (tOp r ta tb) := by
  intro pins s σ H Q h0 I h
  exact Subscript_ (thn (ha pins s σ H _ h0 I h) fun v s1 ⟨x, H1, I1, rx, q1⟩ => thn (hb.run pins s1 σ H1 _ I1 q1) fun u s2 ⟨y, H2, I2, ry, q2⟩ => hr a b pins s2 σ H2 x y v u Q I2 rx ry q2 (hs _ _))
theorem replS_ok {y z : List Nat} (hz : z.length ≤ 1) : ∀ (l : List Nat) (k : Nat), (StrLaws.replS y z k l).length ≤ l.length ∧ ∀ c ∈ StrLaws.replS y z k l, c ∈ z ∨ c ∈ l
  | [], k => by cases k <;> exact ⟨Nat.le_refl _, fun _ h => nomatch h⟩
  | a :: l, 0 => by
    rw [StrLaws.replS]
    by_cases e : (a :: l).take y.length = y
    · rw [if_pos e]
      obtain ⟨h1, h2⟩ := replS_ok (y := y) hz l (y.length - 1)
      refine ⟨by rw [List.length_append, List.length_cons]; omega, fun c hc => ?_⟩
      rcases List.mem_append.mp hc with h | h
      · exact .inl h
      · exact (h2 c h).imp id (List.mem_cons_of_mem _)
    · rw [if_neg e]
      obtain ⟨h1, h2⟩ := replS_ok (y := y) hz l 0
      refine ⟨by rw [List.length_cons, List.length_cons]; omega, fun c hc => ?_⟩
      rcases List.mem_cons.mp hc with h | h
      · exact .inr (by rw [h]; exact List.mem_cons_self ..)
      · exact (h2 c h).imp id (List.mem_cons_of_mem _)
  | a :: l, k + 1 => by
    rw [StrLaws.replS]
    obtain ⟨h1, h2⟩ := replS_ok (y := y) hz l k
    exact ⟨by rw [List.length_cons]; omega, fun c hc => (h2 c hc).imp id (List.mem_cons_of_mem _)⟩
theorem repl_S {z : List Nat} {y w : Str} (hy : 1 ≤ y.length) (hw : w.length ≤ 1) (hwc : ∀ c ∈ w.cps.toList, c < 128) (hz : ∀ c ∈ z, c < 128) : ∃ l, Txt.replace (SX.S z) y w = SX.S l ∧ l.length ≤ z.length ∧ ∀ c ∈ l, c < 128 := by
  have e := StrLaws.replace_list (x := SX.S z) (z := w) hy
  have ez : (SX.S z).cps.toList = z := by show z.toArray.toList = z; rw [List.toList_toArray]
  have hw' : w.cps.toList.length ≤ 1 := by have e2 : w.cps.toList.length = w.length := by simp [Str.length]
                                           rw [e2]; exact hw
  obtain ⟨h1, h2⟩ := replS_ok (y := y.cps.toList) hw' z 0
  refine ⟨(Txt.replace (SX.S z) y w).cps.toList, ?_, ?_, ?_⟩
  · show _ = (⟨(Txt.replace (SX.S z) y w).cps.toList.toArray⟩ : Str)
    rw [Array.toArray_toList]
  · rw [e, ez]
    exact h1
  · intro c hc
    rw [e, ez] at hc
    exact (h2 c hc).elim (hwc c) (hz c)
def FineT (z : List Nat) (n : Nat) : Prop := z.length ≤ n ∧ ∀ c ∈ z, c < 128
theorem FineT.tame {z : List Nat} (h : FineT z 49000) : tameS z = true := tame_of (by have := h.1; omega) h.2
def Mild (rd : List Pr) : Prop := ∀ p ∈ rd, Nm p.1 ∧ p.2.natAbs < 2 ^ 300
theorem Mild.small {rd : List Pr} (h : Mild rd) : Small rd := fun p hp => ⟨(h p hp).1, Nat.lt_of_lt_of_le (h p hp).2 (Nat.pow_le_pow_right (by decide) (by decide))⟩
def spSpoiltT : Sp := fun vs H Q _ => ∃ (v : V) (p : Addr) (x : Rcp) (rd : List Pr) (wo r m c : Int), vs = [v, .ref p] ∧ RecAt H x rd wo v ∧ x.Nb ∧ x.dep ≤ 12 ∧ x.siz ≤ 100 ∧ Mild rd ∧ rd.length ≤ 7 ∧ wo.natAbs < 2 ^ 1000 ∧ H p = some (.lst (pl r m c)) ∧ 0 ≤ c ∧ c ≤ 890000 ∧
  ∀ (H' : Hp) (z : List Nat) (r' c' : Int), Fr1 p H H' → FineT z 49000 → H' p = some (.lst (pl r' m c')) → 0 ≤ c' → c' ≤ c + 10 → Q (.str (SX.S z)) H'
theorem signs_two : ∃ l, (("abcdefghijklmnopqrstuvwxyz0123456789-=,[](){}?:+*^ ABCDEFGHIJKLMNOPQRSTUVWXYZ.\t\n" : Str) ++ ("0123456789-=,[] !\"#$&'/;<>@\\_`|~" : Str)) = SX.S l ∧ l.length = 112 ∧ ∀ c ∈ l, c < 128 := by
  refine ⟨(("abcdefghijklmnopqrstuvwxyz0123456789-=,[](){}?:+*^ ABCDEFGHIJKLMNOPQRSTUVWXYZ.\t\n" : Str) ++ ("0123456789-=,[] !\"#$&'/;<>@\\_`|~" : Str)).cps.toList, ?_, by decide +kernel, by decide +kernel⟩
  decide +kernel
theorem Prs.revT {H : Hp} : ∀ {ps : List Pr} {vs : List V}, Prs H ps vs → Prs H ps.reverse vs.reverse
  | [], [], _ => trivial
  | p :: ps, v :: vs, ⟨⟨t, e, ht⟩, h⟩ => by
    rw [List.reverse_cons, List.reverse_cons, e]
    exact Prs.snoc ht (Prs.revT h)
  | [], _ :: _, h => h.elim
  | _ :: _, [], h => h.elim
theorem Prs.pl_neT {H : Hp} {rd : List Pr} {r m c : Int} {xs : List V} (h : Prs H rd xs) (e : pl r m c = xs) : False := by
  rw [← e] at h
  match rd, h with
  | _ :: _, ⟨⟨t, e, _⟩, _⟩ => cases e
theorem cutS_any (z : List Nat) (a b : Int) : ∃ l, cutS (SX.S z) (some a) (some b) = SX.S l ∧ l.length ≤ z.length ∧ ∀ c ∈ l, c ∈ z := by
  refine ⟨(z.drop (HT.sIx (SX.S z).length 0 (some a))).take (HT.sIx (SX.S z).length (SX.S z).length (some b) - HT.sIx (SX.S z).length 0 (some a)), ?_, by rw [List.length_take, List.length_drop]; omega, fun c hc => List.mem_of_mem_drop (List.mem_of_mem_take hc)⟩
  unfold cutS
  show (⟨((z.toArray.toList.drop _).take _).toArray⟩ : Str) = SX.S _
  rw [List.toList_toArray]
section
variable {P : Program} {w : World} {K : PySem.W.Frag} {mg : Str → Option Value} {base : Heap}
abbrev s__law_spoilt : Stmt := topS 73
abbrev N__law_spoilt : List Str := ["record", "pool", "text", "r", "reads", "worth", "at", "to", "signs", "sign", "way", "name", "number"]
theorem sc__law_spoilt : FnScope N__law_spoilt ["record", "pool"] (defScope s__law_spoilt) := ⟨rfl, rfl, rfl, by decide +kernel, rfl, by decide +kernel, by decide +kernel⟩

theorem ok__law_spoiltT (T : Txt K mg) (D : IsDef K mg "_law_spoilt" s__law_spoilt ["record", "pool"]) (C_take : Cal P w K mg base CX0 1 "_law_take" ["pool", "many"] spTakeL) (C_wri : Cal P w K mg base CX0 13 "_law_written" ["record"] spWritten) : Cal P w K mg base CX0 14 "_law_spoilt" ["record", "pool"] spSpoiltT := by
  have C__law_take := C_take.mono (show 1 ≤ 13 by omega)
  have C__law_written := C_wri
  refine D.cal sc__law_spoilt (fun vs H Q E h => ?_) (fun f cdv A outer s H vs Q E hr h => ?_)
  · obtain ⟨v, p, x, rd, wo, r, m, c, rfl, _⟩ := h
    rfl
  obtain ⟨v, p, x, rd, wo, r, m, c, rfl, hAt, hNb, hdp, hsz, hmd, hrl, hwo, hp, c0, c1, q⟩ := h
  have hw19 : wo.natAbs < 2 ^ 1900 := Nat.lt_of_lt_of_le hwo (Nat.pow_le_pow_right (by decide) (by decide))
  have hzl := recTx_len hNb hmd.small hw19
  have hz128 := recTx_low (w := wo) hNb hmd.small
  refine ⟨_, (pss_cons (ps_set (i := 2) sc__law_spoilt.nd rfl (Or.inl rfl) (pe_cal C__law_written (hr.mono (by first | decide | omega)) pass0 (pa_cons (pv 0) pa_nil)))
      (pss_cons (ps_asg (pv 0) (pg_tup rfl (pgs_cons (pg_name (i := 3) sc__law_spoilt.nd rfl (Or.inl rfl)) (pgs_cons (pg_name (i := 4) sc__law_spoilt.nd rfl (Or.inl rfl)) (pgs_cons (pg_name (i := 5) sc__law_spoilt.nd rfl (Or.inl rfl)) pgs_nil)))))
      (pss_cons (ps_set (i := 6) sc__law_spoilt.nd rfl (Or.inl rfl) (pe_cal C__law_take (hr.mono (by first | decide | omega)) pass0 (pa_cons (pv 1) (pa_cons (pe_op op_add (pe_callB call_len_str (by rfl) T.b_len PySem.boot_len (pa_cons (pv 2) pa_nil)) pe_int) pa_nil))))
      (pss_cons (ps_set (i := 7) sc__law_spoilt.nd rfl (Or.inl rfl) (pe_cal C__law_take (hr.mono (by first | decide | omega)) pass0 (pa_cons (pv 1) (pa_cons (pe_op op_add (pe_callB call_len_str (by rfl) T.b_len PySem.boot_len (pa_cons (pv 2) pa_nil)) pe_int) pa_nil))))
      (pss_str (i := 8) sc__law_spoilt.nd rfl (Or.inl rfl) (psst_cons (PST.of (ps_set (i := 8) sc__law_spoilt.nd rfl (Or.inl rfl) (pe_op op_add_str (pv 8) pe_str)))
      (psst_cons (PST.of (ps_set (i := 9) sc__law_spoilt.nd rfl (Or.inl rfl) (pe_ix (r := rIxS) ix_str (pv 8) (pe_cal C__law_take (hr.mono (by first | decide | omega)) pass0 (pa_cons (pv 1) (pa_cons (pe_callB call_len_str (by rfl) T.b_len PySem.boot_len (pa_cons (pv 8) pa_nil)) pa_nil))) (fun _ _ => rfl))))
      (psst_cons (PST.of (ps_set (i := 10) sc__law_spoilt.nd rfl (Or.inl rfl) (pe_cal C__law_take (hr.mono (by first | decide | omega)) pass0 (pa_cons (pv 1) (pa_cons pe_int pa_nil)))))
      (psst_cons (PST.of (ps_if (pt_cmpR op_lt (pv 10) pe_int (nomark _))
        (pss_one (ps_ret (pe_op op_add_str (pe_op op_add_str (pe_slice sl_str (pv 2) po_none (po_some (pv 6))) (pv 9)) (pe_slice sl_str (pv 2) (po_some (pv 6)) po_none))))
        pss_nil))
      (psst_cons (PST.of (ps_if (pt_cmpR op_lt (pv 10) pe_int (nomark _))
        (pss_one (ps_ret (pe_op op_add_str (pe_slice sl_str (pv 2) po_none (po_some (pv 6))) (pe_slice sl_str (pv 2) (po_some (pe_op op_add (pv 6) pe_int)) po_none))))
        pss_nil))
      (psst_cons (PST.of (ps_if (pt_cmpR op_lt (pv 10) pe_int (nomark _))
        (pss_one (ps_ret (pe_op op_add_str (pe_op op_add_str (pe_slice sl_str (pv 2) po_none (po_some (pv 6))) (pv 9)) (pe_slice sl_str (pv 2) (po_some (pe_op op_add (pv 6) pe_int)) po_none))))
        pss_nil))
      (psst_cons (PST.of (ps_if (pt_cmpR op_eq (pv 10) pe_int (nomark _))
        (pss_one (ps_ret (pe_op op_add_str (pe_op op_add_str (pe_slice sl_str (pv 2) po_none (po_some (pv 6))) (pe_slice sl_str (pv 2) (po_some (pe_callB (call_min2 rfl) (by rfl) T.b_min (by decide +kernel) (pa_cons (pv 6) (pa_cons (pv 7) pa_nil)))) (po_some (pe_callB (call_max2 rfl) (by rfl) T.b_max (by decide +kernel) (pa_cons (pv 6) (pa_cons (pv 7) pa_nil)))))) (pe_slice sl_str (pv 2) (po_some (pv 6)) po_none))))
        pss_nil))
      (psst_cons (PST.of (ps_if (pt_cmpR op_eq (pv 10) pe_int (nomark _))
        (pss_one (ps_ret (pe_slice sl_str (pv 2) (po_some (pe_callB (call_min2 rfl) (by rfl) T.b_min (by decide +kernel) (pa_cons (pv 6) (pa_cons (pv 7) pa_nil)))) (po_some (pe_callB (call_max2 rfl) (by rfl) T.b_max (by decide +kernel) (pa_cons (pv 6) (pa_cons (pv 7) pa_nil)))))))
        pss_nil))
      (psst_cons (PST.of (ps_if (pt_cmpR op_eq (pv 10) pe_int (nomark _))
        (pss_one (ps_ret (pe_cal C__law_written (hr.mono (by first | decide | omega)) pass0 (pa_cons (pe_tup (pa_cons (pv 3) (pa_cons (pv 4) (pa_cons (pe_op op_add (pv 5) (pe_ix (r := rIxL K) ix_list (pe_lst (pa_cons pe_int (pa_cons (pe_un un_neg pe_int) (pa_cons (pe_op op_pow pe_int pe_int) pa_nil)))) (pe_cal C__law_take (hr.mono (by first | decide | omega)) pass0 (pa_cons (pv 1) (pa_cons pe_int pa_nil))) (fun _ _ => rfl))) pa_nil)))) pa_nil))))
        pss_nil))
      (psst_cons (PST.of (ps_if (pt_cmpR op_eq (pv 10) pe_int (nomark _))
        (pss_one (ps_ret (pe_cal C__law_written (hr.mono (by first | decide | omega)) pass0 (pa_cons (pe_tup (pa_cons (pv 3) (pa_cons (pe_revL (pv 4)) (pa_cons (pv 5) pa_nil)))) pa_nil))))
        pss_nil))
      (psst_cons (PST.of (ps_if (pt_cmpR op_eq (pv 10) pe_int (nomark _))
        (pss_one (ps_ret (pe_cal C__law_written (hr.mono (by first | decide | omega)) pass0 (pa_cons (pe_tup (pa_cons (pv 3) (pa_cons (pe_lc (own := [("name", 11), ("number", 12)]) (g := gTup K 2 (gCons (gName 11) (gCons (gName 12) gNil)))  (by rfl) sc__law_spoilt.nd  (pi_list (pv 4)) (blkOk_by (own := [("name", 11), ("number", 12)]) (N := N__law_spoilt) (sc := defScope s__law_spoilt) (by decide +kernel)) (fun _ _ _ _ _ => (pg_tup rfl (pgs_cons (pg_name (i := 11) sc__law_spoilt.nd rfl (Or.inl rfl)) (pgs_cons (pg_name (i := 12) sc__law_spoilt.nd rfl (Or.inl rfl)) pgs_nil)))) (fun _ _ _ _ _ => pts_nil) (fun _ _ _ _ _ => (pe_tup (pa_cons (pv 11) (pa_cons (pe_op op_add (pv 12) pe_int) pa_nil))))) (pa_cons (pv 5) pa_nil)))) pa_nil))))
        pss_nil))
      (CwR.psst_one (CwR.pst_ret (pet_ix (r := rIxL K) ix_list (pet_lst (pat_cons (CwR.PET.of (pe_op op_add_str pe_str (pv 2))) (pat_cons (CwR.PET.of (pe_op op_add_str (pv 2) pe_str)) (pat_cons (CwR.pet_replC (pv 2)) (pat_cons (CwR.pet_replC (pv 2)) pat_nil))))) (pe_cal C__law_take (hr.mono (by first | decide | omega)) pass0 (pa_cons (pv 1) (pa_cons pe_int pa_nil))) (fun _ _ => rfl)))))))))))))))))))), ?_⟩
  refine ⟨_, rfl, v, x, rd, wo, rfl, hAt, hNb, hdp, by omega, hmd.small, by omega, hw19, fun H1 s1 => ?_⟩
  generalize recTx x rd wo = z at hzl hz128 ⊢
  have hzl2 : z.length ≤ 21700 := by omega
  have hz : (SX.S z).length ≤ sizeLine := by rw [SX.S_len]; exact le_line (by omega)
  obtain ⟨t, L, rv, xs, rfl, ht, hL, hRc, hP⟩ := hAt
  refine ⟨_, rfl, t, _, rfl, SqT.of (s1 _ _ ht), rfl, _, _, rfl, _, _, rfl, _, _, rfl, rfl, ?_⟩
  have lz : (0 : Int) < (((SX.S z).length : Nat) : Int) + 1 := by omega
  have lz2 : ((((SX.S z).length : Nat) : Int) + 1).natAbs < 2 ^ 400 := by rw [SX.S_len]; exact small400 (by omega) (by omega)
  refine ⟨_, rfl, _, rfl, _, rfl, hz, _, _, rfl, rfl, p, r, m, c, _, rfl, s1 _ _ hp, lz, lz2, c0, by omega, fun H2 a r2 c2 k2 p2 i0 i1 a0 a1 => ?_⟩
  refine ⟨_, rfl, _, rfl, _, rfl, hz, _, _, rfl, rfl, p, r2, m, c2, _, rfl, p2, lz, lz2, i0, by omega, fun H3 b r3 c3 k3 p3 j0 j1 b0 b1 => ?_⟩
  rw [SX.S_len] at a1 b1
  obtain ⟨an, rfl⟩ : ∃ an : Nat, a = (an : Int) := ⟨a.toNat, by omega⟩
  obtain ⟨bn, rfl⟩ : ∃ bn : Nat, b = (bn : Int) := ⟨b.toNat, by omega⟩
  obtain ⟨sl, sl1, sl2, sl3⟩ := signs_two
  refine ⟨_, rfl, _, _, rfl, rfl, le_line (Nat.le_of_ble_eq_true rfl), ?_⟩
  rw [sl1]
  have hsl : (SX.S sl).length = 112 := by rw [SX.S_len]; exact sl2
  refine ⟨_, rfl, _, rfl, _, rfl, _, rfl, (by rw [hsl]; exact le_line (by decide)), p, r3, m, c3, _, rfl, p3, (by rw [hsl]; decide), (by rw [hsl]; exact small400 (by decide) (by decide)), j0, by omega, fun H4 u4 r4 c4 k4 p4 l0 l1 u40 u41 => ?_⟩
  rw [hsl] at u41
  obtain ⟨un, rfl⟩ : ∃ un : Nat, u4 = (un : Int) := ⟨u4.toNat, by omega⟩
  have hun : un < sl.length := by omega
  refine ⟨_, _, sl[un], rfl, rfl, (by rw [hsl]; exact le_line (by decide)), atI_nat (by show sl.toArray.toList[un]? = _; rw [List.toList_toArray]; exact List.getElem?_eq_getElem hun), ?_⟩
  have hsg := sl3 _ (List.getElem_mem hun)
  generalize sl[un] = sg at hsg ⊢
  refine ⟨_, rfl, p, r4, m, c4, 12, rfl, p4, by decide, small400 (by decide) (by decide), l0, by omega, fun H5 way r5 c5 k5 p5 q0 q1 w0 w1 => ?_⟩
  refine in_name (σ' := [some (.ref t), some (.ref p), some (.str (SX.S z)), some rv, some (.ref L), some (.int wo), some (.int an), some (.int bn), some (.str (SX.S sl)), some (.str (SX.S [sg])), some (.int way), none, none]) rfl ?_
  refine in_nx ?_
  have f5 : Fr1 p H H5 := fun b u n e => by rw [k5 b n, k4 b n, k3 b n, k2 b n]; exact s1 _ _ e
  have fin : ∀ (l : List Nat), l.length ≤ 49000 → (∀ c ∈ l, c < 128) → Q (.str (SX.S l)) H5 := fun l hl h => q H5 l r5 c5 f5 ⟨hl, h⟩ p5 q0 (by omega)
  have e1 : cutS (SX.S z) none (some (an : Int)) = SX.S (z.take an) := cutS_to z an
  have e2 : cutS (SX.S z) (some (an : Int)) none = SX.S (z.drop an) := cutS_from5 z an
  have e3 : cutS (SX.S z) (some ((an : Int) + 1)) none = SX.S (z.drop (an + 1)) := cutS_from5 z (an + 1)
  obtain ⟨mn, mx, emn, emx⟩ : ∃ mn mx : Nat, (if (bn : Int) < (an : Int) then (bn : Int) else (an : Int)) = (mn : Int) ∧ (if (bn : Int) > (an : Int) then (bn : Int) else (an : Int)) = (mx : Int) := ⟨min an bn, max an bn, by split <;> omega, by split <;> omega⟩
  have e4 : ∃ l, cutS (SX.S z) (some (mn : Int)) (some (mx : Int)) = SX.S l ∧ l.length ≤ z.length ∧ ∀ c ∈ l, c ∈ z := cutS_any z _ _
  obtain ⟨ml, e4, e5, e6⟩ := e4
  have m0 : ∀ c ∈ ml, c < 128 := fun c hc => hz128 c (e6 c hc)
  have m1 : ∀ {k : Nat}, ∀ c ∈ z.take k, c < 128 := fun c hc => hz128 c (List.mem_of_mem_take hc)
  have m2 : ∀ {k : Nat}, ∀ c ∈ z.drop k, c < 128 := fun c hc => hz128 c (List.mem_of_mem_drop hc)
  have l1' : ∀ {k : Nat}, (z.take k).length ≤ z.length := fun {k} => by rw [List.length_take]; omega
  have l2' : ∀ {k : Nat}, (z.drop k).length ≤ z.length := fun {k} => by rw [List.length_drop]; omega
  have l12 : (z.take an).length + (z.drop an).length = z.length := by rw [← List.length_append, List.take_append_drop]
  have cat : ∀ {a b : List Nat}, (∀ c ∈ a, c < 128) → (∀ c ∈ b, c < 128) → ∀ c ∈ a ++ b, c < 128 := fun h k c hc => (List.mem_append.mp hc).elim (h c) (k c)
  have big : ∀ {a b : List Nat}, a.length + b.length ≤ 900000 → (SX.S a).length + (SX.S b).length ≤ sizeLine := fun {a b} h => by rw [SX.S_len, SX.S_len]; exact le_line (by omega)
  have sg1 : ∀ c ∈ [sg], c < 128 := fun c hc => by rw [List.mem_singleton.mp hc]; exact hsg
  have g1 : ∀ {k : Nat}, (z.take k).length ≤ 21700 := fun {k} => Nat.le_trans l1' hzl2
  have g2 : ∀ {k : Nat}, (z.drop k).length ≤ 21700 := fun {k} => Nat.le_trans l2' hzl2
  refine ⟨_, rfl, _, _, rfl, rfl, _, rfl, ite2 (fun _ => ?_) (fun _ => ?_)⟩
  · refine ⟨_, rfl, _, rfl, _, rfl, SX.S z, rfl, hz, _, rfl, _, _, congrArg V.str e1, rfl, big (by have := g1 (k := an); show _ + 1 ≤ _; omega), ?_⟩
    rw [SX.S_cat]
    refine ⟨_, rfl, _, rfl, _, rfl, SX.S z, rfl, hz, _, _, rfl, congrArg V.str e2, big (by have := g1 (k := an); have := g2 (k := an); rw [List.length_append]; show _ + 1 + _ ≤ _; omega), ?_⟩
    rw [SX.S_cat]
    exact fin _ (by have := g1 (k := an); have := g2 (k := an); rw [List.length_append, List.length_append]; show _ + 1 + _ ≤ _; omega) (cat (cat m1 sg1) m2)
  refine ⟨_, rfl, _, _, rfl, rfl, _, rfl, ite2 (fun _ => ?_) (fun _ => ?_)⟩
  · refine ⟨_, rfl, _, rfl, _, rfl, SX.S z, rfl, hz, _, rfl, _, rfl, _, _, rfl, rfl, _, rfl, SX.S z, rfl, hz, _, _, congrArg V.str e1, congrArg V.str e3, big (by have := g1 (k := an); have := g2 (k := an + 1); omega), ?_⟩
    rw [SX.S_cat]
    exact fin _ (by have := g1 (k := an); have := g2 (k := an + 1); rw [List.length_append]; omega) (cat m1 m2)
  refine ⟨_, rfl, _, _, rfl, rfl, _, rfl, ite2 (fun _ => ?_) (fun _ => ?_)⟩
  · refine ⟨_, rfl, _, rfl, _, rfl, SX.S z, rfl, hz, _, rfl, _, _, congrArg V.str e1, rfl, big (by have := g1 (k := an); show _ + 1 ≤ _; omega), ?_⟩
    rw [SX.S_cat]
    refine ⟨_, rfl, _, rfl, _, _, rfl, rfl, _, rfl, SX.S z, rfl, hz, _, _, rfl, congrArg V.str e3, big (by have := g1 (k := an); have := g2 (k := an + 1); rw [List.length_append]; show _ + 1 + _ ≤ _; omega), ?_⟩
    rw [SX.S_cat]
    exact fin _ (by have := g1 (k := an); have := g2 (k := an + 1); rw [List.length_append, List.length_append]; show _ + 1 + _ ≤ _; omega) (cat (cat m1 sg1) m2)
  refine ⟨_, rfl, rfl, _, rfl, ite2 (fun _ => ?_) (fun _ => ?_)⟩
  · refine ⟨_, rfl, _, rfl, _, rfl, SX.S z, rfl, hz, _, rfl, _, rfl, _, rfl, _, _, rfl, _, rfl, _, rfl, _, rfl, _, _, rfl, _, rfl, SX.S z, rfl, hz, ?_⟩
    rw [emn, emx]
    refine ⟨_, _, congrArg V.str e1, congrArg V.str e4, big (by have := g1 (k := an); omega), ?_⟩
    rw [SX.S_cat]
    refine ⟨_, rfl, _, rfl, _, rfl, SX.S z, rfl, hz, _, _, rfl, congrArg V.str e2, big (by have := g1 (k := an); have := g2 (k := an); rw [List.length_append]; omega), ?_⟩
    rw [SX.S_cat]
    exact fin _ (by rw [List.length_append, List.length_append]; omega) (cat (cat m1 m0) m2)
  refine ⟨_, rfl, rfl, _, rfl, ite2 (fun _ => ?_) (fun _ => ?_)⟩
  · refine ⟨_, rfl, _, rfl, _, rfl, _, _, rfl, _, rfl, _, rfl, _, rfl, _, _, rfl, _, rfl, SX.S z, rfl, hz, ?_⟩
    rw [emn, emx, e4]
    exact fin _ (by omega) m0
  have s25 : ∀ b u, b ≠ p → H b = some u → H5 b = some u := f5
  have nLp : L ≠ p := fun zz => by
    rw [zz, hp] at hL
    exact hP.pl_neT (HO.lst.inj (Option.some.inj hL))
  have hL5 := f5 L _ nLp hL
  have k05 : Keep H H5 := Fr1.keep hp f5
  have hR5 := hRc.keep k05
  have hP5 := hP.keep k05
  have wr : ∀ {G : Hp} {rd2 : List Pr} {w2 r2 c2 : Int} {t2 : Addr}, Fr1 p H5 G → RecAt G x rd2 w2 (.ref t2) → Small rd2 → rd2.length ≤ 7 → w2.natAbs < 2 ^ 1900 → G p = some (.lst (pl r2 m c2)) → 0 ≤ c2 → c2 ≤ c5 + 2 → spWritten [.ref t2] G Q (fun _ _ _ => False) := fun {G rd2 w2 r2 c2 t2} ff ha hs hl hw hp2 d0 d1 => by
    refine ⟨_, x, rd2, w2, rfl, ha, hNb, hdp, by omega, hs, by omega, hw, fun H' s' => ?_⟩
    have hlen := recTx_len hNb hs hw
    exact q H' _ r2 c2 (f5.trans (ff.trans (Fr1.of s'))) ⟨by omega, recTx_low hNb hs⟩ (s' _ _ hp2) d0 (by omega)
  refine ⟨_, rfl, rfl, _, rfl, ite2 (fun _ => ?_) (fun _ => ?_)⟩
  · refine ⟨_, rfl, _, rfl, _, rfl, _, rfl, _, _, rfl, rfl, ⟨by decide, by decide, by decide⟩, le_line (Nat.le_of_ble_eq_true rfl), fun L8 n8 => ?_⟩
    have s8 := same_new n8 (.lst [.int 1, .int (-1), .int (10 ^ (40 : Int).toNat)])
    have p8 := s8 _ _ p5
    have npL8 : p ≠ L8 := ne_of_none p5 n8
    refine ⟨_, rfl, p, r5, m, c5, 3, rfl, p8, by decide, small400 (by decide) (by decide), q0, by omega, fun H6 u6 r6 c6 k6 p6 h0 h1 u60 u61 => ?_⟩
    have hL8 := (k6 L8 npL8.symm).trans upd_same
    obtain ⟨x6, hx6, at6⟩ := one_of (xs := ([.int 1, .int (-1), .int (10 ^ (40 : Int).toNat)] : List V)) u60 u61
    obtain ⟨n6, rfl, hn6⟩ : ∃ n : Int, x6 = .int n ∧ n.natAbs ≤ 10 ^ 40 := by
      simp only [List.mem_cons, List.not_mem_nil, or_false] at hx6
      rcases hx6 with h | h | h <;> rw [h] <;> exact ⟨_, rfl, by decide +kernel⟩
    refine ⟨L8, _, u6, _, rfl, rfl, SqL.of hL8, at6, _, _, rfl, rfl, le_line (Nat.le_of_ble_eq_true rfl), fun t9 n9 => ?_⟩
    have s9 := same_new n9 (.tup [rv, .ref L, .int (wo + n6)])
    have f56 : Fr1 p H5 (upd H6 t9 (.tup [rv, .ref L, .int (wo + n6)])) := fun b u n e => s9 _ _ (by rw [k6 b n]; exact s8 _ _ e)
    have k56 := Fr1.keep p5 f56
    have hw : (wo + n6).natAbs < 2 ^ 1900 := by
      have h1 : (10 : Nat) ^ 40 < 2 ^ 200 := by decide +kernel
      have h2 : (2 : Nat) ^ 200 ≤ 2 ^ 1000 := Nat.pow_le_pow_right (by decide) (by decide)
      have h3 : (2 : Nat) ^ 1000 + 2 ^ 1000 ≤ 2 ^ 1900 := by
        rw [← Nat.two_mul, ← Nat.pow_succ']
        exact Nat.pow_le_pow_right (by decide) (by decide)
      have h4 : (wo + n6).natAbs ≤ wo.natAbs + n6.natAbs := Int.natAbs_add_le _ _
      omega
    exact wr f56 ⟨t9, L, rv, xs, rfl, upd_same, f56 L _ nLp hL5, hR5.keep k56, hP5.keep k56⟩ hmd.small hrl hw (s9 _ _ p6) h0 (by omega)
  refine ⟨_, rfl, rfl, _, rfl, ite2 (fun _ => ?_) (fun _ => ?_)⟩
  · refine ⟨_, rfl, _, rfl, L, _, rfl, SqL.of hL5, fun L9 n9 => ⟨_, rfl, le_line (Nat.le_of_ble_eq_true rfl), fun t9 nt9 => ?_⟩⟩
    have s9 := same_new n9 (.lst xs.reverse)
    have st := same_new nt9 (.tup [rv, .ref L9, .int wo])
    have sA := s9.trans st
    exact wr (Fr1.of sA) ⟨t9, L9, rv, xs.reverse, rfl, upd_same, st _ _ upd_same, hR5.same sA, hP5.revT.same sA⟩ (fun p hp => hmd.small p (List.mem_reverse.mp hp)) (by rw [List.length_reverse]; exact hrl) hw19 (sA _ _ p5) q0 (by omega)
  refine ⟨_, rfl, rfl, _, rfl, ite2 (fun _ => ?_) (fun _ => ?_)⟩
  · refine ⟨_, rfl, _, rfl, L, rfl, ⟨_, SqL.of hL5⟩, fun M nM => lc_list (K := K) (xs := xs) (fun i G => ∃ acc, Same H5 G ∧ G M = some (.lst acc) ∧ Prs G ((rd.take i).map fun p => (p.1, p.2 + 1)) acc) ⟨[], same_new nM _, upd_same, trivial⟩ (fun i G _ ⟨_, s, _⟩ => SqL.of (s _ _ hL5)) (fun i x0 G hx ⟨acc, sG, hM, hPr⟩ => ?_) (fun G ⟨acc, sG, hM, hPr⟩ => ?_)⟩
    · obtain ⟨pr, u, hp1, rfl, hu⟩ := hP5.at hx
      have al := hPr.len
      rw [List.length_map, List.length_take] at al
      refine ⟨u, _, rfl, SqT.of (sG _ _ hu), rfl, _, _, rfl, _, _, rfl, rfl, rfl, _, rfl, _, rfl, _, _, rfl, rfl, le_line (Nat.le_of_ble_eq_true rfl), fun a na => ?_⟩
      have sa := same_new na (.tup [.str (SX.S pr.1), .int (pr.2 + 1)])
      have nM2 : H5 M = none := nM
      refine ⟨_, sa _ _ hM, lt_line (by omega), _, same_upd (sG.trans sa) nM2 _, upd_same, ?_⟩
      rw [take_snocM hp1]
      exact (Prs.snoc (p := (pr.1, pr.2 + 1)) upd_same (hPr.same sa)).keep (keep_lst (sa _ _ hM))
    · rw [List.take_of_length_le (by rw [hP5.len]; exact Nat.le_refl _)] at hPr
      refine ⟨_, rfl, le_line (Nat.le_of_ble_eq_true rfl), fun t9 nt9 => ?_⟩
      have st := same_new nt9 (.tup [rv, .ref M, .int wo])
      have sA := sG.trans st
      refine wr (Fr1.of sA) ⟨t9, M, rv, acc, rfl, upd_same, st _ _ hM, hR5.same sA, hPr.same st⟩ (fun p hp => ?_) (by rw [List.length_map]; exact hrl) hw19 (sA _ _ p5) q0 (by omega)
      obtain ⟨y, hy, rfl⟩ := List.mem_map.mp hp
      refine ⟨(hmd y hy).1, ?_⟩
      have h1 := (hmd y hy).2
      have h2 : (2 : Nat) ^ 300 + 2 ^ 300 ≤ 2 ^ 400 := by
        rw [← Nat.two_mul, ← Nat.pow_succ']
        exact Nat.pow_le_pow_right (by decide) (by decide)
      have h3 : 1 ≤ (2 : Nat) ^ 300 := Nat.one_le_two_pow
      have h4 : (y.2 + 1).natAbs ≤ y.2.natAbs + 1 := Int.natAbs_add_le _ _
      show (y.2 + 1).natAbs < 2 ^ 400
      omega
  obtain ⟨ra, ra1, ra2, ra3⟩ := repl_S (z := z) (y := (" = " : Str)) (w := ("=" : Str)) (by decide) (by decide) (by decide +kernel) hz128
  obtain ⟨rb, rb1, rb2, rb3⟩ := repl_S (z := z) (y := ("[" : Str)) (w := ("(" : Str)) (by decide) (by decide) (by decide +kernel) hz128
  have q1s : (" " : Str) = SX.S [32] := by decide +kernel
  have lz1 : (SX.S [32]).length + (SX.S z).length ≤ sizeLine := big (by show 1 + _ ≤ _; omega)
  have lz2' : (SX.S z).length + (SX.S [32]).length ≤ sizeLine := big (by show _ + 1 ≤ _; omega)
  rw [← q1s] at lz1 lz2'
  have lr : ∀ w : Str, w.length = 1 → (SX.S z).length + ((SX.S z).length + 1) * w.length ≤ 16777216 := fun w h => by rw [h, SX.S_len]; omega
  refine ⟨_, rfl, _, _, rfl, rfl, lz1, _, rfl, _, _, rfl, rfl, lz2', _, rfl, SX.S z, rfl, lr _ (by decide), _, rfl, SX.S z, rfl, lr _ (by decide), le_line (Nat.le_of_ble_eq_true rfl), fun L8 n8 => ?_⟩
  rw [ra1, rb1, q1s, SX.S_cat, SX.S_cat]
  have s8 := same_new n8 (.lst [.str (SX.S ([32] ++ z)), .str (SX.S (z ++ [32])), .str (SX.S ra), .str (SX.S rb)])
  have p8 := s8 _ _ p5
  have npL8 : p ≠ L8 := ne_of_none p5 n8
  refine ⟨_, rfl, p, r5, m, c5, 4, rfl, p8, by decide, small400 (by decide) (by decide), q0, by omega, fun H6 u6 r6 c6 k6 p6 h0 h1 u60 u61 => ?_⟩
  have hL8 := (k6 L8 npL8.symm).trans upd_same
  obtain ⟨x6, hx6, at6⟩ := one_of (xs := ([.str (SX.S ([32] ++ z)), .str (SX.S (z ++ [32])), .str (SX.S ra), .str (SX.S rb)] : List V)) u60 u61
  have b32 : ∀ c ∈ [32], c < 128 := by decide
  obtain ⟨zz, rfl, hz1, hz2⟩ : ∃ zz, x6 = .str (SX.S zz) ∧ zz.length ≤ 49000 ∧ ∀ c ∈ zz, c < 128 := by
    simp only [List.mem_cons, List.not_mem_nil, or_false] at hx6
    rcases hx6 with h | h | h | h
    · exact ⟨_, h, by rw [List.length_append]; show 1 + _ ≤ _; omega, cat b32 hz128⟩
    · exact ⟨_, h, by rw [List.length_append]; show _ + 1 ≤ _; omega, cat hz128 b32⟩
    · exact ⟨_, h, by omega, ra3⟩
    · exact ⟨_, h, by omega, rb3⟩
  refine ⟨L8, _, u6, _, rfl, rfl, SqL.of hL8, at6, ?_⟩
  exact q H6 zz r6 c6 (f5.trans fun b u n e => by rw [k6 b n]; exact s8 _ _ e) ⟨hz1, hz2⟩ p6 h0 (by omega)
end
/-! ### a text times a number of two or more -/
def rRepS : R2 := fun x y H Q => ∃ (z : List Nat) (k : Nat), x = .str (SX.S z) ∧ y = .int (k : Int) ∧ 2 ≤ k ∧ k ≤ 1000 ∧ 1 ≤ z.length ∧ z.length ≤ 1000 ∧ Q (.str (SX.S (List.replicate k z).flatten)) H
theorem rep_flat (z : List Nat) : ∀ (k : Nat) (acc : Array Nat), (List.replicate k z.toArray).foldl (· ++ ·) acc = (acc.toList ++ (List.replicate k z).flatten).toArray
  | 0, acc => by simp
  | k + 1, acc => by
    rw [List.replicate_succ, List.foldl_cons, rep_flat z k, List.replicate_succ, List.flatten_cons]
    simp
section
variable {X : Cx}
theorem op_repS : OpR X (binaryOp .Mult) rRepS := by
  intro pins s σ H x y v u Q I rx ry h
  obtain ⟨z, k, rfl, rfl, h2, hk, h1, hz, q⟩ := h
  obtain ⟨t, rfl⟩ := rx
  obtain ⟨t', rfl⟩ := ry
  have hlen := SX.S_len z
  have hn1 : ¬ ((k : Nat) : Int) < 1 := by omega
  have hn2 : (((k : Nat) : Int) == 1 || (SX.S z).length == 0) = false := by
    rw [hlen, Bool.or_eq_false_iff]
    exact ⟨beq_eq_false_iff_ne.mpr (by omega), beq_eq_false_iff_ne.mpr (by omega)⟩
  have hmul : z.length * k ≤ 1000 * 1000 := Nat.mul_le_mul hz hk
  have hsz : 1000 * 1000 ≤ sizeLine := le_line (Nat.le_of_ble_eq_true rfl)
  refine PySem.P.mul_str ?_ (fun _ _ => ?_) (fun _ _ => ?_) ?_
  · rw [decide_eq_false (by omega), decide_eq_false (by omega)]
    rfl
  · rw [hlen]
    have : (1000 : Int) ≤ (2 ^ 63 - 1) / (k : Int) := (Int.le_ediv_iff_mul_le (by omega)).mpr (by omega)
    omega
  · rw [hlen]
    refine decide_eq_false ?_
    show ¬ _
    rw [Int.toNat_natCast]
    omega
  · rw [if_neg hn1, hn2, if_neg Bool.false_ne_true]
    rw [Int.toNat_natCast, show (SX.S z).cps = z.toArray from rfl, rep_flat]
    refine ⟨?_, ⟨.str _, H, I.tok _, ⟨_, rfl⟩, q⟩⟩
    have e : (List.replicate k z).flatten.length ≤ sizeLine := by
      rw [List.length_flatten, List.map_replicate, List.sum_replicate_nat, Nat.mul_comm]
      omega
    have e2 : (SX.S (List.replicate k z).flatten).length ≤ sizeLine := by rw [SX.S_len]; exact e
    exact e2
end
/-! ### the law -/
def spLaw (K : PySem.W.Frag) : Sp := fun vs H Q _ => ∃ (a : Addr) (ns : List Int), vs = [.ref a] ∧ SqL K H a (ns.map V.int) ∧ ns.length ≤ 63 ∧ ∀ H', Q (.bl true) H'
/-- a text of at most n signs, all below 128 -/
def StrN (s : Str) (n : Nat) : Prop := s.length ≤ n ∧ ∀ c ∈ s.cps.toList, c < 128
theorem StrN.cat {s t : Str} {n m : Nat} (h : StrN s n) (k : StrN t m) : StrN (s ++ t) (n + m) := by
  have e : ∀ x : Str, SX.S x.cps.toList = x := fun x => by show (⟨x.cps.toList.toArray⟩ : Str) = x; rw [Array.toArray_toList]
  have e1 := SX.S_cat s.cps.toList t.cps.toList
  rw [e, e] at e1
  refine ⟨?_, ?_⟩
  · rw [e1, SX.S_len, List.length_append]
    have h1 := h.1
    have h2 := k.1
    have l1 : s.cps.toList.length = s.length := by simp [Str.length]
    have l2 : t.cps.toList.length = t.length := by simp [Str.length]
    omega
  · rw [e1]
    show ∀ c ∈ (s.cps.toList ++ t.cps.toList).toArray.toList, c < 128
    rw [List.toList_toArray]
    intro c hc
    exact (List.mem_append.mp hc).elim (h.2 c) (k.2 c)
theorem StrN.mono {s : Str} {n m : Nat} (h : StrN s n) (le : n ≤ m) : StrN s m := ⟨Nat.le_trans h.1 le, h.2⟩
theorem strN_rep {c k : Nat} (h : c < 128) : StrN (SX.S (List.replicate k [c]).flatten) k := by
  have e : (List.replicate k [c]).flatten = List.replicate k c := by
    induction k with
    | zero => rfl
    | succ k ih => rw [List.replicate_succ, List.flatten_cons, ih, List.replicate_succ]; rfl
  rw [e]
  refine ⟨by rw [SX.S_len, List.length_replicate]; exact Nat.le_refl _, ?_⟩
  show ∀ x ∈ (List.replicate k c).toArray.toList, x < 128
  rw [List.toList_toArray]
  intro x hx
  rw [List.eq_of_mem_replicate hx]
  exact h
theorem StrN.line {s t : Str} {n m : Nat} (h : StrN s n) (k : StrN t m) (le : n + m ≤ 1000) : s.length + t.length ≤ sizeLine := le_line (by have := h.1; have := k.1; omega)
/-- all are short texts -/
def AllS (vs : List V) : Prop := ∀ v ∈ vs, ∃ s : Str, v = .str s ∧ StrN s 1000
inductive AllC : List V → Prop
  | nil : AllC []
  | cons {s : Str} {l : List V} (h : StrN s 1000) (k : AllC l) : AllC (.str s :: l)
theorem AllC.all {l : List V} (h : AllC l) : AllS l := by
  induction h with
  | nil => exact fun _ h => nomatch h
  | cons h k ih =>
    intro v hv
    rcases List.mem_cons.mp hv with e | e
    · exact ⟨_, e, h⟩
    · exact ih v e
theorem AllS.app {a b : List V} (h : AllS a) (k : AllS b) : AllS (a ++ b) := fun v hv => (List.mem_append.mp hv).elim (h v) (k v)
def okS (s : Str) : Bool := decide (s.length ≤ 1000) && s.cps.toList.all fun c => decide (c < 128)
theorem lit {s : Str} (h : okS s = true) : StrN s 1000 := by
  unfold okS at h
  rw [Bool.and_eq_true, List.all_eq_true] at h
  exact ⟨of_decide_eq_true h.1, fun c hc => of_decide_eq_true (h.2 c hc)⟩
def okM (s : Str) (n : Nat) : Bool := decide (s.length ≤ n) && s.cps.toList.all fun c => decide (c < 128)
theorem litM {s : Str} {n : Nat} (h : okM s n = true) : StrN s n := by
  unfold okM at h
  rw [Bool.and_eq_true, List.all_eq_true] at h
  exact ⟨of_decide_eq_true h.1, fun c hc => of_decide_eq_true (h.2 c hc)⟩
theorem StrN.data {s : Str} (h : StrN s 1000) (H : Hp) : ∃ z, Data H (.str z) (.str s) ∧ (Th.str z).tame = true ∧ z.length ≤ 49000 := by
  have e : SX.S s.cps.toList = s := by show (⟨s.cps.toList.toArray⟩ : Str) = s; rw [Array.toArray_toList]
  have l1 : s.cps.toList.length = s.length := by simp [Str.length]
  refine ⟨s.cps.toList, by rw [← e]; exact (show V.str (SX.S s.cps.toList) = V.str (SX.S (SX.S s.cps.toList).cps.toList) by rw [e]), ?_, by have := h.1; omega⟩
  exact tame_of (by have := h.1; omega) h.2
theorem small300 {x : Int} (h0 : -(2 ^ 100) - 8 ≤ x) (h1 : x ≤ 2 ^ 101 + 8) : x.natAbs < 2 ^ 300 := by
  have h2 : (2 : Nat) ^ 102 ≤ 2 ^ 300 := Nat.pow_le_pow_right (by decide) (by decide)
  exact Nat.lt_of_lt_of_le (show x.natAbs < 2 ^ 102 by omega) h2
def SL (H : Hp) (L : Addr) (n : Nat) : Prop := ∃ xs, H L = some (.lst xs) ∧ AllS xs ∧ xs.length = n
theorem SL.same {H H' : Hp} {L : Addr} {n : Nat} (h : SL H L n) (s : Same H H') : SL H' L n := by
  obtain ⟨xs, h1, h2, h3⟩ := h
  exact ⟨xs, s _ _ h1, h2, h3⟩
theorem SL.of {H : Hp} {L : Addr} {xs : List V} (h : H L = some (.lst xs)) (k : AllC xs) : SL H L xs.length := ⟨xs, h, k.all, rfl⟩
theorem SL.push {H : Hp} {L : Addr} {xs : List V} {n : Nat} {s : Str} (_ : H L = some (.lst xs)) (o : AllS xs) (l : xs.length = n) (h : StrN s 1000) : SL (upd H L (.lst (xs ++ [.str s]))) L (n + 1) :=
  ⟨_, upd_same, o.app (AllC.all (.cons h .nil)), by rw [List.length_append, l]; rfl⟩
section
variable {P : Program} {w : World} {K : PySem.W.Frag} {mg : Str → Option Value} {base : Heap}
abbrev s_law : Stmt := topS 75
abbrev N_law : List Str := ["script", "k", "pool", "names", "r", "numbers", "name", "some", "reads", "worth", "turn", "text", "size"]
theorem sc_law : FnScope N_law ["script"] (defScope s_law) := ⟨rfl, rfl, rfl, by decide +kernel, rfl, by decide +kernel, by decide +kernel⟩

theorem ok_law {fl : Addr} {fd : FuncData} (F : Fun K "law" "law" s_law fl fd) (T : Txt K mg) (C_pool : Cal P w K mg base CX0 1 "_law_pool" ["script", "k"] (spPoolL K)) (C_names : Cal P w K mg base CX0 2 "_law_names" ["pool"] spNamesL) (C_recipe : Cal P w K mg base CX0 7 "_law_recipe" ["pool", "names", "most"] spRecipeL)
    (C_take : Cal P w K mg base CX0 1 "_law_take" ["pool", "many"] spTakeL) (C_all : Cal P w K mg base CX0 12 "_law_all_reads" ["r", "numbers"] spLAll) (C__law_right : Cal P w K mg base CX0 24 "_law_right" ["text"] spRight) (C_spoilt : Cal P w K mg base CX0 14 "_law_spoilt" ["record", "pool"] spSpoiltT) (C_great : Cal P w K mg base CX0 14 "_law_great" ["pool", "own"] spGreat) (C_written : Cal P w K mg base CX0 13 "_law_written" ["record"] spWritten) :
    FnOk P w K mg base CX0 25 fl fd ["script"] (spLaw K) := by
  have C__law_pool := C_pool.mono (show 1 ≤ 24 by omega)
  have C__law_names := C_names.mono (show 2 ≤ 24 by omega)
  have C__law_recipe := C_recipe.mono (show 7 ≤ 24 by omega)
  have C__law_take := C_take.mono (show 1 ≤ 24 by omega)
  have C__law_all_reads := C_all.mono (show 12 ≤ 24 by omega)
  have C__law_spoilt := C_spoilt.mono (show 14 ≤ 24 by omega)
  have C__law_great := C_great.mono (show 14 ≤ 24 by omega)
  have C__law_written := C_written.mono (show 13 ≤ 24 by omega)
  refine F.ok sc_law (fun vs H Q E h => ?_) (fun cdv A outer s H vs Q E hr h => ?_)
  · obtain ⟨a, ns, rfl, _⟩ := h
    rfl
  obtain ⟨a, ns, rfl, hS, h63, q⟩ := h
  have hu : (cxOf CX0 P w K mg base N_law "law" (defScope s_law) fl cdv A outer s H E).nox.A.units + 1 < cLine := Nat.lt_of_le_of_lt (Nat.add_le_add_left (by decide : 1 ≤ 64) _) hr.units
  refine ⟨_, (pss_cons (ps_for PassesOwn.never rfl (pi_range1 rfl T.b_range (pa_cons (pe_callB (call_max2 rfl) (by rfl) T.b_max (by decide +kernel) (pa_cons pe_int (pa_cons (pe_callB (call_min2 rfl) (by rfl) T.b_min (by decide +kernel) (pa_cons pe_int (pa_cons (pe_callB call_len_seq (by rfl) T.b_len PySem.boot_len (pa_cons (pv 0) pa_nil)) pa_nil))) pa_nil))) pa_nil)) (pg_name (i := 1) sc_law.nd rfl (Or.inl rfl))
        (pss_cons (ps_set (i := 2) sc_law.nd rfl (Or.inl rfl) (pe_cal C__law_pool (hr.mono (by first | decide | omega)) pass0 (pa_cons (pv 0) (pa_cons (pv 1) pa_nil))))
      (pss_cons (ps_set (i := 3) sc_law.nd rfl (Or.inl rfl) (pe_cal C__law_names (hr.mono (by first | decide | omega)) pass0 (pa_cons (pv 2) pa_nil)))
      (pss_cons (ps_set (i := 4) sc_law.nd rfl (Or.inl rfl) (pe_cal C__law_recipe (hr.mono (by first | decide | omega)) pass0 (pa_cons (pv 2) (pa_cons (pv 3) (pa_cons (pe_op op_pow pe_int pe_int) pa_nil)))))
      (pss_cons (ps_set (i := 5) sc_law.nd rfl (Or.inl rfl) pe_dnewK)
      (pss_cons (ps_for PassesOwn.never rfl (pi_list (pv 3)) (pg_name (i := 6) sc_law.nd rfl (Or.inl rfl))
        (pss_cons (ps_set (i := 7) sc_law.nd rfl (Or.inl rfl) (pe_lstA (pa_cons (pe_op op_sub (pe_cal C__law_take (hr.mono (by first | decide | omega)) pass0 (pa_cons (pv 2) (pa_cons pe_int pa_nil))) pe_int) (pa_cons (pe_op op_sub (pe_cal C__law_take (hr.mono (by first | decide | omega)) pass0 (pa_cons (pv 2) (pa_cons (pe_op op_add (pe_op op_mul pe_int (pe_op op_pow pe_int pe_int)) pe_int) pa_nil))) (pe_op op_pow pe_int pe_int)) pa_nil))))
      (pss_one (ps_dput hu (pv 5) (pv 6) (pe_ix (r := rIxL K) ix_list (pv 7) (pe_cal C__law_take (hr.mono (by first | decide | omega)) pass0 (pa_cons (pv 2) (pa_cons pe_int pa_nil))) (fun _ _ => rfl)) rfl))))
      (pss_cons (ps_asg (pe_cal C__law_all_reads (hr.mono (by first | decide | omega)) pass0 (pa_cons (pv 4) (pa_cons (pv 5) pa_nil))) (pg_tup rfl (pgs_cons (pg_name (i := 8) sc_law.nd rfl (Or.inl rfl)) (pgs_cons (pg_name (i := 9) sc_law.nd rfl (Or.inl rfl)) pgs_nil))))
      (pss_cons (ps_if (pt_not (pt_val (pe_cal C__law_right (hr.mono (by first | decide | omega)) pass0 (pa_cons (pe_cal C__law_written (hr.mono (by first | decide | omega)) pass0 (pa_cons (pe_tupA (pa_cons (pv 4) (pa_cons (pv 8) (pa_cons (pv 9) pa_nil)))) pa_nil)) pa_nil))))
        (pss_one (ps_ret pe_bl))
        pss_nil)
      (pss_cons (ps_for PassesOwn.never rfl (pi_range1 rfl T.b_range (pa_cons pe_int pa_nil)) (pg_name (i := 10) sc_law.nd rfl (Or.inl rfl))
        (pss_one (ps_if (pt_not (pt_val (pe_cal C__law_right (hr.mono (by first | decide | omega)) pass0 (pa_cons (pe_cal C__law_spoilt (hr.mono (by first | decide | omega)) pass0 (pa_cons (pe_tupA (pa_cons (pv 4) (pa_cons (pv 8) (pa_cons (pv 9) pa_nil)))) (pa_cons (pv 2) pa_nil))) pa_nil))))
        (pss_one (ps_ret pe_bl))
        pss_nil)))
      (pss_one (ps_for PassesOwn.never rfl (pi_range1 rfl T.b_range (pa_cons pe_int pa_nil)) (pg_name (i := 10) sc_law.nd rfl (Or.inl rfl))
        (pss_one (ps_if (pt_not (pt_val (pe_cal C__law_right (hr.mono (by first | decide | omega)) pass0 (pa_cons (pe_cal C__law_written (hr.mono (by first | decide | omega)) pass0 (pa_cons (pe_cal C__law_great (hr.mono (by first | decide | omega)) pass0 (pa_cons (pv 2) (pa_cons (pe_ix (r := rIxL K) ix_list (pv 3) pe_int (fun _ _ => rfl)) pa_nil))) pa_nil)) pa_nil))))
        (pss_one (ps_ret pe_bl))
        pss_nil)))))))))))))
      (pss_cons (ps_set (i := 7) sc_law.nd rfl (Or.inl rfl) (pe_lstA (pa_cons pe_str (pa_cons pe_str (pa_cons pe_str (pa_cons pe_str (pa_cons pe_str (pa_cons pe_str (pa_cons pe_str (pa_cons pe_str (pa_cons pe_str (pa_cons pe_str pa_nil))))))))))))
      (pss_cons (ps_set (i := 7) sc_law.nd rfl (Or.inl rfl) (pe_op op_catU (pv 7) (pe_lstA (pa_cons pe_str (pa_cons pe_str (pa_cons pe_str (pa_cons pe_str (pa_cons pe_str pa_nil))))))))
      (pss_cons (ps_set (i := 7) sc_law.nd rfl (Or.inl rfl) (pe_op op_catU (pv 7) (pe_lstA (pa_cons pe_str (pa_cons pe_str (pa_cons pe_str (pa_cons pe_str (pa_cons pe_str pa_nil))))))))
      (pss_cons (ps_set (i := 7) sc_law.nd rfl (Or.inl rfl) (pe_op op_catU (pv 7) (pe_lstA (pa_cons pe_str (pa_cons pe_str (pa_cons pe_str (pa_cons pe_str (pa_cons pe_str (pa_cons pe_str pa_nil)))))))))
      (pss_cons (ps_set (i := 7) sc_law.nd rfl (Or.inl rfl) (pe_op op_catU (pv 7) (pe_lstA (pa_cons pe_str (pa_cons pe_str (pa_cons pe_str pa_nil))))))
      (pss_cons (ps_expr (pe_bm PySem.F.plainAttrs_list PySem.F.slot_list_append PySem.F.type_list_append mt_append (pv 7) (pa_cons (pe_op op_add_str (pe_op op_add_str pe_str (pe_op op_repS pe_str pe_int)) pe_str) pa_nil)))
      (pss_cons (ps_expr (pe_bm PySem.F.plainAttrs_list PySem.F.slot_list_append PySem.F.type_list_append mt_append (pv 7) (pa_cons (pe_op op_add_str (pe_op op_add_str pe_str (pe_op op_repS pe_str pe_int)) pe_str) pa_nil)))
      (pss_cons (ps_expr (pe_bm PySem.F.plainAttrs_list PySem.F.slot_list_append PySem.F.type_list_append mt_append (pv 7) (pa_cons (pe_op op_add_str (pe_op op_add_str (pe_op op_add_str (pe_op op_add_str (pe_op op_add_str pe_str (pe_op op_repS pe_str pe_int)) pe_str) (pe_op op_repS pe_str pe_int)) pe_str) (pe_op op_repS pe_str pe_int)) pa_nil)))
      (pss_cons (ps_set (i := 7) sc_law.nd rfl (Or.inl rfl) (pe_op op_catU (pv 7) (pe_lstA (pa_cons (pe_op op_add_str (pe_op op_add_str pe_str (pe_op op_repS pe_str pe_int)) pe_str) (pa_cons (pe_op op_add_str (pe_op op_add_str pe_str (pe_op op_repS pe_str pe_int)) pe_str) pa_nil)))))
      (pss_cons (ps_set (i := 7) sc_law.nd rfl (Or.inl rfl) (pe_op op_catU (pv 7) (pe_lc (own := [("size", 12)]) (g := gName 12)  (by rfl) sc_law.nd  (pi_list (pe_lstA (pa_cons pe_int (pa_cons pe_int pa_nil)))) (blkOk_by (own := [("size", 12)]) (N := N_law) (sc := defScope s_law) (by decide +kernel)) (fun _ _ _ _ _ => (pg_name (i := 12) sc_law.nd rfl (Or.inl rfl))) (fun _ _ _ _ _ => pts_nil) (fun _ _ _ _ _ => (pe_op op_add_str (pe_op op_add_str (pe_op op_add_str pe_str (pe_op op_repS pe_str (pv 12))) pe_str) (pe_op op_repS pe_str (pe_op op_mul pe_int (pv 12))))))))
      (pss_cons (ps_set (i := 7) sc_law.nd rfl (Or.inl rfl) (pe_op op_catU (pv 7) (pe_lstA (pa_cons (pe_op op_add_str (pe_op op_add_str (pe_op op_repS pe_str pe_int) pe_str) (pe_op op_repS pe_str pe_int)) (pa_cons (pe_op op_add_str (pe_op op_add_str (pe_op op_repS pe_str pe_int) pe_str) (pe_op op_repS pe_str pe_int)) (pa_cons (pe_op op_add_str (pe_op op_repS pe_str pe_int) pe_str) pa_nil))))))
      (pss_cons (ps_for PassesOwn.never rfl (pi_list (pe_op op_catU (pv 7) (pe_lstA (pa_cons pe_non (pa_cons pe_int (pa_cons pe_bl (pa_cons (pe_lstA (pa_cons pe_str pa_nil)) (pa_cons (pe_tupA pa_nil) (pa_cons pe_dnewK (pa_cons (pe_tupA (pa_cons (pe_tupA (pa_cons pe_str (pa_cons pe_int pa_nil))) (pa_cons (pe_lstA pa_nil) (pa_cons pe_int pa_nil)))) pa_nil)))))))))) (pg_name (i := 11) sc_law.nd rfl (Or.inl rfl))
        (pss_one (ps_if (pt_not (pt_val (pe_cal C__law_right (hr.mono (by first | decide | omega)) pass0 (pa_cons (pv 11) pa_nil))))
        (pss_one (ps_ret pe_bl))
        pss_nil)))
      (pss_one (ps_ret pe_bl))))))))))))))), ?_⟩
  refine ⟨_, rfl, a, _, rfl, .inl hS, _, _, rfl, _, _, rfl, ?_⟩
  obtain ⟨N, hN, N1, N12⟩ : ∃ N : Nat, (if (if ((((ns.map V.int).length : Nat) : Int) < 12) then (((ns.map V.int).length : Nat) : Int) else 12) > 1 then (if ((((ns.map V.int).length : Nat) : Int) < 12) then (((ns.map V.int).length : Nat) : Int) else 12) else 1) = (N : Int) ∧ 1 ≤ N ∧ N ≤ 12 := by
    rw [List.length_map]
    refine ⟨(if (if ((ns.length : Int) < 12) then (ns.length : Int) else 12) > 1 then (if ((ns.length : Int) < 12) then (ns.length : Int) else 12) else 1).toNat, ?_⟩
    split <;> split at * <;> omega
  rw [hN]
  refine ⟨(N : Int), rfl, by omega, by omega, for_range (lo := 0) (n := ((N : Int)).toNat) (fun i σ H' => ∃ v1 v2 v3 v4 v5 v6 v7 v8 v9 v10 v11 v12 : Option V, σ = [some (.ref a), v1, v2, v3, v4, v5, v6, v7, v8, v9, v10, v11, v12] ∧ Same H H') ⟨none, none, none, none, none, none, none, none, none, none, none, none, rfl, Same.refl _⟩ ?_ ?_⟩
  · rintro i σ H1 hi ⟨v1, v2, v3, v4, v5, v6, v7, v8, v9, v10, v11, v12, rfl, hs1⟩
    refine ⟨_, rfl, _, rfl, a, ns, _, rfl, hs1.seq hS, h63, by omega, by omega, fun p r m c np c0 c1 => ?_⟩
    have hs2 := hs1.trans (same_new np (.lst (pl r m c)))
    obtain ⟨H2, hH2⟩ : ∃ H2, H2 = upd H1 p (.lst (pl r m c)) := ⟨_, rfl⟩
    have hp2 : H2 p = some (.lst (pl r m c)) := by rw [hH2]; exact upd_same
    rw [← hH2] at hs2 ⊢
    have npH : H p = none := hs1.free np
    refine ⟨_, rfl, p, r, m, c, rfl, hp2, c0, by omega, fun H3 L nms r3 c3 f3 hL nL n1 n7 hnm hnd hp3 d0 d1 => ?_⟩
    have nLp : L ≠ p := fun z => by rw [z, hp2] at nL; cases nL
    refine ⟨_, rfl, _, rfl, _, _, rfl, rfl, ⟨by decide, by decide, by decide⟩, p, L, r3, m, c3, _, nms, rfl, hp3, hL, n1, n7, hnm, (by decide +kernel), (by decide +kernel), d0, by omega, fun H4 v x r4 c4 f4 hv hb hd hsub hp4 e0 e1 => ?_⟩
    have hL4 := f4 L _ nLp hL
    have s14 : Same H H4 := fun b u e => f4 b u (fun z => by rw [z, npH] at e; cases e) (f3 b u (fun z => by rw [z, npH] at e; cases e) (hs2 b u e))
    refine fun D nD => ?_
    have npD : p ≠ D := ne_of_none hp4 nD
    have hLD : L ≠ D := ne_of_none hL4 nD
    have nDH : H D = none := s14.free nD
    refine ⟨_, rfl, L, rfl, ⟨_, SqL.of (by rw [upd_ne hLD]; exact hL4)⟩, for_list (K := K) (xs := txs nms) (fun j σ H' => ∃ (w6 w7 : Option V) (kvs : List (Key × V)) (r' c' : Int), σ = [some (.ref a), some (.int (0 + (i : Int))), some (.ref p), some (.ref L), some v, some (.ref D), w6, w7, v8, v9, v10, v11, v12] ∧ Fr2 p D H4 H' ∧ H' p = some (.lst (pl r' m c')) ∧ 0 ≤ c' ∧ c' ≤ c4 + 10 * j ∧ H' D = some (.dK kvs) ∧ kvs.length ≤ j ∧ ∀ s ∈ nms.take j, ∃ y, valV kvs (kT (SX.S s)) = some (.int y) ∧ y.natAbs < 2 ^ 300)
      ⟨v6, v7, [], r4, c4, rfl, Fr2.of (same_new nD _), by rw [upd_ne npD]; exact hp4, e0, by omega, upd_same, Nat.le_refl _, fun _ h => (nomatch h)⟩ (fun j σ H' _ ⟨_, _, _, _, _, _, f, _⟩ => SqL.of (f L _ nLp hLD hL4)) ?_ ?_⟩
    · rintro j x0 σ H5 hx ⟨w6, w7, kvs, r5, c5, rfl, f5, hp5, g0, g1, hD5, hkl, hval⟩
      have hj : j < nms.length := by
        have := (List.getElem?_eq_some_iff.mp hx).1
        rw [txs_len] at this
        exact this
      rw [txs_get hj] at hx
      obtain rfl := Option.some.inj hx
      refine ⟨_, rfl, p, r5, m, c5, 9, rfl, hp5, by decide, small400 (by decide) (by decide), g0, by omega, fun H6 y1 r6 c6 k6 hp6 i0 i1 y10 y11 => ?_⟩
      refine ⟨_, _, rfl, rfl, _, rfl, _, _, rfl, rfl, ⟨by decide, by decide, by decide⟩, _, _, rfl, rfl, .inl ⟨by decide, by decide⟩, _, _, rfl, rfl, p, r6, m, c6, _, rfl, hp6, (by decide +kernel), (by decide +kernel), i0, by omega, fun H7 y2 r7 c7 k7 hp7 j0 j1 y20 y21 => ?_⟩
      have y22 : y2 < 2000001 := y21
      refine ⟨_, _, rfl, rfl, ⟨by decide, by decide, by decide⟩, _, _, rfl, rfl, le_line (Nat.le_of_ble_eq_true rfl), fun l H7b nl sl hl => ?_⟩
      have npl : p ≠ l := ne_of_none hp7 nl
      refine ⟨_, rfl, _, rfl, p, r7, m, c7, 2, rfl, sl _ _ hp7, by decide, small400 (by decide) (by decide), j0, by omega, fun H8 y3 r8 c8 k8 hp8 l0 l1 y30 y31 => ?_⟩
      have hl8 := (k8 l npl.symm).trans hl
      have k58 : Fr1 p H5 H8 := fun b u n e => by
        rw [k8 b n]
        refine sl _ _ ?_
        rw [k7 b n, k6 b n]
        exact e
      obtain ⟨z, hz, hat⟩ := one_of (xs := ([.int (y1 - 4), .int (y2 - 10 ^ (6 : Int).toNat)] : List V)) y30 y31
      obtain ⟨num, rfl, hnum⟩ : ∃ num : Int, z = .int num ∧ num.natAbs < 2 ^ 300 := by
        simp only [List.mem_cons, List.not_mem_nil, or_false] at hz
        rcases hz with h | h
        · exact ⟨_, h, small300 (by omega) (by omega)⟩
        · refine ⟨_, h, small300 ?_ ?_⟩
          · show -(2 ^ 100) - 8 ≤ y2 - 1000000
            omega
          · show y2 - 1000000 ≤ 2 ^ 101 + 8
            omega
      have hD8 := k58 D _ npD.symm hD5
      refine ⟨l, _, y3, _, rfl, rfl, SqL.of hl8, hat, _, rfl, _, rfl, D, _, rfl, DPut.k (k := kT (SX.S nms[j])) hD8 (lt_line (by omega)), ?_⟩
      refine ⟨_, _, _, r8, c8, rfl, fun b u n1 n2 e => ?_, by rw [upd_ne npD]; exact hp8, l0, by omega, upd_same, Nat.le_trans (length_putK _ _ _) (by omega), fun s hs => ?_⟩
      · rw [upd_ne n2]
        exact k58 b u n1 (f5 b u n1 n2 e)
      · rw [valV_put]
        by_cases c : kT (SX.S s) = kT (SX.S nms[j])
        · rw [if_pos c]
          exact ⟨num, rfl, hnum⟩
        · rw [if_neg c]
          refine hval s ?_
          rw [List.take_add_one, List.getElem?_eq_getElem hj] at hs
          rcases List.mem_append.mp hs with h | h
          · exact h
          · rw [show s = nms[j] from List.mem_singleton.mp h] at c
            exact absurd rfl c
    · rintro σ H5 ⟨w6, w7, kvs, r5, c5, rfl, f5, hp5, g0, g1, hD5, hkl, hval⟩
      rw [txs_len] at hkl g1 hval
      rw [List.take_of_length_le (Nat.le_refl _)] at hval
      have hval2 : ∀ s ∈ nms, valV kvs (kT (SX.S s)) = some (.int (match valV kvs (kT (SX.S s)) with | some (.int y) => y | _ => 0)) ∧ (match valV kvs (kT (SX.S s)) with | some (.int y) => y | _ => (0 : Int)).natAbs < 2 ^ 300 := fun s hs => by
        obtain ⟨y, h1, h2⟩ := hval s hs
        rw [h1]
        exact ⟨rfl, h2⟩
      have hv5 : Rec H5 x v := hv.keep fun b ys e => f5 b _ (fun z => by rw [z, hp4] at e; cases e) (fun z => by rw [z, nD] at e; cases e) e
      have hL5 := f5 L _ nLp hLD hL4
      have s5 : Same H H5 := fun b u e => f5 b u (fun z => by rw [z, npH] at e; cases e) (fun z => by rw [z, nDH] at e; cases e) (s14 b u e)
      refine ⟨_, rfl, _, rfl, v, D, x, kvs, fun s => match valV kvs (kT (SX.S s)) with | some (.int y) => y | _ => 0, nms, rfl, hv5, hb, hd.1, hD5, fun s hs => ⟨hsub s hs, (hval2 s (hsub s hs)).1, Nat.lt_of_lt_of_le (hval2 s (hsub s hs)).2 (Nat.pow_le_pow_right (by decide) (by decide))⟩, by omega, fun H6 t R ys rd y s6 ht hR hP hout hg h90 => ?_⟩
      have hrl : rd.length ≤ 7 := by
        have := sub_len (m := nms) hg.nd fun s hs => by
          obtain ⟨p, hp, e⟩ := List.mem_map.mp hs
          rw [← e]
          exact hsub _ (hg.mem p hp)
        rw [List.length_map] at this
        omega
      have hmd : Mild rd := fun p hp => ⟨(hg.sm p hp).1, by rw [hg.val p hp]; exact (hval2 _ (hsub _ (hg.mem p hp))).2⟩
      have hy10 := out_small hg.sm hb hd.2.2 (by omega) hout
      have hy19 : y.natAbs < 2 ^ 1900 := Nat.lt_of_lt_of_le hy10 (Nat.pow_le_pow_right (by decide) (by decide))
      have hx9 := hd.1
      have hx10 := hd.2.1
      have hv6 := hv5.same s6
      have hp6 := s6 _ _ hp5
      have hL6 := s6 _ _ hL5
      refine ⟨t, _, rfl, SqT.of ht, rfl, _, _, rfl, _, _, rfl, rfl, ?_⟩
      refine in_nx ?_
      refine ⟨_, rfl, _, rfl, _, rfl, le_line (Nat.le_of_ble_eq_true rfl), fun u Hu nu su hu2 => ?_⟩
      have hAt : ∀ {G : Hp} {u : Addr}, Keep H6 G → G R = some (.lst ys) → G u = some (.tup [v, .ref R, .int y]) → RecAt G x rd y (.ref u) := fun {G u} k h1 h2 => ⟨u, R, v, ys, rfl, h2, h1, hv6.keep k, hP.keep k⟩
      have fineW : ∀ {x : Rcp} {rd : List Pr} {w : Int}, Wr x rd w → FineT (recTx x rd w) 49000 := fun {x rd w} h => by
        have hw := Nat.lt_of_lt_of_le h.wo (Nat.pow_le_pow_right (by decide) (by decide : 1000 ≤ 1900))
        have hl := recTx_len h.nb h.sm hw
        have h1 := h.siz
        have h2 := h.len
        exact ⟨by omega, recTx_low h.nb h.sm⟩
      have wr1 : Wr x rd y := ⟨hb, by omega, by omega, hg.sm, h90, hy10⟩
      refine ⟨.ref u, x, rd, y, rfl, hAt (same_keep su) (su _ _ hR) hu2, hb, by omega, by omega, hg.sm, by omega, hy19, fun Hw sw => ?_⟩
      refine ⟨.str _, .str (recTx x rd y), rfl, rfl, (fineW wr1).tame, fun z e => (by cases e; exact (fineW wr1).1), fun H7 s7' => ⟨_, rfl, not_true_eq rfl ?_⟩⟩
      have s7 : Same H6 H7 := Same.trans su (sw.trans s7')
      refine in_nx ?_
      refine in_seq ?_
      refine ⟨6, rfl, by decide, by decide, for_range (lo := 0) (n := 6) (fun j σ H' => ∃ (u10 : Option V) (r' c' : Int), σ = [some (.ref a), some (.int (0 + (i : Int))), some (.ref p), some (.ref L), some v, some (.ref D), w6, w7, some (.ref R), some (.int y), u10, v11, v12] ∧ Fr1 p H6 H' ∧ H' p = some (.lst (pl r' m c')) ∧ 0 ≤ c' ∧ c' ≤ c5 + 20 * j) ⟨v10, r5, c5, rfl, Fr1.of s7, s7 _ _ hp6, g0, by omega⟩ ?_ ?_⟩
      · rintro j σ H8 hj ⟨u10, r8, c8, rfl, f8, hp8, l0, l1⟩
        refine ⟨_, rfl, _, rfl, _, rfl, le_line (Nat.le_of_ble_eq_true rfl), fun u9 Hu9 nu9 su9 hu9 => ?_⟩
        have k69 : Keep H6 Hu9 := fun b ys e => su9 _ _ (Fr1.keep hp6 f8 b ys e)
        have nRp : R ≠ p := fun z => by rw [z, hp6] at hR; exact hP.pl_neT (HO.lst.inj (Option.some.inj hR))
        refine ⟨_, rfl, .ref u9, p, x, rd, y, r8, m, c8, rfl, hAt k69 (su9 _ _ (f8 R _ nRp hR)) hu9, hb, by omega, hx10, hmd, hrl, hy10, su9 _ _ hp8, l0, by omega, fun H9 z r9 c9 f9 fn hp9 m0 m1 => ?_⟩
        refine ⟨.str (SX.S z), .str z, rfl, rfl, fn.tame, fun z' e => (by cases e; exact fn.1), fun H10 s10 => ⟨_, rfl, not_true_eq rfl ?_⟩⟩
        exact ⟨_, r9, c9, rfl, f8.trans ((Fr1.of su9).trans (f9.trans (Fr1.of s10))), s10 _ _ hp9, m0, by omega⟩
      rintro σ H8 ⟨u10, r8, c8, rfl, f8, hp8, l0, l1⟩
      refine in_nx ?_
      refine ⟨3, rfl, by decide, by decide, for_range (lo := 0) (n := 3) (fun j σ H' => ∃ (u10 : Option V) (r' c' : Int), σ = [some (.ref a), some (.int (0 + (i : Int))), some (.ref p), some (.ref L), some v, some (.ref D), w6, w7, some (.ref R), some (.int y), u10, v11, v12] ∧ Fr1 p H6 H' ∧ H' p = some (.lst (pl r' m c')) ∧ 0 ≤ c' ∧ c' ≤ c8 + 300 * j) ⟨u10, r8, c8, rfl, f8, hp8, l0, by omega⟩ ?_ ?_⟩
      · rintro j σ H9 hj ⟨u10, r9, c9, rfl, f9, hp9, m0, m1⟩
        have h0 : 0 < nms.length := n1
        have at0 : atI (txs nms) 0 = some (.str (SX.S nms[0])) := atI_nat (j := 0) (txs_get h0)
        refine ⟨_, rfl, _, rfl, L, _, 0, _, rfl, rfl, SqL.of (f9 L _ nLp hL6), at0, p, r9, m, c9, nms[0], rfl, hp9, hnm _ (List.getElem_mem h0), m0, by omega, fun H10 vv xx rr ww r10 c10 f10 hA hW hp10 e0' e1' => ?_⟩
        have hf := fineW hW
        refine ⟨vv, xx, rr, ww, rfl, hA, hW.nb, hW.dep, by have := hW.siz; omega, hW.sm, by have := hW.len; omega, Nat.lt_of_lt_of_le hW.wo (Nat.pow_le_pow_right (by decide) (by decide)), fun H11 s11 => ?_⟩
        refine ⟨.str _, .str (recTx xx rr ww), rfl, rfl, hf.tame, fun z e => (by cases e; exact hf.1), fun H12 s12 => ⟨_, rfl, not_true_eq rfl ?_⟩⟩
        exact ⟨_, r10, c10, rfl, f9.trans (f10.trans (Fr1.of (s11.trans s12))), (s11.trans s12) _ _ hp10, e0', by omega⟩
      rintro σ H9 ⟨u10, r9, c9, rfl, f9, hp9, m0, m1⟩
      exact ⟨_, _, _, _, _, _, _, _, _, _, _, _, rfl, fun b u e => f9 b u (fun z => by rw [z, npH] at e; cases e) (s6 _ _ (s5 _ _ e))⟩
  rintro σ H1 ⟨v1, v2, v3, v4, v5, v6, v7, v8, v9, v10, v11, v12, rfl, hs1⟩
  refine in_nx ?_
  have ez0 : V.str ("0" : Str) = V.str (SX.S [48]) := congrArg V.str (by decide +kernel)
  have ez1 : V.str ("1" : Str) = V.str (SX.S [49]) := congrArg V.str (by decide +kernel)
  refine ⟨le_line (Nat.le_of_ble_eq_true rfl), fun A1 K1 n1 s1 h1 => ?_⟩
  have new := SL.of h1 (.cons (lit (by decide +kernel)) (.cons (lit (by decide +kernel)) (.cons (lit (by decide +kernel)) (.cons (lit (by decide +kernel)) (.cons (lit (by decide +kernel)) (.cons (lit (by decide +kernel)) (.cons (lit (by decide +kernel)) (.cons (lit (by decide +kernel)) (.cons (lit (by decide +kernel)) (.cons (lit (by decide +kernel)) .nil))))))))))
  have rows := new
  refine ⟨_, rfl, le_line (Nat.le_of_ble_eq_true rfl), fun A2 K2 n2 s2 h2 => ?_⟩
  have new := SL.of h2 (.cons (lit (by decide +kernel)) (.cons (lit (by decide +kernel)) (.cons (lit (by decide +kernel)) (.cons (lit (by decide +kernel)) (.cons (lit (by decide +kernel)) .nil)))))
  have rows := rows.same s2
  obtain ⟨xs1, e1, o1, l1⟩ := rows
  obtain ⟨xs2, e2, o2, l2⟩ := new
  refine ⟨_, _, _, _, rfl, rfl, e1, e2, (by rw [l1, l2]; exact le_line (by decide)), fun A3 K3 n3 s3 h3 => ?_⟩
  have rows : SL K3 A3 15 := ⟨_, h3, o1.app o2, by rw [List.length_append, l1, l2] <;> rfl⟩
  refine ⟨_, rfl, le_line (Nat.le_of_ble_eq_true rfl), fun A4 K4 n4 s4 h4 => ?_⟩
  have new := SL.of h4 (.cons (lit (by decide +kernel)) (.cons (lit (by decide +kernel)) (.cons (lit (by decide +kernel)) (.cons (lit (by decide +kernel)) (.cons (lit (by decide +kernel)) .nil)))))
  have rows := rows.same s4
  obtain ⟨xs1, e1, o1, l1⟩ := rows
  obtain ⟨xs2, e2, o2, l2⟩ := new
  refine ⟨_, _, _, _, rfl, rfl, e1, e2, (by rw [l1, l2]; exact le_line (by decide)), fun A5 K5 n5 s5 h5 => ?_⟩
  have rows : SL K5 A5 20 := ⟨_, h5, o1.app o2, by rw [List.length_append, l1, l2] <;> rfl⟩
  refine ⟨_, rfl, le_line (Nat.le_of_ble_eq_true rfl), fun A6 K6 n6 s6 h6 => ?_⟩
  have new := SL.of h6 (.cons (lit (by decide +kernel)) (.cons (lit (by decide +kernel)) (.cons (lit (by decide +kernel)) (.cons (lit (by decide +kernel)) (.cons (lit (by decide +kernel)) (.cons (lit (by decide +kernel)) .nil))))))
  have rows := rows.same s6
  obtain ⟨xs1, e1, o1, l1⟩ := rows
  obtain ⟨xs2, e2, o2, l2⟩ := new
  refine ⟨_, _, _, _, rfl, rfl, e1, e2, (by rw [l1, l2]; exact le_line (by decide)), fun A7 K7 n7 s7 h7 => ?_⟩
  have rows : SL K7 A7 26 := ⟨_, h7, o1.app o2, by rw [List.length_append, l1, l2] <;> rfl⟩
  refine ⟨_, rfl, le_line (Nat.le_of_ble_eq_true rfl), fun A8 K8 n8 s8 h8 => ?_⟩
  have new := SL.of h8 (.cons (lit (by decide +kernel)) (.cons (lit (by decide +kernel)) (.cons (lit (by decide +kernel)) .nil)))
  have rows := rows.same s8
  obtain ⟨xs1, e1, o1, l1⟩ := rows
  obtain ⟨xs2, e2, o2, l2⟩ := new
  refine ⟨_, _, _, _, rfl, rfl, e1, e2, (by rw [l1, l2]; exact le_line (by decide)), fun A9 K9 n9 s9 h9 => ?_⟩
  have rows : SL K9 A9 29 := ⟨_, h9, o1.app o2, by rw [List.length_append, l1, l2] <;> rfl⟩
  have b10 := (litM (s := "[(a + b) ? 4 : 4] [a=1") (n := 40) (by decide +kernel))
  have g11 := ((strN_rep (c := 48) (k := 40) (by decide)).mono (by decide : _ ≤ 60))
  have b11 := b10.cat g11
  have g12 := (litM (s := ",b=1] = 4") (n := 40) (by decide +kernel))
  have b12 := b11.cat g12
  obtain ⟨xs1, e1, o1, l1⟩ := rows
  refine ⟨_, rfl, .inl ⟨rfl, _, SqL.of e1⟩, [48], 40, ez0, rfl, by decide, by decide, by decide, by decide, _, _, rfl, rfl, b10.line g11 (by decide), _, _, rfl, rfl, b11.line g12 (by decide), _, xs1, _, rfl, rfl, e1, lt_line (by rw [l1]; decide), ?_⟩
  have rows := SL.push e1 o1 l1 (b12.mono (by decide))
  have b13 := (litM (s := "[(a + b) ? 4 : 4] [a=1,b=1") (n := 40) (by decide +kernel))
  have g14 := ((strN_rep (c := 48) (k := 39) (by decide)).mono (by decide : _ ≤ 60))
  have b14 := b13.cat g14
  have g15 := (litM (s := "] = 4") (n := 40) (by decide +kernel))
  have b15 := b14.cat g15
  obtain ⟨xs1, e1, o1, l1⟩ := rows
  refine ⟨_, rfl, .inl ⟨rfl, _, SqL.of e1⟩, [48], 39, ez0, rfl, by decide, by decide, by decide, by decide, _, _, rfl, rfl, b13.line g14 (by decide), _, _, rfl, rfl, b14.line g15 (by decide), _, xs1, _, rfl, rfl, e1, lt_line (by rw [l1]; decide), ?_⟩
  have rows := SL.push e1 o1 l1 (b15.mono (by decide))
  have b16 := (litM (s := "(a * b) [a=1") (n := 40) (by decide +kernel))
  have g17 := ((strN_rep (c := 48) (k := 20) (by decide)).mono (by decide : _ ≤ 60))
  have b17 := b16.cat g17
  have g18 := (litM (s := ",b=-1") (n := 40) (by decide +kernel))
  have b18 := b17.cat g18
  have g19 := ((strN_rep (c := 48) (k := 20) (by decide)).mono (by decide : _ ≤ 60))
  have b19 := b18.cat g19
  have g20 := (litM (s := "] = -1") (n := 40) (by decide +kernel))
  have b20 := b19.cat g20
  have g21 := ((strN_rep (c := 48) (k := 40) (by decide)).mono (by decide : _ ≤ 60))
  have b21 := b20.cat g21
  obtain ⟨xs1, e1, o1, l1⟩ := rows
  refine ⟨_, rfl, .inl ⟨rfl, _, SqL.of e1⟩, [48], 20, ez0, rfl, by decide, by decide, by decide, by decide, _, _, rfl, rfl, b16.line g17 (by decide), _, _, rfl, rfl, b17.line g18 (by decide), [48], 20, ez0, rfl, by decide, by decide, by decide, by decide, _, _, rfl, rfl, b18.line g19 (by decide), _, _, rfl, rfl, b19.line g20 (by decide), [48], 40, ez0, rfl, by decide, by decide, by decide, by decide, _, _, rfl, rfl, b20.line g21 (by decide), _, xs1, _, rfl, rfl, e1, lt_line (by rw [l1]; decide), ?_⟩
  have rows := SL.push e1 o1 l1 (b21.mono (by decide))
  have b22 := (litM (s := "[a ? 3 : 3] [a=") (n := 40) (by decide +kernel))
  have g23 := ((strN_rep (c := 49) (k := 40) (by decide)).mono (by decide : _ ≤ 60))
  have b23 := b22.cat g23
  have g24 := (litM (s := "] = 3") (n := 40) (by decide +kernel))
  have b24 := b23.cat g24
  have b25 := (litM (s := "[a ? 3 : 3] [a=") (n := 40) (by decide +kernel))
  have g26 := ((strN_rep (c := 49) (k := 41) (by decide)).mono (by decide : _ ≤ 60))
  have b26 := b25.cat g26
  have g27 := (litM (s := "] = 3") (n := 40) (by decide +kernel))
  have b27 := b26.cat g27
  refine ⟨_, rfl, [49], 40, ez1, rfl, by decide, by decide, by decide, by decide, _, _, rfl, rfl, b22.line g23 (by decide), _, _, rfl, rfl, b23.line g24 (by decide), [49], 41, ez1, rfl, by decide, by decide, by decide, by decide, _, _, rfl, rfl, b25.line g26 (by decide), _, _, rfl, rfl, b26.line g27 (by decide), le_line (Nat.le_of_ble_eq_true rfl), fun A28 K28 n28 s28 h28 => ?_⟩
  have new := SL.of h28 (.cons (b24.mono (by decide)) (.cons (b27.mono (by decide)) .nil))
  have rows := rows.same s28
  obtain ⟨xs1, e1, o1, l1⟩ := rows
  obtain ⟨xs2, e2, o2, l2⟩ := new
  refine ⟨_, _, _, _, rfl, rfl, e1, e2, (by rw [l1, l2]; exact le_line (by decide)), fun A29 K29 n29 s29 h29 => ?_⟩
  have rows : SL K29 A29 34 := ⟨_, h29, o1.app o2, by rw [List.length_append, l1, l2] <;> rfl⟩
  refine ⟨_, rfl, le_line (Nat.le_of_ble_eq_true rfl), fun Z30 K30 n30 s30 h30 => ?_⟩
  have rows := rows.same s30
  refine ⟨Z30, rfl, ⟨_, SqL.of h30⟩, fun M nM => lc_list (K := K) (xs := [.int 19, .int 20]) (fun i G => ∃ acc, Same K30 G ∧ G M = some (.lst acc) ∧ AllS acc ∧ acc.length = i) ⟨[], same_new nM _, upd_same, fun _ h => (nomatch h), rfl⟩ (fun i G _ ⟨_, s, _⟩ => SqL.of (s _ _ h30)) (fun i x G hx ⟨acc, sG, hM, ha, hl⟩ => ?_) (fun G ⟨acc, sG, hM, ha, hl⟩ => ?_)⟩
  · obtain ⟨k, rfl, k1, k2⟩ : ∃ k : Nat, x = .int (k : Int) ∧ 19 ≤ k ∧ k ≤ 20 := by
      match i, hx with
      | 0, hx => exact ⟨19, (Option.some.inj hx).symm, by decide, by decide⟩
      | 1, hx => exact ⟨20, (Option.some.inj hx).symm, by decide, by decide⟩
    have b32 := (litM (s := "(a * a) [a=1") (n := 40) (by decide +kernel))
    have g33 := ((strN_rep (c := 48) (k := k) (by decide)).mono (by omega : _ ≤ 60))
    have b33 := b32.cat g33
    have g34 := (litM (s := "] = 1") (n := 40) (by decide +kernel))
    have b34 := b33.cat g34
    have g35 := ((strN_rep (c := 48) (k := 2 * k) (by decide)).mono (by omega : _ ≤ 60))
    have b35 := b34.cat g35
    have i2 : i < 2 := (List.getElem?_eq_some_iff.mp hx).1
    refine ⟨rfl, _, rfl, [48], k, ez0, rfl, by omega, by omega, by decide, by decide, _, _, rfl, rfl, b32.line g33 (by decide), _, _, rfl, rfl, b33.line g34 (by decide), _, rfl, _, _, rfl, rfl, .inl ⟨by decide, by decide⟩, [48], 2 * k, ez0, congrArg V.int (by omega), by omega, by omega, by decide, by decide, _, _, rfl, rfl, b34.line g35 (by decide), _, hM, lt_line (by omega), _, same_upd sG nM _, upd_same, ha.app (AllC.all (.cons (b35.mono (by decide)) .nil)), by rw [List.length_append, hl]; rfl⟩
  have rows := rows.same sG
  have new : SL G M 2 := ⟨acc, hM, ha, hl⟩
  obtain ⟨xs1, e1, o1, l1⟩ := rows
  obtain ⟨xs2, e2, o2, l2⟩ := new
  refine ⟨_, _, _, _, rfl, rfl, e1, e2, (by rw [l1, l2]; exact le_line (by decide)), fun A36 K36 n36 s36 h36 => ?_⟩
  have rows : SL K36 A36 36 := ⟨_, h36, o1.app o2, by rw [List.length_append, l1, l2] <;> rfl⟩
  have b37 := ((strN_rep (c := 49) (k := 40) (by decide)).mono (by decide : _ ≤ 60))
  have g38 := (litM (s := " [] = ") (n := 40) (by decide +kernel))
  have b38 := b37.cat g38
  have g39 := ((strN_rep (c := 49) (k := 40) (by decide)).mono (by decide : _ ≤ 60))
  have b39 := b38.cat g39
  have b40 := ((strN_rep (c := 49) (k := 41) (by decide)).mono (by decide : _ ≤ 60))
  have g41 := (litM (s := " [] = ") (n := 40) (by decide +kernel))
  have b41 := b40.cat g41
  have g42 := ((strN_rep (c := 49) (k := 41) (by decide)).mono (by decide : _ ≤ 60))
  have b42 := b41.cat g42
  have b43 := ((strN_rep (c := 48) (k := 41) (by decide)).mono (by decide : _ ≤ 60))
  have g44 := (litM (s := " [] = 0") (n := 40) (by decide +kernel))
  have b44 := b43.cat g44
  refine ⟨_, rfl, [49], 40, ez1, rfl, by decide, by decide, by decide, by decide, _, _, rfl, rfl, b37.line g38 (by decide), [49], 40, ez1, rfl, by decide, by decide, by decide, by decide, _, _, rfl, rfl, b38.line g39 (by decide), [49], 41, ez1, rfl, by decide, by decide, by decide, by decide, _, _, rfl, rfl, b40.line g41 (by decide), [49], 41, ez1, rfl, by decide, by decide, by decide, by decide, _, _, rfl, rfl, b41.line g42 (by decide), [48], 41, ez0, rfl, by decide, by decide, by decide, by decide, _, _, rfl, rfl, b43.line g44 (by decide), le_line (Nat.le_of_ble_eq_true rfl), fun A45 K45 n45 s45 h45 => ?_⟩
  have new := SL.of h45 (.cons (b39.mono (by decide)) (.cons (b42.mono (by decide)) (.cons (b44.mono (by decide)) .nil)))
  have rows := rows.same s45
  obtain ⟨xs1, e1, o1, l1⟩ := rows
  obtain ⟨xs2, e2, o2, l2⟩ := new
  refine ⟨_, _, _, _, rfl, rfl, e1, e2, (by rw [l1, l2]; exact le_line (by decide)), fun A46 K46 n46 s46 h46 => ?_⟩
  have rows : SL K46 A46 39 := ⟨_, h46, o1.app o2, by rw [List.length_append, l1, l2] <;> rfl⟩
  refine ⟨_, rfl, le_line (Nat.le_of_ble_eq_true rfl), fun X1 F1 nX1 sX1 hX1 => ?_⟩
  refine ⟨le_line (Nat.le_of_ble_eq_true rfl), fun X2 F2 nX2 sX2 hX2 => ?_⟩
  refine fun X3 nX3 => ?_
  have sX3 := same_new nX3 (.dK [])
  have hX3 : upd F2 X3 (.dK []) X3 = some (.dK []) := upd_same
  generalize upd F2 X3 (.dK []) = F3 at sX3 hX3 ⊢
  refine ⟨le_line (Nat.le_of_ble_eq_true rfl), fun X4 F4 nX4 sX4 hX4 => ?_⟩
  refine ⟨le_line (Nat.le_of_ble_eq_true rfl), fun X5 F5 nX5 sX5 hX5 => ?_⟩
  refine ⟨le_line (Nat.le_of_ble_eq_true rfl), fun X6 F6 nX6 sX6 hX6 => ?_⟩
  refine ⟨le_line (Nat.le_of_ble_eq_true rfl), fun X7 F7 nX7 sX7 hX7 => ?_⟩
  obtain ⟨xs1, e1, o1, l1⟩ := rows.same (Same.trans sX1 (Same.trans sX2 (Same.trans sX3 (Same.trans sX4 (Same.trans sX5 (Same.trans sX6 sX7))))))
  refine ⟨_, _, _, _, rfl, rfl, e1, hX7, (by rw [l1]; exact le_line (show 39 + 7 ≤ 16777216 by decide)), fun X8 F8 nX8 sX8 hX8 => ?_⟩
  have d1 : Data F8 (.lst [.str [53, 32, 91, 93, 32, 61, 32, 53]]) (.ref X1) := ⟨X1, _, rfl, sX8 _ _ (sX7 _ _ (sX6 _ _ (sX5 _ _ (sX4 _ _ (sX3 _ _ (sX2 _ _ hX1)))))), _, _, rfl, congrArg V.str (by decide +kernel), rfl⟩
  have d2 : Data F8 (.tup []) (.ref X2) := ⟨X2, _, rfl, sX8 _ _ (sX7 _ _ (sX6 _ _ (sX5 _ _ (sX4 _ _ (sX3 _ _ hX2))))), rfl⟩
  have d3 : Data F8 .dct (.ref X3) := ⟨X3, _, rfl, sX8 _ _ (sX7 _ _ (sX6 _ _ (sX5 _ _ (sX4 _ _ hX3))))⟩
  have d4 : Data F8 (.tup [.tup [.str w_number, .int 5], .lst [], .int 5]) (.ref X6) := ⟨X6, _, rfl, sX8 _ _ (sX7 _ _ hX6), .ref X4, _, rfl, ⟨X4, _, rfl, sX8 _ _ (sX7 _ _ (sX6 _ _ (sX5 _ _ hX4))), _, _, rfl, congrArg V.str (by decide +kernel), _, _, rfl, rfl, rfl⟩, .ref X5, _, rfl, ⟨X5, _, rfl, sX8 _ _ (sX7 _ _ (sX6 _ _ hX5)), rfl⟩, _, _, rfl, rfl, rfl⟩
  have all : ∀ v ∈ xs1 ++ [V.non, .int 5, .bl true, .ref X1, .ref X2, .ref X3, .ref X6], ∃ t : Th, Data F8 t v ∧ t.tame = true ∧ ∀ z, t = .str z → z.length ≤ 49000 := fun v hv => by
    rcases List.mem_append.mp hv with h | h
    · obtain ⟨s0, rfl, hs⟩ := o1 v h
      obtain ⟨z, h1, h2, h3⟩ := hs.data F8
      exact ⟨_, h1, h2, fun z' e => by cases e; exact h3⟩
    · simp only [List.mem_cons, List.not_mem_nil, or_false] at h
      rcases h with h | h | h | h | h | h | h <;> rw [h]
      · exact ⟨.non, rfl, rfl, fun _ e => nomatch e⟩
      · exact ⟨.int 5, rfl, rfl, fun _ e => nomatch e⟩
      · exact ⟨.bl true, rfl, rfl, fun _ e => nomatch e⟩
      · exact ⟨_, d1, rfl, fun _ e => nomatch e⟩
      · exact ⟨_, d2, rfl, fun _ e => nomatch e⟩
      · exact ⟨_, d3, rfl, fun _ e => nomatch e⟩
      · exact ⟨_, d4, by decide +kernel, fun _ e => nomatch e⟩
  refine ⟨X8, rfl, ⟨_, SqL.of hX8⟩, for_list (K := K) (xs := xs1 ++ [V.non, .int 5, .bl true, .ref X1, .ref X2, .ref X3, .ref X6]) (fun j σ H' => ∃ v11 : Option V, σ = [some (.ref a), v1, v2, v3, v4, v5, v6, some (.ref A46), v8, v9, v10, v11, v12] ∧ Same F8 H') ⟨v11, rfl, Same.refl _⟩ (fun j σ H' _ ⟨_, _, s⟩ => SqL.of (s _ _ hX8)) ?_ ?_⟩
  · rintro j x σ G1 hx ⟨v11, rfl, sG⟩
    obtain ⟨t, ht1, ht2, ht3⟩ := all x (List.mem_of_getElem? hx)
    refine ⟨_, rfl, x, t, rfl, ht1.same sG, ht2, ht3, fun G2 s2 => ⟨_, rfl, not_true_eq rfl ?_⟩⟩
    exact ⟨_, rfl, sG.trans s2⟩
  · rintro σ G1 ⟨v11, rfl, sG⟩
    exact q G1
end
theorem all_mk {l : PySem.W.OpenLaw} {w : World} {K : PySem.W.Frag} {h : Heap} {mg : Str → Option Value} {fa f_is_whole_recipes f_is_name f_are_names f_within f_is_recipe f_behind f_is_whole_behind f_is_read f_is_true_record f_show_recipe f_behind_signs f_expected f_read_name f_read_number f_read_two f_read_pick f_read_part f_read_recipe f_numbers_in f_is_short f_show_record f_read_one f_read_reads f_read_record f__law_pool f__law_take f__law_names f__law_leaf f__law_part f__law_recipe f__law_look f__law_gone f__law_behind f__law_all_reads f__law_kinds f__law_shown f__law_written f__law_number f__law_name f__law_recipe_in f__law_reads_in f__law_due f__law_wrapped f__law_several f__law_great f__law_spoilt f__law_right f_law : Addr} (X : K.In h) (G : h.Ns mainGlobals mg) (hfa : mg "law" = some (.ref fa))
    {od_is_whole_recipes an_is_whole_recipes od_is_name an_is_name od_are_names an_are_names od_within an_within od_is_recipe an_is_recipe od_behind an_behind od_is_whole_behind an_is_whole_behind od_is_read an_is_read od_is_true_record an_is_true_record od_show_recipe an_show_recipe od_behind_signs an_behind_signs od_expected an_expected od_read_name an_read_name od_read_number an_read_number od_read_two an_read_two od_read_pick an_read_pick od_read_part an_read_part od_read_recipe an_read_recipe od_numbers_in an_numbers_in od_is_short an_is_short od_show_record an_show_record od_read_one an_read_one od_read_reads an_read_reads od_read_record an_read_record od__law_pool an__law_pool od__law_take an__law_take od__law_names an__law_names od__law_leaf an__law_leaf od__law_part an__law_part od__law_recipe an__law_recipe od__law_look an__law_look od__law_gone an__law_gone od__law_behind an__law_behind od__law_all_reads an__law_all_reads od__law_kinds an__law_kinds od__law_shown an__law_shown od__law_written an__law_written od__law_number an__law_number od__law_name an__law_name od__law_recipe_in an__law_recipe_in od__law_reads_in an__law_reads_in od__law_due an__law_due od__law_wrapped an__law_wrapped od__law_several an__law_several od__law_great an__law_great od__law_spoilt an__law_spoilt od__law_right an__law_right od_law an_law : Option Addr} {sl_is_whole_recipes sl_is_name sl_are_names sl_within sl_is_recipe sl_behind sl_is_whole_behind sl_is_read sl_is_true_record sl_show_recipe sl_behind_signs sl_expected sl_read_name sl_read_number sl_read_two sl_read_pick sl_read_part sl_read_recipe sl_numbers_in sl_is_short sl_show_record sl_read_one sl_read_reads sl_read_record sl__law_pool sl__law_take sl__law_names sl__law_leaf sl__law_part sl__law_recipe sl__law_look sl__law_gone sl__law_behind sl__law_all_reads sl__law_kinds sl__law_shown sl__law_written sl__law_number sl__law_name sl__law_recipe_in sl__law_reads_in sl__law_due sl__law_wrapped sl__law_several sl__law_great sl__law_spoilt sl__law_right sl_law : Array (Option Value)} {oc_is_whole_recipes kV_is_whole_recipes dc_is_whole_recipes pm_is_whole_recipes cd_is_whole_recipes ct_is_whole_recipes oc_is_name kV_is_name dc_is_name pm_is_name cd_is_name ct_is_name oc_are_names kV_are_names dc_are_names pm_are_names cd_are_names ct_are_names oc_within kV_within dc_within pm_within cd_within ct_within oc_is_recipe kV_is_recipe dc_is_recipe pm_is_recipe cd_is_recipe ct_is_recipe oc_behind kV_behind dc_behind pm_behind cd_behind ct_behind oc_is_whole_behind kV_is_whole_behind dc_is_whole_behind pm_is_whole_behind cd_is_whole_behind ct_is_whole_behind oc_is_read kV_is_read dc_is_read pm_is_read cd_is_read ct_is_read oc_is_true_record kV_is_true_record dc_is_true_record pm_is_true_record cd_is_true_record ct_is_true_record oc_show_recipe kV_show_recipe dc_show_recipe pm_show_recipe cd_show_recipe ct_show_recipe oc_behind_signs kV_behind_signs dc_behind_signs pm_behind_signs cd_behind_signs ct_behind_signs oc_expected kV_expected dc_expected pm_expected cd_expected ct_expected oc_read_name kV_read_name dc_read_name pm_read_name cd_read_name ct_read_name oc_read_number kV_read_number dc_read_number pm_read_number cd_read_number ct_read_number oc_read_two kV_read_two dc_read_two pm_read_two cd_read_two ct_read_two oc_read_pick kV_read_pick dc_read_pick pm_read_pick cd_read_pick ct_read_pick oc_read_part kV_read_part dc_read_part pm_read_part cd_read_part ct_read_part oc_read_recipe kV_read_recipe dc_read_recipe pm_read_recipe cd_read_recipe ct_read_recipe oc_numbers_in kV_numbers_in dc_numbers_in pm_numbers_in cd_numbers_in ct_numbers_in oc_is_short kV_is_short dc_is_short pm_is_short cd_is_short ct_is_short oc_show_record kV_show_record dc_show_record pm_show_record cd_show_record ct_show_record oc_read_one kV_read_one dc_read_one pm_read_one cd_read_one ct_read_one oc_read_reads kV_read_reads dc_read_reads pm_read_reads cd_read_reads ct_read_reads oc_read_record kV_read_record dc_read_record pm_read_record cd_read_record ct_read_record oc__law_pool kV__law_pool dc__law_pool pm__law_pool cd__law_pool ct__law_pool oc__law_take kV__law_take dc__law_take pm__law_take cd__law_take ct__law_take oc__law_names kV__law_names dc__law_names pm__law_names cd__law_names ct__law_names oc__law_leaf kV__law_leaf dc__law_leaf pm__law_leaf cd__law_leaf ct__law_leaf oc__law_part kV__law_part dc__law_part pm__law_part cd__law_part ct__law_part oc__law_recipe kV__law_recipe dc__law_recipe pm__law_recipe cd__law_recipe ct__law_recipe oc__law_look kV__law_look dc__law_look pm__law_look cd__law_look ct__law_look oc__law_gone kV__law_gone dc__law_gone pm__law_gone cd__law_gone ct__law_gone oc__law_behind kV__law_behind dc__law_behind pm__law_behind cd__law_behind ct__law_behind oc__law_all_reads kV__law_all_reads dc__law_all_reads pm__law_all_reads cd__law_all_reads ct__law_all_reads oc__law_kinds kV__law_kinds dc__law_kinds pm__law_kinds cd__law_kinds ct__law_kinds oc__law_shown kV__law_shown dc__law_shown pm__law_shown cd__law_shown ct__law_shown oc__law_written kV__law_written dc__law_written pm__law_written cd__law_written ct__law_written oc__law_number kV__law_number dc__law_number pm__law_number cd__law_number ct__law_number oc__law_name kV__law_name dc__law_name pm__law_name cd__law_name ct__law_name oc__law_recipe_in kV__law_recipe_in dc__law_recipe_in pm__law_recipe_in cd__law_recipe_in ct__law_recipe_in oc__law_reads_in kV__law_reads_in dc__law_reads_in pm__law_reads_in cd__law_reads_in ct__law_reads_in oc__law_due kV__law_due dc__law_due pm__law_due cd__law_due ct__law_due oc__law_wrapped kV__law_wrapped dc__law_wrapped pm__law_wrapped cd__law_wrapped ct__law_wrapped oc__law_several kV__law_several dc__law_several pm__law_several cd__law_several ct__law_several oc__law_great kV__law_great dc__law_great pm__law_great cd__law_great ct__law_great oc__law_spoilt kV__law_spoilt dc__law_spoilt pm__law_spoilt cd__law_spoilt ct__law_spoilt oc__law_right kV__law_right dc__law_right pm__law_right cd__law_right ct__law_right oc_law kV_law dc_law pm_law cd_law ct_law : Value}
    (a_is_whole_recipes : PySem.W.nsIn K mainGlobals "is_whole_recipes" = some (some (.ref f_is_whole_recipes))) (l_is_whole_recipes : K.lookup f_is_whole_recipes = some ⟨oc_is_whole_recipes, od_is_whole_recipes, .func (PySem.W.fnOf "is_whole" "is_whole" (defArgs s_is_whole_recipes) (defBody s_is_whole_recipes) (defScope s_is_whole_recipes) .none kV_is_whole_recipes dc_is_whole_recipes pm_is_whole_recipes an_is_whole_recipes cd_is_whole_recipes ct_is_whole_recipes), sl_is_whole_recipes⟩) (c_is_whole_recipes : PySem.W.codeIn K cd_is_whole_recipes "is_whole" = true) (k_is_whole_recipes : PySem.W.keepIn K (.ref f_is_whole_recipes) = true)
    (a_is_name : PySem.W.nsIn K mainGlobals "is_name" = some (some (.ref f_is_name))) (l_is_name : K.lookup f_is_name = some ⟨oc_is_name, od_is_name, .func (PySem.W.fnOf "is_name" "is_name" (defArgs s_is_name) (defBody s_is_name) (defScope s_is_name) .none kV_is_name dc_is_name pm_is_name an_is_name cd_is_name ct_is_name), sl_is_name⟩) (c_is_name : PySem.W.codeIn K cd_is_name "is_name" = true) (k_is_name : PySem.W.keepIn K (.ref f_is_name) = true)
    (a_are_names : PySem.W.nsIn K mainGlobals "are_names" = some (some (.ref f_are_names))) (l_are_names : K.lookup f_are_names = some ⟨oc_are_names, od_are_names, .func (PySem.W.fnOf "are_names" "are_names" (defArgs s_are_names) (defBody s_are_names) (defScope s_are_names) .none kV_are_names dc_are_names pm_are_names an_are_names cd_are_names ct_are_names), sl_are_names⟩) (c_are_names : PySem.W.codeIn K cd_are_names "are_names" = true) (k_are_names : PySem.W.keepIn K (.ref f_are_names) = true)
    (a_within : PySem.W.nsIn K mainGlobals "within" = some (some (.ref f_within))) (l_within : K.lookup f_within = some ⟨oc_within, od_within, .func (PySem.W.fnOf "within" "within" (defArgs s_within) (defBody s_within) (defScope s_within) .none kV_within dc_within pm_within an_within cd_within ct_within), sl_within⟩) (c_within : PySem.W.codeIn K cd_within "within" = true) (k_within : PySem.W.keepIn K (.ref f_within) = true)
    (a_is_recipe : PySem.W.nsIn K mainGlobals "is_recipe" = some (some (.ref f_is_recipe))) (l_is_recipe : K.lookup f_is_recipe = some ⟨oc_is_recipe, od_is_recipe, .func (PySem.W.fnOf "is_recipe" "is_recipe" (defArgs s_is_recipe) (defBody s_is_recipe) (defScope s_is_recipe) .none kV_is_recipe dc_is_recipe pm_is_recipe an_is_recipe cd_is_recipe ct_is_recipe), sl_is_recipe⟩) (c_is_recipe : PySem.W.codeIn K cd_is_recipe "is_recipe" = true) (k_is_recipe : PySem.W.keepIn K (.ref f_is_recipe) = true)
    (a_behind : PySem.W.nsIn K mainGlobals "behind" = some (some (.ref f_behind))) (l_behind : K.lookup f_behind = some ⟨oc_behind, od_behind, .func (PySem.W.fnOf "behind" "behind" (defArgs s_behind) (defBody s_behind) (defScope s_behind) .none kV_behind dc_behind pm_behind an_behind cd_behind ct_behind), sl_behind⟩) (c_behind : PySem.W.codeIn K cd_behind "behind" = true) (k_behind : PySem.W.keepIn K (.ref f_behind) = true)
    (a_is_whole_behind : PySem.W.nsIn K mainGlobals "is_whole_behind" = some (some (.ref f_is_whole_behind))) (l_is_whole_behind : K.lookup f_is_whole_behind = some ⟨oc_is_whole_behind, od_is_whole_behind, .func (PySem.W.fnOf "is_whole" "is_whole" (defArgs s_is_whole_behind) (defBody s_is_whole_behind) (defScope s_is_whole_behind) .none kV_is_whole_behind dc_is_whole_behind pm_is_whole_behind an_is_whole_behind cd_is_whole_behind ct_is_whole_behind), sl_is_whole_behind⟩) (c_is_whole_behind : PySem.W.codeIn K cd_is_whole_behind "is_whole" = true) (k_is_whole_behind : PySem.W.keepIn K (.ref f_is_whole_behind) = true)
    (a_is_read : PySem.W.nsIn K mainGlobals "is_read" = some (some (.ref f_is_read))) (l_is_read : K.lookup f_is_read = some ⟨oc_is_read, od_is_read, .func (PySem.W.fnOf "is_read" "is_read" (defArgs s_is_read) (defBody s_is_read) (defScope s_is_read) .none kV_is_read dc_is_read pm_is_read an_is_read cd_is_read ct_is_read), sl_is_read⟩) (c_is_read : PySem.W.codeIn K cd_is_read "is_read" = true) (k_is_read : PySem.W.keepIn K (.ref f_is_read) = true)
    (a_is_true_record : PySem.W.nsIn K mainGlobals "is_true_record" = some (some (.ref f_is_true_record))) (l_is_true_record : K.lookup f_is_true_record = some ⟨oc_is_true_record, od_is_true_record, .func (PySem.W.fnOf "is_true_record" "is_true_record" (defArgs s_is_true_record) (defBody s_is_true_record) (defScope s_is_true_record) .none kV_is_true_record dc_is_true_record pm_is_true_record an_is_true_record cd_is_true_record ct_is_true_record), sl_is_true_record⟩) (c_is_true_record : PySem.W.codeIn K cd_is_true_record "is_true_record" = true) (k_is_true_record : PySem.W.keepIn K (.ref f_is_true_record) = true)
    (a_show_recipe : PySem.W.nsIn K mainGlobals "show_recipe" = some (some (.ref f_show_recipe))) (l_show_recipe : K.lookup f_show_recipe = some ⟨oc_show_recipe, od_show_recipe, .func (PySem.W.fnOf "show_recipe" "show_recipe" (defArgs s_show_recipe) (defBody s_show_recipe) (defScope s_show_recipe) .none kV_show_recipe dc_show_recipe pm_show_recipe an_show_recipe cd_show_recipe ct_show_recipe), sl_show_recipe⟩) (c_show_recipe : PySem.W.codeIn K cd_show_recipe "show_recipe" = true) (k_show_recipe : PySem.W.keepIn K (.ref f_show_recipe) = true)
    (a_behind_signs : PySem.W.nsIn K mainGlobals "behind_signs" = some (some (.ref f_behind_signs))) (l_behind_signs : K.lookup f_behind_signs = some ⟨oc_behind_signs, od_behind_signs, .func (PySem.W.fnOf "behind_signs" "behind_signs" (defArgs s_behind_signs) (defBody s_behind_signs) (defScope s_behind_signs) .none kV_behind_signs dc_behind_signs pm_behind_signs an_behind_signs cd_behind_signs ct_behind_signs), sl_behind_signs⟩) (c_behind_signs : PySem.W.codeIn K cd_behind_signs "behind_signs" = true) (k_behind_signs : PySem.W.keepIn K (.ref f_behind_signs) = true)
    (a_expected : PySem.W.nsIn K mainGlobals "expected" = some (some (.ref f_expected))) (l_expected : K.lookup f_expected = some ⟨oc_expected, od_expected, .func (PySem.W.fnOf "expected" "expected" (defArgs s_expected) (defBody s_expected) (defScope s_expected) .none kV_expected dc_expected pm_expected an_expected cd_expected ct_expected), sl_expected⟩) (c_expected : PySem.W.codeIn K cd_expected "expected" = true) (k_expected : PySem.W.keepIn K (.ref f_expected) = true)
    (a_read_name : PySem.W.nsIn K mainGlobals "read_name" = some (some (.ref f_read_name))) (l_read_name : K.lookup f_read_name = some ⟨oc_read_name, od_read_name, .func (PySem.W.fnOf "read_name" "read_name" (defArgs s_read_name) (defBody s_read_name) (defScope s_read_name) .none kV_read_name dc_read_name pm_read_name an_read_name cd_read_name ct_read_name), sl_read_name⟩) (c_read_name : PySem.W.codeIn K cd_read_name "read_name" = true) (k_read_name : PySem.W.keepIn K (.ref f_read_name) = true)
    (a_read_number : PySem.W.nsIn K mainGlobals "read_number" = some (some (.ref f_read_number))) (l_read_number : K.lookup f_read_number = some ⟨oc_read_number, od_read_number, .func (PySem.W.fnOf "read_number" "read_number" (defArgs s_read_number) (defBody s_read_number) (defScope s_read_number) .none kV_read_number dc_read_number pm_read_number an_read_number cd_read_number ct_read_number), sl_read_number⟩) (c_read_number : PySem.W.codeIn K cd_read_number "read_number" = true) (k_read_number : PySem.W.keepIn K (.ref f_read_number) = true)
    (a_read_two : PySem.W.nsIn K mainGlobals "read_two" = some (some (.ref f_read_two))) (l_read_two : K.lookup f_read_two = some ⟨oc_read_two, od_read_two, .func (PySem.W.fnOf "read_two" "read_two" (defArgs s_read_two) (defBody s_read_two) (defScope s_read_two) .none kV_read_two dc_read_two pm_read_two an_read_two cd_read_two ct_read_two), sl_read_two⟩) (c_read_two : PySem.W.codeIn K cd_read_two "read_two" = true) (k_read_two : PySem.W.keepIn K (.ref f_read_two) = true)
    (a_read_pick : PySem.W.nsIn K mainGlobals "read_pick" = some (some (.ref f_read_pick))) (l_read_pick : K.lookup f_read_pick = some ⟨oc_read_pick, od_read_pick, .func (PySem.W.fnOf "read_pick" "read_pick" (defArgs s_read_pick) (defBody s_read_pick) (defScope s_read_pick) .none kV_read_pick dc_read_pick pm_read_pick an_read_pick cd_read_pick ct_read_pick), sl_read_pick⟩) (c_read_pick : PySem.W.codeIn K cd_read_pick "read_pick" = true) (k_read_pick : PySem.W.keepIn K (.ref f_read_pick) = true)
    (a_read_part : PySem.W.nsIn K mainGlobals "read_part" = some (some (.ref f_read_part))) (l_read_part : K.lookup f_read_part = some ⟨oc_read_part, od_read_part, .func (PySem.W.fnOf "read_part" "read_part" (defArgs s_read_part) (defBody s_read_part) (defScope s_read_part) .none kV_read_part dc_read_part pm_read_part an_read_part cd_read_part ct_read_part), sl_read_part⟩) (c_read_part : PySem.W.codeIn K cd_read_part "read_part" = true) (k_read_part : PySem.W.keepIn K (.ref f_read_part) = true)
    (a_read_recipe : PySem.W.nsIn K mainGlobals "read_recipe" = some (some (.ref f_read_recipe))) (l_read_recipe : K.lookup f_read_recipe = some ⟨oc_read_recipe, od_read_recipe, .func (PySem.W.fnOf "read_recipe" "read_recipe" (defArgs s_read_recipe) (defBody s_read_recipe) (defScope s_read_recipe) .none kV_read_recipe dc_read_recipe pm_read_recipe an_read_recipe cd_read_recipe ct_read_recipe), sl_read_recipe⟩) (c_read_recipe : PySem.W.codeIn K cd_read_recipe "read_recipe" = true) (k_read_recipe : PySem.W.keepIn K (.ref f_read_recipe) = true)
    (a_numbers_in : PySem.W.nsIn K mainGlobals "numbers_in" = some (some (.ref f_numbers_in))) (l_numbers_in : K.lookup f_numbers_in = some ⟨oc_numbers_in, od_numbers_in, .func (PySem.W.fnOf "numbers_in" "numbers_in" (defArgs s_numbers_in) (defBody s_numbers_in) (defScope s_numbers_in) .none kV_numbers_in dc_numbers_in pm_numbers_in an_numbers_in cd_numbers_in ct_numbers_in), sl_numbers_in⟩) (c_numbers_in : PySem.W.codeIn K cd_numbers_in "numbers_in" = true) (k_numbers_in : PySem.W.keepIn K (.ref f_numbers_in) = true)
    (a_is_short : PySem.W.nsIn K mainGlobals "is_short" = some (some (.ref f_is_short))) (l_is_short : K.lookup f_is_short = some ⟨oc_is_short, od_is_short, .func (PySem.W.fnOf "is_short" "is_short" (defArgs s_is_short) (defBody s_is_short) (defScope s_is_short) .none kV_is_short dc_is_short pm_is_short an_is_short cd_is_short ct_is_short), sl_is_short⟩) (c_is_short : PySem.W.codeIn K cd_is_short "is_short" = true) (k_is_short : PySem.W.keepIn K (.ref f_is_short) = true)
    (a_show_record : PySem.W.nsIn K mainGlobals "show_record" = some (some (.ref f_show_record))) (l_show_record : K.lookup f_show_record = some ⟨oc_show_record, od_show_record, .func (PySem.W.fnOf "show_record" "show_record" (defArgs s_show_record) (defBody s_show_record) (defScope s_show_record) .none kV_show_record dc_show_record pm_show_record an_show_record cd_show_record ct_show_record), sl_show_record⟩) (c_show_record : PySem.W.codeIn K cd_show_record "show_record" = true) (k_show_record : PySem.W.keepIn K (.ref f_show_record) = true)
    (a_read_one : PySem.W.nsIn K mainGlobals "read_one" = some (some (.ref f_read_one))) (l_read_one : K.lookup f_read_one = some ⟨oc_read_one, od_read_one, .func (PySem.W.fnOf "read_one" "read_one" (defArgs s_read_one) (defBody s_read_one) (defScope s_read_one) .none kV_read_one dc_read_one pm_read_one an_read_one cd_read_one ct_read_one), sl_read_one⟩) (c_read_one : PySem.W.codeIn K cd_read_one "read_one" = true) (k_read_one : PySem.W.keepIn K (.ref f_read_one) = true)
    (a_read_reads : PySem.W.nsIn K mainGlobals "read_reads" = some (some (.ref f_read_reads))) (l_read_reads : K.lookup f_read_reads = some ⟨oc_read_reads, od_read_reads, .func (PySem.W.fnOf "read_reads" "read_reads" (defArgs s_read_reads) (defBody s_read_reads) (defScope s_read_reads) .none kV_read_reads dc_read_reads pm_read_reads an_read_reads cd_read_reads ct_read_reads), sl_read_reads⟩) (c_read_reads : PySem.W.codeIn K cd_read_reads "read_reads" = true) (k_read_reads : PySem.W.keepIn K (.ref f_read_reads) = true)
    (a_read_record : PySem.W.nsIn K mainGlobals "read_record" = some (some (.ref f_read_record))) (l_read_record : K.lookup f_read_record = some ⟨oc_read_record, od_read_record, .func (PySem.W.fnOf "read_record" "read_record" (defArgs s_read_record) (defBody s_read_record) (defScope s_read_record) .none kV_read_record dc_read_record pm_read_record an_read_record cd_read_record ct_read_record), sl_read_record⟩) (c_read_record : PySem.W.codeIn K cd_read_record "read_record" = true) (k_read_record : PySem.W.keepIn K (.ref f_read_record) = true)
    (a__law_pool : PySem.W.nsIn K mainGlobals "_law_pool" = some (some (.ref f__law_pool))) (l__law_pool : K.lookup f__law_pool = some ⟨oc__law_pool, od__law_pool, .func (PySem.W.fnOf "_law_pool" "_law_pool" (defArgs s__law_pool) (defBody s__law_pool) (defScope s__law_pool) .none kV__law_pool dc__law_pool pm__law_pool an__law_pool cd__law_pool ct__law_pool), sl__law_pool⟩) (c__law_pool : PySem.W.codeIn K cd__law_pool "_law_pool" = true) (k__law_pool : PySem.W.keepIn K (.ref f__law_pool) = true)
    (a__law_take : PySem.W.nsIn K mainGlobals "_law_take" = some (some (.ref f__law_take))) (l__law_take : K.lookup f__law_take = some ⟨oc__law_take, od__law_take, .func (PySem.W.fnOf "_law_take" "_law_take" (defArgs s__law_take) (defBody s__law_take) (defScope s__law_take) .none kV__law_take dc__law_take pm__law_take an__law_take cd__law_take ct__law_take), sl__law_take⟩) (c__law_take : PySem.W.codeIn K cd__law_take "_law_take" = true) (k__law_take : PySem.W.keepIn K (.ref f__law_take) = true)
    (a__law_names : PySem.W.nsIn K mainGlobals "_law_names" = some (some (.ref f__law_names))) (l__law_names : K.lookup f__law_names = some ⟨oc__law_names, od__law_names, .func (PySem.W.fnOf "_law_names" "_law_names" (defArgs s__law_names) (defBody s__law_names) (defScope s__law_names) .none kV__law_names dc__law_names pm__law_names an__law_names cd__law_names ct__law_names), sl__law_names⟩) (c__law_names : PySem.W.codeIn K cd__law_names "_law_names" = true) (k__law_names : PySem.W.keepIn K (.ref f__law_names) = true)
    (a__law_leaf : PySem.W.nsIn K mainGlobals "_law_leaf" = some (some (.ref f__law_leaf))) (l__law_leaf : K.lookup f__law_leaf = some ⟨oc__law_leaf, od__law_leaf, .func (PySem.W.fnOf "_law_leaf" "_law_leaf" (defArgs s__law_leaf) (defBody s__law_leaf) (defScope s__law_leaf) .none kV__law_leaf dc__law_leaf pm__law_leaf an__law_leaf cd__law_leaf ct__law_leaf), sl__law_leaf⟩) (c__law_leaf : PySem.W.codeIn K cd__law_leaf "_law_leaf" = true) (k__law_leaf : PySem.W.keepIn K (.ref f__law_leaf) = true)
    (a__law_part : PySem.W.nsIn K mainGlobals "_law_part" = some (some (.ref f__law_part))) (l__law_part : K.lookup f__law_part = some ⟨oc__law_part, od__law_part, .func (PySem.W.fnOf "_law_part" "_law_part" (defArgs s__law_part) (defBody s__law_part) (defScope s__law_part) .none kV__law_part dc__law_part pm__law_part an__law_part cd__law_part ct__law_part), sl__law_part⟩) (c__law_part : PySem.W.codeIn K cd__law_part "_law_part" = true) (k__law_part : PySem.W.keepIn K (.ref f__law_part) = true)
    (a__law_recipe : PySem.W.nsIn K mainGlobals "_law_recipe" = some (some (.ref f__law_recipe))) (l__law_recipe : K.lookup f__law_recipe = some ⟨oc__law_recipe, od__law_recipe, .func (PySem.W.fnOf "_law_recipe" "_law_recipe" (defArgs s__law_recipe) (defBody s__law_recipe) (defScope s__law_recipe) .none kV__law_recipe dc__law_recipe pm__law_recipe an__law_recipe cd__law_recipe ct__law_recipe), sl__law_recipe⟩) (c__law_recipe : PySem.W.codeIn K cd__law_recipe "_law_recipe" = true) (k__law_recipe : PySem.W.keepIn K (.ref f__law_recipe) = true)
    (a__law_look : PySem.W.nsIn K mainGlobals "_law_look" = some (some (.ref f__law_look))) (l__law_look : K.lookup f__law_look = some ⟨oc__law_look, od__law_look, .func (PySem.W.fnOf "_law_look" "_law_look" (defArgs s__law_look) (defBody s__law_look) (defScope s__law_look) .none kV__law_look dc__law_look pm__law_look an__law_look cd__law_look ct__law_look), sl__law_look⟩) (c__law_look : PySem.W.codeIn K cd__law_look "_law_look" = true) (k__law_look : PySem.W.keepIn K (.ref f__law_look) = true)
    (a__law_gone : PySem.W.nsIn K mainGlobals "_law_gone" = some (some (.ref f__law_gone))) (l__law_gone : K.lookup f__law_gone = some ⟨oc__law_gone, od__law_gone, .func (PySem.W.fnOf "_law_gone" "_law_gone" (defArgs s__law_gone) (defBody s__law_gone) (defScope s__law_gone) .none kV__law_gone dc__law_gone pm__law_gone an__law_gone cd__law_gone ct__law_gone), sl__law_gone⟩) (c__law_gone : PySem.W.codeIn K cd__law_gone "_law_gone" = true) (k__law_gone : PySem.W.keepIn K (.ref f__law_gone) = true)
    (a__law_behind : PySem.W.nsIn K mainGlobals "_law_behind" = some (some (.ref f__law_behind))) (l__law_behind : K.lookup f__law_behind = some ⟨oc__law_behind, od__law_behind, .func (PySem.W.fnOf "_law_behind" "_law_behind" (defArgs s__law_behind) (defBody s__law_behind) (defScope s__law_behind) .none kV__law_behind dc__law_behind pm__law_behind an__law_behind cd__law_behind ct__law_behind), sl__law_behind⟩) (c__law_behind : PySem.W.codeIn K cd__law_behind "_law_behind" = true) (k__law_behind : PySem.W.keepIn K (.ref f__law_behind) = true)
    (a__law_all_reads : PySem.W.nsIn K mainGlobals "_law_all_reads" = some (some (.ref f__law_all_reads))) (l__law_all_reads : K.lookup f__law_all_reads = some ⟨oc__law_all_reads, od__law_all_reads, .func (PySem.W.fnOf "_law_all_reads" "_law_all_reads" (defArgs s__law_all_reads) (defBody s__law_all_reads) (defScope s__law_all_reads) .none kV__law_all_reads dc__law_all_reads pm__law_all_reads an__law_all_reads cd__law_all_reads ct__law_all_reads), sl__law_all_reads⟩) (c__law_all_reads : PySem.W.codeIn K cd__law_all_reads "_law_all_reads" = true) (k__law_all_reads : PySem.W.keepIn K (.ref f__law_all_reads) = true)
    (a__law_kinds : PySem.W.nsIn K mainGlobals "_law_kinds" = some (some (.ref f__law_kinds))) (l__law_kinds : K.lookup f__law_kinds = some ⟨oc__law_kinds, od__law_kinds, .func (PySem.W.fnOf "_law_kinds" "_law_kinds" (defArgs s__law_kinds) (defBody s__law_kinds) (defScope s__law_kinds) .none kV__law_kinds dc__law_kinds pm__law_kinds an__law_kinds cd__law_kinds ct__law_kinds), sl__law_kinds⟩) (c__law_kinds : PySem.W.codeIn K cd__law_kinds "_law_kinds" = true) (k__law_kinds : PySem.W.keepIn K (.ref f__law_kinds) = true)
    (a__law_shown : PySem.W.nsIn K mainGlobals "_law_shown" = some (some (.ref f__law_shown))) (l__law_shown : K.lookup f__law_shown = some ⟨oc__law_shown, od__law_shown, .func (PySem.W.fnOf "_law_shown" "_law_shown" (defArgs s__law_shown) (defBody s__law_shown) (defScope s__law_shown) .none kV__law_shown dc__law_shown pm__law_shown an__law_shown cd__law_shown ct__law_shown), sl__law_shown⟩) (c__law_shown : PySem.W.codeIn K cd__law_shown "_law_shown" = true) (k__law_shown : PySem.W.keepIn K (.ref f__law_shown) = true)
    (a__law_written : PySem.W.nsIn K mainGlobals "_law_written" = some (some (.ref f__law_written))) (l__law_written : K.lookup f__law_written = some ⟨oc__law_written, od__law_written, .func (PySem.W.fnOf "_law_written" "_law_written" (defArgs s__law_written) (defBody s__law_written) (defScope s__law_written) .none kV__law_written dc__law_written pm__law_written an__law_written cd__law_written ct__law_written), sl__law_written⟩) (c__law_written : PySem.W.codeIn K cd__law_written "_law_written" = true) (k__law_written : PySem.W.keepIn K (.ref f__law_written) = true)
    (a__law_number : PySem.W.nsIn K mainGlobals "_law_number" = some (some (.ref f__law_number))) (l__law_number : K.lookup f__law_number = some ⟨oc__law_number, od__law_number, .func (PySem.W.fnOf "_law_number" "_law_number" (defArgs s__law_number) (defBody s__law_number) (defScope s__law_number) .none kV__law_number dc__law_number pm__law_number an__law_number cd__law_number ct__law_number), sl__law_number⟩) (c__law_number : PySem.W.codeIn K cd__law_number "_law_number" = true) (k__law_number : PySem.W.keepIn K (.ref f__law_number) = true)
    (a__law_name : PySem.W.nsIn K mainGlobals "_law_name" = some (some (.ref f__law_name))) (l__law_name : K.lookup f__law_name = some ⟨oc__law_name, od__law_name, .func (PySem.W.fnOf "_law_name" "_law_name" (defArgs s__law_name) (defBody s__law_name) (defScope s__law_name) .none kV__law_name dc__law_name pm__law_name an__law_name cd__law_name ct__law_name), sl__law_name⟩) (c__law_name : PySem.W.codeIn K cd__law_name "_law_name" = true) (k__law_name : PySem.W.keepIn K (.ref f__law_name) = true)
    (a__law_recipe_in : PySem.W.nsIn K mainGlobals "_law_recipe_in" = some (some (.ref f__law_recipe_in))) (l__law_recipe_in : K.lookup f__law_recipe_in = some ⟨oc__law_recipe_in, od__law_recipe_in, .func (PySem.W.fnOf "_law_recipe_in" "_law_recipe_in" (defArgs s__law_recipe_in) (defBody s__law_recipe_in) (defScope s__law_recipe_in) .none kV__law_recipe_in dc__law_recipe_in pm__law_recipe_in an__law_recipe_in cd__law_recipe_in ct__law_recipe_in), sl__law_recipe_in⟩) (c__law_recipe_in : PySem.W.codeIn K cd__law_recipe_in "_law_recipe_in" = true) (k__law_recipe_in : PySem.W.keepIn K (.ref f__law_recipe_in) = true)
    (a__law_reads_in : PySem.W.nsIn K mainGlobals "_law_reads_in" = some (some (.ref f__law_reads_in))) (l__law_reads_in : K.lookup f__law_reads_in = some ⟨oc__law_reads_in, od__law_reads_in, .func (PySem.W.fnOf "_law_reads_in" "_law_reads_in" (defArgs s__law_reads_in) (defBody s__law_reads_in) (defScope s__law_reads_in) .none kV__law_reads_in dc__law_reads_in pm__law_reads_in an__law_reads_in cd__law_reads_in ct__law_reads_in), sl__law_reads_in⟩) (c__law_reads_in : PySem.W.codeIn K cd__law_reads_in "_law_reads_in" = true) (k__law_reads_in : PySem.W.keepIn K (.ref f__law_reads_in) = true)
    (a__law_due : PySem.W.nsIn K mainGlobals "_law_due" = some (some (.ref f__law_due))) (l__law_due : K.lookup f__law_due = some ⟨oc__law_due, od__law_due, .func (PySem.W.fnOf "_law_due" "_law_due" (defArgs s__law_due) (defBody s__law_due) (defScope s__law_due) .none kV__law_due dc__law_due pm__law_due an__law_due cd__law_due ct__law_due), sl__law_due⟩) (c__law_due : PySem.W.codeIn K cd__law_due "_law_due" = true) (k__law_due : PySem.W.keepIn K (.ref f__law_due) = true)
    (a__law_wrapped : PySem.W.nsIn K mainGlobals "_law_wrapped" = some (some (.ref f__law_wrapped))) (l__law_wrapped : K.lookup f__law_wrapped = some ⟨oc__law_wrapped, od__law_wrapped, .func (PySem.W.fnOf "_law_wrapped" "_law_wrapped" (defArgs s__law_wrapped) (defBody s__law_wrapped) (defScope s__law_wrapped) .none kV__law_wrapped dc__law_wrapped pm__law_wrapped an__law_wrapped cd__law_wrapped ct__law_wrapped), sl__law_wrapped⟩) (c__law_wrapped : PySem.W.codeIn K cd__law_wrapped "_law_wrapped" = true) (k__law_wrapped : PySem.W.keepIn K (.ref f__law_wrapped) = true)
    (a__law_several : PySem.W.nsIn K mainGlobals "_law_several" = some (some (.ref f__law_several))) (l__law_several : K.lookup f__law_several = some ⟨oc__law_several, od__law_several, .func (PySem.W.fnOf "_law_several" "_law_several" (defArgs s__law_several) (defBody s__law_several) (defScope s__law_several) .none kV__law_several dc__law_several pm__law_several an__law_several cd__law_several ct__law_several), sl__law_several⟩) (c__law_several : PySem.W.codeIn K cd__law_several "_law_several" = true) (k__law_several : PySem.W.keepIn K (.ref f__law_several) = true)
    (a__law_great : PySem.W.nsIn K mainGlobals "_law_great" = some (some (.ref f__law_great))) (l__law_great : K.lookup f__law_great = some ⟨oc__law_great, od__law_great, .func (PySem.W.fnOf "_law_great" "_law_great" (defArgs s__law_great) (defBody s__law_great) (defScope s__law_great) .none kV__law_great dc__law_great pm__law_great an__law_great cd__law_great ct__law_great), sl__law_great⟩) (c__law_great : PySem.W.codeIn K cd__law_great "_law_great" = true) (k__law_great : PySem.W.keepIn K (.ref f__law_great) = true)
    (a__law_spoilt : PySem.W.nsIn K mainGlobals "_law_spoilt" = some (some (.ref f__law_spoilt))) (l__law_spoilt : K.lookup f__law_spoilt = some ⟨oc__law_spoilt, od__law_spoilt, .func (PySem.W.fnOf "_law_spoilt" "_law_spoilt" (defArgs s__law_spoilt) (defBody s__law_spoilt) (defScope s__law_spoilt) .none kV__law_spoilt dc__law_spoilt pm__law_spoilt an__law_spoilt cd__law_spoilt ct__law_spoilt), sl__law_spoilt⟩) (c__law_spoilt : PySem.W.codeIn K cd__law_spoilt "_law_spoilt" = true) (k__law_spoilt : PySem.W.keepIn K (.ref f__law_spoilt) = true)
    (a__law_right : PySem.W.nsIn K mainGlobals "_law_right" = some (some (.ref f__law_right))) (l__law_right : K.lookup f__law_right = some ⟨oc__law_right, od__law_right, .func (PySem.W.fnOf "_law_right" "_law_right" (defArgs s__law_right) (defBody s__law_right) (defScope s__law_right) .none kV__law_right dc__law_right pm__law_right an__law_right cd__law_right ct__law_right), sl__law_right⟩) (c__law_right : PySem.W.codeIn K cd__law_right "_law_right" = true) (k__law_right : PySem.W.keepIn K (.ref f__law_right) = true)
    (a_law : PySem.W.nsIn K mainGlobals "law" = some (some (.ref f_law))) (l_law : K.lookup f_law = some ⟨oc_law, od_law, .func (PySem.W.fnOf "law" "law" (defArgs s_law) (defBody s_law) (defScope s_law) .none kV_law dc_law pm_law an_law cd_law ct_law), sl_law⟩) (c_law : PySem.W.codeIn K cd_law "law" = true) (k_law : PySem.W.keepIn K (.ref f_law) = true)
    (z_len : PySem.W.nsIn K mainGlobals "len" = some none)
    (z_list : PySem.W.nsIn K mainGlobals "list" = some none)
    (z_range : PySem.W.nsIn K mainGlobals "range" = some none)
    (z_tuple : PySem.W.nsIn K mainGlobals "tuple" = some none)
    (z_str : PySem.W.nsIn K mainGlobals "str" = some none)
    (z_int : PySem.W.nsIn K mainGlobals "int" = some none)
    (z_isinstance : PySem.W.nsIn K mainGlobals "isinstance" = some none)
    (z_bool : PySem.W.nsIn K mainGlobals "bool" = some none)
    (z_sum : PySem.W.nsIn K mainGlobals "sum" = some none)
    (z_dict : PySem.W.nsIn K mainGlobals "dict" = some none)
    (z_zip : PySem.W.nsIn K mainGlobals "zip" = some none)
    (z_enumerate : PySem.W.nsIn K mainGlobals "enumerate" = some none)
    (z_min : PySem.W.nsIn K mainGlobals "min" = some none)
    (z_max : PySem.W.nsIn K mainGlobals "max" = some none)
    (z_ValueError : PySem.W.nsIn K mainGlobals "ValueError" = some none)
    (z_abs : PySem.W.nsIn K mainGlobals "abs" = some none)
    {f_TWOS : Addr} {d_TWOS : Option Addr} {it_TWOS : Array Value} {n_TWOS : Nat} {sl_TWOS : Array (Option Value)} {tk1 tk2 tk3 tk4 tk5 : Tok}
    (r_LETTERS : PySem.W.nsIn K mainGlobals "LETTERS" = some (some (.str "abcdefghijklmnopqrstuvwxyz" tk1)))
    (r_LONGEST : PySem.W.nsIn K mainGlobals "LONGEST" = some (some (.int 8 tk2)))
    (r_DEEPEST : PySem.W.nsIn K mainGlobals "DEEPEST" = some (some (.int 8 tk3)))
    (r_MOST_recipes : PySem.W.nsIn K mainGlobals "MOST_recipes" = some (some (.int 100 tk4)))
    (r_MOST_NAMES : PySem.W.nsIn K mainGlobals "MOST_NAMES" = some (some (.int 9 tk5)))
    (r_TWOS : PySem.W.nsIn K mainGlobals "TWOS" = some (some (.ref f_TWOS)))
    (l_TWOS : K.lookup f_TWOS = some ⟨.type "tuple", d_TWOS, .seq it_TWOS n_TWOS, sl_TWOS⟩)
    (v_TWOS : ∃ t1 t2 t3 t4 : Tok, it_TWOS = #[.str "plus" t1, .str "minus" t2, .str "times" t3, .str "most" t4])
    {f_WORDS : Addr} {es_WORDS : Array DictEntry} {n_WORDS : Nat} {tk6 tk7 t1 t2 t3 t4 : Tok} {C_NoText : Addr}
    (r_FIGURES : PySem.W.nsIn K mainGlobals "FIGURES" = some (some (.str "0123456789" tk6)))
    (r_MOST_FIGURES : PySem.W.nsIn K mainGlobals "MOST_FIGURES" = some (some (.int 40 tk7)))
    (a_WORDS : PySem.W.nsIn K mainGlobals "WORDS" = some (some (.ref f_WORDS)))
    (l_WORDS : K.lookup f_WORDS = some ⟨.type "dict", none, .dict es_WORDS n_WORDS, #[]⟩)
    (y_WORDS : PySem.W.KeysLit w.params es_WORDS.toList)
    (b_WORDS : (f_WORDS == sysModules) = false)
    (v_WORDS : ∃ (h1 h2 h3 h4 : Int) (t1 t2 t3 t4 : Tok) (v1 v2 v3 v4 : Value), es_WORDS = #[⟨h1, .str " + " t1, v1⟩, ⟨h2, .str " - " t2, v2⟩, ⟨h3, .str " * " t3, v3⟩, ⟨h4, .str " ^ " t4, v4⟩])
    (e1 : PySem.W.nsIn K f_WORDS " + " = some (some (.str "plus" t1)))
    (e2 : PySem.W.nsIn K f_WORDS " - " = some (some (.str "minus" t2)))
    (e3 : PySem.W.nsIn K f_WORDS " * " = some (some (.str "times" t3)))
    (e4 : PySem.W.nsIn K f_WORDS " ^ " = some (some (.str "most" t4)))
    (a_NoText : PySem.W.nsIn K mainGlobals "NoText" = some (some (.ref C_NoText)))
    (x_NoText : PySem.W.excIn K C_NoText [.type "ValueError", .type "Exception", .type "BaseException", .type "object"] "ValueError.__new__" = true)
    (k_NoText : PySem.W.keepIn K (.ref C_NoText) = true)
    (b_NoText : PySem.W.subIn K (.ref C_NoText) (.type "BaseException") = some true)
    (t_NoText : PySem.W.typeIn K (.ref C_NoText) = some (.type "type"))
    {f_SIGNS : Addr} {es_SIGNS : Array DictEntry} {n_SIGNS : Nat} {ts1 ts2 ts3 ts4 : Tok}
    (a_SIGNS : PySem.W.nsIn K mainGlobals "SIGNS" = some (some (.ref f_SIGNS)))
    (l_SIGNS : K.lookup f_SIGNS = some ⟨.type "dict", none, .dict es_SIGNS n_SIGNS, #[]⟩)
    (y_SIGNS : PySem.W.KeysLit w.params es_SIGNS.toList)
    (s1 : PySem.W.nsIn K f_SIGNS "plus" = some (some (.str " + " ts1)))
    (s2 : PySem.W.nsIn K f_SIGNS "minus" = some (some (.str " - " ts2)))
    (s3 : PySem.W.nsIn K f_SIGNS "times" = some (some (.str " * " ts3)))
    (s4 : PySem.W.nsIn K f_SIGNS "most" = some (some (.str " ^ " ts4)))
    {C_MadeError C_NoRead C_NoRecord C_NoName C_Ring C_NoDeed C_NoRow : Addr}
    (a_MadeError : PySem.W.nsIn K mainGlobals "MadeError" = some (some (.ref C_MadeError)))
    (a_NoRead : PySem.W.nsIn K mainGlobals "NoRead" = some (some (.ref C_NoRead)))
    (a_NoRecord : PySem.W.nsIn K mainGlobals "NoRecord" = some (some (.ref C_NoRecord)))
    (a_NoName : PySem.W.nsIn K mainGlobals "NoName" = some (some (.ref C_NoName)))
    (a_Ring : PySem.W.nsIn K mainGlobals "Ring" = some (some (.ref C_Ring)))
    (a_NoDeed : PySem.W.nsIn K mainGlobals "NoDeed" = some (some (.ref C_NoDeed)))
    (a_NoRow : PySem.W.nsIn K mainGlobals "NoRow" = some (some (.ref C_NoRow)))
    (d_MadeError : PySem.W.hasDictIn K C_MadeError = true)
    (d_NoRead : PySem.W.hasDictIn K C_NoRead = true)
    (d_NoRecord : PySem.W.hasDictIn K C_NoRecord = true)
    (d_NoName : PySem.W.hasDictIn K C_NoName = true)
    (d_Ring : PySem.W.hasDictIn K C_Ring = true)
    (d_NoDeed : PySem.W.hasDictIn K C_NoDeed = true)
    (d_NoRow : PySem.W.hasDictIn K C_NoRow = true)
    (y_MadeError : PySem.W.typeIn K (.ref C_MadeError) = some (.type "type"))
    (y_NoRead : PySem.W.typeIn K (.ref C_NoRead) = some (.type "type"))
    (y_NoRecord : PySem.W.typeIn K (.ref C_NoRecord) = some (.type "type"))
    (y_NoName : PySem.W.typeIn K (.ref C_NoName) = some (.type "type"))
    (y_Ring : PySem.W.typeIn K (.ref C_Ring) = some (.type "type"))
    (y_NoDeed : PySem.W.typeIn K (.ref C_NoDeed) = some (.type "type"))
    (y_NoRow : PySem.W.typeIn K (.ref C_NoRow) = some (.type "type"))
    (u_MadeError : PySem.W.subIn K (.ref C_NoText) (.ref C_MadeError) = some true)
    (u_NoRead : PySem.W.subIn K (.ref C_NoText) (.ref C_NoRead) = some false)
    (u_NoRecord : PySem.W.subIn K (.ref C_NoText) (.ref C_NoRecord) = some false)
    (u_NoName : PySem.W.subIn K (.ref C_NoText) (.ref C_NoName) = some false)
    (u_Ring : PySem.W.subIn K (.ref C_NoText) (.ref C_Ring) = some false)
    (u_NoDeed : PySem.W.subIn K (.ref C_NoText) (.ref C_NoDeed) = some false)
    (u_NoRow : PySem.W.subIn K (.ref C_NoText) (.ref C_NoRow) = some false)
    (w_NoRead : (C_NoText == C_NoRead) = false)
    (w_NoRecord : (C_NoText == C_NoRecord) = false)
    (w_NoName : (C_NoText == C_NoName) = false)
    (w_Ring : (C_NoText == C_Ring) = false)
    (w_NoDeed : (C_NoText == C_NoDeed) = false)
    (w_NoRow : (C_NoText == C_NoRow) = false)
    (b_MadeError : PySem.W.subIn K (.ref C_MadeError) (.type "BaseException") = some true)
    (u_ValueError : PySem.W.subIn K (.ref C_NoText) (.type "ValueError") = some true)
    (q_hg : PySem.W.findIn K (.ref C_NoText) "__getattribute__" = some (some (.builtin "BaseException.__getattribute__")))
    (q_hk : PySem.W.findIn K (.ref C_NoText) "__getattr__" = some none)
    (q_hd : PySem.W.hasDictIn K C_NoText = true)
    (q_ha : PySem.W.findIn K (.ref C_NoText) "__class__" = some (some (.builtin "object.__class__")))
    (q_hn : PySem.W.specialIn K (.builtin "object.__class__") "__get__" = some (some (.builtin "getset_descriptor.__get__")))
    (q_ht : PySem.W.takesIn K (.builtin "object.__class__") = some true)
    (q_hm : PySem.W.mroIn K C_NoText (.type "object") = some true)
    (x_NoRead : PySem.W.excIn K C_NoRead [.type "ValueError", .type "Exception", .type "BaseException", .type "object"] "ValueError.__new__" = true)
    (k_NoRead : PySem.W.keepIn K (.ref C_NoRead) = true)
    (b_NoRead : PySem.W.subIn K (.ref C_NoRead) (.type "BaseException") = some true)
    (t_NoRead : PySem.W.typeIn K (.ref C_NoRead) = some (.type "type"))
    (x_NoRecord : PySem.W.excIn K C_NoRecord [.type "ValueError", .type "Exception", .type "BaseException", .type "object"] "ValueError.__new__" = true)
    (k_NoRecord : PySem.W.keepIn K (.ref C_NoRecord) = true)
    (b_NoRecord : PySem.W.subIn K (.ref C_NoRecord) (.type "BaseException") = some true)
    (t_NoRecord : PySem.W.typeIn K (.ref C_NoRecord) = some (.type "type"))
    {tkM : Tok}
    (r_MOST_recordtexts : PySem.W.nsIn K mainGlobals "MOST_recordtexts" = some (some (.int 10000000000000000000000000000000000000000 tkM)))
    (s_NoRead : PySem.W.subIn K (.ref C_NoRead) (.ref C_NoRead) = some true)
    (s_NoText : PySem.W.subIn K (.ref C_NoText) (.ref C_NoText) = some true)
    {C_Going : Addr}
    {f_Going___init__ f_Going_look f_Going_two f_Going_worth : Addr}
    {od_Going___init__ an_Going___init__ od_Going_look an_Going_look od_Going_two an_Going_two od_Going_worth an_Going_worth : Option Addr}
    {sl_Going___init__ sl_Going_look sl_Going_two sl_Going_worth : Array (Option Value)}
    {oc_Going___init__ kV_Going___init__ dc_Going___init__ pm_Going___init__ cd_Going___init__ ct_Going___init__ oc_Going_look kV_Going_look dc_Going_look pm_Going_look cd_Going_look ct_Going_look oc_Going_two kV_Going_two dc_Going_two pm_Going_two cd_Going_two ct_Going_two oc_Going_worth kV_Going_worth dc_Going_worth pm_Going_worth cd_Going_worth ct_Going_worth : Value}
    (a_Going : PySem.W.nsIn K mainGlobals "Going" = some (some (.ref C_Going)))
    (a_Going___init__ : PySem.W.findIn K (.ref C_Going) "__init__" = some (some (.ref f_Going___init__)))
    (i_Going___init__ : PySem.W.isFn K (.ref f_Going___init__) = true)
    (l_Going___init__ : K.lookup f_Going___init__ = some ⟨oc_Going___init__, od_Going___init__, .func (PySem.W.fnOf "__init__" "Going.__init__" (defArgs s_Going___init__) (defBody s_Going___init__) (defScope s_Going___init__) .none kV_Going___init__ dc_Going___init__ pm_Going___init__ an_Going___init__ cd_Going___init__ ct_Going___init__), sl_Going___init__⟩)
    (c_Going___init__ : PySem.W.codeIn K cd_Going___init__ "Going.__init__" = true)
    (k_Going___init__ : PySem.W.keepIn K (.ref f_Going___init__) = true)
    (a_Going_look : PySem.W.findIn K (.ref C_Going) "look" = some (some (.ref f_Going_look)))
    (i_Going_look : PySem.W.isFn K (.ref f_Going_look) = true)
    (l_Going_look : K.lookup f_Going_look = some ⟨oc_Going_look, od_Going_look, .func (PySem.W.fnOf "look" "Going.look" (defArgs s_Going_look) (defBody s_Going_look) (defScope s_Going_look) .none kV_Going_look dc_Going_look pm_Going_look an_Going_look cd_Going_look ct_Going_look), sl_Going_look⟩)
    (c_Going_look : PySem.W.codeIn K cd_Going_look "Going.look" = true)
    (k_Going_look : PySem.W.keepIn K (.ref f_Going_look) = true)
    (a_Going_two : PySem.W.findIn K (.ref C_Going) "two" = some (some (.ref f_Going_two)))
    (i_Going_two : PySem.W.isFn K (.ref f_Going_two) = true)
    (l_Going_two : K.lookup f_Going_two = some ⟨oc_Going_two, od_Going_two, .func (PySem.W.fnOf "two" "Going.two" (defArgs s_Going_two) (defBody s_Going_two) (defScope s_Going_two) .none kV_Going_two dc_Going_two pm_Going_two an_Going_two cd_Going_two ct_Going_two), sl_Going_two⟩)
    (c_Going_two : PySem.W.codeIn K cd_Going_two "Going.two" = true)
    (k_Going_two : PySem.W.keepIn K (.ref f_Going_two) = true)
    (a_Going_worth : PySem.W.findIn K (.ref C_Going) "worth" = some (some (.ref f_Going_worth)))
    (i_Going_worth : PySem.W.isFn K (.ref f_Going_worth) = true)
    (l_Going_worth : K.lookup f_Going_worth = some ⟨oc_Going_worth, od_Going_worth, .func (PySem.W.fnOf "worth" "Going.worth" (defArgs s_Going_worth) (defBody s_Going_worth) (defScope s_Going_worth) .none kV_Going_worth dc_Going_worth pm_Going_worth an_Going_worth cd_Going_worth ct_Going_worth), sl_Going_worth⟩)
    (c_Going_worth : PySem.W.codeIn K cd_Going_worth "Going.worth" = true)
    (k_Going_worth : PySem.W.keepIn K (.ref f_Going_worth) = true)
    (pg_Going : PySem.W.plainGet K C_Going Str.empty = true)
    (hd_Going : PySem.W.hasDictIn K C_Going = true)
    (po_Going : PySem.W.plainOver K C_Going = true)
    (sa_Going : PySem.W.findIn K (.ref C_Going) "__setattr__" = some (some (.builtin "object.__setattr__")))
    (mk_Going : PySem.W.makesIn K C_Going = true)
    (k_Going : PySem.W.keepIn K (.ref C_Going) = true)
    (n_Going_reads : PySem.W.findIn K (.ref C_Going) "reads" = some none)
    (n_Going_had : PySem.W.findIn K (.ref C_Going) "had" = some none)
    (n_Going_lacking : PySem.W.findIn K (.ref C_Going) "lacking" = some none)
    : ∃ fd : FuncData, (∀ (s : Shared) (v : Value), BindsTo s fd ⟨[v], []⟩ [("script", v)]) ∧ ∀ base : Heap, K.In base → base.Ns mainGlobals mg → FnOk l.prog w K mg base CX0 25 fa fd ["script"] (spLaw K) := by
  have e := hfa.symm.trans (PySem.W.mg_of X G a_law)
  cases e
  have F_is_whole_recipes := fun_mk (st := s_is_whole_recipes) l_is_whole_recipes c_is_whole_recipes k_is_whole_recipes
  have D_is_whole_recipes : IsDefA K mg "is_whole_recipes" "is_whole" s_is_whole_recipes ["thing"] := ⟨f_is_whole_recipes, _, F_is_whole_recipes, PySem.W.mg_of X G a_is_whole_recipes, F_is_whole_recipes.binds (ps := ["thing"]) fun _ _ _ _ _ _ us hl => match us, hl with | [_], _ => rfl⟩
  have F_is_name := fun_mk (st := s_is_name) l_is_name c_is_name k_is_name
  have D_is_name : IsDef K mg "is_name" s_is_name ["thing"] := ⟨f_is_name, _, F_is_name, PySem.W.mg_of X G a_is_name, F_is_name.binds (ps := ["thing"]) fun _ _ _ _ _ _ us hl => match us, hl with | [_], _ => rfl⟩
  have F_are_names := fun_mk (st := s_are_names) l_are_names c_are_names k_are_names
  have D_are_names : IsDef K mg "are_names" s_are_names ["thing"] := ⟨f_are_names, _, F_are_names, PySem.W.mg_of X G a_are_names, F_are_names.binds (ps := ["thing"]) fun _ _ _ _ _ _ us hl => match us, hl with | [_], _ => rfl⟩
  have F_within := fun_mk (st := s_within) l_within c_within k_within
  have D_within : IsDef K mg "within" s_within ["thing"] := ⟨f_within, _, F_within, PySem.W.mg_of X G a_within, F_within.binds (ps := ["thing"]) fun _ _ _ _ _ _ us hl => match us, hl with | [_], _ => rfl⟩
  have F_is_recipe := fun_mk (st := s_is_recipe) l_is_recipe c_is_recipe k_is_recipe
  have D_is_recipe : IsDef K mg "is_recipe" s_is_recipe ["thing"] := ⟨f_is_recipe, _, F_is_recipe, PySem.W.mg_of X G a_is_recipe, F_is_recipe.binds (ps := ["thing"]) fun _ _ _ _ _ _ us hl => match us, hl with | [_], _ => rfl⟩
  have F_behind := fun_mk (st := s_behind) l_behind c_behind k_behind
  have D_behind : IsDef K mg "behind" s_behind ["r", "reads"] := ⟨f_behind, _, F_behind, PySem.W.mg_of X G a_behind, F_behind.binds (ps := ["r", "reads"]) fun _ _ _ _ _ _ us hl => match us, hl with | [_, _], _ => rfl⟩
  have F_is_whole_behind := fun_mk (st := s_is_whole_behind) l_is_whole_behind c_is_whole_behind k_is_whole_behind
  have D_is_whole_behind : IsDefA K mg "is_whole_behind" "is_whole" s_is_whole_behind ["thing"] := ⟨f_is_whole_behind, _, F_is_whole_behind, PySem.W.mg_of X G a_is_whole_behind, F_is_whole_behind.binds (ps := ["thing"]) fun _ _ _ _ _ _ us hl => match us, hl with | [_], _ => rfl⟩
  have F_is_read := fun_mk (st := s_is_read) l_is_read c_is_read k_is_read
  have D_is_read : IsDef K mg "is_read" s_is_read ["thing"] := ⟨f_is_read, _, F_is_read, PySem.W.mg_of X G a_is_read, F_is_read.binds (ps := ["thing"]) fun _ _ _ _ _ _ us hl => match us, hl with | [_], _ => rfl⟩
  have F_is_true_record := fun_mk (st := s_is_true_record) l_is_true_record c_is_true_record k_is_true_record
  have D_is_true_record : IsDef K mg "is_true_record" s_is_true_record ["thing"] := ⟨f_is_true_record, _, F_is_true_record, PySem.W.mg_of X G a_is_true_record, F_is_true_record.binds (ps := ["thing"]) fun _ _ _ _ _ _ us hl => match us, hl with | [_], _ => rfl⟩
  have F_show_recipe := fun_mk (st := s_show_recipe) l_show_recipe c_show_recipe k_show_recipe
  have D_show_recipe : IsDef K mg "show_recipe" s_show_recipe ["r"] := ⟨f_show_recipe, _, F_show_recipe, PySem.W.mg_of X G a_show_recipe, F_show_recipe.binds (ps := ["r"]) fun _ _ _ _ _ _ us hl => match us, hl with | [_], _ => rfl⟩
  have F_behind_signs := fun_mk (st := s_behind_signs) l_behind_signs c_behind_signs k_behind_signs
  have D_behind_signs : IsDef K mg "behind_signs" s_behind_signs ["text", "at", "signs"] := ⟨f_behind_signs, _, F_behind_signs, PySem.W.mg_of X G a_behind_signs, F_behind_signs.binds (ps := ["text", "at", "signs"]) fun _ _ _ _ _ _ us hl => match us, hl with | [_, _, _], _ => rfl⟩
  have F_expected := fun_mk (st := s_expected) l_expected c_expected k_expected
  have D_expected : IsDef K mg "expected" s_expected ["text", "at", "word"] := ⟨f_expected, _, F_expected, PySem.W.mg_of X G a_expected, F_expected.binds (ps := ["text", "at", "word"]) fun _ _ _ _ _ _ us hl => match us, hl with | [_, _, _], _ => rfl⟩
  have F_read_name := fun_mk (st := s_read_name) l_read_name c_read_name k_read_name
  have D_read_name : IsDef K mg "read_name" s_read_name ["text", "at"] := ⟨f_read_name, _, F_read_name, PySem.W.mg_of X G a_read_name, F_read_name.binds (ps := ["text", "at"]) fun _ _ _ _ _ _ us hl => match us, hl with | [_, _], _ => rfl⟩
  have F_read_number := fun_mk (st := s_read_number) l_read_number c_read_number k_read_number
  have D_read_number : IsDef K mg "read_number" s_read_number ["text", "at"] := ⟨f_read_number, _, F_read_number, PySem.W.mg_of X G a_read_number, F_read_number.binds (ps := ["text", "at"]) fun _ _ _ _ _ _ us hl => match us, hl with | [_, _], _ => rfl⟩
  have F_read_two := fun_mk (st := s_read_two) l_read_two c_read_two k_read_two
  have D_read_two : IsDef K mg "read_two" s_read_two ["text", "at", "depth"] := ⟨f_read_two, _, F_read_two, PySem.W.mg_of X G a_read_two, F_read_two.binds (ps := ["text", "at", "depth"]) fun _ _ _ _ _ _ us hl => match us, hl with | [_, _, _], _ => rfl⟩
  have F_read_pick := fun_mk (st := s_read_pick) l_read_pick c_read_pick k_read_pick
  have D_read_pick : IsDef K mg "read_pick" s_read_pick ["text", "at", "depth"] := ⟨f_read_pick, _, F_read_pick, PySem.W.mg_of X G a_read_pick, F_read_pick.binds (ps := ["text", "at", "depth"]) fun _ _ _ _ _ _ us hl => match us, hl with | [_, _, _], _ => rfl⟩
  have F_read_part := fun_mk (st := s_read_part) l_read_part c_read_part k_read_part
  have D_read_part : IsDef K mg "read_part" s_read_part ["text", "at", "depth"] := ⟨f_read_part, _, F_read_part, PySem.W.mg_of X G a_read_part, F_read_part.binds (ps := ["text", "at", "depth"]) fun _ _ _ _ _ _ us hl => match us, hl with | [_, _, _], _ => rfl⟩
  have F_read_recipe := fun_mk (st := s_read_recipe) l_read_recipe c_read_recipe k_read_recipe
  have D_read_recipe : IsDef K mg "read_recipe" s_read_recipe ["text"] := ⟨f_read_recipe, _, F_read_recipe, PySem.W.mg_of X G a_read_recipe, F_read_recipe.binds (ps := ["text"]) fun _ _ _ _ _ _ us hl => match us, hl with | [_], _ => rfl⟩
  have F_numbers_in := fun_mk (st := s_numbers_in) l_numbers_in c_numbers_in k_numbers_in
  have D_numbers_in : IsDef K mg "numbers_in" s_numbers_in ["r"] := ⟨f_numbers_in, _, F_numbers_in, PySem.W.mg_of X G a_numbers_in, F_numbers_in.binds (ps := ["r"]) fun _ _ _ _ _ _ us hl => match us, hl with | [_], _ => rfl⟩
  have F_is_short := fun_mk (st := s_is_short) l_is_short c_is_short k_is_short
  have D_is_short : IsDef K mg "is_short" s_is_short ["record"] := ⟨f_is_short, _, F_is_short, PySem.W.mg_of X G a_is_short, F_is_short.binds (ps := ["record"]) fun _ _ _ _ _ _ us hl => match us, hl with | [_], _ => rfl⟩
  have F_show_record := fun_mk (st := s_show_record) l_show_record c_show_record k_show_record
  have D_show_record : IsDef K mg "show_record" s_show_record ["record"] := ⟨f_show_record, _, F_show_record, PySem.W.mg_of X G a_show_record, F_show_record.binds (ps := ["record"]) fun _ _ _ _ _ _ us hl => match us, hl with | [_], _ => rfl⟩
  have F_read_one := fun_mk (st := s_read_one) l_read_one c_read_one k_read_one
  have D_read_one : IsDef K mg "read_one" s_read_one ["word", "kind"] := ⟨f_read_one, _, F_read_one, PySem.W.mg_of X G a_read_one, F_read_one.binds (ps := ["word", "kind"]) fun _ _ _ _ _ _ us hl => match us, hl with | [_, _], _ => rfl⟩
  have F_read_reads := fun_mk (st := s_read_reads) l_read_reads c_read_reads k_read_reads
  have D_read_reads : IsDef K mg "read_reads" s_read_reads ["text"] := ⟨f_read_reads, _, F_read_reads, PySem.W.mg_of X G a_read_reads, F_read_reads.binds (ps := ["text"]) fun _ _ _ _ _ _ us hl => match us, hl with | [_], _ => rfl⟩
  have F_read_record := fun_mk (st := s_read_record) l_read_record c_read_record k_read_record
  have D_read_record : IsDef K mg "read_record" s_read_record ["text"] := ⟨f_read_record, _, F_read_record, PySem.W.mg_of X G a_read_record, F_read_record.binds (ps := ["text"]) fun _ _ _ _ _ _ us hl => match us, hl with | [_], _ => rfl⟩
  have F__law_pool := fun_mk (st := s__law_pool) l__law_pool c__law_pool k__law_pool
  have D__law_pool : IsDef K mg "_law_pool" s__law_pool ["script", "k"] := ⟨f__law_pool, _, F__law_pool, PySem.W.mg_of X G a__law_pool, F__law_pool.binds (ps := ["script", "k"]) fun _ _ _ _ _ _ us hl => match us, hl with | [_, _], _ => rfl⟩
  have F__law_take := fun_mk (st := s__law_take) l__law_take c__law_take k__law_take
  have D__law_take : IsDef K mg "_law_take" s__law_take ["pool", "many"] := ⟨f__law_take, _, F__law_take, PySem.W.mg_of X G a__law_take, F__law_take.binds (ps := ["pool", "many"]) fun _ _ _ _ _ _ us hl => match us, hl with | [_, _], _ => rfl⟩
  have F__law_names := fun_mk (st := s__law_names) l__law_names c__law_names k__law_names
  have D__law_names : IsDef K mg "_law_names" s__law_names ["pool"] := ⟨f__law_names, _, F__law_names, PySem.W.mg_of X G a__law_names, F__law_names.binds (ps := ["pool"]) fun _ _ _ _ _ _ us hl => match us, hl with | [_], _ => rfl⟩
  have F__law_leaf := fun_mk (st := s__law_leaf) l__law_leaf c__law_leaf k__law_leaf
  have D__law_leaf : IsDef K mg "_law_leaf" s__law_leaf ["pool", "names", "most"] := ⟨f__law_leaf, _, F__law_leaf, PySem.W.mg_of X G a__law_leaf, F__law_leaf.binds (ps := ["pool", "names", "most"]) fun _ _ _ _ _ _ us hl => match us, hl with | [_, _, _], _ => rfl⟩
  have F__law_part := fun_mk (st := s__law_part) l__law_part c__law_part k__law_part
  have D__law_part : IsDef K mg "_law_part" s__law_part ["pool", "names", "deep", "most"] := ⟨f__law_part, _, F__law_part, PySem.W.mg_of X G a__law_part, F__law_part.binds (ps := ["pool", "names", "deep", "most"]) fun _ _ _ _ _ _ us hl => match us, hl with | [_, _, _, _], _ => rfl⟩
  have F__law_recipe := fun_mk (st := s__law_recipe) l__law_recipe c__law_recipe k__law_recipe
  have D__law_recipe : IsDef K mg "_law_recipe" s__law_recipe ["pool", "names", "most"] := ⟨f__law_recipe, _, F__law_recipe, PySem.W.mg_of X G a__law_recipe, F__law_recipe.binds (ps := ["pool", "names", "most"]) fun _ _ _ _ _ _ us hl => match us, hl with | [_, _, _], _ => rfl⟩
  have F__law_look := fun_mk (st := s__law_look) l__law_look c__law_look k__law_look
  have D__law_look : IsDef K mg "_law_look" s__law_look ["name", "state"] := ⟨f__law_look, _, F__law_look, PySem.W.mg_of X G a__law_look, F__law_look.binds (ps := ["name", "state"]) fun _ _ _ _ _ _ us hl => match us, hl with | [_, _], _ => rfl⟩
  have F__law_gone := fun_mk (st := s__law_gone) l__law_gone c__law_gone k__law_gone
  have D__law_gone : IsDef K mg "_law_gone" s__law_gone ["r", "state"] := ⟨f__law_gone, _, F__law_gone, PySem.W.mg_of X G a__law_gone, F__law_gone.binds (ps := ["r", "state"]) fun _ _ _ _ _ _ us hl => match us, hl with | [_, _], _ => rfl⟩
  have F__law_behind := fun_mk (st := s__law_behind) l__law_behind c__law_behind k__law_behind
  have D__law_behind : IsDef K mg "_law_behind" s__law_behind ["r", "reads"] := ⟨f__law_behind, _, F__law_behind, PySem.W.mg_of X G a__law_behind, F__law_behind.binds (ps := ["r", "reads"]) fun _ _ _ _ _ _ us hl => match us, hl with | [_, _], _ => rfl⟩
  have F__law_all_reads := fun_mk (st := s__law_all_reads) l__law_all_reads c__law_all_reads k__law_all_reads
  have D__law_all_reads : IsDef K mg "_law_all_reads" s__law_all_reads ["r", "numbers"] := ⟨f__law_all_reads, _, F__law_all_reads, PySem.W.mg_of X G a__law_all_reads, F__law_all_reads.binds (ps := ["r", "numbers"]) fun _ _ _ _ _ _ us hl => match us, hl with | [_, _], _ => rfl⟩
  have F__law_kinds := fun_mk (st := s__law_kinds) l__law_kinds c__law_kinds k__law_kinds
  have D__law_kinds : IsDef K mg "_law_kinds" s__law_kinds ["caught", "due"] := ⟨f__law_kinds, _, F__law_kinds, PySem.W.mg_of X G a__law_kinds, F__law_kinds.binds (ps := ["caught", "due"]) fun _ _ _ _ _ _ us hl => match us, hl with | [_, _], _ => rfl⟩
  have F__law_shown := fun_mk (st := s__law_shown) l__law_shown c__law_shown k__law_shown
  have D__law_shown : IsDef K mg "_law_shown" s__law_shown ["r"] := ⟨f__law_shown, _, F__law_shown, PySem.W.mg_of X G a__law_shown, F__law_shown.binds (ps := ["r"]) fun _ _ _ _ _ _ us hl => match us, hl with | [_], _ => rfl⟩
  have F__law_written := fun_mk (st := s__law_written) l__law_written c__law_written k__law_written
  have D__law_written : IsDef K mg "_law_written" s__law_written ["record"] := ⟨f__law_written, _, F__law_written, PySem.W.mg_of X G a__law_written, F__law_written.binds (ps := ["record"]) fun _ _ _ _ _ _ us hl => match us, hl with | [_], _ => rfl⟩
  have F__law_number := fun_mk (st := s__law_number) l__law_number c__law_number k__law_number
  have D__law_number : IsDef K mg "_law_number" s__law_number ["word"] := ⟨f__law_number, _, F__law_number, PySem.W.mg_of X G a__law_number, F__law_number.binds (ps := ["word"]) fun _ _ _ _ _ _ us hl => match us, hl with | [_], _ => rfl⟩
  have F__law_name := fun_mk (st := s__law_name) l__law_name c__law_name k__law_name
  have D__law_name : IsDef K mg "_law_name" s__law_name ["word"] := ⟨f__law_name, _, F__law_name, PySem.W.mg_of X G a__law_name, F__law_name.binds (ps := ["word"]) fun _ _ _ _ _ _ us hl => match us, hl with | [_], _ => rfl⟩
  have F__law_recipe_in := fun_mk (st := s__law_recipe_in) l__law_recipe_in c__law_recipe_in k__law_recipe_in
  have D__law_recipe_in : IsDef K mg "_law_recipe_in" s__law_recipe_in ["text"] := ⟨f__law_recipe_in, _, F__law_recipe_in, PySem.W.mg_of X G a__law_recipe_in, F__law_recipe_in.binds (ps := ["text"]) fun _ _ _ _ _ _ us hl => match us, hl with | [_], _ => rfl⟩
  have F__law_reads_in := fun_mk (st := s__law_reads_in) l__law_reads_in c__law_reads_in k__law_reads_in
  have D__law_reads_in : IsDef K mg "_law_reads_in" s__law_reads_in ["text"] := ⟨f__law_reads_in, _, F__law_reads_in, PySem.W.mg_of X G a__law_reads_in, F__law_reads_in.binds (ps := ["text"]) fun _ _ _ _ _ _ us hl => match us, hl with | [_], _ => rfl⟩
  have F__law_due := fun_mk (st := s__law_due) l__law_due c__law_due k__law_due
  have D__law_due : IsDef K mg "_law_due" s__law_due ["text"] := ⟨f__law_due, _, F__law_due, PySem.W.mg_of X G a__law_due, F__law_due.binds (ps := ["text"]) fun _ _ _ _ _ _ us hl => match us, hl with | [_], _ => rfl⟩
  have F__law_wrapped := fun_mk (st := s__law_wrapped) l__law_wrapped c__law_wrapped k__law_wrapped
  have D__law_wrapped : IsDef K mg "_law_wrapped" s__law_wrapped ["pool", "great", "own"] := ⟨f__law_wrapped, _, F__law_wrapped, PySem.W.mg_of X G a__law_wrapped, F__law_wrapped.binds (ps := ["pool", "great", "own"]) fun _ _ _ _ _ _ us hl => match us, hl with | [_, _, _], _ => rfl⟩
  have F__law_several := fun_mk (st := s__law_several) l__law_several c__law_several k__law_several
  have D__law_several : IsDef K mg "_law_several" s__law_several ["pool", "number"] := ⟨f__law_several, _, F__law_several, PySem.W.mg_of X G a__law_several, F__law_several.binds (ps := ["pool", "number"]) fun _ _ _ _ _ _ us hl => match us, hl with | [_, _], _ => rfl⟩
  have F__law_great := fun_mk (st := s__law_great) l__law_great c__law_great k__law_great
  have D__law_great : IsDef K mg "_law_great" s__law_great ["pool", "own"] := ⟨f__law_great, _, F__law_great, PySem.W.mg_of X G a__law_great, F__law_great.binds (ps := ["pool", "own"]) fun _ _ _ _ _ _ us hl => match us, hl with | [_, _], _ => rfl⟩
  have F__law_spoilt := fun_mk (st := s__law_spoilt) l__law_spoilt c__law_spoilt k__law_spoilt
  have D__law_spoilt : IsDef K mg "_law_spoilt" s__law_spoilt ["record", "pool"] := ⟨f__law_spoilt, _, F__law_spoilt, PySem.W.mg_of X G a__law_spoilt, F__law_spoilt.binds (ps := ["record", "pool"]) fun _ _ _ _ _ _ us hl => match us, hl with | [_, _], _ => rfl⟩
  have F__law_right := fun_mk (st := s__law_right) l__law_right c__law_right k__law_right
  have D__law_right : IsDef K mg "_law_right" s__law_right ["text"] := ⟨f__law_right, _, F__law_right, PySem.W.mg_of X G a__law_right, F__law_right.binds (ps := ["text"]) fun _ _ _ _ _ _ us hl => match us, hl with | [_], _ => rfl⟩
  have F_law := fun_mk (st := s_law) l_law c_law k_law
  have m_len := PySem.W.mg_none_of X G z_len
  have m_list := PySem.W.mg_none_of X G z_list
  have m_range := PySem.W.mg_none_of X G z_range
  have m_tuple := PySem.W.mg_none_of X G z_tuple
  have m_str := PySem.W.mg_none_of X G z_str
  have m_int := PySem.W.mg_none_of X G z_int
  have m_isinstance := PySem.W.mg_none_of X G z_isinstance
  have m_bool := PySem.W.mg_none_of X G z_bool
  have m_sum := PySem.W.mg_none_of X G z_sum
  have m_dict := PySem.W.mg_none_of X G z_dict
  have m_zip := PySem.W.mg_none_of X G z_zip
  have m_enumerate := PySem.W.mg_none_of X G z_enumerate
  have m_min := PySem.W.mg_none_of X G z_min
  have m_max := PySem.W.mg_none_of X G z_max
  have m_ValueError := PySem.W.mg_none_of X G z_ValueError
  have m_abs := PySem.W.mg_none_of X G z_abs
  have T : Txt K mg := ⟨m_len, m_list, m_range, m_tuple, m_str, m_int, m_isinstance, m_bool, m_sum, m_dict, m_zip, m_enumerate, m_min, m_max, m_ValueError⟩
  have R : RTxt K mg f_TWOS := ⟨⟨_, PySem.W.mg_of X G r_LETTERS⟩, ⟨_, PySem.W.mg_of X G r_LONGEST⟩, ⟨_, PySem.W.mg_of X G r_DEEPEST⟩, ⟨_, PySem.W.mg_of X G r_MOST_recipes⟩, ⟨_, PySem.W.mg_of X G r_MOST_NAMES⟩, PySem.W.mg_of X G r_TWOS, fun H => by
      obtain ⟨t1, t2, t3, t4, e⟩ := v_TWOS
      subst e
      exact .inr ⟨_, _, _, l_TWOS, rfl, rfl, le_line (Nat.le_of_ble_eq_true rfl), .cons ⟨_, rfl⟩ (.cons ⟨_, rfl⟩ (.cons ⟨_, rfl⟩ (.cons ⟨_, rfl⟩ .nil)))⟩⟩
  have F0 : FTxt K mg := ⟨⟨_, PySem.W.mg_of X G r_FIGURES⟩, ⟨_, PySem.W.mg_of X G r_MOST_FIGURES⟩⟩
  have XN : NoT K mg C_NoText := ⟨x_NoText, PySem.W.mg_of X G a_NoText, k_NoText, b_NoText, t_NoText⟩
  have XW : WordsT K w mg f_WORDS es_WORDS n_WORDS := ⟨PySem.W.mg_of X G a_WORDS, ⟨l_WORDS, y_WORDS, b_WORDS⟩, fun z hz => by
      obtain ⟨h1, h2, h3, h4, u1, u2, u3, u4, v1, v2, v3, v4, e⟩ := v_WORDS
      subst e
      exact words_no l_WORDS z hz, fun z k hz => by
      rw [two_yes hz]
      cases k
      · exact ⟨_, _, _, l_WORDS, y_WORDS, (show (" + " : Str) = SX.S [32, 43, 32] by decide +kernel) ▸ e1, ⟨_, rfl⟩⟩
      · exact ⟨_, _, _, l_WORDS, y_WORDS, (show (" - " : Str) = SX.S [32, 45, 32] by decide +kernel) ▸ e2, ⟨_, rfl⟩⟩
      · exact ⟨_, _, _, l_WORDS, y_WORDS, (show (" * " : Str) = SX.S [32, 42, 32] by decide +kernel) ▸ e3, ⟨_, rfl⟩⟩
      · exact ⟨_, _, _, l_WORDS, y_WORDS, (show (" ^ " : Str) = SX.S [32, 94, 32] by decide +kernel) ▸ e4, ⟨_, rfl⟩⟩⟩
  have hsg : ∀ k : Kd, KDct K w f_SIGNS k.name (.str k.signS) := fun k => by
    cases k
    · exact ⟨_, _, _, l_SIGNS, y_SIGNS, s1, ⟨_, rfl⟩⟩
    · exact ⟨_, _, _, l_SIGNS, y_SIGNS, s2, ⟨_, rfl⟩⟩
    · exact ⟨_, _, _, l_SIGNS, y_SIGNS, s3, ⟨_, rfl⟩⟩
    · exact ⟨_, _, _, l_SIGNS, y_SIGNS, s4, ⟨_, rfl⟩⟩
  have XR : NoX K mg "NoRead" C_NoRead := ⟨x_NoRead, PySem.W.mg_of X G a_NoRead, k_NoRead, b_NoRead, t_NoRead⟩
  have XC : NoX K mg "NoRecord" C_NoRecord := ⟨x_NoRecord, PySem.W.mg_of X G a_NoRecord, k_NoRecord, b_NoRecord, t_NoRecord⟩
  have F_Going___init__ := fun_mk (st := s_Going___init__) l_Going___init__ c_Going___init__ k_Going___init__
  have B_Going___init__ := F_Going___init__.binds (ps := ["self", "reads"]) fun _ _ _ _ _ _ us hl => match us, hl with | [_, _], _ => rfl
  have F_Going_look := fun_mk (st := s_Going_look) l_Going_look c_Going_look k_Going_look
  have B_Going_look := F_Going_look.binds (ps := ["self", "name"]) fun _ _ _ _ _ _ us hl => match us, hl with | [_, _], _ => rfl
  have M_Going_look : IsMet K C_Going "look" "Going.look" s_Going_look ["self", "name"] := ⟨f_Going_look, _, F_Going_look, ⟨a_Going_look, i_Going_look, k_Going_look⟩, B_Going_look⟩
  have F_Going_two := fun_mk (st := s_Going_two) l_Going_two c_Going_two k_Going_two
  have B_Going_two := F_Going_two.binds (ps := ["self", "kind", "one", "r"]) fun _ _ _ _ _ _ us hl => match us, hl with | [_, _, _, _], _ => rfl
  have M_Going_two : IsMet K C_Going "two" "Going.two" s_Going_two ["self", "kind", "one", "r"] := ⟨f_Going_two, _, F_Going_two, ⟨a_Going_two, i_Going_two, k_Going_two⟩, B_Going_two⟩
  have F_Going_worth := fun_mk (st := s_Going_worth) l_Going_worth c_Going_worth k_Going_worth
  have B_Going_worth := F_Going_worth.binds (ps := ["self", "r"]) fun _ _ _ _ _ _ us hl => match us, hl with | [_, _], _ => rfl
  have M_Going_worth : IsMet K C_Going "worth" "Going.worth" s_Going_worth ["self", "r"] := ⟨f_Going_worth, _, F_Going_worth, ⟨a_Going_worth, i_Going_worth, k_Going_worth⟩, B_Going_worth⟩
  have ZG : GoT K mg C_Going f_Going___init__ := ⟨⟨pg_Going, hd_Going, po_Going, sa_Going⟩, n_Going_reads, n_Going_had, n_Going_lacking, PySem.W.mg_of X G a_Going, ⟨mk_Going, a_Going___init__, i_Going___init__, k_Going⟩⟩
  have R7 : Kin7 K mg C_NoText C_MadeError C_NoRead C_NoRecord C_NoText C_NoName C_Ring C_NoDeed C_NoRow 2 := ⟨PySem.W.mg_of X G a_MadeError, PySem.W.mg_of X G a_NoRead, PySem.W.mg_of X G a_NoRecord, PySem.W.mg_of X G a_NoText, PySem.W.mg_of X G a_NoName, PySem.W.mg_of X G a_Ring, PySem.W.mg_of X G a_NoDeed, PySem.W.mg_of X G a_NoRow, PySem.W.exm_ref b_MadeError d_MadeError y_MadeError u_MadeError, ⟨q_hg, q_hk, b_NoText, q_hd, q_ha, q_hn, q_ht, q_hm⟩, kit_built (by decide +kernel) u_ValueError, kit_own w_NoRead d_NoRead y_NoRead u_NoRead, kit_own w_NoRecord d_NoRecord y_NoRecord u_NoRecord, kit_self, kit_own w_NoName d_NoName y_NoName u_NoName, kit_own w_Ring d_Ring y_Ring u_Ring, kit_own w_NoDeed d_NoDeed y_NoDeed u_NoDeed, kit_own w_NoRow d_NoRow y_NoRow u_NoRow, by decide⟩
  have hmR : PySem.W.exmOne K (.ref C_NoRead) (.ref C_NoRead) = some true := PySem.W.exm_ref b_NoRead d_NoRead y_NoRead s_NoRead
  have hmT : PySem.W.exmOne K (.ref C_NoText) (.ref C_NoText) = some true := PySem.W.exm_ref b_NoText q_hd t_NoText s_NoText
  refine ⟨PySem.W.fnOf "law" "law" (defArgs s_law) (defBody s_law) (defScope s_law) .none kV_law dc_law pm_law an_law cd_law ct_law, fun s v => .of_eq rfl, fun base _ _ => ?_⟩
  have W1 := ok_is_whole_recipes (P := l.prog) (w := w) (base := base) T D_is_whole_recipes
  have Wb := ok_is_whole_behind (P := l.prog) (w := w) (base := base) T D_is_whole_behind
  have W2 := ok_is_name (P := l.prog) (w := w) (base := base) T R D_is_name
  have W3 := ok_are_names T R D_are_names W2
  have W4 := ok_within T R D_within W1 W2 W3
  have W5 := ok_is_recipe T R D_is_recipe W4
  have Y1 := ok_behind_signs (P := l.prog) (w := w) (base := base) T D_behind_signs
  have Y2 := ok_expected (P := l.prog) (w := w) (base := base) T XN D_expected
  have Y3 := ok_read_name T R XN D_read_name Y1 W2
  have Y4 := ok_read_number T F0 XN D_read_number Y1
  have Y5 := all_read_part T R XW XN D_read_part D_read_two D_read_pick Y1 W3 Y2 Y3 Y4 8
  have Y6 := ok_read_recipe T XN D_read_recipe W5 Y5
  have A1 := ok__law_pool (P := l.prog) (w := w) (base := base) T D__law_pool
  have A2 := ok__law_take (P := l.prog) (w := w) (base := base) T D__law_take
  have A3 := ok__law_names T D__law_names A2
  have A4 := ok__law_leaf T D__law_leaf A2
  have A5 := ok__law_recipe T D__law_recipe A2 A4 (ok__law_part T D__law_part A2 A4 4)
  have A6 := ok__law_behind T D__law_behind (ok__law_gone T D__law_gone (ok__law_look (P := l.prog) (w := w) (base := base) T D__law_look) 9)
  have A7 := ok__law_all_reads T D__law_all_reads A6
  have A8 := ok__law_kinds (P := l.prog) (w := w) (base := base) T R7 D__law_kinds
  have G1 := ok_Going_init (P := l.prog) (w := w) (base := base) T ZG F_Going___init__
  have G2 := ok_Going_look (P := l.prog) (w := w) (base := base) T ZG XR M_Going_look
  have G3 := ok_Going_worth T ZG M_Going_worth M_Going_two G2 9
  have G4 := ok_behind T ZG XR D_behind G1 B_Going___init__ G3
  have I1 := ok_is_readR T D_is_read W5 Wb
  have I2 := ok_is_trueR T XR hmR D_is_true_record W5 Wb I1 G4
  have S1 := all_show_recipe (P := l.prog) (w := w) (base := base) T (PySem.W.mg_of X G a_SIGNS) hsg D_show_recipe 9
  have S2 := ok_show_record T XC D_show_record I2 (ok_is_short T m_abs ⟨_, PySem.W.mg_of X G r_MOST_recordtexts⟩ D_is_short (ok_numbers_in T D_numbers_in 9)) S1
  have Z1 := ok__law_written (P := l.prog) (w := w) (base := base) T D__law_written (ok__law_shown T D__law_shown 12)
  have V1 := ok_read_one T XN D_read_one Y6
  have V2 := ok_read_reads T XN D_read_reads V1
  have V3 := ok_read_record T XN D_read_record Y6 V2 V1 I2
  have B1 := ok__law_number5 (P := l.prog) (w := w) (base := base) T D__law_number
  have B2 := ok__law_name5 (P := l.prog) (w := w) (base := base) T D__law_name
  have B3 := ok__law_recipe_in T XN hmT D__law_recipe_in Y6
  have B4 := ok__law_reads_in T D__law_reads_in B2 B1
  have B5 := ok__law_due5 T D__law_due B3 B4 B1 A6
  have B6 := ok__law_right5 T R7 D__law_right V3 (S2.mono (show 22 ≤ 23 by decide)) B5 A8
  have L1 := ok__law_wrapped T D__law_wrapped A2
  have L2 := ok__law_several T D__law_several A2 A7
  have L3 := ok__law_great T m_abs D__law_great A2 A7 L1 L2
  have L4 := ok__law_spoiltT T D__law_spoilt A2 Z1
  exact ok_law F_law T A1 A3 A5 A2 A7 B6 L4 L3 Z1
theorem walk {l : PySem.W.OpenLaw} {q : Program} {loose : List Str} {XP : (Str → Option Value) → Heap → Prop} {YP : World → Heap → Prop} {d : DefRec} {K : Params → PySem.W.Frag} (hn : l.most = some 63) (hdf : d.params.defaults = [])
    (hY : ∀ (w : World) (h : Heap), YP w h → (K w.params).In h)
    (F : ∀ (w : World) (mg : Str → Option Value) (fa : Addr) (h : Heap), (K w.params).In h → h.Ns mainGlobals mg → mg d.name = some (.ref fa) →
      ∃ fd : FuncData, (∀ (s : Shared) (u : Value), BindsTo s fd ⟨[u], []⟩ [("script", u)]) ∧ ∀ base : Heap, (K w.params).In base → base.Ns mainGlobals mg → FnOk l.prog w (K w.params) mg base CX0 25 fa fd ["script"] (spLaw (K w.params))) :
    PySem.W.WalkO q loose XP YP l.row.toRowW d [] (fun f vs => PySem.call f vs) :=
  L2.walk_of (n := 63) (k := 25) (x := "script") (CX := fun _ => CX0) (sp := fun w => spLaw (K w.params)) hn (by decide) hdf ⟨rfl, by decide, by decide⟩ hY F (fun _ _ a ns hl _ hS => ⟨a, ns, rfl, hS, hl, fun _ => rfl⟩) fun _ _ _ _ _ z => z
end Mad
open PySem PySem.W PyProof.Rows
set_option maxRecDepth 100000 in
set_option maxHeartbeats 0 in
theorem PySem.Challenge.cw_madeagain_k54_texts_of_no_record_holds : PySem.Challenge.rw_madeagain_k54_texts_of_no_record.Holds := by
  w_on; o_law; k_head; (case hw => w_witness2)
  k_fill
  refine Mad.walk (l := PySem.Challenge.rw_madeagain_k54_texts_of_no_record) rfl rfl (fun w h Y => PySem.W.kIn_of Y) ?F
  case F =>
    intro w mg fa h KX G hmg
    refine' Mad.all_mk KX G hmg ?a_is_whole_recipes ?l_is_whole_recipes ?c_is_whole_recipes ?k_is_whole_recipes ?a_is_name ?l_is_name ?c_is_name ?k_is_name ?a_are_names ?l_are_names ?c_are_names ?k_are_names ?a_within ?l_within ?c_within ?k_within ?a_is_recipe ?l_is_recipe ?c_is_recipe ?k_is_recipe ?a_behind ?l_behind ?c_behind ?k_behind ?a_is_whole_behind ?l_is_whole_behind ?c_is_whole_behind ?k_is_whole_behind ?a_is_read ?l_is_read ?c_is_read ?k_is_read ?a_is_true_record ?l_is_true_record ?c_is_true_record ?k_is_true_record ?a_show_recipe ?l_show_recipe ?c_show_recipe ?k_show_recipe ?a_behind_signs ?l_behind_signs ?c_behind_signs ?k_behind_signs ?a_expected ?l_expected ?c_expected ?k_expected ?a_read_name ?l_read_name ?c_read_name ?k_read_name ?a_read_number ?l_read_number ?c_read_number ?k_read_number ?a_read_two ?l_read_two ?c_read_two ?k_read_two ?a_read_pick ?l_read_pick ?c_read_pick ?k_read_pick ?a_read_part ?l_read_part ?c_read_part ?k_read_part ?a_read_recipe ?l_read_recipe ?c_read_recipe ?k_read_recipe ?a_numbers_in ?l_numbers_in ?c_numbers_in ?k_numbers_in ?a_is_short ?l_is_short ?c_is_short ?k_is_short ?a_show_record ?l_show_record ?c_show_record ?k_show_record ?a_read_one ?l_read_one ?c_read_one ?k_read_one ?a_read_reads ?l_read_reads ?c_read_reads ?k_read_reads ?a_read_record ?l_read_record ?c_read_record ?k_read_record ?a__law_pool ?l__law_pool ?c__law_pool ?k__law_pool ?a__law_take ?l__law_take ?c__law_take ?k__law_take ?a__law_names ?l__law_names ?c__law_names ?k__law_names ?a__law_leaf ?l__law_leaf ?c__law_leaf ?k__law_leaf ?a__law_part ?l__law_part ?c__law_part ?k__law_part ?a__law_recipe ?l__law_recipe ?c__law_recipe ?k__law_recipe ?a__law_look ?l__law_look ?c__law_look ?k__law_look ?a__law_gone ?l__law_gone ?c__law_gone ?k__law_gone ?a__law_behind ?l__law_behind ?c__law_behind ?k__law_behind ?a__law_all_reads ?l__law_all_reads ?c__law_all_reads ?k__law_all_reads ?a__law_kinds ?l__law_kinds ?c__law_kinds ?k__law_kinds ?a__law_shown ?l__law_shown ?c__law_shown ?k__law_shown ?a__law_written ?l__law_written ?c__law_written ?k__law_written ?a__law_number ?l__law_number ?c__law_number ?k__law_number ?a__law_name ?l__law_name ?c__law_name ?k__law_name ?a__law_recipe_in ?l__law_recipe_in ?c__law_recipe_in ?k__law_recipe_in ?a__law_reads_in ?l__law_reads_in ?c__law_reads_in ?k__law_reads_in ?a__law_due ?l__law_due ?c__law_due ?k__law_due ?a__law_wrapped ?l__law_wrapped ?c__law_wrapped ?k__law_wrapped ?a__law_several ?l__law_several ?c__law_several ?k__law_several ?a__law_great ?l__law_great ?c__law_great ?k__law_great ?a__law_spoilt ?l__law_spoilt ?c__law_spoilt ?k__law_spoilt ?a__law_right ?l__law_right ?c__law_right ?k__law_right ?a_law ?l_law ?c_law ?k_law ?z_len ?z_list ?z_range ?z_tuple ?z_str ?z_int ?z_isinstance ?z_bool ?z_sum ?z_dict ?z_zip ?z_enumerate ?z_min ?z_max ?z_ValueError ?z_abs ?r_LETTERS ?r_LONGEST ?r_DEEPEST ?r_MOST_recipes ?r_MOST_NAMES ?r_TWOS ?l_TWOS ?v_TWOS ?r_FIGURES ?r_MOST_FIGURES ?a_WORDS ?l_WORDS ?y_WORDS ?b_WORDS ?v_WORDS ?e1 ?e2 ?e3 ?e4 ?a_NoText ?x_NoText ?k_NoText ?b_NoText ?t_NoText ?a_SIGNS ?l_SIGNS ?y_SIGNS ?s1 ?s2 ?s3 ?s4 ?a_MadeError ?a_NoRead ?a_NoRecord ?a_NoName ?a_Ring ?a_NoDeed ?a_NoRow ?d_MadeError ?d_NoRead ?d_NoRecord ?d_NoName ?d_Ring ?d_NoDeed ?d_NoRow ?y_MadeError ?y_NoRead ?y_NoRecord ?y_NoName ?y_Ring ?y_NoDeed ?y_NoRow ?u_MadeError ?u_NoRead ?u_NoRecord ?u_NoName ?u_Ring ?u_NoDeed ?u_NoRow ?w_NoRead ?w_NoRecord ?w_NoName ?w_Ring ?w_NoDeed ?w_NoRow ?b_MadeError ?u_ValueError ?q_hg ?q_hk ?q_hd ?q_ha ?q_hn ?q_ht ?q_hm ?x_NoRead ?k_NoRead ?b_NoRead ?t_NoRead ?x_NoRecord ?k_NoRecord ?b_NoRecord ?t_NoRecord ?r_MOST_recordtexts ?s_NoRead ?s_NoText ?a_Going ?a_Going___init__ ?i_Going___init__ ?l_Going___init__ ?c_Going___init__ ?k_Going___init__ ?a_Going_look ?i_Going_look ?l_Going_look ?c_Going_look ?k_Going_look ?a_Going_two ?i_Going_two ?l_Going_two ?c_Going_two ?k_Going_two ?a_Going_worth ?i_Going_worth ?l_Going_worth ?c_Going_worth ?k_Going_worth ?pg_Going ?hd_Going ?po_Going ?sa_Going ?mk_Going ?k_Going ?n_Going_reads ?n_Going_had ?n_Going_lacking
    (case a_is_whole_recipes => k_is)
    (case l_is_whole_recipes => k_is)
    (case c_is_whole_recipes => k_is)
    (case k_is_whole_recipes => k_is)
    (case a_is_name => k_is)
    (case l_is_name => k_is)
    (case c_is_name => k_is)
    (case k_is_name => k_is)
    (case a_are_names => k_is)
    (case l_are_names => k_is)
    (case c_are_names => k_is)
    (case k_are_names => k_is)
    (case a_within => k_is)
    (case l_within => k_is)
    (case c_within => k_is)
    (case k_within => k_is)
    (case a_is_recipe => k_is)
    (case l_is_recipe => k_is)
    (case c_is_recipe => k_is)
    (case k_is_recipe => k_is)
    (case a_behind => k_is)
    (case l_behind => k_is)
    (case c_behind => k_is)
    (case k_behind => k_is)
    (case a_is_whole_behind => k_is)
    (case l_is_whole_behind => k_is)
    (case c_is_whole_behind => k_is)
    (case k_is_whole_behind => k_is)
    (case a_is_read => k_is)
    (case l_is_read => k_is)
    (case c_is_read => k_is)
    (case k_is_read => k_is)
    (case a_is_true_record => k_is)
    (case l_is_true_record => k_is)
    (case c_is_true_record => k_is)
    (case k_is_true_record => k_is)
    (case a_show_recipe => k_is)
    (case l_show_recipe => k_is)
    (case c_show_recipe => k_is)
    (case k_show_recipe => k_is)
    (case a_behind_signs => k_is)
    (case l_behind_signs => k_is)
    (case c_behind_signs => k_is)
    (case k_behind_signs => k_is)
    (case a_expected => k_is)
    (case l_expected => k_is)
    (case c_expected => k_is)
    (case k_expected => k_is)
    (case a_read_name => k_is)
    (case l_read_name => k_is)
    (case c_read_name => k_is)
    (case k_read_name => k_is)
    (case a_read_number => k_is)
    (case l_read_number => k_is)
    (case c_read_number => k_is)
    (case k_read_number => k_is)
    (case a_read_two => k_is)
    (case l_read_two => k_is)
    (case c_read_two => k_is)
    (case k_read_two => k_is)
    (case a_read_pick => k_is)
    (case l_read_pick => k_is)
    (case c_read_pick => k_is)
    (case k_read_pick => k_is)
    (case a_read_part => k_is)
    (case l_read_part => k_is)
    (case c_read_part => k_is)
    (case k_read_part => k_is)
    (case a_read_recipe => k_is)
    (case l_read_recipe => k_is)
    (case c_read_recipe => k_is)
    (case k_read_recipe => k_is)
    (case a_numbers_in => k_is)
    (case l_numbers_in => k_is)
    (case c_numbers_in => k_is)
    (case k_numbers_in => k_is)
    (case a_is_short => k_is)
    (case l_is_short => k_is)
    (case c_is_short => k_is)
    (case k_is_short => k_is)
    (case a_show_record => k_is)
    (case l_show_record => k_is)
    (case c_show_record => k_is)
    (case k_show_record => k_is)
    (case a_read_one => k_is)
    (case l_read_one => k_is)
    (case c_read_one => k_is)
    (case k_read_one => k_is)
    (case a_read_reads => k_is)
    (case l_read_reads => k_is)
    (case c_read_reads => k_is)
    (case k_read_reads => k_is)
    (case a_read_record => k_is)
    (case l_read_record => k_is)
    (case c_read_record => k_is)
    (case k_read_record => k_is)
    (case a__law_pool => k_is)
    (case l__law_pool => k_is)
    (case c__law_pool => k_is)
    (case k__law_pool => k_is)
    (case a__law_take => k_is)
    (case l__law_take => k_is)
    (case c__law_take => k_is)
    (case k__law_take => k_is)
    (case a__law_names => k_is)
    (case l__law_names => k_is)
    (case c__law_names => k_is)
    (case k__law_names => k_is)
    (case a__law_leaf => k_is)
    (case l__law_leaf => k_is)
    (case c__law_leaf => k_is)
    (case k__law_leaf => k_is)
    (case a__law_part => k_is)
    (case l__law_part => k_is)
    (case c__law_part => k_is)
    (case k__law_part => k_is)
    (case a__law_recipe => k_is)
    (case l__law_recipe => k_is)
    (case c__law_recipe => k_is)
    (case k__law_recipe => k_is)
    (case a__law_look => k_is)
    (case l__law_look => k_is)
    (case c__law_look => k_is)
    (case k__law_look => k_is)
    (case a__law_gone => k_is)
    (case l__law_gone => k_is)
    (case c__law_gone => k_is)
    (case k__law_gone => k_is)
    (case a__law_behind => k_is)
    (case l__law_behind => k_is)
    (case c__law_behind => k_is)
    (case k__law_behind => k_is)
    (case a__law_all_reads => k_is)
    (case l__law_all_reads => k_is)
    (case c__law_all_reads => k_is)
    (case k__law_all_reads => k_is)
    (case a__law_kinds => k_is)
    (case l__law_kinds => k_is)
    (case c__law_kinds => k_is)
    (case k__law_kinds => k_is)
    (case a__law_shown => k_is)
    (case l__law_shown => k_is)
    (case c__law_shown => k_is)
    (case k__law_shown => k_is)
    (case a__law_written => k_is)
    (case l__law_written => k_is)
    (case c__law_written => k_is)
    (case k__law_written => k_is)
    (case a__law_number => k_is)
    (case l__law_number => k_is)
    (case c__law_number => k_is)
    (case k__law_number => k_is)
    (case a__law_name => k_is)
    (case l__law_name => k_is)
    (case c__law_name => k_is)
    (case k__law_name => k_is)
    (case a__law_recipe_in => k_is)
    (case l__law_recipe_in => k_is)
    (case c__law_recipe_in => k_is)
    (case k__law_recipe_in => k_is)
    (case a__law_reads_in => k_is)
    (case l__law_reads_in => k_is)
    (case c__law_reads_in => k_is)
    (case k__law_reads_in => k_is)
    (case a__law_due => k_is)
    (case l__law_due => k_is)
    (case c__law_due => k_is)
    (case k__law_due => k_is)
    (case a__law_wrapped => k_is)
    (case l__law_wrapped => k_is)
    (case c__law_wrapped => k_is)
    (case k__law_wrapped => k_is)
    (case a__law_several => k_is)
    (case l__law_several => k_is)
    (case c__law_several => k_is)
    (case k__law_several => k_is)
    (case a__law_great => k_is)
    (case l__law_great => k_is)
    (case c__law_great => k_is)
    (case k__law_great => k_is)
    (case a__law_spoilt => k_is)
    (case l__law_spoilt => k_is)
    (case c__law_spoilt => k_is)
    (case k__law_spoilt => k_is)
    (case a__law_right => k_is)
    (case l__law_right => k_is)
    (case c__law_right => k_is)
    (case k__law_right => k_is)
    (case a_law => k_is)
    (case l_law => k_is)
    (case c_law => k_is)
    (case k_law => k_is)
    (case z_len => k_is)
    (case z_list => k_is)
    (case z_range => k_is)
    (case z_tuple => k_is)
    (case z_str => k_is)
    (case z_int => k_is)
    (case z_isinstance => k_is)
    (case z_bool => k_is)
    (case z_sum => k_is)
    (case z_dict => k_is)
    (case z_zip => k_is)
    (case z_enumerate => k_is)
    (case z_min => k_is)
    (case z_max => k_is)
    (case z_ValueError => k_is)
    (case z_abs => k_is)
    (case r_LETTERS => k_is)
    (case r_LONGEST => k_is)
    (case r_DEEPEST => k_is)
    (case r_MOST_recipes => k_is)
    (case r_MOST_NAMES => k_is)
    (case r_TWOS => k_is)
    (case l_TWOS => k_is)
    (case v_TWOS => exact ⟨_, _, _, _, rfl⟩)
    (case r_FIGURES => k_is)
    (case r_MOST_FIGURES => k_is)
    (case a_WORDS => k_is)
    (case l_WORDS => k_is)
    (case y_WORDS => k_keys)
    (case b_WORDS => first | rfl | decide)
    (case v_WORDS => exact ⟨_, _, _, _, _, _, _, _, _, _, _, _, rfl⟩)
    (case e1 => k_is)
    (case e2 => k_is)
    (case e3 => k_is)
    (case e4 => k_is)
    (case a_NoText => k_is)
    (case x_NoText => k_exc)
    (case k_NoText => k_is)
    (case b_NoText => k_is)
    (case t_NoText => k_is)
    (case a_SIGNS => k_is)
    (case l_SIGNS => k_is)
    (case y_SIGNS => k_keys)
    (case s1 => k_is)
    (case s2 => k_is)
    (case s3 => k_is)
    (case s4 => k_is)
    (case a_MadeError => k_is)
    (case a_NoRead => k_is)
    (case a_NoRecord => k_is)
    (case a_NoName => k_is)
    (case a_Ring => k_is)
    (case a_NoDeed => k_is)
    (case a_NoRow => k_is)
    (case d_MadeError => k_is)
    (case d_NoRead => k_is)
    (case d_NoRecord => k_is)
    (case d_NoName => k_is)
    (case d_Ring => k_is)
    (case d_NoDeed => k_is)
    (case d_NoRow => k_is)
    (case y_MadeError => k_is)
    (case y_NoRead => k_is)
    (case y_NoRecord => k_is)
    (case y_NoName => k_is)
    (case y_Ring => k_is)
    (case y_NoDeed => k_is)
    (case y_NoRow => k_is)
    (case u_MadeError => k_is)
    (case u_NoRead => k_is)
    (case u_NoRecord => k_is)
    (case u_NoName => k_is)
    (case u_Ring => k_is)
    (case u_NoDeed => k_is)
    (case u_NoRow => k_is)
    (case w_NoRead => first | rfl | decide)
    (case w_NoRecord => first | rfl | decide)
    (case w_NoName => first | rfl | decide)
    (case w_Ring => first | rfl | decide)
    (case w_NoDeed => first | rfl | decide)
    (case w_NoRow => first | rfl | decide)
    (case b_MadeError => k_is)
    (case u_ValueError => k_is)
    (case q_hg => k_is)
    (case q_hk => k_is)
    (case q_hd => k_is)
    (case q_ha => k_is)
    (case q_hn => k_is)
    (case q_ht => k_is)
    (case q_hm => k_is)
    (case x_NoRead => k_exc)
    (case k_NoRead => k_is)
    (case b_NoRead => k_is)
    (case t_NoRead => k_is)
    (case x_NoRecord => k_exc)
    (case k_NoRecord => k_is)
    (case b_NoRecord => k_is)
    (case t_NoRecord => k_is)
    (case r_MOST_recordtexts => k_is)
    (case s_NoRead => k_is)
    (case s_NoText => k_is)
    (case a_Going => k_is)
    (case a_Going___init__ => k_is)
    (case i_Going___init__ => k_is)
    (case l_Going___init__ => k_is)
    (case c_Going___init__ => k_is)
    (case k_Going___init__ => k_is)
    (case a_Going_look => k_is)
    (case i_Going_look => k_is)
    (case l_Going_look => k_is)
    (case c_Going_look => k_is)
    (case k_Going_look => k_is)
    (case a_Going_two => k_is)
    (case i_Going_two => k_is)
    (case l_Going_two => k_is)
    (case c_Going_two => k_is)
    (case k_Going_two => k_is)
    (case a_Going_worth => k_is)
    (case i_Going_worth => k_is)
    (case l_Going_worth => k_is)
    (case c_Going_worth => k_is)
    (case k_Going_worth => k_is)
    (case pg_Going => k_is)
    (case hd_Going => k_is)
    (case po_Going => k_is)
    (case sa_Going => k_is)
    (case mk_Going => k_is)
    (case k_Going => k_is)
    (case n_Going_reads => k_is)
    (case n_Going_had => k_is)
    (case n_Going_lacking => k_is)
#print axioms PySem.Challenge.cw_madeagain_k54_texts_of_no_record_holds
