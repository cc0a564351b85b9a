import PyProof.Rows.All
import Wide.All
import OpenK.AllK
import Wide.FinOn
import HandS.ForMost
import HandS.Wide
import HandS.IsInst
import HandS.Codes
import HandS.More
import HandS.Style
import HandS.TupMul
import HandS.TupAny
import HandS.Dict
import HandS.Iter
import HandS.SortInts
import HandS.SortOrd
import KE.KEqSeq
import HandS.Exc
import HandS.ExcOwn
import HandS.WordsExc
import KE.IntTextLaws
import KE.IntTextText
import HandS.ExcValue
import HandS.TryOnly
import HandS.ExcIs
import PyProof.StrOps2
import HandS.Strs
import HandS.NoneIn
import HandS.ReplaceLit
import HandS.ReplaceList
import HandS.Zip
import HandS.Deep
import HandS.StrMore
import HandS.Walk
import HandS.RaiseMore
import HandS.Lambda
import HandS.Nested
import HandS.EndTab
import HandS.ExcInit
import HandS.ExcField
import HandS.SetKeys
import KE.KExcIs
import KE.KEqNest
import HandS.Sort
import PySem.Challenge.RW_madeagain_k13_whole_only_what_is_read_ma
set_option Elab.async false
set_option linter.all false
set_option maxRecDepth 100000
set_option maxHeartbeats 4000000
set_option pp.maxSteps 300
namespace Mad
open PySem PySem.Spec PyProof.Rows L2
def topS (i : Nat) : Stmt := PySem.Challenge.pw_madeagain_k13_whole_only_what_is_read_ma.main.body.getD i (.Pass ⟨0, 0, 0, 0⟩)
/-! ### short words over the layer -/
/-- the def x of the text stands in the module as st says -/
def IsDef (K : PySem.W.Frag) (mg : Str → Option Value) (x : Str) (st : Stmt) (ps : List Str) : Prop := ∃ (f : Addr) (fd : FuncData), Fun K x x st f fd ∧ mg x = some (.ref f) ∧ Binds K fd ps []
/-- the def x keeps the promise sp by at most k calls in one another -/
def Cal (P : Program) (w : World) (K : PySem.W.Frag) (mg : Str → Option Value) (base : Heap) (CX : CXT) (k : Nat) (x : Str) (ps : List Str) (sp : Sp) : Prop :=
  ∃ (f : Addr) (fd : FuncData), FnOk P w K mg base CX k f fd ps sp ∧ mg x = some (.ref f) ∧ PySem.W.keepIn K (.ref f) = true ∧ Binds K fd ps []
section
variable {P : Program} {w : World} {K : PySem.W.Frag} {mg : Str → Option Value} {base : Heap}
theorem Cal.mono {CX : CXT} {j k : Nat} {x : Str} {ps : List Str} {sp : Sp} (c : Cal P w K mg base CX j x ps sp) (h : j ≤ k) : Cal P w K mg base CX k x ps sp := by
  obtain ⟨f, fd, F, r⟩ := c
  exact ⟨f, fd, F.mono h, r⟩
theorem Cal.imp {CX : CXT} {k : Nat} {x : Str} {ps : List Str} {sp sp' : Sp} (c : Cal P w K mg base CX k x ps sp) (h : ∀ vs H Q E, sp' vs H Q E → sp vs H Q E) : Cal P w K mg base CX k x ps sp' := by
  obtain ⟨f, fd, F, r⟩ := c
  exact ⟨f, fd, F.imp h, r⟩
/-- of no depth none is asked -/
theorem cal_none {x : Str} {st : Stmt} {ps : List Str} {sp : Sp} {CX : CXT} {k : Nat} (D : IsDef K mg x st ps) (no : ∀ vs H Q E, ¬ sp vs H Q E) : Cal P w K mg base CX k x ps sp := by
  obtain ⟨f, fd, F, m, b⟩ := D
  exact ⟨f, fd, ⟨fun vs H Q E h => absurd h (no vs H Q E), fun A outer s H args us vs Q E _ _ _ _ h => absurd h (no vs H Q E)⟩, m, F.kp, b⟩
theorem IsDef.cal {x : Str} {st : Stmt} {N ps : List Str} {k : Nat} {sp : Sp} (D : IsDef K mg x st ps) (S : FnScope N ps (defScope st)) (len : ∀ vs H Q E, sp vs H Q E → vs.length = ps.length)
    (hbody : ∀ (f : Addr) (cdv : Value) (A : Around) (outer : List Env) (s : Shared) (H : Hp) (vs : List V) (Q : VK) (E : XK), Room k (A.deeper (envOfC x (defScope st) s.heap.objs.size f cdv)) → sp vs H Q E →
      ∃ t, PSs (cxOf CX0 P w K mg base N x (defScope st) f cdv A outer s H E).nox (defBody st) t ∧ t { nx := fun _ H' => Q .non H', rt := Q } (start N vs) H) : Cal P w K mg base CX0 (k + 1) x ps sp := by
  obtain ⟨f, fd, F, m, b⟩ := D
  exact ⟨f, fd, F.ok S len fun cdv A outer s H vs Q E => hbody f cdv A outer s H vs Q E, m, F.kp, b⟩
end
section
variable {X : Cx} {CX : CXT} {k : Nat} {ps : List Str} {sp : Sp} {E : XK} {x : Str} {p pos : Pos}
theorem pe_cal {e : Expr} {es : List Expr} {t : TA} (c : Cal X.prog X.w X.K X.mg X.base CX k x ps sp) (hr : Room k X.A) (hx : Passes CX X E) (ha : PA X (e :: es) t) (hg : Gl X x := by rfl)
    (hdb : (x == ("__debug__" : Str)) = false := by decide) (he : starEach (e :: es) X.env = (false, eval e X.env) :: starEach es X.env := by rfl) (hpl : (backTo pos (starEach es X.env)).any (·.1) = false := by rfl) :
    PE X (.Call (.Name x p) (e :: es) [] pos) (tCall sp [] E t) := by
  obtain ⟨f, fd, F, m, kp, b⟩ := c
  exact pe_call F hr hg m kp b .nil hx ha hdb he hpl
theorem pe_cal0 (c : Cal X.prog X.w X.K X.mg X.base CX k x ps sp) (hr : Room k X.A) (hx : Passes CX X E) (hg : Gl X x := by rfl) (hdb : (x == ("__debug__" : Str)) = false := by decide) :
    PE X (.Call (.Name x p) [] [] pos) (tCall sp [] E tNil) := by
  obtain ⟨f, fd, F, m, kp, b⟩ := c
  exact pe_call0 F hr hg m kp b .nil hx hdb
end
theorem le_line {n : Nat} (h : n ≤ 16777216) : n ≤ sizeLine := by rw [sizeLine_eq]; exact h
theorem lt_line {n : Nat} (h : n < 16777216) : n < sizeLine := by rw [sizeLine_eq]; exact h
theorem same_new {H : Hp} {p : Addr} (h : H p = none) (o : HO) : Same H (upd H p o) := fun b u q => by rw [upd_ne (ne_of_none q h)]; exact q
theorem same_upd {B H : Hp} {p : Addr} (s : Same B H) (h : B p = none) (o : HO) : Same B (upd H p o) := fun b u q => by
  have z : b ≠ p := fun e => by rw [e, h] at q; cases q
  rw [upd_ne z]; exact s _ _ q
theorem atI_at {α : Type} {xs : List α} {i : Int} {v : α} (h0 : 0 ≤ i) (h : xs[i.toNat]? = some v) : atI xs i = some v := by
  have e : i = ((i.toNat : Nat) : Int) := by omega
  rw [e]; exact atI_nat h
theorem ixN_at {n : Nat} {i : Int} (h0 : 0 ≤ i) (h : i < n) : ixN n i = some i.toNat := by
  unfold ixN
  rw [if_pos h0, if_pos h]
theorem int_at {ns : List Int} {i : Int} (h0 : 0 ≤ i) (h : i < ns.length) : ∃ v : Int, atI (ns.map V.int) i = some (.int v) := by
  have hk : i.toNat < ns.length := by omega
  exact ⟨ns[i.toNat], atI_at h0 (by rw [List.getElem?_map, List.getElem?_eq_getElem hk] <;> rfl)⟩
theorem if_true_eq {c : Bool} {A B : Prop} (h : c = true) (a : A) : if c = true then A else B := by rw [if_pos h]; exact a
theorem if_false_eq {c : Bool} {A B : Prop} (h : c = false) (b : B) : if c = true then A else B := by rw [h]; exact b
theorem not_true_eq {c : Bool} {A B : Prop} (h : c = true) (b : B) : if (!c) = true then A else B := by rw [h]; exact b
theorem not_false_eq {c : Bool} {A B : Prop} (h : c = false) (a : A) : if (!c) = true then A else B := by rw [h]; exact a
structure Txt (K : PySem.W.Frag) (mg : Str → Option Value) : Prop where
  b_len : mg "len" = none
  b_list : mg "list" = none
  b_range : mg "range" = none
  b_tuple : mg "tuple" = none
  b_str : mg "str" = none
  b_int : mg "int" = none
  b_isinstance : mg "isinstance" = none
  b_bool : mg "bool" = none
  b_sum : mg "sum" = none
  b_dict : mg "dict" = none
  b_sorted : mg "sorted" = none
  b_zip : mg "zip" = none
  b_enumerate : mg "enumerate" = none
  b_min : mg "min" = none
  b_max : mg "max" = none
  b_set : mg "set" = none
  b_ValueError : mg "ValueError" = none
/-! ### recipes as data -/
inductive Kd where
  | plus | minus | times | most
  deriving DecidableEq
def Kd.name : Kd → Str
  | .plus => "plus" | .minus => "minus" | .times => "times" | .most => "most"
inductive Rcp where
  | num (n : Int)
  | read (s : List Nat)
  | two (k : Kd) (a b : Rcp)
  | pick (a b c : Rcp)
  | choose (a : Rcp) (ns : List (List Nat))
def Rcp.dep : Rcp → Nat
  | .num _ => 1
  | .read _ => 1
  | .two _ a b => max a.dep b.dep + 1
  | .pick a b c => max a.dep (max b.dep c.dep) + 1
  | .choose a _ => a.dep + 1
def Rcp.siz : Rcp → Nat
  | .num _ => 1
  | .read _ => 1
  | .two _ a b => a.siz + b.siz + 1
  | .pick a b c => a.siz + b.siz + c.siz + 1
  | .choose a _ => a.siz + 1
/-- a name's signs -/
def Nm (s : List Nat) : Prop := 1 ≤ s.length ∧ s.length ≤ 8 ∧ ∀ c ∈ s, 97 ≤ c ∧ c ≤ 122
def Nms (ns : List (List Nat)) : Prop := 1 ≤ ns.length ∧ ns.length ≤ 9 ∧ ∀ s ∈ ns, Nm s
def Rcp.Good : Rcp → Prop
  | .num n => n.natAbs < 10 ^ 40
  | .read s => Nm s
  | .two _ a b => a.Good ∧ b.Good
  | .pick a b c => a.Good ∧ b.Good ∧ c.Good
  | .choose a ns => a.Good ∧ Nms ns
def txs (ns : List (List Nat)) : List V := (ns.map SX.S).map V.str
/-- the value v is the recipe r in H -/
def Rec (H : Hp) : Rcp → V → Prop
  | .num n, v => ∃ p, v = .ref p ∧ H p = some (.tup [.str "number", .int n])
  | .read s, v => ∃ p, v = .ref p ∧ H p = some (.tup [.str "read", .str (SX.S s)])
  | .two k a b, v => ∃ p x y, v = .ref p ∧ H p = some (.tup [.str k.name, x, y]) ∧ Rec H a x ∧ Rec H b y
  | .pick a b c, v => ∃ p x y z, v = .ref p ∧ H p = some (.tup [.str "pick", x, y, z]) ∧ Rec H a x ∧ Rec H b y ∧ Rec H c z
  | .choose a ns, v => ∃ p x q, v = .ref p ∧ H p = some (.tup [.str "choose", x, .ref q]) ∧ Rec H a x ∧ H q = some (.tup (txs ns))
/-- tuples stay -/
def Keep (H H' : Hp) : Prop := ∀ b xs, H b = some (.tup xs) → H' b = some (.tup xs)
theorem Keep.refl (H : Hp) : Keep H H := fun _ _ h => h
theorem Keep.trans {A B C : Hp} (h : Keep A B) (k : Keep B C) : Keep A C := fun b xs q => k b xs (h b xs q)
theorem same_keep {H H' : Hp} (s : Same H H') : Keep H H' := fun b xs q => s b _ q
theorem keep_lst {H : Hp} {l : Addr} {xs ys : List V} (h : H l = some (.lst xs)) : Keep H (upd H l (.lst ys)) := fun b zs q => by
  have z : b ≠ l := fun e => by rw [e, h] at q; cases q
  rw [upd_ne z]; exact q
theorem Rec.keep {H H' : Hp} (k : Keep H H') : ∀ {r : Rcp} {v : V}, Rec H r v → Rec H' r v
  | .num n, v, ⟨p, e, h⟩ => ⟨p, e, k _ _ h⟩
  | .read s, v, ⟨p, e, h⟩ => ⟨p, e, k _ _ h⟩
  | .two _ a b, v, ⟨p, x, y, e, h, ra, rb⟩ => ⟨p, x, y, e, k _ _ h, Rec.keep k ra, Rec.keep k rb⟩
  | .pick a b c, v, ⟨p, x, y, z, e, h, ra, rb, rc⟩ => ⟨p, x, y, z, e, k _ _ h, Rec.keep k ra, Rec.keep k rb, Rec.keep k rc⟩
  | .choose a ns, v, ⟨p, x, q, e, h, ra, hq⟩ => ⟨p, x, q, e, k _ _ h, Rec.keep k ra, k _ _ hq⟩
theorem Rec.same {H H' : Hp} (s : Same H H') {r : Rcp} {v : V} (h : Rec H r v) : Rec H' r v := h.keep (same_keep s)
theorem dep_pos : ∀ r : Rcp, 1 ≤ r.dep
  | .num _ => Nat.le_refl _
  | .read _ => Nat.le_refl _
  | .two _ _ _ => Nat.le_add_left _ _
  | .pick _ _ _ => Nat.le_add_left _ _
  | .choose _ _ => Nat.le_add_left _ _
theorem siz_pos : ∀ r : Rcp, 1 ≤ r.siz
  | .num _ => Nat.le_refl _
  | .read _ => Nat.le_refl _
  | .two _ _ _ => Nat.le_add_left _ _
  | .pick _ _ _ => Nat.le_add_left _ _
  | .choose _ _ => Nat.le_add_left _ _
theorem iteY {p A B : Prop} [Decidable p] (h : p) (a : A) : if decide p = true then A else B := by
  rw [if_pos (decide_eq_true h)]; exact a
theorem iteN {p A B : Prop} [Decidable p] (h : ¬p) (b : B) : if decide p = true then A else B := by
  rw [if_neg (fun z => h (of_decide_eq_true z))]; exact b
theorem txs_get {ns : List (List Nat)} {i : Nat} (h : i < ns.length) : (txs ns)[i]? = some (.str (SX.S ns[i])) := by
  unfold txs
  rw [List.getElem?_map, List.getElem?_map, List.getElem?_eq_getElem h]
  all_goals rfl
theorem txs_mem {ns : List (List Nat)} {x : V} (h : x ∈ txs ns) : ∃ s, s ∈ ns ∧ x = .str (SX.S s) := by
  obtain ⟨y, hy, rfl⟩ := List.mem_map.mp h
  obtain ⟨s, hs, rfl⟩ := List.mem_map.mp hy
  exact ⟨s, hs, rfl⟩
theorem txs_len (ns : List (List Nat)) : (txs ns).length = ns.length := by unfold txs; rw [List.length_map, List.length_map]
theorem txs_app (a b : List (List Nat)) : txs (a ++ b) = txs a ++ txs b := by unfold txs; rw [List.map_append, List.map_append]
/-- the signs, one by one -/
def ones (ss : List Nat) : List (List Nat) := ss.map fun c => [c]
theorem ones_flat (ss : List Nat) : (ones ss).flatten = ss := by
  induction ss with
  | nil => rfl
  | cons a r ih => show [a] ++ (ones r).flatten = _; rw [ih]; rfl
theorem ones_sum (ss : List Nat) : (((ones ss).map SX.S).map (·.length)).sum = ss.length := by
  induction ss with
  | nil => rfl
  | cons a r ih => show 1 + (((ones r).map SX.S).map (·.length)).sum = r.length + 1; rw [ih, Nat.add_comm]
theorem ones_len (ss : List Nat) : (ones ss).length = ss.length := List.length_map _
/-- the pick out of some things by a drawn number -/
theorem one_of {α : Type} {xs : List α} {v : Int} (h0 : 0 ≤ v) (h : v < xs.length) : ∃ x, x ∈ xs ∧ atI xs v = some x := by
  have hk : v.toNat < xs.length := by omega
  exact ⟨xs[v.toNat], List.getElem_mem hk, atI_at h0 (List.getElem?_eq_getElem hk)⟩
def letters : List Nat := [97, 98, 99, 100, 101, 102, 103, 104, 105, 106, 107, 108, 109, 110, 111, 112, 113, 114, 115, 116, 117, 118, 119, 120, 121, 122]
theorem letters_is : ("abcdefghijklmnopqrstuvwxyz" : Str) = SX.S letters := by decide +kernel
theorem letters_ok : ∀ c ∈ letters, 97 ≤ c ∧ c ≤ 122 := by decide
/-! ### rows of recipes -/
def Recs (H : Hp) : List Rcp → List V → Prop
  | [], [] => True
  | r :: rs, v :: vs => Rec H r v ∧ Recs H rs vs
  | _, _ => False
theorem Recs.keep {H H' : Hp} (k : Keep H H') : ∀ {rs : List Rcp} {vs : List V}, Recs H rs vs → Recs H' rs vs
  | [], [], _ => trivial
  | _ :: _, _ :: _, h => ⟨h.1.keep k, Recs.keep k h.2⟩
  | [], _ :: _, h => h.elim
  | _ :: _, [], h => h.elim
theorem Recs.len {H : Hp} : ∀ {rs : List Rcp} {vs : List V}, Recs H rs vs → vs.length = rs.length
  | [], [], _ => rfl
  | _ :: _, _ :: _, h => congrArg (· + 1) (Recs.len h.2)
  | [], _ :: _, h => h.elim
  | _ :: _, [], h => h.elim
theorem Recs.snoc {H : Hp} {r : Rcp} {v : V} (hr : Rec H r v) : ∀ {rs : List Rcp} {vs : List V}, Recs H rs vs → Recs H (rs ++ [r]) (vs ++ [v])
  | [], [], _ => ⟨hr, trivial⟩
  | _ :: _, _ :: _, h => ⟨h.1, Recs.snoc hr h.2⟩
  | [], _ :: _, h => h.elim
  | _ :: _, [], h => h.elim
theorem Recs.at {H : Hp} : ∀ {rs : List Rcp} {vs : List V} {i : Nat} {v : V}, Recs H rs vs → vs[i]? = some v → ∃ r, rs[i]? = some r ∧ Rec H r v
  | [], [], i, v, _, e => by simp at e
  | r :: _, _ :: _, 0, v, h, e => ⟨r, rfl, by cases e; exact h.1⟩
  | _ :: _, _ :: _, i + 1, v, h, e => Recs.at (i := i) h.2 (by simpa using e)
  | [], _ :: _, _, _, h, _ => h.elim
  | _ :: _, [], _, _, h, _ => h.elim
theorem Recs.get {H : Hp} {rs : List Rcp} {vs : List V} {i : Nat} (h : Recs H rs vs) (hi : i < rs.length) : ∃ v r, vs[i]? = some v ∧ rs[i]? = some r ∧ Rec H r v := by
  have hv : i < vs.length := by rw [h.len]; exact hi
  obtain ⟨r, e, hr⟩ := h.at (List.getElem?_eq_getElem hv)
  exact ⟨_, r, List.getElem?_eq_getElem hv, e, hr⟩
/-- a comprehension over a range with a step -/
theorem lcC {lo c : Int} {n : Nat} {g : TG} {tt : TT} {te : TE} {vs : List Nat} {σ : L2.St} {H1 : Hp} {D : Addr} {Qd : Hp → Prop} (Pv : Nat → Hp → Prop)
    (h0 : Pv 0 (upd H1 D (.lst [])))
    (hs : ∀ i H, i < n → Pv i H → g (.int (lo + (i : Nat) * c)) (wipe σ vs) H
      fun σ2 H2 => wipe σ2 vs = wipe σ vs ∧ tt σ2 H2
        fun b H3 => if b = true then te σ2 H3
          fun y H4 => ∃ acc, H4 D = some (.lst acc) ∧ acc.length < sizeLine ∧ Pv (i + 1) (upd H4 D (.lst (acc ++ [y])))
        else Pv (i + 1) H3)
    (hd : ∀ H, Pv n H → Qd H) :
    ∃ W : Nat → Nat → Hp → Prop, (∃ m, W 0 m (upd H1 D (.lst []))) ∧
      ∀ i m H, W i m H → ((Itc lo c n).stop i H ∧ Qd H) ∨ ((Itc lo c n).go i H ∧
        ∃ Nx : Hp → Prop, (∀ H', Nx H' → ∃ m', m' < m ∧ W (i + 1) m' H') ∧
          ∀ x H', (Itc lo c n).yld i H x H' → g x (wipe σ vs) H'
            fun σ2 H2 => wipe σ2 vs = wipe σ vs ∧ tt σ2 H2
              fun b H3 => if b = true then te σ2 H3
                fun y H4 => ∃ acc, H4 D = some (.lst acc) ∧ acc.length < sizeLine ∧ Nx (upd H4 D (.lst (acc ++ [y])))
              else Nx H3) := by
  refine ⟨fun i m H => m = n - i ∧ i ≤ n ∧ Pv i H, ⟨n, rfl, Nat.zero_le _, h0⟩, fun i m H w => ?_⟩
  obtain ⟨em, hi, p⟩ := w
  by_cases hlt : i < n
  · refine Or.inr ⟨hlt, Pv (i + 1), fun H' p' => ⟨n - (i + 1), by omega, rfl, hlt, p'⟩, fun x H' y => ?_⟩
    obtain ⟨e1, e2⟩ := y
    rw [e1, e2]
    exact hs i H hlt p
  · have e : i = n := by omega
    rw [e] at p
    exact Or.inl ⟨by show n ≤ i; omega, hd H p⟩
theorem cut_nat (xs : List V) {a b : Nat} (h : a ≤ b) : cutV xs (some (a : Int)) (some (b : Int)) = (xs.drop a).take (b - a) := by
  show (xs.drop (HT.sIx xs.length 0 (some (a : Int)))).take (HT.sIx xs.length xs.length (some (b : Int)) - HT.sIx xs.length 0 (some (a : Int))) = _
  rw [HT.sIx_nat, HT.sIx_nat]
  by_cases ha : a ≤ xs.length
  · rw [Nat.min_eq_left ha]
    by_cases hb : b ≤ xs.length
    · rw [Nat.min_eq_left hb]
    · rw [Nat.min_eq_right (by omega), List.take_of_length_le (by rw [List.length_drop]; omega), List.take_of_length_le (by rw [List.length_drop]; omega)]
  · have e1 : min a xs.length = xs.length := by omega
    rw [e1, List.drop_eq_nil_of_le (Nat.le_refl _), List.drop_eq_nil_of_le (by omega), List.take_nil, List.take_nil]
theorem cut_to (xs : List V) (b : Nat) : cutV xs none (some (b : Int)) = xs.take b := by
  show (xs.drop (HT.sIx xs.length 0 none)).take (HT.sIx xs.length xs.length (some (b : Int)) - HT.sIx xs.length 0 none) = _
  rw [HT.sIx_none, HT.sIx_nat, List.drop_zero, Nat.sub_zero]
  by_cases hb : b ≤ xs.length
  · rw [Nat.min_eq_left hb]
  · rw [Nat.min_eq_right (by omega), List.take_of_length_le (Nat.le_refl _), List.take_of_length_le (by omega)]
/-! ### any things as data -/
inductive Th where
  | non
  | bl (b : Bool)
  | int (i : Int)
  | str (s : List Nat)
  | tup (l : List Th)
  | lst (l : List Th)
  | dct
mutual
/-- the value stands for the thing in H -/
def Data (H : Hp) : Th → V → Prop
  | .non, v => v = .non
  | .bl b, v => v = .bl b
  | .int i, v => v = .int i
  | .str s, v => v = .str (SX.S s)
  | .tup l, v => ∃ p xs, v = .ref p ∧ H p = some (.tup xs) ∧ DataL H l xs
  | .lst l, v => ∃ p xs, v = .ref p ∧ H p = some (.lst xs) ∧ DataL H l xs
  | .dct, v => ∃ p kvs, v = .ref p ∧ H p = some (.dK kvs)
def DataL (H : Hp) : List Th → List V → Prop
  | [], xs => xs = []
  | t :: l, xs => ∃ x r, xs = x :: r ∧ Data H t x ∧ DataL H l r
end
mutual
theorem Data.same {H H' : Hp} (s : Same H H') : ∀ {t : Th} {v : V}, Data H t v → Data H' t v
  | .non, _, h => h
  | .bl _, _, h => h
  | .int _, _, h => h
  | .str _, _, h => h
  | .tup _, _, ⟨p, xs, e, hp, hl⟩ => ⟨p, xs, e, s _ _ hp, DataL.same s hl⟩
  | .lst _, _, ⟨p, xs, e, hp, hl⟩ => ⟨p, xs, e, s _ _ hp, DataL.same s hl⟩
  | .dct, _, ⟨p, kvs, e, hp⟩ => ⟨p, kvs, e, s _ _ hp⟩
theorem DataL.same {H H' : Hp} (s : Same H H') : ∀ {l : List Th} {xs : List V}, DataL H l xs → DataL H' l xs
  | [], _, h => h
  | _ :: _, _, ⟨x, r, e, h1, h2⟩ => ⟨x, r, e, Data.same s h1, DataL.same s h2⟩
end
theorem DataL.len {H : Hp} : ∀ {l : List Th} {xs : List V}, DataL H l xs → xs.length = l.length
  | [], _, h => by rw [show _ = [] from h]; rfl
  | _ :: _, _, ⟨x, r, e, _, h2⟩ => by rw [e, List.length_cons, DataL.len h2]; rfl
theorem DataL.at {H : Hp} : ∀ {l : List Th} {xs : List V} {i : Nat} {v : V}, DataL H l xs → xs[i]? = some v → ∃ t, l[i]? = some t ∧ Data H t v
  | [], _, i, v, h, e => by rw [show _ = [] from h] at e; simp at e
  | t :: _, _, 0, v, ⟨x, r, e1, h1, _⟩, e => by subst e1; cases e; exact ⟨t, rfl, h1⟩
  | _ :: _, _, i + 1, v, ⟨x, r, e1, _, h2⟩, e => by subst e1; exact DataL.at (i := i) h2 (by simpa using e)
theorem DataL.get {H : Hp} {l : List Th} {xs : List V} {i : Nat} {t : Th} (h : DataL H l xs) (e : l[i]? = some t) : ∃ v, xs[i]? = some v ∧ Data H t v := by
  have hi : i < xs.length := by
    rw [h.len]
    exact (List.getElem?_eq_some_iff.mp e).1
  obtain ⟨t', e', hd⟩ := h.at (List.getElem?_eq_getElem hi)
  rw [e] at e'
  cases e'
  exact ⟨_, List.getElem?_eq_getElem hi, hd⟩
theorem DataL.drop {H : Hp} : ∀ {l : List Th} {xs : List V} (n : Nat), DataL H l xs → DataL H (l.drop n) (xs.drop n)
  | _, _, 0, h => h
  | [], _, n + 1, h => by rw [show _ = [] from h]; exact rfl
  | _ :: _, _, n + 1, ⟨x, r, e, _, h2⟩ => by subst e; exact DataL.drop n h2
theorem DataL.take {H : Hp} : ∀ {l : List Th} {xs : List V} (n : Nat), DataL H l xs → DataL H (l.take n) (xs.take n)
  | _, _, 0, _ => rfl
  | [], _, n + 1, h => by rw [show _ = [] from h]; exact rfl
  | _ :: _, _, n + 1, ⟨x, r, e, h1, h2⟩ => by subst e; exact ⟨x, _, rfl, h1, DataL.take n h2⟩
theorem DataL.snoc {H : Hp} {t : Th} {v : V} (h : Data H t v) : ∀ {l : List Th} {xs : List V}, DataL H l xs → DataL H (l ++ [t]) (xs ++ [v])
  | [], _, e => by rw [show _ = [] from e]; exact ⟨v, [], rfl, h, rfl⟩
  | _ :: _, _, ⟨x, r, e, h1, h2⟩ => by subst e; exact ⟨x, _, rfl, h1, DataL.snoc h h2⟩
mutual
/-- without dicts -/
def Th.flat : Th → Bool
  | .dct => false
  | .tup l => Th.flatL l
  | .lst l => Th.flatL l
  | _ => true
def Th.flatL : List Th → Bool
  | [] => true
  | t :: l => t.flat && Th.flatL l
end
mutual
def Th.py : Th → PyData
  | .non => .none
  | .bl b => .bool b
  | .int i => .int i
  | .str s => .str (SX.S s)
  | .tup l => .tuple (Th.pyL l)
  | .lst l => .list (Th.pyL l)
  | .dct => .none
def Th.pyL : List Th → List PyData
  | [] => []
  | t :: l => t.py :: Th.pyL l
end
mutual
theorem Data.dp {K : PySem.W.Frag} {H : Hp} : ∀ {t : Th} {v : V}, t.flat = true → Data H t v → Dp K H v t.py
  | .non, _, _, h => by rw [show _ = V.non from h]; exact .non
  | .bl _, _, _, h => by rw [show _ = V.bl _ from h]; exact .bl _
  | .int _, _, _, h => by rw [show _ = V.int _ from h]; exact .int _
  | .str _, _, _, h => by rw [show _ = V.str _ from h]; exact .str _
  | .tup l, _, f, ⟨p, xs, e, hp, hl⟩ => by rw [e]; exact .tup (SqT.of hp) (DataL.dp f hl)
  | .lst l, _, f, ⟨p, xs, e, hp, hl⟩ => by rw [e]; exact .lst (SqL.of hp) (DataL.dp f hl)
theorem DataL.dp {K : PySem.W.Frag} {H : Hp} : ∀ {l : List Th} {xs : List V}, Th.flatL l = true → DataL H l xs → DpAll K H xs (Th.pyL l)
  | [], _, _, h => by rw [show _ = [] from h]; exact .nil
  | t :: l, _, f, ⟨x, r, e, h1, h2⟩ => by
    have f' : t.flat = true ∧ Th.flatL l = true := by
      have : (t.flat && Th.flatL l) = true := f
      exact Bool.and_eq_true_iff.mp this
    rw [e]
    exact .cons (Data.dp f'.1 h1) (DataL.dp f'.2 h2)
end
/-! ### what is a name, a recipe -/
def nmOk (s : List Nat) : Bool := decide (1 ≤ s.length) && decide (s.length ≤ 8) && s.all fun c => decide (97 ≤ c) && decide (c ≤ 122)
theorem nmOk_iff {s : List Nat} : nmOk s = true ↔ Nm s := by
  unfold nmOk Nm
  simp only [Bool.and_eq_true, decide_eq_true_eq, List.all_eq_true]
  exact ⟨fun ⟨⟨a, b⟩, c⟩ => ⟨a, b, c⟩, fun ⟨a, b, c⟩ => ⟨⟨a, b⟩, c⟩⟩
def Th.isNm : Th → Bool
  | .str s => nmOk s
  | _ => false
def Th.areNms : Th → Bool
  | .tup l => decide (1 ≤ l.length) && decide (l.length ≤ 9) && l.all Th.isNm
  | _ => false
def Th.isInt : Th → Bool
  | .int _ => true
  | _ => false
def w_number : List Nat := [110, 117, 109, 98, 101, 114]
def w_read : List Nat := [114, 101, 97, 100]
def w_pick : List Nat := [112, 105, 99, 107]
def w_choose : List Nat := [99, 104, 111, 111, 115, 101]
def w_plus : List Nat := [112, 108, 117, 115]
def w_minus : List Nat := [109, 105, 110, 117, 115]
def w_times : List Nat := [116, 105, 109, 101, 115]
def w_most : List Nat := [109, 111, 115, 116]
def twos : List (List Nat) := [w_plus, w_minus, w_times, w_most]
/-- the parts of a thing that has a recipe's form -/
def formParts (k : List Nat) (l : List Th) : Option (List Th) :=
  if k = w_number then (if l.length = 1 ∧ (l.headD .non).isInt = true then some [] else none)
  else if k = w_read then (if l.length = 1 ∧ (l.headD .non).isNm = true then some [] else none)
  else if k ∈ twos then (if l.length = 2 then some l else none)
  else if k = w_pick then (if l.length = 3 then some l else none)
  else if k = w_choose then (if l.length = 2 ∧ (l.getD 1 .non).areNms = true then some (l.take 1) else none)
  else none
def Th.parts : Th → Option (List Th)
  | .tup (.str k :: l) => formParts k l
  | _ => none
/-- all well formed, n deep at most -/
def Th.okay : Nat → Th → Bool
  | 0, _ => false
  | n + 1, t => match t.parts with
    | none => false
    | some ps => ps.all (Th.okay n)
def Th.count : Nat → Th → Nat
  | 0, _ => 1
  | n + 1, t => match t.parts with
    | none => 1
    | some ps => 1 + (ps.map (Th.count n)).sum
def Th.isRcp (t : Th) : Bool := t.okay 8 && decide (t.count 8 ≤ 100)
theorem count_pos : ∀ (n : Nat) (t : Th), 1 ≤ t.count n
  | 0, _ => Nat.le_refl _
  | n + 1, t => by
    unfold Th.count
    cases t.parts with
    | none => exact Nat.le_refl _
    | some ps => exact Nat.le_add_right _ _
theorem parts_tup {t : Th} {ps : List Th} (h : t.parts = some ps) : ∃ k l, t = .tup (.str k :: l) := by
  unfold Th.parts at h
  split at h
  · exact ⟨_, _, rfl⟩
  · cases h
/-- what the walk may meet: texts of ASCII signs, not too long; names without dicts -/
def tameS (s : List Nat) : Bool := decide (s.length ≤ 1000000) && s.all fun c => decide (c < 128)
def namesTame : List Th → Bool
  | [.str k, _, .tup m] => !decide (k = w_choose) || (Th.flatL m && SeqAt.shaped (.list (Th.pyL m)))
  | _ => true
mutual
def Th.tame : Th → Bool
  | .str s => tameS s
  | .tup l => Th.tameL l && decide (l.length ≤ 1000000) && namesTame l
  | _ => true
def Th.tameL : List Th → Bool
  | [] => true
  | t :: l => t.tame && Th.tameL l
end
theorem tameL_mem : ∀ {l : List Th}, Th.tameL l = true → ∀ t ∈ l, t.tame = true
  | [], _, t, h => by cases h
  | a :: l, f, t, h => by
    have f' : (a.tame && Th.tameL l) = true := f
    rw [Bool.and_eq_true] at f'
    rcases List.mem_cons.mp h with h | h
    · rw [h]; exact f'.1
    · exact tameL_mem f'.2 t h
theorem flatL_mem : ∀ {l : List Th}, Th.flatL l = true → ∀ t ∈ l, t.flat = true
  | [], _, t, h => by cases h
  | a :: l, f, t, h => by
    have f' : (a.flat && Th.flatL l) = true := f
    rw [Bool.and_eq_true] at f'
    rcases List.mem_cons.mp h with h | h
    · rw [h]; exact f'.1
    · exact flatL_mem f'.2 t h
theorem flatL_filter (p : Th → Bool) : ∀ {l : List Th}, Th.flatL l = true → Th.flatL (l.filter p) = true
  | [], _ => rfl
  | a :: l, f => by
    have f' : (a.flat && Th.flatL l) = true := f
    rw [Bool.and_eq_true] at f'
    rw [List.filter_cons]
    split
    · show (a.flat && Th.flatL (l.filter p)) = true
      rw [f'.1, flatL_filter p f'.2]; rfl
    · exact flatL_filter p f'.2
theorem shaped_parts {ds : List PyData} : SeqAt.shaped (.list ds) = true ↔ PyData.canLayAll0 ds = true ∧ PyData.depthAll ds + 1 ≤ 64 := by
  show (PyData.canLayAll0 ds && decide (PyData.depthAll ds + 1 ≤ 64)) = true ↔ _
  rw [Bool.and_eq_true, decide_eq_true_eq]
theorem py_filter (p : Th → Bool) : ∀ (l : List Th), PyData.canLayAll0 (Th.pyL l) = true → PyData.canLayAll0 (Th.pyL (l.filter p)) = true ∧ PyData.depthAll (Th.pyL (l.filter p)) ≤ PyData.depthAll (Th.pyL l)
  | [], _ => ⟨rfl, Nat.le_refl _⟩
  | a :: l, f => by
    have f' : (a.py.canLay0 && PyData.canLayAll0 (Th.pyL l)) = true := f
    rw [Bool.and_eq_true] at f'
    have ih := py_filter p l f'.2
    rw [List.filter_cons]
    split
    · refine ⟨?_, ?_⟩
      · show (a.py.canLay0 && PyData.canLayAll0 (Th.pyL (l.filter p))) = true
        rw [f'.1, ih.1]; rfl
      · show max a.py.depth (PyData.depthAll (Th.pyL (l.filter p))) ≤ max a.py.depth (PyData.depthAll (Th.pyL l))
        omega
    · refine ⟨ih.1, ?_⟩
      show _ ≤ max a.py.depth (PyData.depthAll (Th.pyL l))
      omega
theorem shaped_filter (p : Th → Bool) {l : List Th} (h : SeqAt.shaped (.list (Th.pyL l)) = true) : SeqAt.shaped (.list (Th.pyL (l.filter p))) = true := by
  rw [shaped_parts] at h ⊢
  have := py_filter p l h.1
  exact ⟨this.1, by omega⟩
def Th.tyName : Th → String
  | .non => "NoneType" | .bl _ => "bool" | .int _ => "int" | .str _ => "str" | .tup _ => "tuple" | .lst _ => "list" | .dct => "dict"
theorem Data.ty {K : PySem.W.Frag} {H : Hp} : ∀ {t : Th} {v : V}, Data H t v → TyX K H v (.type t.tyName)
  | .non, _, h => by rw [show _ = V.non from h]; exact .base .non
  | .bl _, _, h => by rw [show _ = V.bl _ from h]; exact .base (.bl _)
  | .int _, _, h => by rw [show _ = V.int _ from h]; exact .base (.int _)
  | .str _, _, h => by rw [show _ = V.str _ from h]; exact .base (.str _)
  | .tup l, _, ⟨p, xs, e, hp, hl⟩ => by rw [e]; exact .base (.tup hp)
  | .lst l, _, ⟨p, xs, e, hp, hl⟩ => by rw [e]; exact .base (.lst hp)
  | .dct, _, ⟨p, kvs, e, hp⟩ => by rw [e]; exact .base (.dK hp)
def Th.isTup : Th → Bool
  | .tup _ => true
  | _ => false
def Th.isStr : Th → Bool
  | .str _ => true
  | _ => false
def Th.isBl : Th → Bool
  | .bl _ => true
  | _ => false
def Th.isIntB : Th → Bool
  | .bl _ => true
  | .int _ => true
  | _ => false
theorem kit_tup {K : PySem.W.Frag} : ∀ t : Th, PySem.W.kitOne K (.type t.tyName) (.type "tuple") = some t.isTup
  | .non => kit_ty (show kitB "NoneType" "tuple" = some false by decide +kernel)
  | .bl _ => kit_ty (show kitB "bool" "tuple" = some false by decide +kernel)
  | .int _ => kit_ty (show kitB "int" "tuple" = some false by decide +kernel)
  | .str _ => kit_ty (show kitB "str" "tuple" = some false by decide +kernel)
  | .tup _ => kit_ty (show kitB "tuple" "tuple" = some true by decide +kernel)
  | .lst _ => kit_ty (show kitB "list" "tuple" = some false by decide +kernel)
  | .dct => kit_ty (show kitB "dict" "tuple" = some false by decide +kernel)
theorem kit_str {K : PySem.W.Frag} : ∀ t : Th, PySem.W.kitOne K (.type t.tyName) (.type "str") = some t.isStr
  | .non => kit_ty (show kitB "NoneType" "str" = some false by decide +kernel)
  | .bl _ => kit_ty (show kitB "bool" "str" = some false by decide +kernel)
  | .int _ => kit_ty (show kitB "int" "str" = some false by decide +kernel)
  | .str _ => kit_ty (show kitB "str" "str" = some true by decide +kernel)
  | .tup _ => kit_ty (show kitB "tuple" "str" = some false by decide +kernel)
  | .lst _ => kit_ty (show kitB "list" "str" = some false by decide +kernel)
  | .dct => kit_ty (show kitB "dict" "str" = some false by decide +kernel)
theorem kit_int {K : PySem.W.Frag} : ∀ t : Th, PySem.W.kitOne K (.type t.tyName) (.type "int") = some t.isIntB
  | .non => kit_ty (show kitB "NoneType" "int" = some false by decide +kernel)
  | .bl _ => kit_ty (show kitB "bool" "int" = some true by decide +kernel)
  | .int _ => kit_ty (show kitB "int" "int" = some true by decide +kernel)
  | .str _ => kit_ty (show kitB "str" "int" = some false by decide +kernel)
  | .tup _ => kit_ty (show kitB "tuple" "int" = some false by decide +kernel)
  | .lst _ => kit_ty (show kitB "list" "int" = some false by decide +kernel)
  | .dct => kit_ty (show kitB "dict" "int" = some false by decide +kernel)
theorem kit_bl {K : PySem.W.Frag} : ∀ t : Th, PySem.W.kitOne K (.type t.tyName) (.type "bool") = some t.isBl
  | .non => kit_ty (show kitB "NoneType" "bool" = some false by decide +kernel)
  | .bl _ => kit_ty (show kitB "bool" "bool" = some true by decide +kernel)
  | .int _ => kit_ty (show kitB "int" "bool" = some false by decide +kernel)
  | .str _ => kit_ty (show kitB "str" "bool" = some false by decide +kernel)
  | .tup _ => kit_ty (show kitB "tuple" "bool" = some false by decide +kernel)
  | .lst _ => kit_ty (show kitB "list" "bool" = some false by decide +kernel)
  | .dct => kit_ty (show kitB "dict" "bool" = some false by decide +kernel)
theorem isInt_is (t : Th) : (t.isIntB && !t.isBl) = t.isInt := by cases t <;> rfl
/-- a comprehension over a text -/
theorem lcS {z : Str} {g : TG} {tt : TT} {te : TE} {vs : List Nat} {σ : L2.St} {H1 : Hp} {D : Addr} {Qd : Hp → Prop} (Pv : Nat → Hp → Prop)
    (h0 : Pv 0 (upd H1 D (.lst [])))
    (hs : ∀ i c H, z.cps[i]? = some c → Pv i H → g (.str ⟨#[c]⟩) (wipe σ vs) H
      fun σ2 H2 => wipe σ2 vs = wipe σ vs ∧ tt σ2 H2
        fun b H3 => if b = true then te σ2 H3
          fun y H4 => ∃ acc, H4 D = some (.lst acc) ∧ acc.length < sizeLine ∧ Pv (i + 1) (upd H4 D (.lst (acc ++ [y])))
        else Pv (i + 1) H3)
    (hd : ∀ H, Pv z.cps.size H → Qd H) :
    ∃ W : Nat → Nat → Hp → Prop, (∃ m, W 0 m (upd H1 D (.lst []))) ∧
      ∀ i m H, W i m H → ((Its z).stop i H ∧ Qd H) ∨ ((Its z).go i H ∧
        ∃ Nx : Hp → Prop, (∀ H', Nx H' → ∃ m', m' < m ∧ W (i + 1) m' H') ∧
          ∀ x H', (Its z).yld i H x H' → g x (wipe σ vs) H'
            fun σ2 H2 => wipe σ2 vs = wipe σ vs ∧ tt σ2 H2
              fun b H3 => if b = true then te σ2 H3
                fun y H4 => ∃ acc, H4 D = some (.lst acc) ∧ acc.length < sizeLine ∧ Nx (upd H4 D (.lst (acc ++ [y])))
              else Nx H3) := by
  refine ⟨fun i m H => m = z.cps.size - i ∧ i ≤ z.cps.size ∧ Pv i H, ⟨z.cps.size, rfl, Nat.zero_le _, h0⟩, fun i m H w => ?_⟩
  obtain ⟨em, hi, p⟩ := w
  by_cases hlt : i < z.cps.size
  · refine Or.inr ⟨hlt, Pv (i + 1), fun H' p' => ⟨z.cps.size - (i + 1), by omega, rfl, hlt, p'⟩, fun x H' y => ?_⟩
    obtain ⟨e1, c, e2, e3⟩ := y
    rw [e1, e3]
    exact hs i c H e2 p
  · have e : i = z.cps.size := by omega
    rw [e] at p
    exact Or.inl ⟨by show z.cps.size ≤ i; omega, hd H p⟩
/-- a list of data against a new empty one -/
theorem eqv_nil (l : List Th) : PyData.eqv (.list (Th.pyL l)) (.list []) = l.isEmpty := by cases l <;> rfl
theorem kw {k : List Nat} {w : List Nat} {lit : Str} (h : lit = SX.S w) : V.str (SX.S k) = V.str lit ↔ k = w := by
  rw [h]
  exact ⟨fun e => SX.S_inj (by cases e; rfl), fun e => by rw [e]⟩
theorem q_number : ("number" : Str) = SX.S w_number := by decide +kernel
theorem q_read : ("read" : Str) = SX.S w_read := by decide +kernel
theorem q_pick : ("pick" : Str) = SX.S w_pick := by decide +kernel
theorem q_choose : ("choose" : Str) = SX.S w_choose := by decide +kernel
theorem q_plus : ("plus" : Str) = SX.S w_plus := by decide +kernel
theorem q_minus : ("minus" : Str) = SX.S w_minus := by decide +kernel
theorem q_times : ("times" : Str) = SX.S w_times := by decide +kernel
theorem q_most : ("most" : Str) = SX.S w_most := by decide +kernel
theorem in_twos (k : List Nat) : inV (.str (SX.S k)) [.str "plus", .str "minus", .str "times", .str "most"] = decide (k ∈ twos) := by
  rw [q_plus, q_minus, q_times, q_most]
  have e : ∀ w : List Nat, (SX.S w == SX.S k) = decide (k = w) := fun w => by
    rw [SX.S_beq_eq]
    exact decide_eq_decide.mpr ⟨Eq.symm, Eq.symm⟩
  show ((SX.S w_plus == SX.S k) || ((SX.S w_minus == SX.S k) || ((SX.S w_times == SX.S k) || ((SX.S w_most == SX.S k) || false)))) = _
  rw [e, e, e, e]
  unfold twos
  simp only [List.mem_cons, List.not_mem_nil, or_false]
  simp [Bool.decide_or]
theorem num_parts (k : List Nat) (h : k = w_number) (t1 : Th) : (t1.isInt = true → formParts k [t1] = some []) ∧ (t1.isInt = false → formParts k [t1] = none) := by
  unfold formParts
  rw [if_pos h]
  exact ⟨fun z => if_pos ⟨rfl, z⟩, fun z => if_neg fun y => by rw [show ([t1] : List Th).headD .non = t1 from rfl, z] at y; cases y.2⟩
theorem read_parts (k : List Nat) (h1 : k ≠ w_number) (h : k = w_read) (t1 : Th) : (t1.isNm = true → formParts k [t1] = some []) ∧ (t1.isNm = false → formParts k [t1] = none) := by
  unfold formParts
  rw [if_neg h1, if_pos h]
  exact ⟨fun z => if_pos ⟨rfl, z⟩, fun z => if_neg fun y => by rw [show ([t1] : List Th).headD .non = t1 from rfl, z] at y; cases y.2⟩
theorem one_none (k : List Nat) (h1 : k ≠ w_number) (h2 : k ≠ w_read) (t1 : Th) : formParts k [t1] = none := by
  unfold formParts
  rw [if_neg h1, if_neg h2]
  simp
theorem twos_parts (k : List Nat) (h : k ∈ twos) (t1 t2 : Th) : formParts k [t1, t2] = some [t1, t2] := by
  have n1 : k ≠ w_number := fun z => by rw [z] at h; revert h; decide
  have n2 : k ≠ w_read := fun z => by rw [z] at h; revert h; decide
  unfold formParts
  rw [if_neg n1, if_neg n2, if_pos h]
  rfl
theorem choose_parts (k : List Nat) (h : k = w_choose) (t1 t2 : Th) : (t2.areNms = true → formParts k [t1, t2] = some [t1]) ∧ (t2.areNms = false → formParts k [t1, t2] = none) := by
  have n1 : k ≠ w_number := by rw [h]; decide
  have n2 : k ≠ w_read := by rw [h]; decide
  have n3 : ¬ k ∈ twos := by rw [h]; decide
  have n4 : k ≠ w_pick := by rw [h]; decide
  unfold formParts
  rw [if_neg n1, if_neg n2, if_neg n3, if_neg n4, if_pos h]
  exact ⟨fun z => if_pos ⟨rfl, z⟩, fun z => if_neg fun y => by rw [show ([t1, t2] : List Th).getD 1 .non = t2 from rfl, z] at y; cases y.2⟩
theorem two_none (k : List Nat) (h1 : ¬ k ∈ twos) (h2 : k ≠ w_choose) (t1 t2 : Th) : formParts k [t1, t2] = none := by
  unfold formParts
  rw [if_neg h1, if_neg h2]
  simp
theorem pick_parts (k : List Nat) (h : k = w_pick) (t1 t2 t3 : Th) : formParts k [t1, t2, t3] = some [t1, t2, t3] := by
  have n1 : k ≠ w_number := by rw [h]; decide
  have n2 : k ≠ w_read := by rw [h]; decide
  have n3 : ¬ k ∈ twos := by rw [h]; decide
  unfold formParts
  rw [if_neg n1, if_neg n2, if_neg n3, if_pos h]
  rfl
theorem three_none (k : List Nat) (h1 : k ≠ w_pick) (t1 t2 t3 : Th) : formParts k [t1, t2, t3] = none := by
  unfold formParts
  rw [if_neg h1]
  simp
/-! ### recipes as things -/
def Kd.word : Kd → List Nat
  | .plus => w_plus | .minus => w_minus | .times => w_times | .most => w_most
theorem kd_word (k : Kd) : k.name = SX.S k.word := by cases k <;> decide +kernel
theorem kd_twos (k : Kd) : k.word ∈ twos := by cases k <;> decide
def nmsTh (ns : List (List Nat)) : List Th := ns.map Th.str
def Rcp.tail : Rcp → List Th × List Nat
  | .num n => ([.int n], w_number)
  | .read s => ([.str s], w_read)
  | _ => ([], [])
def Rcp.th : Rcp → Th
  | .num n => .tup [.str w_number, .int n]
  | .read s => .tup [.str w_read, .str s]
  | .two k a b => .tup [.str k.word, a.th, b.th]
  | .pick a b c => .tup [.str w_pick, a.th, b.th, c.th]
  | .choose a ns => .tup [.str w_choose, a.th, .tup (nmsTh ns)]
theorem nms_data (H : Hp) : ∀ ns : List (List Nat), DataL H (nmsTh ns) (txs ns)
  | [] => rfl
  | s :: ns => ⟨_, _, rfl, rfl, nms_data H ns⟩
theorem Rec.data {H : Hp} : ∀ {r : Rcp} {v : V}, Rec H r v → Data H r.th v
  | .num n, v, ⟨p, e, h⟩ => ⟨p, _, e, h, _, _, rfl, congrArg V.str q_number, _, _, rfl, rfl, rfl⟩
  | .read s, v, ⟨p, e, h⟩ => ⟨p, _, e, h, _, _, rfl, congrArg V.str q_read, _, _, rfl, rfl, rfl⟩
  | .two k a b, v, ⟨p, x, y, e, h, ra, rb⟩ => ⟨p, _, e, h, _, _, rfl, congrArg V.str (kd_word k), _, _, rfl, ra.data, _, _, rfl, rb.data, rfl⟩
  | .pick a b c, v, ⟨p, x, y, z, e, h, ra, rb, rc⟩ => ⟨p, _, e, h, _, _, rfl, congrArg V.str q_pick, _, _, rfl, ra.data, _, _, rfl, rb.data, _, _, rfl, rc.data, rfl⟩
  | .choose a ns, v, ⟨p, x, q, e, h, ra, hq⟩ => ⟨p, _, e, h, _, _, rfl, congrArg V.str q_choose, _, _, rfl, ra.data, _, _, rfl, ⟨q, _, rfl, hq, nms_data H ns⟩, rfl⟩
theorem Nm.tame {s : List Nat} (h : Nm s) : tameS s = true := by
  unfold tameS
  rw [Bool.and_eq_true, decide_eq_true_eq, List.all_eq_true]
  refine ⟨by have := h.2.1; omega, fun c hc => decide_eq_true ?_⟩
  have := h.2.2 c hc
  omega
theorem Nms.flat : ∀ {ns : List (List Nat)}, Th.flatL (nmsTh ns) = true
  | [] => rfl
  | s :: ns => by show (true && Th.flatL (nmsTh ns)) = true; rw [Nms.flat]; rfl
theorem nms_py : ∀ {ns : List (List Nat)}, (∀ s ∈ ns, Nm s) → PyData.canLayAll0 (Th.pyL (nmsTh ns)) = true ∧ PyData.depthAll (Th.pyL (nmsTh ns)) = 0
  | [], _ => ⟨rfl, rfl⟩
  | s :: ns, h => by
    have ih := nms_py (ns := ns) fun x hx => h x (List.mem_cons_of_mem _ hx)
    refine ⟨?_, ?_⟩
    · show ((SX.S s).cps.all (· < 0x110000) && PyData.canLayAll0 (Th.pyL (nmsTh ns))) = true
      rw [ih.1, Bool.and_true]
      have hs := (h s (List.mem_cons_self ..)).2.2
      rw [← Array.all_toList, List.all_eq_true]
      intro c hc
      have := hs c hc
      exact decide_eq_true (by omega)
    · show max 0 (PyData.depthAll (Th.pyL (nmsTh ns))) = 0
      rw [ih.2]
      rfl
theorem Nms.shaped {ns : List (List Nat)} (h : ∀ s ∈ ns, Nm s) : SeqAt.shaped (.list (Th.pyL (nmsTh ns))) = true := by
  rw [shaped_parts, (nms_py h).1, (nms_py h).2]
  exact ⟨rfl, by decide⟩
theorem nms_tame : ∀ {ns : List (List Nat)}, (∀ s ∈ ns, Nm s) → Th.tameL (nmsTh ns) = true
  | [], _ => rfl
  | s :: ns, h => by
    show (tameS s && Th.tameL (nmsTh ns)) = true
    rw [(h s (List.mem_cons_self ..)).tame, nms_tame fun x hx => h x (List.mem_cons_of_mem _ hx)]
    rfl
theorem tame_tup {l : List Th} (h : Th.tameL l = true) (hl : l.length ≤ 1000000) (hn : namesTame l = true) : (Th.tup l).tame = true := by
  show (Th.tameL l && decide (l.length ≤ 1000000) && namesTame l) = true
  rw [h, hn, decide_eq_true hl]
  rfl
theorem namesTame3 {k : List Nat} (hk : k ≠ w_choose) (a b : Th) : namesTame [.str k, a, b] = true := by
  cases b with
  | tup m => show (!decide (k = w_choose) || _) = true; rw [decide_eq_false hk]; rfl
  | _ => rfl
theorem namesTame4 (a b c d : Th) (r : List Th) : namesTame (a :: b :: c :: d :: r) = true := by cases a <;> cases c <;> rfl
theorem namesTame2 (a b : Th) : namesTame [a, b] = true := by cases a <;> rfl
theorem namesTameC {k : List Nat} {m : List Th} (a : Th) (h1 : Th.flatL m = true) (h2 : SeqAt.shaped (.list (Th.pyL m)) = true) : namesTame [.str k, a, .tup m] = true := by
  show (!decide (k = w_choose) || (Th.flatL m && SeqAt.shaped (.list (Th.pyL m)))) = true
  rw [h1, h2]; simp
theorem kd_nochoose (k : Kd) : k.word ≠ w_choose := by cases k <;> decide
theorem nms_names_tame {ns : List (List Nat)} (h : Nms ns) : (Th.tup (nmsTh ns)).tame = true := by
  refine tame_tup (nms_tame h.2.2) ?_ ?_
  · unfold nmsTh; rw [List.length_map]; have := h.2.1; omega
  · match ns with
    | [] => rfl
    | [a] => rfl
    | [a, b] => rfl
    | [a, b, c] => rfl
    | a :: b :: c :: d :: r => rfl
theorem Rcp.tame : ∀ {r : Rcp}, r.Good → r.th.tame = true
  | .num n, _ => tame_tup (by show (tameS w_number && (true && true)) = true; decide) (Nat.le_of_ble_eq_true rfl) rfl
  | .read s, h => tame_tup (by show (tameS w_read && (tameS s && true)) = true; rw [Nm.tame h]; decide) (Nat.le_of_ble_eq_true rfl) rfl
  | .two k a b, h => by
    refine tame_tup ?_ (Nat.le_of_ble_eq_true rfl) (namesTame3 (kd_nochoose k) _ _)
    show (tameS k.word && (a.th.tame && (b.th.tame && true))) = true
    rw [Rcp.tame h.1, Rcp.tame h.2]
    cases k <;> decide
  | .pick a b c, h => by
    refine tame_tup ?_ (Nat.le_of_ble_eq_true rfl) (namesTame4 _ _ _ _ _)
    show (tameS w_pick && (a.th.tame && (b.th.tame && (c.th.tame && true)))) = true
    rw [Rcp.tame h.1, Rcp.tame h.2.1, Rcp.tame h.2.2]
    decide
  | .choose a ns, h => by
    refine tame_tup ?_ (Nat.le_of_ble_eq_true rfl) (namesTameC _ Nms.flat (Nms.shaped h.2.2.2))
    show (tameS w_choose && (a.th.tame && ((Th.tup (nmsTh ns)).tame && true))) = true
    rw [Rcp.tame h.1, nms_names_tame h.2]
    decide
theorem nms_are {ns : List (List Nat)} (h : Nms ns) : (Th.tup (nmsTh ns)).areNms = true := by
  show (decide (1 ≤ (nmsTh ns).length) && decide ((nmsTh ns).length ≤ 9) && (nmsTh ns).all Th.isNm) = true
  have hl : (nmsTh ns).length = ns.length := List.length_map _
  rw [hl, decide_eq_true h.1, decide_eq_true h.2.1]
  show (nmsTh ns).all Th.isNm = true
  rw [List.all_eq_true]
  intro t ht
  obtain ⟨s, hs, rfl⟩ := List.mem_map.mp ht
  exact nmOk_iff.mpr (h.2.2 s hs)
def Rcp.subs : Rcp → List Rcp
  | .num _ => []
  | .read _ => []
  | .two _ a b => [a, b]
  | .pick a b c => [a, b, c]
  | .choose a _ => [a]
theorem Rcp.parts_th : ∀ {r : Rcp}, r.Good → r.th.parts = some (r.subs.map Rcp.th)
  | .num n, _ => (num_parts _ rfl _).1 rfl
  | .read s, h => (read_parts _ (by decide) rfl _).1 (nmOk_iff.mpr h)
  | .two k a b, _ => twos_parts _ (kd_twos k) _ _
  | .pick a b c, _ => pick_parts _ rfl _ _ _
  | .choose a ns, h => (choose_parts _ rfl _ _).1 (nms_are h.2)
theorem Rcp.subs_good : ∀ {r : Rcp}, r.Good → ∀ x ∈ r.subs, x.Good ∧ x.dep + 1 ≤ r.dep
  | .num n, _, x, hx => by cases hx
  | .read s, h, x, hx => by cases hx
  | .two k a b, h, x, hx => by
    have e : (Rcp.two k a b).dep = max a.dep b.dep + 1 := rfl
    simp only [Rcp.subs, List.mem_cons, List.not_mem_nil, or_false] at hx
    rcases hx with rfl | rfl
    · exact ⟨h.1, by omega⟩
    · exact ⟨h.2, by omega⟩
  | .pick a b c, h, x, hx => by
    have e : (Rcp.pick a b c).dep = max a.dep (max b.dep c.dep) + 1 := rfl
    simp only [Rcp.subs, List.mem_cons, List.not_mem_nil, or_false] at hx
    rcases hx with rfl | rfl | rfl
    · exact ⟨h.1, by omega⟩
    · exact ⟨h.2.1, by omega⟩
    · exact ⟨h.2.2, by omega⟩
  | .choose a ns, h, x, hx => by
    have e : (Rcp.choose a ns).dep = a.dep + 1 := rfl
    rw [List.mem_singleton.mp hx]
    exact ⟨h.1, by omega⟩
theorem Rcp.siz_subs : ∀ r : Rcp, r.siz = 1 + (r.subs.map Rcp.siz).sum
  | .num _ => rfl
  | .read _ => rfl
  | .two _ a b => by show a.siz + b.siz + 1 = 1 + (a.siz + (b.siz + 0)); omega
  | .pick a b c => by show a.siz + b.siz + c.siz + 1 = 1 + (a.siz + (b.siz + (c.siz + 0))); omega
  | .choose a _ => by show a.siz + 1 = 1 + (a.siz + 0); omega
theorem Rcp.okay : ∀ (n : Nat) {r : Rcp}, r.Good → r.dep ≤ n → r.th.okay n = true ∧ r.th.count n = r.siz
  | 0, r, _, h => by have := dep_pos r; omega
  | n + 1, r, hg, h => by
    have hp := r.parts_th hg
    have hs := r.subs_good hg
    refine ⟨?_, ?_⟩
    · show (match r.th.parts with | none => false | some ps => ps.all (Th.okay n)) = true
      rw [hp]
      show (r.subs.map Rcp.th).all (Th.okay n) = true
      rw [List.all_map, List.all_eq_true]
      intro x hx
      exact (Rcp.okay n (hs x hx).1 (by have := (hs x hx).2; omega)).1
    · show (match r.th.parts with | none => 1 | some ps => 1 + (ps.map (Th.count n)).sum) = r.siz
      rw [hp, Rcp.siz_subs r]
      show 1 + ((r.subs.map Rcp.th).map (Th.count n)).sum = _
      rw [List.map_map]
      congr 2
      exact List.map_congr_left fun x hx => (Rcp.okay n (hs x hx).1 (by have := (hs x hx).2; omega)).2
theorem Rcp.isRcp {r : Rcp} (hg : r.Good) (hd : r.dep ≤ 8) (hs : r.siz ≤ 100) : r.th.isRcp = true := by
  unfold Th.isRcp
  rw [(Rcp.okay 8 hg hd).1, (Rcp.okay 8 hg hd).2, decide_eq_true hs]
  rfl
theorem Rcp.flat : ∀ r : Rcp, r.th.flat = true
  | .num _ => rfl
  | .read _ => rfl
  | .two _ a b => by
    show (true && (a.th.flat && (b.th.flat && true))) = true
    rw [Rcp.flat a, Rcp.flat b]; rfl
  | .pick a b c => by
    show (true && (a.th.flat && (b.th.flat && (c.th.flat && true)))) = true
    rw [Rcp.flat a, Rcp.flat b, Rcp.flat c]; rfl
  | .choose a ns => by
    show (true && (a.th.flat && (Th.flatL (nmsTh ns) && true))) = true
    rw [Rcp.flat a, Nms.flat]; rfl
theorem nm_lay {s : List Nat} (h : Nm s) : (PyData.str (SX.S s)).canLay0 = true := by
  have := (nms_py (ns := [s]) fun x hx => by rw [List.mem_singleton.mp hx]; exact h).1
  have z : ((PyData.str (SX.S s)).canLay0 && true) = true := this
  rw [Bool.and_true] at z
  exact z
theorem str_lay {s : List Nat} (h : ∀ c ∈ s, c < 128) : (PyData.str (SX.S s)).canLay0 = true := by
  show (SX.S s).cps.all (· < 0x110000) = true
  rw [← Array.all_toList, List.all_eq_true]
  intro c hc
  have := h c hc
  exact decide_eq_true (by omega)
theorem Rcp.lays : ∀ {r : Rcp}, r.Good → r.th.py.canLay0 = true ∧ r.th.py.depth ≤ r.dep
  | .num n, _ => ⟨by show ((PyData.str (SX.S w_number)).canLay0 && ((PyData.int n).canLay0 && true)) = true; rw [str_lay (by decide)]; rfl, by show max 0 (max 0 0) + 1 ≤ 1; decide⟩
  | .read s, h => ⟨by show ((PyData.str (SX.S w_read)).canLay0 && ((PyData.str (SX.S s)).canLay0 && true)) = true; rw [nm_lay h, str_lay (s := w_read) (by decide)]; rfl, by show max 0 (max 0 0) + 1 ≤ 1; decide⟩
  | .two k a b, h => by
    have h1 := Rcp.lays h.1
    have h2 := Rcp.lays h.2
    refine ⟨?_, ?_⟩
    · show ((PyData.str (SX.S k.word)).canLay0 && (a.th.py.canLay0 && (b.th.py.canLay0 && true))) = true
      rw [h1.1, h2.1, str_lay (s := k.word) (by cases k <;> decide)]
      rfl
    · show max 0 (max a.th.py.depth (max b.th.py.depth 0)) + 1 ≤ max a.dep b.dep + 1
      omega
  | .pick a b c, h => by
    have h1 := Rcp.lays h.1
    have h2 := Rcp.lays h.2.1
    have h3 := Rcp.lays h.2.2
    refine ⟨?_, ?_⟩
    · show ((PyData.str (SX.S w_pick)).canLay0 && (a.th.py.canLay0 && (b.th.py.canLay0 && (c.th.py.canLay0 && true)))) = true
      rw [h1.1, h2.1, h3.1, str_lay (s := w_pick) (by decide)]
      rfl
    · show max 0 (max a.th.py.depth (max b.th.py.depth (max c.th.py.depth 0))) + 1 ≤ max a.dep (max b.dep c.dep) + 1
      omega
  | .choose a ns, h => by
    have h1 := Rcp.lays h.1
    have h2 := nms_py h.2.2.2
    have h3 := dep_pos a
    refine ⟨?_, ?_⟩
    · show ((PyData.str (SX.S w_choose)).canLay0 && (a.th.py.canLay0 && (PyData.canLayAll0 (Th.pyL (nmsTh ns)) && true))) = true
      rw [h1.1, h2.1, str_lay (s := w_choose) (by decide)]
      rfl
    · show max 0 (max a.th.py.depth (max (PyData.depthAll (Th.pyL (nmsTh ns)) + 1) 0)) + 1 ≤ a.dep + 1
      rw [h2.2]
      omega
theorem Rcp.shaped {r : Rcp} (hg : r.Good) (hd : r.dep ≤ 60) : SeqAt.shaped r.th.py = true := by
  have h := Rcp.lays hg
  show (r.th.py.canLay0 && decide (r.th.py.depth ≤ 64)) = true
  rw [h.1, decide_eq_true (by omega)]
  rfl
theorem Rcp.eqv {r : Rcp} (hg : r.Good) : PyData.eqv r.th.py r.th.py = true := SeqAt.eqv_refl _ (Rcp.lays hg).1
/-! ### rows of pairs -/
/-- rows of a name and a number each -/
def Prs (H : Hp) : List (List Nat × Int) → List V → Prop
  | [], [] => True
  | p :: ps, v :: vs => (∃ t, v = .ref t ∧ H t = some (.tup [.str (SX.S p.1), .int p.2])) ∧ Prs H ps vs
  | _, _ => False
theorem Prs.same {H H' : Hp} (k : Same H H') : ∀ {ps : List (List Nat × Int)} {vs : List V}, Prs H ps vs → Prs H' ps vs
  | [], [], _ => trivial
  | _ :: _, _ :: _, ⟨⟨t, e, ht⟩, h⟩ => ⟨⟨t, e, k _ _ ht⟩, Prs.same k h⟩
  | [], _ :: _, h => h.elim
  | _ :: _, [], h => h.elim
theorem Prs.keep {H H' : Hp} (k : Keep H H') : ∀ {ps : List (List Nat × Int)} {vs : List V}, Prs H ps vs → Prs H' ps vs
  | [], [], _ => trivial
  | _ :: _, _ :: _, ⟨⟨t, e, ht⟩, h⟩ => ⟨⟨t, e, k _ _ ht⟩, Prs.keep k h⟩
  | [], _ :: _, h => h.elim
  | _ :: _, [], h => h.elim
theorem Prs.len {H : Hp} : ∀ {ps : List (List Nat × Int)} {vs : List V}, Prs H ps vs → vs.length = ps.length
  | [], [], _ => rfl
  | _ :: _, _ :: _, h => congrArg (· + 1) (Prs.len h.2)
  | [], _ :: _, h => h.elim
  | _ :: _, [], h => h.elim
theorem Prs.at {H : Hp} : ∀ {ps : List (List Nat × Int)} {vs : List V} {i : Nat} {v : V}, Prs H ps vs → vs[i]? = some v → ∃ p t, ps[i]? = some p ∧ v = .ref t ∧ H t = some (.tup [.str (SX.S p.1), .int p.2])
  | [], [], i, v, _, e => by simp at e
  | p :: _, _ :: _, 0, v, h, e => by
    obtain ⟨⟨t, e1, ht⟩, _⟩ := h
    exact ⟨p, t, rfl, (Option.some.inj e).symm.trans e1, ht⟩
  | _ :: _, _ :: _, i + 1, v, h, e => Prs.at (i := i) h.2 (by simpa using e)
  | [], _ :: _, _, _, h, _ => h.elim
  | _ :: _, [], _, _, h, _ => h.elim
theorem Prs.snoc {H : Hp} {p : List Nat × Int} {t : Addr} (ht : H t = some (.tup [.str (SX.S p.1), .int p.2])) : ∀ {ps : List (List Nat × Int)} {vs : List V}, Prs H ps vs → Prs H (ps ++ [p]) (vs ++ [.ref t])
  | [], [], _ => ⟨⟨t, rfl, ht⟩, trivial⟩
  | _ :: _, _ :: _, h => ⟨h.1, Prs.snoc ht h.2⟩
  | [], _ :: _, h => h.elim
  | _ :: _, [], h => h.elim
theorem Prs.drop {H : Hp} : ∀ (n : Nat) {ps : List (List Nat × Int)} {vs : List V}, Prs H ps vs → Prs H (ps.drop n) (vs.drop n)
  | 0, _, _, h => h
  | _ + 1, [], [], h => h
  | n + 1, _ :: _, _ :: _, h => Prs.drop n h.2
  | _ + 1, [], _ :: _, h => h.elim
  | _ + 1, _ :: _, [], h => h.elim
theorem Prs.take {H : Hp} : ∀ (n : Nat) {ps : List (List Nat × Int)} {vs : List V}, Prs H ps vs → Prs H (ps.take n) (vs.take n)
  | 0, _, _, _ => trivial
  | _ + 1, [], [], h => h
  | n + 1, _ :: _, _ :: _, h => ⟨h.1, Prs.take n h.2⟩
  | _ + 1, [], _ :: _, h => h.elim
  | _ + 1, _ :: _, [], h => h.elim
/-! ### a recipe gone through with the numbers read: plain facts -/
abbrev Pr := List Nat × Int
inductive Res where
  | ok (v : Int) (n : Nat)
  | lack (s : List Nat)
  | bad
inductive Out where
  | read (s : List Nat)
  | worth (v : Int)
  | none
def Kd.ap : Kd → Int → Int → Int
  | .plus, a, b => a + b
  | .minus, a, b => a - b
  | .times, a, b => a * b
  | .most, a, b => if b > a then b else a
def seen (l : List Pr) (s : List Nat) : Option Int := (l.find? fun p => decide (p.1 = s)).map (·.2)
def lookG (rd : List Pr) (n : Nat) (s : List Nat) : Res :=
  match seen (rd.take n) s with
  | some v => .ok v n
  | none => match rd[n]? with
    | none => .lack s
    | some p => if p.1 = s then .ok p.2 (n + 1) else .bad
def Res.bind (r : Res) (f : Int → Nat → Res) : Res := match r with
  | .ok v n => f v n
  | .lack s => .lack s
  | .bad => .bad
def nthN (ns : List (List Nat)) (x : Int) : List Nat := ns.getD (x % (ns.length : Int)).toNat []
def go (rd : List Pr) : Rcp → Nat → Res
  | .num v, n => .ok v n
  | .read s, n => lookG rd n s
  | .two k a b, n => (go rd a n).bind fun x m => (go rd b m).bind fun y l => .ok (k.ap x y) l
  | .pick a b c, n => (go rd a n).bind fun x m => if x > 0 then go rd b m else go rd c m
  | .choose a ns, n => (go rd a n).bind fun x m => lookG rd m (nthN ns x)
def outOf (rd : List Pr) (r : Rcp) : Out := match go rd r 0 with
  | .ok v n => if n < rd.length then .none else .worth v
  | .lack s => .read s
  | .bad => .none
/-- names fine, numbers below 2 ^ 400 -/
def Rcp.Nb : Rcp → Prop
  | .num v => v.natAbs < 2 ^ 400
  | .read s => Nm s
  | .two _ a b => a.Nb ∧ b.Nb
  | .pick a b c => a.Nb ∧ b.Nb ∧ c.Nb
  | .choose a ns => a.Nb ∧ Nms ns
theorem nth_mem {ns : List (List Nat)} (h : 1 ≤ ns.length) (x : Int) : ∃ i : Nat, x % (ns.length : Int) = (i : Int) ∧ ns[i]? = some (nthN ns x) := by
  have h0 : 0 ≤ x % (ns.length : Int) := Int.emod_nonneg _ (by omega)
  have h1 : x % (ns.length : Int) < ns.length := Int.emod_lt_of_pos _ (by omega)
  refine ⟨(x % (ns.length : Int)).toNat, by omega, ?_⟩
  have hi : (x % (ns.length : Int)).toNat < ns.length := by omega
  unfold nthN
  rw [List.getD_eq_getElem?_getD, List.getElem?_eq_getElem hi]
  rfl
theorem seen_mem {l : List Pr} {s : List Nat} {v : Int} (h : seen l s = some v) : (s, v) ∈ l := by
  unfold seen at h
  cases e : l.find? fun p => decide (p.1 = s) with
  | none => rw [e] at h; cases h
  | some p =>
    rw [e] at h
    have h1 := List.mem_of_find?_eq_some e
    have h2 : p.1 = s := by
      have := List.find?_some e
      exact of_decide_eq_true this
    have h3 : p.2 = v := Option.some.inj h
    rw [← h2, ← h3]
    exact h1
theorem seen_none {l : List Pr} {s : List Nat} (h : seen l s = none) : ¬ s ∈ l.map (·.1) := fun z => by
  obtain ⟨p, hp, e⟩ := List.mem_map.mp z
  unfold seen at h
  rw [Option.map_eq_none_iff, List.find?_eq_none] at h
  exact h p hp (decide_eq_true e)
theorem seen_not {l : List Pr} {s : List Nat} (h : ¬ s ∈ l.map (·.1)) : seen l s = none := by
  unfold seen
  rw [Option.map_eq_none_iff, List.find?_eq_none]
  exact fun p hp e => h (List.mem_map.mpr ⟨p, hp, of_decide_eq_true e⟩)
theorem seen_cons (p : Pr) (l : List Pr) (s : List Nat) : seen (p :: l) s = if p.1 = s then some p.2 else seen l s := by
  unfold seen
  rw [List.find?_cons]
  by_cases c : p.1 = s
  · rw [if_pos c, decide_eq_true c]
    rfl
  · rw [if_neg c, decide_eq_false c]
theorem lookG_seen {rd : List Pr} {n : Nat} {s : List Nat} {v : Int} (e : seen (rd.take n) s = some v) : lookG rd n s = .ok v n := by unfold lookG; rw [e]
theorem lookG_last {rd : List Pr} {n : Nat} {s : List Nat} (e : seen (rd.take n) s = none) (e2 : rd[n]? = none) : lookG rd n s = .lack s := by unfold lookG; rw [e, e2]
theorem lookG_right {rd : List Pr} {n : Nat} {s : List Nat} {p : Pr} (e : seen (rd.take n) s = none) (e2 : rd[n]? = some p) (c : p.1 = s) : lookG rd n s = .ok p.2 (n + 1) := by unfold lookG; rw [e, e2]; exact if_pos c
theorem lookG_bad {rd : List Pr} {n : Nat} {s : List Nat} {p : Pr} (e : seen (rd.take n) s = none) (e2 : rd[n]? = some p) (c : ¬ p.1 = s) : lookG rd n s = .bad := by unfold lookG; rw [e, e2]; exact if_neg c
/-! #### the walk goes ahead, and no number grows too great -/
theorem lookG_ok {rd : List Pr} {n m : Nat} {s : List Nat} {v : Int} (hn : n ≤ rd.length) (h : lookG rd n s = .ok v m) : n ≤ m ∧ m ≤ rd.length ∧ (s, v) ∈ rd := by
  unfold lookG at h
  cases e : seen (rd.take n) s with
  | some w =>
    rw [e] at h
    cases h
    exact ⟨Nat.le_refl _, hn, List.mem_of_mem_take (seen_mem e)⟩
  | none =>
    rw [e] at h
    cases e2 : rd[n]? with
    | none => rw [e2] at h; cases h
    | some p =>
      rw [e2] at h
      by_cases c : p.1 = s
      · have h' : Res.ok p.2 (n + 1) = .ok v m := by have := h; simp only [if_pos c] at this; exact this
        cases h'
        have := (List.getElem?_eq_some_iff.mp e2).1
        exact ⟨Nat.le_succ _, this, by rw [← c]; exact List.mem_of_getElem? e2⟩
      · simp only [if_neg c] at h
        cases h
theorem bind_ok {r : Res} {f : Int → Nat → Res} {v : Int} {m : Nat} (h : r.bind f = .ok v m) : ∃ x l, r = .ok x l ∧ f x l = .ok v m := by
  cases r with
  | ok x l => exact ⟨x, l, rfl, h⟩
  | lack s => cases h
  | bad => cases h
theorem ap_small {k : Kd} {x y : Int} {e : Nat} (h1 : 1 ≤ e) (hx : x.natAbs < 2 ^ e) (hy : y.natAbs < 2 ^ e) : (k.ap x y).natAbs < 2 ^ (e + e) := by
  have hs : 2 ^ e + 2 ^ e ≤ 2 ^ (e + e) := by
    have h2 : 2 ^ e * 2 ≤ 2 ^ e * 2 ^ e := Nat.mul_le_mul_left _ (by
      have := Nat.pow_le_pow_right (show 0 < 2 by decide) h1
      simpa using this)
    rw [Nat.pow_add]
    omega
  cases k with
  | plus => show (x + y).natAbs < _; omega
  | minus => show (x - y).natAbs < _; omega
  | times =>
    show (x * y).natAbs < _
    rw [Int.natAbs_mul, Nat.pow_add]
    exact Nat.mul_lt_mul'' hx hy
  | most =>
    show (if y > x then y else x).natAbs < _
    split <;> omega
theorem go_ok {rd : List Pr} (hrd : ∀ p ∈ rd, p.2.natAbs < 2 ^ 400) : ∀ {r : Rcp} {n m : Nat} {v : Int}, r.Nb → n ≤ rd.length → go rd r n = .ok v m → n ≤ m ∧ m ≤ rd.length ∧ v.natAbs < 2 ^ (400 * 2 ^ r.dep)
  | .num w, n, m, v, hb, hn, h => by
    cases h
    exact ⟨Nat.le_refl _, hn, Nat.lt_of_lt_of_le hb (Nat.pow_le_pow_right (by decide) (by show 400 ≤ 400 * 2 ^ 1; decide))⟩
  | .read s, n, m, v, hb, hn, h => by
    obtain ⟨h1, h2, h3⟩ := lookG_ok hn h
    exact ⟨h1, h2, Nat.lt_of_lt_of_le (hrd _ h3) (Nat.pow_le_pow_right (by decide) (by show 400 ≤ 400 * 2 ^ 1; decide))⟩
  | .two k a b, n, m, v, hb, hn, h => by
    obtain ⟨x, l, ha, h2⟩ := bind_ok h
    obtain ⟨y, l2, hbb, h3⟩ := bind_ok h2
    cases h3
    obtain ⟨a1, a2, a3⟩ := go_ok hrd hb.1 hn ha
    obtain ⟨b1, b2, b3⟩ := go_ok hrd hb.2 a2 hbb
    have hx : x.natAbs < 2 ^ (400 * 2 ^ max a.dep b.dep) := Nat.lt_of_lt_of_le a3 (Nat.pow_le_pow_right (by decide) (Nat.mul_le_mul_left _ (Nat.pow_le_pow_right (by decide) (Nat.le_max_left ..))))
    have hy : y.natAbs < 2 ^ (400 * 2 ^ max a.dep b.dep) := Nat.lt_of_lt_of_le b3 (Nat.pow_le_pow_right (by decide) (Nat.mul_le_mul_left _ (Nat.pow_le_pow_right (by decide) (Nat.le_max_right ..))))
    have hp : 1 ≤ 2 ^ max a.dep b.dep := Nat.one_le_two_pow
    have := ap_small (k := k) (by omega) hx hy
    refine ⟨Nat.le_trans a1 b1, b2, ?_⟩
    show _ < 2 ^ (400 * 2 ^ (max a.dep b.dep + 1))
    rw [show 400 * 2 ^ (max a.dep b.dep + 1) = 400 * 2 ^ max a.dep b.dep + 400 * 2 ^ max a.dep b.dep by rw [Nat.pow_succ]; omega]
    exact this
  | .pick a b c, n, m, v, hb, hn, h => by
    obtain ⟨x, l, ha, h2⟩ := bind_ok h
    obtain ⟨a1, a2, a3⟩ := go_ok hrd hb.1 hn ha
    have mono : ∀ d, d ≤ (Rcp.pick a b c).dep → ∀ z : Int, z.natAbs < 2 ^ (400 * 2 ^ d) → z.natAbs < 2 ^ (400 * 2 ^ (Rcp.pick a b c).dep) := fun d hd z hz => Nat.lt_of_lt_of_le hz (Nat.pow_le_pow_right (by decide) (Nat.mul_le_mul_left _ (Nat.pow_le_pow_right (by decide) hd)))
    have e : (Rcp.pick a b c).dep = max a.dep (max b.dep c.dep) + 1 := rfl
    by_cases hx : x > 0
    · simp only [if_pos hx] at h2
      obtain ⟨b1, b2, b3⟩ := go_ok hrd hb.2.1 a2 h2
      exact ⟨Nat.le_trans a1 b1, b2, mono b.dep (by omega) _ b3⟩
    · simp only [if_neg hx] at h2
      obtain ⟨b1, b2, b3⟩ := go_ok hrd hb.2.2 a2 h2
      exact ⟨Nat.le_trans a1 b1, b2, mono c.dep (by omega) _ b3⟩
  | .choose a ns, n, m, v, hb, hn, h => by
    obtain ⟨x, l, ha, h2⟩ := bind_ok h
    obtain ⟨a1, a2, a3⟩ := go_ok hrd hb.1 hn ha
    obtain ⟨h4, h5, h6⟩ := lookG_ok a2 h2
    have hp : 1 ≤ 2 ^ (Rcp.choose a ns).dep := Nat.one_le_two_pow
    exact ⟨Nat.le_trans a1 h4, h5, Nat.lt_of_lt_of_le (hrd _ h6) (Nat.pow_le_pow_right (by decide) (by omega))⟩
/-! #### one more read behind the reads that were all looked for -/
theorem lookG_lack {rd : List Pr} {n : Nat} {s t : List Nat} (hn : n ≤ rd.length) (h : lookG rd n s = .lack t) : n = rd.length ∧ s = t ∧ seen rd s = none := by
  unfold lookG at h
  cases e : seen (rd.take n) s with
  | some w => rw [e] at h; cases h
  | none =>
    rw [e] at h
    cases e2 : rd[n]? with
    | none =>
      rw [e2] at h
      cases h
      have hl := List.getElem?_eq_none_iff.mp e2
      have : n = rd.length := by omega
      rw [this, List.take_length] at e
      exact ⟨this, rfl, e⟩
    | some p =>
      rw [e2] at h
      by_cases c : p.1 = s
      · simp only [if_pos c] at h; cases h
      · simp only [if_neg c] at h; cases h
theorem lookG_more {rd : List Pr} {n m : Nat} {s : List Nat} {v : Int} (q : Pr) (hn : n ≤ rd.length) (h : lookG rd n s = .ok v m) : lookG (rd ++ [q]) n s = .ok v m := by
  unfold lookG at h ⊢
  rw [List.take_append_of_le_length hn]
  cases e : seen (rd.take n) s with
  | some w => rw [e] at h; exact h
  | none =>
    rw [e] at h
    cases e2 : rd[n]? with
    | none => rw [e2] at h; cases h
    | some p =>
      rw [e2] at h
      have hl := (List.getElem?_eq_some_iff.mp e2).1
      rw [List.getElem?_append_left hl, e2]
      exact h
/-- with all reads gone, nothing is bad -/
theorem lookG_end {rd : List Pr} {s : List Nat} : (∃ v, lookG rd rd.length s = .ok v rd.length) ∨ lookG rd rd.length s = .lack s := by
  unfold lookG
  rw [List.take_length]
  cases e : seen rd s with
  | some w => exact .inl ⟨w, rfl⟩
  | none =>
    rw [List.getElem?_eq_none (Nat.le_refl _)]
    exact .inr rfl
theorem go_end {rd : List Pr} : ∀ {r : Rcp}, (∃ v, go rd r rd.length = .ok v rd.length) ∨ ∃ s, go rd r rd.length = .lack s
  | .num v => .inl ⟨v, rfl⟩
  | .read s => lookG_end.elim .inl fun h => .inr ⟨s, h⟩
  | .two k a b => by
    rcases go_end (rd := rd) (r := a) with ⟨x, hx⟩ | ⟨s, hs⟩
    · rcases go_end (rd := rd) (r := b) with ⟨y, hy⟩ | ⟨s, hs⟩
      · exact .inl ⟨k.ap x y, by unfold go; rw [hx]; show (go rd b rd.length).bind _ = _; rw [hy]; rfl⟩
      · exact .inr ⟨s, by unfold go; rw [hx]; show (go rd b rd.length).bind _ = _; rw [hs]; rfl⟩
    · exact .inr ⟨s, by unfold go; rw [hs]; rfl⟩
  | .pick a b c => by
    rcases go_end (rd := rd) (r := a) with ⟨x, hx⟩ | ⟨s, hs⟩
    · by_cases c0 : x > 0
      · rcases go_end (rd := rd) (r := b) with ⟨y, hy⟩ | ⟨s, hs⟩
        · exact .inl ⟨y, by unfold go; rw [hx]; show (if x > 0 then _ else _) = _; rw [if_pos c0, hy]⟩
        · exact .inr ⟨s, by unfold go; rw [hx]; show (if x > 0 then _ else _) = _; rw [if_pos c0, hs]⟩
      · rcases go_end (rd := rd) (r := c) with ⟨y, hy⟩ | ⟨s, hs⟩
        · exact .inl ⟨y, by unfold go; rw [hx]; show (if x > 0 then _ else _) = _; rw [if_neg c0, hy]⟩
        · exact .inr ⟨s, by unfold go; rw [hx]; show (if x > 0 then _ else _) = _; rw [if_neg c0, hs]⟩
    · exact .inr ⟨s, by unfold go; rw [hs]; rfl⟩
  | .choose a ns => by
    rcases go_end (rd := rd) (r := a) with ⟨x, hx⟩ | ⟨s, hs⟩
    · rcases lookG_end (rd := rd) (s := nthN ns x) with ⟨v, hv⟩ | hl
      · exact .inl ⟨v, by unfold go; rw [hx]; exact hv⟩
      · exact .inr ⟨_, by unfold go; rw [hx]; exact hl⟩
    · exact .inr ⟨s, by unfold go; rw [hs]; rfl⟩
theorem go_more {rd : List Pr} (q : Pr) : ∀ {r : Rcp} {n m : Nat} {v : Int}, n ≤ rd.length → go rd r n = .ok v m → go (rd ++ [q]) r n = .ok v m ∧ m ≤ rd.length
  | .num w, n, m, v, hn, h => by cases h; exact ⟨rfl, hn⟩
  | .read s, n, m, v, hn, h => ⟨lookG_more q hn h, (lookG_ok hn h).2.1⟩
  | .two k a b, n, m, v, hn, h => by
    obtain ⟨x, l, ha, h2⟩ := bind_ok h
    obtain ⟨y, l2, hb, h3⟩ := bind_ok h2
    cases h3
    obtain ⟨a1, a2⟩ := go_more q hn ha
    obtain ⟨b1, b2⟩ := go_more q a2 hb
    refine ⟨?_, b2⟩
    unfold go
    rw [a1]
    show (go (rd ++ [q]) b l).bind _ = _
    rw [b1]
    rfl
  | .pick a b c, n, m, v, hn, h => by
    obtain ⟨x, l, ha, h2⟩ := bind_ok h
    obtain ⟨a1, a2⟩ := go_more q hn ha
    unfold go
    rw [a1]
    show (if x > 0 then _ else _) = _ ∧ _
    by_cases c0 : x > 0
    · simp only [if_pos c0] at h2
      rw [if_pos c0]
      exact go_more q a2 h2
    · simp only [if_neg c0] at h2
      rw [if_neg c0]
      exact go_more q a2 h2
  | .choose a ns, n, m, v, hn, h => by
    obtain ⟨x, l, ha, h2⟩ := bind_ok h
    obtain ⟨a1, a2⟩ := go_more q hn ha
    unfold go
    rw [a1]
    exact ⟨lookG_more q a2 h2, (lookG_ok a2 h2).2.1⟩
theorem bind_lack {r : Res} {f : Int → Nat → Res} {s : List Nat} (h : r.bind f = .lack s) : r = .lack s ∨ ∃ x l, r = .ok x l ∧ f x l = .lack s := by
  cases r with
  | ok x l => exact .inr ⟨x, l, rfl, h⟩
  | lack s' => exact .inl h
  | bad => cases h
/-- where s lacked: with s read it comes to the end of the reads, or lacks another one -/
def Fine (rd : List Pr) (r : Res) : Prop := (∃ v, r = .ok v rd.length) ∨ ∃ s, r = .lack s
theorem look_next {rd : List Pr} {n : Nat} {s t : List Nat} (w : Int) (hn : n ≤ rd.length) (h : lookG rd n t = .lack s) : lookG (rd ++ [(s, w)]) n t = .ok w (rd ++ [(s, w)]).length := by
  obtain ⟨rfl, rfl, e⟩ := lookG_lack hn h
  unfold lookG
  rw [List.take_append_of_le_length (Nat.le_refl _), List.take_length, e, List.getElem?_append_right (Nat.le_refl _), Nat.sub_self]
  show (if t = t then Res.ok w (rd.length + 1) else .bad) = _
  rw [if_pos rfl, List.length_append]
  rfl
theorem go_next {rd : List Pr} {s : List Nat} (w : Int) : ∀ {r : Rcp} {n : Nat}, n ≤ rd.length → go rd r n = .lack s → Fine (rd ++ [(s, w)]) (go (rd ++ [(s, w)]) r n)
  | .num v, n, hn, h => by cases h
  | .read t, n, hn, h => .inl ⟨w, look_next w hn h⟩
  | .two k a b, n, hn, h => by
    rcases bind_lack h with ha | ⟨x, l, ha, h2⟩
    · rcases go_next w hn ha with ⟨v, hv⟩ | ⟨t, ht⟩
      · unfold go
        rw [hv]
        show Fine _ ((go (rd ++ [(s, w)]) b (rd ++ [(s, w)]).length).bind _)
        rcases go_end (rd := rd ++ [(s, w)]) (r := b) with ⟨y, hy⟩ | ⟨t, ht⟩
        · rw [hy]; exact .inl ⟨_, rfl⟩
        · rw [ht]; exact .inr ⟨_, rfl⟩
      · unfold go
        rw [ht]
        exact .inr ⟨_, rfl⟩
    · obtain ⟨a1, a2⟩ := go_more (s, w) hn ha
      unfold go
      rw [a1]
      show Fine _ ((go (rd ++ [(s, w)]) b l).bind _)
      rcases bind_lack h2 with hb | ⟨y, l2, hb, h3⟩
      · rcases go_next w a2 hb with ⟨v, hv⟩ | ⟨t, ht⟩
        · rw [hv]; exact .inl ⟨_, rfl⟩
        · rw [ht]; exact .inr ⟨_, rfl⟩
      · cases h3
  | .pick a b c, n, hn, h => by
    rcases bind_lack h with ha | ⟨x, l, ha, h2⟩
    · rcases go_next w hn ha with ⟨v, hv⟩ | ⟨t, ht⟩
      · unfold go
        rw [hv]
        show Fine _ (if v > 0 then go _ b _ else go _ c _)
        split
        · exact go_end
        · exact go_end
      · unfold go
        rw [ht]
        exact .inr ⟨_, rfl⟩
    · obtain ⟨a1, a2⟩ := go_more (s, w) hn ha
      unfold go
      rw [a1]
      show Fine _ (if x > 0 then go _ b _ else go _ c _)
      by_cases c0 : x > 0
      · simp only [if_pos c0] at h2
        rw [if_pos c0]
        exact go_next w a2 h2
      · simp only [if_neg c0] at h2
        rw [if_neg c0]
        exact go_next w a2 h2
  | .choose a ns, n, hn, h => by
    rcases bind_lack h with ha | ⟨x, l, ha, h2⟩
    · rcases go_next w hn ha with ⟨v, hv⟩ | ⟨t, ht⟩
      · unfold go
        rw [hv]
        exact lookG_end.elim .inl fun h => .inr ⟨_, h⟩
      · unfold go
        rw [ht]
        exact .inr ⟨_, rfl⟩
    · obtain ⟨a1, a2⟩ := go_more (s, w) hn ha
      unfold go
      rw [a1]
      exact .inl ⟨w, look_next w a2 h2⟩
/-- the names that a recipe may look for -/
def Rcp.nms : Rcp → List (List Nat)
  | .num _ => []
  | .read s => [s]
  | .two _ a b => a.nms ++ b.nms
  | .pick a b c => a.nms ++ (b.nms ++ c.nms)
  | .choose a ns => a.nms ++ ns
theorem go_name {rd : List Pr} {s : List Nat} : ∀ {r : Rcp} {n : Nat}, r.Nb → n ≤ rd.length → go rd r n = .lack s → s ∈ r.nms ∧ seen rd s = none
  | .num v, n, hb, hn, h => by cases h
  | .read t, n, hb, hn, h => by
    obtain ⟨_, e, e2⟩ := lookG_lack hn h
    exact ⟨by rw [← e]; exact List.mem_singleton.mpr rfl, by rw [← e]; exact e2⟩
  | .two k a b, n, hb, hn, h => by
    rcases bind_lack h with ha | ⟨x, l, ha, h2⟩
    · obtain ⟨h1, h2⟩ := go_name hb.1 hn ha
      exact ⟨List.mem_append_left _ h1, h2⟩
    · rcases bind_lack h2 with hbb | ⟨y, l2, hbb, h3⟩
      · obtain ⟨h1, h2⟩ := go_name hb.2 (go_more (s, 0) hn ha).2 hbb
        exact ⟨List.mem_append_right _ h1, h2⟩
      · cases h3
  | .pick a b c, n, hb, hn, h => by
    rcases bind_lack h with ha | ⟨x, l, ha, h2⟩
    · obtain ⟨h1, h2⟩ := go_name hb.1 hn ha
      exact ⟨List.mem_append_left _ h1, h2⟩
    · have hl := (go_more (s, 0) hn ha).2
      by_cases c0 : x > 0
      · simp only [if_pos c0] at h2
        obtain ⟨h1, h2⟩ := go_name hb.2.1 hl h2
        exact ⟨List.mem_append_right _ (List.mem_append_left _ h1), h2⟩
      · simp only [if_neg c0] at h2
        obtain ⟨h1, h2⟩ := go_name hb.2.2 hl h2
        exact ⟨List.mem_append_right _ (List.mem_append_right _ h1), h2⟩
  | .choose a ns, n, hb, hn, h => by
    rcases bind_lack h with ha | ⟨x, l, ha, h2⟩
    · obtain ⟨h1, h2⟩ := go_name hb.1 hn ha
      exact ⟨List.mem_append_left _ h1, h2⟩
    · obtain ⟨_, e, e2⟩ := lookG_lack (go_more (s, 0) hn ha).2 h2
      obtain ⟨i, _, hi⟩ := nth_mem hb.2.1 x
      exact ⟨List.mem_append_right _ (by rw [← e]; exact List.mem_of_getElem? hi), by rw [← e]; exact e2⟩
theorem nms_ok : ∀ {r : Rcp}, r.Nb → ∀ s ∈ r.nms, Nm s
  | .num _, _, s, h => nomatch h
  | .read t, hb, s, h => by rw [List.mem_singleton.mp h]; exact hb
  | .two _ a b, hb, s, h => (List.mem_append.mp h).elim (nms_ok hb.1 s) (nms_ok hb.2 s)
  | .pick a b c, hb, s, h => (List.mem_append.mp h).elim (nms_ok hb.1 s) fun h => (List.mem_append.mp h).elim (nms_ok hb.2.1 s) (nms_ok hb.2.2 s)
  | .choose a ns, hb, s, h => (List.mem_append.mp h).elim (nms_ok hb.1 s) (hb.2.2.2 s)
/-! ### rows of pairs as data -/
def pairTh (p : List Nat × Int) : Th := .tup [.str p.1, .int p.2]
theorem Prs.data {H : Hp} : ∀ {ps : List (List Nat × Int)} {vs : List V}, Prs H ps vs → DataL H (ps.map pairTh) vs
  | [], [], _ => rfl
  | _ :: _, _ :: _, ⟨⟨t, e, ht⟩, h⟩ => ⟨_, _, rfl, ⟨t, _, e, ht, _, _, rfl, rfl, _, _, rfl, rfl, rfl⟩, Prs.data h⟩
  | [], _ :: _, h => h.elim
  | _ :: _, [], h => h.elim
theorem prs_flat : ∀ ps : List (List Nat × Int), Th.flatL (ps.map pairTh) = true
  | [] => rfl
  | p :: ps => by
    show ((pairTh p).flat && Th.flatL (ps.map pairTh)) = true
    rw [prs_flat ps]
    rfl
theorem prs_lay : ∀ {ps : List (List Nat × Int)}, (∀ p ∈ ps, Nm p.1) → PyData.canLayAll0 (Th.pyL (ps.map pairTh)) = true ∧ PyData.depthAll (Th.pyL (ps.map pairTh)) ≤ 1
  | [], _ => ⟨rfl, Nat.zero_le _⟩
  | p :: ps, h => by
    obtain ⟨h1, h2⟩ := prs_lay fun q hq => h q (List.mem_cons_of_mem _ hq)
    have h3 := nm_lay (h p (List.mem_cons_self ..))
    refine ⟨?_, ?_⟩
    · show (((PyData.str (SX.S p.1)).canLay0 && ((PyData.int p.2).canLay0 && true)) && PyData.canLayAll0 (Th.pyL (ps.map pairTh))) = true
      rw [h1, h3]
      rfl
    · show max (max 0 (max 0 0) + 1) (PyData.depthAll (Th.pyL (ps.map pairTh))) ≤ 1
      omega
theorem prs_shaped {ps : List (List Nat × Int)} (h : ∀ p ∈ ps, Nm p.1) : SeqAt.shaped (.list (Th.pyL (ps.map pairTh))) = true := by
  obtain ⟨h1, h2⟩ := prs_lay h
  show (PyData.canLayAll0 (Th.pyL (ps.map pairTh)) && decide (PyData.depthAll (Th.pyL (ps.map pairTh)) + 1 ≤ 64)) = true
  rw [h1, decide_eq_true (by omega)]
  rfl
/-- names and numbers as a dict holds them -/
def kT (s : Str) : Key := Sum.inr s
def numsK (ps : List (List Nat × Int)) : List (Key × V) := ps.map fun p => (kT (SX.S p.1), .int p.2)
theorem kS_inj {a b : List Nat} (h : kT (SX.S a) = kT (SX.S b)) : a = b := by
  have e2 : SX.S a = SX.S b := Sum.inr.inj h
  exact beq_iff_eq.mp (by rw [← SX.S_beq]; exact beq_iff_eq.mpr e2)
theorem sne {a b : Str} (h : decide (a = b) = false) : ¬ V.str a = V.str b := fun z => (of_decide_eq_false h) (V.str.inj z)
theorem strS_inj {a b : List Nat} (h : V.str (SX.S a) = V.str (SX.S b)) : a = b := beq_iff_eq.mp (by rw [← SX.S_beq]; exact beq_iff_eq.mpr (V.str.inj h))
end Mad
/-! ### try .. except X as n, where the caught error is tracked behind the suite -/
namespace L2
open PySem PySem.Spec PyProof.Rows
def EzO (cls : Value) (d : Option Addr) (a : Addr) : HO := .ext fun h =>
  ∃ (oe : Obj) (vs : Array Value), h.get? a = some oe ∧ Zc cls d oe ∧
    oe.data = .fields vs
theorem ezO_ok {P : Program} {w : World} {H : Hp} {h : Heap} {a : Addr} {cls : Value} {d : Option Addr} {oe : Obj} {vs : Array Value}
    (e : h.get? a = some oe) (z : Zc cls d oe) (k : oe.data = .fields vs) : ObjOk P w H h a (EzO cls d a) :=
  ⟨⟨oe, vs, e, z, k⟩, ⟨oe, e⟩, fun _ _ y r => by
    obtain ⟨o, v, q, t⟩ := y
    exact ⟨o, v, r o q, t⟩⟩
section
variable {X : Cx} {pins : List (Addr × Obj)} {σ : St} {H : Hp} {B : Heap} {sI s' : Shared}
theorem Inv.landedT {a : Addr} {o : HO} (I : Inv X pins σ H sI) (nb : ∀ b u, sI.heap.get? b = some u → b ∉ frs X.stack → B.get? b = some u)
    (st : B.StaysIn s'.heap) (up : sI.heap.UpToSlots s'.heap) (os : s'.os = sI.os) (ag : AllBare s'.gens)
    (n0 : sI.heap.get? a = none) (na : H a = none) (new : ObjOk X.prog X.w (upd H a o) s'.heap a o) : Inv X pins σ (upd H a o) s' := by
  have nf : ∀ b ∈ frs X.stack, ∀ u, sI.heap.get? b = some u → ∃ sl, s'.heap.get? b = some { u with slots := sl } := by
    intro b hb u e
    obtain ⟨_, u', e', hd⟩ := I.stack.mem hb
    rw [e] at e'
    cases e'
    exact up b u e hd
  have U : Un (frs X.stack) [] H (upd H a o) sI.heap s'.heap := by
    refine ⟨fun b u e _ hb _ => st b u (nb b u e hb), fun b u e _ hb _ => nf b hb u e, fun b u e n _ => ?_, fun b u e _ => ?_, fun b xs q => ?_, fun b u xs q => ?_, fun b ps q => ?_⟩
    · have z : b ≠ a := fun z => by rw [z, n0] at e; cases e
      rw [upd_ne z]
      exact n
    · by_cases hb : b ∈ frs X.stack
      · obtain ⟨sl, q⟩ := nf b hb u e
        exact ⟨_, q⟩
      · exact ⟨u, st b u (nb b u e hb)⟩
    · rw [upd_ne (ne_of_none q na)]
      exact q
    · rw [upd_ne (ne_of_none q na)]
      exact q
    · exact ⟨#[], by rw [upd_ne (ne_of_none q na), q]; simp⟩
  have J := I.call (ch := []) (h' := s'.heap) (g' := s'.gens) (t' := s'.toks) (d' := s'.drawn) U
    (HOk.laidN ((I.inGround nb).kept st) (fun _ _ h => h) na new) ag (fun _ z => nomatch z)
  obtain ⟨a1, a2, a3, a4, a5⟩ := s'
  have e5 : a5 = sI.os := os
  subst e5
  exact J
theorem Inv.suiteN {s : Shared} (I : Inv X pins σ H s) (a : Addr) : Inv (X.suite a (X.pn ++ pins)) [] σ H s :=
  ⟨I.ok.suite _ _, I.os, I.bare, I.base, I.loc,
    I.cell, I.free, I.freeC,
    fun p hp => I.pin p (by rw [List.append_nil] at hp; exact hp), I.hok, I.len⟩
theorem Inv.unsuiteN {s : Shared} {a : Addr} (I : Inv (X.suite a (X.pn ++ pins)) [] σ H s) (ok : X.Ok) : Inv X pins σ H s :=
  ⟨ok, I.os, I.bare, I.base, I.loc,
    I.cell, I.free, I.freeC,
    fun p hp => I.pin p (List.mem_append_left _ hp), I.hok, I.len⟩
end
/-- what the clause wishes of an error of the body: slot i is n's; the error is tracked from here on -/
def wKeep (K : PySem.W.Frag) (c : Value) (i : Nat) (ts : Addr → Value → Option Addr → TS) (Wout : WX) (D : Ends) : WX := fun cls d σ H =>
  ∃ b, PySem.W.exmOne K cls c = some b ∧
    (b = true → ∀ a, H a = none → ts a cls d
      { nx := fun σ2 H2 => D.nx (σ2.set i none) H2, rt := D.rt, bk := fun σ2 H2 => D.bk (σ2.set i none) H2, ct := fun σ2 H2 => D.ct (σ2.set i none) H2 }
      (σ.set i (some (.ref a))) (upd H a (EzO cls d a))) ∧
    (b = false → Wout cls d σ H)
section
variable {X : Cx} {x n : Str} {c : Value} {i : Nat} {body suite : List Stmt} {b₀ : Stmt} {np pos pos' : Pos} {tb : WX → TS} {ts : Addr → Value → Option Addr → TS} {Wout : WX}
theorem ps_try_keep (hs : X.stack = X.env :: X.outer) (hf : X.env.frame = some X.env.locals) (hN : X.N.Nodup)
    (hi : X.N[i]? = some n) (hln : X.env.kindOf n = some .local) (hc : Names X x c) (tk : Takes X Wout)
    (hb : ∀ (W : WX) (pn : List (Addr × Obj)) (xe : Value → Shared → Prop), Takes (X.tr pn xe) W →
      PassesOwn (model X.prog X.w) X.A X.env xe → PSs (X.tr pn xe) body (tb W))
    (hsu : ∀ (a : Addr) (cls : Value) (d : Option Addr) (pn : List (Addr × Obj)),
      PSs (X.suite a pn) (b₀ :: suite) (ts a cls d)) :
    PS X (.Try body [.ExceptHandler (some (.Name x np)) (some n) (b₀ :: suite) pos'] [] [] pos)
      (fun D σ H => tb (wKeep X.K c i ts Wout D) D σ H) := by
  refine ⟨fun pins s σ H D I h => ?_⟩
  have okX := I.ok
  have hfr : X.A.frames = some (X.env :: X.outer) := by
    rw [okX.frames, hs]
  have hlc : Loc X.env.scope n := .inl hln
  refine wpAny_Try_except ?_
  refine wpAny_mono
    ((hb (wKeep X.K c i ts Wout D) (X.pn ++ pins)
      (fun e t1 => wpAny (model X.prog X.w) X.A (noteFrame e X.env)
        (fun _ t2 => wpAny (model X.prog X.w) X.A (setFlight e none)
          (fun _ t3 => wpAny (model X.prog X.w) X.A (handleBy e X.env [.ExceptHandler (some (.Name x np)) (some n) (b₀ :: suite) pos']) (SP X pins D) X.xe t3)
          X.xe t2)
        X.xe t1)
      (fun u t xx => ?_) PassesOwn.looking).run [] s σ H D (I.toTry _) h)
    (fun f s1 hsp => ?_) (fun e s1 he => he)
  · obtain ⟨a, B, sI, pn2, σ2, H2, cls, d, rfl, J0, nb, up, sky, na, os, ag, b, hb1, hyes, hno⟩ := xx
    have J : Inv X pins σ2 H2 sI := J0.ofTry okX
    have sky2 : Sky B (X.env :: X.outer) a (Zc cls d) X.env.locals t.heap := by
      rw [← hs]
      exact sky
    show wpAny (model X.prog X.w) X.A (noteFrame (.ref a) X.env) _ _ _
    refine Sky.land Zc.steady hfr hf sky2 fun h3 fl3 up3 => ?_
    have J3 : Inv X pins σ2 H2 { t with heap := h3 } :=
      J.landed nb fl3.1 (up.trans up3) os ag
    obtain ⟨oe3, vs3, he3, hz3, hd3⟩ := fl3.there
    have nfr : a ∉ frs (X.env :: X.outer) := fun hm => by
      obtain ⟨_, o', e', hnf⟩ := fl3.2.2.1.mem hm
      rw [he3] at e'
      cases e'
      exact hnf _ hd3
    have n0 : sI.heap.get? a = none := by
      cases q : sI.heap.get? a with
      | none => rfl
      | some u =>
        have z := nb a u q (by rw [hs]; exact nfr)
        rw [fl3.2.1] at z
        cases z
    have S3 := J3.suiteN a
    refine wpAny_handleBy_cons (codeAny_handlers_test ?_) (by intro q; cases q)
    have LT : PySem.W.Looks (model X.prog X.w) h3 (typeOf (.ref a)) cls := fun A Q E s k q =>
      wpAny_typeOf_ref (k _ _ he3) (by rw [hz3.1]; exact q)
    have LM := PySem.W.exm_one (M := model X.prog X.w) (J3.kIn) LT hb1
    have test : ∀ {Q : Value → Shared → Prop} {E : Value → Shared → Prop}, Q c { t with heap := h3 } →
        wpAny (model X.prog X.w) (X.A.mark (some (.ref a))) (eval (.Name x np) X.env) Q E { t with heap := h3 } := by
      intro Q E q
      obtain ⟨hg, hdbg, hm | ⟨hm, hv, hnn⟩⟩ := hc
      · exact ld_glob (X := X.suite a (X.pn ++ pins)) S3 hg hm q hdbg
      · exact ld_blt (X := X.suite a (X.pn ++ pins)) S3 hg hm hv q hnn hdbg
    refine test (LM.here ?_)
    cases b with
    | true =>
      refine codeAny_handlers_suite_as ?_
      refine HandSPX.lands_againZ fl3 fun h4 fl4 up4 => ?_
      obtain ⟨oe4, vs4, he4, hz4, hd4⟩ := fl4.there
      have J4 : Inv X pins σ2 (upd H2 a (EzO cls d a)) { t with heap := h4 } :=
        J.landedT nb fl4.1 ((up.trans up3).trans up4) os ag n0 na (ezO_ok he4 hz4 hd4)
      have S4 := J4.suiteN a
      refine store_ok (X := X.suite a (X.pn ++ pins)) (v := .ref a) S4 hN hi hlc rfl (fun s5 S5 => ?_) (.inr hln)
      refine wpAny_mono ((hsu a cls d (X.pn ++ pins)).run [] s5 _ _ _ S5 (hyes rfl a na)) (fun f s6 hsp => ?_) (fun _ _ z => False.elim z)
      have fin : ∀ {σ6 : St} {H6 : Hp} {Q : Shared → Prop}, Inv (X.suite a (X.pn ++ pins)) [] σ6 H6 s6 →
          (∀ s7, Inv X pins (σ6.set i none) H6 s7 → Q s7) →
          wpAny (model X.prog X.w) X.A (do bindName X.env n .none; unbindBehindTheSuite X.env n pos') (fun _ s7 => Q s7) X.xe s6 := by
        intro σ6 H6 Q S6 hq
        exact gone_ok (S6.unsuiteN okX) hN hi hln hq
      cases f with
      | ret u =>
        obtain ⟨v6, σ6, H6, S6, r6, q6⟩ := hsp
        exact fin S6 fun s7 J7 => ⟨_, _, _, J7, r6, q6⟩
      | next =>
        obtain ⟨σ6, H6, S6, q6⟩ := hsp
        exact fin S6 fun s7 J7 => ⟨_, _, J7, q6⟩
      | brk =>
        obtain ⟨σ6, H6, S6, q6⟩ := hsp
        exact fin S6 fun s7 J7 => ⟨_, _, J7, q6⟩
      | cont =>
        obtain ⟨σ6, H6, S6, q6⟩ := hsp
        exact fin S6 fun s7 J7 => ⟨_, _, J7, q6⟩
    | false =>
      show wpAny _ X.A (handleBy (.ref a) X.env []) _ _ _
      refine wpAny_handleBy_nil ?_
      obtain ⟨k1, k2, k3, oe, vs, T, oT, ts', he, hz, hd, h1, hr⟩ := id fl3
      unfold PySem.passOn
      refine wpAny_bind (wpAny_field he hd h1 ?_)
      rw [if_neg (show ¬ ((Value.ref T == Value.none) = true) from by simp)]
      have fin : wpAny (model X.prog X.w) X.A (setFlight (.ref a) X.env.frame)
          (fun _ t4 => wpAny (model X.prog X.w) X.A (throw (.ref a) : Sem Flow) (SP X pins D) X.xe t4) X.xe { t with heap := h3 } := by
        rw [hf]
        refine HandSPX.setFlight_upZ fl3 fun h4 hh4 up4 => wpAny_throw (tk _ _ ?_)
        exact ⟨a, B, sI, pins, σ2, H2, cls, d, rfl, J, nb,
          (up.trans up3).trans up4, .inr (.inr (by rw [hs]; exact hh4)), na, os, ag, hno rfl⟩
      first
        | exact wpAny_bind (wpAny_pure (wpAny_bind fin))
        | exact wpAny_bind fin
  · cases f with
    | next =>
      obtain ⟨σ2, H2, J2, q⟩ := hsp
      exact wpAny_execs_nil ⟨σ2, H2, J2.ofTry okX, q⟩
    | brk =>
      obtain ⟨σ2, H2, J2, q⟩ := hsp
      exact ⟨σ2, H2, J2.ofTry okX, q⟩
    | cont =>
      obtain ⟨σ2, H2, J2, q⟩ := hsp
      exact ⟨σ2, H2, J2.ofTry okX, q⟩
    | ret u =>
      obtain ⟨v, σ2, H2, J2, r, q⟩ := hsp
      exact ⟨v, σ2, H2, J2.ofTry okX, r, q⟩
end
/-- the object of a tracked error -/
theorem ezO_inst {X : Cx} {pins : List (Addr × Obj)} {σ : St} {H : Hp} {s : Shared} {a D : Addr} (I : Inv X pins σ H s) (h : H a = some (EzO (.ref D) none a)) :
    ∃ oe, PySem.W.InstAt s.heap a oe D none := by
  obtain ⟨⟨oe, vs, he, hz, hd⟩, _⟩ := (show ObjOk X.prog X.w H s.heap a (EzO (.ref D) none a) from I.hok a _ h)
  obtain ⟨oc, od, oda, osl⟩ := oe
  obtain ⟨h1, h2⟩ := hz
  dsimp only at h1 h2 hd
  subst h1 h2 hd
  exact ⟨_, he, rfl, rfl, trivial⟩
/-- isinstance(e, T), e a tracked error -/
def rIsX (K : PySem.W.Frag) : List V → Hp → VK → Prop := fun xs H Q => ∃ (a D : Addr) (c : V) (cv : Value) (b : Bool),
  xs = [.ref a, c] ∧ H a = some (EzO (.ref D) none a) ∧ ExcC K D ∧ ClsV c cv ∧
  PySem.W.kitOne K (.ref D) cv = some b ∧ Q (.bl b) H
/-- isinstance(e, (T1, T2)) -/
def rIsXT (K : PySem.W.Frag) : List V → Hp → VK → Prop := fun xs H Q => ∃ (a D tp : Addr) (cs : List V) (us : List Value) (b : Bool),
  xs = [.ref a, .ref tp] ∧ H tp = some (.tup cs) ∧ Paired ClsV cs us ∧ H a = some (EzO (.ref D) none a) ∧ ExcC K D ∧
  PySem.W.kitAny K (.ref D) us = some b ∧ Q (.bl b) H
section
variable {X : Cx}
theorem call_isX : CallR X (.builtin "isinstance") (rIsX X.K) := by
  intro pins s σ H xs us Q I r h
  obtain ⟨a, D, c, cv, b, rfl, hH, C, k, e, q⟩ := h
  obtain ⟨u1, u2, rfl, r1, r2⟩ := vals2 r
  have e2 := k.eq r2
  subst e2
  cases r1
  obtain ⟨oe, J⟩ := ezO_inst I hH
  exact PySem.W.kia_one (PySem.W.handS_kitx_exc C.hg C.hk C.hs C.hd C.ha C.hn C.ht C.hm) I.kIn J e (fun z => nomatch z)
    fun tk => ⟨.bl b, H, I.tok tk, rfl, q⟩
theorem call_isXT : CallR X (.builtin "isinstance") (rIsXT X.K) := by
  intro pins s σ H xs us Q I r h
  obtain ⟨a, D, tp, cs, ws, b, rfl, hT, k, hH, C, e, q⟩ := h
  obtain ⟨u1, u2, rfl, r1, r2⟩ := vals2 r
  cases r1
  cases (show u2 = Value.ref tp from r2)
  obtain ⟨oe, J⟩ := ezO_inst I hH
  obtain ⟨_, its, rv, o, h1, h2, n, h3⟩ := (show ObjOk X.prog X.w H s.heap tp (.tup cs) from I.hok tp _ hT)
  have e3 := ClsV.all k rv
  subst e3
  obtain ⟨oc, od, dt, sl⟩ := o
  simp only at h2 h3
  subst h2 h3
  exact PySem.W.kia_tup (PySem.W.handS_kitx_exc C.hg C.hk C.hs C.hd C.ha C.hn C.ht C.hm) I.kIn J h1 e (fun z => nomatch z)
    fun tk => ⟨.bl b, H, I.tok tk, rfl, q⟩
end
end L2
namespace Mad
open PySem PySem.Spec PyProof.Rows L2
/-! ### defs that raise, an own error class without a word of its own -/
theorem IsDef.calX2 {P : Program} {w : World} {K : PySem.W.Frag} {mg : Str → Option Value} {base : Heap} {x : Str} {st : Stmt} {N ps : List Str} {k : Nat} {sp : Sp} (D : IsDef K mg x st ps) (S : FnScope N ps (defScope st)) (len : ∀ vs H Q E, sp vs H Q E → vs.length = ps.length)
    (hbody : ∀ (f : Addr) (cdv : Value) (A : Around) (outer : List Env) (s : Shared) (H : Hp) (vs : List V) (Q : VK) (E : XK), Room k (A.deeper (envOfC x (defScope st) s.heap.objs.size f cdv)) → sp vs H Q E →
      ∃ t, PSs (cxOf (L2.CX P w) P w K mg base N x (defScope st) f cdv A outer s H E) (defBody st) t ∧ t { nx := fun _ H' => Q .non H', rt := Q } (start N vs) H) : Cal P w K mg base (L2.CX P w) (k + 1) x ps sp := by
  obtain ⟨f, fd, F, m, b⟩ := D
  exact ⟨f, fd, F.okX S len fun cdv A outer s H vs Q E => hbody f cdv A outer s H vs Q E, m, F.kp, b⟩
structure NoX (K : PySem.W.Frag) (mg : Str → Option Value) (n : Str) (C : Addr) : Prop where
  x : PySem.W.excIn K C [.type "ValueError", .type "Exception", .type "BaseException", .type "object"] "ValueError.__new__" = true
  g : mg n = some (.ref C)
  k : PySem.W.keepIn K (.ref C) = true
  b : PySem.W.subIn K (.ref C) (.type "BaseException") = some true
  t : PySem.W.typeIn K (.ref C) = some (.type "type")
theorem call_isXK {X : Cx} {K : PySem.W.Frag} (h : X.K = K) : CallR X (.builtin "isinstance") (rIsX K) := by
  subst h
  exact call_isX
/-! ### own classes: methods by their promises -/
/-- the method m of the class at C stands in the text as st says -/
def IsMet (K : PySem.W.Frag) (C : Addr) (m nm : Str) (st : Stmt) (ps : List Str) : Prop := ∃ (f : Addr) (fd : FuncData), Fun K m nm st f fd ∧ Meth K C m f ∧ Binds K fd ps []
def Met (P : Program) (w : World) (K : PySem.W.Frag) (mg : Str → Option Value) (base : Heap) (CX : CXT) (k : Nat) (C : Addr) (m : Str) (ps : List Str) (sp : Sp) : Prop := ∃ (f : Addr) (fd : FuncData), FnOk P w K mg base CX k f fd ps sp ∧ Meth K C m f ∧ Binds K fd ps []
section
variable {P : Program} {w : World} {K : PySem.W.Frag} {mg : Str → Option Value} {base : Heap} {C : Addr}
theorem Met.mono {CX : CXT} {j k : Nat} {m : Str} {ps : List Str} {sp : Sp} (c : Met P w K mg base CX j C m ps sp) (h : j ≤ k) : Met P w K mg base CX k C m ps sp := by
  obtain ⟨f, fd, F, r⟩ := c
  exact ⟨f, fd, F.mono h, r⟩
theorem met_none {m nm : Str} {st : Stmt} {ps : List Str} {sp : Sp} {CX : CXT} {k : Nat} (D : IsMet K C m nm st ps) (no : ∀ vs H Q E, ¬ sp vs H Q E) : Met P w K mg base CX k C m ps sp := by
  obtain ⟨f, fd, F, m, b⟩ := D
  exact ⟨f, fd, ⟨fun vs H Q E h => absurd h (no vs H Q E), fun A outer s H args us vs Q E _ _ _ _ h => absurd h (no vs H Q E)⟩, m, b⟩
theorem IsMet.met {m nm : Str} {st : Stmt} {N ps : List Str} {k : Nat} {sp : Sp} (D : IsMet K C m nm st ps) (S : FnScope N ps (defScope st)) (len : ∀ vs H Q E, sp vs H Q E → vs.length = ps.length)
    (hbody : ∀ (f : Addr) (cdv : Value) (A : Around) (outer : List Env) (s : Shared) (H : Hp) (vs : List V) (Q : VK) (E : XK), Room k (A.deeper (envOfC nm (defScope st) s.heap.objs.size f cdv)) → sp vs H Q E →
      ∃ t, PSs (cxOf CX0 P w K mg base N nm (defScope st) f cdv A outer s H E).nox (defBody st) t ∧ t { nx := fun _ H' => Q .non H', rt := Q } (start N vs) H) : Met P w K mg base CX0 (k + 1) C m ps sp := by
  obtain ⟨f, fd, F, m, b⟩ := D
  exact ⟨f, fd, F.ok S len fun cdv A outer s H vs Q E => hbody f cdv A outer s H vs Q E, m, b⟩
theorem IsMet.metX {m nm : Str} {st : Stmt} {N ps : List Str} {k : Nat} {sp : Sp} (D : IsMet K C m nm st ps) (S : FnScope N ps (defScope st)) (len : ∀ vs H Q E, sp vs H Q E → vs.length = ps.length)
    (hbody : ∀ (f : Addr) (cdv : Value) (A : Around) (outer : List Env) (s : Shared) (H : Hp) (vs : List V) (Q : VK) (E : XK), Room k (A.deeper (envOfC nm (defScope st) s.heap.objs.size f cdv)) → sp vs H Q E →
      ∃ t, PSs (cxOf (L2.CX P w) P w K mg base N nm (defScope st) f cdv A outer s H E) (defBody st) t ∧ t { nx := fun _ H' => Q .non H', rt := Q } (start N vs) H) : Met P w K mg base (L2.CX P w) (k + 1) C m ps sp := by
  obtain ⟨f, fd, F, m, b⟩ := D
  exact ⟨f, fd, F.okX S len fun cdv A outer s H vs Q E => hbody f cdv A outer s H vs Q E, m, b⟩
end
/-! ### functions made within a def and handed on: their cells as the callee finds them -/
open LamX NdefX
theorem cellsAt_un {fs : List Addr} {cl : List (Str × Addr)} {fr : List Str} {ws : List (Option V)} {h h' : Heap} {H H' : Hp} (C : CellsAt cl fr ws h H) (U : Un fs [] H H' h h') : CellsAt cl fr ws h' H' := by
  have kp : ∀ y c, cl.lookup y = some c → ∀ v, h.IsCell c v → h'.IsCell c v := fun y c e v ⟨o, ho, hd⟩ => by
    obtain ⟨sl, q⟩ := U.any ho (C.all y c e).1 (by simp)
    exact ⟨_, q, hd⟩
  refine ⟨C.len, fun y c e => ?_, C.inj, fun i y e => ?_⟩
  · obtain ⟨n, v, z⟩ := C.all y c e
    refine ⟨?_, v, kp y c e v z⟩
    obtain ⟨o, ho, _⟩ := z
    exact U.free c o ho n (by simp)
  · obtain ⟨c, hc, hv⟩ := C.has i y e
    refine ⟨c, hc, fun v ev => ?_⟩
    obtain ⟨u, r, z⟩ := hv v ev
    exact ⟨u, r, kp y c hc _ z⟩
/-- the def x, handed a function whose cells are told beside, keeps the promise sp -/
structure CalC (P : Program) (w : World) (K : PySem.W.Frag) (mg : Str → Option Value) (base : Heap) (CX : CXT) (k : Nat) (x : Str) (ps : List Str) (cl : List (Str × Addr)) (fr : List Str) (ws : List (Option V)) (sp : Sp) : Prop where
  ex : ∃ (f : Addr), mg x = some (.ref f) ∧ PySem.W.keepIn K (.ref f) = true
  len : ∀ vs H Q E, sp vs H Q E → vs.length = ps.length
  run : ∀ (f : Addr), mg x = some (.ref f) → ∀ (A : Around) (outer : List Env) (s : Shared) (H : Hp) (us : List Value) (vs : List V) (Q : VK) (E : XK), Room k A → Env0 P w K mg base A outer s H → CellsAt cl fr ws s.heap H → Vals vs us → sp vs H Q E →
    codeAny (model P w) A (.call (.ref f) ⟨us, []⟩) (CR CX outer P w H s Q E) s
section
variable {P : Program} {w : World} {K : PySem.W.Frag} {mg : Str → Option Value} {base : Heap} {cl : List (Str × Addr)} {fr : List Str} {ws : List (Option V)}
theorem CalC.mono {CX : CXT} {j k : Nat} {x : Str} {ps : List Str} {sp : Sp} (c : CalC P w K mg base CX j x ps cl fr ws sp) (h : j ≤ k) : CalC P w K mg base CX k x ps cl fr ws sp :=
  ⟨c.ex, c.len, fun f m A outer s H us vs Q E hr => c.run f m A outer s H us vs Q E (hr.mono h)⟩
theorem calC_none {x : Str} {st : Stmt} {ps : List Str} {sp : Sp} {CX : CXT} {k : Nat} (D : IsDef K mg x st ps) (no : ∀ vs H Q E, ¬ sp vs H Q E) : CalC P w K mg base CX k x ps cl fr ws sp := by
  obtain ⟨f, fd, F, m, b⟩ := D
  exact ⟨⟨f, m, F.kp⟩, fun vs H Q E h => absurd h (no vs H Q E), fun f m A outer s H us vs Q E _ _ _ _ h => absurd h (no vs H Q E)⟩
theorem calC_any {ι : Sort _} {x : Str} {st : Stmt} {ps : List Str} {sp : ι → Sp} {CX : CXT} {k : Nat} (D : IsDef K mg x st ps) (h : ∀ i, CalC P w K mg base CX k x ps cl fr ws (sp i)) : CalC P w K mg base CX k x ps cl fr ws (fun vs H Q E => ∃ i, sp i vs H Q E) := by
  obtain ⟨f, fd, F, m, b⟩ := D
  exact ⟨⟨f, m, F.kp⟩, fun vs H Q E ⟨i, q⟩ => (h i).len vs H Q E q, fun f m A outer s H us vs Q E hr e0 C r ⟨i, q⟩ => (h i).run f m A outer s H us vs Q E hr e0 C r q⟩
theorem IsDef.calC {x : Str} {st : Stmt} {N ps : List Str} {k : Nat} {sp : Sp} (D : IsDef K mg x st ps) (S : FnScope N ps (defScope st)) (len : ∀ vs H Q E, sp vs H Q E → vs.length = ps.length)
    (hbody : ∀ (f : Addr) (cdv : Value) (A : Around) (outer : List Env) (s : Shared) (H : Hp) (vs : List V) (Q : VK) (E : XK), Room k (A.deeper (envOfC x (defScope st) s.heap.objs.size f cdv)) → CellsAt cl fr ws s.heap H → sp vs H Q E →
      ∃ t, PSs (cxOf (L2.CX P w) P w K mg base N x (defScope st) f cdv A outer s H E) (defBody st) t ∧ t { nx := fun _ H' => Q .non H', rt := Q } (start N vs) H) : CalC P w K mg base (L2.CX P w) (k + 1) x ps cl fr ws sp := by
  obtain ⟨f, fd, F, m, b⟩ := D
  refine ⟨⟨f, m, F.kp⟩, len, fun f' m' A outer s H us vs Q E hr e0 C r hsp => ?_⟩
  have ef : f' = f := Value.ref.inj (Option.some.inj (m'.symm.trans m))
  subst ef
  obtain ⟨oc, od, kV, doc, pm, an, cdv, ct, osl, rfl, lk, hcd⟩ := F.ex
  have KX : K.In s.heap := e0.mod.kin.keeps fun b o e => (e0.bs b o e).1
  have hl := len _ _ _ _ hsp
  have hb := b s us KX (by rw [List.append_nil, ← r.length]; exact hl)
  rw [List.append_nil] at hb
  exact run_ofS lk hcd S hr e0 hb r hl fun hr' => hbody f' cdv A outer s H vs Q E hr' C hsp
/-- a method whose code object is known -/
def IsMetC (K : PySem.W.Frag) (C : Addr) (m nm : Str) (st : Stmt) (ps : List Str) (c : Addr) : Prop := ∃ (f : Addr) (fd : FuncData) (oc : Value) (od : Option Addr) (kV doc pm : Value) (an : Option Addr) (ct : Value) (osl : Array (Option Value)),
    fd = PySem.W.fnOf m nm (defArgs st) (defBody st) (defScope st) .none kV doc pm an (.ref c) ct ∧ K.lookup f = some ⟨oc, od, .func fd, osl⟩ ∧ PySem.W.codeIn K (.ref c) nm = true ∧ Meth K C m f ∧ Binds K fd ps []
theorem IsMetC.metX {C c : Addr} {m nm : Str} {st : Stmt} {N ps : List Str} {k : Nat} {sp : Sp} (D : IsMetC K C m nm st ps c) (S : FnScope N ps (defScope st)) (len : ∀ vs H Q E, sp vs H Q E → vs.length = ps.length)
    (hbody : ∀ (f : Addr) (A : Around) (outer : List Env) (s : Shared) (H : Hp) (vs : List V) (Q : VK) (E : XK), Room k (A.deeper (envOfC nm (defScope st) s.heap.objs.size f (.ref c))) → sp vs H Q E →
      ∃ t, PSs (cxOf (L2.CX P w) P w K mg base N nm (defScope st) f (.ref c) A outer s H E) (defBody st) t ∧ t { nx := fun _ H' => Q .non H', rt := Q } (start N vs) H) : Met P w K mg base (L2.CX P w) (k + 1) C m ps sp := by
  obtain ⟨f, fd, oc, od, kV, doc, pm, an, ct, osl, rfl, lk, hcd, M, b⟩ := D
  exact ⟨f, _, fn_of lk hcd S len fun A outer s H vs Q E hr hsp => hbody f A outer s H vs Q E hr hsp, M, b⟩
theorem IsMetC.none {C c : Addr} {m nm : Str} {st : Stmt} {ps : List Str} {k : Nat} {sp : Sp} {CX : CXT} (D : IsMetC K C m nm st ps c) (no : ∀ vs H Q E, ¬ sp vs H Q E) : Met P w K mg base CX k C m ps sp := by
  obtain ⟨f, fd, oc, od, kV, doc, pm, an, ct, osl, rfl, lk, hcd, M, b⟩ := D
  exact ⟨f, _, ⟨fun vs H Q E h => absurd h (no vs H Q E), fun A outer s H args us vs Q E _ _ _ _ h => absurd h (no vs H Q E)⟩, M, b⟩
end
section
variable {X : Cx} {CX : CXT} {k j i : Nat} {ps fr : List Str} {cl : List (Str × Addr)} {ws : List (Option V)} {sp : Sp} {E : XK} {x : Str} {p pos : Pos} {e : Expr} {es : List Expr} {t : TA}
theorem cells_now {pins : List (Addr × Obj)} {σ : L2.St} {H : Hp} {s : Shared} (hex : X.ex = []) (C : CellsAt cl fr ws X.s_0.heap X.H_0) (I : Inv X pins σ H s) : CellsAt cl fr ws s.heap H := by
  have U := I.base
  rw [hex] at U
  exact cellsAt_un C U
theorem run_fnC {pins : List (Addr × Obj)} {σ : L2.St} {H : Hp} {s : Shared} {Q : VK} {f : Addr} {us : List Value} {vs : List V} (F : CalC X.prog X.w X.K X.mg X.base CX k x ps cl fr ws sp) (hm : X.mg x = some (.ref f)) (hr : Room k X.A) (hx : Passes CX X E)
    (I : Inv X pins σ H s) (C : CellsAt cl fr ws s.heap H) (r : Vals vs us) (h : sp vs H Q E) : wpAny (model X.prog X.w) X.A (call (.ref f) us) (EP X pins σ Q) X.xe s := by
  refine wpAny_call (codeAny_mono (F.run f hm X.A X.stack s H us vs Q E hr I.env0 C r h) fun r s' hq => ?_)
  cases r with
  | error e => exact hx pins σ H s e s' I hq
  | ok fl =>
    cases fl with
    | ret u => exact I.after hq
    | next => exact False.elim hq
    | brk => exact False.elim hq
    | cont => exact False.elim hq
/-- f(.., g) within a def that was handed g -/
theorem pe_callC (c : CalC X.prog X.w X.K X.mg X.base CX k x ps cl fr ws sp) (hex : X.ex = []) (C : CellsAt cl fr ws X.s_0.heap X.H_0) (hr : Room k X.A) (hx : Passes CX X E) (ha : PA X (e :: es) t) (hg : Gl X x := by rfl)
    (hdb : (x == ("__debug__" : Str)) = false := by decide) (he : starEach (e :: es) X.env = (false, eval e X.env) :: starEach es X.env := by rfl) (hpl : (backTo pos (starEach es X.env)).any (·.1) = false := by rfl) :
    PE X (.Call (.Name x p) (e :: es) [] pos) (tCall sp [] E t) := by
  obtain ⟨f, hm, hk⟩ := c.ex
  refine ⟨fun pins s σ H Q I h => ?_⟩
  refine wpAny_Call_Name_kw (ld_glob I hg hm ?_ hdb)
  refine PySem.W.callWith_K (h₀ := X.base) I.ok.mod.kin hk (thn (ha.run pos pins s σ H _ I h) fun us s1 ⟨vs, H1, I1, r, q⟩ => ⟨I1.kIn, ?_⟩) he hpl
  have q : sp (vs ++ []) H1 Q E := q
  rw [List.append_nil] at q
  exact run_fnC c hm hr hx I1 (cells_now hex C I1) r q
/-- the same within the def that makes g: its cells are this frame's -/
def tCallM (js : List Nat) (sp : List (Option V) → Sp) (E : XK) (t : TA) : TE := fun σ H Q => t σ H fun vs H1 => sp (js.map (slotAt σ)) vs H1 Q E
theorem pe_callM {js : List Nat} {sp : List (Option V) → Sp} (c : ∀ ws, CalC X.prog X.w X.K X.mg X.base CX k x ps cl fr ws (sp ws)) (cp : X.Ok → Caps X cl fr js) (hr : Room k X.A) (hx : Passes CX X E) (ha : PA X (e :: es) t) (hg : Gl X x := by rfl)
    (hdb : (x == ("__debug__" : Str)) = false := by decide) (he : starEach (e :: es) X.env = (false, eval e X.env) :: starEach es X.env := by rfl) (hpl : (backTo pos (starEach es X.env)).any (·.1) = false := by rfl) :
    PE X (.Call (.Name x p) (e :: es) [] pos) (tCallM js sp E t) := by
  refine ⟨fun pins s σ H Q I h => ?_⟩
  obtain ⟨f, hm, hk⟩ := (c (js.map (slotAt σ))).ex
  refine wpAny_Call_Name_kw (ld_glob I hg hm ?_ hdb)
  refine PySem.W.callWith_K (h₀ := X.base) I.ok.mod.kin hk (thn (ha.run pos pins s σ H _ I h) fun us s1 ⟨vs, H1, I1, r, q⟩ => ⟨I1.kIn, ?_⟩) he hpl
  exact run_fnC (c _) hm hr hx I1 (cells_of I1 (cp I1.ok)) r q
/-- g(..), g handed in -/
def tCallV (i : Nat) (f : Addr) (F : NF) (ws : List (Option V)) (sp : List (Option V) → Sp) (E : XK) (t : TA) : TE := fun σ H Q => σ[i]? = some (some (.ref f)) ∧ H f = some (FnO f F) ∧
  t σ H fun vs H1 => H1 f = some (FnO f F) ∧ H1 F.c = some (CodeO F.c F.qual) ∧ sp ws vs H1 Q E
theorem pe_callV {f : Addr} {F : NF} {sp : List (Option V) → Sp} (Fn : NOk X.prog X.w X.K X.mg X.base CX k f F ps fr sp) (hex : X.ex = []) (C : CellsAt F.cl fr ws X.s_0.heap X.H_0) (hr : Room j X.A) (hk : k ≤ j) (hx : Passes CX X E) (ha : PA X (e :: es) t)
    (hN : X.N[i]? = some x := by rfl) (hv : Vis X.env.scope x := by first | exact Or.inl rfl | exact Or.inr (Or.inl rfl) | exact Or.inr (Or.inr rfl))
    (hd : (x == ("__debug__" : Str)) = false := by decide) (hcd : (x == ("__classdict__" : Str)) = false := by decide)
    (he : starEach (e :: es) X.env = (false, eval e X.env) :: starEach es X.env := by rfl) (hpl : (backTo pos (starEach es X.env)).any (·.1) = false := by rfl) :
    PE X (.Call (.Name x p) (e :: es) [] pos) (tCallV i f F ws sp E t) := by
  refine ⟨fun pins s σ H Q I h => ?_⟩
  obtain ⟨hs, hf, ht⟩ := h
  refine wpAny_Call_Name_kw (thn ((pe_var (pos := p) hN hv hd hcd).run pins s σ H (fun v H1 => v = .ref f ∧ H1 = H) I ⟨.ref f, hs, rfl, rfl⟩) fun u s1 ⟨v, H1, I1, r1, q1⟩ => ?_)
  obtain ⟨ev, eH⟩ := q1
  subst ev
  rw [eH] at I1
  obtain rfl : u = Value.ref f := r1
  refine PySem.W.callWith_F (first := []) (fnAt_of I1 hf) (thn (ha.run pos pins s1 σ H _ I1 ht) fun us s2 ⟨vs, H2, I2, r, h1, h2, q⟩ => ⟨fnAt_of I2 h1, ?_⟩) he hpl
  show wpAny _ _ (call (.ref f) us) _ _ _
  refine wpAny_call (codeAny_mono (Fn.run X.A X.stack s2 H2 us vs _ Q E (hr.mono hk) I2.env0 h1 h2 (cells_now hex C I2) r q) fun r s' hq => ?_)
  cases r with
  | error e => exact hx pins σ H2 s2 e s' I2 hq
  | ok fl =>
    cases fl with
    | ret u => exact I2.after hq
    | next => exact False.elim hq
    | brk => exact False.elim hq
    | cont => exact False.elim hq
/-- o.f, .. = e -/
def gFld (K : PySem.W.Frag) (f : Str) (ta : TE) : TG := fun y σ H Q => ta σ H fun x H1 => ∃ a C dx fs, x = .ref a ∧ H1 a = some (.ins C dx fs) ∧ Cls K C ∧ NoAttr K C f ∧ fs.length < 1000 ∧ Q σ (upd H1 a (.ins C dx (putF f y fs)))
theorem pg_fld {o : Expr} {ta : TE} {f : Str} (ho : PE X o ta) (ha : ∀ v, assign (.Attribute o f pos) X.env v = (do
      let ov ← holding [v] (eval o X.env)
      standAt pos.atName
      holding [v, ov] (setAttr ov f v)
      release [v, ov] []) := by intro _; rfl) : PG X (.Attribute o f pos) (gFld X.K f ta) := by
  refine ⟨fun pins s σ H v u Q I r h => ?_⟩
  rw [ha]
  refine wpAny_bind (wpAny_holding (thn (ho.run pins s σ H _ I h) fun ov s1 ⟨x, H1, I1, r1, a, C, dx, fs, ex, ea, c, n, l, q⟩ => ?_))
  subst ex
  obtain rfl : ov = Value.ref a := r1
  refine wpAny_bind (wpAny_standAt (wpAny_bind (wpAny_holding (setattr_ok I1 ea c n l r fun s2 I2 => ?_))))
  exact wpAny_release ⟨σ, _, I2, q⟩
/-- the field n of a tracked error -/
def tXk (K : PySem.W.Frag) (n : Str) (te : TE) : TE := fun σ H Q => te σ H fun x H1 => ∃ (a C dd : Addr) (fs : List (Str × V)) (v : V), x = .ref a ∧ H1 a = some (EzO (.ref C) (some dd) a) ∧ XfC K C ∧ PySem.W.findIn K (.ref C) n = some none ∧ H1 dd = some (.xd fs) ∧ fs.lookup n = some v ∧ Q v H1
theorem pe_xk {n : Str} {te : TE} (he : PE X e te) (hb : attributeBase e n X.env (eval e X.env) = eval e X.env := by rfl) : PE X (.Attribute e n pos) (tXk X.K n te) := by
  refine ⟨fun pins s σ H Q I h => ?_⟩
  refine attr_of hb (thn (he.run pins s σ H _ I h) fun u s1 hh => ?_)
  obtain ⟨x, H1, I1, rx, a, C, dd, fs, v, ex, ha, T, hno, ea, l, q⟩ := hh
  subst ex
  obtain rfl : u = Value.ref a := rx
  obtain ⟨⟨oe, vs, hoe, hz, hd⟩, _⟩ := (show ObjOk X.prog X.w H1 s1.heap a (EzO (.ref C) (some dd) a) from I1.hok a _ ha)
  have hx : ObjOk X.prog X.w H1 s1.heap dd (.xd fs) := I1.hok dd _ ea
  obtain ⟨mA, hns, hr⟩ := hx
  obtain ⟨od, ho, hl⟩ := lookIn_ns hns
  obtain ⟨u, hu, ru⟩ := RelO.some_of (v := v) (o := mA n) (by rw [← l]; exact hr n)
  have J : PySem.W.InstAt s1.heap a oe C (some od) := ⟨hoe, hz.1, by unfold PySem.W.notCls; rw [hd] <;> rfl, by rw [hz.2]; exact ho⟩
  exact HandSPX.exc_get I1.kIn J T.ga T.gg T.exC (PySem.W.findObj_own T.hdC hno rfl (by rw [hl, hu])) (handed_of ru) ⟨v, H1, I1.tok _, ru, q⟩
/-- isinstance(e, T), e a tracked error with or without a dict of its own -/
def XdAt (H : Hp) (d : Option Addr) : Prop := match d with
  | none => True
  | some dd => ∃ fs, H dd = some (.xd fs)
def rIsXd (K : PySem.W.Frag) : List V → Hp → VK → Prop := fun xs H Q => ∃ (a D : Addr) (d : Option Addr) (c : V) (cv : Value) (b : Bool),
  xs = [.ref a, c] ∧ H a = some (EzO (.ref D) d a) ∧ XdAt H d ∧ ExcC K D ∧ ClsV c cv ∧ PySem.W.kitOne K (.ref D) cv = some b ∧ Q (.bl b) H
theorem ezO_instd {pins : List (Addr × Obj)} {σ : L2.St} {H : Hp} {s : Shared} {a D : Addr} {d : Option Addr} (I : Inv X pins σ H s) (h : H a = some (EzO (.ref D) d a)) (hd : XdAt H d) : ∃ oe od, PySem.W.InstAt s.heap a oe D od := by
  cases d with
  | none =>
    obtain ⟨oe, J⟩ := ezO_inst I h
    exact ⟨oe, none, J⟩
  | some dd =>
    obtain ⟨fs, ea⟩ := hd
    obtain ⟨⟨oe, vs, hoe, hz, hd⟩, _⟩ := (show ObjOk X.prog X.w H s.heap a (EzO (.ref D) (some dd) a) from I.hok a _ h)
    have hx : ObjOk X.prog X.w H s.heap dd (.xd fs) := I.hok dd _ ea
    obtain ⟨mA, hns, hr⟩ := hx
    obtain ⟨od, ho, hl⟩ := lookIn_ns hns
    exact ⟨oe, some od, hoe, hz.1, by unfold PySem.W.notCls; rw [hd] <;> rfl, by rw [hz.2]; exact ho⟩
theorem call_isXd : CallR X (.builtin "isinstance") (rIsXd X.K) := by
  intro pins s σ H xs us Q I r h
  obtain ⟨a, D, d, c, cv, b, rfl, hH, hd, C, k, e, q⟩ := h
  obtain ⟨u1, u2, rfl, r1, r2⟩ := vals2 r
  have e2 := k.eq r2
  subst e2
  cases r1
  obtain ⟨oe, od, J⟩ := ezO_instd I hH hd
  have hcl : (PySem.W.clsIn X.K D).isSome = true := by obtain ⟨cd, hc, _⟩ := PySem.W.any_some C.hd; rw [hc]; rfl
  exact PySem.W.kia_one (PySem.W.kitx_exc hcl C.hg C.hk C.hs C.ha C.hn C.ht C.hm) I.kIn J e (fun z => nomatch z)
    fun tk => ⟨.bl b, H, I.tok tk, rfl, q⟩
theorem call_isXdK {K : PySem.W.Frag} (h : X.K = K) : CallR X (.builtin "isinstance") (rIsXd K) := by
  subst h
  exact call_isXd
end
/-! ### dicts of names and numbers -/
theorem val_seen (s : List Nat) : ∀ l : List Pr, valV (numsK l) (kT (SX.S s)) = (seen l s).map V.int
  | [] => rfl
  | p :: l => by
    rw [seen_cons]
    by_cases c : p.1 = s
    · rw [show numsK (p :: l) = (kT (SX.S p.1), V.int p.2) :: numsK l from rfl, valV_pos (by rw [c]), if_pos c]
      rfl
    · rw [show numsK (p :: l) = (kT (SX.S p.1), V.int p.2) :: numsK l from rfl, valV_neg (fun z => c (kS_inj z)), val_seen s l, if_neg c]
theorem nums_put {l : List Pr} {s : List Nat} {v : Int} (h : seen l s = none) : putK (numsK l) (kT (SX.S s)) (.int v) = numsK (l ++ [(s, v)]) := by
  rw [putK_new _ (by rw [val_seen, h]; rfl)]
  unfold numsK
  rw [List.map_append]
  rfl
theorem numsK_len (l : List Pr) : (numsK l).length = l.length := by unfold numsK; rw [List.length_map]
/-! ### worth_by: a recipe's worth by what a handed function tells of names -/
open LamX NdefX
inductive XErr where
  | noName (s : List Nat)
  | ring (l : List (List Nat))
inductive OutR (S : Type) where
  | ok (v : Int) (s : S)
  | err (e : XErr)
def OutR.bind {S : Type} (r : OutR S) (f : Int → S → OutR S) : OutR S := match r with
  | .ok v s => f v s
  | .err e => .err e
theorem OutR.bind_ok {S : Type} {r : OutR S} {f : Int → S → OutR S} {v : Int} {s : S} (h : r.bind f = .ok v s) : ∃ x t, r = .ok x t ∧ f x t = .ok v s := by
  cases r with
  | ok x t => exact ⟨x, t, rfl, h⟩
  | err e => cases h
/-- a recipe gone through, each name's worth by lk -/
def wk {S : Type} (lk : S → List Nat → OutR S) : Rcp → S → OutR S
  | .num v, s => .ok v s
  | .read t, s => lk s t
  | .two k a b, s => (wk lk a s).bind fun x s1 => (wk lk b s1).bind fun y s2 => .ok (k.ap x y) s2
  | .pick a b c, s => (wk lk a s).bind fun x s1 => if x > 0 then wk lk b s1 else wk lk c s1
  | .choose a ns, s => (wk lk a s).bind fun x s1 => lk s1 (nthN ns x)
/-- names fine -/
def Rcp.Wn : Rcp → Prop
  | .num _ => True
  | .read s => Nm s
  | .two _ a b => a.Wn ∧ b.Wn
  | .pick a b c => a.Wn ∧ b.Wn ∧ c.Wn
  | .choose a ns => a.Wn ∧ Nms ns
theorem good_wn : ∀ {r : Rcp}, r.Good → r.Wn
  | .num _, _ => trivial
  | .read _, h => h
  | .two _ _ _, h => ⟨good_wn h.1, good_wn h.2⟩
  | .pick _ _ _, h => ⟨good_wn h.1, good_wn h.2.1, good_wn h.2.2⟩
  | .choose _ _, h => ⟨good_wn h.1, h.2⟩
/-- a bound of the bits of what a recipe comes to, the reads below 2 ^ b -/
def Rcp.bits (b : Nat) : Rcp → Nat
  | .num n => n.natAbs.log2 + 1
  | .read _ => b
  | .two .times x y => x.bits b + y.bits b
  | .two .most x y => max (x.bits b) (y.bits b)
  | .two _ x y => max (x.bits b) (y.bits b) + 1
  | .pick x y z => max (x.bits b) (max (y.bits b) (z.bits b))
  | .choose x _ => max (x.bits b) b
theorem bits_pos {b : Nat} (hb : 0 < b) : ∀ r : Rcp, 0 < r.bits b
  | .num _ => Nat.succ_pos _
  | .read _ => hb
  | .two k x y => by
    have hx := bits_pos hb x
    have hy := bits_pos hb y
    cases k <;> simp only [Rcp.bits] <;> omega
  | .pick x y z => by
    have hx := bits_pos hb x
    simp only [Rcp.bits]; omega
  | .choose x _ => by simp only [Rcp.bits]; omega
theorem bits_sub {b : Nat} {k : Kd} {x y : Rcp} : x.bits b ≤ (Rcp.two k x y).bits b ∧ y.bits b ≤ (Rcp.two k x y).bits b := by
  cases k <;> simp only [Rcp.bits] <;> omega
theorem pow_mono {a b n : Nat} (h : n < 2 ^ a) (le : a ≤ b) : n < 2 ^ b := Nat.lt_of_lt_of_le h (Nat.pow_le_pow_right (by decide) le)
theorem max_small {x y : Int} {b : Nat} (hx : x.natAbs < 2 ^ b) (hy : y.natAbs < 2 ^ b) : (if y > x then y else x).natAbs < 2 ^ b := by split <;> assumption
theorem ap_bits {b : Nat} {k : Kd} {x y : Rcp} {v w : Int} (hx : v.natAbs < 2 ^ x.bits b) (hy : w.natAbs < 2 ^ y.bits b) : (k.ap v w).natAbs < 2 ^ (Rcp.two k x y).bits b := by
  have hx' := pow_mono hx (Nat.le_max_left _ (y.bits b))
  have hy' := pow_mono hy (Nat.le_max_right (x.bits b) _)
  cases k with
  | plus =>
    show (v + w).natAbs < 2 ^ (max (x.bits b) (y.bits b) + 1)
    rw [Nat.pow_succ]
    omega
  | minus =>
    show (v - w).natAbs < 2 ^ (max (x.bits b) (y.bits b) + 1)
    rw [Nat.pow_succ]
    omega
  | times =>
    show (v * w).natAbs < 2 ^ (x.bits b + y.bits b)
    rw [Int.natAbs_mul, Nat.pow_add]
    exact Nat.mul_lt_mul'' hx hy
  | most => exact max_small hx' hy'
/-- what a recipe comes to, the worths of names by f: no memory -/
def Rcp.Ev (f : List Nat → Int → Prop) : Rcp → Int → Prop
  | .num n, v => v = n
  | .read t, v => f t v
  | .two k x y, v => ∃ a c, x.Ev f a ∧ y.Ev f c ∧ v = k.ap a c
  | .pick x y z, v => ∃ a, x.Ev f a ∧ ((a > 0 → y.Ev f v) ∧ (¬ a > 0 → z.Ev f v))
  | .choose x ns, v => ∃ a, x.Ev f a ∧ f (nthN ns a) v
/-- no product on the way is too great for the machine -/
def Rcp.Fit (f : List Nat → Int → Prop) : Rcp → Prop
  | .num _ => True
  | .read _ => True
  | .two k x y => x.Fit f ∧ ∀ a, x.Ev f a → y.Fit f ∧ ∀ c, y.Ev f c → k = .times → CMulW a c
  | .pick x y z => x.Fit f ∧ ∀ a, x.Ev f a → ((a > 0 → y.Fit f) ∧ (¬ a > 0 → z.Fit f))
  | .choose x _ => x.Fit f
theorem Rcp.Ev.mono {f g : List Nat → Int → Prop} (hg : ∀ t x, f t x → g t x) : ∀ {r : Rcp} {v : Int}, r.Ev f v → r.Ev g v
  | .num _, v, h => h
  | .read t, v, h => hg t v h
  | .two _ _ _, v, ⟨a, c, h1, h2, e⟩ => ⟨a, c, h1.mono hg, h2.mono hg, e⟩
  | .pick _ _ _, v, ⟨a, h1, h2, h3⟩ => ⟨a, h1.mono hg, fun c => (h2 c).mono hg, fun c => (h3 c).mono hg⟩
  | .choose _ _, v, ⟨a, h1, h2⟩ => ⟨a, h1.mono hg, hg _ _ h2⟩
theorem Rcp.Fit.mono {f g : List Nat → Int → Prop} (hg : ∀ t x, f t x → g t x) : ∀ {r : Rcp}, r.Fit g → r.Fit f
  | .num _, _ => trivial
  | .read _, _ => trivial
  | .two _ _ _, ⟨h1, h2⟩ => ⟨h1.mono hg, fun a ha => ⟨(h2 a (ha.mono hg)).1.mono hg, fun c hc => (h2 a (ha.mono hg)).2 c (hc.mono hg)⟩⟩
  | .pick _ _ _, ⟨h1, h2⟩ => ⟨h1.mono hg, fun a ha => ⟨fun c => ((h2 a (ha.mono hg)).1 c).mono hg, fun c => ((h2 a (ha.mono hg)).2 c).mono hg⟩⟩
  | .choose x _, h => Fit.mono (r := x) hg h
theorem Rcp.Ev.small {f : List Nat → Int → Prop} {b : Nat} (hf : ∀ t v, f t v → v.natAbs < 2 ^ b) : ∀ {r : Rcp} {v : Int}, r.Ev f v → v.natAbs < 2 ^ r.bits b
  | .num n, v, h => by
    rw [show v = n from h]
    exact Nat.lt_log2_self
  | .read t, v, h => hf t v h
  | .two k x y, v, h => by
    obtain ⟨a, c, h1, h2, rfl⟩ := h
    exact ap_bits (h1.small hf) (h2.small hf)
  | .pick x y z, v, h => by
    obtain ⟨a, h1, h2, h3⟩ := h
    by_cases c : a > 0
    · exact pow_mono ((h2 c).small hf) (by simp only [Rcp.bits]; omega)
    · exact pow_mono ((h3 c).small hf) (by simp only [Rcp.bits]; omega)
  | .choose x ns, v, h => by
    obtain ⟨a, h1, h2⟩ := h
    exact pow_mono (hf _ _ h2) (by simp only [Rcp.bits]; omega)
theorem Rcp.Fit.of_bits {f : List Nat → Int → Prop} {b : Nat} (hb : 0 < b) (hf : ∀ t v, f t v → v.natAbs < 2 ^ b) : ∀ {r : Rcp}, r.bits b ≤ 1000000 → r.Fit f
  | .num _, _ => trivial
  | .read _, _ => trivial
  | .two k x y, h => by
    have hs := bits_sub (b := b) (k := k) (x := x) (y := y)
    refine ⟨Fit.of_bits hb hf (by omega), fun a ha => ⟨Fit.of_bits hb hf (by omega), fun c hc e => ?_⟩⟩
    subst e
    exact wide_mul (ha.small hf) (hc.small hf) (bits_pos hb x) (bits_pos hb y) h
  | .pick x y z, h => by
    have e : (Rcp.pick x y z).bits b = max (x.bits b) (max (y.bits b) (z.bits b)) := rfl
    exact ⟨Fit.of_bits hb hf (by omega), fun a _ => ⟨fun _ => Fit.of_bits hb hf (by omega), fun _ => Fit.of_bits hb hf (by omega)⟩⟩
  | .choose x ns, h => by
    have e : (Rcp.choose x ns).bits b = max (x.bits b) b := rfl
    exact Fit.of_bits (r := x) hb hf (by omega)
section
variable {S : Type} {lk : S → List Nat → OutR S} {J : S → Prop} {f : List Nat → Int → Prop}
/-- what a look keeps -/
def LkOk (lk : S → List Nat → OutR S) (J : S → Prop) (f : List Nat → Int → Prop) : Prop := ∀ s t v s', J s → Nm t → lk s t = .ok v s' → J s' ∧ f t v
theorem wk_ok (hlk : LkOk lk J f) : ∀ {r : Rcp} {s s' : S} {v : Int}, r.Wn → J s → wk lk r s = .ok v s' → J s' ∧ r.Ev f v
  | .num n, s, s', v, _, hj, h => by
    cases h
    exact ⟨hj, rfl⟩
  | .read t, s, s', v, hw, hj, h => hlk s t v s' hj hw h
  | .two k x y, s, s', v, hw, hj, h => by
    obtain ⟨a, s1, h1, h2⟩ := OutR.bind_ok h
    obtain ⟨c, s2, h3, h4⟩ := OutR.bind_ok h2
    cases h4
    obtain ⟨j1, b1⟩ := wk_ok hlk hw.1 hj h1
    obtain ⟨j2, b2⟩ := wk_ok hlk hw.2 j1 h3
    exact ⟨j2, a, c, b1, b2, rfl⟩
  | .pick x y z, s, s', v, hw, hj, h => by
    obtain ⟨a, s1, h1, h2⟩ := OutR.bind_ok h
    obtain ⟨j1, b1⟩ := wk_ok hlk hw.1 hj h1
    by_cases c : a > 0
    · simp only [if_pos c] at h2
      obtain ⟨j2, b2⟩ := wk_ok hlk hw.2.1 j1 h2
      exact ⟨j2, a, b1, fun _ => b2, fun n => absurd c n⟩
    · simp only [if_neg c] at h2
      obtain ⟨j2, b2⟩ := wk_ok hlk hw.2.2 j1 h2
      exact ⟨j2, a, b1, fun n => absurd n c, fun _ => b2⟩
  | .choose x ns, s, s', v, hw, hj, h => by
    obtain ⟨a, s1, h1, h2⟩ := OutR.bind_ok h
    obtain ⟨j1, b1⟩ := wk_ok hlk hw.1 hj h1
    obtain ⟨i, _, hi⟩ := nth_mem hw.2.1 a
    obtain ⟨j2, b2⟩ := hlk s1 _ v s' j1 (hw.2.2.2 _ (List.mem_of_getElem? hi)) h2
    exact ⟨j2, a, b1, b2⟩
end
/-- how the memory changes while names are looked for: what is not the reckoner's stays -/
structure FrOk {S : Type} (At : S → Hp → Prop) (Fr : Hp → Hp → Prop) : Prop where
  refl : ∀ H, Fr H H
  trans : ∀ {A B C}, Fr A B → Fr B C → Fr A C
  keep : ∀ {s H H'}, At s H → Fr H H' → Keep H H'
  ext : ∀ {s H H' b phi}, At s H → Fr H H' → H b = some (.ext phi) → H' b = some (.ext phi)
def TellW {S : Type} (At : S → Hp → Prop) (Fr : Hp → Hp → Prop) (Er : XErr → XK → Hp → Prop) (Q : VK) (E : XK) (H : Hp) : OutR S → Prop
  | .ok v s => ∀ H', Fr H H' → At s H' → Q (.int v) H'
  | .err x => ∀ H', Fr H H' → Er x E H'
theorem TellW.from {S : Type} {At : S → Hp → Prop} {Fr : Hp → Hp → Prop} {Er : XErr → XK → Hp → Prop} {Q : VK} {E : XK} {H H1 : Hp} {o : OutR S} (F : FrOk At Fr) (h : TellW At Fr Er Q E H o) (f : Fr H H1) : TellW At Fr Er Q E H1 o := by
  cases o with
  | ok v s => exact fun H' g a => h H' (F.trans f g) a
  | err x => exact fun H' g => h H' (F.trans f g)
/-- the promise of the handed function -/
def spLk {S : Type} (At : S → Hp → Prop) (Fr : Hp → Hp → Prop) (Er : XErr → XK → Hp → Prop) (J : S → Prop) (lk : S → List Nat → OutR S) (WS : List (Option V)) : List (Option V) → Sp := fun ws vs H Q E => ws = WS ∧ ∃ (t : List Nat) (s : S), vs = [.str (SX.S t)] ∧ At s H ∧ J s ∧ Nm t ∧ TellW At Fr Er Q E H (lk s t)
def spWB {S : Type} (At : S → Hp → Prop) (Fr : Hp → Hp → Prop) (Er : XErr → XK → Hp → Prop) (J : S → Prop) (lk : S → List Nat → OutR S) (f : Addr) (F : NF) (g : List Nat → Int → Prop) (j : Nat) : Sp := fun vs H Q E => ∃ (v : V) (r : Rcp) (s : S), vs = [v, .ref f] ∧ Rec H r v ∧ r.Wn ∧ r.dep ≤ j ∧ r.Fit g ∧ At s H ∧ J s ∧
  H f = some (FnO f F) ∧ H F.c = some (CodeO F.c F.qual) ∧ TellW At Fr Er Q E H (wk lk r s)
def spPut : Sp := fun vs H Q _ => ∃ (k : Kd) (x y : Int), vs = [.str k.name, .int x, .int y] ∧ (k = .times → CMulW x y) ∧ Q (.int (k.ap x y)) H
theorem dep1 {k : Kd} {a b : Rcp} {j : Nat} (h : (Rcp.two k a b).dep ≤ j + 1) : a.dep ≤ j ∧ b.dep ≤ j := by
  have e : (Rcp.two k a b).dep = max a.dep b.dep + 1 := rfl
  omega
section
variable {P : Program} {w : World} {K : PySem.W.Frag} {mg : Str → Option Value} {base : Heap}
abbrev s_put_together : Stmt := topS 5
abbrev N_put_together : List Str := ["kind", "one", "other"]
theorem sc_put_together : FnScope N_put_together ["kind", "one", "other"] (defScope s_put_together) := ⟨rfl, rfl, rfl, by decide +kernel, rfl, by decide +kernel, by decide +kernel⟩

theorem ok_put_together (T : Txt K mg) (D : IsDef K mg "put_together" s_put_together ["kind", "one", "other"]) : Cal P w K mg base CX0 1 "put_together" ["kind", "one", "other"] spPut := by
  refine D.cal sc_put_together (fun vs H Q E h => ?_) (fun f cdv A outer s H vs Q E hr h => ?_)
  · obtain ⟨k, x, y, rfl, _⟩ := h
    rfl
  obtain ⟨k, x, y, rfl, hw, q⟩ := h
  refine ⟨_, (pss_cons (ps_if (pt_cmpR op_eq (pv 0) pe_str (nomark _))
        (pss_one (ps_ret (pe_op op_add (pv 1) (pv 2))))
        pss_nil)
      (pss_cons (ps_if (pt_cmpR op_eq (pv 0) pe_str (nomark _))
        (pss_one (ps_ret (pe_op op_sub (pv 1) (pv 2))))
        pss_nil)
      (pss_cons (ps_if (pt_cmpR op_eq (pv 0) pe_str (nomark _))
        (pss_one (ps_ret (pe_op op_mulW (pv 1) (pv 2))))
        pss_nil)
      (pss_one (ps_ret (pe_callB (call_max2 rfl) (by rfl) T.b_max (by decide +kernel) (pa_cons (pv 1) (pa_cons (pv 2) pa_nil)))))))), ?_⟩
  cases k with
  | plus => exact ⟨_, rfl, rfl, _, rfl, iteY rfl ⟨_, rfl, _, rfl, _, _, rfl, rfl, q⟩⟩
  | minus => exact ⟨_, rfl, rfl, _, rfl, iteN (sne (by decide +kernel)) ⟨_, rfl, rfl, _, rfl, iteY rfl ⟨_, rfl, _, rfl, _, _, rfl, rfl, q⟩⟩⟩
  | times => exact ⟨_, rfl, rfl, _, rfl, iteN (sne (by decide +kernel)) ⟨_, rfl, rfl, _, rfl, iteN (sne (by decide +kernel)) ⟨_, rfl, rfl, _, rfl, iteY rfl ⟨_, rfl, _, rfl, _, _, rfl, rfl, hw rfl, q⟩⟩⟩⟩
  | most => exact ⟨_, rfl, rfl, _, rfl, iteN (sne (by decide +kernel)) ⟨_, rfl, rfl, _, rfl, iteN (sne (by decide +kernel)) ⟨_, rfl, rfl, _, rfl, iteN (sne (by decide +kernel)) ⟨_, rfl, _, rfl, _, _, rfl, q⟩⟩⟩⟩
abbrev s_worth_by : Stmt := topS 6
abbrev N_worth_by : List Str := ["recipe", "look", "kind", "one"]
theorem sc_worth_by : FnScope N_worth_by ["recipe", "look"] (defScope s_worth_by) := ⟨rfl, rfl, rfl, by decide +kernel, rfl, by decide +kernel, by decide +kernel⟩

theorem ok_worth_by {S : Type} {At : S → Hp → Prop} {Fr : Hp → Hp → Prop} {Er : XErr → XK → Hp → Prop} {J : S → Prop} {lk : S → List Nat → OutR S} {fr : List Str} {ws : List (Option V)} {fl : Addr} {Fl : NF} {g : List Nat → Int → Prop} {L : Nat}
    (T : Txt K mg) (D : IsDef K mg "worth_by" s_worth_by ["recipe", "look"]) (C_put : Cal P w K mg base CX0 1 "put_together" ["kind", "one", "other"] spPut) (F : FrOk At Fr) (hlk : LkOk lk J g) (hL : 1 ≤ L)
    (Vlook : NOk P w K mg base (L2.CX P w) L fl Fl ["other"] fr (spLk At Fr Er J lk ws)) : ∀ j, CalC P w K mg base (L2.CX P w) (L + j) "worth_by" ["recipe", "look"] Fl.cl fr ws (spWB At Fr Er J lk fl Fl g j)
  | 0 => calC_none D fun vs H Q E h => by
    obtain ⟨_, r, _, _, _, _, hd, _⟩ := h
    have := dep_pos r
    omega
  | j + 1 => by
    have C_worth_by := ok_worth_by T D C_put F hlk hL Vlook j
    have C_put_together := C_put.mono (show 1 ≤ L + j by omega)
    have hLlook : L ≤ L + j := Nat.le_add_right _ _
    refine D.calC (k := L + j) sc_worth_by (fun vs H Q E h => ?_) (fun f cdv A outer s H vs Q E hr CA h => ?_)
    · obtain ⟨v, r, s, rfl, _⟩ := h
      rfl
    obtain ⟨v, r, st, rfl, hRc, hw, hd, hbt, hA, hJ, hf, hc, q⟩ := h
    refine ⟨_, (pss_cons (ps_set (i := 2) sc_worth_by.nd rfl (Or.inl rfl) (pe_ix (r := rIxT K) ix_tup (pv 0) pe_int (fun _ _ => rfl)))
      (pss_cons (ps_if (pt_cmpR op_eq (pv 2) pe_str (nomark _))
        (pss_one (ps_ret (pe_ix (r := rIxT K) ix_tup (pv 0) pe_int (fun _ _ => rfl))))
        pss_nil)
      (pss_cons (ps_if (pt_cmpR op_eq (pv 2) pe_str (nomark _))
        (pss_one (ps_ret (pe_callV (i := 1) Vlook rfl CA hr hLlook (passes_call (takes_of rfl rfl rfl rfl) (fun _ _ _ _ h => h)) (pa_cons (pe_ix (r := rIxT K) ix_tup (pv 0) pe_int (fun _ _ => rfl)) pa_nil))))
        pss_nil)
      (pss_cons (ps_set (i := 3) sc_worth_by.nd rfl (Or.inl rfl) (pe_callC C_worth_by rfl CA (hr.mono (by first | decide | omega)) (passes_call (takes_of rfl rfl rfl rfl) (fun _ _ _ _ h => h)) (pa_cons (pe_ix (r := rIxT K) ix_tup (pv 0) pe_int (fun _ _ => rfl)) (pa_cons (pv 1) pa_nil))))
      (pss_cons (ps_if (pt_cmpR op_eq (pv 2) pe_str (nomark _))
        (pss_one (ps_ret (pe_callV (i := 1) Vlook rfl CA hr hLlook (passes_call (takes_of rfl rfl rfl rfl) (fun _ _ _ _ h => h)) (pa_cons (pe_ix (r := rIxT K) ix_tup (pe_ix (r := rIxT K) ix_tup (pv 0) pe_int (fun _ _ => rfl)) (pe_op op_mod (pv 3) (pe_callB call_len_seq (by rfl) T.b_len PySem.boot_len (pa_cons (pe_ix (r := rIxT K) ix_tup (pv 0) pe_int (fun _ _ => rfl)) pa_nil))) (fun _ _ => rfl)) pa_nil))))
        pss_nil)
      (pss_cons (ps_if (PW.pt (pw_and (pt_cmpR op_eq (pv 2) pe_str (nomark _)) (pw_and1 (pt_cmpR op_gt (pv 3) pe_int (nomark _)))))
        (pss_one (ps_ret (pe_callC C_worth_by rfl CA (hr.mono (by first | decide | omega)) (passes_call (takes_of rfl rfl rfl rfl) (fun _ _ _ _ h => h)) (pa_cons (pe_ix (r := rIxT K) ix_tup (pv 0) pe_int (fun _ _ => rfl)) (pa_cons (pv 1) pa_nil)))))
        pss_nil)
      (pss_cons (ps_if (pt_cmpR op_eq (pv 2) pe_str (nomark _))
        (pss_one (ps_ret (pe_callC C_worth_by rfl CA (hr.mono (by first | decide | omega)) (passes_call (takes_of rfl rfl rfl rfl) (fun _ _ _ _ h => h)) (pa_cons (pe_ix (r := rIxT K) ix_tup (pv 0) pe_int (fun _ _ => rfl)) (pa_cons (pv 1) pa_nil)))))
        pss_nil)
      (pss_one (ps_ret (pe_cal C_put_together (hr.mono (by first | decide | omega)) pass0 (pa_cons (pv 2) (pa_cons (pv 3) (pa_cons (pe_callC C_worth_by rfl CA (hr.mono (by first | decide | omega)) (passes_call (takes_of rfl rfl rfl rfl) (fun _ _ _ _ h => h)) (pa_cons (pe_ix (r := rIxT K) ix_tup (pv 0) pe_int (fun _ _ => rfl)) (pa_cons (pv 1) pa_nil))) pa_nil))))))))))))), ?_⟩
    have sub : ∀ {x : Rcp} {xv : V} {Q' : VK}, x.Wn → x.dep ≤ j → x.Fit g → Rec H x xv → (∀ y s1 H1, wk lk x st = .ok y s1 → Fr H H1 → At s1 H1 → Q' (.int y) H1) → (∀ e, wk lk x st = .err e → ∀ H', Fr H H' → Er e E H') → spWB At Fr Er J lk fl Fl g j [xv, .ref fl] H Q' E := fun {x xv Q'} hw hd hb hR h1 h2 => by
      refine ⟨xv, x, st, rfl, hR, hw, hd, hb, hA, hJ, hf, hc, ?_⟩
      cases e : wk lk x st with
      | ok y s1 => exact fun H1 g a => h1 y s1 H1 e g a
      | err e' => exact fun H1 g => h2 e' e H1 g
    cases r with
    | num x =>
      obtain ⟨p, rfl, hp⟩ := hRc
      refine ⟨_, rfl, p, _, _, _, rfl, rfl, SqT.of hp, rfl, ⟨_, rfl, rfl, _, rfl, iteY rfl ?_⟩⟩
      exact ⟨_, rfl, p, _, _, _, rfl, rfl, SqT.of hp, rfl, q H (F.refl H) hA⟩
    | read s0 =>
      obtain ⟨p, rfl, hp⟩ := hRc
      refine ⟨_, rfl, p, _, _, _, rfl, rfl, SqT.of hp, rfl, ⟨_, rfl, rfl, _, rfl, iteN (sne (by decide +kernel)) ?_⟩⟩
      refine ⟨_, rfl, rfl, _, rfl, iteY rfl ?_⟩
      exact ⟨rfl, hf, _, rfl, p, _, _, _, rfl, rfl, SqT.of hp, rfl, hf, hc, rfl, s0, st, rfl, hA, hJ, hw, q⟩
    | two k x y =>
      obtain ⟨p, vx, vy, rfl, hp, hx, hy⟩ := hRc
      obtain ⟨hdx, hdy⟩ := dep1 hd
      refine ⟨_, rfl, p, _, _, _, rfl, rfl, SqT.of hp, rfl, ⟨_, rfl, rfl, _, rfl, iteN (sne (by cases k <;> decide +kernel)) ?_⟩⟩
      refine ⟨_, rfl, rfl, _, rfl, iteN (sne (by cases k <;> decide +kernel)) ?_⟩
      refine ⟨_, rfl, p, _, _, _, rfl, rfl, SqT.of hp, rfl, _, rfl, sub hw.1 hdx hbt.1 hx (fun a s1 H1 e1 f1 A1 => ?_) (fun e e1 => by rw [show wk lk (.two k x y) st = .err e by show OutR.bind _ _ = _; rw [e1]; rfl] at q; exact q)⟩
      obtain ⟨J1, n1⟩ := wk_ok hlk hw.1 hJ e1
      have k1 := F.keep hA f1
      have hp1 := k1 _ _ hp
      have q' : TellW At Fr Er Q E H ((wk lk y s1).bind fun c s2 => .ok (k.ap a c) s2) := by
        rw [show wk lk (.two k x y) st = (wk lk y s1).bind fun c s2 => .ok (k.ap a c) s2 by show OutR.bind _ _ = _; rw [e1]; rfl] at q
        exact q
      refine ⟨_, rfl, rfl, _, rfl, iteN (sne (by cases k <;> decide +kernel)) ?_⟩
      refine ⟨_, rfl, rfl, _, rfl, iteN (sne (by cases k <;> decide +kernel)) ?_⟩
      refine ⟨_, rfl, rfl, _, rfl, iteN (sne (by cases k <;> decide +kernel)) ?_⟩
      refine ⟨_, rfl, _, rfl, _, rfl, p, _, _, _, rfl, rfl, SqT.of hp1, rfl, _, rfl, vy, y, s1, rfl, hy.keep k1, hw.2, hdy, (hbt.2 a n1).1, A1, J1, F.ext hA f1 hf, F.ext hA f1 hc, ?_⟩
      cases e2 : wk lk y s1 with
      | ok c s2 =>
        intro H2 f2 A2
        obtain ⟨J2, n2⟩ := wk_ok hlk hw.2 J1 e2
        refine ⟨k, a, c, rfl, (hbt.2 a n1).2 c n2, ?_⟩
        rw [e2] at q'
        exact q' H2 (F.trans f1 f2) A2
      | err e =>
        intro H2 f2
        rw [e2] at q'
        exact q' H2 (F.trans f1 f2)
    | pick x y z =>
      obtain ⟨p, vx, vy, vz, rfl, hp, hx, hy, hz⟩ := hRc
      have hd1 : x.dep ≤ j ∧ y.dep ≤ j ∧ z.dep ≤ j := by
        have e : (Rcp.pick x y z).dep = max x.dep (max y.dep z.dep) + 1 := rfl
        omega
      refine ⟨_, rfl, p, _, _, _, rfl, rfl, SqT.of hp, rfl, ⟨_, rfl, rfl, _, rfl, iteN (sne (by decide +kernel)) ?_⟩⟩
      refine ⟨_, rfl, rfl, _, rfl, iteN (sne (by decide +kernel)) ?_⟩
      refine ⟨_, rfl, p, _, _, _, rfl, rfl, SqT.of hp, rfl, _, rfl, sub hw.1 hd1.1 hbt.1 hx (fun a s1 H1 e1 f1 A1 => ?_) (fun e e1 => by rw [show wk lk (.pick x y z) st = .err e by show OutR.bind _ _ = _; rw [e1]; rfl] at q; exact q)⟩
      obtain ⟨J1, n1⟩ := wk_ok hlk hw.1 hJ e1
      have k1 := F.keep hA f1
      have hp1 := k1 _ _ hp
      have q' : TellW At Fr Er Q E H (if a > 0 then wk lk y s1 else wk lk z s1) := by
        rw [show wk lk (.pick x y z) st = if a > 0 then wk lk y s1 else wk lk z s1 by show OutR.bind _ _ = _; rw [e1]; rfl] at q
        exact q
      refine ⟨_, rfl, rfl, _, rfl, iteN (sne (by decide +kernel)) ?_⟩
      refine ⟨_, rfl, rfl, _, rfl, iteY rfl ?_⟩
      refine ⟨_, rfl, _, _, rfl, rfl, _, rfl, ?_⟩
      by_cases c0 : a > 0
      · rw [if_pos c0] at q'
        refine iteY c0 ?_
        exact ⟨_, rfl, p, _, _, _, rfl, rfl, SqT.of hp1, rfl, _, rfl, vy, y, s1, rfl, hy.keep k1, hw.2.1, hd1.2.1, (hbt.2 a n1).1 c0, A1, J1, F.ext hA f1 hf, F.ext hA f1 hc, TellW.from F q' f1⟩
      · rw [if_neg c0] at q'
        refine iteN c0 ?_
        refine ⟨_, rfl, rfl, _, rfl, iteY rfl ?_⟩
        exact ⟨_, rfl, p, _, _, _, rfl, rfl, SqT.of hp1, rfl, _, rfl, vz, z, s1, rfl, hz.keep k1, hw.2.2, hd1.2.2, (hbt.2 a n1).2 c0, A1, J1, F.ext hA f1 hf, F.ext hA f1 hc, TellW.from F q' f1⟩
    | choose x ns =>
      obtain ⟨p, vx, t2, rfl, hp, hx, ht2⟩ := hRc
      have hd1 : x.dep ≤ j := by
        have e : (Rcp.choose x ns).dep = x.dep + 1 := rfl
        omega
      refine ⟨_, rfl, p, _, _, _, rfl, rfl, SqT.of hp, rfl, ⟨_, rfl, rfl, _, rfl, iteN (sne (by decide +kernel)) ?_⟩⟩
      refine ⟨_, rfl, rfl, _, rfl, iteN (sne (by decide +kernel)) ?_⟩
      refine ⟨_, rfl, p, _, _, _, rfl, rfl, SqT.of hp, rfl, _, rfl, sub hw.1 hd1 hbt hx (fun a s1 H1 e1 f1 A1 => ?_) (fun e e1 => by rw [show wk lk (.choose x ns) st = .err e by show OutR.bind _ _ = _; rw [e1]; rfl] at q; exact q)⟩
      obtain ⟨J1, n1⟩ := wk_ok hlk hw.1 hJ e1
      have k1 := F.keep hA f1
      have hp1 := k1 _ _ hp
      have ht21 := k1 _ _ ht2
      have q' : TellW At Fr Er Q E H (lk s1 (nthN ns a)) := by
        rw [show wk lk (.choose x ns) st = lk s1 (nthN ns a) by show OutR.bind _ _ = _; rw [e1]; rfl] at q
        exact q
      obtain ⟨i, hi, hi2⟩ := nth_mem hw.2.1 a
      have hi3 := (List.getElem?_eq_some_iff.mp hi2).1
      refine ⟨_, rfl, rfl, _, rfl, iteY rfl ?_⟩
      refine ⟨rfl, F.ext hA f1 hf, _, rfl, p, _, _, _, rfl, rfl, SqT.of hp1, rfl, _, rfl, _, rfl, p, _, _, _, rfl, rfl, SqT.of hp1, rfl, t2, _, rfl, .inr (SqT.of ht21), _, _, rfl, rfl, ?_, t2, _, _, .str (SX.S (nthN ns a)), rfl, rfl, SqT.of ht21, ?_, F.ext hA f1 hf, F.ext hA f1 hc, rfl, nthN ns a, s1, rfl, A1, J1, hw.2.2.2 _ (List.mem_of_getElem? hi2), TellW.from F q' f1⟩
      · show (0 : Int) < ((txs ns).length : Nat)
        rw [txs_len]
        have := hw.2.1
        omega
      · show atI (txs ns) (a % (((txs ns).length : Nat) : Int)) = _
        rw [txs_len, hi]
        refine atI_nat ?_
        rw [txs_get hi3, Option.some.inj ((List.getElem?_eq_getElem hi3).symm.trans hi2)]
end
/-! ### the reckoner: plain facts -/
theorem sub_lenR {α : Type} [DecidableEq α] : ∀ {l m : List α}, l.Nodup → (∀ x ∈ l, x ∈ m) → l.length ≤ m.length
  | [], _, _, _ => Nat.zero_le _
  | a :: l, m, nd, h => by
    obtain ⟨h1, h2⟩ := List.nodup_cons.mp nd
    have ha := h a (List.mem_cons_self ..)
    have := sub_lenR (m := m.erase a) h2 fun x hx => (List.mem_erase_of_ne (fun e => h1 (by rw [← e]; exact hx))).mpr (h x (List.mem_cons_of_mem _ hx))
    rw [List.length_erase_of_mem ha] at this
    have : 0 < m.length := List.length_pos_of_mem ha
    show l.length + 1 ≤ m.length
    omega
abbrev RcpNm := List Nat × Rcp
structure House where
  given : List Pr
  recs : List RcpNm
def rcpOf (l : List RcpNm) (s : List Nat) : Option Rcp := (l.find? fun p => decide (p.1 = s)).map (·.2)
/-- worths known, what was read for them, what is being looked for -/
structure RkS where
  known : List Pr
  read : List (List Nat × List Pr)
  asked : List (List Nat)
/-- a key's worth put down, where it stood or behind -/
def putA {α : Type} (l : List (List Nat × α)) (s : List Nat) (v : α) : List (List Nat × α) := if (l.any fun p => decide (p.1 = s)) = true then l.map (fun p => if p.1 = s then (p.1, v) else p) else l ++ [(s, v)]
def setd (own : List Pr) (t : List Nat) (v : Int) : List Pr := match seen own t with
  | some _ => own
  | none => putA own t v
def lkOwn (lk : RkS → List Nat → OutR RkS) (p : RkS × List Pr) (t : List Nat) : OutR (RkS × List Pr) := match lk p.1 t with
  | .ok v s => .ok v (s, setd p.2 t v)
  | .err e => .err e
def lkR (h : House) : Nat → RkS → List Nat → OutR RkS
  | 0, _, _ => .err (.ring [])
  | n + 1, s, t => match seen s.known t with
    | some v => .ok v s
    | none => match seen h.given t with
      | some v => .ok v { s with known := putA s.known t v }
      | none => match rcpOf h.recs t with
        | none => .err (.noName t)
        | some r => if t ∈ s.asked then .err (.ring (s.asked.drop (s.asked.idxOf t) ++ [t])) else
          match wk (lkOwn (lkR h n)) r ({ s with asked := s.asked ++ [t] }, []) with
          | .ok v p => .ok v { known := putA p.1.known t v, read := putA p.1.read t p.2, asked := p.1.asked.dropLast }
          | .err e => .err e
theorem putA_new {α : Type} {l : List (List Nat × α)} {s : List Nat} (v : α) (h : ¬ s ∈ l.map (·.1)) : putA l s v = l ++ [(s, v)] := by
  unfold putA
  rw [if_neg]
  intro z
  obtain ⟨p, hp, e⟩ := List.any_eq_true.mp z
  exact h (List.mem_map.mpr ⟨p, hp, of_decide_eq_true e⟩)
theorem putA_keys {α : Type} (l : List (List Nat × α)) (s : List Nat) (v : α) : (putA l s v).map (·.1) = if s ∈ l.map (·.1) then l.map (·.1) else l.map (·.1) ++ [s] := by
  unfold putA
  by_cases h : s ∈ l.map (·.1)
  · rw [if_pos h, if_pos]
    · rw [List.map_map]
      refine List.map_congr_left fun p _ => ?_
      show (if p.1 = s then (p.1, v) else p).1 = p.1
      split <;> rfl
    · obtain ⟨p, hp, e⟩ := List.mem_map.mp h
      exact List.any_eq_true.mpr ⟨p, hp, decide_eq_true e⟩
  · rw [if_neg h, if_neg, List.map_append]
    · rfl
    · intro z
      obtain ⟨p, hp, e⟩ := List.any_eq_true.mp z
      exact h (List.mem_map.mpr ⟨p, hp, of_decide_eq_true e⟩)
theorem putA_len {α : Type} (l : List (List Nat × α)) (s : List Nat) (v : α) : (putA l s v).length = if s ∈ l.map (·.1) then l.length else l.length + 1 := by
  have := congrArg List.length (putA_keys l s v)
  rw [List.length_map] at this
  rw [this]
  split
  · rw [List.length_map]
  · rw [List.length_append, List.length_map]; rfl
theorem mem_putA {α : Type} {l : List (List Nat × α)} {s : List Nat} {v : α} {p : List Nat × α} (h : p ∈ putA l s v) : p = (s, v) ∨ p ∈ l := by
  unfold putA at h
  split at h
  · obtain ⟨q, hq, e⟩ := List.mem_map.mp h
    by_cases c : q.1 = s
    · rw [if_pos c] at e
      exact .inl (by rw [← e, c])
    · rw [if_neg c] at e
      exact .inr (e ▸ hq)
  · exact (List.mem_append.mp h).elim .inr fun h => .inl (List.mem_singleton.mp h)
theorem rcpOf_mem {l : List RcpNm} {s : List Nat} {r : Rcp} (h : rcpOf l s = some r) : (s, r) ∈ l := by
  unfold rcpOf at h
  cases e : l.find? fun p => decide (p.1 = s) with
  | none => rw [e] at h; cases h
  | some p =>
    rw [e] at h
    have h1 := List.mem_of_find?_eq_some e
    have h2 : p.1 = s := by
      have := List.find?_some e
      exact of_decide_eq_true this
    have h3 : p.2 = r := Option.some.inj h
    rw [← h2, ← h3]
    exact h1
/-! #### growth: how great the worths become -/
theorem bits_mono {a b : Nat} (h : a ≤ b) : ∀ r : Rcp, r.bits a ≤ r.bits b
  | .num _ => Nat.le_refl _
  | .read _ => h
  | .two k x y => by
    have hx := bits_mono h x
    have hy := bits_mono h y
    cases k <;> simp only [Rcp.bits] <;> omega
  | .pick x y z => by
    have hx := bits_mono h x
    have hy := bits_mono h y
    have hz := bits_mono h z
    simp only [Rcp.bits]; omega
  | .choose x _ => by
    have hx := bits_mono h x
    simp only [Rcp.bits]; omega
theorem putA_nd {α : Type} {l : List (List Nat × α)} {s : List Nat} {v : α} (h : (l.map (·.1)).Nodup) : ((putA l s v).map (·.1)).Nodup := by
  rw [putA_keys]
  split
  · exact h
  · rename_i c
    exact List.nodup_append.mpr ⟨h, List.nodup_cons.mpr ⟨(fun z => nomatch z), List.nodup_nil⟩, fun a ha b hb e => c (by rw [List.mem_singleton.mp hb] at e; rw [← e]; exact ha)⟩
theorem putA_mem {α : Type} {l : List (List Nat × α)} {s u : List Nat} {v : α} : u ∈ (putA l s v).map (·.1) ↔ u ∈ l.map (·.1) ∨ u = s := by
  rw [putA_keys]
  split
  · rename_i c
    exact ⟨.inl, fun h => h.elim id fun e => by rw [e]; exact c⟩
  · rw [List.mem_append, List.mem_singleton]
theorem mem_setd {own : List Pr} {t : List Nat} {v : Int} {q : Pr} (h : q ∈ setd own t v) : q = (t, v) ∨ q ∈ own := by
  unfold setd at h
  split at h
  · exact .inr h
  · exact mem_putA h
/-! ### worths by themselves: no memory of what was asked -/
theorem bind_okI {S : Type} {r : OutR S} {f : Int → S → OutR S} {x : Int} {s : S} (h : r = .ok x s) : r.bind f = f x s := by rw [h]; rfl
def dnL (f : List Nat → Option Int) (o : List Pr) (t : List Nat) : OutR (List Pr) := match f t with
  | some v => .ok v (setd o t v)
  | none => .err (.noName t)
def val (h : House) : Nat → List Nat → Option Int
  | 0, _ => none
  | n + 1, t => match seen h.given t with
    | some v => some v
    | none => match rcpOf h.recs t with
      | none => none
      | some r => match wk (dnL (val h n)) r [] with
        | .ok v _ => some v
        | .err _ => none
theorem dnL_ok {f : List Nat → Option Int} {o o' : List Pr} {t : List Nat} {v : Int} (h : dnL f o t = .ok v o') : f t = some v ∧ o' = setd o t v := by
  unfold dnL at h
  cases e : f t with
  | none => rw [e] at h; cases h
  | some x => rw [e] at h; cases h; exact ⟨rfl, rfl⟩
theorem dnL_some {f : List Nat → Option Int} {t : List Nat} {v : Int} (h : f t = some v) (o : List Pr) : dnL f o t = .ok v (setd o t v) := by unfold dnL; rw [h]
theorem seen_key {l : List Pr} {t : List Nat} {v : Int} (h : seen l t = some v) : t ∈ l.map (·.1) := List.mem_map.mpr ⟨_, seen_mem h, rfl⟩
theorem setd_keys {o : List Pr} {t u : List Nat} {v : Int} : u ∈ (setd o t v).map (·.1) ↔ u ∈ o.map (·.1) ∨ u = t := by
  unfold setd
  cases e : seen o t with
  | some x => exact ⟨.inl, fun h => h.elim id fun e2 => by rw [e2]; exact seen_key e⟩
  | none => exact putA_mem
/-- what is read grows; only what is read matters -/
theorem wk_agree {f : List Nat → Option Int} : ∀ {r : Rcp} {o o' : List Pr} {v : Int}, wk (dnL f) r o = .ok v o' → (∀ u ∈ o.map (·.1), u ∈ o'.map (·.1)) ∧ ∀ g : List Nat → Option Int, (∀ t x, f t = some x → t ∈ o'.map (·.1) → g t = some x) → wk (dnL g) r o = .ok v o' := by
  have look : ∀ {t : List Nat} {o o' : List Pr} {v : Int}, dnL f o t = .ok v o' → (∀ u ∈ o.map (·.1), u ∈ o'.map (·.1)) ∧ ∀ g : List Nat → Option Int, (∀ t x, f t = some x → t ∈ o'.map (·.1) → g t = some x) → dnL g o t = .ok v o' := by
    intro t o o' v h
    obtain ⟨e, rfl⟩ := dnL_ok h
    exact ⟨fun u hu => setd_keys.mpr (.inl hu), fun g hg => dnL_some (hg t v e (setd_keys.mpr (.inr rfl))) o⟩
  intro r
  induction r with
  | num n => intro o o' v h; cases h; exact ⟨fun _ h => h, fun g _ => rfl⟩
  | read t => exact fun h => look h
  | two k a b ia ib =>
    intro o o' v h
    obtain ⟨x, o1, h1, h2⟩ := OutR.bind_ok h
    obtain ⟨y, o2, h3, h4⟩ := OutR.bind_ok h2
    cases h4
    obtain ⟨k1, g1⟩ := ia h1
    obtain ⟨k2, g2⟩ := ib h3
    exact ⟨fun u hu => k2 u (k1 u hu), fun g hg => by
      show (wk (dnL g) a o).bind _ = _
      rw [bind_okI (g1 g fun t x e ht => hg t x e (k2 t ht)), bind_okI (g2 g hg)]⟩
  | pick a b c ia ib ic =>
    intro o o' v h
    obtain ⟨x, o1, h1, h2⟩ := OutR.bind_ok h
    obtain ⟨k1, g1⟩ := ia h1
    by_cases z : x > 0
    · simp only [if_pos z] at h2
      obtain ⟨k2, g2⟩ := ib h2
      exact ⟨fun u hu => k2 u (k1 u hu), fun g hg => by
        show (wk (dnL g) a o).bind _ = _
        rw [bind_okI (g1 g fun t x e ht => hg t x e (k2 t ht)), if_pos z, g2 g hg]⟩
    · simp only [if_neg z] at h2
      obtain ⟨k2, g2⟩ := ic h2
      exact ⟨fun u hu => k2 u (k1 u hu), fun g hg => by
        show (wk (dnL g) a o).bind _ = _
        rw [bind_okI (g1 g fun t x e ht => hg t x e (k2 t ht)), if_neg z, g2 g hg]⟩
  | choose a ns ia =>
    intro o o' v h
    obtain ⟨x, o1, h1, h2⟩ := OutR.bind_ok h
    obtain ⟨k1, g1⟩ := ia h1
    obtain ⟨k2, g2⟩ := look h2
    exact ⟨fun u hu => k2 u (k1 u hu), fun g hg => by
      show (wk (dnL g) a o).bind _ = _
      rw [bind_okI (g1 g fun t x e ht => hg t x e (k2 t ht)), g2 g hg]⟩
theorem wk_mono {f g : List Nat → Option Int} (hg : ∀ t x, f t = some x → g t = some x) {r : Rcp} {o o' : List Pr} {v : Int} (h : wk (dnL f) r o = .ok v o') : wk (dnL g) r o = .ok v o' := (wk_agree h).2 g fun t x e _ => hg t x e
/-- what is read was told by f -/
theorem wk_told {f : List Nat → Option Int} : ∀ {r : Rcp} {o o' : List Pr} {v : Int}, (∀ p ∈ o, f p.1 = some p.2) → wk (dnL f) r o = .ok v o' → ∀ p ∈ o', f p.1 = some p.2 := by
  have look : ∀ {t : List Nat} {o o' : List Pr} {v : Int}, (∀ p ∈ o, f p.1 = some p.2) → dnL f o t = .ok v o' → ∀ p ∈ o', f p.1 = some p.2 := by
    intro t o o' v ho h p hp
    obtain ⟨e, rfl⟩ := dnL_ok h
    rcases mem_setd hp with rfl | hp
    · exact e
    · exact ho p hp
  intro r
  induction r with
  | num n => intro o o' v ho h; cases h; exact ho
  | read t => exact fun ho h => look ho h
  | two k a b ia ib =>
    intro o o' v ho h
    obtain ⟨x, o1, h1, h2⟩ := OutR.bind_ok h
    obtain ⟨y, o2, h3, h4⟩ := OutR.bind_ok h2
    cases h4
    exact ib (ia ho h1) h3
  | pick a b c ia ib ic =>
    intro o o' v ho h
    obtain ⟨x, o1, h1, h2⟩ := OutR.bind_ok h
    by_cases z : x > 0
    · simp only [if_pos z] at h2
      exact ib (ia ho h1) h2
    · simp only [if_neg z] at h2
      exact ic (ia ho h1) h2
  | choose a ns ia =>
    intro o o' v ho h
    obtain ⟨x, o1, h1, h2⟩ := OutR.bind_ok h
    exact look (ia ho h1) h2
theorem setd_nd {o : List Pr} {t : List Nat} {v : Int} (h : (o.map (·.1)).Nodup) : ((setd o t v).map (·.1)).Nodup := by
  unfold setd
  cases e : seen o t with
  | some x => exact h
  | none => exact putA_nd h
theorem wk_nd {f : List Nat → Option Int} : ∀ {r : Rcp} {o o' : List Pr} {v : Int}, (o.map (·.1)).Nodup → wk (dnL f) r o = .ok v o' → (o'.map (·.1)).Nodup := by
  have look : ∀ {t : List Nat} {o o' : List Pr} {v : Int}, (o.map (·.1)).Nodup → dnL f o t = .ok v o' → (o'.map (·.1)).Nodup := by
    intro t o o' v ho h
    obtain ⟨e, rfl⟩ := dnL_ok h
    exact setd_nd ho
  intro r
  induction r with
  | num n => intro o o' v ho h; cases h; exact ho
  | read t => exact fun ho h => look ho h
  | two k a b ia ib =>
    intro o o' v ho h
    obtain ⟨x, o1, h1, h2⟩ := OutR.bind_ok h
    obtain ⟨y, o2, h3, h4⟩ := OutR.bind_ok h2
    cases h4
    exact ib (ia ho h1) h3
  | pick a b c ia ib ic =>
    intro o o' v ho h
    obtain ⟨x, o1, h1, h2⟩ := OutR.bind_ok h
    by_cases z : x > 0
    · simp only [if_pos z] at h2
      exact ib (ia ho h1) h2
    · simp only [if_neg z] at h2
      exact ic (ia ho h1) h2
  | choose a ns ia =>
    intro o o' v ho h
    obtain ⟨x, o1, h1, h2⟩ := OutR.bind_ok h
    exact look (ia ho h1) h2
theorem val_succ {h : House} {n : Nat} {t : List Nat} : val h (n + 1) t = match seen h.given t with
    | some v => some v
    | none => match rcpOf h.recs t with
      | none => none
      | some r => match wk (dnL (val h n)) r [] with
        | .ok v _ => some v
        | .err _ => none := rfl
theorem val_mono {h : House} : ∀ {n : Nat} {t : List Nat} {v : Int}, val h n t = some v → val h (n + 1) t = some v
  | 0, t, v, e => by cases e
  | n + 1, t, v, e => by
    rw [val_succ] at e ⊢
    cases e1 : seen h.given t with
    | some x => rw [e1] at e; exact e
    | none =>
      rw [e1] at e
      cases e2 : rcpOf h.recs t with
      | none => rw [e2] at e; cases e
      | some r =>
        rw [e2] at e
        cases e3 : wk (dnL (val h n)) r [] with
        | err x => simp only [e3] at e; cases e
        | ok w o =>
          simp only [e3] at e
          simp only [wk_mono (fun t x e => val_mono e) e3]
          exact e
theorem val_le {h : House} {t : List Nat} {v : Int} {n m : Nat} (le : n ≤ m) (e : val h n t = some v) : val h m t = some v := by
  induction le with
  | refl => exact e
  | step _ ih => exact val_mono ih
def Val (h : House) (t : List Nat) (v : Int) : Prop := ∃ n, val h n t = some v
theorem Val.det {h : House} {t : List Nat} {v w : Int} (a : Val h t v) (b : Val h t w) : v = w := by
  obtain ⟨n, a⟩ := a
  obtain ⟨m, b⟩ := b
  have := (val_le (Nat.le_max_left n m) a).symm.trans (val_le (Nat.le_max_right n m) b)
  exact Option.some.inj this
def Rds (h : House) (t : List Nat) (own : List Pr) : Prop := seen h.given t = none ∧ ∃ r n v, rcpOf h.recs t = some r ∧ wk (dnL (val h n)) r [] = .ok v own
theorem Rds.det {h : House} {t : List Nat} {v w : List Pr} (a : Rds h t v) (b : Rds h t w) : v = w := by
  obtain ⟨_, r, n, x, e1, a⟩ := a
  obtain ⟨_, r2, m, y, e2, b⟩ := b
  obtain rfl : r = r2 := Option.some.inj (e1.symm.trans e2)
  have := (wk_mono (fun _ _ e => val_le (Nat.le_max_left n m) e) a).symm.trans (wk_mono (fun _ _ e => val_le (Nat.le_max_right n m) e) b)
  cases this
  rfl
theorem Rds.val {h : House} {t : List Nat} {own : List Pr} (a : Rds h t own) : ∀ p ∈ own, Val h p.1 p.2 := by
  obtain ⟨_, r, n, x, e1, a⟩ := a
  exact fun p hp => ⟨n, wk_told (fun p (h : p ∈ ([] : List Pr)) => nomatch h) a p hp⟩
theorem Rds.nd {h : House} {t : List Nat} {own : List Pr} (a : Rds h t own) : (own.map (·.1)).Nodup := by
  obtain ⟨_, r, n, x, e1, a⟩ := a
  exact wk_nd (o := []) List.nodup_nil a
theorem Val.given {h : House} {t : List Nat} {v : Int} (e : seen h.given t = some v) : Val h t v := ⟨1, by rw [val_succ, e]⟩
theorem Val.work {h : House} {t : List Nat} {v : Int} {r : Rcp} {n : Nat} {own : List Pr} (e : seen h.given t = none) (e2 : rcpOf h.recs t = some r) (e3 : wk (dnL (val h n)) r [] = .ok v own) : Val h t v := ⟨n + 1, by rw [val_succ, e, e2]; simp only [e3]⟩
/-- a name with a worth is given, or worked with what it reads -/
theorem Val.rds {h : House} {t : List Nat} {v : Int} (a : Val h t v) (e : seen h.given t = none) : ∃ own, Rds h t own ∧ ∃ r n, rcpOf h.recs t = some r ∧ wk (dnL (val h n)) r [] = .ok v own := by
  obtain ⟨n, a⟩ := a
  cases n with
  | zero => cases a
  | succ n =>
    rw [val_succ, e] at a
    cases e2 : rcpOf h.recs t with
    | none => rw [e2] at a; cases a
    | some r =>
      rw [e2] at a
      cases e3 : wk (dnL (val h n)) r [] with
      | err x => simp only [e3] at a; cases a
      | ok w o =>
        simp only [e3] at a
        cases a
        exact ⟨o, ⟨e, r, n, v, e2, e3⟩, r, n, rfl, e3⟩
theorem Ev_wk {h : House} : ∀ {r : Rcp} {v : Int}, r.Ev (Val h) v → ∀ o, ∃ n o', wk (dnL (val h n)) r o = .ok v o'
  | .num n, v, e, o => ⟨0, o, by rw [show v = n from e]; rfl⟩
  | .read t, v, ⟨n, e⟩, o => ⟨n, _, dnL_some e o⟩
  | .two k x y, v, ⟨a, c, h1, h2, e⟩, o => by
    obtain ⟨n1, o1, g1⟩ := Ev_wk h1 o
    obtain ⟨n2, o2, g2⟩ := Ev_wk h2 o1
    refine ⟨max n1 n2, o2, ?_⟩
    show (wk (dnL _) x o).bind _ = _
    rw [bind_okI (wk_mono (fun _ _ e => val_le (Nat.le_max_left _ _) e) g1), bind_okI (wk_mono (fun _ _ e => val_le (Nat.le_max_right _ _) e) g2), e]
  | .pick x y z, v, ⟨a, h1, h2, h3⟩, o => by
    obtain ⟨n1, o1, g1⟩ := Ev_wk h1 o
    by_cases c : a > 0
    · obtain ⟨n2, o2, g2⟩ := Ev_wk (h2 c) o1
      refine ⟨max n1 n2, o2, ?_⟩
      show (wk (dnL _) x o).bind _ = _
      rw [bind_okI (wk_mono (fun _ _ e => val_le (Nat.le_max_left _ _) e) g1), if_pos c, wk_mono (fun _ _ e => val_le (Nat.le_max_right _ _) e) g2]
    · obtain ⟨n2, o2, g2⟩ := Ev_wk (h3 c) o1
      refine ⟨max n1 n2, o2, ?_⟩
      show (wk (dnL _) x o).bind _ = _
      rw [bind_okI (wk_mono (fun _ _ e => val_le (Nat.le_max_left _ _) e) g1), if_neg c, wk_mono (fun _ _ e => val_le (Nat.le_max_right _ _) e) g2]
  | .choose x ns, v, ⟨a, h1, n2, e⟩, o => by
    obtain ⟨n1, o1, g1⟩ := Ev_wk h1 o
    refine ⟨max n1 n2, setd o1 (nthN ns a) v, ?_⟩
    show (wk (dnL _) x o).bind _ = _
    rw [bind_okI (wk_mono (fun _ _ e => val_le (Nat.le_max_left _ _) e) g1), dnL_some (val_le (Nat.le_max_right _ _) e) o1]
theorem wk_ev {f : List Nat → Option Int} : ∀ {r : Rcp} {o o' : List Pr} {v : Int}, wk (dnL f) r o = .ok v o' → r.Ev (fun t x => f t = some x ∧ t ∈ o'.map (·.1)) v := by
  have look : ∀ {t : List Nat} {o o' : List Pr} {v : Int}, dnL f o t = .ok v o' → f t = some v ∧ t ∈ o'.map (·.1) := by
    intro t o o' v h
    obtain ⟨e, rfl⟩ := dnL_ok h
    exact ⟨e, setd_keys.mpr (.inr rfl)⟩
  intro r
  induction r with
  | num n => intro o o' v h; cases h; rfl
  | read t => exact fun h => look h
  | two k a b ia ib =>
    intro o o' v h
    obtain ⟨x, o1, h1, h2⟩ := OutR.bind_ok h
    obtain ⟨y, o2, h3, h4⟩ := OutR.bind_ok h2
    cases h4
    have k2 := (wk_agree h3).1
    exact ⟨x, y, (ia h1).mono fun t x e => ⟨e.1, k2 t e.2⟩, ib h3, rfl⟩
  | pick a b c ia ib ic =>
    intro o o' v h
    obtain ⟨x, o1, h1, h2⟩ := OutR.bind_ok h
    by_cases z : x > 0
    · simp only [if_pos z] at h2
      have k2 := (wk_agree h2).1
      exact ⟨x, (ia h1).mono fun t x e => ⟨e.1, k2 t e.2⟩, fun _ => ib h2, fun n => absurd z n⟩
    · simp only [if_neg z] at h2
      have k2 := (wk_agree h2).1
      exact ⟨x, (ia h1).mono fun t x e => ⟨e.1, k2 t e.2⟩, fun n => absurd n z, fun _ => ic h2⟩
  | choose a ns ia =>
    intro o o' v h
    obtain ⟨x, o1, h1, h2⟩ := OutR.bind_ok h
    obtain ⟨e, rfl⟩ := dnL_ok h2
    exact ⟨x, (ia h1).mono fun t x e => ⟨e.1, setd_keys.mpr (.inl e.2)⟩, e, setd_keys.mpr (.inr rfl)⟩
theorem Val.work_ev {h : House} {t : List Nat} {v : Int} {r : Rcp} (e : seen h.given t = none) (e2 : rcpOf h.recs t = some r) (e3 : r.Ev (Val h) v) : Val h t v := by
  obtain ⟨n, o, g⟩ := Ev_wk e3 []
  exact .work e e2 g
/-- a house of good names and recipes -/
structure HouseN (dm : Nat) (h : House) (beta : Nat → Nat) : Prop where
  rcp : ∀ p ∈ h.recs, Nm p.1 ∧ p.2.Wn ∧ p.2.dep ≤ dm
  gvn : ∀ p ∈ h.given, Nm p.1
/-- no product on the way is too great for the machine -/
structure HouseOk (dm : Nat) (h : House) (beta : Nat → Nat) : Prop where
  n : HouseN dm h beta
  fit : ∀ p ∈ h.recs, seen h.given p.1 = none → p.2.Fit (Val h)
theorem HouseOk.rcp {dm : Nat} {h : House} {beta : Nat → Nat} (H : HouseOk dm h beta) : ∀ p ∈ h.recs, Nm p.1 ∧ p.2.Wn ∧ p.2.dep ≤ dm := H.n.rcp
def emptyS : RkS := ⟨[], [], []⟩
structure RkOk (h : House) (beta : Nat → Nat) (s : RkS) : Prop where
  nd : (s.asked ++ s.read.map (·.1)).Nodup
  sub : ∀ t ∈ s.asked ++ s.read.map (·.1), t ∈ h.recs.map (·.1)
  val : ∀ p ∈ s.known, Nm p.1 ∧ Val h p.1 p.2
  rds : ∀ p ∈ s.read, ∀ q ∈ p.2, Nm q.1
  kn : ∀ t ∈ s.read.map (·.1), t ∈ s.known.map (·.1)
  kd : (s.known.map (·.1)).Nodup
  ks : ∀ t ∈ s.known.map (·.1), t ∈ h.given.map (·.1) ++ h.recs.map (·.1)
theorem RkOk.len {h : House} {beta : Nat → Nat} {s : RkS} (o : RkOk h beta s) : s.asked.length + s.read.length ≤ h.recs.length := by
  have := sub_lenR o.nd o.sub
  rw [List.length_append, List.length_map, List.length_map] at this
  exact this
theorem RkOk.klen {h : House} {beta : Nat → Nat} {s : RkS} (o : RkOk h beta s) : s.known.length ≤ h.given.length + h.recs.length := by
  have := sub_lenR o.kd o.ks
  rw [List.length_append, List.length_map, List.length_map, List.length_map] at this
  exact this
/-- what one look for t does to a state -/
structure Step (h : House) (beta : Nat → Nat) (s : RkS) (t : List Nat) (v : Int) (s' : RkS) : Prop where
  ok : RkOk h beta s'
  mono : ∀ u ∈ s.known.map (·.1), u ∈ s'.known.map (·.1)
  got : t ∈ s'.known.map (·.1)
  asked : s'.asked = s.asked
  le : s.read.length ≤ s'.read.length
  worth : Val h t v
/-- what a recipe has read so far -/
structure OwnOk (beta : Nat → Nat) (s : RkS) (own : List Pr) : Prop where
  nd : (own.map (·.1)).Nodup
  kn : ∀ u ∈ own.map (·.1), u ∈ s.known.map (·.1)
  sm : ∀ q ∈ own, Nm q.1
theorem OwnOk.nil (beta : Nat → Nat) (s : RkS) : OwnOk beta s [] := ⟨List.nodup_nil, (fun _ h => nomatch h), fun _ h => nomatch h⟩
theorem OwnOk.len {h : House} {beta : Nat → Nat} {s : RkS} {own : List Pr} (o : OwnOk beta s own) (k : RkOk h beta s) : own.length ≤ h.given.length + h.recs.length := by
  have := sub_lenR o.nd o.kn
  rw [List.length_map, List.length_map] at this
  exact Nat.le_trans this k.klen
theorem seen_at {l : List Pr} (nd : (l.map (·.1)).Nodup) {i : Nat} {p : Pr} (h : l[i]? = some p) : seen l p.1 = some p.2 := by
  induction l generalizing i with
  | nil => simp at h
  | cons a l ih =>
    obtain ⟨n1, n2⟩ := List.nodup_cons.mp nd
    rw [seen_cons]
    cases i with
    | zero =>
      have : a = p := by simpa using h
      rw [if_pos (by rw [this]), this]
    | succ i =>
      have h' : l[i]? = some p := by simpa using h
      rw [if_neg (fun e => n1 (by show a.1 ∈ _; rw [e]; exact List.mem_map.mpr ⟨p, List.mem_of_getElem? h', rfl⟩)), ih n2 h']
theorem OwnOk.seen_at {beta : Nat → Nat} {s : RkS} {own : List Pr} (o : OwnOk beta s own) {i : Nat} {p : Pr} (h : own[i]? = some p) : seen own p.1 = some p.2 := Mad.seen_at o.nd h
theorem OwnOk.look {h : House} {beta : Nat → Nat} {s s' : RkS} {own : List Pr} {t : List Nat} {v : Int} (o : OwnOk beta s own) (ht : Nm t) (st : Step h beta s t v s') : OwnOk beta s' (setd own t v) := by
  have old : OwnOk beta s' own := ⟨o.nd, fun u hu => st.mono u (o.kn u hu), o.sm⟩
  unfold setd
  split
  · exact old
  · refine ⟨putA_nd old.nd, fun u hu => ?_, fun q hq => ?_⟩
    · rcases putA_mem.mp hu with hu | rfl
      · exact old.kn u hu
      · exact st.got
    · rcases mem_putA hq with rfl | hq
      · exact ht
      · exact old.sm q hq
theorem wk_step {h : House} {beta : Nat → Nat} {lk : RkS → List Nat → OutR RkS} {A : List (List Nat)} (hlk : ∀ s t v s', RkOk h beta s → s.asked = A → Nm t → lk s t = .ok v s' → Step h beta s t v s') :
    ∀ {r : Rcp} {p p' : RkS × List Pr} {v : Int}, r.Wn → RkOk h beta p.1 → p.1.asked = A → OwnOk beta p.1 p.2 → wk (lkOwn lk) r p = .ok v p' →
      RkOk h beta p'.1 ∧ p'.1.asked = A ∧ (p.1.read.length ≤ p'.1.read.length ∧ ∀ u ∈ p.1.known.map (·.1), u ∈ p'.1.known.map (·.1)) ∧ OwnOk beta p'.1 p'.2 ∧ r.Ev (Val h) v := by
  have look : ∀ {t : List Nat} {p p' : RkS × List Pr} {v : Int}, Nm t → RkOk h beta p.1 → p.1.asked = A → OwnOk beta p.1 p.2 → lkOwn lk p t = .ok v p' →
      RkOk h beta p'.1 ∧ p'.1.asked = A ∧ (p.1.read.length ≤ p'.1.read.length ∧ ∀ u ∈ p.1.known.map (·.1), u ∈ p'.1.known.map (·.1)) ∧ OwnOk beta p'.1 p'.2 ∧ Val h t v := by
    intro t p p' v ht ho ha hq e
    unfold lkOwn at e
    cases e1 : lk p.1 t with
    | err x => rw [e1] at e; cases e
    | ok w s =>
      rw [e1] at e
      cases e
      have st := hlk p.1 t v s ho ha ht e1
      exact ⟨st.ok, st.asked.trans ha, ⟨st.le, st.mono⟩, hq.look ht st, st.worth⟩
  intro r
  induction r with
  | num n =>
    intro p p' v _ ho ha hq e
    cases e
    exact ⟨ho, ha, ⟨Nat.le_refl _, fun _ h => h⟩, hq, rfl⟩
  | read t => exact fun hw ho ha hq e => look hw ho ha hq e
  | two k x y ix iy =>
    intro p p' v hw ho ha hq e
    obtain ⟨a, p1, h1, h2⟩ := OutR.bind_ok e
    obtain ⟨c, p2, h3, h4⟩ := OutR.bind_ok h2
    cases h4
    obtain ⟨o1, a1, l1, q1, b1⟩ := ix hw.1 ho ha hq h1
    obtain ⟨o2, a2, l2, q2, b2⟩ := iy hw.2 o1 a1 q1 h3
    exact ⟨o2, a2, ⟨Nat.le_trans l1.1 l2.1, fun u hu => l2.2 u (l1.2 u hu)⟩, q2, a, c, b1, b2, rfl⟩
  | pick x y z ix iy iz =>
    intro p p' v hw ho ha hq e
    obtain ⟨a, p1, h1, h2⟩ := OutR.bind_ok e
    obtain ⟨o1, a1, l1, q1, b1⟩ := ix hw.1 ho ha hq h1
    by_cases c : a > 0
    · simp only [if_pos c] at h2
      obtain ⟨o2, a2, l2, q2, b2⟩ := iy hw.2.1 o1 a1 q1 h2
      exact ⟨o2, a2, ⟨Nat.le_trans l1.1 l2.1, fun u hu => l2.2 u (l1.2 u hu)⟩, q2, a, b1, fun _ => b2, fun n => absurd c n⟩
    · simp only [if_neg c] at h2
      obtain ⟨o2, a2, l2, q2, b2⟩ := iz hw.2.2 o1 a1 q1 h2
      exact ⟨o2, a2, ⟨Nat.le_trans l1.1 l2.1, fun u hu => l2.2 u (l1.2 u hu)⟩, q2, a, b1, fun n => absurd n c, fun _ => b2⟩
  | choose x ns ix =>
    intro p p' v hw ho ha hq e
    obtain ⟨a, p1, h1, h2⟩ := OutR.bind_ok e
    obtain ⟨o1, a1, l1, q1, b1⟩ := ix hw.1 ho ha hq h1
    obtain ⟨i, _, hi⟩ := nth_mem hw.2.1 a
    obtain ⟨o2, a2, l2, q2, b2⟩ := look (hw.2.2.2 _ (List.mem_of_getElem? hi)) o1 a1 q1 h2
    exact ⟨o2, a2, ⟨Nat.le_trans l1.1 l2.1, fun u hu => l2.2 u (l1.2 u hu)⟩, q2, a, b1, b2⟩
theorem RkOk.ask {h : House} {beta : Nat → Nat} {s : RkS} (ho : RkOk h beta s) {t : List Nat} {r : Rcp} (e3 : rcpOf h.recs t = some r) (e1 : seen s.known t = none) (c : ¬ t ∈ s.asked) : RkOk h beta { s with asked := s.asked ++ [t] } ∧ ¬ t ∈ s.read.map (·.1) := by
  have ct : ¬ t ∈ s.read.map (·.1) := fun z => seen_none e1 (ho.kn t z)
  refine ⟨⟨?_, fun u hu => ?_, ho.val, ho.rds, ho.kn, ho.kd, ho.ks⟩, ct⟩
  · show ((s.asked ++ [t]) ++ s.read.map (·.1)).Nodup
    have : ((s.asked ++ [t]) ++ s.read.map (·.1)).Perm (t :: (s.asked ++ s.read.map (·.1))) := by
      rw [List.append_assoc]
      exact List.perm_middle
    exact this.nodup_iff.mpr (List.nodup_cons.mpr ⟨fun z => (List.mem_append.mp z).elim c ct, ho.nd⟩)
  · have hu : u ∈ (s.asked ++ [t]) ++ s.read.map (·.1) := hu
    rcases List.mem_append.mp hu with hu | hu
    · rcases List.mem_append.mp hu with hu | hu
      · exact ho.sub u (List.mem_append_left _ hu)
      · rw [List.mem_singleton.mp hu]
        exact List.mem_map.mpr ⟨_, rcpOf_mem e3, rfl⟩
    · exact ho.sub u (List.mem_append_right _ hu)
/-- behind the work of t: it is settled -/
theorem RkOk.done {dm : Nat} {h : House} {beta : Nat → Nat} (H : HouseN dm h beta) {A : List (List Nat)} {s : RkS} (ho : RkOk h beta s) {t : List Nat} {r : Rcp} {own : List Pr} {v : Int} (e3 : rcpOf h.recs t = some r) (ha : s.asked = A ++ [t]) (hq : OwnOk beta s own) (e2 : seen h.given t = none) (hv : r.Ev (Val h) v) :
    (putA s.read t own).length = s.read.length + 1 ∧ RkOk h beta ⟨putA s.known t v, putA s.read t own, s.asked.dropLast⟩ ∧ Val h t v := by
  have hmem := rcpOf_mem e3
  have nd := ho.nd
  rw [ha] at nd
  have ct : ¬ t ∈ s.read.map (·.1) := fun z => (List.nodup_append.mp nd).2.2 t (List.mem_append_right _ (List.mem_singleton.mpr rfl)) t z rfl
  have hl : (putA s.read t own).length = s.read.length + 1 := by rw [putA_len, if_neg ct]
  have hv2 : Val h t v := .work_ev e2 e3 hv
  refine ⟨hl, ⟨?_, fun u hu => ?_, fun p hp => ?_, fun p hp q hq' => ?_, fun u hu => ?_, putA_nd ho.kd, fun u hu => ?_⟩, hv2⟩
  · show (s.asked.dropLast ++ (putA s.read t own).map (·.1)).Nodup
    rw [ha, List.dropLast_concat, putA_keys, if_neg ct, ← List.append_assoc]
    have : ((A ++ s.read.map (·.1)) ++ [t]).Perm ((A ++ [t]) ++ s.read.map (·.1)) := by
      rw [List.append_assoc, List.append_assoc]
      exact List.Perm.append_left _ List.perm_append_comm
    exact this.nodup_iff.mpr nd
  · have hu : u ∈ s.asked.dropLast ++ (putA s.read t own).map (·.1) := hu
    rw [ha, List.dropLast_concat, putA_keys, if_neg ct] at hu
    have sub := ho.sub
    rw [ha] at sub
    rcases List.mem_append.mp hu with hu | hu
    · exact sub u (List.mem_append_left _ (List.mem_append_left _ hu))
    · rcases List.mem_append.mp hu with hu | hu
      · exact sub u (List.mem_append_right _ hu)
      · exact sub u (List.mem_append_left _ (List.mem_append_right _ hu))
  · rcases mem_putA hp with rfl | hp
    · exact ⟨(H.rcp _ hmem).1, hv2⟩
    · exact ho.val p hp
  · rcases mem_putA hp with rfl | hp
    · exact hq.sm q hq'
    · exact ho.rds p hp q hq'
  · have hu : u ∈ (putA s.read t own).map (·.1) := hu
    show u ∈ (putA s.known t v).map (·.1)
    rcases putA_mem.mp hu with hu | hu
    · exact putA_mem.mpr (.inl (ho.kn u hu))
    · exact putA_mem.mpr (.inr hu)
  · rcases putA_mem.mp hu with hu | rfl
    · exact ho.ks u hu
    · exact List.mem_append_right _ (List.mem_map.mpr ⟨_, hmem, rfl⟩)
theorem lkR_step {dm : Nat} {h : House} {beta : Nat → Nat} (H : HouseN dm h beta) : ∀ (n : Nat) (s : RkS) (t : List Nat) (v : Int) (s' : RkS), RkOk h beta s → Nm t → lkR h n s t = .ok v s' → Step h beta s t v s'
  | 0, s, t, v, s', _, _, e => by cases e
  | n + 1, s, t, v, s', ho, ht, e => by
    unfold lkR at e
    cases e1 : seen s.known t with
    | some x =>
      rw [e1] at e
      cases e
      exact ⟨ho, fun _ h => h, List.mem_map.mpr ⟨_, seen_mem e1, rfl⟩, rfl, Nat.le_refl _, (ho.val _ (seen_mem e1)).2⟩
    | none =>
      rw [e1] at e
      cases e2 : seen h.given t with
      | some x =>
        rw [e2] at e
        cases e
        have hx : Val h t v := .given e2
        refine ⟨⟨ho.nd, ho.sub, fun p hp => ?_, ho.rds, fun u hu => putA_mem.mpr (.inl (ho.kn u hu)), putA_nd ho.kd, fun u hu => ?_⟩, fun u hu => putA_mem.mpr (.inl hu), putA_mem.mpr (.inr rfl), rfl, Nat.le_refl _, hx⟩
        · rcases mem_putA hp with rfl | hp
          · exact ⟨ht, hx⟩
          · exact ho.val p hp
        · rcases putA_mem.mp hu with hu | rfl
          · exact ho.ks u hu
          · exact List.mem_append_left _ (List.mem_map.mpr ⟨_, seen_mem e2, rfl⟩)
      | none =>
        rw [e2] at e
        cases e3 : rcpOf h.recs t with
        | none => rw [e3] at e; cases e
        | some r =>
          rw [e3] at e
          by_cases c : t ∈ s.asked
          · simp only [if_pos c] at e
            cases e
          · simp only [if_neg c] at e
            cases e4 : wk (lkOwn (lkR h n)) r ({ s with asked := s.asked ++ [t] }, []) with
            | err x => rw [e4] at e; cases e
            | ok w p =>
              rw [e4] at e
              cases e
              obtain ⟨ho1, ct⟩ := ho.ask e3 e1 c
              obtain ⟨o2, a2, l2, q2, b2⟩ := wk_step (A := s.asked ++ [t]) (fun s t v s' o _ ht e => lkR_step H n s t v s' o ht e) (H.rcp _ (rcpOf_mem e3)).2.1 (p := ({ s with asked := s.asked ++ [t] }, [])) ho1 rfl (OwnOk.nil _ _) e4
              obtain ⟨d1, d2, d3⟩ := o2.done H e3 a2 q2 e2 b2
              refine ⟨d2, fun u hu => putA_mem.mpr (.inl (l2.2 u hu)), putA_mem.mpr (.inr rfl), ?_, ?_, d3⟩
              · show p.1.asked.dropLast = s.asked
                rw [a2, List.dropLast_concat]
              · show s.read.length ≤ (putA p.1.read t p.2).length
                rw [d1]
                exact Nat.le_succ_of_le l2.1
theorem emptyOk (h : House) (beta : Nat → Nat) : RkOk h beta emptyS := ⟨List.nodup_nil, (fun _ h => nomatch h), (fun _ h => nomatch h), (fun _ h => nomatch h), (fun _ h => nomatch h), List.nodup_nil, fun _ h => nomatch h⟩
/-! ### what the reckoner knows is so; houses whose worths are not too great -/
/-! #### what the reckoner knows is so -/
structure Coh (h : House) (s : RkS) : Prop where
  kn : ∀ p ∈ s.known, Val h p.1 p.2
  rd : ∀ p ∈ s.read, Rds h p.1 p.2
  kr : ∀ u ∈ s.known.map (·.1), u ∈ h.given.map (·.1) ∨ u ∈ s.read.map (·.1)
theorem Coh.empty (h : House) : Coh h emptyS := ⟨(fun _ h => nomatch h), (fun _ h => nomatch h), fun _ h => nomatch h⟩
theorem lkOwn_ok {lk : RkS → List Nat → OutR RkS} {p p' : RkS × List Pr} {t : List Nat} {v : Int} (e : lkOwn lk p t = .ok v p') : lk p.1 t = .ok v p'.1 ∧ p'.2 = setd p.2 t v := by
  unfold lkOwn at e
  cases e1 : lk p.1 t with
  | err x => rw [e1] at e; cases e
  | ok w s => rw [e1] at e; cases e; exact ⟨rfl, rfl⟩
theorem wk_sound {h : House} {lk : RkS → List Nat → OutR RkS} (hlk : ∀ s t v s', Coh h s → lk s t = .ok v s' → Val h t v ∧ Coh h s') :
    ∀ {r : Rcp} {p p' : RkS × List Pr} {v : Int}, Coh h p.1 → wk (lkOwn lk) r p = .ok v p' → Coh h p'.1 ∧ ∃ m, wk (dnL (val h m)) r p.2 = .ok v p'.2 := by
  have look : ∀ {t : List Nat} {p p' : RkS × List Pr} {v : Int}, Coh h p.1 → lkOwn lk p t = .ok v p' → Coh h p'.1 ∧ ∃ m, dnL (val h m) p.2 t = .ok v p'.2 := by
    intro t p p' v c e
    obtain ⟨e1, e2⟩ := lkOwn_ok e
    obtain ⟨⟨m, hm⟩, c'⟩ := hlk _ _ _ _ c e1
    exact ⟨c', m, by rw [e2]; exact dnL_some hm _⟩
  have two : ∀ {r1 : Rcp} {o o1 : List Pr} {x : Int} {m k : Nat}, wk (dnL (val h m)) r1 o = .ok x o1 → m ≤ k → wk (dnL (val h k)) r1 o = .ok x o1 := fun e le => wk_mono (fun _ _ e => val_le le e) e
  intro r
  induction r with
  | num n => intro p p' v c e; cases e; exact ⟨c, 0, rfl⟩
  | read t => exact fun c e => look c e
  | two k a b ia ib =>
    intro p p' v c e
    obtain ⟨x, o1, h1, h2⟩ := OutR.bind_ok e
    obtain ⟨y, o2, h3, h4⟩ := OutR.bind_ok h2
    cases h4
    obtain ⟨c1, m1, g1⟩ := ia c h1
    obtain ⟨c2, m2, g2⟩ := ib c1 h3
    refine ⟨c2, max m1 m2, ?_⟩
    show (wk (dnL _) a p.2).bind _ = _
    rw [bind_okI (two g1 (Nat.le_max_left _ _)), bind_okI (two g2 (Nat.le_max_right _ _))]
  | pick a b d ia ib id =>
    intro p p' v c e
    obtain ⟨x, o1, h1, h2⟩ := OutR.bind_ok e
    obtain ⟨c1, m1, g1⟩ := ia c h1
    by_cases z : x > 0
    · simp only [if_pos z] at h2
      obtain ⟨c2, m2, g2⟩ := ib c1 h2
      refine ⟨c2, max m1 m2, ?_⟩
      show (wk (dnL _) a p.2).bind _ = _
      rw [bind_okI (two g1 (Nat.le_max_left _ _)), if_pos z, two g2 (Nat.le_max_right _ _)]
    · simp only [if_neg z] at h2
      obtain ⟨c2, m2, g2⟩ := id c1 h2
      refine ⟨c2, max m1 m2, ?_⟩
      show (wk (dnL _) a p.2).bind _ = _
      rw [bind_okI (two g1 (Nat.le_max_left _ _)), if_neg z, two g2 (Nat.le_max_right _ _)]
  | choose a ns ia =>
    intro p p' v c e
    obtain ⟨x, o1, h1, h2⟩ := OutR.bind_ok e
    obtain ⟨c1, m1, g1⟩ := ia c h1
    obtain ⟨c2, m2, g2⟩ := look c1 h2
    obtain ⟨g3, g4⟩ := dnL_ok g2
    refine ⟨c2, max m1 m2, ?_⟩
    show (wk (dnL _) a p.2).bind _ = _
    rw [bind_okI (two g1 (Nat.le_max_left _ _)), g4]
    exact dnL_some (val_le (Nat.le_max_right _ _) g3) _
theorem lkR_sound {h : House} : ∀ (n : Nat) (s : RkS) (t : List Nat) (v : Int) (s' : RkS), Coh h s → lkR h n s t = .ok v s' → Val h t v ∧ Coh h s'
  | 0, s, t, v, s', _, e => by cases e
  | n + 1, s, t, v, s', c, e => by
    unfold lkR at e
    cases e1 : seen s.known t with
    | some x =>
      rw [e1] at e
      cases e
      exact ⟨c.kn _ (seen_mem e1), c⟩
    | none =>
      rw [e1] at e
      cases e2 : seen h.given t with
      | some x =>
        rw [e2] at e
        cases e
        refine ⟨.given e2, ⟨fun p hp => ?_, c.rd, fun u hu => ?_⟩⟩
        · rcases mem_putA hp with rfl | hp
          · exact .given e2
          · exact c.kn p hp
        · rcases putA_mem.mp hu with hu | rfl
          · exact c.kr u hu
          · exact .inl (seen_key e2)
      | none =>
        rw [e2] at e
        cases e3 : rcpOf h.recs t with
        | none => rw [e3] at e; cases e
        | some r =>
          rw [e3] at e
          by_cases z : t ∈ s.asked
          · simp only [if_pos z] at e
            cases e
          · simp only [if_neg z] at e
            cases e4 : wk (lkOwn (lkR h n)) r ({ s with asked := s.asked ++ [t] }, []) with
            | err x => rw [e4] at e; cases e
            | ok w p =>
              rw [e4] at e
              cases e
              have c0 : Coh h { s with asked := s.asked ++ [t] } := ⟨c.kn, c.rd, c.kr⟩
              obtain ⟨c1, m, g⟩ := wk_sound (fun s t v s' => lkR_sound n s t v s') (p := ({ s with asked := s.asked ++ [t] }, [])) c0 e4
              have vt : Val h t v := .work e2 e3 g
              refine ⟨vt, ⟨fun q hq => ?_, fun q hq => ?_, fun u hu => ?_⟩⟩
              · rcases mem_putA hq with rfl | hq
                · exact vt
                · exact c1.kn q hq
              · rcases mem_putA hq with rfl | hq
                · exact ⟨e2, r, m, v, e3, g⟩
                · exact c1.rd q hq
              · rcases putA_mem.mp hu with hu | rfl
                · exact (c1.kr u hu).imp id fun h => putA_mem.mpr (.inl h)
                · exact .inr (putA_mem.mpr (.inr rfl))
/-! #### what has a worth is told -/
theorem wk_total {h : House} {beta : Nat → Nat} {lk : RkS → List Nat → OutR RkS} {k : Nat} {A : List (List Nat)} (hlk : ∀ s t v, RkOk h beta s → Coh h s → s.asked = A → Nm t → val h k t = some v → ∃ s', lk s t = .ok v s' ∧ RkOk h beta s' ∧ Coh h s' ∧ s'.asked = A) :
    ∀ {r : Rcp} {p : RkS × List Pr} {v : Int} {o' : List Pr}, r.Wn → RkOk h beta p.1 → Coh h p.1 → p.1.asked = A → wk (dnL (val h k)) r p.2 = .ok v o' → ∃ s', wk (lkOwn lk) r p = .ok v (s', o') ∧ RkOk h beta s' ∧ Coh h s' ∧ s'.asked = A := by
  have look : ∀ {t : List Nat} {p : RkS × List Pr} {v : Int} {o' : List Pr}, Nm t → RkOk h beta p.1 → Coh h p.1 → p.1.asked = A → dnL (val h k) p.2 t = .ok v o' → ∃ s', lkOwn lk p t = .ok v (s', o') ∧ RkOk h beta s' ∧ Coh h s' ∧ s'.asked = A := by
    intro t p v o' ht o c a e
    obtain ⟨e1, rfl⟩ := dnL_ok e
    obtain ⟨s', g, r1⟩ := hlk _ t v o c a ht e1
    exact ⟨s', by unfold lkOwn; rw [g], r1⟩
  intro r
  induction r with
  | num n => intro p v o' _ o c a e; cases e; exact ⟨p.1, rfl, o, c, a⟩
  | read t => exact fun w o c a e => look w o c a e
  | two kd a b ia ib =>
    intro p v o' w o c ha e
    obtain ⟨x, o1, h1, h2⟩ := OutR.bind_ok e
    obtain ⟨y, o2, h3, h4⟩ := OutR.bind_ok h2
    cases h4
    obtain ⟨s1, g1, q1, c1, a1⟩ := ia w.1 o c ha h1
    obtain ⟨s2, g2, q2, c2, a2⟩ := ib (p := (s1, o1)) w.2 q1 c1 a1 h3
    refine ⟨s2, ?_, q2, c2, a2⟩
    show (wk (lkOwn lk) a p).bind _ = _
    rw [bind_okI g1, bind_okI g2]
  | pick a b d ia ib id =>
    intro p v o' w o c ha e
    obtain ⟨x, o1, h1, h2⟩ := OutR.bind_ok e
    obtain ⟨s1, g1, q1, c1, a1⟩ := ia w.1 o c ha h1
    by_cases z : x > 0
    · simp only [if_pos z] at h2
      obtain ⟨s2, g2, q2, c2, a2⟩ := ib (p := (s1, o1)) w.2.1 q1 c1 a1 h2
      refine ⟨s2, ?_, q2, c2, a2⟩
      show (wk (lkOwn lk) a p).bind _ = _
      rw [bind_okI g1, if_pos z, g2]
    · simp only [if_neg z] at h2
      obtain ⟨s2, g2, q2, c2, a2⟩ := id (p := (s1, o1)) w.2.2 q1 c1 a1 h2
      refine ⟨s2, ?_, q2, c2, a2⟩
      show (wk (lkOwn lk) a p).bind _ = _
      rw [bind_okI g1, if_neg z, g2]
  | choose a ns ia =>
    intro p v o' w o c ha e
    obtain ⟨x, o1, h1, h2⟩ := OutR.bind_ok e
    obtain ⟨s1, g1, q1, c1, a1⟩ := ia w.1 o c ha h1
    obtain ⟨i, _, hi⟩ := nth_mem w.2.1 x
    obtain ⟨s2, g2, q2, c2, a2⟩ := look (p := (s1, o1)) (w.2.2.2 _ (List.mem_of_getElem? hi)) q1 c1 a1 h2
    refine ⟨s2, ?_, q2, c2, a2⟩
    show (wk (lkOwn lk) a p).bind _ = _
    rw [bind_okI g1, g2]
/-- the least depth at which a worth is found -/
theorem val_least {h : House} {t : List Nat} {v : Int} : ∀ {m : Nat}, val h m t = some v → ∃ k, k + 1 ≤ m ∧ val h (k + 1) t = some v ∧ val h k t = none
  | 0, e => by cases e
  | m + 1, e => by
    cases e1 : val h m t with
    | none => exact ⟨m, Nat.le_refl _, e, e1⟩
    | some w =>
      obtain rfl : w = v := Option.some.inj ((val_mono e1).symm.trans e)
      obtain ⟨k, h1, h2⟩ := val_least e1
      exact ⟨k, by omega, h2⟩
theorem val_none_le {h : House} {t : List Nat} {k m : Nat} (le : k ≤ m) (e : val h m t = none) : val h k t = none := by
  cases e1 : val h k t with
  | none => rfl
  | some v => rw [val_le le e1] at e; cases e
theorem lkR_total {dm : Nat} {h : House} {beta : Nat → Nat} (HH : HouseN dm h beta) : ∀ (n : Nat) (s : RkS) (t : List Nat) (m : Nat) (v : Int), RkOk h beta s → Coh h s → Nm t → val h m t = some v → (∀ a ∈ s.asked, val h m a = none) → h.recs.length + 1 ≤ s.asked.length + n → ∃ s', lkR h n s t = .ok v s'
  | 0, s, t, m, v, o, c, ht, e, ha, hn => by
    have := o.len
    omega
  | n + 1, s, t, m, v, o, c, ht, e, ha, hn => by
    obtain ⟨k, hk, ek, nk⟩ := val_least e
    unfold lkR
    cases e1 : seen s.known t with
    | some x =>
      obtain rfl : x = v := (c.kn _ (seen_mem e1)).det ⟨m, e⟩
      exact ⟨s, rfl⟩
    | none =>
      have ek' := ek
      rw [val_succ] at ek'
      cases e2 : seen h.given t with
      | some x =>
        rw [e2] at ek'
        cases ek'
        exact ⟨_, rfl⟩
      | none =>
        rw [e2] at ek'
        cases e3 : rcpOf h.recs t with
        | none => rw [e3] at ek'; cases ek'
        | some r =>
          rw [e3] at ek'
          have z : ¬ t ∈ s.asked := fun z => by rw [ha t z] at e; cases e
          simp only [if_neg z]
          cases e4 : wk (dnL (val h k)) r [] with
          | err x => simp only [e4] at ek'; cases ek'
          | ok w own =>
            simp only [e4] at ek'
            cases ek'
            obtain ⟨o1, ct⟩ := o.ask e3 e1 z
            have c0 : Coh h { s with asked := s.asked ++ [t] } := ⟨c.kn, c.rd, c.kr⟩
            have wn := (HH.rcp _ (rcpOf_mem e3)).2.1
            obtain ⟨s2, g2, _⟩ := wk_total (lk := lkR h n) (k := k) (A := s.asked ++ [t]) (beta := beta) (fun s1 u x q1 d1 a1 hu eu => by
              obtain ⟨s', g⟩ := lkR_total HH n s1 u k x q1 d1 hu eu (fun a hm => by
                rw [a1] at hm
                rcases List.mem_append.mp hm with hm | hm
                · exact val_none_le (by omega) (ha a hm)
                · rw [List.mem_singleton.mp hm]; exact nk) (by rw [a1, List.length_append]; simp only [List.length_cons, List.length_nil]; omega)
              have st := lkR_step HH n s1 u x s' q1 hu g
              exact ⟨s', g, st.ok, (lkR_sound n s1 u x s' d1 g).2, st.asked.trans a1⟩) (p := ({ s with asked := s.asked ++ [t] }, [])) wn o1 c0 rfl e4
            rw [g2]
            exact ⟨_, rfl⟩
/-! #### houses whose worths grow by how many are worked -/
structure HouseB (dm : Nat) (h : House) (beta : Nat → Nat) : Prop where
  rcp : ∀ p ∈ h.recs, Nm p.1 ∧ p.2.Wn ∧ p.2.dep ≤ dm ∧ ∀ c, c + 1 ≤ h.recs.length → p.2.bits (beta c) ≤ beta (c + 1)
  gvn : ∀ p ∈ h.given, Nm p.1 ∧ p.2.natAbs < 2 ^ beta 0
  mono : ∀ c d, c ≤ d → beta c ≤ beta d
  pos : 0 < beta 0
  top : ∀ p ∈ h.recs, p.2.bits (beta h.recs.length) ≤ 1000000
structure RkB (beta : Nat → Nat) (s : RkS) : Prop where
  val : ∀ p ∈ s.known, p.2.natAbs < 2 ^ beta s.read.length
theorem HouseB.n {dm : Nat} {h : House} {beta : Nat → Nat} (H : HouseB dm h beta) : HouseN dm h beta := ⟨fun p hp => ⟨(H.rcp p hp).1, (H.rcp p hp).2.1, (H.rcp p hp).2.2.1⟩, fun p hp => (H.gvn p hp).1⟩
theorem wk_stepB {dm : Nat} {h : House} {beta : Nat → Nat} (H : HouseB dm h beta) {lk : RkS → List Nat → OutR RkS} {A : List (List Nat)} (hlk : ∀ s t v s', RkOk h beta s → RkB beta s → s.asked = A → Nm t → lk s t = .ok v s' → Step h beta s t v s' ∧ RkB beta s' ∧ v.natAbs < 2 ^ beta s'.read.length) :
    ∀ {r : Rcp} {p p' : RkS × List Pr} {v : Int}, r.Wn → RkOk h beta p.1 → RkB beta p.1 → p.1.asked = A → wk (lkOwn lk) r p = .ok v p' →
      RkOk h beta p'.1 ∧ RkB beta p'.1 ∧ p'.1.asked = A ∧ p.1.read.length ≤ p'.1.read.length ∧ v.natAbs < 2 ^ r.bits (beta p'.1.read.length) := by
  have look : ∀ {t : List Nat} {p p' : RkS × List Pr} {v : Int}, Nm t → RkOk h beta p.1 → RkB beta p.1 → p.1.asked = A → lkOwn lk p t = .ok v p' →
      RkOk h beta p'.1 ∧ RkB beta p'.1 ∧ p'.1.asked = A ∧ p.1.read.length ≤ p'.1.read.length ∧ v.natAbs < 2 ^ beta p'.1.read.length := by
    intro t p p' v ht ho hb ha e
    obtain ⟨e1, _⟩ := lkOwn_ok e
    obtain ⟨st, b, sm⟩ := hlk _ _ _ _ ho hb ha ht e1
    exact ⟨st.ok, b, st.asked.trans ha, st.le, sm⟩
  intro r
  induction r with
  | num n =>
    intro p p' v _ ho hb ha e
    cases e
    exact ⟨ho, hb, ha, Nat.le_refl _, Nat.lt_log2_self⟩
  | read t => exact fun hw ho hb ha e => look hw ho hb ha e
  | two k x y ix iy =>
    intro p p' v hw ho hb ha e
    obtain ⟨a, p1, h1, h2⟩ := OutR.bind_ok e
    obtain ⟨c, p2, h3, h4⟩ := OutR.bind_ok h2
    cases h4
    obtain ⟨o1, q1, a1, l1, b1⟩ := ix hw.1 ho hb ha h1
    obtain ⟨o2, q2, a2, l2, b2⟩ := iy hw.2 o1 q1 a1 h3
    exact ⟨o2, q2, a2, Nat.le_trans l1 l2, ap_bits (pow_mono b1 (bits_mono (H.mono _ _ l2) x)) b2⟩
  | pick x y z ix iy iz =>
    intro p p' v hw ho hb ha e
    obtain ⟨a, p1, h1, h2⟩ := OutR.bind_ok e
    obtain ⟨o1, q1, a1, l1, b1⟩ := ix hw.1 ho hb ha h1
    by_cases c : a > 0
    · simp only [if_pos c] at h2
      obtain ⟨o2, q2, a2, l2, b2⟩ := iy hw.2.1 o1 q1 a1 h2
      exact ⟨o2, q2, a2, Nat.le_trans l1 l2, pow_mono b2 (by simp only [Rcp.bits]; omega)⟩
    · simp only [if_neg c] at h2
      obtain ⟨o2, q2, a2, l2, b2⟩ := iz hw.2.2 o1 q1 a1 h2
      exact ⟨o2, q2, a2, Nat.le_trans l1 l2, pow_mono b2 (by simp only [Rcp.bits]; omega)⟩
  | choose x ns ix =>
    intro p p' v hw ho hb ha e
    obtain ⟨a, p1, h1, h2⟩ := OutR.bind_ok e
    obtain ⟨o1, q1, a1, l1, b1⟩ := ix hw.1 ho hb ha h1
    obtain ⟨i, _, hi⟩ := nth_mem hw.2.1 a
    obtain ⟨o2, q2, a2, l2, b2⟩ := look (p := p1) (hw.2.2.2 _ (List.mem_of_getElem? hi)) o1 q1 a1 h2
    exact ⟨o2, q2, a2, Nat.le_trans l1 l2, pow_mono b2 (by simp only [Rcp.bits]; omega)⟩
theorem lkR_stepB {dm : Nat} {h : House} {beta : Nat → Nat} (H : HouseB dm h beta) : ∀ (n : Nat) (s : RkS) (t : List Nat) (v : Int) (s' : RkS), RkOk h beta s → RkB beta s → Nm t → lkR h n s t = .ok v s' → RkB beta s' ∧ v.natAbs < 2 ^ beta s'.read.length
  | 0, s, t, v, s', _, _, _, e => by cases e
  | n + 1, s, t, v, s', ho, hb, ht, e => by
    unfold lkR at e
    cases e1 : seen s.known t with
    | some x =>
      rw [e1] at e
      cases e
      exact ⟨hb, hb.val _ (seen_mem e1)⟩
    | none =>
      rw [e1] at e
      cases e2 : seen h.given t with
      | some x =>
        rw [e2] at e
        cases e
        have hx := pow_mono (H.gvn _ (seen_mem e2)).2 (H.mono _ _ (Nat.zero_le s.read.length))
        refine ⟨⟨fun p hp => ?_⟩, hx⟩
        rcases mem_putA hp with rfl | hp
        · exact hx
        · exact hb.val p hp
      | none =>
        rw [e2] at e
        cases e3 : rcpOf h.recs t with
        | none => rw [e3] at e; cases e
        | some r =>
          rw [e3] at e
          by_cases c : t ∈ s.asked
          · simp only [if_pos c] at e
            cases e
          · simp only [if_neg c] at e
            cases e4 : wk (lkOwn (lkR h n)) r ({ s with asked := s.asked ++ [t] }, []) with
            | err x => rw [e4] at e; cases e
            | ok w p =>
              rw [e4] at e
              cases e
              have hmem := rcpOf_mem e3
              obtain ⟨ho1, _⟩ := ho.ask e3 e1 c
              obtain ⟨o2, q2, a2, l2, b2⟩ := wk_stepB H (A := s.asked ++ [t]) (fun s t v s' o b _ ht e => ⟨lkR_step H.n n s t v s' o ht e, lkR_stepB H n s t v s' o b ht e⟩) (H.rcp _ hmem).2.1 (p := ({ s with asked := s.asked ++ [t] }, [])) ho1 ⟨hb.val⟩ rfl e4
              have nd := o2.nd
              rw [a2] at nd
              have ct : ¬ t ∈ p.1.read.map (·.1) := fun z => (List.nodup_append.mp nd).2.2 t (List.mem_append_right _ (List.mem_singleton.mpr rfl)) t z rfl
              have hl : (putA p.1.read t p.2).length = p.1.read.length + 1 := by rw [putA_len, if_neg ct]
              have hc : p.1.read.length + 1 ≤ h.recs.length := by
                have := o2.len
                rw [a2, List.length_append] at this
                simp only [List.length_cons, List.length_nil] at this
                omega
              have hv2 : v.natAbs < 2 ^ beta (p.1.read.length + 1) := pow_mono b2 ((H.rcp _ hmem).2.2.2 _ hc)
              refine ⟨⟨fun q hq => ?_⟩, by show v.natAbs < 2 ^ beta (putA p.1.read t p.2).length; rw [hl]; exact hv2⟩
              show q.2.natAbs < 2 ^ beta (putA p.1.read t p.2).length
              rw [hl]
              rcases mem_putA hq with rfl | hq
              · exact hv2
              · exact pow_mono (q2.val q hq) (H.mono _ _ (Nat.le_succ _))
theorem HouseB.small {dm : Nat} {h : House} {beta : Nat → Nat} (H : HouseB dm h beta) {t : List Nat} {v : Int} (ht : Nm t) (hv : Val h t v) : v.natAbs < 2 ^ beta h.recs.length := by
  obtain ⟨m, hm⟩ := hv
  obtain ⟨s, e⟩ := lkR_total H.n (h.recs.length + 1) emptyS t m v (emptyOk h beta) (Coh.empty h) ht hm (fun a ha => nomatch ha) (by show _ ≤ 0 + _; omega)
  have st := lkR_step H.n _ _ _ _ _ (emptyOk h beta) ht e
  have := st.ok.len
  exact pow_mono (lkR_stepB H _ _ _ _ _ (emptyOk h beta) ⟨fun _ h => nomatch h⟩ ht e).2 (H.mono _ _ (by omega))
theorem Rcp.Ev.nm {f : List Nat → Int → Prop} : ∀ {r : Rcp} {v : Int}, r.Wn → r.Ev f v → r.Ev (fun t x => Nm t ∧ f t x) v
  | .num _, v, _, h => h
  | .read _, v, w, h => ⟨w, h⟩
  | .two _ _ _, v, w, ⟨a, c, h1, h2, e⟩ => ⟨a, c, h1.nm w.1, h2.nm w.2, e⟩
  | .pick _ _ _, v, w, ⟨a, h1, h2, h3⟩ => ⟨a, h1.nm w.1, fun c => (h2 c).nm w.2.1, fun c => (h3 c).nm w.2.2⟩
  | .choose _ _, v, w, ⟨a, h1, h2⟩ => ⟨a, h1.nm w.1, by obtain ⟨i, _, hi⟩ := nth_mem w.2.1 a; exact w.2.2.2 _ (List.mem_of_getElem? hi), h2⟩
theorem Rcp.Fit.nm {f : List Nat → Int → Prop} : ∀ {r : Rcp}, r.Wn → r.Fit (fun t x => Nm t ∧ f t x) → r.Fit f
  | .num _, _, _ => trivial
  | .read _, _, _ => trivial
  | .two _ _ _, w, ⟨h1, h2⟩ => ⟨h1.nm w.1, fun a ha => ⟨(h2 a (ha.nm w.1)).1.nm w.2, fun c hc => (h2 a (ha.nm w.1)).2 c (hc.nm w.2)⟩⟩
  | .pick _ _ _, w, ⟨h1, h2⟩ => ⟨h1.nm w.1, fun a ha => ⟨fun c => ((h2 a (ha.nm w.1)).1 c).nm w.2.1, fun c => ((h2 a (ha.nm w.1)).2 c).nm w.2.2⟩⟩
  | .choose x _, w, h => Fit.nm (r := x) w.1 h
theorem HouseB.ok {dm : Nat} {h : House} {beta : Nat → Nat} (H : HouseB dm h beta) : HouseOk dm h beta := ⟨H.n, fun p hp _ => Rcp.Fit.nm (H.rcp p hp).2.1 (Rcp.Fit.of_bits (Nat.lt_of_lt_of_le H.pos (H.mono _ _ (Nat.zero_le _))) (fun t v ⟨ht, hv⟩ => H.small ht hv) (H.top p hp))⟩
/-! ### own errors with a field -/
theorem hu65 {k : Nat} {A : Around} (r : Room k A) : A.units + 65 < cLine := by have := r.un; omega
structure OwnX (K : PySem.W.Frag) (mg : Str → Option Value) (n f : Str) (C fI : Addr) : Prop where
  oex : OexC K C
  iC : PySem.W.findIn K (.ref C) "__init__" = some (some (.ref fI))
  tI : PySem.W.typeIn K (.ref fI) = some (.type "function")
  g : mg n = some (.ref C)
  no : PySem.W.findIn K (.ref C) f = some none
  xf : XfC K C
def spNNI (C : Addr) : Sp := fun vs H Q _ => ∃ (a : Addr) (v : V), vs = [.ref a, v] ∧ H a = some (exo a C none) ∧ ∀ dx, H dx = none → dx ≠ a → Q .non (upd (upd H dx (exd dx [(("name" : Str), v)])) a (exo a C (some dx)))
def spRgI (C : Addr) : Sp := fun vs H Q _ => ∃ (a L : Addr) (xs : List V), vs = [.ref a, .ref L] ∧ H a = some (exo a C none) ∧ H L = some (.lst xs) ∧ ∀ M dx, H M = none → M ≠ a → dx ≠ M → H dx = none → dx ≠ a →
  Q .non (upd (upd (upd H M (.lst xs)) dx (exd dx [(("ring" : Str), .ref M)])) a (exo a C (some dx)))
/-- what is due where an error of the reckoning flies -/
def ErK (CN CR : Addr) (x : XErr) (E : XK) (H : Hp) : Prop := match x with
  | .noName s => ∀ d G, Same H G → H d = none → G d = some (.xd [(("name" : Str), .str (SX.S s))]) → E (.ref CN) (some d) G
  | .ring l => ∀ d L G, Same H G → H d = none → H L = none → G d = some (.xd [(("ring" : Str), .ref L)]) → G L = some (.lst (txs l)) → E (.ref CR) (some d) G
theorem flown {H : Hp} {a dx : Addr} {u v w : HO} (h1 : H a = none) (h2 : H dx = none) : Same H (upd (del (upd (upd H dx u) a v) a) dx w) := fun b o e => by
  rw [upd_ne (ne_of_none e h2), del_ne (ne_of_none e h1), upd_ne (ne_of_none e h1), upd_ne (ne_of_none e h2)]
  exact e
section
variable {P : Program} {w : World} {K : PySem.W.Frag} {mg : Str → Option Value} {base : Heap} {C fI : Addr}
abbrev s_NoName___init__ : Stmt := inClass (topS 2) 0
abbrev N_NoName___init__ : List Str := ["self", "name"]
theorem sc_NoName___init__ : FnScope N_NoName___init__ ["self", "name"] (defScope s_NoName___init__) := ⟨rfl, rfl, rfl, by decide +kernel, rfl, by decide +kernel, by decide +kernel⟩

theorem ok_NoName_init (T : Txt K mg) (Z : OwnX K mg "NoName" "name" C fI) {fd : FuncData} (F : Fun K "__init__" "NoName.__init__" s_NoName___init__ fI fd) : FnOk P w K mg base CX0 1 fI fd ["self", "name"] (spNNI C) := by
  refine F.ok sc_NoName___init__ (fun vs H Q E h => ?_) (fun cdv A outer s H vs Q E hr h => ?_)
  · obtain ⟨a, v, rfl, _⟩ := h
    rfl
  obtain ⟨a, v, rfl, ha, q⟩ := h
  refine ⟨_, (pss_one (ps_ost (pv 0) (pv 1))), ?_⟩
  exact ⟨_, rfl, _, rfl, a, C, rfl, Z.oex, Z.no, .inl ⟨ha, fun dx n ne => q dx n ne⟩⟩
abbrev s_Ring___init__ : Stmt := inClass (topS 3) 0
abbrev N_Ring___init__ : List Str := ["self", "ring"]
theorem sc_Ring___init__ : FnScope N_Ring___init__ ["self", "ring"] (defScope s_Ring___init__) := ⟨rfl, rfl, rfl, by decide +kernel, rfl, by decide +kernel, by decide +kernel⟩

theorem ok_Ring_init (T : Txt K mg) (Z : OwnX K mg "Ring" "ring" C fI) {fd : FuncData} (F : Fun K "__init__" "Ring.__init__" s_Ring___init__ fI fd) : FnOk P w K mg base CX0 1 fI fd ["self", "ring"] (spRgI C) := by
  refine F.ok sc_Ring___init__ (fun vs H Q E h => ?_) (fun cdv A outer s H vs Q E hr h => ?_)
  · obtain ⟨a, L, xs, rfl, _⟩ := h
    rfl
  obtain ⟨a, L, xs, rfl, ha, hL, q⟩ := h
  refine ⟨_, (pss_one (ps_ost (pv 0) (pe_callTy call_list_of (by rfl) T.b_list (by decide +kernel) (pa_cons (pv 1) pa_nil)))), ?_⟩
  refine ⟨_, rfl, L, _, rfl, .inl (SqL.of hL), fun M nM => ?_⟩
  have naM : a ≠ M := ne_of_none ha nM
  refine ⟨_, rfl, a, C, rfl, Z.oex, Z.no, .inl ⟨by rw [upd_ne naM]; exact ha, fun dx n ne => ?_⟩⟩
  have ndM : dx ≠ M := fun e => by rw [e, upd_same] at n; cases n
  rw [upd_ne ndM] at n
  exact q M dx nM naM.symm ndM n ne
end
/-! ### names in lists; dicts by names -/
theorem strV_eq (a b : List Nat) : eqV (.str (SX.S a)) (.str (SX.S b)) = decide (a = b) := by
  show (SX.S a == SX.S b) = _
  rw [SX.S_beq]
  by_cases c : a = b
  · rw [c, beq_self_eq_true, decide_eq_true rfl]
  · rw [beq_eq_false_iff_ne.mpr c, decide_eq_false c]
theorem in_txs (t : List Nat) (ns : List (List Nat)) : inV (.str (SX.S t)) (txs ns) = decide (t ∈ ns) := by
  induction ns with
  | nil => rfl
  | cons a r ih =>
    show (eqV (.str (SX.S a)) (.str (SX.S t)) || inV (.str (SX.S t)) (txs r)) = _
    rw [ih, strV_eq]
    by_cases c : a = t
    · rw [decide_eq_true c, Bool.true_or, decide_eq_true (by rw [c]; exact List.mem_cons_self ..)]
    · rw [decide_eq_false c, Bool.false_or]
      by_cases d : t ∈ r
      · rw [decide_eq_true d, decide_eq_true (List.mem_cons_of_mem _ d)]
      · rw [decide_eq_false d, decide_eq_false (fun z => (List.mem_cons.mp z).elim (fun e => c e.symm) d)]
theorem txs_flat (ns : List (List Nat)) : (txs ns).all flatV = true := List.all_eq_true.mpr fun x hx => by
  obtain ⟨s, _, rfl⟩ := txs_mem hx
  rfl
theorem txs_drop (ns : List (List Nat)) (k : Nat) : (txs ns).drop k = txs (ns.drop k) := by unfold txs; rw [List.map_drop, List.map_drop]
theorem cutV_from (xs : List V) (a : Nat) : cutV xs (some (a : Int)) none = xs.drop a := by
  show (xs.drop (HT.sIx xs.length 0 (some (a : Int)))).take (HT.sIx xs.length xs.length none - HT.sIx xs.length 0 (some (a : Int))) = _
  rw [HT.sIx_none, HT.sIx_nat]
  by_cases ha : a ≤ xs.length
  · rw [Nat.min_eq_left ha, List.take_of_length_le (by rw [List.length_drop]; omega)]
  · rw [Nat.min_eq_right (by omega), List.drop_eq_nil_of_le (Nat.le_refl _), List.drop_eq_nil_of_le (by omega), List.take_nil]
/-- the first place of a name -/
theorem first_at {t : List Nat} : ∀ {ns : List (List Nat)}, t ∈ ns → ns[ns.idxOf t]? = some t ∧ ∀ m s, m < ns.idxOf t → ns[m]? = some s → ¬ s = t
  | [], h => nomatch h
  | a :: r, h => by
    rw [List.idxOf_cons]
    by_cases c : a = t
    · rw [c, beq_self_eq_true, cond_true]
      exact ⟨rfl, fun m s hm => absurd hm (Nat.not_lt_zero _)⟩
    · rw [beq_eq_false_iff_ne.mpr c, cond_false]
      have hr : t ∈ r := (List.mem_cons.mp h).elim (fun e => absurd e.symm c) id
      obtain ⟨h1, h2⟩ := first_at hr
      refine ⟨by simpa using h1, fun m s hm e => ?_⟩
      cases m with
      | zero =>
        have : a = s := by simpa using e
        rw [← this]
        exact c
      | succ m => exact h2 m s (by omega) (by simpa using e)
/-- a dict's pairs stand for pairs of a name and a thing -/
def KvR {α : Type} (R : α → V → Prop) : List (List Nat × α) → List (Key × V) → Prop
  | [], [] => True
  | p :: l, q :: m => q.1 = kT (SX.S p.1) ∧ R p.2 q.2 ∧ KvR R l m
  | _, _ => False
section
variable {α : Type} {R R' : α → V → Prop}
theorem KvR.imp (h : ∀ a v, R a v → R' a v) : ∀ {l : List (List Nat × α)} {m : List (Key × V)}, KvR R l m → KvR R' l m
  | [], [], _ => trivial
  | _ :: _, _ :: _, ⟨a, b, c⟩ => ⟨a, h _ _ b, KvR.imp h c⟩
  | [], _ :: _, h => h.elim
  | _ :: _, [], h => h.elim
theorem KvR.len : ∀ {l : List (List Nat × α)} {m : List (Key × V)}, KvR R l m → m.length = l.length
  | [], [], _ => rfl
  | _ :: _, _ :: _, ⟨_, _, c⟩ => congrArg (· + 1) (KvR.len c)
  | [], _ :: _, h => h.elim
  | _ :: _, [], h => h.elim
theorem KvR.snoc {t : List Nat} {a : α} {v : V} (r : R a v) : ∀ {l : List (List Nat × α)} {m : List (Key × V)}, KvR R l m → KvR R (l ++ [(t, a)]) (m ++ [(kT (SX.S t), v)])
  | [], [], _ => ⟨rfl, r, trivial⟩
  | _ :: _, _ :: _, ⟨x, y, z⟩ => ⟨x, y, KvR.snoc r z⟩
  | [], _ :: _, h => h.elim
  | _ :: _, [], h => h.elim
theorem KvR.any {t : List Nat} : ∀ {l : List (List Nat × α)} {m : List (Key × V)}, KvR R l m → (m.any fun kv => decide (kv.1 = kT (SX.S t))) = (l.any fun p => decide (p.1 = t))
  | [], [], _ => rfl
  | p :: l, q :: m, ⟨x, _, z⟩ => by
    show (decide (q.1 = kT (SX.S t)) || m.any _) = (decide (p.1 = t) || l.any _)
    rw [KvR.any z, x]
    by_cases c : p.1 = t
    · rw [c, decide_eq_true rfl, decide_eq_true rfl]
    · rw [decide_eq_false c, decide_eq_false fun e => c (kS_inj e)]
  | [], _ :: _, h => h.elim
  | _ :: _, [], h => h.elim
theorem KvR.put {t : List Nat} {a : α} {v : V} (r : R a v) {l : List (List Nat × α)} {m : List (Key × V)} (h : KvR R l m) : KvR R (putA l t a) (putK m (kT (SX.S t)) v) := by
  unfold putA putK
  rw [h.any]
  split
  · have key : ∀ {l : List (List Nat × α)} {m : List (Key × V)}, KvR R l m → KvR R (l.map fun p => if p.1 = t then (p.1, a) else p) (m.map fun kv => if kv.1 = kT (SX.S t) then (kv.1, v) else kv) := by
      intro l
      induction l with
      | nil =>
        intro m h
        cases m with
        | nil => trivial
        | cons _ _ => exact h.elim
      | cons p l ih =>
        intro m h
        cases m with
        | nil => exact h.elim
        | cons q m =>
          obtain ⟨x, y, z⟩ := h
          rw [List.map_cons, List.map_cons]
          by_cases c : p.1 = t
          · rw [if_pos c, if_pos (by rw [x, c])]
            exact ⟨x, r, ih z⟩
          · rw [if_neg c, if_neg (by rw [x]; exact fun e => c (kS_inj e))]
            exact ⟨x, y, ih z⟩
    exact key h
  · exact h.snoc r
def getA (l : List (List Nat × α)) (t : List Nat) : Option α := (l.find? fun p => decide (p.1 = t)).map (·.2)
theorem getA_cons (p : List Nat × α) (l : List (List Nat × α)) (t : List Nat) : getA (p :: l) t = if p.1 = t then some p.2 else getA l t := by
  unfold getA
  rw [List.find?_cons]
  by_cases c : p.1 = t
  · rw [if_pos c, decide_eq_true c]
    rfl
  · rw [if_neg c, decide_eq_false c]
theorem KvR.get {t : List Nat} : ∀ {l : List (List Nat × α)} {m : List (Key × V)}, KvR R l m → (getA l t = none ∧ valV m (kT (SX.S t)) = none) ∨ ∃ a v, getA l t = some a ∧ valV m (kT (SX.S t)) = some v ∧ R a v
  | [], [], _ => .inl ⟨rfl, rfl⟩
  | p :: l, q :: m, ⟨x, y, z⟩ => by
    rw [getA_cons]
    by_cases c : p.1 = t
    · rw [if_pos c, valV_pos (by rw [x, c])]
      exact .inr ⟨_, _, rfl, rfl, y⟩
    · rw [if_neg c, valV_neg (by rw [x]; exact fun e => c (kS_inj e))]
      exact KvR.get z
  | [], _ :: _, h => h.elim
  | _ :: _, [], h => h.elim
theorem KvR.at {l : List (List Nat × α)} {m : List (Key × V)} {i : Nat} {k : Key} {v : V} (h : KvR R l m) (e : m[i]? = some (k, v)) : ∃ p, l[i]? = some p ∧ k = kT (SX.S p.1) ∧ R p.2 v := by
  induction l generalizing m i with
  | nil =>
    cases m with
    | nil => simp at e
    | cons _ _ => exact h.elim
  | cons p l ih =>
    cases m with
    | nil => exact h.elim
    | cons q m =>
      obtain ⟨x, y, z⟩ := h
      cases i with
      | zero =>
        have e' : q = (k, v) := by simpa using e
        rw [e'] at x y
        exact ⟨p, rfl, x, y⟩
      | succ i => exact ih z (by simpa using e)
end
theorem kvR_keys {α : Type} {R : α → V → Prop} : ∀ {l : List (List Nat × α)} {m : List (Key × V)}, KvR R l m → m.map (fun kv => kV kv.1) = txs (l.map (·.1))
  | [], [], _ => rfl
  | p :: l, q :: m, ⟨x, _, z⟩ => by
    show kV q.1 :: m.map _ = .str (SX.S p.1) :: txs (l.map (·.1))
    rw [kvR_keys z, x]
    rfl
  | [], _ :: _, h => h.elim
  | _ :: _, [], h => h.elim
theorem numsR (l : List Pr) : KvR (fun (x : Int) v => v = .int x) l (numsK l) := by
  induction l with
  | nil => trivial
  | cons p l ih => exact ⟨rfl, rfl, ih⟩
theorem numsR_eq : ∀ {l : List Pr} {m : List (Key × V)}, KvR (fun (x : Int) v => v = .int x) l m → m = numsK l
  | [], [], _ => rfl
  | p :: l, q :: m, ⟨x, y, z⟩ => by
    rw [numsR_eq z]
    show q :: numsK l = (kT (SX.S p.1), V.int p.2) :: numsK l
    rw [← x, ← y]
  | [], _ :: _, h => h.elim
  | _ :: _, [], h => h.elim
theorem nums_putA (l : List Pr) (t : List Nat) (v : Int) : putK (numsK l) (kT (SX.S t)) (.int v) = numsK (putA l t v) := numsR_eq (KvR.put (R := fun (x : Int) v => v = .int x) (a := v) rfl (numsR l))
theorem seen_put {l : List Pr} {t u : List Nat} {v : Int} : seen (putA l t v) u = if t = u then some v else seen l u := by
  have none_of : ∀ {l : List Pr}, ¬ (l.any fun p => decide (p.1 = t)) = true → seen l t = none := fun {l} h => by
    unfold seen
    rw [List.find?_eq_none.mpr fun p hp c => h (List.any_eq_true.mpr ⟨p, hp, c⟩)]
    rfl
  unfold putA
  by_cases c : (l.any fun p => decide (p.1 = t)) = true
  · rw [if_pos c]
    induction l with
    | nil => simp at c
    | cons p l ih =>
      rw [List.map_cons, seen_cons, seen_cons]
      by_cases h1 : p.1 = t
      · rw [if_pos h1]
        by_cases h2 : t = u
        · rw [if_pos (by rw [h1, h2]), if_pos h2]
        · rw [if_neg (by rw [h1]; exact h2), if_neg h2, if_neg (by rw [h1]; exact h2)]
          by_cases c2 : (l.any fun p => decide (p.1 = t)) = true
          · rw [ih c2, if_neg h2]
          · have e : l.map (fun p => if p.1 = t then (p.1, v) else p) = l := by
              have key : ∀ p ∈ l, (if p.1 = t then (p.1, v) else p) = p := fun p hp => if_neg fun z => c2 (List.any_eq_true.mpr ⟨p, hp, decide_eq_true z⟩)
              exact (List.map_congr_left key).trans (List.map_id' l)
            rw [e]
      · rw [if_neg h1]
        have c2 : (l.any fun p => decide (p.1 = t)) = true := by
          rw [List.any_cons, decide_eq_false h1, Bool.false_or] at c
          exact c
        by_cases h2 : p.1 = u
        · rw [if_pos h2, if_pos h2, if_neg (fun z => h1 (by rw [h2, z]))]
        · rw [if_neg h2, if_neg h2, ih c2]
  · rw [if_neg c]
    have app : ∀ {l : List Pr} {q : Pr}, seen (l ++ [q]) u = match seen l u with | some x => some x | none => if q.1 = u then some q.2 else none := by
      intro l q
      induction l with
      | nil =>
        rw [List.nil_append, seen_cons]
        rfl
      | cons p l ih =>
        rw [List.cons_append, seen_cons, seen_cons, ih]
        by_cases h : p.1 = u
        · rw [if_pos h, if_pos h]
        · rw [if_neg h, if_neg h]
    rw [app]
    by_cases h2 : t = u
    · subst h2
      rw [none_of c, if_pos rfl]
    · simp only [if_neg h2]
      cases seen l u <;> rfl
/-- looks for one name after another -/
def lkAll (h : House) (n : Nat) : RkS → List (List Nat) → OutR RkS
  | s, [] => .ok 0 s
  | s, t :: ts => match lkR h n s t with
    | .ok _ s' => lkAll h n s' ts
    | .err e => .err e
theorem lkAll_snoc {h : House} {n : Nat} {t : List Nat} : ∀ {ts : List (List Nat)} {s s' : RkS} {v : Int}, lkAll h n s ts = .ok v s' → lkAll h n s (ts ++ [t]) = match lkR h n s' t with
    | .ok _ s2 => .ok 0 s2
    | .err e => .err e
  | [], s, s', v, e => by
    cases e
    rfl
  | u :: ts, s, s', v, e => by
    unfold lkAll at e
    show (match lkR h n s u with | .ok _ s' => lkAll h n s' (ts ++ [t]) | .err e => .err e) = _
    cases e1 : lkR h n s u with
    | err x => rw [e1] at e; cases e
    | ok w s1 =>
      rw [e1] at e
      exact lkAll_snoc e
theorem lkAll_err {h : House} {n : Nat} {x : XErr} {us : List (List Nat)} : ∀ {ts : List (List Nat)} {s : RkS}, lkAll h n s ts = .err x → lkAll h n s (ts ++ us) = .err x
  | [], s, e => by cases e
  | u :: ts, s, e => by
    unfold lkAll at e
    show (match lkR h n s u with | .ok _ s' => lkAll h n s' (ts ++ us) | .err e => .err e) = _
    cases e1 : lkR h n s u with
    | err y => rw [e1] at e; exact e
    | ok w s1 =>
      rw [e1] at e
      exact lkAll_err e
theorem KvR.mem {α : Type} {R : α → V → Prop} : ∀ {l : List (List Nat × α)} {m : List (Key × V)}, KvR R l m → ∀ q ∈ m, ∃ a, R a q.2
  | [], [], _, _, h => nomatch h
  | p :: l, q :: m, ⟨_, y, z⟩, r, hr => by
    rcases List.mem_cons.mp hr with rfl | hr
    · exact ⟨_, y⟩
    · exact KvR.mem z r hr
  | [], _ :: _, h, _, _ => h.elim
  | _ :: _, [], h, _, _ => h.elim
/-! ### the class Reckoner walked -/
open LamX NdefX
structure RkT (K : PySem.W.Frag) (mg : Str → Option Value) (C fI : Addr) : Prop where
  cl : Cls K C
  nG : NoAttr K C "given"
  nR : NoAttr K C "recipes"
  nK : NoAttr K C "known"
  nF : NoAttr K C "read_for"
  nA : NoAttr K C "asked"
  g : mg "Reckoner" = some (.ref C)
  mkI : Mk K C fI
/-- all but the tables and the things of S stay; the tables of Tb are tables still -/
def FrS (Tb : List NTab) (S : List Addr) (H H' : Hp) : Prop := (∀ x u, x ∉ S → (∀ ps, u ≠ .tbl ps) → H x = some u → H' x = some u) ∧ (∀ b, H' b = none → H b = none) ∧ (TabsN Tb H → TabsN Tb H')
section
variable {Tb : List NTab}
theorem FrS.refl (S : List Addr) (H : Hp) : FrS Tb S H H := ⟨fun _ _ _ _ h => h, fun _ h => h, fun h => h⟩
theorem FrS.trans {S : List Addr} {A B C : Hp} (f : FrS Tb S A B) (g : FrS Tb S B C) : FrS Tb S A C := ⟨fun x u n t h => g.1 x u n t (f.1 x u n t h), fun b h => f.2.1 b (g.2.1 b h), fun h => g.2.2 (f.2.2 h)⟩
theorem FrS.of {S : List Addr} {A B : Hp} (s : Same A B) : FrS Tb S A B := ⟨fun x u _ _ h => s x u h, fun b h => s.free h, fun t => t.ext s⟩
theorem FrS.mono {S S' : List Addr} {A B : Hp} (f : FrS Tb S A B) (h : ∀ x ∈ S, x ∈ S') : FrS Tb S' A B := ⟨fun x u n t e => f.1 x u (fun m => n (h x m)) t e, f.2⟩
/-- a dict or a list -/
def DL (H : Hp) (a : Addr) : Prop := (∃ kvs, H a = some (.dK kvs)) ∨ ∃ xs, H a = some (.lst xs)
theorem DL.tab {H : Hp} {a : Addr} {o : HO} (d : DL H a) (t : TabsN Tb H) : TabsN Tb (upd H a o) := fun p hp => by
  obtain ⟨ps, t1, t2, t3⟩ := t p hp
  refine ⟨ps, ?_, t2, fun pos cv hc => ?_⟩
  · rw [upd_ne (fun z => by rcases d with ⟨_, d⟩ | ⟨_, d⟩ <;> rw [z, d] at t1 <;> cases t1)]
    exact t1
  · obtain ⟨c, e1, e2⟩ := t3 pos cv hc
    refine ⟨c, e1, ?_⟩
    rw [upd_ne (fun z => by rcases d with ⟨_, d⟩ | ⟨_, d⟩ <;> rw [z, d] at e2 <;> cases e2)]
    exact e2
theorem FrS.upd {S : List Addr} {H : Hp} {a : Addr} {o : HO} (h : a ∈ S) (d : DL H a) : FrS Tb S H (upd H a o) := ⟨fun x u n _ e => by rw [upd_ne (fun z => n (by rw [z]; exact h))]; exact e, fun b h' => by
  unfold L2.upd at h'
  split at h'
  · cases h'
  · exact h', d.tab⟩
theorem FrS.ext {S : List Addr} {H H' : Hp} (e : ExtN H H') (n : ∀ b, H' b = none → H b = none) (t : TabsN Tb H') : FrS Tb S H H' := ⟨fun x u _ t h => e x u h t, n, fun _ => t⟩
end
theorem Rd.mp {H H' : Hp} {a : Addr} {k : List (Key × V)} (h : ∀ o, H a = some o → (∀ ps, o ≠ .tbl ps) → H' a = some o) (r : Rd H a (.dK k)) : Rd H' a (.dK k) := r.imp (fun e => h _ e (fun _ z => by cases z)) fun ⟨o, e⟩ => ⟨o, h _ e (fun _ z => by cases z)⟩
theorem DGet.rd {H : Hp} {a : Addr} {k : Key} {kvs : List (Key × V)} (r : Rd H a (.dK kvs)) : DGet H a (kV k) (valV kvs k) := .inl ⟨_, k, r, rfl, rfl⟩
/-- where a reckoner stands -/
structure RkA where
  R : Addr
  gD : Addr
  rD : Addr
  kD : Addr
  fD : Addr
  aL : Addr
  B : Hp
def RkA.own (A : RkA) : List Addr := [A.kD, A.fD, A.aL]
def RdsV (H : Hp) (aL : Addr) (B : Hp) (rd : List Pr) (v : V) : Prop := ∃ L xs, v = .ref L ∧ L ≠ aL ∧ B L = none ∧ H L = some (.lst xs) ∧ Prs H rd xs
structure RkAt (C : Addr) (Tb : List NTab) (A : RkA) (h : House) (s : RkS) (H : Hp) : Prop where
  ins : ∃ dx fs, H A.R = some (.ins C dx fs) ∧ fs.lookup ("given" : Str) = some (.ref A.gD) ∧ fs.lookup ("recipes" : Str) = some (.ref A.rD) ∧ fs.lookup ("known" : Str) = some (.ref A.kD) ∧ fs.lookup ("read_for" : Str) = some (.ref A.fD) ∧ fs.lookup ("asked" : Str) = some (.ref A.aL) ∧ fs.lookup ("look_for" : Str) = none
  gv : H A.gD = some (.dK (numsK h.given))
  rc : ∃ kvs, Rd H A.rD (.dK kvs) ∧ KvR (Rec H) h.recs kvs
  kn : H A.kD = some (.dK (numsK s.known))
  rd : ∃ kvs, H A.fD = some (.dK kvs) ∧ KvR (RdsV H A.aL A.B) s.read kvs
  ask : H A.aL = some (.lst (txs s.asked))
  tab : TabsN Tb H
  bas : ∀ b, H b = none → A.B b = none
  ne : A.kD ≠ A.fD ∧ A.gD ≠ A.kD ∧ A.gD ≠ A.fD ∧ A.rD ≠ A.kD ∧ A.rD ≠ A.fD
  rn : ∀ kvs, H A.fD = some (.dK kvs) → (kvs.map (·.2)).Nodup
theorem FrS.keep {Tb : List NTab} {S : List Addr} {H H' : Hp} (f : FrS Tb S H H') (hS : ∀ x ∈ S, ∀ xs, H x ≠ some (.tup xs)) : Keep H H' := fun b ys e => f.1 b _ (fun m => hS b m ys e) (fun ps z => by cases z) e
theorem RdsV.fr {Tb : List NTab} {S : List Addr} {H H' : Hp} {aL : Addr} {B : Hp} {rd : List Pr} {v : V} (f : FrS Tb S H H') (k : Keep H H') (hl : ∀ L xs, H L = some (.lst xs) → L ≠ aL → L ∉ S) (h : RdsV H aL B rd v) : RdsV H' aL B rd v := by
  obtain ⟨L, xs, e, n, nb, hL, hP⟩ := h
  exact ⟨L, xs, e, n, nb, f.1 L _ (hl L xs hL n) (fun ps z => by cases z) hL, hP.keep k⟩
theorem RkAt.fr {C : Addr} {Tb : List NTab} {A : RkA} {h : House} {s : RkS} {S : List Addr} {H H' : Hp} (a : RkAt C Tb A h s H) (f : FrS Tb S H H') (hS : ∀ x ∈ S, (∀ xs, H x ≠ some (.tup xs)) ∧ x ≠ A.R ∧ x ≠ A.gD ∧ x ≠ A.rD ∧ x ≠ A.kD ∧ x ≠ A.fD ∧ x ≠ A.aL ∧ ∀ xs, H x ≠ some (.lst xs)) : RkAt C Tb A h s H' := by
  have st : ∀ {x : Addr} {u : HO}, x ∉ S → (∀ ps, u ≠ .tbl ps) → H x = some u → H' x = some u := fun n t e => f.1 _ _ n t e
  have k := f.keep fun x hx => (hS x hx).1
  obtain ⟨dx, fs, h1, h2⟩ := a.ins
  obtain ⟨kvs, h3, h4⟩ := a.rc
  obtain ⟨kvs2, h5, h6⟩ := a.rd
  refine ⟨⟨dx, fs, st (fun m => (hS _ m).2.1 rfl) (fun _ z => by cases z) h1, h2⟩, st (fun m => (hS _ m).2.2.1 rfl) (fun _ z => by cases z) a.gv, ⟨kvs, Rd.mp (fun o e t => st (fun m => (hS _ m).2.2.2.1 rfl) t e) h3, h4.imp fun r v q => q.keep k⟩, st (fun m => (hS _ m).2.2.2.2.1 rfl) (fun _ z => by cases z) a.kn,
    ⟨kvs2, st (fun m => (hS _ m).2.2.2.2.2.1 rfl) (fun _ z => by cases z) h5, h6.imp fun r v q => q.fr f k fun L xs e _ m => (hS _ m).2.2.2.2.2.2.2 xs e⟩, st (fun m => (hS _ m).2.2.2.2.2.2.1 rfl) (fun _ z => by cases z) a.ask, f.2.2 a.tab, (fun b e => a.bas b (f.2.1 b e)), a.ne, fun kvs e => by
      rw [st (fun m => (hS _ m).2.2.2.2.2.1 rfl) (fun _ z => by cases z) h5] at e
      cases e
      exact a.rn _ h5⟩
theorem RkAt.same {C : Addr} {Tb : List NTab} {A : RkA} {h : House} {s : RkS} {H H' : Hp} (a : RkAt C Tb A h s H) (sm : Same H H') : RkAt C Tb A h s H' := a.fr (S := []) (FrS.of sm) (fun _ h => nomatch h)
/-- a dict of its own is no part of it -/
theorem RkAt.ownD {C : Addr} {Tb : List NTab} {A : RkA} {h : House} {s : RkS} {H H' : Hp} {D : Addr} {kvs : List (Key × V)} (a : RkAt C Tb A h s H) (f : FrS Tb [D] H H') (hD : H D = some (.dK kvs)) (n1 : D ≠ A.gD) (n2 : D ≠ A.rD) (n3 : D ≠ A.kD) (n4 : D ≠ A.fD) : RkAt C Tb A h s H'   := a.fr f fun x hx => by
  rw [List.mem_singleton.mp hx]
  obtain ⟨dx, fs, h1, _⟩ := a.ins
  refine ⟨fun xs e => (by rw [hD] at e; cases e), fun z => (by rw [z, h1] at hD; cases hD), n1, n2, n3, n4, fun z => (by rw [z, a.ask] at hD; cases hD), fun xs e => (by rw [hD] at e; cases e)⟩
theorem RkAt.keepOwn {C : Addr} {Tb : List NTab} {A : RkA} {h : House} {s : RkS} {H H' : Hp} (a : RkAt C Tb A h s H) (f : FrS Tb A.own H H') : Keep H H' := f.keep fun x hx xs e => by
  obtain ⟨kvs, h5, _⟩ := a.rd
  rcases List.mem_cons.mp hx with rfl | hx
  · rw [a.kn] at e; cases e
  rcases List.mem_cons.mp hx with rfl | hx
  · rw [h5] at e; cases e
  rw [List.mem_singleton.mp hx, a.ask] at e
  cases e
theorem RkAt.extOwn {C : Addr} {Tb : List NTab} {A : RkA} {h : House} {s : RkS} {H H' : Hp} {b : Addr} {phi : Heap → Prop} (a : RkAt C Tb A h s H) (f : FrS Tb A.own H H') (e : H b = some (.ext phi)) : H' b = some (.ext phi) := f.1 b _ (fun hx => by
  obtain ⟨kvs, h5, _⟩ := a.rd
  rcases List.mem_cons.mp hx with rfl | hx
  · rw [a.kn] at e; cases e
  rcases List.mem_cons.mp hx with rfl | hx
  · rw [h5] at e; cases e
  rw [List.mem_singleton.mp hx, a.ask] at e
  cases e) (fun ps z => by cases z) e
/-- a worth known more -/
theorem RkAt.known {C : Addr} {Tb : List NTab} {A : RkA} {h : House} {s : RkS} {H : Hp} (a : RkAt C Tb A h s H) (t : List Nat) (v : Int) : RkAt C Tb A h { s with known := putA s.known t v } (upd H A.kD (.dK (numsK (putA s.known t v)))) := by
  obtain ⟨n1, n2, n3, n4, n5⟩ := a.ne
  obtain ⟨dx, fs, h1, h2⟩ := a.ins
  obtain ⟨kvs, h3, h4⟩ := a.rc
  obtain ⟨kvs2, h5, h6⟩ := a.rd
  have f : FrS Tb [A.kD] H (upd H A.kD (.dK (numsK (putA s.known t v)))) := FrS.upd (List.mem_singleton.mpr rfl) (.inl ⟨_, a.kn⟩)
  have k : Keep H (upd H A.kD (.dK (numsK (putA s.known t v)))) := f.keep fun x hx xs e => by rw [List.mem_singleton.mp hx, a.kn] at e; cases e
  refine ⟨⟨dx, fs, ?_, h2⟩, ?_, ⟨kvs, ?_, h4.imp fun r v q => q.keep k⟩, upd_same, ⟨kvs2, ?_, h6.imp fun r v q => q.fr f k fun L xs e _ m => by rw [List.mem_singleton.mp m, a.kn] at e; cases e⟩, ?_, f.2.2 a.tab, (fun b e => a.bas b (f.2.1 b e)), a.ne, fun kvs e => a.rn kvs (by rw [upd_ne n1.symm] at e; exact e)⟩
  · rw [upd_ne (fun z => by rw [z, a.kn] at h1; cases h1)]; exact h1
  · rw [upd_ne n2]; exact a.gv
  · exact Rd.mp (fun o e _ => by rw [upd_ne n4]; exact e) h3
  · rw [upd_ne n1.symm]; exact h5
  · rw [upd_ne (fun z => by have := a.ask; rw [z, a.kn] at this; cases this)]; exact a.ask
/-- other names asked -/
theorem RkAt.asking {C : Addr} {Tb : List NTab} {A : RkA} {h : House} {s : RkS} {H : Hp} (a : RkAt C Tb A h s H) (ns : List (List Nat)) : RkAt C Tb A h { s with asked := ns } (upd H A.aL (.lst (txs ns))) := by
  obtain ⟨dx, fs, h1, h2⟩ := a.ins
  obtain ⟨kvs, h3, h4⟩ := a.rc
  obtain ⟨kvs2, h5, h6⟩ := a.rd
  have f : FrS Tb [A.aL] H (upd H A.aL (.lst (txs ns))) := FrS.upd (List.mem_singleton.mpr rfl) (.inr ⟨_, a.ask⟩)
  have k : Keep H (upd H A.aL (.lst (txs ns))) := keep_lst a.ask
  refine ⟨⟨dx, fs, ?_, h2⟩, ?_, ⟨kvs, ?_, h4.imp fun r v q => q.keep k⟩, ?_, ⟨kvs2, ?_, h6.imp fun r v q => q.fr f k fun L xs e n m => n (List.mem_singleton.mp m)⟩, upd_same, f.2.2 a.tab, (fun b e => a.bas b (f.2.1 b e)), a.ne, fun kvs e => a.rn kvs (by rw [upd_ne (fun z => by rw [z, a.ask] at h5; cases h5)] at e; exact e)⟩
  · rw [upd_ne (fun z => by rw [z, a.ask] at h1; cases h1)]; exact h1
  · rw [upd_ne (fun z => by have := a.gv; rw [z, a.ask] at this; cases this)]; exact a.gv
  · exact Rd.mp (fun o e _ => by rw [upd_ne (fun z => by rcases h3 with h3 | ⟨_, h3⟩ <;> (rw [z, a.ask] at h3; cases h3))]; exact e) h3
  · rw [upd_ne (fun z => by have := a.kn; rw [z, a.ask] at this; cases this)]; exact a.kn
  · rw [upd_ne (fun z => by rw [z, a.ask] at h5; cases h5)]; exact h5
/-- reads put down -/
theorem RkAt.reads {C : Addr} {Tb : List NTab} {A : RkA} {h : House} {s : RkS} {H : Hp} (a : RkAt C Tb A h s H) {kvs2 : List (Key × V)} (h5 : H A.fD = some (.dK kvs2)) (h6 : KvR (RdsV H A.aL A.B) s.read kvs2) (t : List Nat) {own : List Pr} {v : V} (hv : RdsV H A.aL A.B own v) (hnew : ∀ q ∈ kvs2, q.2 ≠ v) (hnt : ¬ t ∈ s.read.map (·.1)) : RkAt C Tb A h { s with read := putA s.read t own } (upd H A.fD (.dK (putK kvs2 (kT (SX.S t)) v))) := by
  obtain ⟨n1, n2, n3, n4, n5⟩ := a.ne
  obtain ⟨dx, fs, h1, h2⟩ := a.ins
  obtain ⟨kvs, h3, h4⟩ := a.rc
  have f : FrS Tb [A.fD] H (upd H A.fD (.dK (putK kvs2 (kT (SX.S t)) v))) := FrS.upd (List.mem_singleton.mpr rfl) (.inl ⟨_, h5⟩)
  have k : Keep H (upd H A.fD (.dK (putK kvs2 (kT (SX.S t)) v))) := f.keep fun x hx xs e => by rw [List.mem_singleton.mp hx, h5] at e; cases e
  have up : ∀ r v, RdsV H A.aL A.B r v → RdsV (upd H A.fD (.dK (putK kvs2 (kT (SX.S t)) v))) A.aL A.B r v := fun r v q => by
    have f : FrS Tb [A.fD] H (upd H A.fD (.dK (putK kvs2 (kT (SX.S t)) v))) := FrS.upd (List.mem_singleton.mpr rfl) (.inl ⟨_, h5⟩)
    exact q.fr f (f.keep fun x hx xs e => by rw [List.mem_singleton.mp hx, h5] at e; cases e) fun L xs e n m => by rw [List.mem_singleton.mp m, h5] at e; cases e
  refine ⟨⟨dx, fs, ?_, h2⟩, ?_, ⟨kvs, ?_, h4.imp fun r v q => q.keep k⟩, ?_, ⟨_, upd_same, (KvR.put hv h6).imp fun r x q => ?_⟩, ?_, f.2.2 a.tab, (fun b e => a.bas b (f.2.1 b e)), a.ne, fun kvs e => ?_⟩
  · rw [upd_ne (fun z => by rw [z, h5] at h1; cases h1)]; exact h1
  · rw [upd_ne n3]; exact a.gv
  · exact Rd.mp (fun o e _ => by rw [upd_ne n5]; exact e) h3
  · rw [upd_ne n1]; exact a.kn
  · exact q.fr f k fun L xs e n m => by rw [List.mem_singleton.mp m, h5] at e; cases e
  · rw [upd_ne (fun z => by have := a.ask; rw [z, h5] at this; cases this)]; exact a.ask
  · rw [upd_same] at e
    cases e
    unfold putK
    rw [if_neg (by
      rw [h6.any]
      intro z
      obtain ⟨p, hp, e2⟩ := List.any_eq_true.mp z
      exact hnt (List.mem_map.mpr ⟨p, hp, of_decide_eq_true e2⟩)), List.map_append]
    refine List.nodup_append.mpr ⟨a.rn _ h5, List.nodup_cons.mpr ⟨(fun z => nomatch z), List.nodup_nil⟩, fun x hx y hy e2 => ?_⟩
    obtain ⟨q2, hq2, rfl⟩ := List.mem_map.mp hx
    rw [List.mem_singleton.mp hy] at e2
    exact hnew q2 hq2 e2
def lvR (dm n : Nat) : Nat := n * (dm + 2) + 1
/-- look_for's promise, by n names in one another -/
def spLF (C CN CR : Addr) (Tb : List NTab) (dm n : Nat) : Sp := fun vs H Q E => ∃ (A : RkA) (h : House) (beta : Nat → Nat) (s : RkS) (t : List Nat), vs = [.ref A.R, .str (SX.S t)] ∧ HouseOk dm h beta ∧ h.given.length + h.recs.length ≤ 100000 ∧ RkAt C Tb A h s H ∧ RkOk h beta s ∧ h.recs.length + 1 ≤ s.asked.length + n ∧ Nm t ∧
  TellW (fun s' H' => RkAt C Tb A h s' H') (FrS Tb A.own) (ErK CN CR) Q E H (lkR h n s t)
/-! ### look_for -/
open LamX NdefX
def At2 (C : Addr) (Tb : List NTab) (A : RkA) (h : House) (D : Addr) : RkS × List Pr → Hp → Prop := fun p H => RkAt C Tb A h p.1 H ∧ H D = some (.dK (numsK p.2)) ∧ D ≠ A.gD ∧ D ≠ A.rD ∧ D ≠ A.kD ∧ D ≠ A.fD
def J2 (h : House) (beta : Nat → Nat) (B : List (List Nat)) : RkS × List Pr → Prop := fun p => RkOk h beta p.1 ∧ p.1.asked = B ∧ OwnOk beta p.1 p.2
theorem At2.not {C : Addr} {Tb : List NTab} {A : RkA} {h : House} {D : Addr} {p : RkS × List Pr} {H : Hp} (a : At2 C Tb A h D p H) {x : Addr} (hx : x ∈ D :: A.own) : (∃ kvs, H x = some (.dK kvs)) ∨ ∃ xs, H x = some (.lst xs) := by
  obtain ⟨kvs, h5, _⟩ := a.1.rd
  rcases List.mem_cons.mp hx with rfl | hx
  · exact .inl ⟨_, a.2.1⟩
  rcases List.mem_cons.mp hx with rfl | hx
  · exact .inl ⟨_, a.1.kn⟩
  rcases List.mem_cons.mp hx with rfl | hx
  · exact .inl ⟨_, h5⟩
  rw [List.mem_singleton.mp hx]
  exact .inr ⟨_, a.1.ask⟩
theorem frOk2 (C : Addr) (Tb : List NTab) (A : RkA) (h : House) (D : Addr) : FrOk (At2 C Tb A h D) (FrS Tb (D :: A.own)) where
  refl := FrS.refl _
  trans := FrS.trans
  keep := fun a f => f.keep fun x hx xs e => by
    rcases a.not hx with ⟨_, z⟩ | ⟨_, z⟩ <;> rw [z] at e <;> cases e
  ext := fun a f e => f.1 _ _ (fun hx => by rcases a.not hx with ⟨_, z⟩ | ⟨_, z⟩ <;> rw [z] at e <;> cases e) (fun ps z => by cases z) e
section
variable {P : Program} {w : World} {K : PySem.W.Frag} {mg : Str → Option Value} {base : Heap} {C fI CN fN CR fR cL PL : Addr} {Tb : List NTab}
abbrev s_Reckoner_look_for : Stmt := inClass (topS 7) 1
abbrev N_Reckoner_look_for : List Str := ["self", "name", "look", "worth", "own", "other"]
theorem sc_Reckoner_look_for : FnScope N_Reckoner_look_for ["self", "name"] (defScope s_Reckoner_look_for) := ⟨rfl, rfl, rfl, by decide +kernel, rfl, by decide +kernel, by decide +kernel⟩

abbrev s_Reckoner_look_for_look : Stmt := (defBody s_Reckoner_look_for).getD 6 (.Pass ⟨0, 0, 0, 0⟩)
abbrev N_Reckoner_look_for_look : List Str := ["other", "own", "self", "number"]
theorem sc_Reckoner_look_for_look : NScope N_Reckoner_look_for_look ["other"] ["own", "self"] (C8.fnScope s_Reckoner_look_for_look) := nscope_by (by decide +kernel)
theorem nd_Reckoner_look_for_look : ndefB (defScope s_Reckoner_look_for) (C8.fnScope s_Reckoner_look_for_look) ["own", "self"] = true := by decide +kernel
abbrev nm_Reckoner_look_for_look : Str := (("Reckoner.look_for" : Str) ++ ".<locals>.") ++ "look"

theorem nok_look {dm n : Nat} {hh : House} {beta : Nat → Nat} {A : RkA} {B : List (List Nat)} {D f c' : Addr} {cl : List (Str × Addr)} (ZReckoner : RkT K mg C fI) (HH : HouseOk dm hh beta) (hsz : hh.given.length + hh.recs.length ≤ 100000) (hB : hh.recs.length + 1 ≤ B.length + n)
    (ML : Met P w K mg base (L2.CX P w) (lvR dm n) C "look_for" ["self", "name"] (spLF C CN CR Tb dm n)) :
    NOk P w K mg base (L2.CX P w) (lvR dm n + 1) f (NF.of s_Reckoner_look_for_look "look" nm_Reckoner_look_for_look cl c') ["other"] ["own", "self"] (spLk (At2 C Tb A hh D) (FrS Tb (D :: A.own)) (ErK CN CR) (J2 hh beta B) (lkOwn (lkR hh n)) [some (.ref D), some (.ref A.R)]) := by
  obtain ⟨f_l, fd_l, F_Reckoner_look_for, M_Reckoner_look_for, B_Reckoner_look_for⟩ := ML
  refine nok_of (N := N_Reckoner_look_for_look) sc_Reckoner_look_for_look (fun _ _ _ us hl => match us, hl with | [_], _ => rfl) (fun ws vs H Q E h => ?_) (fun A' outer s H vs ws Q E hr hf hc hlen h => ?_)
  · obtain ⟨_, t, st, rfl, _⟩ := h
    rfl
  obtain ⟨rfl, t, ⟨st, own⟩, rfl, hA, hJ, ht, q⟩ := h
  obtain ⟨a1, hD, nD⟩ := id hA
  obtain ⟨dx, fs, hR, _, _, _, _, _, lf⟩ := a1.ins
  refine ⟨_, (pss_cons (ps_set (i := 3) sc_Reckoner_look_for_look.nd rfl (Or.inl rfl) (pe_meth (pv 2) ZReckoner.cl M_Reckoner_look_for F_Reckoner_look_for (hr.mono (by first | decide | omega)) B_Reckoner_look_for .nil (passes_call (takes_of rfl rfl rfl rfl) (fun _ _ _ _ h => h)) (pa_cons (pv 0) pa_nil)))
      (pss_cons (ps_expr (pe_dsetd (pv 1) (pv 0) (pv 3) ⟨rfl, rfl, rfl, rfl⟩))
      (pss_one (ps_ret (pv 3))))), ?_⟩
  refine ⟨_, rfl, A.R, dx, fs, rfl, hR, lf, _, rfl, A, hh, beta, st, t, rfl, HH, hsz, a1, hJ.1, by rw [hJ.2.1]; exact hB, ht, ?_⟩
  unfold lkOwn at q
  cases e : lkR hh n st t with
  | err x =>
    rw [show lkR hh n (st, own).1 t = .err x from e] at q
    exact fun H1 f1 => q H1 (f1.mono fun x hx => List.mem_cons_of_mem _ hx)
  | ok v s' =>
    rw [show lkR hh n (st, own).1 t = .ok v s' from e] at q
    intro H1 f1 A1
    have dOwn : D ∉ A.own := fun hx => by
      rcases List.mem_cons.mp hx with z | hx
      · exact nD.2.2.1 z
      rcases List.mem_cons.mp hx with z | hx
      · exact nD.2.2.2 z
      have := a1.ask
      rw [← List.mem_singleton.mp hx, hD] at this
      cases this
    have hD1 : H1 D = some (.dK (numsK own)) := f1.1 D _ dOwn (fun _ z => by cases z) hD
    have hol : own.length ≤ hh.given.length + hh.recs.length := hJ.2.2.len hJ.1
    refine ⟨_, rfl, D, rfl, .inl ⟨_, .inl hD1⟩, _, rfl, _, rfl, numsK own, kT (SX.S t), hD1, rfl, lt_line (by rw [numsK_len]; omega), fun v' hv => ?_, fun hn => ?_⟩
    · rw [val_seen] at hv
      have hs : setd own t v = own := by
        unfold setd
        cases e2 : seen own t with
        | none => rw [e2] at hv; cases hv
        | some _ => rfl
      have q2 : TellW (At2 C Tb A hh D) (FrS Tb (D :: A.own)) (ErK CN CR) Q E H (.ok v (s', own)) := by rw [← hs]; exact q
      exact ⟨_, rfl, q2 H1 (f1.mono fun x hx => List.mem_cons_of_mem _ hx) ⟨A1, hD1, nD⟩⟩
    · rw [val_seen] at hn
      have hs : setd own t v = putA own t v := by
        unfold setd
        cases e2 : seen own t with
        | none => rfl
        | some _ => rw [e2] at hn; cases hn
      have q2 : TellW (At2 C Tb A hh D) (FrS Tb (D :: A.own)) (ErK CN CR) Q E H (.ok v (s', putA own t v)) := by rw [← hs]; exact q
      have f2 : FrS Tb [D] H1 (upd H1 D (.dK (numsK (putA own t v)))) := FrS.upd (List.mem_singleton.mpr rfl) (.inl ⟨_, hD1⟩)
      rw [nums_putA]
      refine ⟨_, rfl, q2 _ ((f1.mono fun x hx => List.mem_cons_of_mem _ hx).trans (f2.mono fun x hx => by rw [List.mem_singleton.mp hx]; exact List.mem_cons_self ..)) ⟨A1.ownD f2 hD1 nD.1 nD.2.1 nD.2.2.1 nD.2.2.2, upd_same, nD⟩⟩
end
/-! ### look_for walked -/
open LamX NdefX
theorem flown2 {H : Hp} {a dx : Addr} {x u v w : HO} (h1 : H a = none) (h2 : H dx = none) : Same H (upd (del (upd (upd (upd H a x) dx u) a v) a) dx w) := fun b o e => by
  rw [upd_ne (ne_of_none e h2), del_ne (ne_of_none e h1), upd_ne (ne_of_none e h1), upd_ne (ne_of_none e h2), upd_ne (ne_of_none e h1)]
  exact e
theorem FrS.drop {Tb : List NTab} {D : Addr} {S : List Addr} {H H' : Hp} (f : FrS Tb (D :: S) H H') (n : H D = none) : FrS Tb S H H' := ⟨fun x u m t e => f.1 x u (fun z => (List.mem_cons.mp z).elim (fun z => by rw [z, n] at e; cases e) m) t e, f.2⟩
theorem txs_snoc (ns : List (List Nat)) (t : List Nat) : txs ns ++ [.str (SX.S t)] = txs (ns ++ [t]) := by rw [txs_app]; rfl
theorem txs_pop (ns : List (List Nat)) (t : List Nat) : (txs (ns ++ [t])).dropLast = txs ns ∧ (txs (ns ++ [t]))[(txs (ns ++ [t])).length - 1]? = some (.str (SX.S t)) := by
  rw [← txs_snoc]
  refine ⟨List.dropLast_concat, ?_⟩
  rw [List.length_append, List.getElem?_append_right (by simp)]
  simp
theorem rcp_seen (l : List RcpNm) (t : List Nat) : getA l t = rcpOf l t := rfl
section
variable {P : Program} {w : World} {K : PySem.W.Frag} {mg : Str → Option Value} {base : Heap} {C fI CN fN CR fR cL PL : Addr} {Tb : List NTab}
theorem ok_look_for {dm : Nat} {fdN fdR : FuncData} (T : Txt K mg) (ZReckoner : RkT K mg C fI) (ZNoName : OwnX K mg "NoName" "name" CN fN) (ZRing : OwnX K mg "Ring" "ring" CR fR)
    (F_NoName___init__ : FnOk P w K mg base CX0 1 fN fdN ["self", "name"] (spNNI CN)) (B_NoName___init__ : Binds K fdN ["self", "name"] []) (F_Ring___init__ : FnOk P w K mg base CX0 1 fR fdR ["self", "ring"] (spRgI CR)) (B_Ring___init__ : Binds K fdR ["self", "ring"] [])
    (TB_Reckoner_look_for_look : TabB base mg cL PL) (HM_Reckoner_look_for_look : (PL, fun _ _ => nm_Reckoner_look_for_look) ∈ Tb) (HU_Reckoner_look_for_look : ∀ p ∈ Tb, p.1 = PL → p.2 = fun _ _ => nm_Reckoner_look_for_look)
    (Dm : IsMetC K C "look_for" "Reckoner.look_for" s_Reckoner_look_for ["self", "name"] cL) (Dw : IsDef K mg "worth_by" s_worth_by ["recipe", "look"]) (C_put : Cal P w K mg base CX0 1 "put_together" ["kind", "one", "other"] spPut) :
    ∀ n, Met P w K mg base (L2.CX P w) (lvR dm n) C "look_for" ["self", "name"] (spLF C CN CR Tb dm n)
  | 0 => Dm.none fun vs H Q E h => by
    obtain ⟨A, hh, beta, s, t, _, HH, _, _, hO, hn, _⟩ := h
    have := hO.len
    omega
  | n + 1 => by
    have ML := ok_look_for (dm := dm) T ZReckoner ZNoName ZRing F_NoName___init__ B_NoName___init__ F_Ring___init__ B_Ring___init__ TB_Reckoner_look_for_look HM_Reckoner_look_for_look HU_Reckoner_look_for_look Dm Dw C_put n
    have elv : lvR dm (n + 1) = (lvR dm n + 1 + dm) + 1 := by unfold lvR; rw [Nat.add_mul]; omega
    rw [elv]
    have hlv : 1 ≤ lvR dm n := Nat.le_add_left _ _
    refine Dm.metX sc_Reckoner_look_for (fun vs H Q E h => ?_) (fun f cA outer s H vs Q E hr h => ?_)
    · obtain ⟨A, hh, beta, s, t, rfl, _⟩ := h
      rfl
    obtain ⟨A, hh, beta, st, t, rfl, HH, hsz, hA, hO, hn, ht, q⟩ := h
    have hu : (cxOf (L2.CX P w) P w K mg base N_Reckoner_look_for "Reckoner.look_for" (defScope s_Reckoner_look_for) f (.ref cL) cA outer s H E).A.units + 1 < cLine := Nat.lt_of_le_of_lt (Nat.add_le_add_left (by decide : 1 ≤ 64) _) hr.units
    have HC_Reckoner_look_for_look : (cxOf (L2.CX P w) P w K mg base N_Reckoner_look_for "Reckoner.look_for" (defScope s_Reckoner_look_for) f (.ref cL) cA outer s H E).env.code = .ref cL := rfl
    have hl1 := hA
    obtain ⟨dx, fs, hR, lG, lR, lK, lF, lA, lL⟩ := hA.ins
    obtain ⟨rkv, hrD, hrR⟩ := hA.rc
    obtain ⟨fkv, hfD, hfR⟩ := hA.rd
    obtain ⟨n1, n2, n3, n4, n5⟩ := hA.ne
    have hkl := hO.klen
    have hal := hO.len
    have hlk : LkOk (lkOwn (lkR hh n)) (J2 hh beta (st.asked ++ [t])) (Val hh) := fun p u v p' hJ hu e => by
      obtain ⟨o1, a1, _, w1, b1⟩ := wk_step (A := st.asked ++ [t]) (fun s t v s' o _ ht e => lkR_step HH.n n s t v s' o ht e) (r := .read u) (p := p) hu hJ.1 hJ.2.1 hJ.2.2 e
      exact ⟨⟨o1, a1, w1⟩, b1⟩
    have C_worth_by : ∀ ws, CalC P w K mg base (L2.CX P w) (lvR dm n + 1 + dm) "worth_by" ["recipe", "look"] (cloFrom (cxOf (L2.CX P w) P w K mg base N_Reckoner_look_for "Reckoner.look_for" (defScope s_Reckoner_look_for) f (.ref cL) cA outer s H E).env.cells (C8.fnScope s_Reckoner_look_for_look).names []) ["own", "self"] ws
        (fun vs H Q E => ∃ i : { i : Addr × Addr × Addr // ws = [some (.ref i.1), some (.ref A.R)] }, spWB (At2 C Tb A hh i.1.1) (FrS Tb (i.1.1 :: A.own)) (ErK CN CR) (J2 hh beta (st.asked ++ [t])) (lkOwn (lkR hh n)) i.1.2.1 (NF.of s_Reckoner_look_for_look "look" nm_Reckoner_look_for_look (cloFrom (cxOf (L2.CX P w) P w K mg base N_Reckoner_look_for "Reckoner.look_for" (defScope s_Reckoner_look_for) f (.ref cL) cA outer s H E).env.cells (C8.fnScope s_Reckoner_look_for_look).names []) i.1.2.2) (Val hh) dm vs H Q E) := fun ws =>
      calC_any Dw fun i => by
        obtain ⟨⟨D, fl, c'⟩, rfl⟩ := i
        by_cases hz : 1 ≤ hh.recs.length
        · exact ok_worth_by T Dw C_put (frOk2 C Tb A hh D) hlk (Nat.le_add_left _ _) (nok_look ZReckoner HH hsz (by rw [List.length_append]; simp only [List.length_cons, List.length_nil]; omega) ML) dm
        · exact ok_worth_by T Dw C_put (frOk2 C Tb A hh D) hlk (Nat.le_add_left _ _) (nok_look ZReckoner HH hsz (by rw [List.length_append]; simp only [List.length_cons, List.length_nil]; omega) ML) dm
    have CAPS : (cxOf (L2.CX P w) P w K mg base N_Reckoner_look_for "Reckoner.look_for" (defScope s_Reckoner_look_for) f (.ref cL) cA outer s H E).Ok → Caps (cxOf (L2.CX P w) P w K mg base N_Reckoner_look_for "Reckoner.look_for" (defScope s_Reckoner_look_for) f (.ref cL) cA outer s H E) (cloFrom (cxOf (L2.CX P w) P w K mg base N_Reckoner_look_for "Reckoner.look_for" (defScope s_Reckoner_look_for) f (.ref cL) cA outer s H E).env.cells (C8.fnScope s_Reckoner_look_for_look).names []) ["own", "self"] [4, 0] :=
      fun ok => Caps.made ok (ndef_free nd_Reckoner_look_for_look) (ndef_fr nd_Reckoner_look_for_look) rfl
    refine ⟨_, (pss_cons (ps_if (pt_cmp (pc_din hu (pv 1) (pe_fld (pv 0) rfl)))
        (pss_one (ps_ret (pe_dget hu (pe_fld (pv 0) rfl) (pv 1) (fun _ _ => rfl))))
        pss_nil)
      (pss_cons (ps_if (pt_cmp (pc_din hu (pv 1) (pe_fld (pv 0) rfl)))
        (pss_cons (ps_dput hu (pe_fld (pv 0) rfl) (pv 1) (pe_dget hu (pe_fld (pv 0) rfl) (pv 1) (fun _ _ => rfl)) rfl)
      (pss_one (ps_ret (pe_dget hu (pe_fld (pv 0) rfl) (pv 1) (fun _ _ => rfl)))))
        pss_nil)
      (pss_cons (ps_if (pt_cmp (pc_dnotin hu (pv 1) (pe_fld (pv 0) rfl)))
        (pss_one (ps_raise rfl (takes_of rfl rfl rfl rfl) (pmk_oex ZNoName.oex ZNoName.iC ZNoName.tI F_NoName___init__ (hr.mono (by first | decide | omega)) B_NoName___init__ .nil pass0 rfl ZNoName.g (pa_cons (pv 1) pa_nil))))
        pss_nil)
      (pss_cons (ps_if (pt_cmpR op_in_seq (pv 1) (pe_fld (pv 0) rfl) (by with_unfolding_all rfl))
        (pss_one (ps_raise rfl (takes_of rfl rfl rfl rfl) (pmk_oex ZRing.oex ZRing.iC ZRing.tI F_Ring___init__ (hr.mono (by first | decide | omega)) B_Ring___init__ .nil pass0 rfl ZRing.g (pa_cons (pe_op op_cat (pe_slice (r := rSlL K) sl_list (pe_fld (pv 0) rfl) (po_some (pe_bm PySem.F.plainAttrs_list PySem.F.slot_list_index PySem.F.type_list_index mt_index (pe_fld (pv 0) rfl) (pa_cons (pv 1) pa_nil))) po_none) (pe_lst (pa_cons (pv 1) pa_nil))) pa_nil))))
        pss_nil)
      (pss_cons (ps_expr (pe_bm PySem.F.plainAttrs_list PySem.F.slot_list_append PySem.F.type_list_append mt_append (pe_fld (pv 0) rfl) (pa_cons (pv 1) pa_nil)))
      (pss_cons (ps_set (i := 4) sc_Reckoner_look_for.nd rfl (Or.inr rfl) pe_dnewK)
      (pss_cons (ps_ndefMS (st := s_Reckoner_look_for_look) (i := 2) (nm := fun _ _ => nm_Reckoner_look_for_look) rfl TB_Reckoner_look_for_look HC_Reckoner_look_for_look HM_Reckoner_look_for_look rfl HU_Reckoner_look_for_look (ndef_free nd_Reckoner_look_for_look) rfl rfl rfl sc_Reckoner_look_for.nd rfl (Or.inl rfl) (Or.inl rfl))
      (pss_cons (ps_set (i := 3) sc_Reckoner_look_for.nd rfl (Or.inl rfl) (pe_callM C_worth_by CAPS (hr.mono (by first | decide | omega)) (passes_call (takes_of rfl rfl rfl rfl) (fun _ _ _ _ h => h)) (pa_cons (pe_dget hu (pe_fld (pv 0) rfl) (pv 1) (fun _ _ => rfl)) (pa_cons (pv 2) pa_nil))))
      (pss_cons (ps_expr (pe_bm0 PySem.F.plainAttrs_list PySem.F.slot_list_pop PySem.F.type_list_pop mt_pop (pe_fld (pv 0) rfl)))
      (pss_cons (ps_dput hu (pe_fld (pv 0) rfl) (pv 1) (pe_lock (pe_lc (own := [("other", 5)]) (g := gName 5)  (by rfl) sc_Reckoner_look_for.nd  (pi_keys (pv 4)) (blkOk_by (own := [("other", 5)]) (N := N_Reckoner_look_for) (sc := defScope s_Reckoner_look_for) (by decide +kernel)) (fun _ _ _ _ _ => (pg_name (i := 5) sc_Reckoner_look_for.nd rfl (Or.inl rfl))) (fun _ _ _ _ _ => pts_nil) (fun _ _ _ _ _ => (pe_tup (pa_cons (pv 5) (pa_cons (pe_dget hu (pv 4) (pv 5) (fun _ _ => rfl)) pa_nil)))))) rfl)
      (pss_cons (ps_dput hu (pe_fld (pv 0) rfl) (pv 1) (pv 3) rfl)
      (pss_one (ps_ret (pv 3)))))))))))))), ?_⟩
    unfold lkR at q
    refine ⟨_, rfl, _, rfl, A.R, C, dx, _, _, rfl, hR, ZReckoner.cl, ZReckoner.nK, lK, A.kD, _, rfl, DGet.k (k := kT (SX.S t)) hA.kn, _, rfl, ?_⟩
    rw [val_seen]
    cases e1 : seen st.known t with
    | some v =>
      rw [e1] at q
      have dV : DGet H A.kD (.str (SX.S t)) (some (.int v)) := (show valV (numsK st.known) (kT (SX.S t)) = some (.int v) by rw [val_seen, e1]; rfl) ▸ DGet.k (k := kT (SX.S t)) hA.kn
      refine iteT ?_
      exact ⟨_, rfl, A.R, C, dx, _, _, rfl, hR, ZReckoner.cl, ZReckoner.nK, lK, _, rfl, A.kD, _, rfl, dV, q H (FrS.refl _ H) hA⟩
    | none =>
      rw [e1] at q
      refine iteF ?_
      refine ⟨_, rfl, _, rfl, A.R, C, dx, _, _, rfl, hR, ZReckoner.cl, ZReckoner.nG, lG, A.gD, _, rfl, DGet.k (k := kT (SX.S t)) hA.gv, _, rfl, ?_⟩
      rw [val_seen]
      cases e2 : seen hh.given t with
      | some v =>
        rw [e2] at q
        have dV : DGet H A.gD (.str (SX.S t)) (some (.int v)) := (show valV (numsK hh.given) (kT (SX.S t)) = some (.int v) by rw [val_seen, e2]; rfl) ▸ DGet.k (k := kT (SX.S t)) hA.gv
        refine iteT ?_
        refine ⟨_, rfl, A.R, C, dx, _, _, rfl, hR, ZReckoner.cl, ZReckoner.nG, lG, _, rfl, A.gD, _, rfl, dV, ?_⟩
        refine ⟨_, rfl, A.R, C, dx, _, _, rfl, hR, ZReckoner.cl, ZReckoner.nK, lK, _, rfl, A.kD, _, rfl, DPut.k (k := kT (SX.S t)) hA.kn (lt_line (by rw [numsK_len]; omega)), ?_⟩
        rw [nums_putA]
        have hA2 := hA.known t v
        obtain ⟨dx2, fs2, hR2, lG2, _, _, _, _, _⟩ := hA2.ins
        have dV2 : DGet (upd H A.kD (.dK (numsK (putA st.known t v)))) A.gD (.str (SX.S t)) (some (.int v)) := (show valV (numsK hh.given) (kT (SX.S t)) = some (.int v) by rw [val_seen, e2]; rfl) ▸ DGet.k (k := kT (SX.S t)) hA2.gv
        exact ⟨_, rfl, A.R, C, dx2, _, _, rfl, hR2, ZReckoner.cl, ZReckoner.nG, lG2, _, rfl, A.gD, _, rfl, dV2, q _ (FrS.upd (List.mem_cons_self ..) (.inl ⟨_, hA.kn⟩)) hA2⟩
      | none =>
        rw [e2] at q
        refine iteF ?_
        refine ⟨_, rfl, _, rfl, A.R, C, dx, _, _, rfl, hR, ZReckoner.cl, ZReckoner.nR, lR, A.rD, _, rfl, DGet.rd (k := kT (SX.S t)) hrD, _, rfl, ?_⟩
        rcases KvR.get (t := t) hrR with ⟨e3, e4⟩ | ⟨r, rv, e3, e4, hrec⟩
        · rw [rcp_seen] at e3
          rw [e3] at q
          rw [e4]
          refine iteT ?_
          refine ⟨_, rfl, (by show 1 ≤ 1000; decide), fun a na => ⟨a, .str (SX.S t), rfl, upd_same, fun d nd nda => ⟨rfl, d, _, upd_same, by rw [upd_ne nda]; exact upd_same, by rw [upd_ne nda] at nd; exact nd, ?_⟩⟩⟩
          rw [upd_ne nda] at nd
          exact q H (FrS.refl _ H) d _ (flown2 na nd) nd upd_same
        · rw [rcp_seen] at e3
          rw [e3] at q
          rw [e4]
          refine iteF ?_
          refine ⟨_, rfl, _, rfl, A.R, C, dx, _, _, rfl, hR, ZReckoner.cl, ZReckoner.nA, lA, A.aL, _, rfl, .inl (SqL.of hA.ask), rfl, txs_flat _, _, rfl, ?_⟩
          rw [if_neg (by decide), in_txs]
          by_cases c : t ∈ st.asked
          · simp only [if_pos c] at q
            refine iteY c ?_
            obtain ⟨hj, hfirst⟩ := first_at c
            have hjl := (List.getElem?_eq_some_iff.mp hj).1
            have hjt : (txs st.asked)[st.asked.idxOf t]? = some (.str (SX.S t)) := by
              rw [txs_get hjl, Option.some.inj ((List.getElem?_eq_getElem hjl).symm.trans hj)]
            refine ⟨_, rfl, A.R, C, dx, _, _, rfl, hR, ZReckoner.cl, ZReckoner.nA, lA, _, rfl, A.R, C, dx, _, _, rfl, hR, ZReckoner.cl, ZReckoner.nA, lA, .inl ⟨rfl, _, .inl (.inl hA.ask)⟩, _, rfl, A.aL, _, _, st.asked.idxOf t, _, rfl, rfl, SqL.of hA.ask, rfl, txs_flat _, hjt, by rw [strV_eq]; exact decide_eq_true rfl, fun m z' hm hz => ?_, ((st.asked.idxOf t : Nat) : Int), rfl, A.aL, _, rfl, SqL.of hA.ask, fun p1 np1 => ?_⟩
            · have hml : m < st.asked.length := by omega
              rw [txs_get hml] at hz
              obtain rfl := Option.some.inj hz
              rw [strV_eq]
              exact decide_eq_false (hfirst m _ hm (List.getElem?_eq_getElem hml))
            rw [cutV_from, txs_drop]
            have s1 := same_new np1 (.lst (txs (st.asked.drop (st.asked.idxOf t))))
            refine ⟨_, rfl, (by show 1 ≤ sizeLine; decide), fun p2 np2 => ?_⟩
            have s2 := s1.trans (same_new np2 (.lst [.str (SX.S t)]))
            have n12 : p1 ≠ p2 := ne_of_none upd_same np2
            refine ⟨p1, p2, _, _, rfl, rfl, by rw [upd_ne n12]; exact upd_same, upd_same, le_line (by rw [txs_len, List.length_drop]; show _ + 1 ≤ _; omega), fun p3 np3 => ?_⟩
            rw [txs_snoc]
            have s3 := s2.trans (same_new np3 (.lst (txs (st.asked.drop (st.asked.idxOf t) ++ [t]))))
            refine ⟨(by show 1 ≤ 1000; decide), fun a na => ⟨a, p3, _, rfl, upd_same, by rw [upd_ne (ne_of_none upd_same na)]; exact upd_same, fun M d nM nMa ndM nd nda => ⟨rfl, d, _, upd_same, by rw [upd_ne nda]; exact upd_same, by rw [upd_ne nda] at nd; exact nd, ?_⟩⟩⟩
            rw [upd_ne nda] at nd
            rw [upd_ne nMa] at nM
            refine q H (FrS.refl _ H) d M _ (fun b o e => ?_) (s3.free nd) (s3.free nM) upd_same ?_
            · have e3 := s3 _ _ e
              rw [upd_ne (ne_of_none e3 nd), del_ne (ne_of_none e3 na), upd_ne (ne_of_none e3 na), upd_ne (ne_of_none e3 nd), upd_ne (ne_of_none e3 nM), upd_ne (ne_of_none e3 na)]
              exact e3
            · rw [upd_ne ndM.symm, del_ne nMa, upd_ne nMa, upd_ne ndM.symm]
              exact upd_same
          · simp only [if_neg c] at q
            refine iteN c ?_
            have hmem := rcpOf_mem e3
            obtain ⟨_, hwn, hdp⟩ := HH.rcp _ hmem
            obtain ⟨ho1, ct⟩ := hO.ask e3 e1 c
            have hl2 := ho1.len
            have hl3 : st.asked.length + 1 + st.read.length ≤ hh.recs.length := by
              have := hl2
              rw [show ({ st with asked := st.asked ++ [t] } : RkS).asked = st.asked ++ [t] from rfl, List.length_append] at this
              exact this
            refine ⟨_, rfl, A.R, C, dx, _, _, rfl, hR, ZReckoner.cl, ZReckoner.nA, lA, .inl ⟨rfl, _, .inl (.inl hA.ask)⟩, _, rfl, A.aL, _, _, rfl, rfl, hA.ask, lt_line (by rw [txs_len]; omega), ?_⟩
            rw [txs_snoc]
            have hA1 := hA.asking (st.asked ++ [t])
            have f1 : FrS Tb A.own H (upd H A.aL (.lst (txs (st.asked ++ [t])))) := FrS.upd (by unfold RkA.own; simp) (.inr ⟨_, hA.ask⟩)
            refine fun D nD => ?_
            have s12 := same_new nD (.dK [])
            have hA2 := hA1.same s12
            refine ⟨hA2.tab, fun fl c' H3 ext3 n3 tab3 nf hf3 hc3 => ?_⟩
            have f3 : FrS Tb [] _ H3 := FrS.ext ext3 n3 tab3
            have hA3 := hA2.fr f3 (fun _ h => nomatch h)
            have hD3 : H3 D = some (.dK (numsK [])) := ext3 D _ upd_same (fun ps z => by cases z)
            obtain ⟨dx3, fs3, hR3, _, lR3, _, _, _, _⟩ := hA3.ins
            obtain ⟨rkv3, hrD3, hrR3⟩ := hA3.rc
            have nDg : ∀ {x u}, upd H A.aL (.lst (txs (st.asked ++ [t]))) x = some u → D ≠ x := fun e => (ne_of_none e nD).symm
            obtain ⟨rkv1, hrD1, _⟩ := hA1.rc
            obtain ⟨fkv1, hfD1, _⟩ := hA1.rd
            have hne : D ≠ A.gD ∧ D ≠ A.rD ∧ D ≠ A.kD ∧ D ≠ A.fD := ⟨nDg hA1.gv, (hrD1.elim (fun e => nDg e) fun ⟨_, e⟩ => nDg e), nDg hA1.kn, nDg hfD1⟩
            rcases KvR.get (t := t) hrR3 with ⟨z, _⟩ | ⟨r', rv3, z, e43, hrec3⟩
            · rw [rcp_seen, e3] at z
              cases z
            obtain rfl : r' = r := by rw [rcp_seen, e3] at z; exact (Option.some.inj z).symm
            have dV3 : DGet H3 A.rD (.str (SX.S t)) (some rv3) := e43 ▸ DGet.rd (k := kT (SX.S t)) hrD3
            have nD0 : H D = none := f1.2.1 D nD
            have f03 : FrS Tb (D :: A.own) H H3 := (f1.mono fun x hx => List.mem_cons_of_mem _ hx).trans ((FrS.of s12).trans (f3.mono fun x hx => nomatch hx))
            refine ⟨_, rfl, A.R, C, dx3, _, _, rfl, hR3, ZReckoner.cl, ZReckoner.nR, lR3, _, rfl, A.rD, _, rfl, dV3, _, rfl, ⟨(D, fl, c'), rfl⟩, rv3, r', ({ st with asked := st.asked ++ [t] }, []), rfl, hrec3, hwn, hdp, HH.fit _ hmem e2, ⟨hA3, hD3, hne⟩, ⟨ho1, rfl, OwnOk.nil _ _⟩, hf3, hc3, ?_⟩
            cases e4 : wk (lkOwn (lkR hh n)) r' ({ st with asked := st.asked ++ [t] }, []) with
            | err x =>
              rw [e4] at q
              exact fun H4 f4 => q H4 ((f03.trans f4).drop nD0)
            | ok v p =>
              rw [e4] at q
              intro H4 f4 A4
              obtain ⟨o4, a4, l4, w4, b4⟩ := wk_step (A := st.asked ++ [t]) (fun s t v s' o _ ht e => lkR_step HH.n n s t v s' o ht e) hwn (p := ({ st with asked := st.asked ++ [t] }, [])) ho1 rfl (OwnOk.nil _ _) e4
              obtain ⟨hA4, hD4, _⟩ := A4
              obtain ⟨dx4, fs4, hR4, _, _, _, _, lA4, _⟩ := hA4.ins
              obtain ⟨hp1, hp2⟩ := txs_pop st.asked t
              rw [← a4] at hp1 hp2
              have hown : p.2.length ≤ hh.given.length + hh.recs.length := w4.len o4
              refine ⟨_, rfl, A.R, C, dx4, _, _, rfl, hR4, ZReckoner.cl, ZReckoner.nA, lA4, .inl ⟨rfl, _, .inl (.inl hA4.ask)⟩, A.aL, _, _, rfl, rfl, hA4.ask, hp2, ?_⟩
              rw [hp1]
              have hA5 := hA4.asking st.asked
              have f45 : FrS Tb A.own H4 (upd H4 A.aL (.lst (txs st.asked))) := FrS.upd (by unfold RkA.own; simp) (.inr ⟨_, hA4.ask⟩)
              have hD5 : upd H4 A.aL (.lst (txs st.asked)) D = some (.dK (numsK p.2)) := by
                rw [upd_ne (fun z => by have := hA4.ask; rw [← z, hD4] at this; cases this)]
                exact hD4
              obtain ⟨H5, e5⟩ : ∃ H5, H5 = upd H4 A.aL (.lst (txs st.asked)) := ⟨_, rfl⟩
              rw [← e5] at hA5 f45 hD5 ⊢
              refine ⟨D, _, hD5, trivial, fun od => ?_⟩
              have sF : ∀ b u, b ≠ D → H5 b = some u → (upd H5 D (.frz od (.dK (numsK p.2)))) b = some u := fun b u n e => by rw [upd_ne n]; exact e
              refine ⟨_, rfl, D, od, rfl, .inl ⟨_, upd_same, fun M nM => ?_⟩⟩
              have nMD : M ≠ D := fun z => by rw [z, upd_same] at nM; cases nM
              have nM5 : H5 M = none := by rw [upd_ne nMD] at nM; exact nM
              refine lc_it walk_keys (fun i G => G D = some (.frz od (.dK (numsK p.2))) ∧ (∀ b u, b ≠ D → H5 b = some u → G b = some u) ∧ ∃ acc, G M = some (.lst acc) ∧ Prs G (p.2.take i) acc) ⟨by rw [upd_ne nMD.symm]; exact upd_same, fun b u n e => by rw [upd_ne (ne_of_none e nM5), upd_ne n]; exact e, [], upd_same, trivial⟩ (fun i G _ h => h.1) (fun i x G G' hi hP hY => ?_) (fun G h => ?_)
              · obtain ⟨rfl, k, kv, hk, rfl⟩ := hY
                obtain ⟨g1, g2, acc, g3, g4⟩ := hP
                obtain ⟨pr, hpr, rfl, rfl⟩ := (numsR p.2).at hk
                have hil : i < p.2.length := (List.getElem?_eq_some_iff.mp hpr).1
                have hs := w4.seen_at hpr
                have dO : DGet G' D (.str (SX.S pr.1)) (some (.int pr.2)) := .inl ⟨_, kT (SX.S pr.1), .inr ⟨od, g1⟩, rfl, by rw [val_seen, hs]; rfl⟩
                refine ⟨rfl, _, rfl, _, rfl, _, rfl, D, _, rfl, dO, le_line (Nat.le_of_ble_eq_true rfl), fun u nu => ?_⟩
                have su := same_new nu (.tup [.str (SX.S pr.1), .int pr.2])
                have nMu : M ≠ u := ne_of_none g3 nu
                refine ⟨acc, by rw [upd_ne nMu]; exact g3, lt_line (by have := g4.len; rw [List.length_take] at this; omega), ?_, fun b v n e => ?_, acc ++ [.ref u], upd_same, ?_⟩
                · rw [upd_ne nMD.symm]; exact su _ _ g1
                · rw [upd_ne (ne_of_none e nM5)]; exact su _ _ (g2 b v n e)
                · rw [List.take_add_one, hpr]
                  refine Prs.snoc ?_ ((g4.same su).keep (keep_lst (by rw [upd_ne nMu]; exact g3)))
                  rw [upd_ne nMu.symm]
                  exact upd_same
              · obtain ⟨g1, g2, acc, g3, g4⟩ := h
                rw [numsK_len, List.take_length] at g4
                refine ⟨g1, ?_⟩
                have s6 : Same H5 (upd G D (.dK (numsK p.2))) := fun b u e => by
                  by_cases n : b = D
                  · rw [n] at e ⊢
                    rw [upd_same, ← e, hD5]
                  · rw [upd_ne n]
                    exact g2 b u n e
                have hA6 := hA5.same s6
                have hM6 : upd G D (.dK (numsK p.2)) M = some (.lst acc) := by rw [upd_ne nMD]; exact g3
                have hP6 : Prs (upd G D (.dK (numsK p.2))) p.2 acc := g4.keep fun b ys e => by rw [upd_ne (fun z => by rw [z, g1] at e; cases e)]; exact e
                obtain ⟨H6, e6⟩ : ∃ H6, H6 = upd G D (.dK (numsK p.2)) := ⟨_, rfl⟩
                rw [← e6] at s6 hA6 hM6 hP6 ⊢
                obtain ⟨dx6, fs6, hR6, _, _, lK6, lF6, _, _⟩ := hA6.ins
                obtain ⟨fkv6, hfD6, hfR6⟩ := hA6.rd
                have hnew6 : ∀ q ∈ fkv6, q.2 ≠ .ref M := fun q hq z => by
                  obtain ⟨fkv5, hfD5, hfR5⟩ := hA5.rd
                  have e56 := s6 _ _ hfD5
                  rw [hfD6] at e56
                  cases e56
                  obtain ⟨_, L, xs, e7, _, _, hL, _⟩ := hfR5.mem q hq
                  rw [e7] at z
                  cases z
                  rw [nM5] at hL
                  cases hL
                have hnt6 : ¬ t ∈ p.1.read.map (·.1) := fun z => by
                  have := o4.nd
                  rw [a4] at this
                  exact (List.nodup_append.mp this).2.2 t (List.mem_append_right _ (List.mem_singleton.mpr rfl)) t z rfl
                have nMa : M ≠ A.aL := fun z => by rw [z, hA5.ask] at nM5; cases nM5
                refine ⟨_, rfl, A.R, C, dx6, _, _, rfl, hR6, ZReckoner.cl, ZReckoner.nF, lF6, _, rfl, A.fD, _, rfl, DPut.k (k := kT (SX.S t)) hfD6 (lt_line (by have := hfR6.len; have := o4.len; have e : ({ p.1 with asked := st.asked } : RkS).read = p.1.read := rfl; rw [e] at *; omega)), ?_⟩
                have hA7 := hA6.reads hfD6 hfR6 t (own := p.2) (v := .ref M) ⟨M, acc, rfl, nMa, hA5.bas M nM5, hM6, hP6⟩ hnew6 hnt6
                have f67 : FrS Tb A.own H6 (upd H6 A.fD (.dK (putK fkv6 (kT (SX.S t)) (.ref M)))) := FrS.upd (by unfold RkA.own; simp) (.inl ⟨_, hfD6⟩)
                obtain ⟨H7, e7⟩ : ∃ H7, H7 = upd H6 A.fD (.dK (putK fkv6 (kT (SX.S t)) (.ref M))) := ⟨_, rfl⟩
                rw [← e7] at hA7 f67 ⊢
                obtain ⟨dx7, fs7, hR7, _, _, lK7, _, _, _⟩ := hA7.ins
                refine ⟨_, rfl, _, rfl, A.R, C, dx7, _, _, rfl, hR7, ZReckoner.cl, ZReckoner.nK, lK7, _, rfl, A.kD, _, rfl, DPut.k (k := kT (SX.S t)) hA7.kn (lt_line (by rw [numsK_len]; have := o4.klen; show p.1.known.length < _; omega)), ?_⟩
                have hA8 := hA7.known t v
                have f78 : FrS Tb A.own H7 (upd H7 A.kD (.dK (numsK (putA p.1.known t v)))) := FrS.upd (by unfold RkA.own; simp) (.inl ⟨_, hA7.kn⟩)
                rw [nums_putA]
                have fin := q _ (((((f03.trans f4).drop nD0).trans f45).trans (FrS.of s6)).trans (f67.trans f78))
                rw [show p.1.asked.dropLast = st.asked by rw [a4, List.dropLast_concat]] at fin
                exact ⟨_, rfl, fin hA8⟩
end
/-! ### a reckoner made; worth_of, reads_of -/
open LamX NdefX
theorem putF_le (f : Str) (v : V) : ∀ fs : List (Str × V), (putF f v fs).length ≤ fs.length + 1
  | [] => Nat.le_refl _
  | (g, y) :: r => by
    unfold putF
    by_cases c : g = f
    · rw [if_pos c]
      exact Nat.le_succ _
    · rw [if_neg c]
      exact Nat.succ_le_succ (putF_le f v r)
/-- what __init__ leaves -/
def spRkI (C : Addr) : Sp := fun vs H Q _ => ∃ (R dx p gD rD : Addr), vs = [.ref R, .ref p] ∧ H R = some (.ins C dx []) ∧ H p = some (.tup [.ref gD, .ref rD]) ∧
  ∀ (kD fD aL : Addr) (H' : Hp), H kD = none → H fD = none → H aL = none → kD ≠ fD → (∃ fs, H' R = some (.ins C dx fs) ∧ fs.lookup ("given" : Str) = some (.ref gD) ∧ fs.lookup ("recipes" : Str) = some (.ref rD) ∧ fs.lookup ("known" : Str) = some (.ref kD) ∧ fs.lookup ("read_for" : Str) = some (.ref fD) ∧ fs.lookup ("asked" : Str) = some (.ref aL) ∧ fs.lookup ("look_for" : Str) = none) →
    H' kD = some (.dK []) → H' fD = some (.dK []) → H' aL = some (.lst []) → (∀ b o, b ≠ R → H b = some o → H' b = some o) → Q .non H'
/-- a house stands at v -/
def HouseAt (H : Hp) (h : House) (v : V) : Prop := ∃ (p gD rD : Addr) (kvs : List (Key × V)), v = .ref p ∧ H p = some (.tup [.ref gD, .ref rD]) ∧ H gD = some (.dK (numsK h.given)) ∧ Rd H rD (.dK kvs) ∧ KvR (Rec H) h.recs kvs
theorem HouseAt.same {H H' : Hp} {h : House} {v : V} (a : HouseAt H h v) (s : Same H H') : HouseAt H' h v := by
  obtain ⟨p, gD, rD, kvs, e, h1, h2, h3, h4⟩ := a
  exact ⟨p, gD, rD, kvs, e, s _ _ h1, s _ _ h2, Rd.mp (fun _ e _ => s _ _ e) h3, h4.imp fun r v q => q.same s⟩
/-- what worth_of tells: the worth, or the error flies -/
def TellO2 (Tb : List NTab) (CN CR : Addr) (Q : VK) (E : XK) (H : Hp) (o : OutR RkS) (R : RkS → Int → V → Hp → Prop) : Prop := match o with
  | .ok v s => ∀ x H', FrS Tb [] H H' → R s v x H' → Q x H'
  | .err e => ∀ H', FrS Tb [] H H' → ErK CN CR e E H'
def spWorthOf (CN CR : Addr) (Tb : List NTab) (dm n : Nat) : Sp := fun vs H Q E => ∃ (v : V) (h : House) (beta : Nat → Nat) (t : List Nat), vs = [v, .str (SX.S t)] ∧ HouseOk dm h beta ∧ h.given.length + h.recs.length ≤ 100000 ∧ h.recs.length + 1 ≤ n ∧ HouseAt H h v ∧ TabsN Tb H ∧ Nm t ∧
  TellO2 Tb CN CR Q E H (lkR h n emptyS t) fun _ v x _ => x = .int v
/-- the reads put down for t, [] of a given one -/
def readsFor (s : RkS) (t : List Nat) : List Pr := (getA s.read t).getD []
def spReadsOf (CN CR : Addr) (Tb : List NTab) (dm n : Nat) : Sp := fun vs H Q E => ∃ (v : V) (h : House) (beta : Nat → Nat) (t : List Nat), vs = [v, .str (SX.S t)] ∧ HouseOk dm h beta ∧ h.given.length + h.recs.length ≤ 100000 ∧ h.recs.length + 1 ≤ n ∧ HouseAt H h v ∧ TabsN Tb H ∧ Nm t ∧
  TellO2 Tb CN CR Q E H (lkR h n emptyS t) fun s _ x H' => ∃ L xs, x = .ref L ∧ H L = none ∧ H' L = some (.lst xs) ∧ Prs H' (readsFor s t) xs
section
variable {P : Program} {w : World} {K : PySem.W.Frag} {mg : Str → Option Value} {base : Heap} {C fI CN CR : Addr} {Tb : List NTab}
abbrev s_Reckoner___init__ : Stmt := inClass (topS 7) 0
abbrev N_Reckoner___init__ : List Str := ["self", "house"]
theorem sc_Reckoner___init__ : FnScope N_Reckoner___init__ ["self", "house"] (defScope s_Reckoner___init__) := ⟨rfl, rfl, rfl, by decide +kernel, rfl, by decide +kernel, by decide +kernel⟩

theorem ok_Reckoner_init (T : Txt K mg) (ZReckoner : RkT K mg C fI) {fd : FuncData} (F : Fun K "__init__" "Reckoner.__init__" s_Reckoner___init__ fI fd) : FnOk P w K mg base CX0 1 fI fd ["self", "house"] (spRkI C) := by
  refine F.ok sc_Reckoner___init__ (fun vs H Q E h => ?_) (fun cdv A outer s H vs Q E hr h => ?_)
  · obtain ⟨R, dx, p, gD, rD, rfl, _⟩ := h
    rfl
  obtain ⟨R, dx, p, gD, rD, rfl, hR, hp, q⟩ := h
  refine ⟨_, (pss_cons (ps_asg (pv 1) (pg_tup rfl (pgs_cons (pg_fld (pv 0)) (pgs_cons (pg_fld (pv 0)) pgs_nil))))
      (pss_cons (ps_fld (pv 0) pe_dnewK rfl)
      (pss_cons (ps_fld (pv 0) pe_dnewK rfl)
      (pss_one (ps_fld (pv 0) (pe_lst pa_nil) rfl))))), ?_⟩
  have l1 := putF_le "given" (.ref gD) []
  have l2 := putF_le "recipes" (.ref rD) (putF "given" (.ref gD) [])
  refine ⟨_, rfl, p, _, rfl, SqT.of hp, rfl, _, _, rfl, _, rfl, R, C, dx, _, rfl, hR, ZReckoner.cl, ZReckoner.nG, (by show 0 < 1000; decide), _, _, rfl, _, rfl, R, C, dx, _, rfl, upd_same, ZReckoner.cl, ZReckoner.nR, (by simp only [List.length_nil] at l1; omega), rfl, ?_⟩
  refine fun kD nk => ?_
  have nRk : R ≠ kD := ne_of_none upd_same nk
  have nk0 : H kD = none := by rw [upd_ne nRk.symm, upd_ne nRk.symm] at nk; exact nk
  have l3 := putF_le "known" (.ref kD) (putF "recipes" (.ref rD) (putF "given" (.ref gD) []))
  refine ⟨_, rfl, R, C, dx, _, rfl, (by rw [upd_ne nRk]; exact upd_same), ZReckoner.cl, ZReckoner.nK, (by simp only [List.length_nil] at l1; omega), ?_⟩
  refine fun fD nf => ?_
  have nRf : R ≠ fD := ne_of_none upd_same nf
  have nkf : kD ≠ fD := ne_of_none (H := upd (upd (upd (upd H R _) R _) kD (.dK [])) R _) (by rw [upd_ne nRk.symm]; exact upd_same) nf
  have nf0 : H fD = none := by rw [upd_ne nRf.symm, upd_ne nkf.symm, upd_ne nRf.symm, upd_ne nRf.symm] at nf; exact nf
  have l4 := putF_le "read_for" (.ref fD) (putF "known" (.ref kD) (putF "recipes" (.ref rD) (putF "given" (.ref gD) [])))
  refine ⟨_, rfl, R, C, dx, _, rfl, (by rw [upd_ne nRf]; exact upd_same), ZReckoner.cl, ZReckoner.nF, (by simp only [List.length_nil] at l1; omega), ?_⟩
  refine ⟨Nat.zero_le _, fun aL na => ?_⟩
  have nRa : R ≠ aL := ne_of_none upd_same na
  have nfa : fD ≠ aL := ne_of_none (H := upd (upd (upd (upd (upd (upd H R _) R _) kD (.dK [])) R _) fD (.dK [])) R _) (by rw [upd_ne nRf.symm]; exact upd_same) na
  have nka : kD ≠ aL := ne_of_none (H := upd (upd (upd (upd (upd (upd H R _) R _) kD (.dK [])) R _) fD (.dK [])) R _) (by rw [upd_ne nRk.symm, upd_ne nkf, upd_ne nRk.symm]; exact upd_same) na
  have na0 : H aL = none := by rw [upd_ne nRa.symm, upd_ne nfa.symm, upd_ne nRa.symm, upd_ne nka.symm, upd_ne nRa.symm, upd_ne nRa.symm] at na; exact na
  refine ⟨_, rfl, R, C, dx, _, rfl, (by rw [upd_ne nRa]; exact upd_same), ZReckoner.cl, ZReckoner.nA, (by simp only [List.length_nil] at l1; omega), ?_⟩
  refine q kD fD aL _ nk0 nf0 na0 nkf ⟨_, upd_same, ?_⟩ ?_ ?_ ?_ (fun b o nb e => ?_)
  · have lk : ∀ f : Str, (putF "asked" (.ref aL) (putF "read_for" (.ref fD) (putF "known" (.ref kD) (putF "recipes" (.ref rD) (putF "given" (.ref gD) []))))).lookup f = if f = "asked" then some (.ref aL) else if f = "read_for" then some (.ref fD) else if f = "known" then some (.ref kD) else if f = "recipes" then some (.ref rD) else if f = "given" then some (.ref gD) else none := fun f => by
      rw [lookup_putF, lookup_putF, lookup_putF, lookup_putF, lookup_putF]
      rfl
    refine ⟨?_, ?_, ?_, ?_, ?_, ?_⟩
    · rw [lk, if_neg (by decide +kernel), if_neg (by decide +kernel), if_neg (by decide +kernel), if_neg (by decide +kernel), if_pos rfl]
    · rw [lk, if_neg (by decide +kernel), if_neg (by decide +kernel), if_neg (by decide +kernel), if_pos rfl]
    · rw [lk, if_neg (by decide +kernel), if_neg (by decide +kernel), if_pos rfl]
    · rw [lk, if_neg (by decide +kernel), if_pos rfl]
    · rw [lk, if_pos rfl]
    · rw [lk, if_neg (by decide +kernel), if_neg (by decide +kernel), if_neg (by decide +kernel), if_neg (by decide +kernel), if_neg (by decide +kernel)]
  · rw [upd_ne nRk.symm, upd_ne nka, upd_ne nRk.symm, upd_ne nkf, upd_ne nRk.symm]
    exact upd_same
  · rw [upd_ne nRf.symm, upd_ne nfa, upd_ne nRf.symm]
    exact upd_same
  · rw [upd_ne nRa.symm]
    exact upd_same
  · rw [upd_ne nb, upd_ne (ne_of_none e na0), upd_ne nb, upd_ne (ne_of_none e nf0), upd_ne nb, upd_ne (ne_of_none e nk0), upd_ne nb, upd_ne nb]
    exact e
theorem rd_ne {H : Hp} {a b : Addr} {u : HO} (r : Rd H a u) (n : H b = none) : a ≠ b := fun z => by rcases r with r | ⟨_, r⟩ <;> (rw [z, n] at r; cases r)
theorem rk_made {C R dx gD rD kD fD aL p : Addr} {Tb : List NTab} {h : House} {H H1 : Hp} {kvs : List (Key × V)} (nR : H R = none) (ndx : H dx = none) (hp : H p = some (.tup [.ref gD, .ref rD])) (hg : H gD = some (.dK (numsK h.given))) (hrd : Rd H rD (.dK kvs)) (hrr : KvR (Rec H) h.recs kvs) (hT : TabsN Tb H)
    (nk : upd (upd H dx (.own R)) R (.ins C dx []) kD = none) (nf : upd (upd H dx (.own R)) R (.ins C dx []) fD = none) (na : upd (upd H dx (.own R)) R (.ins C dx []) aL = none) (nkf : kD ≠ fD)
    (hfs : ∃ fs, H1 R = some (.ins C dx fs) ∧ fs.lookup ("given" : Str) = some (.ref gD) ∧ fs.lookup ("recipes" : Str) = some (.ref rD) ∧ fs.lookup ("known" : Str) = some (.ref kD) ∧ fs.lookup ("read_for" : Str) = some (.ref fD) ∧ fs.lookup ("asked" : Str) = some (.ref aL) ∧ fs.lookup ("look_for" : Str) = none)
    (hk : H1 kD = some (.dK [])) (hf : H1 fD = some (.dK [])) (ha : H1 aL = some (.lst [])) (hs : ∀ b o, b ≠ R → upd (upd H dx (.own R)) R (.ins C dx []) b = some o → H1 b = some o) :
    RkAt C Tb ⟨R, gD, rD, kD, fD, aL, H⟩ h emptyS H1 ∧ Same H H1 ∧ H kD = none ∧ H fD = none ∧ H aL = none := by
  have sm : Same H H1 := fun b o e => hs b o (ne_of_none e nR) (by rw [upd_ne (ne_of_none e nR), upd_ne (ne_of_none e ndx)]; exact e)
  have fr : ∀ {x}, upd (upd H dx (.own R)) R (.ins C dx []) x = none → H x = none := fun {x} e => by
    have n1 : x ≠ R := fun z => by rw [z, upd_same] at e; cases e
    rw [upd_ne n1] at e
    have n2 : x ≠ dx := fun z => by rw [z, upd_same] at e; cases e
    rwa [upd_ne n2] at e
  obtain ⟨fs, h1, h2⟩ := hfs
  refine ⟨⟨⟨dx, fs, h1, h2⟩, sm _ _ hg, ⟨kvs, Rd.mp (fun _ e _ => sm _ _ e) hrd, hrr.imp fun r v q => q.same sm⟩, hk, ⟨[], hf, trivial⟩, ha, hT.ext sm, (fun b e => sm.free e), ⟨nkf, ?_, ?_, ?_, ?_⟩, fun kvs e => by rw [hf] at e; cases e; exact List.nodup_nil⟩, sm, fr nk, fr nf, fr na⟩
  · exact ne_of_none hg (fr nk)
  · exact ne_of_none hg (fr nf)
  · exact rd_ne hrd (fr nk)
  · exact rd_ne hrd (fr nf)
/-- what a new reckoner works changes nothing that stood ahead of it -/
theorem FrS.news {Tb : List NTab} {A : RkA} {H H' : Hp} (f : FrS Tb A.own H H') {B : Hp} (s : Same B H) (n1 : B A.kD = none) (n2 : B A.fD = none) (n3 : B A.aL = none) : FrS Tb [] B H' :=
  ⟨fun x u _ t e => f.1 x u (fun hx => by
    rcases List.mem_cons.mp hx with rfl | hx
    · rw [n1] at e; cases e
    rcases List.mem_cons.mp hx with rfl | hx
    · rw [n2] at e; cases e
    rw [List.mem_singleton.mp hx, n3] at e
    cases e) t (s _ _ e), fun b e => s.free (f.2.1 b e), fun t => f.2.2 (t.ext s)⟩
end
/-! ### worth_of, reads_of -/
open LamX NdefX
section
variable {P : Program} {w : World} {K : PySem.W.Frag} {mg : Str → Option Value} {base : Heap} {C fI CN CR : Addr} {Tb : List NTab}
abbrev s_worth_of : Stmt := topS 8
abbrev N_worth_of : List Str := ["house", "name"]
theorem sc_worth_of : FnScope N_worth_of ["house", "name"] (defScope s_worth_of) := ⟨rfl, rfl, rfl, by decide +kernel, rfl, by decide +kernel, by decide +kernel⟩

theorem ok_worth_of {dm n : Nat} {fdI : FuncData} (T : Txt K mg) (ZReckoner : RkT K mg C fI) (D : IsDef K mg "worth_of" s_worth_of ["house", "name"]) (F_Reckoner___init__ : FnOk P w K mg base CX0 1 fI fdI ["self", "house"] (spRkI C)) (B_Reckoner___init__ : Binds K fdI ["self", "house"] [])
    (ML : Met P w K mg base (L2.CX P w) (lvR dm n) C "look_for" ["self", "name"] (spLF C CN CR Tb dm n)) : Cal P w K mg base (L2.CX P w) (lvR dm n + 2) "worth_of" ["house", "name"] (spWorthOf CN CR Tb dm n) := by
  obtain ⟨f_l, fd_l, F_Reckoner_look_for, M_Reckoner_look_for, B_Reckoner_look_for⟩ := ML
  refine D.calX2 (k := lvR dm n + 1) sc_worth_of (fun vs H Q E h => ?_) (fun f cdv A outer s H vs Q E hr h => ?_)
  · obtain ⟨v, hh, beta, t, rfl, _⟩ := h
    rfl
  obtain ⟨v, hh, beta, t, rfl, HH, hsz, hn, ⟨p, gD, rD, kvs, rfl, hp, hg, hrd, hrr⟩, hT, ht, q⟩ := h
  have hlv : 1 ≤ lvR dm n := Nat.le_add_left _ _
  refine ⟨_, (pss_one (ps_ret (pe_meth (pe_make ZReckoner.mkI F_Reckoner___init__ (hr.mono (by first | decide | omega)) rfl ZReckoner.g B_Reckoner___init__ .nil pass0 (pa_cons (pv 0) pa_nil)) ZReckoner.cl M_Reckoner_look_for F_Reckoner_look_for (hr.mono (by first | decide | omega)) B_Reckoner_look_for .nil (passes_call (takes_of rfl rfl rfl rfl) (fun _ _ _ _ h => h)) (pa_cons (pv 1) pa_nil)))), ?_⟩
  refine ⟨_, rfl, fun R dx nR ndx ndR => ⟨R, dx, p, gD, rD, rfl, upd_same, ?_, fun kD fD aL H1 nk nf na nkf hfs hk hf ha hs => ⟨rfl, ?_⟩⟩⟩
  · rw [upd_ne (ne_of_none hp nR), upd_ne (ne_of_none hp ndx)]
    exact hp
  obtain ⟨a1, sm, k0, f0, a0⟩ := rk_made nR ndx hp hg hrd hrr hT nk nf na nkf hfs hk hf ha hs
  obtain ⟨fs, h1, h2⟩ := hfs
  refine ⟨R, dx, fs, rfl, h1, h2.2.2.2.2.2, _, rfl, ⟨R, gD, rD, kD, fD, aL, H⟩, hh, beta, emptyS, t, rfl, HH, hsz, a1, emptyOk _ _, ?_, ht, ?_⟩
  · show hh.recs.length + 1 ≤ 0 + n
    omega
  cases e : lkR hh n emptyS t with
  | ok v s' =>
    rw [e] at q
    exact fun H2 f2 A2 => q _ H2 (f2.news sm k0 f0 a0) rfl
  | err x =>
    rw [e] at q
    exact fun H2 f2 => q H2 (f2.news sm k0 f0 a0)
abbrev s_reads_of : Stmt := topS 9
abbrev N_reads_of : List Str := ["house", "name", "reckoner"]
theorem sc_reads_of : FnScope N_reads_of ["house", "name"] (defScope s_reads_of) := ⟨rfl, rfl, rfl, by decide +kernel, rfl, by decide +kernel, by decide +kernel⟩

theorem ok_reads_of {dm n : Nat} {fdI : FuncData} (T : Txt K mg) (ZReckoner : RkT K mg C fI) (D : IsDef K mg "reads_of" s_reads_of ["house", "name"]) (F_Reckoner___init__ : FnOk P w K mg base CX0 1 fI fdI ["self", "house"] (spRkI C)) (B_Reckoner___init__ : Binds K fdI ["self", "house"] [])
    (ML : Met P w K mg base (L2.CX P w) (lvR dm n) C "look_for" ["self", "name"] (spLF C CN CR Tb dm n)) : Cal P w K mg base (L2.CX P w) (lvR dm n + 2) "reads_of" ["house", "name"] (spReadsOf CN CR Tb dm n) := by
  obtain ⟨f_l, fd_l, F_Reckoner_look_for, M_Reckoner_look_for, B_Reckoner_look_for⟩ := ML
  refine D.calX2 (k := lvR dm n + 1) sc_reads_of (fun vs H Q E h => ?_) (fun f cdv A outer s H vs Q E hr h => ?_)
  · obtain ⟨v, hh, beta, t, rfl, _⟩ := h
    rfl
  obtain ⟨v, hh, beta, t, rfl, HH, hsz, hn, ⟨p, gD, rD, kvs, rfl, hp, hg, hrd, hrr⟩, hT, ht, q⟩ := h
  have hlv : 1 ≤ lvR dm n := Nat.le_add_left _ _
  have hu : (cxOf (L2.CX P w) P w K mg base N_reads_of "reads_of" (defScope s_reads_of) f cdv A outer s H E).A.units + 1 < cLine := Nat.lt_of_le_of_lt (Nat.add_le_add_left (by decide : 1 ≤ 64) _) hr.units
  refine ⟨_, (pss_cons (ps_set (i := 2) sc_reads_of.nd rfl (Or.inl rfl) (pe_make ZReckoner.mkI F_Reckoner___init__ (hr.mono (by first | decide | omega)) rfl ZReckoner.g B_Reckoner___init__ .nil pass0 (pa_cons (pv 0) pa_nil)))
      (pss_cons (ps_expr (pe_meth (pv 2) ZReckoner.cl M_Reckoner_look_for F_Reckoner_look_for (hr.mono (by first | decide | omega)) B_Reckoner_look_for .nil (passes_call (takes_of rfl rfl rfl rfl) (fun _ _ _ _ h => h)) (pa_cons (pv 1) pa_nil)))
      (pss_one (ps_ret (pe_dget2 hu (pe_fld (pv 2) rfl) (pv 1) (pe_lst pa_nil) ⟨rfl, rfl, rfl, rfl⟩))))), ?_⟩
  refine ⟨_, rfl, fun R dx nR ndx ndR => ⟨R, dx, p, gD, rD, rfl, upd_same, ?_, fun kD fD aL H1 nk nf na nkf hfs hk hf ha hs => ⟨rfl, ?_⟩⟩⟩
  · rw [upd_ne (ne_of_none hp nR), upd_ne (ne_of_none hp ndx)]
    exact hp
  obtain ⟨a1, sm, k0, f0, a0⟩ := rk_made nR ndx hp hg hrd hrr hT nk nf na nkf hfs hk hf ha hs
  obtain ⟨fs, h1, h2⟩ := hfs
  refine ⟨_, rfl, R, dx, fs, rfl, h1, h2.2.2.2.2.2, _, rfl, ⟨R, gD, rD, kD, fD, aL, H⟩, hh, beta, emptyS, t, rfl, HH, hsz, a1, emptyOk _ _, ?_, ht, ?_⟩
  · show hh.recs.length + 1 ≤ 0 + n
    omega
  cases e : lkR hh n emptyS t with
  | ok v s' =>
    rw [e] at q
    refine fun H2 f2 A2 => ?_
    obtain ⟨dx2, fs2, hR2, _, _, _, lF2, _, _⟩ := A2.ins
    obtain ⟨fkv, hfD, hfR⟩ := A2.rd
    refine ⟨_, rfl, R, C, dx2, fs2, _, rfl, hR2, ZReckoner.cl, ZReckoner.nF, lF2, fD, rfl, .inl ⟨_, .inl hfD⟩, _, rfl, Nat.zero_le _, fun M nM => ?_⟩
    have sM := same_new nM (.lst [])
    have fN := f2.news sm k0 f0 a0
    refine ⟨_, DGet.k (k := kT (SX.S t)) (sM _ _ hfD), ?_⟩
    rcases KvR.get (t := t) hfR with ⟨e3, e4⟩ | ⟨own, lv, e3, e4, hrv⟩
    · rw [e4]
      refine q _ _ (fN.trans (FrS.of sM)) ⟨M, [], rfl, fN.2.1 M nM, upd_same, ?_⟩
      rw [show readsFor s' t = [] by unfold readsFor; rw [e3]; rfl]
      trivial
    · rw [e4]
      obtain ⟨L, xs, rfl, nL, nB, hL, hP⟩ := hrv
      refine q _ _ (fN.trans (FrS.of sM)) ⟨L, xs, rfl, nB, sM _ _ hL, ?_⟩
      rw [show readsFor s' t = own by unfold readsFor; rw [e3]; rfl]
      exact hP.same sM
  | err x =>
    rw [e] at q
    exact fun H2 f2 => q H2 (f2.news sm k0 f0 a0)
end
/-! ### frames with tables, further -/
open LamX NdefX
section
variable {Tb : List NTab}
theorem FrS.seq {K : PySem.W.Frag} {S : List Addr} {H H' : Hp} {a : Addr} {xs : List V} (f : FrS Tb S H H') (n : a ∉ S) (h : SqL K H a xs) : SqL K H' a xs := h.imp (fun r => r.imp (fun r => f.1 _ _ n (fun _ z => nomatch z) r) fun ⟨o, r⟩ => ⟨o, f.1 _ _ n (fun _ z => nomatch z) r⟩) id
theorem FrS.dropAll {S : List Addr} {H H' : Hp} (f : FrS Tb S H H') (h : ∀ x ∈ S, H x = none) : FrS Tb [] H H' := ⟨fun x u _ t e => f.1 x u (fun m => by rw [h x m] at e; cases e) t e, f.2⟩
theorem FrS.dict1 {H H' : Hp} {p : Addr} {k : List (Key × V)} (h1 : H p = some (.dK k)) (h2 : ∀ b u, b ≠ p → H b = some u → H' b = some u) (h3 : ∀ b, H' b = none → H b = none) : FrS Tb [p] H H' :=
  ⟨fun x u n _ e => h2 x u (fun z => n (by rw [z]; exact List.mem_singleton.mpr rfl)) e, h3, fun t q hq => by
    obtain ⟨ps, t1, t2, t3⟩ := t q hq
    refine ⟨ps, h2 _ _ (fun z => by rw [z, h1] at t1; cases t1) t1, t2, fun pos cv hc => ?_⟩
    obtain ⟨c, e1, e2⟩ := t3 pos cv hc
    exact ⟨c, e1, h2 _ _ (fun z => by rw [z, h1] at e2; cases e2) e2⟩⟩
end
theorem FrS.trans' {Tb : List NTab} {R p : Addr} {A B C : Hp} {k : List (Key × V)} {o : HO} (f : FrS Tb [] A B) (g : FrS Tb [p] B C) (h : C R = some (.dK k)) : FrS Tb [R, p] A (L2.upd C R o) :=
  (FrS.mono f (fun _ h => nomatch h)).trans ((g.mono fun _ h => List.mem_cons_of_mem _ h).trans (FrS.upd List.mem_cons_self (.inl ⟨_, h⟩)))
/-! ### reckoners at rest -/
/-! #### in which order the records come, and where what is known comes from -/
structure Ord (h : House) (s : RkS) : Prop where
  at_ : ∀ i p, s.read[i]? = some p → ∀ u ∈ p.2.map (·.1), u ∈ h.given.map (·.1) ∨ u ∈ (s.read.take i).map (·.1)
  kno : ∀ p ∈ s.read, ∀ u ∈ p.2.map (·.1), u ∈ s.known.map (·.1)
/-- what one look adds -/
structure Grow (s s' : RkS) (t : List (List Nat)) : Prop where
  pre : ∃ l, s'.read = s.read ++ l
  src : ∀ u ∈ s'.known.map (·.1), u ∈ s.known.map (·.1) ∨ u ∈ t ∨ ∃ p ∈ s'.read, u ∈ p.2.map (·.1)
theorem Grow.refl (s : RkS) (t : List (List Nat)) : Grow s s t := ⟨⟨[], (List.append_nil _).symm⟩, fun _ h => .inl h⟩
theorem Grow.trans {s s1 s2 : RkS} {t t1 t2 : List (List Nat)} (f : Grow s s1 t1) (g : Grow s1 s2 t2) (h1 : ∀ u ∈ t1, u ∈ t) (h2 : ∀ u ∈ t2, u ∈ t) : Grow s s2 t := by
  obtain ⟨l1, e1⟩ := f.pre
  obtain ⟨l2, e2⟩ := g.pre
  refine ⟨⟨l1 ++ l2, by rw [e2, e1, List.append_assoc]⟩, fun u hu => ?_⟩
  rcases g.src u hu with hu | hu | hu
  · rcases f.src u hu with hu | hu | ⟨p, hp, hu⟩
    · exact .inl hu
    · exact .inr (.inl (h1 u hu))
    · exact .inr (.inr ⟨p, by rw [e2]; exact List.mem_append_left _ hp, hu⟩)
  · exact .inr (.inl (h2 u hu))
  · exact .inr (.inr hu)
theorem wk_grow {dm : Nat} {h : House} {beta : Nat → Nat} (HH : HouseN dm h beta) {lk : RkS → List Nat → OutR RkS} {A : List (List Nat)}
    (hlk : ∀ s t v s', RkOk h beta s → Coh h s → Ord h s → s.asked = A → Nm t → lk s t = .ok v s' → Step h beta s t v s' ∧ Coh h s' ∧ Ord h s' ∧ Grow s s' [t]) :
    ∀ {r : Rcp} {p p' : RkS × List Pr} {v : Int}, r.Wn → RkOk h beta p.1 → Coh h p.1 → Ord h p.1 → p.1.asked = A → wk (lkOwn lk) r p = .ok v p' → RkOk h beta p'.1 ∧ Coh h p'.1 ∧ Ord h p'.1 ∧ p'.1.asked = A ∧ Grow p.1 p'.1 (p'.2.map (·.1)) ∧ ∀ u ∈ p.2.map (·.1), u ∈ p'.2.map (·.1) := by
  have look : ∀ {t : List Nat} {p p' : RkS × List Pr} {v : Int}, Nm t → RkOk h beta p.1 → Coh h p.1 → Ord h p.1 → p.1.asked = A → lkOwn lk p t = .ok v p' → RkOk h beta p'.1 ∧ Coh h p'.1 ∧ Ord h p'.1 ∧ p'.1.asked = A ∧ Grow p.1 p'.1 (p'.2.map (·.1)) ∧ ∀ u ∈ p.2.map (·.1), u ∈ p'.2.map (·.1) := by
    intro t p p' v ht o c od a e
    obtain ⟨e1, e2⟩ := lkOwn_ok e
    obtain ⟨st, c1, o1, g1⟩ := hlk _ _ _ _ o c od a ht e1
    rw [e2]
    exact ⟨st.ok, c1, o1, st.asked.trans a, g1.trans (Grow.refl _ _) (fun u hu => by rw [List.mem_singleton.mp hu]; exact setd_keys.mpr (.inr rfl)) (fun _ h => h), fun u hu => setd_keys.mpr (.inl hu)⟩
  intro r
  induction r with
  | num n => intro p p' v _ o c od a e; cases e; exact ⟨o, c, od, a, Grow.refl _ _, fun _ h => h⟩
  | read t => exact fun w o c od a e => look w o c od a e
  | two kd a b ia ib =>
    intro p p' v w o c od ha e
    obtain ⟨x, p1, h1, h2⟩ := OutR.bind_ok e
    obtain ⟨y, p2, h3, h4⟩ := OutR.bind_ok h2
    cases h4
    obtain ⟨o1, c1, d1, a1, g1, k1⟩ := ia w.1 o c od ha h1
    obtain ⟨o2, c2, d2, a2, g2, k2⟩ := ib w.2 o1 c1 d1 a1 h3
    exact ⟨o2, c2, d2, a2, g1.trans g2 k2 (fun _ h => h), fun u hu => k2 u (k1 u hu)⟩
  | pick a b d ia ib id =>
    intro p p' v w o c od ha e
    obtain ⟨x, p1, h1, h2⟩ := OutR.bind_ok e
    obtain ⟨o1, c1, d1, a1, g1, k1⟩ := ia w.1 o c od ha h1
    by_cases z : x > 0
    · simp only [if_pos z] at h2
      obtain ⟨o2, c2, d2, a2, g2, k2⟩ := ib w.2.1 o1 c1 d1 a1 h2
      exact ⟨o2, c2, d2, a2, g1.trans g2 k2 (fun _ h => h), fun u hu => k2 u (k1 u hu)⟩
    · simp only [if_neg z] at h2
      obtain ⟨o2, c2, d2, a2, g2, k2⟩ := id w.2.2 o1 c1 d1 a1 h2
      exact ⟨o2, c2, d2, a2, g1.trans g2 k2 (fun _ h => h), fun u hu => k2 u (k1 u hu)⟩
  | choose a ns ia =>
    intro p p' v w o c od ha e
    obtain ⟨x, p1, h1, h2⟩ := OutR.bind_ok e
    obtain ⟨o1, c1, d1, a1, g1, k1⟩ := ia w.1 o c od ha h1
    obtain ⟨i, _, hi⟩ := nth_mem w.2.1 x
    obtain ⟨o2, c2, d2, a2, g2, k2⟩ := look (w.2.2.2 _ (List.mem_of_getElem? hi)) o1 c1 d1 a1 h2
    exact ⟨o2, c2, d2, a2, g1.trans g2 k2 (fun _ h => h), fun u hu => k2 u (k1 u hu)⟩
theorem lkR_grow {dm : Nat} {h : House} {beta : Nat → Nat} (HH : HouseN dm h beta) : ∀ (n : Nat) (s : RkS) (t : List Nat) (v : Int) (s' : RkS), RkOk h beta s → Coh h s → Ord h s → Nm t → lkR h n s t = .ok v s' → Ord h s' ∧ Grow s s' [t]
  | 0, s, t, v, s', _, _, _, _, e => by cases e
  | n + 1, s, t, v, s', o, c, od, ht, e => by
    have e0 := e
    unfold lkR at e
    cases e1 : seen s.known t with
    | some x =>
      rw [e1] at e
      cases e
      exact ⟨od, Grow.refl _ _⟩
    | none =>
      rw [e1] at e
      cases e2 : seen h.given t with
      | some x =>
        rw [e2] at e
        cases e
        refine ⟨⟨od.at_, fun p hp u hu => putA_mem.mpr (.inl (od.kno p hp u hu))⟩, ⟨[], (List.append_nil _).symm⟩, fun u hu => ?_⟩
        rcases putA_mem.mp hu with hu | rfl
        · exact .inl hu
        · exact .inr (.inl (List.mem_singleton.mpr rfl))
      | none =>
        rw [e2] at e
        cases e3 : rcpOf h.recs t with
        | none => rw [e3] at e; cases e
        | some r =>
          rw [e3] at e
          by_cases z : t ∈ s.asked
          · simp only [if_pos z] at e
            cases e
          · simp only [if_neg z] at e
            cases e4 : wk (lkOwn (lkR h n)) r ({ s with asked := s.asked ++ [t] }, []) with
            | err x => rw [e4] at e; cases e
            | ok w p =>
              rw [e4] at e
              cases e
              obtain ⟨o1, _⟩ := o.ask e3 e1 z
              have c0 : Coh h { s with asked := s.asked ++ [t] } := ⟨c.kn, c.rd, c.kr⟩
              have wn := (HH.rcp _ (rcpOf_mem e3)).2.1
              obtain ⟨o2, c2, d2, a2, g2, _⟩ := wk_grow HH (lk := lkR h n) (A := s.asked ++ [t]) (fun s1 u x s2 q1 b1 d1 a1 hu eu => by
                obtain ⟨x1, x2⟩ := lkR_grow HH n s1 u x s2 q1 b1 d1 hu eu
                exact ⟨lkR_step HH n s1 u x s2 q1 hu eu, (lkR_sound n s1 u x s2 b1 eu).2, x1, x2⟩) (p := ({ s with asked := s.asked ++ [t] }, [])) wn o1 c0 ⟨od.at_, od.kno⟩ rfl e4
              obtain ⟨_, _, _, q2, _⟩ := wk_step (lk := lkR h n) (A := s.asked ++ [t]) (fun s1 u x s2 q1 a1 hu eu => lkR_step HH n s1 u x s2 q1 hu eu) (p := ({ s with asked := s.asked ++ [t] }, [])) wn o1 rfl (OwnOk.nil _ _) e4
              have ct : ¬ t ∈ p.1.read.map (·.1) := fun z2 => (List.nodup_append.mp o2.nd).2.2 t (by rw [a2]; exact List.mem_append_right _ (List.mem_singleton.mpr rfl)) t z2 rfl
              have er : putA p.1.read t p.2 = p.1.read ++ [(t, p.2)] := putA_new _ ct
              obtain ⟨l, el⟩ := g2.pre
              refine ⟨⟨fun i q hq u hu => ?_, fun q hq u hu => ?_⟩, ⟨l ++ [(t, p.2)], ?_⟩, fun u hu => ?_⟩
              · have hq : (putA p.1.read t p.2)[i]? = some q := hq
                show _ ∨ u ∈ ((putA p.1.read t p.2).take i).map (·.1)
                rw [er] at hq ⊢
                by_cases hi : i < p.1.read.length
                · rw [List.getElem?_append_left hi] at hq
                  rw [List.take_append_of_le_length (Nat.le_of_lt hi)]
                  exact d2.at_ i q hq u hu
                · have : i = p.1.read.length := by
                    have := (List.getElem?_eq_some_iff.mp hq).1
                    rw [List.length_append] at this
                    simp only [List.length_cons, List.length_nil] at this
                    omega
                  subst this
                  rw [List.getElem?_append_right (Nat.le_refl _), Nat.sub_self] at hq
                  cases hq
                  rw [List.take_append_of_le_length (Nat.le_refl _), List.take_length]
                  exact c2.kr u (q2.kn u hu)
              · have hq : q ∈ putA p.1.read t p.2 := hq
                refine putA_mem.mpr (.inl ?_)
                rcases mem_putA hq with rfl | hq
                · exact q2.kn u hu
                · exact d2.kno q hq u hu
              · show putA p.1.read t p.2 = _
                rw [er, el, List.append_assoc]
              · show _ ∨ _ ∨ ∃ q ∈ putA p.1.read t p.2, _
                rw [er]
                rcases putA_mem.mp hu with hu | rfl
                · rcases g2.src u hu with hu | hu | ⟨q, hq, hu⟩
                  · exact .inl hu
                  · exact .inr (.inr ⟨(t, p.2), List.mem_append_right _ (List.mem_singleton.mpr rfl), hu⟩)
                  · exact .inr (.inr ⟨q, List.mem_append_left _ hq, hu⟩)
                · exact .inr (.inl (List.mem_singleton.mpr rfl))
/-- a reckoner at rest -/
structure Rest (h : House) (beta : Nat → Nat) (s : RkS) : Prop where
  ok : RkOk h beta s
  coh : Coh h s
  ord : Ord h s
  no : s.asked = []
theorem Rest.empty (h : House) (beta : Nat → Nat) : Rest h beta emptyS := ⟨emptyOk h beta, Coh.empty h, ⟨fun i p e => by simp [emptyS] at e, fun p hp => by simp [emptyS] at hp⟩, rfl⟩
theorem Rest.look {dm : Nat} {h : House} {beta : Nat → Nat} (HH : HouseOk dm h beta) {n : Nat} {s s' : RkS} {t : List Nat} {v : Int} (r : Rest h beta s) (ht : Nm t) (e : lkR h n s t = .ok v s') : Rest h beta s' ∧ Val h t v ∧ Grow s s' [t] ∧ t ∈ s'.known.map (·.1) ∧ ∀ u ∈ s.known.map (·.1), u ∈ s'.known.map (·.1) := by
  have st := lkR_step HH.n n s t v s' r.ok ht e
  obtain ⟨v1, c1⟩ := lkR_sound n s t v s' r.coh e
  obtain ⟨o1, g1⟩ := lkR_grow HH.n n s t v s' r.ok r.coh r.ord ht e
  exact ⟨⟨st.ok, c1, o1, st.asked.trans r.no⟩, v1, g1, st.got, st.mono⟩
theorem Rest.told {dm : Nat} {h : House} {beta : Nat → Nat} (HH : HouseOk dm h beta) {n : Nat} {s : RkS} {t : List Nat} {v : Int} (r : Rest h beta s) (ht : Nm t) (hv : Val h t v) (hn : h.recs.length + 1 ≤ n) : ∃ s', lkR h n s t = .ok v s' := by
  obtain ⟨m, hm⟩ := hv
  exact lkR_total HH.n n s t m v r.ok r.coh ht hm (fun a ha => by rw [r.no] at ha; cases ha) (by rw [r.no]; simpa using hn)
/-- the worth alone is told just where there is one -/
theorem alone_ok {dm : Nat} {h : House} {beta : Nat → Nat} (HH : HouseOk dm h beta) {n : Nat} {t : List Nat} {v : Int} (ht : Nm t) (hn : h.recs.length + 1 ≤ n) : (∃ s, lkR h n emptyS t = .ok v s) ↔ Val h t v :=
  ⟨fun ⟨_, e⟩ => ((Rest.empty h beta).look HH ht e).2.1, fun hv => (Rest.empty h beta).told HH ht hv hn⟩
/-- its reads -/
theorem alone_reads {dm : Nat} {h : House} {beta : Nat → Nat} (HH : HouseOk dm h beta) {n : Nat} {t : List Nat} {v : Int} {s : RkS} (ht : Nm t) (e : lkR h n emptyS t = .ok v s) : (seen h.given t = none ∧ Rds h t (readsFor s t)) ∨ (∃ x, seen h.given t = some x) ∧ readsFor s t = [] := by
  obtain ⟨r, hv, g, got, _⟩ := (Rest.empty h beta).look HH ht e
  have hr : ∀ own, getA s.read t = some own → Rds h t own := fun own e1 => by
    unfold getA at e1
    cases e2 : s.read.find? fun p => decide (p.1 = t) with
    | none => rw [e2] at e1; cases e1
    | some p =>
      rw [e2] at e1
      cases e1
      have := r.coh.rd p (List.mem_of_find?_eq_some e2)
      have h2 : p.1 = t := by
        have := List.find?_some e2
        exact of_decide_eq_true this
      rw [h2] at this
      exact this
  cases e1 : seen h.given t with
  | some x =>
    refine .inr ⟨⟨x, rfl⟩, ?_⟩
    unfold readsFor
    cases e2 : getA s.read t with
    | none => rfl
    | some own => have := (hr own e2).1; rw [e1] at this; cases this
  | none =>
    refine .inl ⟨rfl, ?_⟩
    have : t ∈ s.read.map (·.1) := (r.coh.kr t got).resolve_left fun z => by
      obtain ⟨p, hp, e3⟩ := List.mem_map.mp z
      unfold seen at e1
      rw [Option.map_eq_none_iff, List.find?_eq_none] at e1
      exact e1 p hp (decide_eq_true e3)
    unfold readsFor
    cases e2 : getA s.read t with
    | some own => exact hr own e2
    | none =>
      unfold getA at e2
      rw [Option.map_eq_none_iff, List.find?_eq_none] at e2
      obtain ⟨p, hp, e3⟩ := List.mem_map.mp this
      exact absurd (decide_eq_true e3) (e2 p hp)
/-! ### the states that laws draw from: a dict of rest, mixed, turn -/
def pool (r : Int) (m : Bool) (c : Int) : List (Key × V) := [(kT "rest", .int r), (kT "mixed", .bl m), (kT "turn", .int c)]
theorem pool_rest (r : Int) (m : Bool) (c : Int) : valV (pool r m c) (kT "rest") = some (.int r) := rfl
theorem pool_mixed (r : Int) (m : Bool) (c : Int) : valV (pool r m c) (kT "mixed") = some (.bl m) := by
  have h1 : decide (kT "rest" = kT "mixed") = false := by decide +kernel
  have h2 : decide (kT "mixed" = kT "mixed") = true := by decide +kernel
  simp only [valV, pool, List.find?_cons, h1, h2, Option.map_some]
  rfl
theorem pool_turn (r : Int) (m : Bool) (c : Int) : valV (pool r m c) (kT "turn") = some (.int c) := by
  have h1 : decide (kT "rest" = kT "turn") = false := by decide +kernel
  have h2 : decide (kT "mixed" = kT "turn") = false := by decide +kernel
  have h3 : decide (kT "turn" = kT "turn") = true := by decide +kernel
  simp only [valV, pool, List.find?_cons, h1, h2, h3, Option.map_some]
  rfl
theorem put_rest (r : Int) (m : Bool) (c v : Int) : putK (pool r m c) (kT "rest") (.int v) = pool v m c := by
  unfold putK pool
  have h1 : ¬ kT "mixed" = kT "rest" := by decide +kernel
  have h2 : ¬ kT "turn" = kT "rest" := by decide +kernel
  rw [if_pos (by simp)]
  simp only [List.map_cons, List.map_nil, if_pos, if_neg h1, if_neg h2]
theorem put_turn (r : Int) (m : Bool) (c v : Int) : putK (pool r m c) (kT "turn") (.int v) = pool r m v := by
  unfold putK pool
  have h1 : ¬ kT "rest" = kT "turn" := by decide +kernel
  have h2 : ¬ kT "mixed" = kT "turn" := by decide +kernel
  rw [if_pos (by simp)]
  simp only [List.map_cons, List.map_nil, if_pos, if_neg h1, if_neg h2]
theorem merge_pool (r : Int) (m : Bool) (c : Int) : mergeK [] (pool r m c) = pool r m c := by
  have h1 : decide (kT "rest" = kT "mixed") = false := by decide +kernel
  have h2 : decide (kT "rest" = kT "turn") = false := by decide +kernel
  have h3 : decide (kT "mixed" = kT "turn") = false := by decide +kernel
  simp only [mergeK, pool, List.foldl_cons, List.foldl_nil, putK, List.any_nil, List.any_cons, List.nil_append, List.cons_append, h1, h2, h3, Bool.or_false, if_neg Bool.false_ne_true]
/-- a cell of the script, or a number of its own -/
def spCellF (K : PySem.W.Frag) : Sp := fun vs H Q _ => ∃ (a : Addr) (ns : List Int) (k : Int), vs = [.ref a, .int k] ∧ SqL K H a (ns.map V.int) ∧ ns.length ≤ 63 ∧ 0 ≤ k ∧ k ≤ 100000 ∧ ∀ v, Q (.int v) H
def spStateF (K : PySem.W.Frag) : Sp := fun vs H Q _ => ∃ (a : Addr) (ns : List Int) (k : Int), vs = [.ref a, .int k] ∧ SqL K H a (ns.map V.int) ∧ ns.length ≤ 63 ∧ 0 ≤ k ∧ k ≤ 1000 ∧ ∀ (p : Addr) (r : Int) (m : Bool) (c : Int), H p = none → 0 ≤ c → c ≤ 1000 → Q (.ref p) (upd H p (.dK (pool r m c)))
def spTakeP : Sp := fun vs H Q _ => ∃ (p : Addr) (r : Int) (m : Bool) (c many : Int), vs = [.ref p, .int many] ∧ H p = some (.dK (pool r m c)) ∧ 0 < many ∧ many.natAbs < 2 ^ 200 ∧ 0 ≤ c ∧ c ≤ 1000000 ∧
  ∀ (H' : Hp) (v r' c' : Int), (∀ b, b ≠ p → H' b = H b) → H' p = some (.dK (pool r' m c')) → 0 ≤ c' → c' ≤ c + 1 → 0 ≤ v → v < many → Q (.int v) H'
section
variable {P : Program} {w : World} {K : PySem.W.Frag} {mg : Str → Option Value} {base : Heap}
abbrev s__law_cell : Stmt := topS 11
abbrev N__law_cell : List Str := ["script", "k"]
theorem sc__law_cell : FnScope N__law_cell ["script", "k"] (defScope s__law_cell) := ⟨rfl, rfl, rfl, by decide +kernel, rfl, by decide +kernel, by decide +kernel⟩

theorem ok__law_cellF (T : Txt K mg) (D : IsDef K mg "_law_cell" s__law_cell ["script", "k"]) : Cal P w K mg base CX0 1 "_law_cell" ["script", "k"] (spCellF K) := by
  refine D.cal sc__law_cell (fun vs H Q E h => ?_) (fun f cdv A outer s H vs Q E hr h => ?_)
  · obtain ⟨a, ns, k, rfl, _⟩ := h
    rfl
  obtain ⟨a, ns, k, rfl, hS, h63, k0, k1, q⟩ := h
  refine ⟨_, (pss_cons (ps_if (pt_cmpR op_lt (pv 1) (pe_callB call_len_seq (by rfl) T.b_len PySem.boot_len (pa_cons (pv 0) pa_nil)) (nomark _))
        (pss_one (ps_ret (pe_ix (r := rIxL K) ix_list (pv 0) (pv 1) (fun _ _ => rfl))))
        pss_nil)
      (pss_one (ps_ret (pe_op op_add (pe_op op_add (pe_op op_mul (pe_op op_mul pe_int (pv 1)) (pv 1)) (pe_op op_mul pe_int (pv 1))) pe_int)))), ?_⟩
  refine ⟨_, rfl, _, rfl, a, _, rfl, .inl hS, _, _, rfl, rfl, _, rfl, ?_⟩
  refine ite2 (fun c => ?_) (fun _ => ?_)
  · have c' : k < (((ns.map V.int).length : Nat) : Int) := of_decide_eq_true c
    rw [List.length_map] at c'
    obtain ⟨v, hv⟩ := int_at k0 c'
    exact ⟨_, rfl, _, rfl, a, _, _, _, rfl, rfl, hS, hv, q v⟩
  · exact ⟨_, rfl, _, _, rfl, rfl, .inl ⟨by decide, by decide⟩, _, rfl, _, _, rfl, rfl, .inl ⟨by omega, by omega⟩, _, rfl, _, _, rfl, rfl, .inl ⟨by decide, by decide⟩, _, _, rfl, rfl, _, _, rfl, rfl, q _⟩
abbrev s__law_state : Stmt := topS 12
abbrev N__law_state : List Str := ["script", "k"]
theorem sc__law_state : FnScope N__law_state ["script", "k"] (defScope s__law_state) := ⟨rfl, rfl, rfl, by decide +kernel, rfl, by decide +kernel, by decide +kernel⟩

theorem ok__law_stateF (T : Txt K mg) (D : IsDef K mg "_law_state" s__law_state ["script", "k"]) (C__law_cell : Cal P w K mg base CX0 1 "_law_cell" ["script", "k"] (spCellF K)) : Cal P w K mg base CX0 2 "_law_state" ["script", "k"] (spStateF K) := by
  refine D.cal sc__law_state (fun vs H Q E h => ?_) (fun f cdv A outer s H vs Q E hr h => ?_)
  · obtain ⟨a, ns, k, rfl, _⟩ := h
    rfl
  obtain ⟨a, ns, k, rfl, hS, h63, k0, k1, q⟩ := h
  refine ⟨_, (pss_one (ps_ret (pe_disp (pps_cons pe_str (pe_cal C__law_cell (hr.mono (by first | decide | omega)) pass0 (pa_cons (pv 0) (pa_cons (pv 1) pa_nil))) (pps_cons pe_str (pe_cmpR op_eq (pe_op op_mod (pe_cal C__law_cell (hr.mono (by first | decide | omega)) pass0 (pa_cons (pv 0) (pa_cons pe_int pa_nil))) pe_int) pe_int (nomark _)) (pps_cons pe_str (pv 1) pps_nil))) (by rfl) (by rfl) (fun z => by cases z) (by decide)))), ?_⟩
  refine fun p np => ?_
  have hS' := (same_new np (.dK [])).seq hS
  refine ⟨_, rfl, _, rfl, a, ns, k, rfl, hS', h63, k0, by omega, fun v => ?_⟩
  refine ⟨_, rfl, a, ns, 0, rfl, hS', h63, Int.le_refl 0, by decide, fun v2 => ?_⟩
  refine ⟨_, _, rfl, rfl, (by show (0 : Int) < 2; decide), ?_⟩
  refine ⟨rfl, _, rfl, upd_same, pool v (decide (V.int (v2 % 2) = V.int 1)) k, rfl, (by show 3 ≤ 15; decide), ?_⟩
  rw [merge_pool, upd_upd]
  exact q p _ _ _ np k0 k1
abbrev s__law_take : Stmt := topS 13
abbrev N__law_take : List Str := ["state", "many", "found", "stir"]
theorem sc__law_take : FnScope N__law_take ["state", "many"] (defScope s__law_take) := ⟨rfl, rfl, rfl, by decide +kernel, rfl, by decide +kernel, by decide +kernel⟩

theorem ok__law_takeF (T : Txt K mg) (D : IsDef K mg "_law_take" s__law_take ["state", "many"]) : Cal P w K mg base CX0 1 "_law_take" ["state", "many"] spTakeP := by
  refine D.cal sc__law_take (fun vs H Q E h => ?_) (fun f cdv A outer s H vs Q E hr h => ?_)
  · obtain ⟨p, r, m, c, many, rfl, _⟩ := h
    rfl
  obtain ⟨p, r, m, c, many, rfl, hp, m0, mb, c0, c1, q⟩ := h
  have hu : (cxOf CX0 P w K mg base N__law_take "_law_take" (defScope s__law_take) f cdv A outer s H E).nox.A.units + 1 < cLine := by
    exact Nat.lt_of_le_of_lt (Nat.add_le_add_left (by decide : 1 ≤ 64) _) hr.units
  refine ⟨_, (pss_cons (ps_if (pt_not (pt_val (pe_dget hu (pv 0) pe_str (fun _ _ => rfl))))
        (pss_cons (ps_set (i := 2) sc__law_take.nd rfl (Or.inl rfl) (pe_op op_mod (pe_dget hu (pv 0) pe_str (fun _ _ => rfl)) (pv 1)))
      (pss_cons (ps_dput hu (pv 0) pe_str (pe_op op_fdivW (pe_dget hu (pv 0) pe_str (fun _ _ => rfl)) (pv 1)) rfl)
      (pss_one (ps_ret (pv 2)))))
        pss_nil)
      (pss_cons (ps_dput hu (pv 0) pe_str (pe_op op_add (pe_dget hu (pv 0) pe_str (fun _ _ => rfl)) pe_int) rfl)
      (pss_cons (ps_set (i := 3) sc__law_take.nd rfl (Or.inl rfl) (pe_op op_mod (pe_op op_add (pe_op op_mod (pe_dget hu (pv 0) pe_str (fun _ _ => rfl)) pe_int) (pe_op op_mul pe_int (pe_dget hu (pv 0) pe_str (fun _ _ => rfl)))) pe_int))
      (pss_cons (ps_set (i := 3) sc__law_take.nd rfl (Or.inl rfl) (pe_op op_mod (pe_op op_mul (pv 3) (pv 3)) pe_int))
      (pss_cons (ps_dput hu (pv 0) pe_str (pe_op op_mod (pe_op op_add (pe_op op_mul (pv 3) pe_int) pe_int) pe_int) rfl)
      (pss_one (ps_ret (pe_op op_mod (pe_op op_fdivW (pe_dget hu (pv 0) pe_str (fun _ _ => rfl)) pe_int) (pv 1))))))))), ?_⟩
  refine ⟨_, rfl, p, _, rfl, (pool_mixed r m c) ▸ DGet.k (k := kT "mixed") hp, ?_⟩
  have hlt : ∀ (r : Int) (m : Bool) (c : Int), (pool r m c).length < sizeLine := fun _ _ _ => lt_line (by show 3 < 16777216; decide)
  cases m with
  | false =>
    refine ⟨_, rfl, not_false_eq rfl ?_⟩
    refine ⟨_, rfl, p, _, rfl, (pool_rest r false c) ▸ DGet.k (k := kT "rest") hp, _, rfl, _, _, rfl, rfl, m0, ?_⟩
    refine ⟨_, rfl, p, _, rfl, (pool_rest r false c) ▸ DGet.k (k := kT "rest") hp, _, rfl, _, _, rfl, rfl, wide_div m0 mb (by decide) (by decide), _, rfl, p, _, rfl, DPut.k (k := kT "rest") hp (hlt _ _ _), ?_⟩
    rw [put_rest]
    exact ⟨_, rfl, q _ _ _ _ (fun b hb => upd_ne hb) upd_same c0 (by omega) (Int.emod_nonneg _ (by omega)) (Int.emod_lt_of_pos _ m0)⟩
  | true =>
    refine ⟨_, rfl, not_true_eq rfl ?_⟩
    refine ⟨_, rfl, p, _, rfl, (pool_turn r true c) ▸ DGet.k (k := kT "turn") hp, _, _, rfl, rfl, _, rfl, p, _, rfl, DPut.k (k := kT "turn") hp (hlt _ _ _), ?_⟩
    rw [put_turn]
    have h1 : upd H p (.dK (pool r true (c + 1))) p = some (.dK (pool r true (c + 1))) := upd_same
    have y0 : 0 ≤ r % 2147483579 := Int.emod_nonneg _ (by decide)
    have y1 : r % 2147483579 < 2147483579 := Int.emod_lt_of_pos _ (by decide)
    refine ⟨_, rfl, p, _, rfl, (pool_rest r true (c + 1)) ▸ DGet.k (k := kT "rest") h1, _, _, rfl, rfl, (by show (0 : Int) < 2147483579; decide), _, rfl, p, _, rfl, (pool_turn r true (c + 1)) ▸ DGet.k (k := kT "turn") h1, _, _, rfl, rfl, .inl ⟨by decide, by decide⟩, _, _, rfl, rfl, _, _, rfl, rfl, (by show (0 : Int) < 2147483579; decide), ?_⟩
    have z0 : 0 ≤ (r % 2147483579 + 70001 * (c + 1)) % 2147483579 := Int.emod_nonneg _ (by decide)
    have z1 : (r % 2147483579 + 70001 * (c + 1)) % 2147483579 < 2147483579 := Int.emod_lt_of_pos _ (by decide)
    refine ⟨_, rfl, _, rfl, _, _, rfl, rfl, .inl ⟨Int.lt_of_lt_of_le (by decide) z0, Int.lt_trans z1 (by decide)⟩, _, _, rfl, rfl, (by show (0 : Int) < 2147483563; decide), ?_⟩
    generalize (r % 2147483579 + 70001 * (c + 1)) % 2147483579 = st at z0 z1 ⊢
    have u0 : 0 ≤ (st * st) % 2147483563 := Int.emod_nonneg _ (by decide)
    have u1 : (st * st) % 2147483563 < 2147483563 := Int.emod_lt_of_pos _ (by decide)
    refine ⟨_, rfl, _, _, rfl, rfl, .inl ⟨Int.lt_of_lt_of_le (by decide) u0, Int.lt_trans u1 (by decide)⟩, _, _, rfl, rfl, _, _, rfl, rfl, (by show (0 : Int) < 2147483579; decide), _, rfl, p, _, rfl, DPut.k (k := kT "rest") h1 (hlt _ _ _), ?_⟩
    rw [put_rest]
    have h2 : upd (upd H p (.dK (pool r true (c + 1)))) p (.dK (pool ((st * st % 2147483563 * 50021 + 7) % 2147483579) true (c + 1))) p = some (.dK (pool ((st * st % 2147483563 * 50021 + 7) % 2147483579) true (c + 1))) := upd_same
    refine ⟨_, rfl, p, _, rfl, (pool_rest _ true (c + 1)) ▸ DGet.k (k := kT "rest") h2, _, _, rfl, rfl, ⟨by decide, by decide +kernel⟩, _, rfl, _, _, rfl, rfl, m0, q _ _ _ (c + 1) (fun b hb => ?_) upd_same (by omega) (Int.le_refl _) (Int.emod_nonneg _ (by omega)) (Int.emod_lt_of_pos _ m0)⟩
    rw [upd_ne hb, upd_ne hb]
end
end Mad
/-! ### tuples, lists made: what is told is a heap that keeps all -/
namespace L2
open PySem PySem.Spec PyProof.Rows
/-! one step of a walk, with the slots told anew -/
theorem in_name {i : Nat} {v : V} {σ σ' : St} {H : Hp} {Q : St → Hp → Prop} (e : σ.set i (some v) = σ') (h : Q σ' H) : gName i v σ H Q := by
  subst e
  exact h
theorem in_nx {nx bk ct : St → Hp → Prop} {rt : VK} {σ : St} {H : Hp} (h : nx σ H) : Ends.nx (Ends.mk nx rt bk ct) σ H := h
theorem in_seq {t u : TS} {D : Ends} {σ : St} {H : Hp} (h : t { D with nx := u D } σ H) : tSeq t u D σ H := h
theorem in_asg {te : TE} {g : TG} {D : Ends} {σ : St} {H : Hp} (h : te σ H fun x H1 => g x σ H1 D.nx) : tAsg te g D σ H := h
def SameU (A B : Hp) : Prop := ∀ b u, A b = some u → B b = some u
def tTupA (t : TA) : TE := fun σ H Q => t σ H fun xs H1 => xs.length ≤ sizeLine ∧ ∀ p H2, H1 p = none → SameU H1 H2 → H2 p = some (.tup xs) → Q (.ref p) H2
def tLstA (t : TA) : TE := fun σ H Q => t σ H fun xs H1 => xs.length ≤ sizeLine ∧ ∀ p H2, H1 p = none → SameU H1 H2 → H2 p = some (.lst xs) → Q (.ref p) H2
theorem sameU_new {H : Hp} {p : Addr} (h : H p = none) (o : HO) : SameU H (upd H p o) := fun b u q => by rw [upd_ne (ne_of_none q h)]; exact q
section
variable {X : Cx} {es : List Expr} {t : TA} {pos : Pos}
theorem pe_tupA {x1} (h : PA X es t) : PE X (.Tuple es x1 pos) (tTupA t) := by
  refine ⟨fun pins s σ H Q I hq => ?_⟩
  refine wpAny_Tuple_spliced (thn (h.run pos pins s σ H _ I hq) fun us s1 ⟨xs, H1, I1, r, z, q⟩ => ⟨by rw [← r.length]; exact z, ?_⟩)
  have hf : H1 s1.heap.objs.size = none := I1.hok.fresh (Nat.le_refl _)
  refine ⟨.ref s1.heap.objs.size, upd H1 s1.heap.objs.size (.tup xs), I1.laid (t' := s1.toks) (fun b u e => Heap.get?_push_of_some _ e) (Nat.le_refl _) ?_, rfl, q _ _ hf (sameU_new hf _) upd_same⟩
  exact ⟨z, us, r, ⟨_, Heap.get?_push_size _ rfl, rfl, _, rfl⟩⟩
theorem pe_lstA (h : PA X es t) : PE X (.List es pos) (tLstA t) := by
  refine ⟨fun pins s σ H Q I hq => ?_⟩
  refine wpAny_List_spliced (thn (h.run pos pins s σ H _ I hq) fun us s1 ⟨xs, H1, I1, r, z, q⟩ => ⟨by rw [← r.length]; exact z, ?_⟩)
  have hf : H1 s1.heap.objs.size = none := I1.hok.fresh (Nat.le_refl _)
  refine ⟨.ref s1.heap.objs.size, upd H1 s1.heap.objs.size (.lst xs), I1.laid (t' := s1.toks) (fun b u e => Heap.get?_push_of_some _ e) (Nat.le_refl _) ?_, rfl, q _ _ hf (sameU_new hf _) upd_same⟩
  exact ⟨z, us, 0, r, Heap.get?_push_size _ rfl⟩
def rCatU : R2 := fun x y H Q => ∃ l b xs zs, x = .ref l ∧ y = .ref b ∧ H l = some (.lst xs) ∧ H b = some (.lst zs) ∧ xs.length + zs.length ≤ sizeLine ∧ ∀ p H2, H p = none → SameU H H2 → H2 p = some (.lst (xs ++ zs)) → Q (.ref p) H2
theorem op_catU : OpR X (binaryOp .Add) rCatU := by
  intro pins s σ H x y v u Q I rx ry h
  obtain ⟨l, b, xs, zs, e1, e2, h1, h2, h3, q⟩ := h
  exact op_cat pins s σ H x y v u Q I rx ry ⟨l, b, xs, zs, e1, e2, h1, h2, h3, fun p np => q p _ np (sameU_new np _) upd_same⟩
end
end L2
namespace Mad
open PySem PySem.Spec PyProof.Rows L2
/-! ### drawn numbers, leaves, recipes of the reckoning laws -/
/-- all but p stays -/
def FrP (p : Addr) (H H' : Hp) : Prop := (∀ b u, b ≠ p → H b = some u → H' b = some u) ∧ ∀ b, H' b = none → H b = none
theorem FrP.refl (p : Addr) (H : Hp) : FrP p H H := ⟨fun _ _ _ h => h, fun _ h => h⟩
theorem FrP.trans {p : Addr} {A B C : Hp} (f : FrP p A B) (g : FrP p B C) : FrP p A C := ⟨fun b u n h => g.1 b u n (f.1 b u n h), fun b h => f.2 b (g.2 b h)⟩
theorem FrP.of {p : Addr} {A B : Hp} (s : Same A B) : FrP p A B := ⟨fun b u _ h => s b u h, fun _ h => s.free h⟩
theorem FrP.take {p : Addr} {H H' : Hp} {o o' : HO} (h : H p = some o) (h' : H' p = some o') (f : ∀ b, b ≠ p → H' b = H b) : FrP p H H' := ⟨fun b u n e => by rw [f b n]; exact e, fun b e => by
  by_cases z : b = p
  · rw [z, h'] at e; cases e
  · rw [f b z] at e; exact e⟩
theorem FrP.keep {p : Addr} {H H' : Hp} {k : List (Key × V)} (f : FrP p H H') (h : H p = some (.dK k)) : Keep H H' := fun b xs e => f.1 b _ (fun z => by rw [z, h] at e; cases e) e
theorem FrP.seq {K : PySem.W.Frag} {p a : Addr} {H H' : Hp} {k : List (Key × V)} {xs : List V} (f : FrP p H H') (h : H p = some (.dK k)) (q : SqL K H a xs) : SqL K H' a xs := by
  rcases q with (q | ⟨o, q⟩) | q
  · exact .inl (.inl (f.1 _ _ (fun z => by rw [z, h] at q; cases q) q))
  · exact .inl (.inr ⟨o, f.1 _ _ (fun z => by rw [z, h] at q; cases q) q⟩)
  · exact .inr q
def spNumF : Sp := fun vs H Q _ => ∃ (p : Addr) (r : Int) (m : Bool) (c : Int), vs = [.ref p] ∧ H p = some (.dK (pool r m c)) ∧ 0 ≤ c ∧ c ≤ 900000 ∧
  ∀ (H' : Hp) (v r' c' : Int), FrP p H H' → H' p = some (.dK (pool r' m c')) → 0 ≤ c' → c' ≤ c + 2 → v.natAbs ≤ 10 ^ 12 → Q (.int v) H'
/-- a leaf: a number of twelve figures, or one of the names read -/
def Leaf (ns : List (List Nat)) (x : Rcp) : Prop := (∃ n : Int, x = .num n ∧ n.natAbs ≤ 10 ^ 12) ∨ ∃ t ∈ ns, x = .read t
def spLeafF : Sp := fun vs H Q _ => ∃ (p L : Addr) (r : Int) (m : Bool) (c : Int) (ns : List (List Nat)), vs = [.ref p, .ref L] ∧ H p = some (.dK (pool r m c)) ∧ 0 ≤ c ∧ c ≤ 800000 ∧ H L = some (.lst (txs ns)) ∧ ns.length ≤ 20 ∧ (∀ t ∈ ns, Nm t) ∧
  ∀ (H' : Hp) (v : V) (x : Rcp) (r' c' : Int), FrP p H H' → H' p = some (.dK (pool r' m c')) → 0 ≤ c' → c' ≤ c + 3 → Leaf ns x → Rec H' x v → Q v H'
section
variable {P : Program} {w : World} {K : PySem.W.Frag} {mg : Str → Option Value} {base : Heap}
abbrev s__law_number : Stmt := topS 14
abbrev N__law_number : List Str := ["state", "kind"]
theorem sc__law_number : FnScope N__law_number ["state"] (defScope s__law_number) := ⟨rfl, rfl, rfl, by decide +kernel, rfl, by decide +kernel, by decide +kernel⟩

theorem ok__law_numberF (T : Txt K mg) (D : IsDef K mg "_law_number" s__law_number ["state"]) (C__law_take : Cal P w K mg base CX0 1 "_law_take" ["state", "many"] spTakeP) : Cal P w K mg base CX0 2 "_law_number" ["state"] spNumF := by
  refine D.cal sc__law_number (fun vs H Q E h => ?_) (fun f cdv A outer s H vs Q E hr h => ?_)
  · obtain ⟨p, r, m, c, rfl, _⟩ := h
    rfl
  obtain ⟨p, r, m, c, rfl, hp, c0, c1, q⟩ := h
  refine ⟨_, (pss_cons (ps_set (i := 1) sc__law_number.nd rfl (Or.inl rfl) (pe_cal C__law_take (hr.mono (by first | decide | omega)) pass0 (pa_cons (pv 0) (pa_cons pe_int pa_nil))))
      (pss_cons (ps_if (pt_cmpR op_eq (pv 1) pe_int (nomark _))
        (pss_one (ps_ret (pe_op op_sub (pe_cal C__law_take (hr.mono (by first | decide | omega)) pass0 (pa_cons (pv 0) (pa_cons (pe_op op_add (pe_op op_mul pe_int (pe_op op_pow pe_int pe_int)) pe_int) pa_nil))) (pe_op op_pow pe_int pe_int))))
        pss_nil)
      (pss_one (ps_ret (pe_op op_sub (pe_cal C__law_take (hr.mono (by first | decide | omega)) pass0 (pa_cons (pv 0) (pa_cons (pe_ix (r := rIxL K) ix_list (pe_lstA (pa_cons pe_int (pa_cons pe_int (pa_cons pe_int pa_nil)))) (pv 1) (fun _ _ => rfl)) pa_nil))) (pe_ix (r := rIxL K) ix_list (pe_lstA (pa_cons pe_int (pa_cons pe_int (pa_cons pe_int pa_nil)))) (pv 1) (fun _ _ => rfl))))))), ?_⟩
  refine ⟨_, rfl, p, r, m, c, 4, rfl, hp, by decide, by decide, c0, by omega, fun H1 k r1 c1' f1 hp1 d0 d1 k0 k4 => ?_⟩
  have g1 := FrP.take hp hp1 f1
  refine ⟨_, rfl, rfl, _, rfl, ite2 (fun z => ?_) (fun z => ?_)⟩
  · have hm : (2 * 10 ^ 12 + 1 : Int) = 2000000000001 := by decide
    refine ⟨_, rfl, _, _, rfl, rfl, ⟨by decide, by decide, by decide⟩, _, _, rfl, rfl, .inl ⟨by decide, by decide⟩, _, _, rfl, rfl, p, r1, m, c1', _, rfl, hp1, ?_, ?_, d0, by omega, fun H2 v r2 c2 f2 hp2 e0 e1 v0 v1 => ?_⟩
    · decide
    · decide
    refine ⟨_, _, rfl, rfl, ⟨by decide, by decide, by decide⟩, _, _, rfl, rfl, ?_⟩
    have hv : v < 2000000000001 := v1
    refine q H2 _ r2 c2 (g1.trans (FrP.take hp1 hp2 f2)) hp2 e0 (by omega) ?_
    show (v - 1000000000000).natAbs ≤ 10 ^ 12
    have : (10 : Nat) ^ 12 = 1000000000000 := by decide
    omega
  · have k3 : k ≠ 3 := fun e => z (decide_eq_true (by rw [e]))
    have hk3 : k = 0 ∨ k = 1 ∨ k = 2 := by omega
    have le3 : [V.int 5, V.int 21, V.int 2001].length ≤ sizeLine := le_line (Nat.le_of_ble_eq_true rfl)
    obtain ⟨a, ha, a0, a1⟩ : ∃ a : Int, atI [V.int 5, V.int 21, V.int 2001] k = some (.int a) ∧ 0 < a ∧ a ≤ 2001 := by
      rcases hk3 with rfl | rfl | rfl
      · exact ⟨5, rfl, by decide, by decide⟩
      · exact ⟨21, rfl, by decide, by decide⟩
      · exact ⟨2001, rfl, by decide, by decide⟩
    obtain ⟨b, hb, b0, b1⟩ : ∃ b : Int, atI [V.int 2, V.int 10, V.int 1000] k = some (.int b) ∧ 0 < b ∧ b ≤ 1000 := by
      rcases hk3 with rfl | rfl | rfl
      · exact ⟨2, rfl, by decide, by decide⟩
      · exact ⟨10, rfl, by decide, by decide⟩
      · exact ⟨1000, rfl, by decide, by decide⟩
    refine ⟨_, rfl, le3, fun L H2 nL s2 e2 => ?_⟩
    have S2 : Same H1 H2 := s2
    have hp2 := S2 _ _ hp1
    refine ⟨_, rfl, L, _, k, .int a, rfl, rfl, SqL.of e2, ha, p, r1, m, c1', a, rfl, hp2, a0, ?_, d0, by omega, fun H3 v r3 c3 f3 hp3 e0 e1 v0 v1 => ?_⟩
    · have : (2 : Nat) ^ 200 > 4000 := by decide
      omega
    refine ⟨le_line (Nat.le_of_ble_eq_true rfl), fun L2 H4 nL2 s4 e4 => ?_⟩
    have S4 : Same H3 H4 := s4
    refine ⟨_, rfl, L2, _, k, .int b, rfl, rfl, SqL.of e4, hb, _, _, rfl, rfl, ?_⟩
    refine q H4 _ r3 c3 (g1.trans ((FrP.of S2).trans ((FrP.take hp2 hp3 f3).trans (FrP.of S4)))) (S4 _ _ hp3) e0 (by omega) ?_
    have : (10 : Nat) ^ 12 = 1000000000000 := by decide
    omega
abbrev s__law_leaf : Stmt := topS 15
abbrev N__law_leaf : List Str := ["state", "some"]
theorem sc__law_leaf : FnScope N__law_leaf ["state", "some"] (defScope s__law_leaf) := ⟨rfl, rfl, rfl, by decide +kernel, rfl, by decide +kernel, by decide +kernel⟩

theorem ok__law_leafF (T : Txt K mg) (D : IsDef K mg "_law_leaf" s__law_leaf ["state", "some"]) (C_take : Cal P w K mg base CX0 1 "_law_take" ["state", "many"] spTakeP) (C__law_number : Cal P w K mg base CX0 2 "_law_number" ["state"] spNumF) : Cal P w K mg base CX0 3 "_law_leaf" ["state", "some"] spLeafF := by
  have C__law_take := C_take.mono (show 1 ≤ 2 by omega)
  refine D.cal sc__law_leaf (fun vs H Q E h => ?_) (fun f cdv A outer s H vs Q E hr h => ?_)
  · obtain ⟨p, L, r, m, c, ns, rfl, _⟩ := h
    rfl
  obtain ⟨p, L, r, m, c, ns, rfl, hp, c0, c1, hL, hn, hnm, q⟩ := h
  refine ⟨_, (pss_cons (ps_if (PW.pt (pw_or (pt_cmpR (op_eqD hr.units) (pv 1) (pe_lstA pa_nil) (nomark _)) (pw_or1 (pt_cmpR op_eq (pe_cal C__law_take (hr.mono (by first | decide | omega)) pass0 (pa_cons (pv 0) (pa_cons pe_int pa_nil))) pe_int (nomark _)))))
        (pss_one (ps_ret (pe_tupA (pa_cons pe_str (pa_cons (pe_cal C__law_number (hr.mono (by first | decide | omega)) pass0 (pa_cons (pv 0) pa_nil)) pa_nil)))))
        pss_nil)
      (pss_one (ps_ret (pe_tupA (pa_cons pe_str (pa_cons (pe_ix (r := rIxL K) ix_list (pv 1) (pe_cal C__law_take (hr.mono (by first | decide | omega)) pass0 (pa_cons (pv 0) (pa_cons (pe_callB call_len_seq (by rfl) T.b_len PySem.boot_len (pa_cons (pv 1) pa_nil)) pa_nil))) (fun _ _ => rfl)) pa_nil)))))), ?_⟩
  refine ⟨_, rfl, Nat.zero_le _, fun O H1 nO s1 e1 => ?_⟩
  have S1 : Same H H1 := s1
  have hp1 := S1 _ _ hp
  have hL1 := S1 _ _ hL
  have nLp : L ≠ p := fun z => by rw [z, hp] at hL; cases hL
  refine ⟨_, _, Data.dp (t := .lst (nmsTh ns)) Nms.flat ⟨L, _, rfl, hL1, nms_data H1 ns⟩, .lst (SqL.of e1) .nil, Nms.shaped hnm, rfl, _, rfl, ?_⟩
  have num : ∀ (G : Hp) (r1 c1' : Int), FrP p H G → G p = some (.dK (pool r1 m c1')) → 0 ≤ c1' → c1' ≤ c + 1 → spNumF [.ref p] G (fun v G2 => ([V.str "number", v] : List V).length ≤ sizeLine ∧ ∀ t G3, G2 t = none → SameU G2 G3 → G3 t = some (.tup [.str "number", v]) → Q (.ref t) G3) (fun _ _ _ => False) := fun G r1 c1' g h1 h2 h3 =>
    ⟨p, r1, m, c1', rfl, h1, h2, by omega, fun G2 v r2 c2 f2 hp2 e0 e1 hv => ⟨le_line (Nat.le_of_ble_eq_true rfl), fun t G3 nt s3 e3 => q G3 _ (.num v) r2 c2 (g.trans (f2.trans (FrP.of s3))) (s3 _ _ hp2) e0 (by omega) (.inl ⟨v, rfl, hv⟩) ⟨t, rfl, e3⟩⟩⟩
  cases ns with
  | nil =>
    refine iteT ?_
    refine iteT ?_
    refine ⟨_, rfl, ?_⟩
    exact num H1 r c (FrP.of S1) hp1 c0 (by omega)
  | cons n0 ns0 =>
    refine iteF ?_
    refine ⟨_, rfl, p, r, m, c, 3, rfl, hp1, by decide, by decide, c0, by omega, fun H2 k r2 c2 f2 hp2 d0 d1 k0 k3 => ?_⟩
    have g2 := (FrP.of S1).trans (FrP.take hp1 hp2 f2)
    refine ⟨rfl, _, rfl, ite2 (fun z => ?_) (fun z => ?_)⟩
    · refine ⟨_, rfl, ?_⟩
      exact num H2 r2 c2 g2 hp2 d0 d1
    · have hL2 := g2.1 L _ nLp hL
      refine ⟨_, rfl, _, rfl, _, rfl, L, _, rfl, .inl (SqL.of hL2), p, r2, m, c2, _, rfl, hp2, ?_, ?_, d0, by omega, fun H3 v r3 c3 f3 hp3 e0 e1 v0 v1 => ?_⟩
      · rw [txs_len, List.length_cons]; omega
      · rw [txs_len]
        have : (2 : Nat) ^ 200 > 4000 := by decide
        omega
      have hL3 := (FrP.take hp2 hp3 f3).1 L _ nLp hL2
      rw [txs_len] at v1
      have hv : v.toNat < (n0 :: ns0).length := by omega
      refine ⟨L, _, v, .str (SX.S (n0 :: ns0)[v.toNat]), rfl, rfl, SqL.of hL3, atI_at v0 (txs_get hv), le_line (Nat.le_of_ble_eq_true rfl), fun t H4 nt s4 e4 => ?_⟩
      have S4 : Same H3 H4 := s4
      exact q H4 _ (.read (n0 :: ns0)[v.toNat]) r3 c3 (g2.trans ((FrP.take hp2 hp3 f3).trans (FrP.of S4))) (S4 _ _ hp3) e0 (by omega) (.inr ⟨_, List.getElem_mem hv, rfl⟩) ⟨t, rfl, e4⟩
end
/-! ### drawn recipes -/
/-- len with the frame's part named, for comprehensions -/
theorem call_len_seqK {X : Cx} {K : PySem.W.Frag} (h : X.K = K) : CallR X (.builtin "len") (fun xs H Q => ∃ p ys, xs = [V.ref p] ∧ (SqL K H p ys ∨ SqT K H p ys) ∧ Q (V.int (ys.length : Int)) H) := by
  subst h
  exact call_len_seq
/-- the names within a recipe -/
def Rcp.Wi (S : List Nat → Prop) : Rcp → Prop
  | .num _ => True
  | .read t => S t
  | .two _ a b => a.Wi S ∧ b.Wi S
  | .pick a b c => a.Wi S ∧ b.Wi S ∧ c.Wi S
  | .choose a ns => a.Wi S ∧ ∀ t ∈ ns, S t
theorem Rcp.Ev.wi {f : List Nat → Int → Prop} {S : List Nat → Prop} : ∀ {r : Rcp} {v : Int}, r.Wn → r.Wi S → r.Ev f v → r.Ev (fun t x => S t ∧ f t x) v
  | .num _, v, _, _, h => h
  | .read _, v, _, w, h => ⟨w, h⟩
  | .two _ _ _, v, n, w, ⟨a, c, h1, h2, e⟩ => ⟨a, c, h1.wi n.1 w.1, h2.wi n.2 w.2, e⟩
  | .pick _ _ _, v, n, w, ⟨a, h1, h2, h3⟩ => ⟨a, h1.wi n.1 w.1, fun c => (h2 c).wi n.2.1 w.2.1, fun c => (h3 c).wi n.2.2 w.2.2⟩
  | .choose _ _, v, n, w, ⟨a, h1, h2⟩ => ⟨a, h1.wi n.1 w.1, by obtain ⟨i, _, hi⟩ := nth_mem n.2.1 a; exact w.2 _ (List.mem_of_getElem? hi), h2⟩
theorem Rcp.Fit.wi {f : List Nat → Int → Prop} {S : List Nat → Prop} : ∀ {r : Rcp}, r.Wn → r.Wi S → r.Fit (fun t x => S t ∧ f t x) → r.Fit f
  | .num _, _, _, _ => trivial
  | .read _, _, _, _ => trivial
  | .two _ _ _, n, w, ⟨h1, h2⟩ => ⟨h1.wi n.1 w.1, fun a ha => ⟨(h2 a (ha.wi n.1 w.1)).1.wi n.2 w.2, fun c hc => (h2 a (ha.wi n.1 w.1)).2 c (hc.wi n.2 w.2)⟩⟩
  | .pick _ _ _, n, w, ⟨h1, h2⟩ => ⟨h1.wi n.1 w.1, fun a ha => ⟨fun c => ((h2 a (ha.wi n.1 w.1)).1 c).wi n.2.1 w.2.1, fun c => ((h2 a (ha.wi n.1 w.1)).2 c).wi n.2.2 w.2.2⟩⟩
  | .choose x _, n, w, h => Fit.wi (r := x) n.1 w.1 h
/-- neither new.. nor far.. -/
def Own18 (t : List Nat) : Prop := t.take 3 ≠ [110, 101, 119] ∧ t.take 3 ≠ [102, 97, 114]
structure Drawn (d : Nat) (x : Rcp) : Prop where
  gd : x.Good
  dp : x.dep ≤ d + 1
  bt : ∀ b, 41 ≤ b → x.bits b ≤ b + 2 * d
  wi : x.Wi Own18
theorem num_drawn {n : Int} (h : n.natAbs ≤ 10 ^ 12) (d : Nat) : Drawn d (.num n) := by
  have h40 : n.natAbs < 2 ^ 40 := Nat.lt_of_le_of_lt h (by decide)
  have hl : n.natAbs.log2 < 40 ∨ n.natAbs = 0 := by
    by_cases z : n.natAbs = 0
    · exact .inr z
    · exact .inl ((Nat.log2_lt z).mpr h40)
  refine ⟨Nat.lt_of_le_of_lt h (by decide), Nat.le_add_left _ _, fun b hb => ?_, trivial⟩
  show n.natAbs.log2 + 1 ≤ b + 2 * d
  rcases hl with h | h
  · omega
  · rw [h]
    have : (0 : Nat).log2 = 0 := by decide
    omega
theorem Leaf.drawn {ns : List (List Nat)} (hn : ∀ t ∈ ns, Nm t ∧ Own18 t) {x : Rcp} (h : Leaf ns x) (d : Nat) : Drawn d x := by
  rcases h with ⟨n, rfl, h⟩ | ⟨t, ht, rfl⟩
  · exact num_drawn h d
  · exact ⟨(hn t ht).1, Nat.le_add_left _ _, fun b _ => by show b ≤ b + 2 * d; omega, (hn t ht).2⟩
theorem Drawn.times {d : Nat} {x : Rcp} (h : Drawn d x) {n : Int} (hn : n.natAbs ≤ 3) : Drawn (d + 1) (.two .times (.num n) x) ∧ Drawn (d + 1) (.two .times x (.num n)) := by
  have hl : n.natAbs.log2 ≤ 1 := by
    have : n.natAbs = 0 ∨ n.natAbs = 1 ∨ n.natAbs = 2 ∨ n.natAbs = 3 := by omega
    rcases this with e | e | e | e <;> rw [e] <;> decide
  have hg : n.natAbs < 10 ^ 40 := Nat.lt_of_le_of_lt hn (by decide)
  have hd := h.dp
  refine ⟨⟨⟨hg, h.gd⟩, ?_, fun b hb => ?_, trivial, h.wi⟩, ⟨⟨h.gd, hg⟩, ?_, fun b hb => ?_, h.wi, trivial⟩⟩
  · show max 1 x.dep + 1 ≤ d + 1 + 1; omega
  · have := h.bt b hb
    show n.natAbs.log2 + 1 + x.bits b ≤ b + 2 * (d + 1)
    omega
  · show max x.dep 1 + 1 ≤ d + 1 + 1; omega
  · have := h.bt b hb
    show x.bits b + (n.natAbs.log2 + 1) ≤ b + 2 * (d + 1)
    omega
theorem Drawn.two {d : Nat} {x y : Rcp} (h : Drawn d x) (k : Drawn d y) {kd : Kd} (hk : kd ≠ .times) : Drawn (d + 1) (.two kd x y) := by
  have h1 := h.dp
  have h2 := k.dp
  refine ⟨⟨h.gd, k.gd⟩, by show max x.dep y.dep + 1 ≤ d + 1 + 1; omega, fun b hb => ?_, h.wi, k.wi⟩
  have a1 := h.bt b hb
  have a2 := k.bt b hb
  cases kd with
  | times => exact absurd rfl hk
  | plus => show max (x.bits b) (y.bits b) + 1 ≤ b + 2 * (d + 1); omega
  | minus => show max (x.bits b) (y.bits b) + 1 ≤ b + 2 * (d + 1); omega
  | most => show max (x.bits b) (y.bits b) ≤ b + 2 * (d + 1); omega
theorem Drawn.pick {d : Nat} {x y z : Rcp} (h : Drawn d x) (k : Drawn d y) (l : Drawn d z) : Drawn (d + 1) (.pick x y z) := by
  have h1 := h.dp
  have h2 := k.dp
  have h3 := l.dp
  refine ⟨⟨h.gd, k.gd, l.gd⟩, by show max x.dep (max y.dep z.dep) + 1 ≤ d + 1 + 1; omega, fun b hb => ?_, h.wi, k.wi, l.wi⟩
  have a1 := h.bt b hb
  have a2 := k.bt b hb
  have a3 := l.bt b hb
  show max (x.bits b) (max (y.bits b) (z.bits b)) ≤ b + 2 * (d + 1)
  omega
theorem Drawn.choose {d : Nat} {x : Rcp} (h : Drawn d x) {ns : List (List Nat)} (hn : Nms ns) (ho : ∀ t ∈ ns, Own18 t) : Drawn (d + 1) (.choose x ns) := by
  have h1 := h.dp
  refine ⟨⟨h.gd, hn⟩, by show x.dep + 1 ≤ d + 1 + 1; omega, fun b hb => ?_, h.wi, ho⟩
  have a1 := h.bt b hb
  show max (x.bits b) b ≤ b + 2 * (d + 1)
  omega
def tk (d : Nat) : Nat := 20 * 4 ^ d
theorem tk_pos (d : Nat) : 20 ≤ tk d := by
  unfold tk
  have : 1 ≤ 4 ^ d := Nat.one_le_pow _ _ (by decide)
  omega
theorem tk_succ (d : Nat) : tk (d + 1) = 4 * tk d := by unfold tk; rw [Nat.pow_succ]; omega
def spRcpF (d : Nat) : Sp := fun vs H Q _ => ∃ (p L : Addr) (r : Int) (m : Bool) (c : Int) (ns : List (List Nat)), vs = [.ref p, .ref L, .int (d : Int)] ∧ H p = some (.dK (pool r m c)) ∧ 0 ≤ c ∧ c + tk d ≤ 700000 ∧ H L = some (.lst (txs ns)) ∧ ns.length ≤ 20 ∧ (∀ t ∈ ns, Nm t ∧ Own18 t) ∧
  ∀ (H' : Hp) (v : V) (x : Rcp) (r' c' : Int), FrP p H H' → H' p = some (.dK (pool r' m c')) → 0 ≤ c' → c' ≤ c + tk d → Drawn d x → Rec H' x v → Q v H'
def spRcpN (n : Nat) : Sp := fun vs H Q E => ∃ d, d ≤ n ∧ spRcpF d vs H Q E
section
variable {P : Program} {w : World} {K : PySem.W.Frag} {mg : Str → Option Value} {base : Heap}
abbrev s__law_recipe : Stmt := topS 16
abbrev N__law_recipe : List Str := ["state", "some", "deep", "kind", "small", "other", "names", "first", "second", "k"]
theorem sc__law_recipe : FnScope N__law_recipe ["state", "some", "deep"] (defScope s__law_recipe) := ⟨rfl, rfl, rfl, by decide +kernel, rfl, by decide +kernel, by decide +kernel⟩

theorem ok__law_recipeF (T : Txt K mg) (D : IsDef K mg "_law_recipe" s__law_recipe ["state", "some", "deep"]) (C_take : Cal P w K mg base CX0 1 "_law_take" ["state", "many"] spTakeP) (C_leaf : Cal P w K mg base CX0 3 "_law_leaf" ["state", "some"] spLeafF) : ∀ n, Cal P w K mg base CX0 (4 + n) "_law_recipe" ["state", "some", "deep"] (spRcpN n)
  | 0 => by
    have C__law_take := C_take.mono (show 1 ≤ 3 by omega)
    have C__law_leaf := C_leaf
    have C__law_recipe : Cal P w K mg base CX0 3 "_law_recipe" ["state", "some", "deep"] (fun _ _ _ _ => False) := cal_none D fun vs H Q E h => h
    refine D.cal sc__law_recipe (fun vs H Q E h => ?_) (fun f cdv A outer s H vs Q E hr h => ?_)
    · obtain ⟨d, hd, p, L, r, m, c, ns, rfl, _⟩ := h
      rfl
    obtain ⟨d, hd, p, L, r, m, c, ns, rfl, hp, c0, c1, hL, hn, hnm, q⟩ := h
    obtain rfl : d = 0 := by omega
    have nLp : L ≠ p := fun z => by rw [z, hp] at hL; cases hL
    have t20 := tk_pos 0
    refine ⟨_, (pss_cons (ps_set (i := 3) sc__law_recipe.nd rfl (Or.inl rfl) (pe_cal C__law_take (hr.mono (by first | decide | omega)) pass0 (pa_cons (pv 0) (pa_cons pe_int pa_nil))))
      (pss_cons (ps_if (PW.pt (pw_or (pt_cmpR op_eq (pv 2) pe_int (nomark _)) (pw_or1 (pt_cmpR op_eq (pv 3) pe_int (nomark _)))))
        (pss_one (ps_ret (pe_cal C__law_leaf (hr.mono (by first | decide | omega)) pass0 (pa_cons (pv 0) (pa_cons (pv 1) pa_nil)))))
        pss_nil)
      (pss_cons (ps_if (pt_cmpR op_eq (pv 3) pe_int (nomark _))
        (pss_cons (ps_set (i := 4) sc__law_recipe.nd rfl (Or.inl rfl) (pe_tupA (pa_cons pe_str (pa_cons (pe_op op_sub (pe_cal C__law_take (hr.mono (by first | decide | omega)) pass0 (pa_cons (pv 0) (pa_cons pe_int pa_nil))) pe_int) pa_nil))))
      (pss_cons (ps_set (i := 5) sc__law_recipe.nd rfl (Or.inl rfl) (pe_cal C__law_recipe (hr.mono (by first | decide | omega)) pass0 (pa_cons (pv 0) (pa_cons (pv 1) (pa_cons (pe_op op_sub (pv 2) pe_int) pa_nil)))))
      (pss_one (ps_ret (pe_ix (r := rIxL K) ix_list (pe_lstA (pa_cons (pe_tupA (pa_cons pe_str (pa_cons (pv 4) (pa_cons (pv 5) pa_nil)))) (pa_cons (pe_tupA (pa_cons pe_str (pa_cons (pv 5) (pa_cons (pv 4) pa_nil)))) pa_nil))) (pe_cal C__law_take (hr.mono (by first | decide | omega)) pass0 (pa_cons (pv 0) (pa_cons pe_int pa_nil))) (fun _ _ => rfl))))))
        pss_nil)
      (pss_cons (ps_if (PW.pt (pw_and (pt_cmpR op_eq (pv 3) pe_int (nomark _)) (pw_and1 (pt_cmpR (op_neD hr.units) (pv 1) (pe_lstA pa_nil) (nomark _)))))
        (pss_cons (ps_set (i := 6) sc__law_recipe.nd rfl (Or.inl rfl) (pe_callTy call_tuple_of (by rfl) T.b_tuple (by decide +kernel) (pa_cons (pe_lc (own := [("k", 9)]) (g := gName 9)  (by rfl) sc__law_recipe.nd  (pi_range1 rfl T.b_range (pa_cons (pe_op op_add pe_int (pe_cal C__law_take (hr.mono (by first | decide | omega)) pass0 (pa_cons (pv 0) (pa_cons pe_int pa_nil)))) pa_nil)) (blkOk_by (own := [("k", 9)]) (N := N__law_recipe) (sc := defScope s__law_recipe) (by decide +kernel)) (fun _ _ _ _ _ => (pg_name (i := 9) sc__law_recipe.nd rfl (Or.inl rfl))) (fun _ _ _ _ _ => pts_nil) (fun _ _ _ _ _ => (pe_ix (r := rIxL K) ix_list (pv 1) (pe_cal C__law_take (hr.mono (by first | decide | omega)) pass0 (pa_cons (pv 0) (pa_cons (pe_callB (call_len_seqK (K := K) rfl) (by rfl) T.b_len PySem.boot_len (pa_cons (pv 1) pa_nil)) pa_nil))) (fun _ _ => rfl)))) pa_nil)))
      (pss_one (ps_ret (pe_tupA (pa_cons pe_str (pa_cons (pe_cal C__law_recipe (hr.mono (by first | decide | omega)) pass0 (pa_cons (pv 0) (pa_cons (pv 1) (pa_cons (pe_op op_sub (pv 2) pe_int) pa_nil)))) (pa_cons (pv 6) pa_nil)))))))
        pss_nil)
      (pss_cons (ps_set (i := 7) sc__law_recipe.nd rfl (Or.inl rfl) (pe_cal C__law_recipe (hr.mono (by first | decide | omega)) pass0 (pa_cons (pv 0) (pa_cons (pv 1) (pa_cons (pe_op op_sub (pv 2) pe_int) pa_nil)))))
      (pss_cons (ps_set (i := 8) sc__law_recipe.nd rfl (Or.inl rfl) (pe_cal C__law_recipe (hr.mono (by first | decide | omega)) pass0 (pa_cons (pv 0) (pa_cons (pv 1) (pa_cons (pe_op op_sub (pv 2) pe_int) pa_nil)))))
      (pss_cons (ps_if (pt_cmpR op_lt (pv 3) pe_int (nomark _))
        (pss_one (ps_ret (pe_tupA (pa_cons pe_str (pa_cons (pv 7) (pa_cons (pv 8) (pa_cons (pe_cal C__law_recipe (hr.mono (by first | decide | omega)) pass0 (pa_cons (pv 0) (pa_cons (pv 1) (pa_cons (pe_op op_sub (pv 2) pe_int) pa_nil)))) pa_nil)))))))
        pss_nil)
      (pss_one (ps_ret (pe_tupA (pa_cons (pe_ix (r := rIxL K) ix_list (pe_lstA (pa_cons pe_str (pa_cons pe_str (pa_cons pe_str (pa_cons pe_str pa_nil))))) (pe_op op_sub (pv 3) pe_int) (fun _ _ => rfl)) (pa_cons (pv 7) (pa_cons (pv 8) pa_nil))))))))))))), ?_⟩
    refine ⟨_, rfl, p, r, m, c, 9, rfl, hp, by decide, by decide, c0, by omega, fun H1 k r1 c1' f1 hp1 d0 d1 k0 k9 => ?_⟩
    have g1 := FrP.take hp hp1 f1
    refine ⟨_, rfl, rfl, _, rfl, iteT ?_⟩
    refine iteT ?_
    refine ⟨_, rfl, _, rfl, p, L, r1, m, c1', ns, rfl, hp1, d0, by omega, g1.1 L _ nLp hL, hn, fun t ht => (hnm t ht).1, fun H2 v x r2 c2 f2 hp2 e0 e1 lf rx => ?_⟩
    exact q H2 v x r2 c2 (g1.trans f2) hp2 e0 (by omega) (lf.drawn hnm 0) rx
  | n + 1 => by
    have C__law_take := C_take.mono (show 1 ≤ 4 + n by omega)
    have C__law_leaf := C_leaf.mono (show 3 ≤ 4 + n by omega)
    have C__law_recipe := ok__law_recipeF T D C_take C_leaf n
    refine D.cal (k := 4 + n) sc__law_recipe (fun vs H Q E h => ?_) (fun f cdv A outer s H vs Q E hr h => ?_)
    · obtain ⟨d, hd, p, L, r, m, c, ns, rfl, _⟩ := h
      rfl
    obtain ⟨d, hd, p, L, r, m, c, ns, rfl, hp, c0, c1, hL, hn, hnm, q⟩ := h
    have nLp : L ≠ p := fun z => by rw [z, hp] at hL; cases hL
    refine ⟨_, (pss_cons (ps_set (i := 3) sc__law_recipe.nd rfl (Or.inl rfl) (pe_cal C__law_take (hr.mono (by first | decide | omega)) pass0 (pa_cons (pv 0) (pa_cons pe_int pa_nil))))
      (pss_cons (ps_if (PW.pt (pw_or (pt_cmpR op_eq (pv 2) pe_int (nomark _)) (pw_or1 (pt_cmpR op_eq (pv 3) pe_int (nomark _)))))
        (pss_one (ps_ret (pe_cal C__law_leaf (hr.mono (by first | decide | omega)) pass0 (pa_cons (pv 0) (pa_cons (pv 1) pa_nil)))))
        pss_nil)
      (pss_cons (ps_if (pt_cmpR op_eq (pv 3) pe_int (nomark _))
        (pss_cons (ps_set (i := 4) sc__law_recipe.nd rfl (Or.inl rfl) (pe_tupA (pa_cons pe_str (pa_cons (pe_op op_sub (pe_cal C__law_take (hr.mono (by first | decide | omega)) pass0 (pa_cons (pv 0) (pa_cons pe_int pa_nil))) pe_int) pa_nil))))
      (pss_cons (ps_set (i := 5) sc__law_recipe.nd rfl (Or.inl rfl) (pe_cal C__law_recipe (hr.mono (by first | decide | omega)) pass0 (pa_cons (pv 0) (pa_cons (pv 1) (pa_cons (pe_op op_sub (pv 2) pe_int) pa_nil)))))
      (pss_one (ps_ret (pe_ix (r := rIxL K) ix_list (pe_lstA (pa_cons (pe_tupA (pa_cons pe_str (pa_cons (pv 4) (pa_cons (pv 5) pa_nil)))) (pa_cons (pe_tupA (pa_cons pe_str (pa_cons (pv 5) (pa_cons (pv 4) pa_nil)))) pa_nil))) (pe_cal C__law_take (hr.mono (by first | decide | omega)) pass0 (pa_cons (pv 0) (pa_cons pe_int pa_nil))) (fun _ _ => rfl))))))
        pss_nil)
      (pss_cons (ps_if (PW.pt (pw_and (pt_cmpR op_eq (pv 3) pe_int (nomark _)) (pw_and1 (pt_cmpR (op_neD hr.units) (pv 1) (pe_lstA pa_nil) (nomark _)))))
        (pss_cons (ps_set (i := 6) sc__law_recipe.nd rfl (Or.inl rfl) (pe_callTy call_tuple_of (by rfl) T.b_tuple (by decide +kernel) (pa_cons (pe_lc (own := [("k", 9)]) (g := gName 9)  (by rfl) sc__law_recipe.nd  (pi_range1 rfl T.b_range (pa_cons (pe_op op_add pe_int (pe_cal C__law_take (hr.mono (by first | decide | omega)) pass0 (pa_cons (pv 0) (pa_cons pe_int pa_nil)))) pa_nil)) (blkOk_by (own := [("k", 9)]) (N := N__law_recipe) (sc := defScope s__law_recipe) (by decide +kernel)) (fun _ _ _ _ _ => (pg_name (i := 9) sc__law_recipe.nd rfl (Or.inl rfl))) (fun _ _ _ _ _ => pts_nil) (fun _ _ _ _ _ => (pe_ix (r := rIxL K) ix_list (pv 1) (pe_cal C__law_take (hr.mono (by first | decide | omega)) pass0 (pa_cons (pv 0) (pa_cons (pe_callB (call_len_seqK (K := K) rfl) (by rfl) T.b_len PySem.boot_len (pa_cons (pv 1) pa_nil)) pa_nil))) (fun _ _ => rfl)))) pa_nil)))
      (pss_one (ps_ret (pe_tupA (pa_cons pe_str (pa_cons (pe_cal C__law_recipe (hr.mono (by first | decide | omega)) pass0 (pa_cons (pv 0) (pa_cons (pv 1) (pa_cons (pe_op op_sub (pv 2) pe_int) pa_nil)))) (pa_cons (pv 6) pa_nil)))))))
        pss_nil)
      (pss_cons (ps_set (i := 7) sc__law_recipe.nd rfl (Or.inl rfl) (pe_cal C__law_recipe (hr.mono (by first | decide | omega)) pass0 (pa_cons (pv 0) (pa_cons (pv 1) (pa_cons (pe_op op_sub (pv 2) pe_int) pa_nil)))))
      (pss_cons (ps_set (i := 8) sc__law_recipe.nd rfl (Or.inl rfl) (pe_cal C__law_recipe (hr.mono (by first | decide | omega)) pass0 (pa_cons (pv 0) (pa_cons (pv 1) (pa_cons (pe_op op_sub (pv 2) pe_int) pa_nil)))))
      (pss_cons (ps_if (pt_cmpR op_lt (pv 3) pe_int (nomark _))
        (pss_one (ps_ret (pe_tupA (pa_cons pe_str (pa_cons (pv 7) (pa_cons (pv 8) (pa_cons (pe_cal C__law_recipe (hr.mono (by first | decide | omega)) pass0 (pa_cons (pv 0) (pa_cons (pv 1) (pa_cons (pe_op op_sub (pv 2) pe_int) pa_nil)))) pa_nil)))))))
        pss_nil)
      (pss_one (ps_ret (pe_tupA (pa_cons (pe_ix (r := rIxL K) ix_list (pe_lstA (pa_cons pe_str (pa_cons pe_str (pa_cons pe_str (pa_cons pe_str pa_nil))))) (pe_op op_sub (pv 3) pe_int) (fun _ _ => rfl)) (pa_cons (pv 7) (pa_cons (pv 8) pa_nil))))))))))))), ?_⟩
    rcases d with _ | d
    · have t20 := tk_pos 0
      refine ⟨_, rfl, p, r, m, c, 9, rfl, hp, by decide, by decide, c0, by omega, fun H1 k r1 c1' f1 hp1 d0 d1 k0 k9 => ?_⟩
      have g1 := FrP.take hp hp1 f1
      refine ⟨_, rfl, rfl, _, rfl, iteT ?_⟩
      refine iteT ?_
      refine ⟨_, rfl, _, rfl, p, L, r1, m, c1', ns, rfl, hp1, d0, by omega, g1.1 L _ nLp hL, hn, fun t ht => (hnm t ht).1, fun H2 v x r2 c2 f2 hp2 e0 e1 lf rx => ?_⟩
      exact q H2 v x r2 c2 (g1.trans f2) hp2 e0 (by omega) (lf.drawn hnm 0) rx
    have t20 := tk_pos d
    rw [tk_succ] at c1 q
    refine ⟨_, rfl, p, r, m, c, 9, rfl, hp, by decide, by decide, c0, by omega, fun H1 k r1 c1' f1 hp1 d0 d1 k0 k9 => ?_⟩
    have g1 := FrP.take hp hp1 f1
    have hL1 := g1.1 L _ nLp hL
    have hd : ¬ ((d + 1 : Nat) : Int) = 0 := by omega
    refine ⟨_, rfl, rfl, _, rfl, iteN (fun z => hd (V.int.inj z)) ?_⟩
    refine ⟨_, rfl, rfl, _, rfl, ite2 (fun z => ?_) (fun z => ?_)⟩
    · refine ⟨_, rfl, _, rfl, p, L, r1, m, c1', ns, rfl, hp1, d0, by omega, hL1, hn, fun t ht => (hnm t ht).1, fun H2 v x r2 c2 f2 hp2 e0 e1 lf rx => ?_⟩
      exact q H2 v x r2 c2 (g1.trans f2) hp2 e0 (by omega) (lf.drawn hnm (d + 1)) rx
    have ed : (((d + 1 : Nat) : Int) - 1) = (d : Int) := by omega
    have le : ∀ n : Nat, n ≤ 100 → n ≤ sizeLine := fun n h => le_line (Nat.le_trans h (by decide))
    refine ⟨_, rfl, rfl, _, rfl, ite2 (fun z1 => ?_) (fun z1 => ?_)⟩
    · refine ⟨_, rfl, p, r1, m, c1', 7, rfl, hp1, by decide, by decide, d0, by omega, fun H2 sm r2 c2 f2 hp2 e0 e1 s0 s7 => ?_⟩
      have g2 := g1.trans (FrP.take hp1 hp2 f2)
      refine ⟨_, _, rfl, rfl, le 2 (by decide), fun t1 H3 n3 s3 e3 => ?_⟩
      have S3 : Same H2 H3 := s3
      have g3 := g2.trans (FrP.of S3)
      have hp3 := S3 _ _ hp2
      have rs : Rec H3 (.num (sm - 3)) (.ref t1) := ⟨t1, rfl, e3⟩
      refine ⟨_, rfl, _, rfl, _, rfl, _, _, rfl, rfl, d, by omega, p, L, r2, m, c2, ns, (by show [V.ref p, V.ref L, V.int (((d + 1 : Nat) : Int) - 1)] = _; rw [ed]), hp3, e0, by omega, g3.1 L _ nLp hL, hn, hnm, fun H4 v x r4 c4 f4 hp4 i0 i1 dx rx => ?_⟩
      have rs4 := rs.keep (f4.keep hp3)
      have g4 := g3.trans f4
      refine ⟨_, rfl, _, rfl, le 3 (by decide), fun t2 H5 n5 s5 e5 => ⟨_, rfl, _, rfl, le 3 (by decide), fun t3 H6 n6 s6 e6 => ⟨le 2 (by decide), fun M H7 n7 s7 e7 => ?_⟩⟩⟩
      have S5 : Same H4 H5 := s5
      have S6 : Same H5 H6 := s6
      have S7 : Same H6 H7 := s7
      have S47 : Same H4 H7 := S5.trans (S6.trans S7)
      have hp7 := S47 _ _ hp4
      have dt := dx.times (n := sm - 3) (by omega)
      have ra : Rec H7 (.two .times (.num (sm - 3)) x) (.ref t2) := ⟨t2, _, _, rfl, (S6.trans S7) _ _ e5, rs4.same S47, rx.same S47⟩
      have rb : Rec H7 (.two .times x (.num (sm - 3))) (.ref t3) := ⟨t3, _, _, rfl, S7 _ _ e6, rx.same S47, rs4.same S47⟩
      refine ⟨_, rfl, p, r4, m, c4, 2, rfl, hp7, by decide, by decide, i0, by omega, fun H8 k8 r8 c8 f8 hp8 j0 j1 k80 k82 => ?_⟩
      have g8 := FrP.take hp7 hp8 f8
      have gg := g4.trans ((FrP.of S47).trans g8)
      have nMp : M ≠ p := fun z => by rw [z, hp7] at e7; cases e7
      have e8 := g8.1 M _ nMp e7
      have hk8 : k8 = 0 ∨ k8 = 1 := by omega
      rcases hk8 with rfl | rfl
      · exact ⟨M, _, 0, _, rfl, rfl, SqL.of e8, atI_at (Int.le_refl 0) rfl, q H8 _ _ r8 c8 gg hp8 j0 (by omega) dt.1 (ra.keep (g8.keep hp7))⟩
      · exact ⟨M, _, 1, _, rfl, rfl, SqL.of e8, atI_at (by decide) rfl, q H8 _ _ r8 c8 gg hp8 j0 (by omega) dt.2 (rb.keep (g8.keep hp7))⟩
    have k0n : k ≠ 0 := fun e => z (decide_eq_true (by rw [e]))
    have k1n : k ≠ 1 := fun e => z1 (decide_eq_true (by rw [e]))
    -- two parts drawn, and what follows
    have parts : ∀ (G : Hp) (r2 c2 : Int) (Q' : VK), FrP p H G → G p = some (.dK (pool r2 m c2)) → 0 ≤ c2 → c2 ≤ c + 1 + 2 * tk d →
        (∀ (G' : Hp) (v : V) (x : Rcp) (r' c' : Int), FrP p G G' → G' p = some (.dK (pool r' m c')) → 0 ≤ c' → c' ≤ c2 + tk d → Drawn d x → Rec G' x v → Q' v G') → spRcpN n [.ref p, .ref L, .int (((d + 1 : Nat) : Int) - 1)] G Q' (fun _ _ _ => False) := fun G r2 c2 Q' g h1 h2 h3 h4 =>
      ⟨d, by omega, p, L, r2, m, c2, ns, by rw [ed], h1, h2, by omega, g.1 L _ nLp hL, hn, hnm, h4⟩
    refine ⟨_, rfl, rfl, _, rfl, ite2 (fun z2 => ?two) (fun z2 => ?other)⟩
    case' two =>
      refine ⟨_, rfl, Nat.zero_le _, fun O H2 nO s2 e2 => ?_⟩
      have S2 : Same H1 H2 := s2
      have hp2 := S2 _ _ hp1
      have hL2 := S2 _ _ hL1
      have g2 := g1.trans (FrP.of S2)
      refine ⟨_, _, Data.dp (t := .lst (nmsTh ns)) Nms.flat ⟨L, _, rfl, hL2, nms_data H2 ns⟩, .lst (SqL.of e2) .nil, Nms.shaped (fun t ht => (hnm t ht).1), rfl, _, rfl, ?_⟩
      by_cases he : ns = []
      case' pos =>
        subst he
        refine iteF ?_
        obtain ⟨X, hX⟩ : ∃ X, X = H2 := ⟨_, rfl⟩
        rw [← hX] at hp2 g2 ⊢
        have gX := g2
        have hpX := hp2
        have k5 : k < 5 := by have := V.int.inj (of_decide_eq_true z2); omega
      case neg =>
        obtain ⟨n0, ns0, rfl⟩ := List.exists_cons_of_ne_nil he
        refine iteT ?_
        refine ⟨_, rfl, p, r1, m, c1', 9, rfl, hp2, by decide, by decide, d0, by omega, fun H3 kn r3 c3 f3 hp3 e0 e1 kn0 kn9 => ?_⟩
        have g3 := g2.trans (FrP.take hp2 hp3 f3)
        have hL3 := g3.1 L _ nLp hL
        refine ⟨_, _, rfl, rfl, 1 + kn, rfl, by omega, by omega, fun Lc nLc => lc_range (lo := 0) (n := (1 + kn).toNat) (fun i X => ∃ (r c' : Int) (ss : List (List Nat)), (∀ b u, b ≠ p → b ≠ Lc → H3 b = some u → X b = some u) ∧ (∀ b, X b = none → H3 b = none) ∧ X p = some (.dK (pool r m c')) ∧ 0 ≤ c' ∧ c' ≤ c3 + i ∧ X Lc = some (.lst (txs ss)) ∧ ss.length = i ∧ ∀ t ∈ ss, Nm t ∧ Own18 t)
          ⟨r3, c3, [], fun b u n1 n2 e => by rw [upd_ne n2]; exact e, fun b e => (same_new nLc (.lst [])).free e, by rw [upd_ne (ne_of_none hp3 nLc)]; exact hp3, e0, by omega, upd_same, rfl, fun _ h => nomatch h⟩ ?_ ?_⟩
        · rintro i X hi ⟨r4, c4, ss, fX, zX, hpX, i0, i1, eLc, sl, sn⟩
          have nLcL : L ≠ Lc := ne_of_none hL3 nLc
          have nLcp : Lc ≠ p := fun z => by rw [z, hp3] at nLc; cases nLc
          have hLX := fX L _ nLp nLcL hL3
          refine ⟨rfl, _, rfl, _, rfl, _, rfl, L, _, rfl, .inl (SqL.of hLX), p, r4, m, c4, _, rfl, hpX, by rw [txs_len, List.length_cons]; omega, ?_, i0, by omega, fun X2 v r5 c5 f5 hp5 j0 j1 v0 v1 => ?_⟩
          · rw [txs_len]
            have : (2 : Nat) ^ 200 > 4000 := by decide
            omega
          rw [txs_len] at v1
          have hv : v.toNat < (n0 :: ns0).length := by omega
          refine ⟨L, _, v, .str (SX.S (n0 :: ns0)[v.toNat]), rfl, rfl, SqL.of (by rw [f5 _ nLp]; exact hLX), atI_at v0 (txs_get hv), txs ss, by rw [f5 _ nLcp]; exact eLc, by rw [txs_len, sl]; exact lt_line (by omega), ?_⟩
          refine ⟨r5, c5, ss ++ [(n0 :: ns0)[v.toNat]], fun b u n1 n2 e => by rw [upd_ne n2, f5 b n1]; exact fX b u n1 n2 e, fun b e => ?_, by rw [upd_ne nLcp.symm]; exact hp5, j0, by push_cast; omega, by rw [upd_same, txs_app]; rfl, by rw [List.length_append, sl]; rfl, fun t ht => ?_⟩
          · unfold L2.upd at e
            split at e
            · cases e
            · exact zX b ((FrP.take hpX hp5 f5).2 b e)
          · rcases List.mem_append.mp ht with h | h
            · exact sn t h
            · rw [List.mem_singleton.mp h]; exact hnm _ (List.getElem_mem hv)
        · rintro X ⟨r4, c4, ss, fX, zX, hpX, i0, i1, eLc, sl, sn⟩
          have nLcH : H Lc = none := g3.2 Lc nLc
          have gX : FrP p H X := ⟨fun b u n e => fX b u n (ne_of_none e nLcH) (g3.1 b u n e), fun b e => g3.2 b (zX b e)⟩
          refine ⟨Lc, _, rfl, .inl ⟨SqL.of eLc, fun tp ntp => ?_⟩⟩
          have u1 := same_new ntp (.tup (txs ss))
          have etp : upd X tp (.tup (txs ss)) tp = some (.tup (txs ss)) := upd_same
          generalize upd X tp (.tup (txs ss)) = X1 at u1 etp ⊢
          have hpX1 := u1 _ _ hpX
          refine ⟨_, rfl, _, rfl, _, rfl, _, _, rfl, rfl, parts X1 r4 c4 _ (gX.trans (FrP.of u1)) hpX1 i0 (by omega) fun X2 v x r5 c5 f5 hp5 j0 j1 dx rx => ?_⟩
          refine ⟨_, rfl, le 3 (by decide), fun t H9 n9 s9 e9 => ?_⟩
          have S9 : Same X2 H9 := s9
          have kk := f5.keep hpX1
          refine q H9 _ (.choose x ss) r5 c5 ((gX.trans (FrP.of u1)).trans (f5.trans (FrP.of S9))) (S9 _ _ hp5) j0 (by omega) (dx.choose ⟨by omega, by omega, fun t ht => (sn t ht).1⟩ fun t ht => (sn t ht).2) ⟨t, _, tp, rfl, e9, rx.same S9, S9 _ _ (kk _ _ etp)⟩
    case' other =>
      have k3 : 3 ≤ k := by
        have : k ≠ 2 := fun e => z2 (decide_eq_true (by rw [e]))
        omega
      obtain ⟨X, hX⟩ : ∃ X, X = H1 := ⟨_, rfl⟩
      have gX := g1
      have hpX := hp1
      rw [← hX] at hpX gX ⊢
    all_goals
      have k2 : 2 ≤ k := by omega
      refine ⟨_, rfl, _, rfl, _, rfl, _, _, rfl, rfl, parts X r1 c1' _ gX hpX d0 (by omega) fun X2 v x r2 c2 f2 hp2 e0 e1 dx rx => ?_⟩
      refine ⟨_, rfl, _, rfl, _, rfl, _, _, rfl, rfl, parts X2 r2 c2 _ (gX.trans f2) hp2 e0 (by omega) fun X3 v2 y r3 c3 f3 hp3 i0 i1 dy ry => ?_⟩
      have rx3 := rx.keep (f3.keep hp2)
      have g3 := gX.trans (f2.trans f3)
      refine ⟨_, rfl, _, _, rfl, rfl, _, rfl, ite2 (fun z5 => ?_) (fun z5 => ?_)⟩
      · refine ⟨_, rfl, _, rfl, _, rfl, _, rfl, _, rfl, _, _, rfl, rfl, parts X3 r3 c3 _ g3 hp3 i0 (by omega) fun X4 v3 y3 r4 c4 f4 hp4 j0 j1 dz rz => ?_⟩
        refine ⟨le 4 (by decide), fun t H9 n9 s9 e9 => ?_⟩
        have S9 : Same X4 H9 := s9
        have k4 := f4.keep hp3
        exact q H9 _ (.pick x y y3) r4 c4 (g3.trans (f4.trans (FrP.of S9))) (S9 _ _ hp4) j0 (by omega) (dx.pick dy dz) ⟨t, _, _, _, rfl, e9, (rx3.keep k4).same S9, (ry.keep k4).same S9, rz.same S9⟩
      · have hk5 : 5 ≤ k := by
          have : ¬ k < 5 := fun e => z5 (decide_eq_true e)
          omega
        obtain ⟨kd, hkd, hat⟩ : ∃ kd : Kd, kd ≠ .times ∧ atI [V.str "plus", V.str "minus", V.str "most", V.str "plus"] (k - 5) = some (.str kd.name) := by
          have : k = 5 ∨ k = 6 ∨ k = 7 ∨ k = 8 := by omega
          rcases this with rfl | rfl | rfl | rfl
          · exact ⟨.plus, by decide, rfl⟩
          · exact ⟨.minus, by decide, rfl⟩
          · exact ⟨.most, by decide, rfl⟩
          · exact ⟨.plus, by decide, rfl⟩
        refine ⟨le 4 (by decide), fun M H5 n5 s5 e5 => ?_⟩
        have S5 : Same X3 H5 := s5
        refine ⟨_, rfl, _, _, rfl, rfl, M, _, k - 5, _, rfl, rfl, SqL.of e5, hat, _, rfl, _, rfl, le 3 (by decide), fun t H9 n9 s9 e9 => ?_⟩
        have S9 : Same H5 H9 := s9
        have S59 := S5.trans S9
        exact q H9 _ (.two kd x y) r3 c3 (g3.trans (FrP.of S59)) (S59 _ _ hp3) i0 (by omega) (dx.two dy hkd) ⟨t, _, _, rfl, e9, rx3.same S59, ry.same S59⟩
end
/-! ### the names of drawn houses -/
def names18 : List (List Nat) := [[97], [98], [97, 98], [98, 97], [97, 97], [114, 101, 97, 100], [112, 108, 117, 115], [122, 122], [110, 117, 109, 98, 101, 114], [112, 105, 99, 107], [122], [97, 98, 99, 100, 101, 102, 103, 104], [109, 111, 115, 116], [103, 105, 118, 101, 110],
  [99], [97, 97, 97, 97, 97, 97, 97, 97], [116, 105, 109, 101, 115], [99, 104, 111, 111, 115, 101]]
theorem names18_fine : names18.Nodup ∧ (∀ t ∈ names18, Nm t) ∧ names18.length = 18 := by
  refine ⟨by decide, fun t ht => ?_, rfl⟩
  have : ∀ t ∈ names18, 1 ≤ t.length ∧ t.length ≤ 8 ∧ ∀ c ∈ t, 97 ≤ c ∧ c ≤ 122 := by decide
  exact this t ht
def spNamesF : Sp := fun vs H Q _ => vs = [] ∧ ∀ (L : Addr) (H' : Hp), Same H H' → H L = none → H' L = some (.lst (txs names18)) → Q (.ref L) H'
abbrev lit14 : List V := [.str "a", .str "b", .str "ab", .str "ba", .str "aa", .str "read", .str "plus", .str "zz", .str "number", .str "pick", .str "z", .str "abcdefgh", .str "most", .str "given"]
abbrev lit4n : List V := [.str "c", .str "aaaaaaaa", .str "times", .str "choose"]
theorem lit18 : lit14 ++ lit4n = txs names18 := by
  have h1 : ("a" : Str) = SX.S [97] := by decide +kernel
  have h2 : ("b" : Str) = SX.S [98] := by decide +kernel
  have h3 : ("ab" : Str) = SX.S [97, 98] := by decide +kernel
  have h4 : ("ba" : Str) = SX.S [98, 97] := by decide +kernel
  have h5 : ("aa" : Str) = SX.S [97, 97] := by decide +kernel
  have h6 : ("read" : Str) = SX.S [114, 101, 97, 100] := by decide +kernel
  have h7 : ("plus" : Str) = SX.S [112, 108, 117, 115] := by decide +kernel
  have h8 : ("zz" : Str) = SX.S [122, 122] := by decide +kernel
  have h9 : ("number" : Str) = SX.S [110, 117, 109, 98, 101, 114] := by decide +kernel
  have h10 : ("pick" : Str) = SX.S [112, 105, 99, 107] := by decide +kernel
  have h11 : ("z" : Str) = SX.S [122] := by decide +kernel
  have h12 : ("abcdefgh" : Str) = SX.S [97, 98, 99, 100, 101, 102, 103, 104] := by decide +kernel
  have h13 : ("most" : Str) = SX.S [109, 111, 115, 116] := by decide +kernel
  have h14 : ("given" : Str) = SX.S [103, 105, 118, 101, 110] := by decide +kernel
  have h15 : ("c" : Str) = SX.S [99] := by decide +kernel
  have h16 : ("aaaaaaaa" : Str) = SX.S [97, 97, 97, 97, 97, 97, 97, 97] := by decide +kernel
  have h17 : ("times" : Str) = SX.S [116, 105, 109, 101, 115] := by decide +kernel
  have h18 : ("choose" : Str) = SX.S [99, 104, 111, 111, 115, 101] := by decide +kernel
  unfold lit14 lit4n
  rw [h1, h2, h3, h4, h5, h6, h7, h8, h9, h10, h11, h12, h13, h14, h15, h16, h17, h18]
  rfl
section
variable {P : Program} {w : World} {K : PySem.W.Frag} {mg : Str → Option Value} {base : Heap}
abbrev s__law_names : Stmt := topS 17
abbrev N__law_names : List Str := ["some"]
theorem sc__law_names : FnScope N__law_names [] (defScope s__law_names) := ⟨rfl, rfl, rfl, by decide +kernel, rfl, by decide +kernel, by decide +kernel⟩

theorem ok__law_namesF (T : Txt K mg) (D : IsDef K mg "_law_names" s__law_names []) : Cal P w K mg base CX0 1 "_law_names" [] spNamesF := by
  refine D.cal sc__law_names (fun vs H Q E h => ?_) (fun f cdv A outer s H vs Q E hr h => ?_)
  · rw [h.1]
    rfl
  obtain ⟨rfl, q⟩ := h
  have le : ∀ n : Nat, n ≤ 100 → n ≤ sizeLine := fun n h => le_line (Nat.le_trans h (by decide))
  refine ⟨_, (pss_cons (ps_set (i := 0) sc__law_names.nd rfl (Or.inl rfl) (pe_lst (pa_cons pe_str (pa_cons pe_str (pa_cons pe_str (pa_cons pe_str (pa_cons pe_str (pa_cons pe_str (pa_cons pe_str (pa_cons pe_str (pa_cons pe_str (pa_cons pe_str (pa_cons pe_str (pa_cons pe_str (pa_cons pe_str (pa_cons pe_str pa_nil))))))))))))))))
      (pss_one (ps_ret (pe_op op_cat (pv 0) (pe_lst (pa_cons pe_str (pa_cons pe_str (pa_cons pe_str (pa_cons pe_str pa_nil))))))))), ?_⟩
  refine ⟨le 14 (by decide), fun L1 n1 => ?_⟩
  have s1 := same_new n1 (.lst lit14)
  have e1 : upd H L1 (.lst lit14) L1 = some (.lst lit14) := upd_same
  generalize upd H L1 (.lst lit14) = H1 at s1 e1 ⊢
  refine ⟨_, rfl, le 4 (by decide), fun L2 n2 => ?_⟩
  have s2 := same_new n2 (.lst lit4n)
  have e2 : upd H1 L2 (.lst lit4n) L2 = some (.lst lit4n) := upd_same
  generalize upd H1 L2 (.lst lit4n) = H2 at s2 e2 ⊢
  refine ⟨L1, L2, _, _, rfl, rfl, s2 _ _ e1, e2, le 18 (by decide), fun L n => ?_⟩
  have s3 := same_new n (.lst (lit14 ++ lit4n))
  exact q L _ (s1.trans (s2.trans s3)) ((s1.trans s2).free n) (by rw [upd_same, lit18])
end
section
variable {X : Cx} {CX : CXT} {k : Nat} {ps : List Str} {sp : Sp} {E : L2.St → XK} {x : Str} {p pos : Pos}
theorem pe_calS {e : Expr} {es : List Expr} {t : TA} (c : Cal X.prog X.w X.K X.mg X.base CX k x ps sp) (hr : Room k X.A) (hx : ∀ σ, PassesAt CX X σ (E σ)) (ha : PA X (e :: es) t) (hg : Gl X x := by rfl)
    (hdb : (x == ("__debug__" : Str)) = false := by decide) (he : starEach (e :: es) X.env = (false, eval e X.env) :: starEach es X.env := by rfl) (hpl : (backTo pos (starEach es X.env)).any (·.1) = false := by rfl) :
    PE X (.Call (.Name x p) (e :: es) [] pos) (tCallS sp E t) := by
  obtain ⟨f, fd, F, m, kp, b⟩ := c
  exact pe_callS F hr hg m kp b hx ha hdb he hpl
end
/-! ### the worth told, or None -/
open LamX NdefX
structure MadeT (K : PySem.W.Frag) (mg : Str → Option Value) (CN CR CM : Addr) : Prop where
  gM : mg "MadeError" = some (.ref CM)
  eN : PySem.W.exmOne K (.ref CN) (.ref CM) = some true
  eR : PySem.W.exmOne K (.ref CR) (.ref CM) = some true
def spWT (Tb : List NTab) (dm n : Nat) : Sp := fun vs H Q _ => ∃ (v : V) (h : House) (beta : Nat → Nat) (t : List Nat), vs = [v, .str (SX.S t)] ∧ HouseOk dm h beta ∧ h.given.length + h.recs.length ≤ 100000 ∧ h.recs.length + 1 ≤ n ∧ HouseAt H h v ∧ TabsN Tb H ∧ Nm t ∧
  match lkR h n emptyS t with
    | .ok y _ => ∀ H', FrS Tb [] H H' → Q (.int y) H'
    | .err _ => ∀ H', FrS Tb [] H H' → Q .non H'
section
variable {P : Program} {w : World} {K : PySem.W.Frag} {mg : Str → Option Value} {base : Heap} {CN CR CM : Addr} {Tb : List NTab}
abbrev s__law_worth_told : Stmt := topS 19
abbrev N__law_worth_told : List Str := ["house", "name", "found"]
theorem sc__law_worth_told : FnScope N__law_worth_told ["house", "name"] (defScope s__law_worth_told) := ⟨rfl, rfl, rfl, by decide +kernel, rfl, by decide +kernel, by decide +kernel⟩

theorem ok__law_worth_told {dm n : Nat} (T : Txt K mg) (Z : MadeT K mg CN CR CM) (D : IsDef K mg "_law_worth_told" s__law_worth_told ["house", "name"]) (C_worth_of : Cal P w K mg base (L2.CX P w) (lvR dm n + 2) "worth_of" ["house", "name"] (spWorthOf CN CR Tb dm n)) :
    Cal P w K mg base CX0 (lvR dm n + 3) "_law_worth_told" ["house", "name"] (spWT Tb dm n) := by
  have GMadeError := Z.gM
  refine D.cal (k := lvR dm n + 2) sc__law_worth_told (fun vs H Q E h => ?_) (fun f cdv A outer s H vs Q E hr h => ?_)
  · obtain ⟨v, hh, beta, t, rfl, _⟩ := h
    rfl
  obtain ⟨v, hh, beta, t, rfl, HH, hsz, hn, hH, hT, ht, q⟩ := h
  refine ⟨_, (pss_cons (ps_set (i := 2) sc__law_worth_told.nd rfl (Or.inl rfl) pe_non)
      (pss_cons (ps_try_only rfl rfl ⟨rfl, by decide, .inl GMadeError⟩ L2.takes0 (fun W pn xe tk _ => (pss_one (ps_set (i := 2) sc__law_worth_told.nd rfl (Or.inl rfl) (pe_calS C_worth_of (hr.mono (by first | decide | omega)) (fun σ => passAt tk σ) (pa_cons (pv 0) (pa_cons (pv 1) pa_nil))))))
        (fun a oe cls d pn _ _ => (pss_one (ps_set (i := 2) sc__law_worth_told.nd rfl (Or.inl rfl) pe_non))))
      (pss_one (ps_ret (pv 2))))), ?_⟩
  refine ⟨_, rfl, _, rfl, v, hh, beta, t, rfl, HH, hsz, hn, hH, hT, ht, ?_⟩
  cases e : lkR hh n emptyS t with
  | ok y st =>
    rw [e] at q
    intro x H2 f2 ex
    subst ex
    exact ⟨_, rfl, q H2 f2⟩
  | err x =>
    rw [e] at q
    intro H2 f2
    cases x with
    | noName s0 =>
      intro d G sG nd hd
      exact ⟨true, Z.eN, fun _ _ _ => ⟨_, rfl, q G (f2.trans (FrS.of sG))⟩, fun z => nomatch z⟩
    | ring l =>
      intro d L G sG nd nL hd hL
      exact ⟨true, Z.eR, fun _ _ _ => ⟨_, rfl, q G (f2.trans (FrS.of sG))⟩, fun z => nomatch z⟩
end
/-! ### drawn houses -/
def beta17 (c : Nat) : Nat := 53 * 2 ^ c - 12
theorem beta17_step (c : Nat) : beta17 (c + 1) = 2 * beta17 c + 12 ∧ 41 ≤ beta17 c := by
  unfold beta17
  have : 1 ≤ 2 ^ c := Nat.one_le_pow _ _ (by decide)
  rw [Nat.pow_succ]
  omega
theorem beta17_mono {c d : Nat} (h : c ≤ d) : beta17 c ≤ beta17 d := by
  unfold beta17
  have := Nat.pow_le_pow_right (show 0 < 2 by decide) h
  omega
theorem names18_own : ∀ t ∈ names18, Own18 t := by unfold Own18; decide
/-- a recipe as such houses hold them -/
structure Held (x : Rcp) : Prop where
  wi : x.Wi Own18
  gd : x.Good
  dp : x.dep ≤ 5
  bt : ∀ b, 41 ≤ b → x.bits b ≤ 2 * b + 12
theorem Drawn.held {d : Nat} (hd : d ≤ 3) {x : Rcp} (h : Drawn d x) : Held x := ⟨h.wi, h.gd, by have := h.dp; omega, fun b hb => by have := h.bt b hb; omega⟩
theorem Drawn.held2 {d : Nat} (hd : d ≤ 3) {x : Rcp} (h : Drawn d x) {t : List Nat} (ht : Nm t ∧ Own18 t) : Held (.two .times (.read t) x) := by
  have h1 := h.dp
  refine ⟨⟨ht.2, h.wi⟩, ⟨ht.1, h.gd⟩, by show max 1 x.dep + 1 ≤ 5; omega, fun b hb => ?_⟩
  have h2 := h.bt b hb
  show b + x.bits b ≤ 2 * b + 12
  omega
theorem putA_last {α : Type} {l : List (List Nat × α)} {t : List Nat} {x y : α} (h : ¬ t ∈ l.map (·.1)) : putA (l ++ [(t, x)]) t y = l ++ [(t, y)] := by
  have key : l.map (fun p => if p.1 = t then (p.1, y) else p) = l := (List.map_congr_left fun p hp => if_neg fun z => h (List.mem_map.mpr ⟨p, hp, z⟩)).trans (List.map_id' l)
  unfold putA
  rw [if_pos (List.any_eq_true.mpr ⟨(t, x), List.mem_append_right _ (List.mem_singleton.mpr rfl), decide_eq_true rfl⟩), List.map_append, key, List.map_cons, List.map_nil, if_pos rfl]
/-- such a house -/
structure DrawnHouse (h : House) : Prop where
  rcp : ∀ p ∈ h.recs, Held p.2
  gvn : ∀ p ∈ h.given, p.2.natAbs ≤ 10 ^ 12
  nms : ∀ t ∈ h.given.map (·.1) ++ h.recs.map (·.1), t ∈ names18.take 14
  nd : (h.given.map (·.1) ++ h.recs.map (·.1)).Nodup
  got : h.given ≠ []
theorem DrawnHouse.len {h : House} (D : DrawnHouse h) : h.given.length + h.recs.length ≤ 14 ∧ h.recs.length ≤ 13 := by
  have h1 := sub_lenR D.nd D.nms
  rw [List.length_append, List.length_map, List.length_map] at h1
  have h2 : (names18.take 14).length = 14 := rfl
  have h3 : 0 < h.given.length := List.length_pos_iff.mpr D.got
  omega
theorem DrawnHouse.okB {h : House} (D : DrawnHouse h) : HouseB 5 h beta17 := by
  obtain ⟨l1, l2⟩ := D.len
  have nm : ∀ t ∈ h.given.map (·.1) ++ h.recs.map (·.1), Nm t := fun t ht => names18_fine.2.1 t (List.mem_of_mem_take (D.nms t ht))
  refine ⟨fun p hp => ?_, fun p hp => ?_, fun c d hcd => beta17_mono hcd, by decide, fun p hp => ?_⟩
  · have hh := D.rcp p hp
    refine ⟨nm _ (List.mem_append_right _ (List.mem_map.mpr ⟨p, hp, rfl⟩)), good_wn hh.gd, hh.dp, fun c _ => ?_⟩
    obtain ⟨s1, s2⟩ := beta17_step c
    rw [s1]
    exact hh.bt _ s2
  · refine ⟨nm _ (List.mem_append_left _ (List.mem_map.mpr ⟨p, hp, rfl⟩)), Nat.lt_of_le_of_lt (D.gvn p hp) ?_⟩
    show 10 ^ 12 < 2 ^ beta17 0
    decide
  · have := beta17_mono l2
    have e : beta17 13 = 434164 := by decide
    have := (D.rcp p hp).bt _ (beta17_step h.recs.length).2
    omega
theorem DrawnHouse.ok {h : House} (D : DrawnHouse h) : HouseOk 5 h beta17 := D.okB.ok
def spHouseF (K : PySem.W.Frag) : Sp := fun vs H Q _ => ∃ (a : Addr) (ns : List Int) (first : Int), vs = [.ref a, .int first] ∧ SqL K H a (ns.map V.int) ∧ ns.length ≤ 63 ∧ 0 ≤ first ∧ first ≤ 900 ∧
  ∀ (U G R : Addr) (h : House) (kvs : List (Key × V)) (H' : Hp), Same H H' → H U = none → H G = none → H R = none → H' U = some (.tup [.ref G, .ref R]) → H' G = some (.dK (numsK h.given)) → H' R = some (.dK kvs) → KvR (Rec H') h.recs kvs → DrawnHouse h → Q (.ref U) H'
section
variable {P : Program} {w : World} {K : PySem.W.Frag} {mg : Str → Option Value} {base : Heap}
abbrev s__law_house : Stmt := topS 18
abbrev N__law_house : List Str := ["script", "first", "shape", "many", "given", "recipes", "names", "k", "name", "state", "some", "cooked", "j", "at"]
theorem sc__law_house : FnScope N__law_house ["script", "first"] (defScope s__law_house) := ⟨rfl, rfl, rfl, by decide +kernel, rfl, by decide +kernel, by decide +kernel⟩

theorem ok__law_houseF (T : Txt K mg) (D : IsDef K mg "_law_house" s__law_house ["script", "first"]) (C_cell : Cal P w K mg base CX0 1 "_law_cell" ["script", "k"] (spCellF K)) (C_state : Cal P w K mg base CX0 2 "_law_state" ["script", "k"] (spStateF K)) (C_take : Cal P w K mg base CX0 1 "_law_take" ["state", "many"] spTakeP)
    (C_num : Cal P w K mg base CX0 2 "_law_number" ["state"] spNumF) (C_rcp : Cal P w K mg base CX0 7 "_law_recipe" ["state", "some", "deep"] (spRcpN 3)) (C_nms : Cal P w K mg base CX0 1 "_law_names" [] spNamesF) : Cal P w K mg base CX0 8 "_law_house" ["script", "first"] (spHouseF K) := by
  have C__law_cell := C_cell.mono (show 1 ≤ 7 by omega)
  have C__law_state := C_state.mono (show 2 ≤ 7 by omega)
  have C__law_take := C_take.mono (show 1 ≤ 7 by omega)
  have C__law_number := C_num.mono (show 2 ≤ 7 by omega)
  have C__law_recipe := C_rcp
  have C__law_names := C_nms.mono (show 1 ≤ 7 by omega)
  refine D.cal sc__law_house (fun vs H Q E h => ?_) (fun f cdv A outer s H vs Q E hr h => ?_)
  · obtain ⟨a, ns, first, rfl, _⟩ := h
    rfl
  obtain ⟨a, ns, first, rfl, hS, h63, fi0, fi1, q⟩ := h
  have hu : (cxOf CX0 P w K mg base N__law_house "_law_house" (defScope s__law_house) f cdv A outer s H E).nox.A.units + 1 < cLine := Nat.lt_of_le_of_lt (Nat.add_le_add_left (by decide : 1 ≤ 64) _) hr.units
  refine ⟨_, (pss_cons (ps_set (i := 2) sc__law_house.nd rfl (Or.inl rfl) (pe_op op_fdivW (pe_cal C__law_cell (hr.mono (by first | decide | omega)) pass0 (pa_cons (pv 0) (pa_cons pe_int pa_nil))) pe_int))
      (pss_cons (ps_set (i := 3) sc__law_house.nd rfl (Or.inl rfl) (pe_op op_add pe_int (pe_op op_mod (pv 2) pe_int)))
      (pss_cons (ps_set (i := 4) sc__law_house.nd rfl (Or.inl rfl) pe_dnewK)
      (pss_cons (ps_set (i := 5) sc__law_house.nd rfl (Or.inl rfl) pe_dnewK)
      (pss_cons (ps_set (i := 6) sc__law_house.nd rfl (Or.inl rfl) (pe_slice (r := rSlL K) sl_list (pe_cal0 C__law_names (hr.mono (by first | decide | omega)) pass0) po_none (po_some (pv 3))))
      (pss_cons (ps_for PassesOwn.never rfl (pi_enum (by rfl) T.b_enumerate (pa_cons (pv 6) pa_nil)) (pg_tup rfl (pgs_cons (pg_name (i := 7) sc__law_house.nd rfl (Or.inl rfl)) (pgs_cons (pg_name (i := 8) sc__law_house.nd rfl (Or.inl rfl)) pgs_nil)))
        (pss_cons (ps_set (i := 9) sc__law_house.nd rfl (Or.inl rfl) (pe_cal C__law_state (hr.mono (by first | decide | omega)) pass0 (pa_cons (pv 0) (pa_cons (pe_op op_add (pv 1) (pv 7)) pa_nil))))
      (pss_one (ps_if (PW.pt (pw_or (pt_cmpR op_eq (pe_cal C__law_take (hr.mono (by first | decide | omega)) pass0 (pa_cons (pv 9) (pa_cons pe_int pa_nil))) pe_int (nomark _)) (pw_or1 (pt_cmpR op_eq (pv 7) pe_int (nomark _)))))
        (pss_one (ps_dput hu (pv 4) (pv 8) (pe_cal C__law_number (hr.mono (by first | decide | omega)) pass0 (pa_cons (pv 9) pa_nil)) rfl))
        (pss_cons (ps_set (i := 10) sc__law_house.nd rfl (Or.inl rfl) (pe_ix (r := rIxL K) ix_list (pe_lst (pa_cons (pe_slice (r := rSlL K) sl_list (pv 6) po_none (po_some (pv 7))) (pa_cons (pe_slice (r := rSlL K) sl_list (pv 6) po_none (po_some (pv 7))) (pa_cons (pe_slice (r := rSlL K) sl_list (pv 6) po_none (po_some (pv 7))) (pa_cons (pe_op op_cat (pv 6) (pe_lst (pa_cons pe_str pa_nil))) pa_nil))))) (pe_op op_mod (pe_op op_fdivW (pv 2) pe_int) pe_int) (fun _ _ => rfl)))
      (pss_cons (ps_dput hu (pv 5) (pv 8) (pe_cal C__law_recipe (hr.mono (by first | decide | omega)) pass0 (pa_cons (pv 9) (pa_cons (pv 10) (pa_cons (pe_op op_add pe_int (pe_cal C__law_take (hr.mono (by first | decide | omega)) pass0 (pa_cons (pv 9) (pa_cons pe_int pa_nil)))) pa_nil)))) rfl)
      (pss_one (ps_if (pt_cmpR op_eq (pv 7) (pe_op op_add pe_int (pe_op op_mod (pe_op op_fdivW (pv 2) pe_int) (pv 3))) (nomark _))
        (pss_one (ps_dput hu (pv 5) (pv 8) (pe_tup (pa_cons pe_str (pa_cons (pe_tup (pa_cons pe_str (pa_cons (pe_ix (r := rIxL K) ix_list (pv 10) (pe_cal C__law_take (hr.mono (by first | decide | omega)) pass0 (pa_cons (pv 9) (pa_cons (pe_callB call_len_seq (by rfl) T.b_len PySem.boot_len (pa_cons (pv 10) pa_nil)) pa_nil))) (fun _ _ => rfl)) pa_nil))) (pa_cons (pe_dget hu (pv 5) (pv 8) (fun _ _ => rfl)) pa_nil)))) rfl))
        pss_nil))))))))
      (pss_cons (ps_set (i := 11) sc__law_house.nd rfl (Or.inl rfl) (pe_callTy (call_listD rfl) (by rfl) T.b_list (by decide +kernel) (pa_cons (pv 5) pa_nil)))
      (pss_cons (ps_for PassesOwn.never rfl (pi_range1 rfl T.b_range (pa_cons (pe_callB (call_min2 rfl) (by rfl) T.b_min (by decide +kernel) (pa_cons (pe_op op_mod (pe_op op_fdivW (pv 2) pe_int) pe_int) (pa_cons (pe_op op_sub (pe_callB call_len_seq (by rfl) T.b_len PySem.boot_len (pa_cons (pv 11) pa_nil)) pe_int) pa_nil))) pa_nil)) (pg_name (i := 12) sc__law_house.nd rfl (Or.inl rfl))
        (pss_cons (ps_set (i := 13) sc__law_house.nd rfl (Or.inl rfl) (pe_op op_sub (pe_op op_sub (pe_callB call_len_seq (by rfl) T.b_len PySem.boot_len (pa_cons (pv 11) pa_nil)) pe_int) (pv 12)))
      (pss_one (ps_dput hu (pv 5) (pe_ix (r := rIxL K) ix_list (pv 11) (pv 13) (fun _ _ => rfl)) (pe_dget hu (pv 5) (pe_ix (r := rIxL K) ix_list (pv 11) (pe_op op_mod (pe_op op_add (pe_op op_fdivW (pv 2) pe_int) (pe_op op_mul pe_int (pv 12))) (pv 13)) (fun _ _ => rfl)) (fun _ _ => rfl)) rfl))))
      (pss_one (ps_ret (pe_tup (pa_cons (pv 4) (pa_cons (pv 5) pa_nil))))))))))))), ?_⟩
  refine ⟨_, rfl, a, ns, 0, rfl, hS, h63, Int.le_refl 0, by decide, fun cell => ?_⟩
  refine ⟨_, _, rfl, rfl, ⟨by decide, by decide +kernel⟩, ?_⟩
  have mn0 : 0 ≤ (cell / 2) % 13 := Int.emod_nonneg _ (by decide)
  have mn1 : (cell / 2) % 13 < 13 := Int.emod_lt_of_pos _ (by decide)
  refine ⟨_, rfl, _, _, rfl, rfl, (by show (0 : Int) < 13; decide), _, _, rfl, rfl, ?_⟩
  obtain ⟨many, hmany, m2, m14⟩ : ∃ many : Nat, 2 + (cell / 2) % 13 = (many : Int) ∧ 2 ≤ many ∧ many ≤ 14 := ⟨(2 + (cell / 2) % 13).toNat, by omega, by omega, by omega⟩
  refine fun G nG => ?_
  have s1 := same_new nG (.dK [])
  have eG : upd H G (.dK []) G = some (.dK []) := upd_same
  generalize upd H G (.dK []) = H1 at s1 eG ⊢
  refine fun R nR => ?_
  have s2 := same_new nR (.dK [])
  have eR : upd H1 R (.dK []) R = some (.dK []) := upd_same
  generalize upd H1 R (.dK []) = H2 at s2 eR ⊢
  have nRH : H R = none := s1.free nR
  have nGR : G ≠ R := ne_of_none eG nR
  refine ⟨rfl, fun L0 H3 s3 nL0 e3 => ?_⟩
  refine ⟨_, rfl, _, rfl, L0, _, rfl, SqL.of e3, fun L nL => ?_⟩
  rw [hmany, cut_to, show (txs names18).take many = txs (names18.take many) by unfold txs; rw [List.map_take, List.map_take]]
  obtain ⟨nms, hnms⟩ : ∃ nms, nms = names18.take many := ⟨_, rfl⟩
  rw [← hnms]
  have nl : nms.length = many := by rw [hnms, List.length_take, names18_fine.2.2]; omega
  have nnd : nms.Nodup := by rw [hnms]; exact names18_fine.1.sublist (List.take_sublist _ _)
  have nNm : ∀ t ∈ nms, Nm t ∧ Own18 t := fun t ht => ⟨names18_fine.2.1 t (List.mem_of_mem_take (hnms ▸ ht)), names18_own t (List.mem_of_mem_take (hnms ▸ ht))⟩
  have n14 : ∀ t ∈ nms, t ∈ names18.take 14 := fun t ht => by
    rw [hnms] at ht
    have : names18.take many = (names18.take 14).take many := by rw [List.take_take, Nat.min_eq_left m14]
    rw [this] at ht
    exact List.mem_of_mem_take ht
  have s4 := same_new nL (.lst (txs nms))
  have eL : upd H3 L (.lst (txs nms)) L = some (.lst (txs nms)) := upd_same
  have eG4 : upd H3 L (.lst (txs nms)) G = some (.dK []) := s4 _ _ (s3 _ _ (s2 _ _ eG))
  have eR4 : upd H3 L (.lst (txs nms)) R = some (.dK []) := s4 _ _ (s3 _ _ eR)
  have sH : Same H (upd H3 L (.lst (txs nms))) := s1.trans (s2.trans (s3.trans s4))
  generalize upd H3 L (.lst (txs nms)) = HB at s4 eL eG4 eR4 sH ⊢
  have nLG : L ≠ G := fun z => by rw [z, eG4] at eL; cases eL
  have nLR : L ≠ R := fun z => by rw [z, eR4] at eL; cases eL
  refine ⟨_, rfl, L, _, rfl, SqL.of eL, for_it walk_enum (fun j σ X => ∃ (w7 w8 w9 w10 : Option V) (gv : List Pr) (rc : List RcpNm) (kvs : List (Key × V)), σ = [some (.ref a), some (.int first), some (.int (cell / 2)), some (.int (2 + (cell / 2) % 13)), some (.ref G), some (.ref R), some (.ref L), w7, w8, w9, w10, none, none, none] ∧
    (∀ b u, b ≠ G → b ≠ R → HB b = some u → X b = some u) ∧ (∀ b, X b = none → HB b = none) ∧ X G = some (.dK (numsK gv)) ∧ X R = some (.dK kvs) ∧ KvR (Rec X) rc kvs ∧ (∀ p ∈ rc, Held p.2) ∧ (∀ p ∈ gv, p.2.natAbs ≤ 10 ^ 12) ∧ (gv.map (·.1) ++ rc.map (·.1)).Perm (nms.take j) ∧ (0 < j → gv ≠ []))
    ⟨none, none, none, none, [], [], [], rfl, fun _ _ _ _ e => e, fun _ e => e, eG4, eR4, trivial, (fun _ h => nomatch h), (fun _ h => nomatch h), by rw [List.take_zero]; exact List.Perm.refl _, fun z => absurd z (Nat.lt_irrefl _)⟩ (fun j σ X _ ⟨_, _, _, _, _, _, _, _, f, _⟩ => SqL.of (f L _ nLG nLR eL)) ?_ ?_⟩
  · rintro j x σ X0 X1 hj ⟨w7, w8, w9, w10, gv, rc, kvs, rfl, fX, zX, eGX, eRX, hK, hrc, hgv, hperm, hne⟩ ⟨Tp, x, y, rfl, nT, rfl, hx, hy⟩
    cases hx
    rw [txs_len, nl] at hj
    have hj' : j < nms.length := by omega
    have hy : (txs nms)[j]? = some y := hy
    rw [txs_get hj'] at hy
    cases hy
    have u1 := same_new nT (.tup [.int ((j : Nat) : Int), .str (SX.S nms[j])])
    have eT : upd X0 Tp (.tup [.int ((j : Nat) : Int), .str (SX.S nms[j])]) Tp = some (.tup [.int ((j : Nat) : Int), .str (SX.S nms[j])]) := upd_same
    generalize upd X0 Tp (.tup [.int ((j : Nat) : Int), .str (SX.S nms[j])]) = X1 at u1 eT ⊢
    refine ⟨Tp, _, rfl, SqT.of eT, rfl, _, _, rfl, _, _, rfl, rfl, ?_⟩
    have nGH : H G = none := nG
    have keepH : ∀ b u, H b = some u → X1 b = some u := fun b u e => u1 _ _ (fX b u (fun z => by rw [z, nGH] at e; cases e) (fun z => by rw [z, nRH] at e; cases e) (sH _ _ e))
    refine ⟨_, rfl, _, rfl, _, rfl, _, _, rfl, rfl, a, ns, _, rfl, Same.seq keepH hS, h63, by omega, by omega, fun p r m c np c0 c1 => ?_⟩
    have u2 := same_new np (.dK (pool r m c))
    have hp2 : upd X1 p (.dK (pool r m c)) p = some (.dK (pool r m c)) := upd_same
    generalize upd X1 p (.dK (pool r m c)) = X2 at u2 hp2 ⊢
    have u12 := u1.trans u2
    have eG2 := u12 _ _ eGX
    have eR2 := u12 _ _ eRX
    have eL2 : X2 L = some (.lst (txs nms)) := u12 _ _ (fX L _ nLG nLR eL)
    have npG : G ≠ p := ne_of_none (u1 _ _ eGX) np
    have npR : R ≠ p := ne_of_none (u1 _ _ eRX) np
    have npL : L ≠ p := ne_of_none (u1 _ _ (fX L _ nLG nLR eL)) np
    have npB : HB p = none := zX p (u1.free np)
    refine ⟨_, rfl, p, r, m, c, 4, rfl, hp2, by decide, by decide, c0, by omega, fun X3 kz r3 c3 f3 hp3 d0 d1 kz0 kz4 => ?_⟩
    have g3 := FrP.take hp2 hp3 f3
    have g03 : Same X0 X2 := u12
    have new : ¬ nms[j] ∈ gv.map (·.1) ++ rc.map (·.1) := fun h => by
      have h := hperm.mem_iff.mp h
      obtain ⟨i2, hi2, e⟩ := List.mem_iff_getElem.mp h
      rw [List.getElem_take] at e
      rw [List.length_take] at hi2
      have := (List.getElem_inj nnd).mp e
      omega
    have tk1 : nms.take (j + 1) = nms.take j ++ [nms[j]] := by rw [List.take_add_one, List.getElem?_eq_getElem hj']; rfl
    have glen : gv.length ≤ 14 := by
      have := hperm.length_eq
      rw [List.length_append, List.length_map, List.length_take] at this
      omega
    refine ⟨rfl, _, rfl, ite2 (fun z => ?giv) (fun z => ?nxt)⟩
    case' nxt => refine ⟨_, rfl, rfl, _, rfl, ite2 (fun z2 => ?giv2) (fun z2 => ?rcp)⟩
    case rcp =>
      have hj0 : 0 < j := by
        rcases Nat.eq_zero_or_pos j with h | h
        · exact absurd (decide_eq_true (by rw [h]; rfl)) z2
        · exact h
      have eL3 := g3.1 L _ npL eL2
      have cutJ : cutV (txs nms) none (some ((j : Nat) : Int)) = txs (nms.take j) := by rw [cut_to]; unfold txs; rw [List.map_take, List.map_take]
      refine ⟨_, rfl, _, rfl, _, rfl, L, _, rfl, SqL.of eL3, fun A1 nA1 => ?_⟩
      rw [cutJ]
      have q1 := same_new nA1 (.lst (txs (nms.take j)))
      have eA1 : upd X3 A1 (.lst (txs (nms.take j))) A1 = some (.lst (txs (nms.take j))) := upd_same
      generalize upd X3 A1 (.lst (txs (nms.take j))) = Y1 at q1 eA1 ⊢
      refine ⟨_, rfl, _, rfl, _, rfl, L, _, rfl, SqL.of (q1 _ _ eL3), fun A2 nA2 => ?_⟩
      rw [cutJ]
      have q2 := same_new nA2 (.lst (txs (nms.take j)))
      have eA2 : upd Y1 A2 (.lst (txs (nms.take j))) A2 = some (.lst (txs (nms.take j))) := upd_same
      generalize upd Y1 A2 (.lst (txs (nms.take j))) = Y2 at q2 eA2 ⊢
      have q12 := q1.trans q2
      refine ⟨_, rfl, _, rfl, _, rfl, L, _, rfl, SqL.of (q12 _ _ eL3), fun A3 nA3 => ?_⟩
      rw [cutJ]
      have q3 := same_new nA3 (.lst (txs (nms.take j)))
      have eA3 : upd Y2 A3 (.lst (txs (nms.take j))) A3 = some (.lst (txs (nms.take j))) := upd_same
      generalize upd Y2 A3 (.lst (txs (nms.take j))) = Y3 at q3 eA3 ⊢
      have q13 := q12.trans q3
      have le : ∀ n : Nat, n ≤ 100 → n ≤ sizeLine := fun n h => le_line (Nat.le_trans h (by decide))
      have kNo : ("nowhere" : Str) = SX.S [110, 111, 119, 104, 101, 114, 101] := by decide +kernel
      refine ⟨_, rfl, le 1 (by decide), fun A4 nA4 => ?_⟩
      have q4 := same_new nA4 (.lst [.str "nowhere"])
      have eA4 : upd Y3 A4 (.lst [.str "nowhere"]) A4 = some (.lst (txs [[110, 111, 119, 104, 101, 114, 101]])) := by rw [upd_same, kNo]; rfl
      generalize upd Y3 A4 (.lst [.str "nowhere"]) = Y4 at q4 eA4 ⊢
      refine ⟨L, A4, _, _, rfl, rfl, q4 _ _ (q13 _ _ eL3), eA4, le _ (by rw [txs_len, nl]; show many + 1 ≤ 100; omega), fun A5 nA5 => ?_⟩
      have q5 := same_new nA5 (.lst (txs nms ++ txs [[110, 111, 119, 104, 101, 114, 101]]))
      have eA5 : upd Y4 A5 (.lst (txs nms ++ txs [[110, 111, 119, 104, 101, 114, 101]])) A5 = some (.lst (txs (nms ++ [[110, 111, 119, 104, 101, 114, 101]]))) := by rw [upd_same, txs_app]
      generalize upd Y4 A5 (.lst (txs nms ++ txs [[110, 111, 119, 104, 101, 114, 101]])) = Y5 at q5 eA5 ⊢
      refine ⟨le 4 (by decide), fun A6 nA6 => ?_⟩
      have q6 := same_new nA6 (.lst [.ref A1, .ref A2, .ref A3, .ref A5])
      have eA6 : upd Y5 A6 (.lst [.ref A1, .ref A2, .ref A3, .ref A5]) A6 = some (.lst [.ref A1, .ref A2, .ref A3, .ref A5]) := upd_same
      generalize upd Y5 A6 (.lst [.ref A1, .ref A2, .ref A3, .ref A5]) = Y6 at q6 eA6 ⊢
      have q46 : Same Y3 Y6 := q4.trans (q5.trans q6)
      have w0 : 0 ≤ cell / 2 / 13 % 4 := Int.emod_nonneg _ (by decide)
      have w4 : cell / 2 / 13 % 4 < 4 := Int.emod_lt_of_pos _ (by decide)
      obtain ⟨As, sm, eAs, hAs, sl1, sl2, sNm⟩ : ∃ (As : Addr) (sm : List (List Nat)), atI [V.ref A1, V.ref A2, V.ref A3, V.ref A5] (cell / 2 / 13 % 4) = some (.ref As) ∧ Y6 As = some (.lst (txs sm)) ∧ 0 < sm.length ∧ sm.length ≤ 20 ∧ ∀ t ∈ sm, Nm t ∧ Own18 t := by
        have t1 : 0 < (nms.take j).length ∧ (nms.take j).length ≤ 20 ∧ ∀ t ∈ nms.take j, Nm t ∧ Own18 t := ⟨by rw [List.length_take]; omega, by rw [List.length_take]; omega, fun t ht => nNm t (List.mem_of_mem_take ht)⟩
        have : cell / 2 / 13 % 4 = 0 ∨ cell / 2 / 13 % 4 = 1 ∨ cell / 2 / 13 % 4 = 2 ∨ cell / 2 / 13 % 4 = 3 := by omega
        rcases this with e | e | e | e <;> rw [e]
        · exact ⟨A1, _, rfl, q46 _ _ (q3 _ _ (q2 _ _ eA1)), t1⟩
        · exact ⟨A2, _, rfl, q46 _ _ (q3 _ _ eA2), t1⟩
        · exact ⟨A3, _, rfl, q46 _ _ eA3, t1⟩
        · refine ⟨A5, _, rfl, q6 _ _ eA5, by rw [List.length_append]; show 0 < nms.length + 1; omega, by rw [List.length_append]; show nms.length + 1 ≤ 20; omega, fun t ht => ?_⟩
          rcases List.mem_append.mp ht with h | h
          · exact nNm t h
          · rw [List.mem_singleton.mp h]
            exact ⟨⟨by decide, by decide, by decide⟩, by unfold Own18; decide⟩
      have q36 := q13.trans q46
      have hp6 := q36 _ _ hp3
      have nAsp : As ≠ p := fun z => by rw [z, hp6] at hAs; cases hAs
      refine ⟨_, rfl, _, _, rfl, rfl, ⟨by decide, by decide +kernel⟩, _, _, rfl, rfl, (by show (0 : Int) < 4; decide), A6, _, _, _, rfl, rfl, SqL.of eA6, eAs, ?_⟩
      refine ⟨_, rfl, _, rfl, _, rfl, p, r3, m, c3, 3, rfl, hp6, by decide, by decide, d0, by omega, fun X4 kd r4 c4 f4 hp4 e0 e1 kd0 kd3 => ?_⟩
      have g4 := FrP.take hp6 hp4 f4
      obtain ⟨dn, hdn, dn3⟩ : ∃ dn : Nat, 1 + kd = (dn : Int) ∧ dn ≤ 3 := ⟨(1 + kd).toNat, by omega, by omega⟩
      refine ⟨_, _, rfl, rfl, dn, dn3, p, As, r4, m, c4, sm, (by show [V.ref p, V.ref As, V.int (1 + kd)] = _; rw [hdn]), hp4, e0, ?_, g4.1 As _ nAsp hAs, sl2, sNm, fun X5 v x r5 c5 f5 hp5 i0 i1 dx rx => ?_⟩
      · have : tk dn ≤ tk 3 := by unfold tk; exact Nat.mul_le_mul_left _ (Nat.pow_le_pow_right (by decide) dn3)
        have h3 : tk 3 = 1280 := by decide
        omega

      have g5 := g4.trans f5
      have g25 : FrP p X2 X5 := g3.trans ((FrP.of q36).trans g5)
      have eR5 := g25.1 R _ npR eR2
      have eG5 := g25.1 G _ npG eG2
      have hAs5 := g5.1 As _ nAsp hAs
      have klen : kvs.length ≤ 14 := by
        rw [hK.len]
        have := hperm.length_eq
        rw [List.length_append, List.length_map, List.length_map, List.length_take] at this
        omega
      have kR5 : ∀ {o : HO}, Keep X5 (upd X5 R o) := fun b xs e => by rw [upd_ne (fun z => by rw [z, eR5] at e; cases e)]; exact e
      have K5 : ∀ {o : HO}, KvR (Rec (upd X5 R o)) rc kvs := hK.imp fun r x q => ((q.same u12).keep (g25.keep hp2)).keep kR5
      refine ⟨_, rfl, _, rfl, R, _, rfl, DPut.k (k := kT (SX.S nms[j])) eR5 (lt_line (by omega)), ?_⟩
      obtain ⟨kv1, ekv1⟩ : ∃ kv1, kv1 = putK kvs (kT (SX.S nms[j])) v := ⟨_, rfl⟩
      rw [← ekv1]
      have newR : ¬ nms[j] ∈ rc.map (·.1) := fun h => new (List.mem_append_right _ h)
      have K6 : KvR (Rec (upd X5 R (.dK kv1))) (rc ++ [(nms[j], x)]) kv1 := by
        have := KvR.put (t := nms[j]) (rx.keep (kR5 (o := .dK kv1))) (K5 (o := .dK kv1))
        rw [← ekv1, putA_new _ newR] at this
        exact this
      have fin : ∀ b u, b ≠ G → b ≠ R → HB b = some u → upd X5 R (.dK kv1) b = some u := fun b u n1 n2 e => by
        rw [upd_ne n2]
        exact g25.1 b u (fun z => by rw [z, npB] at e; cases e) (u12 _ _ (fX b u n1 n2 e))
      have finN : ∀ b, upd X5 R (.dK kv1) b = none → HB b = none := fun b e => by
        unfold L2.upd at e
        split at e
        · cases e
        · exact zX b (u12.free (g25.2 b e))
      have hp6' : upd X5 R (.dK kv1) p = some (.dK (pool r5 m c5)) := by rw [upd_ne npR.symm]; exact hp5
      have eG6 : upd X5 R (.dK kv1) G = some (.dK (numsK gv)) := by rw [upd_ne nGR]; exact eG5
      have eR6 : upd X5 R (.dK kv1) R = some (.dK kv1) := upd_same
      have nAsR : As ≠ R := fun z => by rw [z, eR5] at hAs5; cases hAs5
      have hAs6 : upd X5 R (.dK kv1) As = some (.lst (txs sm)) := by rw [upd_ne nAsR]; exact hAs5
      have hneg : gv ≠ [] := hne hj0
      have permR : ∀ y : Rcp, (gv.map (·.1) ++ (rc ++ [(nms[j], y)]).map (·.1)).Perm (nms.take (j + 1)) := fun y => by
        rw [tk1, List.map_append, ← List.append_assoc]
        exact hperm.append_right _
      have rx6 : Rec (upd X5 R (.dK kv1)) x v := rx.keep kR5
      generalize upd X5 R (.dK kv1) = X6 at K6 fin finN hp6' eG6 eR6 hAs6 rx6 ⊢
      have m0 : (0 : Int) < 2 + cell / 2 % 13 := by omega
      refine ⟨_, rfl, _, rfl, _, _, rfl, rfl, ⟨by decide, by decide +kernel⟩, _, rfl, _, _, rfl, rfl, m0, _, _, rfl, rfl, rfl, _, rfl, ite2 (fun z5 => ?_) (fun z5 => ?_)⟩
      · have tk3 : tk dn ≤ 1280 := by
          have : tk dn ≤ tk 3 := by unfold tk; exact Nat.mul_le_mul_left _ (Nat.pow_le_pow_right (by decide) dn3)
          have h3 : tk 3 = 1280 := by decide
          omega
        refine ⟨_, rfl, _, rfl, _, rfl, As, _, rfl, .inl (SqL.of hAs6), p, r5, m, c5, _, rfl, hp6', by rw [txs_len]; omega, ?_, i0, by omega, fun X7 kx r7 c7 f7 hp7 o0 o1 kx0 kx1 => ?_⟩
        · rw [txs_len]
          have : (2 : Nat) ^ 200 > 4000 := by decide
          omega
        rw [txs_len] at kx1
        have hkx : kx.toNat < sm.length := by omega
        have g7 := FrP.take hp6' hp7 f7
        refine ⟨As, _, kx, .str (SX.S sm[kx.toNat]), rfl, rfl, SqL.of (g7.1 As _ nAsp hAs6), atI_at kx0 (txs_get hkx), le 2 (by decide), fun t1 n1 => ?_⟩
        have y1 := same_new n1 (.tup [.str "read", .str (SX.S sm[kx.toNat])])
        have e1' : upd X7 t1 (.tup [.str "read", .str (SX.S sm[kx.toNat])]) t1 = some (.tup [.str "read", .str (SX.S sm[kx.toNat])]) := upd_same
        generalize upd X7 t1 (.tup [.str "read", .str (SX.S sm[kx.toNat])]) = X8 at y1 e1' ⊢
        have g78 := g7.trans (FrP.of y1)
        have eR8 := g78.1 R _ npR eR6
        have vv : valV kv1 (kT (SX.S nms[j])) = some v := by rw [ekv1, valV_put, if_pos rfl]
        refine ⟨_, rfl, _, rfl, R, v, rfl, vv ▸ DGet.k (k := kT (SX.S nms[j])) eR8, le 3 (by decide), fun t2 n2 => ?_⟩
        have y2 := same_new n2 (.tup [.str "times", .ref t1, v])
        have e2' : upd X8 t2 (.tup [.str "times", .ref t1, v]) t2 = some (.tup [.str "times", .ref t1, v]) := upd_same
        generalize upd X8 t2 (.tup [.str "times", .ref t1, v]) = X9 at y2 e2' ⊢
        have g69 : FrP p X6 X9 := g78.trans (FrP.of y2)
        have k69 := g69.keep hp6'
        have eR9 := g69.1 R _ npR eR6
        have eG9 := g69.1 G _ npG eG6
        have kR9 : ∀ {o : HO}, Keep X9 (upd X9 R o) := fun b xs e => by rw [upd_ne (fun z => by rw [z, eR9] at e; cases e)]; exact e
        have r9 : Rec X9 (.two .times (.read sm[kx.toNat]) x) (.ref t2) := ⟨t2, .ref t1, v, rfl, e2', ⟨t1, rfl, y2 _ _ e1'⟩, rx6.keep k69⟩
        have kl1 : kv1.length ≤ 20 := by
          rw [K6.len, List.length_append, ← hK.len]
          show kvs.length + 1 ≤ 20
          omega
        refine ⟨_, rfl, _, rfl, R, _, rfl, DPut.k (k := kT (SX.S nms[j])) eR9 (lt_line (by omega)), ?_⟩
        refine ⟨_, _, _, _, gv, rc ++ [(nms[j], .two .times (.read sm[kx.toNat]) x)], _, rfl, fun b u n1 n2 e => ?_, fun b e => ?_, by rw [upd_ne nGR]; exact eG9, upd_same, ?_, fun q hq => ?_, hgv, permR _, fun _ => hneg⟩
        · rw [upd_ne n2]
          exact g69.1 b u (fun z => by rw [z, npB] at e; cases e) (fin b u n1 n2 e)
        · unfold L2.upd at e
          split at e
          · cases e
          · exact finN b (g69.2 b e)
        · have := KvR.put (t := nms[j]) (r9.keep (kR9 (o := .dK (putK kv1 (kT (SX.S nms[j])) (.ref t2))))) (K6.imp fun r x q => (q.keep k69).keep (kR9 (o := .dK (putK kv1 (kT (SX.S nms[j])) (.ref t2)))))
          rw [putA_last newR] at this
          exact this
        · rcases List.mem_append.mp hq with h | h
          · exact hrc q h
          · rw [List.mem_singleton.mp h]; exact dx.held2 dn3 (sNm _ (List.getElem_mem hkx))
      · refine ⟨_, _, _, _, gv, rc ++ [(nms[j], x)], kv1, rfl, fin, finN, eG6, eR6, K6, fun q hq => ?_, hgv, permR x, fun _ => hneg⟩
        rcases List.mem_append.mp hq with h | h
        · exact hrc q h
        · rw [List.mem_singleton.mp h]; exact dx.held dn3
    all_goals
      refine ⟨_, rfl, p, r3, m, c3, rfl, hp3, d0, by omega, fun X4 v r4 c4 f4 hp4 e0 e1 hv => ?_⟩
      have g4 := g3.trans f4
      have eG4' := g4.1 G _ npG eG2
      have kR4 : Keep X0 (upd X4 G (.dK (numsK (putA gv nms[j] v)))) := fun b xs e => by
        rw [upd_ne (fun z => by rw [z, eGX] at e; cases e)]
        exact g4.keep hp2 b xs (u12 _ _ e)
      refine ⟨_, rfl, _, rfl, G, _, rfl, DPut.k (k := kT (SX.S nms[j])) eG4' (by show (numsK gv).length < sizeLine; unfold numsK; rw [List.length_map]; exact lt_line (by omega)), ?_⟩
      rw [nums_putA]
      refine ⟨_, _, _, _, putA gv nms[j] v, rc, kvs, rfl, fun b u n1 n2 e => ?_, fun b e => ?_, upd_same, ?_, hK.imp fun r x q => q.keep kR4, hrc, fun q hq => ?_, ?_, fun _ => ?_⟩
      · rw [upd_ne n1]
        exact g4.1 b u (fun z => by rw [z, npB] at e; cases e) (u12 _ _ (fX b u n1 n2 e))
      · unfold L2.upd at e
        split at e
        · cases e
        · exact zX b (u12.free (g4.2 b e))
      · rw [upd_ne nGR.symm]; exact g4.1 R _ npR eR2
      · rw [putA_new _ (fun h => new (List.mem_append_left _ h))] at hq
        rcases List.mem_append.mp hq with h | h
        · exact hgv q h
        · rw [List.mem_singleton.mp h]; exact hv
      · rw [putA_new _ (fun h => new (List.mem_append_left _ h)), tk1, List.map_append, List.append_assoc]
        refine (List.Perm.append_left _ List.perm_append_comm).trans ?_
        rw [← List.append_assoc]
        exact hperm.append_right _
      · rw [putA_new _ (fun h => new (List.mem_append_left _ h))]
        simp
  · rintro σ X ⟨w7, w8, w9, w10, gv, rc, kvs, rfl, fX, zX, eGX, eRX, hK, hrc, hgv, hperm, hne⟩
    rw [txs_len, List.take_length] at hperm
    have gne : gv ≠ [] := hne (by rw [txs_len, nl]; omega)
    refine ⟨_, rfl, R, kvs, rfl, Rd.of eRX, fun CK nCK => ?_⟩
    rw [kvR_keys hK]
    obtain ⟨ks, eks⟩ : ∃ ks, ks = rc.map (·.1) := ⟨_, rfl⟩
    rw [← eks]
    have v1 := same_new nCK (.lst (txs ks))
    have eCK : upd X CK (.lst (txs ks)) CK = some (.lst (txs ks)) := upd_same
    generalize upd X CK (.lst (txs ks)) = Y at v1 eCK ⊢
    have eRY := v1 _ _ eRX
    have nCR : CK ≠ R := fun z => by rw [z, eRY] at eCK; cases eCK
    have x0 : 0 ≤ cell / 2 / 700 % 4 := Int.emod_nonneg _ (by decide)
    have x4 : cell / 2 / 700 % 4 < 4 := Int.emod_lt_of_pos _ (by decide)
    have le : ∀ n : Nat, n ≤ 100 → n ≤ sizeLine := fun n h => le_line (Nat.le_trans h (by decide))
    have kl : ks.length ≤ 14 := by
      have := hperm.length_eq
      rw [List.length_append, List.length_map, ← eks, nl] at this
      omega
    obtain ⟨cnt, hcnt, c62, cM, cB⟩ : ∃ cnt : Int, cnt = (if ((txs ks).length : Int) - 1 < cell / 2 / 700 % 4 then ((txs ks).length : Int) - 1 else cell / 2 / 700 % 4) ∧ -(2 ^ 62) ≤ cnt ∧ cnt < 2 ^ 62 ∧ cnt ≤ (ks.length : Int) - 1 := ⟨_, rfl, by
      rw [txs_len]
      split <;> omega, by
      rw [txs_len]
      split <;> omega, by
      rw [txs_len]
      split <;> omega⟩
    refine ⟨_, rfl, _, _, rfl, rfl, ⟨by decide, by decide +kernel⟩, _, _, rfl, rfl, (by show (0 : Int) < 4; decide), _, rfl, CK, _, rfl, .inl (SqL.of eCK), _, _, rfl, rfl, _, _, rfl, cnt, by rw [hcnt], c62, cM, ?_⟩
    refine for_range (lo := 0) (n := cnt.toNat) (fun i σ Z => ∃ (w12 w13 : Option V) (rc' : List RcpNm) (kvs' : List (Key × V)), σ = [some (.ref a), some (.int first), some (.int (cell / 2)), some (.int (2 + (cell / 2) % 13)), some (.ref G), some (.ref R), some (.ref L), w7, w8, w9, w10, some (.ref CK), w12, w13] ∧
      (∀ b u, b ≠ R → Y b = some u → Z b = some u) ∧ (∀ b, Z b = none → Y b = none) ∧ Z R = some (.dK kvs') ∧ KvR (Rec Z) rc' kvs' ∧ (∀ p ∈ rc', Held p.2) ∧ rc'.map (·.1) = ks)
      ⟨none, none, rc, kvs, rfl, fun _ _ _ e => e, fun _ e => e, eRY, hK.imp fun r x q => q.same v1, hrc, eks.symm⟩ ?_ ?_
    · rintro i σ Z hi ⟨w12, w13, rc', kvs', rfl, fZ, zZ, eRZ, hKZ, hrcZ, hkZ⟩
      have hi1 : (i : Int) < (ks.length : Int) - 1 := by omega
      have eCZ := fZ _ _ nCR eCK
      refine ⟨_, rfl, CK, _, rfl, .inl (SqL.of eCZ), _, _, rfl, rfl, _, rfl, _, _, rfl, rfl, ?_⟩
      rw [txs_len]
      show gName 13 (V.int ((ks.length : Int) - 1 - (0 + (i : Int)))) _ _ _
      obtain ⟨at', hat, at1, at2⟩ : ∃ at' : Nat, (ks.length : Int) - 1 - (0 + (i : Int)) = (at' : Int) ∧ 0 < at' ∧ at' < ks.length := ⟨ks.length - 1 - i, by omega, by omega, by omega⟩
      rw [hat]
      have ap : (0 : Int) < (at' : Int) := by omega
      have m0 : 0 ≤ (cell / 2 / 2800 + 3 * (0 + (i : Int))) % (at' : Int) := Int.emod_nonneg _ (by omega)
      have m1 : (cell / 2 / 2800 + 3 * (0 + (i : Int))) % (at' : Int) < (at' : Int) := Int.emod_lt_of_pos _ ap
      generalize hmm : (cell / 2 / 2800 + 3 * (0 + (i : Int))) % (at' : Int) = mm at m0 m1
      have hm : mm.toNat < ks.length := by omega
      have hkm : ks[mm.toNat] ∈ rc'.map (·.1) := by rw [hkZ]; exact List.getElem_mem hm
      obtain ⟨x, v, ex, ev, rx⟩ : ∃ x v, getA rc' ks[mm.toNat] = some x ∧ valV kvs' (kT (SX.S ks[mm.toNat])) = some v ∧ Rec Z x v := by
        rcases KvR.get (t := ks[mm.toNat]) hKZ with ⟨e1, _⟩ | h
        · unfold getA at e1
          rw [Option.map_eq_none_iff, List.find?_eq_none] at e1
          obtain ⟨p3, hp3, e3⟩ := List.mem_map.mp hkm
          exact absurd (decide_eq_true e3) (e1 p3 hp3)
        · exact h
      refine ⟨_, rfl, _, rfl, _, rfl, _, _, rfl, rfl, ⟨by decide, by decide +kernel⟩, _, rfl, _, _, rfl, rfl, .inl ⟨by decide, by decide⟩, _, _, rfl, rfl, _, rfl, _, _, rfl, rfl, ap, CK, _, _, .str (SX.S ks[mm.toNat]), rfl, rfl, SqL.of eCZ, by rw [hmm]; exact atI_at m0 (txs_get hm), R, v, rfl, ev ▸ DGet.k (k := kT (SX.S ks[mm.toNat])) eRZ, ?_⟩
      refine ⟨_, rfl, _, rfl, _, rfl, CK, _, _, .str (SX.S ks[at']), rfl, rfl, SqL.of eCZ, atI_nat (txs_get at2), R, _, rfl, DPut.k (k := kT (SX.S ks[at'])) eRZ (lt_line (by
        rw [hKZ.len, ← List.length_map (f := (·.1)), hkZ]
        omega)), ?_⟩
      have kR : ∀ {o : HO}, Keep Z (upd Z R o) := fun b xs e => by rw [upd_ne (fun z => by rw [z, eRZ] at e; cases e)]; exact e
      refine ⟨_, _, putA rc' ks[at'] x, _, rfl, fun b u n e => by rw [upd_ne n]; exact fZ b u n e, fun b e => ?_, upd_same, KvR.put (t := ks[at']) (rx.keep kR) (hKZ.imp fun r x q => q.keep kR), fun q hq => ?_, ?_⟩
      · unfold L2.upd at e
        split at e
        · cases e
        · exact zZ b e
      · rcases mem_putA hq with rfl | hq
        · have := hrcZ _ (rcpOf_mem (s := ks[mm.toNat]) ex)
          exact this
        · exact hrcZ q hq
      · rw [putA_keys, if_pos (by rw [hkZ]; exact List.getElem_mem at2), hkZ]
    · rintro σ Z ⟨w12, w13, rc', kvs', rfl, fZ, zZ, eRZ, hKZ, hrcZ, hkZ⟩
      refine ⟨_, rfl, _, rfl, le 2 (by decide), fun U nU => ?_⟩
      have sU := same_new nU (.tup [.ref G, .ref R])
      have nGH : H G = none := nG
      have sHX : ∀ b u, H b = some u → Z b = some u := fun b u e => fZ b u (fun z => by rw [z, nRH] at e; cases e) (v1 _ _ (fX b u (fun z => by rw [z, nGH] at e; cases e) (fun z => by rw [z, nRH] at e; cases e) (sH _ _ e)))
      have nUH : H U = none := sH.free (zX U (v1.free (zZ U nU)))
      refine q U G R ⟨gv, rc'⟩ kvs' _ (fun b u e => sU _ _ (sHX b u e)) nUH nGH nRH upd_same (sU _ _ (fZ G _ nGR (v1 _ _ eGX))) (sU _ _ eRZ) (hKZ.imp fun r x q => q.same sU) ⟨hrcZ, hgv, fun t ht => ?_, ?_, gne⟩
      · have ht : t ∈ gv.map (·.1) ++ rc'.map (·.1) := ht
        rw [hkZ, eks] at ht
        exact n14 t (hperm.mem_iff.mp ht)
      · show (gv.map (·.1) ++ rc'.map (·.1)).Nodup
        rw [hkZ, eks]
        exact hperm.nodup_iff.mpr nnd
end
end Mad
/-! ### sorted of texts, any number of them: over the library's sort by any order -/
namespace MadSort
open PySem PyProof.Rows Srt SrtO
section
variable {prog : Program} {w : World} {A : Around} {s : Shared}
def tx : Value → List Nat
  | .str x _ => x.cps.toList
  | _ => []
def ltT (v u : Value) : Bool := decide (tx v < tx u)
theorem swoT : Swo ltT := by
  refine ⟨fun x y h => ?_, fun x y z h1 h2 => ?_⟩
  · have a : tx x < tx y := of_decide_eq_true h
    exact decide_eq_false (List.lt_asymm a)
  · have a : ¬ tx y < tx x := of_decide_eq_false h1
    have b : ¬ tx z < tx y := of_decide_eq_false h2
    exact decide_eq_false (List.not_lt.mpr (List.le_trans (List.not_lt.mp a) (List.not_lt.mp b)))
theorem memT : ∀ {vs : List Value} {ss : List Str}, StrsAre vs ss → ∀ v ∈ vs, ∃ x t, v = Value.str x t
  | _, _, .nil, v, h => by cases h
  | _, _, .cons y t r, v, h => by
    rcases List.mem_cons.mp h with e | e
    · exact ⟨y, t, e⟩
    · exact memT r v e
def ofTx (v : Value) : Str := ⟨(tx v).toArray⟩
theorem areT : ∀ {vs : List Value}, (∀ v ∈ vs, ∃ x t, v = Value.str x t) → StrsAre vs (vs.map ofTx)
  | [], _ => .nil
  | v :: vs, h => by
    obtain ⟨x, t, e⟩ := h v (List.mem_cons_self ..)
    subst e
    have ih := areT fun u hu => h u (List.mem_cons_of_mem _ hu)
    have ex : ofTx (Value.str x t) = x := by
      show (⟨x.cps.toList.toArray⟩ : Str) = x
      cases x; simp
    rw [List.map_cons, ex]
    exact .cons x t ih
theorem backT : ∀ {vs : List Value} {ss : List Str}, StrsAre vs ss → vs.map ofTx = ss
  | _, _, .nil => rfl
  | _, _, .cons y t r => by
    have ex : ofTx (Value.str y t) = y := by
      show (⟨y.cps.toList.toArray⟩ : Str) = y
      cases y; simp
    rw [List.map_cons, ex, backT r]
theorem sortableT {a : Addr} {vs : List Value} {ss : List Str} (hS : StrsAre vs ss) (h2 : 2 ≤ vs.length) : SortableO prog w A s a vs ltT := by
  intro h' _
  refine ⟨oneType', fun Q E hq => ?_, fun p q hp hq => ?_⟩
  · cases vs with
    | nil => simp at h2
    | cons v1 r =>
      cases r with
      | nil => simp at h2
      | cons v2 r =>
        rw [keyKind_strs hS]
        exact wpAny_pure hq
  · obtain ⟨x, t, e⟩ := memT hS _ hp
    obtain ⟨y, u, e'⟩ := memT hS _ hq
    show wpAny (model prog w) A (keyLt' oneType' p.1 q.1) (fun r s' => s' = _ ∧ r = ltT p.1 q.1) (fun _ _ => False) _
    rw [e, e', keyLt'_oneType]
    exact oneLt_str ⟨rfl, rfl⟩
theorem outT {vs out : List Value} {ss : List Str} (hS : StrsAre vs ss) (h1 : Srtd ltT out) (h2 : Stb ltT out vs) : StrsAre out (out.map ofTx) ∧ (out.map ofTx).Perm ss ∧ (out.map ofTx).Pairwise (fun x y => ¬ y.cps.toList < x.cps.toList) := by
  refine ⟨areT fun v hv => memT hS v (h2.perm.mem_iff.mp hv), ?_, ?_⟩
  · have z := h2.perm.map ofTx
    rwa [backT hS] at z
  · refine List.pairwise_map.mpr (h1.imp fun {x y} h => ?_)
    have z : ¬ tx y < tx x := of_decide_eq_false h
    show ¬ ((tx y).toArray.toList < (tx x).toArray.toList)
    simpa using z
end
end MadSort
namespace Mad
open PySem PySem.Spec PyProof.Rows L2
/-- texts in order -/
def Rising (ys : List (List Nat)) : Prop := ys.Pairwise fun x y => ¬ y < x
def rSortT (K : PySem.W.Frag) : List V → Hp → VK → Prop := fun vs H Q => ∃ (a : Addr) (ns : List (List Nat)), vs = [V.ref a] ∧ SqL K H a (txs ns) ∧
  ∀ (ys : List (List Nat)) (p : Addr), ys.Perm ns → Rising ys → H p = none → Q (.ref p) (upd H p (.lst (txs ys)))
/-- a dict of names -/
def nmKeys (kvs : List (Key × V)) (ns : List (List Nat)) : Prop := kvs.map (·.1) = ns.map fun s => Sum.inr (SX.S s)
def rSortTD (_ : PySem.W.Frag) : List V → Hp → VK → Prop := fun vs H Q => ∃ (a : Addr) (kvs : List (Key × V)) (ns : List (List Nat)), vs = [V.ref a] ∧ H a = some (.dK kvs) ∧ nmKeys kvs ns ∧
  ∀ (ys : List (List Nat)) (p : Addr), ys.Perm ns → Rising ys → H p = none → Q (.ref p) (upd H p (.lst (txs ys)))
theorem strs_back {ys : List Str} {ns : List (List Nat)} (hp : ys.Perm (ns.map SX.S)) (hs : ys.Pairwise fun x y => ¬ y.cps.toList < x.cps.toList) : ∃ zs : List (List Nat), ys = zs.map SX.S ∧ zs.Perm ns ∧ Rising zs := by
  refine ⟨ys.map (fun y => y.cps.toList), ?_, ?_, ?_⟩
  · rw [List.map_map]
    have : (SX.S ∘ fun y : Str => y.cps.toList) = id := by funext y; exact SX.S_tl y
    rw [this, List.map_id]
  · have z := hp.map (fun y : Str => y.cps.toList)
    rw [List.map_map] at z
    have : ((fun y : Str => y.cps.toList) ∘ SX.S) = id := by funext s; rfl
    rwa [this, List.map_id] at z
  · exact List.pairwise_map.mpr hs
section
variable {X : Cx}
theorem cr_sortT : CallR X (.builtin "sorted") (rSortT X.K) := by
  intro pins s σ H vs us Q I r h
  obtain ⟨a, ns, rfl, hs, q⟩ := h
  obtain ⟨its, rv, hl, hz⟩ := I.list hs
  rw [Vals.ref1 r]
  have hi := Vals.strs (xs := ns.map SX.S) rv
  have hlen0 := rv.length
  refine SrtO.sorted_ord MadSort.swoT hl.isList (by rw [← rv.length]; exact hz) (fun h2 h₁ a' _ _ => MadSort.sortableT hi h2) fun out h1 h2 => ?_
  obtain ⟨k1, k2, k3⟩ := MadSort.outT hi h1 h2
  obtain ⟨ep, he'⟩ := PyProof.Rows.sortedAll_at s.heap its out.toArray
  obtain ⟨zs, ez, zp, zr⟩ := strs_back k2 k3
  rw [ez] at k1
  have hlen : (txs zs).length ≤ sizeLine := by
    rw [txs_len, zp.length_eq]
    rw [txs_len] at hz
    exact hz
  exact ⟨.ref _, upd H (s.heap.objs.size + 1) (.lst (txs zs)), I.laid (t' := s.toks) (fun _ _ => PyProof.Rows.sortedAll_old) (Nat.le_succ _) ⟨hlen, out, ep, vals_of_strs k1, he'⟩, rfl, q zs _ zp zr (I.hok.fresh (Nat.le_succ _))⟩
theorem cr_sortTD (hcalm : X.calm = true) : CallR X (.builtin "sorted") (rSortTD X.K) := by
  intro pins s σ H xs us Q I r h
  obtain ⟨a, kvs, ns, ex, hd0, hk0, q⟩ := h
  subst ex
  obtain ⟨u, eu, rx⟩ := vals1 r
  subst eu
  cases rx
  have hd : Rd H a (.dK kvs) := .inl hd0
  obtain ⟨z, lo, vs, rel, dd⟩ := dk_rd I.hok hd
  obtain ⟨ep, hat⟩ := dd.dictAt
  have hkeys : vs.map (·.1) = (ns.map SX.S).map Sum.inr := by
    rw [rel.keys.symm, hk0, List.map_map]
    rfl
  have hl : vs.length = ns.length := by
    have e := congrArg List.length hkeys
    simpa using e
  have hkl : kvs.length = ns.length := by
    have e := congrArg List.length hk0
    simpa using e
  have h16 : vs.length ≤ sizeLine := by rw [hl, ← hkl]; exact z
  refine Calls.call_function_entry PyProof.Rows.kind_sorted PyProof.Rows.plain_sorted PyProof.Rows.entry_sorted (PyProof.Rows.args_sorted1 _) ?_
  unfold Builtin.«sorted»
  refine wpAny_bind (m := checkCount "sorted" 1 1 _) (wpAny_pure ?_)
  refine wpAny_bind ?_
  refine PySem.W.kdu_collect (A := X.A.in1) (PySem.W.kdl_dict (knd := mixKind X.prog X.w) (kvs := vs) (ep := ep) lo) (I.ok.hd hcalm) hat h16 fun h' tk acc hk hacc => ?_
  have hal : acc.toList.length = (ns.map SX.S).length := by
    rw [Array.length_toList, hacc.1, hl, List.length_map]
  have hS : StrsAre acc.toList (ns.map SX.S) := by
    refine strs_at hal fun j v e => ?_
    obtain ⟨k, x, e1, e2⟩ := hacc.2 j v (by rw [← Array.getElem?_toList]; exact e)
    have e3 : (vs.map (·.1))[j]? = some k := by
      rw [List.getElem?_map, e1]
      rfl
    rw [hkeys, List.getElem?_map] at e3
    cases e4 : (ns.map SX.S)[j]? with
    | none => rw [e4] at e3; cases e3
    | some y =>
      rw [e4] at e3
      have e5 : Sum.inr y = k := Option.some.inj e3
      subst e5
      obtain ⟨t, ev⟩ := Value.isStrOf_shape (x := y) (v := v) e2
      exact ⟨y, t, rfl, ev⟩
  have I1 : Inv X pins σ H { s with heap := h', toks := tk } := I.kept hk
  have hz2 : acc.toList.length ≤ sizeLine := by rw [hal, List.length_map, ← hkl]; exact z
  refine wpAny_bind (wpAny_newList ?_ hz2)
  have hoL : (h'.push (seqObj "list" acc.toList.toArray 0)).get? h'.objs.size = some (seqObj "list" acc.toList.toArray 0) := Heap.get?_push_size _ rfl
  show wpAny _ _ _ _ _ { s with heap := h'.push (seqObj "list" acc.toList.toArray 0), toks := tk }
  refine wpAny_bind (wpAny_holding (wpAny_call_entry PyProof.Rows.slot_list_sort ⟨_, hoL, rfl⟩ PyProof.Rows.entry_list_sort ?_ (PyProof.Rows.args_list_sort _)))
  refine SrtO.list_sort_ord MadSort.swoT hoL hz2 (fun h2 => MadSort.sortableT hS h2) fun out h1 h2 => ⟨_, rfl, ?_⟩
  obtain ⟨k1, k2, k3⟩ := MadSort.outT hS h1 h2
  obtain ⟨zs, ez, zp, zr⟩ := strs_back k2 k3
  rw [ez] at k1
  obtain ⟨e', he'⟩ := PyProof.Rows.sortedHeap_at (vs := acc.toList) (out := out.toArray) hoL
  have hlen : (txs zs).length ≤ sizeLine := by
    rw [txs_len, zp.length_eq, ← hkl]
    exact z
  refine wpAny_pure ⟨_, rfl, .ref h'.objs.size, upd H h'.objs.size (.lst (txs zs)), I1.laid (t' := tk) (fun b u e => ?_) (Nat.le_refl _) ?_, rfl, q zs _ zp zr (I1.hok.fresh (Nat.le_refl _))⟩
  · have hb : b < h'.objs.size := Heap.lt_size e
    rw [PyProof.Rows.sortedHeap_old (Nat.ne_of_lt hb) (by rw [size_push']; exact Nat.lt_succ_of_lt hb)]
    exact Heap.get?_push_of_some _ e
  · exact ⟨hlen, out, e', vals_of_strs k1, he'⟩
end
/-- xs.extend(t), t a tuple -/
def rExtendT : V → List V → Hp → VK → Prop := fun x vs H Q => ∃ l b xs zs, x = .ref l ∧ vs = [.ref b] ∧ H l = some (.lst xs) ∧ H b = some (.tup zs) ∧ xs.length + zs.length ≤ sizeLine ∧ Q .non (upd H l (.lst (xs ++ zs)))
theorem list_extend_by_tuple (l : Addr) (items : Array Value) (n : Nat) (b : Addr) (items2 : Array Value) (n2 : Nat) (dd : Option Addr) (sl : Array (Option Value))
    (hs0 : ¬(!items.isEmpty && Builtin.List.listTooLong (items.size + items2.size)) = true)
    (hs1 : items.size ≤ sizeLine)
    (hs2 : items.size + items2.size ≤ sizeLine + 1) :
    Meets (Builtin.«list.extend» ⟨[.ref l, .ref b], []⟩) (fun _ R s =>
      s.heap.get? l = some { cls := .type "list", dict := none, data := .seq items n, slots := #[] } ∧
      s.heap.get? b = some { cls := .type "tuple", dict := dd, data := .seq items2 n2, slots := sl } ∧
      R (.ok (.ret Value.none)) { s with heap := s.heap.update l (Obj.mapSeq fun x => x ++ items2), toks := s.toks }) :=
  .of_wp fun prog w A R s h => by
    obtain ⟨hp, g, d, tk, os⟩ := s
    obtain ⟨hl, hb, h⟩ := h
    have f1 := AutoSeq1.idx_int
    have f2 := AutoSeq1.sub_tuple_tuple
    have f3 := AutoSeq1.sub_list_list
    have f4 := AutoSeq1.sub_tuple_list
    have f5 := AutoSeq1.sub_list_tuple
    have hz' : (items ++ items2).size ≤ sizeLine + 1 := by rw [Array.size_append]; exact hs2
    wp_walk using (wpAny_updateSeq hl rfl (hz := hs1) (_hz' := hz')), wpAny_loadPart' hl, wpAny_loadPart' hb
    exact ⟨_, rfl, h⟩
section
variable {X : Cx}
theorem mt_extendT : MtM X "list.extend" rExtendT := by
  intro pins s σ H x vs v us Q I rx rv h
  obtain ⟨l, b, xs, zs, rfl, rfl, hH, hB, hz, q⟩ := h
  cases rx
  obtain ⟨u, rfl, ru⟩ := rv.one
  cases ru
  obtain ⟨z, its, n, r, hl, e⟩ := I.lstM hH
  obtain ⟨its2, r2, ⟨⟨cls, dd, data, sl⟩, ho, hc, n2, hd⟩, hs2⟩ := I.tuple (SqT.of (K := X.K) hB)
  simp only at hc hd
  subst hc hd
  have hl2 : its2.length = zs.length := r2.length.symm
  have hsz : its.toArray.size + its2.toArray.size ≤ sizeLine := by rw [List.size_toArray, List.size_toArray]; omega
  have hlong : ¬ (!its.toArray.isEmpty && Builtin.List.listTooLong (its.toArray.size + its2.toArray.size)) = true := by
    rw [notLongL hsz, Bool.and_false]; exact Bool.false_ne_true
  refine call_meets F.slot_list_extend ⟨_, e, rfl⟩ F.entry_list_extend (F.args_list_extend_2 _ _)
    (list_extend_by_tuple l its.toArray n b its2.toArray n2 dd sl hlong (by rw [List.size_toArray]; omega) (by omega)) ⟨e, ho, ?_⟩
  refine ⟨.non, _, I.lset (its' := its ++ its2) hH e (by simp) (r.append r2) ?_, rfl, q⟩
  rw [List.length_append]; omega
end
/-! ### the names of a recipe -/
def Rcp.all : Rcp → List (List Nat)
  | .num _ => []
  | .read s => [s]
  | .two _ a b => a.all ++ b.all
  | .pick a b c => a.all ++ (b.all ++ c.all)
  | .choose a ns => a.all ++ ns
/-- those of its own -/
def Rcp.own : Rcp → List (List Nat)
  | .read s => [s]
  | .choose _ ns => ns
  | _ => []
theorem all_good : ∀ {r : Rcp}, r.Good → ∀ s ∈ r.all, Nm s
  | .num _, _, s, h => by cases h
  | .read _, hg, s, h => by rw [List.mem_singleton.mp h]; exact hg
  | .two _ a b, hg, s, h => by
    rcases List.mem_append.mp h with h | h
    · exact all_good hg.1 s h
    · exact all_good hg.2 s h
  | .pick a b c, hg, s, h => by
    rcases List.mem_append.mp h with h | h
    · exact all_good hg.1 s h
    rcases List.mem_append.mp h with h | h
    · exact all_good hg.2.1 s h
    · exact all_good hg.2.2 s h
  | .choose a ns, hg, s, h => by
    rcases List.mem_append.mp h with h | h
    · exact all_good hg.1 s h
    · exact hg.2.2.2 s h
theorem all_len : ∀ {r : Rcp}, r.Good → r.all.length ≤ 9 * r.siz
  | .num _, _ => Nat.zero_le _
  | .read _, _ => (by decide : 1 ≤ 9 * 1)
  | .two _ a b, hg => by
    have h1 := all_len hg.1
    have h2 := all_len hg.2
    show (a.all ++ b.all).length ≤ 9 * (a.siz + b.siz + 1)
    rw [List.length_append]; omega
  | .pick a b c, hg => by
    have h1 := all_len hg.1
    have h2 := all_len hg.2.1
    have h3 := all_len hg.2.2
    show (a.all ++ (b.all ++ c.all)).length ≤ 9 * (a.siz + b.siz + c.siz + 1)
    rw [List.length_append, List.length_append]; omega
  | .choose a ns, hg => by
    have h1 := all_len hg.1
    have h2 := hg.2.2.1
    show (a.all ++ ns).length ≤ 9 * (a.siz + 1)
    rw [List.length_append]; omega
theorem own_len {r : Rcp} (hg : r.Good) : r.own.length ≤ 9 := by
  cases r with
  | choose a ns => exact hg.2.2.1
  | read s => exact (by decide : 1 ≤ 9)
  | _ => exact Nat.zero_le _
theorem own_good {r : Rcp} (hg : r.Good) : ∀ s ∈ r.own, Nm s := by
  cases r with
  | choose a ns => exact hg.2.2.2
  | read s => intro z hz; rw [List.mem_singleton.mp hz]; exact hg
  | _ => intro z hz; cases hz
theorem mem_all (r : Rcp) (s : List Nat) : s ∈ r.all ↔ s ∈ r.own ∨ ∃ x ∈ r.subs, s ∈ x.all := by
  cases r with
  | num n => simp [Rcp.all, Rcp.own, Rcp.subs]
  | read z => simp [Rcp.all, Rcp.own, Rcp.subs]
  | two k a b => simp [Rcp.all, Rcp.own, Rcp.subs]
  | pick a b c => simp [Rcp.all, Rcp.own, Rcp.subs]
  | choose a ns => simp [Rcp.all, Rcp.own, Rcp.subs]; exact Or.comm
/-- texts, each behind the one before -/
def SI (ys : List (List Nat)) : Prop := ys.Pairwise fun x y => x < y
theorem lt_tri {x y : List Nat} (h1 : ¬ x < y) (h2 : ¬ y < x) : x = y := List.le_antisymm (List.not_lt.mp h2) (List.not_lt.mp h1)
theorem si_of : ∀ {ys : List (List Nat)}, Rising ys → ys.Nodup → SI ys
  | [], _, _ => List.Pairwise.nil
  | y :: ys, h, n => by
    obtain ⟨h1, h2⟩ := List.pairwise_cons.mp h
    obtain ⟨n1, n2⟩ := List.nodup_cons.mp n
    refine List.pairwise_cons.mpr ⟨fun z hz => Decidable.byContradiction fun q => ?_, si_of h2 n2⟩
    have := lt_tri q (h1 z hz)
    rw [this] at n1
    exact n1 hz
theorem si_ext : ∀ {xs ys : List (List Nat)}, SI xs → SI ys → (∀ s, s ∈ xs ↔ s ∈ ys) → xs = ys
  | [], [], _, _, _ => rfl
  | [], y :: ys, _, _, h => by have := (h y).mpr (List.mem_cons_self ..); cases this
  | x :: xs, [], _, _, h => by have := (h x).mp (List.mem_cons_self ..); cases this
  | x :: xs, y :: ys, hx, hy, h => by
    obtain ⟨x1, x2⟩ := List.pairwise_cons.mp hx
    obtain ⟨y1, y2⟩ := List.pairwise_cons.mp hy
    have e : x = y := by
      rcases List.mem_cons.mp ((h x).mp (List.mem_cons_self ..)) with e | m
      · exact e
      rcases List.mem_cons.mp ((h y).mpr (List.mem_cons_self ..)) with e | m'
      · exact e.symm
      exact absurd (x1 y m') (List.lt_asymm (y1 x m))
    subst e
    have t : xs = ys := si_ext x2 y2 fun s => by
      constructor
      · intro m
        rcases List.mem_cons.mp ((h s).mp (List.mem_cons_of_mem _ m)) with e | m'
        · rw [e] at m
          exact absurd (x1 x m) (List.lt_irrefl x)
        · exact m'
      · intro m
        rcases List.mem_cons.mp ((h s).mpr (List.mem_cons_of_mem _ m)) with e | m'
        · rw [e] at m
          exact absurd (y1 x m) (List.lt_irrefl x)
        · exact m'
    rw [t]
theorem si_snoc {d0 : List (List Nat)} {s z : List Nat} (h : SI (d0 ++ [s])) (h2 : s < z) : SI (d0 ++ [s] ++ [z]) := by
  refine List.pairwise_append.mpr ⟨h, List.pairwise_singleton _ _, fun a ha b hb => ?_⟩
  rw [List.mem_singleton.mp hb]
  rcases List.mem_append.mp ha with m | m
  · exact List.lt_trans ((List.pairwise_append.mp h).2.2 a m s (List.mem_singleton.mpr rfl)) h2
  · rw [List.mem_singleton.mp m]; exact h2
/-- the keys of a dict of names -/
def keyN (s : List Nat) : Key := Sum.inr (SX.S s)
theorem keyN_inj {a b : List Nat} (h : keyN a = keyN b) : a = b := by
  have e : SX.S a = SX.S b := Sum.inr.inj h
  have := congrArg (fun y : Str => y.cps.toList) e
  exact this
theorem keyN_ne {a b : List Nat} (h : a ≠ b) : ¬ keyN a = keyN b := fun e => h (keyN_inj e)
/-- the dict of the names ns, each once -/
def NDict (kvs : List (Key × V)) (ns : List (List Nat)) : Prop := nmKeys kvs ns ∧ ns.Nodup
theorem nd_any {kvs : List (Key × V)} {ns : List (List Nat)} (h : nmKeys kvs ns) (s : List Nat) : (kvs.any fun kv => decide (kv.1 = keyN s)) = decide (s ∈ ns) := by
  have e : (kvs.any fun kv => decide (kv.1 = keyN s)) = (kvs.map (·.1)).any fun k => decide (k = keyN s) := by rw [List.any_map]; rfl
  rw [e, h, List.any_map]
  clear e h
  induction ns with
  | nil => rfl
  | cons a r ih =>
    rw [List.any_cons, ih]
    by_cases z : a = s
    · subst z
      simp
      exact .inl rfl
    · have : decide (s ∈ a :: r) = decide (s ∈ r) := by
        simp only [List.mem_cons]
        congr 1
        exact propext ⟨fun q => q.resolve_left fun w => z w.symm, .inr⟩
      rw [this]
      have : ((fun k => decide (k = keyN s)) ∘ fun s => Sum.inr (SX.S s)) a = false := decide_eq_false (keyN_ne z)
      rw [this, Bool.false_or]
theorem NDict.put {kvs : List (Key × V)} {ns : List (List Nat)} (h : NDict kvs ns) (s : List Nat) (v : V) : ∃ ns', NDict (putK kvs (keyN s) v) ns' ∧ (∀ x, x ∈ ns' ↔ x ∈ ns ∨ x = s) ∧ ns'.length ≤ ns.length + 1 := by
  obtain ⟨hk, hn⟩ := h
  by_cases m : s ∈ ns
  · refine ⟨ns, ⟨?_, hn⟩, fun x => ⟨.inl, fun q => q.elim id fun e => e ▸ m⟩, Nat.le_succ _⟩
    unfold putK nmKeys
    rw [if_pos (by rw [nd_any hk]; exact decide_eq_true m), List.map_map, ← hk]
    refine List.map_congr_left fun p _ => ?_
    show (if p.1 = keyN s then (p.1, v) else p).1 = p.1
    by_cases e : p.1 = keyN s
    · rw [if_pos e]
    · rw [if_neg e]
  · refine ⟨ns ++ [s], ⟨?_, ?_⟩, fun x => by rw [List.mem_append, List.mem_singleton], by rw [List.length_append]; exact Nat.le_refl _⟩
    · unfold putK nmKeys
      rw [if_neg (by rw [nd_any hk, decide_eq_false m]; exact Bool.false_ne_true), List.map_append, hk, List.map_append]
      rfl
    · exact nd_snoc hn m
theorem SI.nodup {ys : List (List Nat)} (h : SI ys) : ys.Nodup := List.Pairwise.imp (fun {a b} q (e : a = b) => by rw [e] at q; exact List.lt_irrefl b q) h
/-! ### new dicts of names over frames; looks, one after another -/
open LamX NdefX
theorem FrS.put0 {Tb : List NTab} {B X : Hp} {a : Addr} {o : HO} (f : FrS Tb [] B X) (n : B a = none) (d : DL X a) : FrS Tb [] B (L2.upd X a o) :=
  ((FrS.mono f fun _ h => nomatch h).trans (FrS.upd (S := [a]) (List.mem_singleton.mpr rfl) d)).dropAll fun x hx => by rw [List.mem_singleton.mp hx]; exact n
theorem FrS.at {Tb : List NTab} {B X : Hp} (f : FrS Tb [] B X) {x : Addr} {o : HO} (h : B x = some o) (t : ∀ ps, o ≠ .tbl ps) : X x = some o := f.1 x o (fun z => nomatch z) t h
theorem FrS.lst {Tb : List NTab} {B X : Hp} (f : FrS Tb [] B X) {x : Addr} {l : List V} (h : B x = some (.lst l)) : X x = some (.lst l) := f.at h fun _ z => nomatch z
theorem FrS.tup {Tb : List NTab} {B X : Hp} (f : FrS Tb [] B X) {x : Addr} {l : List V} (h : B x = some (.tup l)) : X x = some (.tup l) := f.at h fun _ z => nomatch z
theorem FrS.dk {Tb : List NTab} {B X : Hp} (f : FrS Tb [] B X) {x : Addr} {l : List (Key × V)} (h : B x = some (.dK l)) : X x = some (.dK l) := f.at h fun _ z => nomatch z
theorem FrS.kp {Tb : List NTab} {B X : Hp} (f : FrS Tb [] B X) : Keep B X := fun _ _ e => f.tup e
theorem FrS.house {Tb : List NTab} {B X : Hp} (f : FrS Tb [] B X) {h : House} {v : V} (a : HouseAt B h v) : HouseAt X h v := by
  obtain ⟨p, gD, rD, kvs, e, h1, h2, h3, h4⟩ := a
  exact ⟨p, gD, rD, kvs, e, f.tup h1, f.dk h2, Rd.mp (fun _ e t => f.at e t) h3, h4.imp fun r v q => q.keep f.kp⟩
theorem upd_self {H : Hp} {a : Addr} {o : HO} (h : H a = some o) : L2.upd H a o = H := by
  funext b
  by_cases c : b = a
  · rw [c, upd_same, h]
  · rw [upd_ne c]
theorem rise_ext : ∀ {xs ys : List (List Nat)}, Rising xs → Rising ys → xs.Nodup → ys.Nodup → (∀ s, s ∈ xs ↔ s ∈ ys) → xs = ys := by
  have anti : ∀ {x y : List Nat}, ¬ x < y → ¬ y < x → x = y := fun h1 h2 => List.le_antisymm (List.not_lt.mp h2) (List.not_lt.mp h1)
  intro xs
  induction xs with
  | nil =>
    intro ys _ _ _ _ h
    cases ys with
    | nil => rfl
    | cons y ys => exact absurd ((h y).mpr List.mem_cons_self) (fun z => nomatch z)
  | cons x xs ih =>
    intro ys hx hy nx ny h
    cases ys with
    | nil => exact absurd ((h x).mp List.mem_cons_self) (fun z => nomatch z)
    | cons y ys =>
      obtain ⟨x1, x2⟩ := List.pairwise_cons.mp hx
      obtain ⟨y1, y2⟩ := List.pairwise_cons.mp hy
      obtain ⟨n1, n2⟩ := List.nodup_cons.mp nx
      obtain ⟨m1, m2⟩ := List.nodup_cons.mp ny
      have e : x = y := by
        rcases List.mem_cons.mp ((h x).mp List.mem_cons_self) with e | m
        · exact e
        rcases List.mem_cons.mp ((h y).mpr List.mem_cons_self) with e | m'
        · exact e.symm
        exact anti (y1 x m) (x1 y m')
      subst e
      rw [ih x2 y2 n2 m2 fun s => ⟨fun hs => ((List.mem_cons.mp ((h s).mp (List.mem_cons_of_mem _ hs))).resolve_left fun e => n1 (e ▸ hs)), fun hs => ((List.mem_cons.mp ((h s).mpr (List.mem_cons_of_mem _ hs))).resolve_left fun e => m1 (e ▸ hs))⟩]
theorem nd_val {kvs : List (Key × V)} {ns : List (List Nat)} (h : nmKeys kvs ns) (s : List Nat) : (valV kvs (kT (SX.S s))).isSome = decide (s ∈ ns) := by
  rw [← nd_any h]
  clear h
  induction kvs with
  | nil => rfl
  | cons p r ih =>
    rw [List.any_cons]
    by_cases c : p.1 = kT (SX.S s)
    · rw [valV_pos c, decide_eq_true (show p.1 = keyN s from c)]
      rfl
    · rw [valV_neg c, decide_eq_false (show ¬ p.1 = keyN s from c), ih]
      rfl
theorem nd_len {kvs : List (Key × V)} {ns : List (List Nat)} (h : nmKeys kvs ns) : kvs.length = ns.length := by
  have := congrArg List.length h
  rwa [List.length_map, List.length_map] at this
theorem kvR_nm {α : Type} {R : α → V → Prop} : ∀ {l : List (List Nat × α)} {m : List (Key × V)}, KvR R l m → nmKeys m (l.map (·.1))
  | [], [], _ => rfl
  | p :: l, q :: m, ⟨x, _, z⟩ => by
    show q.1 :: m.map _ = Sum.inr (SX.S p.1) :: _
    rw [x, kvR_nm z]
    rfl
  | [], _ :: _, h => h.elim
  | _ :: _, [], h => h.elim
theorem lkAll_rest {dm : Nat} {h : House} {beta : Nat → Nat} (HH : HouseOk dm h beta) {n : Nat} : ∀ {ts : List (List Nat)} {s s' : RkS} {v : Int}, Rest h beta s → (∀ t ∈ ts, Nm t) → lkAll h n s ts = .ok v s' → Rest h beta s' ∧ Grow s s' ts ∧ (∀ t ∈ ts, t ∈ s'.known.map (·.1)) ∧ ∀ u ∈ s.known.map (·.1), u ∈ s'.known.map (·.1)
  | [], s, s', v, r, _, e => by
    cases e
    exact ⟨r, Grow.refl _ _, (fun _ h => nomatch h), fun _ h => h⟩
  | t :: ts, s, s', v, r, hn, e => by
    unfold lkAll at e
    cases e1 : lkR h n s t with
    | err x => rw [e1] at e; cases e
    | ok w s1 =>
      rw [e1] at e
      obtain ⟨r1, _, g1, k1, m1⟩ := r.look HH (hn t List.mem_cons_self) e1
      obtain ⟨r2, g2, k2, m2⟩ := lkAll_rest HH r1 (fun u hu => hn u (List.mem_cons_of_mem _ hu)) e
      exact ⟨r2, g1.trans g2 (fun u hu => by rw [List.mem_singleton.mp hu]; exact List.mem_cons_self) (fun u hu => List.mem_cons_of_mem _ hu), fun u hu => (List.mem_cons.mp hu).elim (fun z => by rw [z]; exact m2 _ k1) (k2 u), fun u hu => m2 u (m1 u hu)⟩
theorem lkAll_total {dm : Nat} {h : House} {beta : Nat → Nat} (HH : HouseOk dm h beta) {n : Nat} (hn : h.recs.length + 1 ≤ n) : ∀ {ts : List (List Nat)} {s : RkS}, Rest h beta s → (∀ t ∈ ts, Nm t ∧ ∃ v, Val h t v) → ∃ s', lkAll h n s ts = .ok 0 s'
  | [], s, _, _ => ⟨s, rfl⟩
  | t :: ts, s, r, ht => by
    obtain ⟨hm, v, hv⟩ := ht t List.mem_cons_self
    obtain ⟨s1, e1⟩ := r.told HH hm hv hn
    obtain ⟨s2, e2⟩ := lkAll_total HH hn (r.look HH hm e1).1 fun u hu => ht u (List.mem_cons_of_mem _ hu)
    refine ⟨s2, ?_⟩
    show (match lkR h n s t with | .ok _ s' => lkAll h n s' ts | .err e => .err e) = _
    rw [e1]
    exact e2
theorem known_val {h : House} {beta : Nat → Nat} {s : RkS} (r : Rest h beta s) {u : List Nat} (hu : u ∈ s.known.map (·.1)) : ∃ x, seen s.known u = some x ∧ Val h u x := by
  cases e : seen s.known u with
  | none => exact absurd hu (seen_none e)
  | some x => exact ⟨x, rfl, r.coh.kn _ (seen_mem e)⟩
/-! ### data and errors over frames with tables -/
open LamX NdefX
theorem KvR.self {α : Type} {R : α → V → Prop} : ∀ {l : List (List Nat × α)} {m : List (Key × V)}, KvR R l m → (l.map (·.1)).Nodup → ∀ q ∈ m, ∃ a : α, valV m q.1 = some q.2 ∧ R a q.2
  | [], [], _, _, _, hq => nomatch hq
  | p :: l, q :: m, ⟨x, y, z⟩, nd, r, hr => by
    obtain ⟨n1, n2⟩ := List.nodup_cons.mp nd
    rcases List.mem_cons.mp hr with rfl | hr
    · exact ⟨_, valV_pos rfl, y⟩
    · obtain ⟨a, h1, h2⟩ := KvR.self z n2 r hr
      refine ⟨a, ?_, h2⟩
      obtain ⟨i, hi, e⟩ := List.mem_iff_getElem.mp hr
      obtain ⟨p2, e1, e2, _⟩ := KvR.at (i := i) (k := r.1) (v := r.2) z (by rw [List.getElem?_eq_getElem hi, e])
      rw [valV_neg (by
        rw [x, e2]
        exact fun e => n1 (by show p.1 ∈ _; rw [kS_inj e]; exact List.mem_map.mpr ⟨p2, List.mem_of_getElem? e1, rfl⟩))]
      exact h1
  | [], _ :: _, h, _, _, _ => h.elim
  | _ :: _, [], h, _, _, _ => h.elim
theorem Rec.ref {H : Hp} : ∀ {r : Rcp} {v : V}, Rec H r v → ∃ a, v = .ref a
  | .num _, _, ⟨p, e, _⟩ => ⟨p, e⟩
  | .read _, _, ⟨p, e, _⟩ => ⟨p, e⟩
  | .two _ _ _, _, ⟨p, _, _, e, _⟩ => ⟨p, e⟩
  | .pick _ _ _, _, ⟨p, _, _, _, e, _⟩ => ⟨p, e⟩
  | .choose _ _, _, ⟨p, _, _, e, _⟩ => ⟨p, e⟩
mutual
theorem Data.fr {H H' : Hp} (s : ∀ x u, (∀ ps, u ≠ .tbl ps) → H x = some u → H' x = some u) : ∀ {t : Th} {v : V}, Data H t v → Data H' t v
  | .non, _, h => h
  | .bl _, _, h => h
  | .int _, _, h => h
  | .str _, _, h => h
  | .tup _, _, ⟨p, xs, e, hp, hl⟩ => ⟨p, xs, e, s _ _ (fun _ z => by cases z) hp, DataL.fr s hl⟩
  | .lst _, _, ⟨p, xs, e, hp, hl⟩ => ⟨p, xs, e, s _ _ (fun _ z => by cases z) hp, DataL.fr s hl⟩
  | .dct, _, ⟨p, kvs, e, hp⟩ => ⟨p, kvs, e, s _ _ (fun _ z => by cases z) hp⟩
theorem DataL.fr {H H' : Hp} (s : ∀ x u, (∀ ps, u ≠ .tbl ps) → H x = some u → H' x = some u) : ∀ {l : List Th} {xs : List V}, DataL H l xs → DataL H' l xs
  | [], _, h => h
  | _ :: _, _, ⟨x, r, e, h1, h2⟩ => ⟨x, r, e, Data.fr s h1, DataL.fr s h2⟩
end
def spLawT (K : PySem.W.Frag) (Tb : List NTab) : Sp := fun vs H Q _ => ∃ (a : Addr) (ns : List Int), vs = [.ref a] ∧ SqL K H a (ns.map V.int) ∧ ns.length ≤ 63 ∧ TabsN Tb H ∧ ∀ H', Q (.bl true) H'
theorem txs_take (ns : List (List Nat)) (k : Nat) : (txs ns).take k = txs (ns.take k) := by unfold txs; rw [List.map_take, List.map_take]
end Mad
/-! ### deep equality of lists, tuples and dicts, where it holds -/
namespace L2
open PySem PySem.Spec PyProof.Rows PySem.SeqAt
open PySem.AutoSeq1 (wpAny_loadPart')
section
variable {prog : Program} {w : World}
/-- two tuples alike item by item are not unlike -/
theorem tup_alikeN (l b : Addr) (u v : Array Value) (n n2 : Nat) (d1 d2 : Option Addr) (sl sl2 : Array (Option Value)) :
    MeetsIn prog w (Builtin.«tuple.__ne__» ⟨[.ref l, .ref b], []⟩) (fun A R s => s.heap.get? l = some ⟨.type "tuple", d1, .seq u n, sl⟩ ∧ s.heap.get? b = some ⟨.type "tuple", d2, .seq v n2, sl2⟩ ∧
      (∀ p ∈ u.toList.zip v.toList, PySem.SeqAt.EqIn prog w A.in1 s p.1 p.2 true) ∧ u.size = v.size ∧ R (.ok (.ret (.bool false))) s) :=
  .of_wp fun A R s h => by
    obtain ⟨hp, g, dr, tk, os⟩ := s
    obtain ⟨e1, e2, he, hz, hR⟩ := h
    have isT := PySem.AutoSeq1.sub_tuple_tuple
    wp_walk using wpAny_loadPart' e1, wpAny_loadPart' e2, wpAny_forIn_list _ (fun todo st s' => st.1 = none ∧ s' = ⟨hp, g, dr, tk, os⟩ ∧ ∀ p ∈ todo, PySem.SeqAt.EqIn prog w A.in1 ⟨hp, g, dr, tk, os⟩ p.1 p.2 true) _
    case turn =>
      rintro ⟨y, x⟩ todo st s' ⟨h0, rfl, hr⟩
      refine wpAny_bind (hr (y, x) List.mem_cons_self _ _ ?_)
      wp_walk
      exact ⟨rfl, rfl, fun p hm => hr p (List.mem_cons_of_mem _ hm)⟩
    case fin =>
      rintro ⟨b1, b2⟩ s' ⟨h0, rfl, _⟩
      simp only at h0
      subst h0
      wp_walk
      exact ⟨_, rfl, by simpa [Builtin.Tuple.tupleCompareSizes, hz] using hR⟩
    case h => exact ⟨rfl, rfl, he⟩
/-- the turns of two lists alike from i on -/
theorem lst_turnsN (l b : Addr) (u v : Array Value) (n n2 : Nat) (d1 d2 : Option Addr) (sl sl2 : Array (Option Value)) (k : Nat) : ∀ i : Nat, u.size - i = k →
    MeetsIn prog w (Builtin.«list.__eq__.loop» ⟨[.ref l, .ref b, rawInt i, rawInt 3], []⟩) (fun A R s => s.heap.get? l = some ⟨.type "list", d1, .seq u n, sl⟩ ∧ s.heap.get? b = some ⟨.type "list", d2, .seq v n2, sl2⟩ ∧
      (∀ j (h1 : j < u.size) (h2 : j < v.size), PySem.SeqAt.EqIn prog w A.in1 s u[j] v[j] true) ∧ u.size = v.size ∧ R (.ok (.ret (.bool false))) s) := by
  induction k with
  | zero =>
    intro i hk A R s h
    obtain ⟨hp, g, dr, tk, os⟩ := s
    obtain ⟨e1, e2, he, hz, hR⟩ := h
    wp_walk using wpAny_loadPart' e1, wpAny_loadPart' e2
    have a1 : u[((i : Nat) : Int).toNat]? = none := by simp; omega
    have a2 : v[((i : Nat) : Int).toNat]? = none := by simp; omega
    rw [a1, a2]
    wp_walk using wpAny_loadPart' e1, wpAny_loadPart' e2
    show R (.ok (.ret (.bool (u.size != v.size)))) _
    simpa [hz] using hR
  | succ k ih =>
    intro i hk A R s h
    obtain ⟨hp, g, dr, tk, os⟩ := s
    obtain ⟨e1, e2, he, hz, hR⟩ := h
    wp_walk using wpAny_loadPart' e1, wpAny_loadPart' e2
    have l1 : i < u.size := by omega
    have l2 : i < v.size := by omega
    have a1 : u[((i : Nat) : Int).toNat]? = some u[i] := by simp [l1]
    have a2 : v[((i : Nat) : Int).toNat]? = some v[i] := by simp [l2]
    have nx : ((i : Int) + 1) = ((i + 1 : Nat) : Int) := by push_cast; rfl
    rw [a1, a2]
    refine wpAny_bind (he i l1 l2 _ _ ?_)
    wp_walk
    rw [nx]
    refine ⟨PySem.plainId_quiet PySem.MeetsSeq3.plain_eq_loop _, codeAny_builtin PySem.MeetsSeq3.entry_eq_loop ?_⟩
    rw [Around.under_plainId PySem.MeetsSeq3.plain_eq_loop _]
    exact ih (i + 1) (by omega) A R _ ⟨e1, e2, he, hz, hR⟩
theorem lst_alikeN (l b : Addr) (u v : Array Value) (n n2 : Nat) (d1 d2 : Option Addr) (sl sl2 : Array (Option Value)) :
    MeetsIn prog w (Builtin.«list.__ne__» ⟨[.ref l, .ref b], []⟩) (fun A R s => s.heap.get? l = some ⟨.type "list", d1, .seq u n, sl⟩ ∧ s.heap.get? b = some ⟨.type "list", d2, .seq v n2, sl2⟩ ∧
      (∀ j (h1 : j < u.size) (h2 : j < v.size), PySem.SeqAt.EqIn prog w A.in1 s u[j] v[j] true) ∧ u.size = v.size ∧ R (.ok (.ret (.bool false))) s) := by
  intro A R s h
  obtain ⟨hp, g, dr, tk, os⟩ := s
  obtain ⟨e1, e2, he, hz, hR⟩ := h
  have isL := PySem.AutoSeq1.sub_list_list
  have same : ¬ (u.size != v.size) = true := by simp [hz]
  wp_walk using wpAny_loadPart' e1, wpAny_loadPart' e2
  refine ⟨PySem.plainId_quiet PySem.MeetsSeq3.plain_eq_loop _, codeAny_builtin PySem.MeetsSeq3.entry_eq_loop ?_⟩
  rw [Around.under_plainId PySem.MeetsSeq3.plain_eq_loop _]
  exact lst_turnsN l b u v n n2 d1 d2 sl sl2 _ 0 rfl A R _ ⟨e1, e2, he, hz, hR⟩
theorem ne_lsts {A : Around} {E Q : Value → Shared → Prop} {s : Shared} {l b : Addr} {u v : Array Value} (hl : s.heap.IsList l u) (hb : s.heap.IsList b v) (hz : u.size = v.size) (hu : A.units < cLine)
    (he : ∀ j (h1 : j < u.size) (h2 : j < v.size), PySem.SeqAt.EqIn prog w A.in1 s u[j] v[j] true) (h : Q (.bool false) s) : wpAny (model prog w) A (richCompare .NotEq (.ref l) (.ref b)) Q E s := by
  obtain ⟨⟨c1, d1, a1, sl1⟩, o1, k1, n1, t1⟩ := id hl
  obtain ⟨⟨c2, d2, a2, sl2⟩, o2, k2, n2, t2⟩ := id hb
  simp only at k1 t1 k2 t2
  subst k1 t1 k2 t2
  refine wpAny_richCompare_same_room (T := "list") (op := .NotEq) ⟨_, o1, rfl⟩ ⟨_, o2, rfl⟩ PySem.F.slot_list_ne ?_ hu
  exact call_meetsIn PySem.F.slot_list_ne ⟨_, o1, rfl⟩ PySem.F.entry_list_ne (PySem.F.args_list_ne_2 _ _) (lst_alikeN l b u v n1 n2 d1 d2 sl1 sl2) ⟨o1, o2, he, hz, (fun z => nomatch z), h⟩
theorem ne_tups {A : Around} {E Q : Value → Shared → Prop} {s : Shared} {l b : Addr} {u v : Array Value} (hl : s.heap.IsTuple l u) (hb : s.heap.IsTuple b v) (hz : u.size = v.size) (hu : A.units < cLine)
    (he : ∀ p ∈ u.toList.zip v.toList, PySem.SeqAt.EqIn prog w A.in1 s p.1 p.2 true) (h : Q (.bool false) s) : wpAny (model prog w) A (richCompare .NotEq (.ref l) (.ref b)) Q E s := by
  obtain ⟨⟨c1, d1, a1, sl1⟩, o1, k1, n1, t1⟩ := id hl
  obtain ⟨⟨c2, d2, a2, sl2⟩, o2, k2, n2, t2⟩ := id hb
  simp only at k1 t1 k2 t2
  subst k1 t1 k2 t2
  refine wpAny_richCompare_same_room (T := "tuple") (op := .NotEq) ⟨_, o1, rfl⟩ ⟨_, o2, rfl⟩ PySem.F.slot_tuple_ne ?_ hu
  exact call_meetsIn PySem.F.slot_tuple_ne ⟨_, o1, rfl⟩ PySem.F.entry_tuple_ne (PySem.F.args_tuple_ne_2 _ _) (tup_alikeN l b u v n1 n2 d1 d2 sl1 sl2) ⟨o1, o2, he, hz, (fun z => nomatch z), h⟩
end
/-- alike: lists, tuples, dicts of things that are F -/
def EqRG (K : PySem.W.Frag) (H : Hp) (F : V → V → Prop) (x y : V) : Prop :=
  (∃ a b xs ys, x = .ref a ∧ y = .ref b ∧ SqL K H a xs ∧ SqL K H b ys ∧ Paired F xs ys) ∨ (∃ a b xs ys, x = .ref a ∧ y = .ref b ∧ SqT K H a xs ∧ SqT K H b ys ∧ Paired F xs ys) ∨
    ∃ a b ks ls, x = .ref a ∧ y = .ref b ∧ H a = some (.dK ks) ∧ H b = some (.dK ls) ∧ ks.length = ls.length ∧ ∀ p ∈ ks, ∃ u, valV ls p.1 = some u ∧ F p.2 u
/-- alike, n levels deep -/
def EqG (K : PySem.W.Frag) (H : Hp) : Nat → V → V → Prop
  | 0 => fun _ _ => False
  | n + 1 => fun x y => (x = y ∧ flatB x = true) ∨ (∃ a, x = .ref a ∧ y = .ref a) ∨ (64 ≤ n ∧ ∃ d e, Dp K H x d ∧ Dp K H y e ∧ SeqAt.shaped d = true ∧ SeqAt.shaped e = true ∧ PyData.eqv d e = true) ∨ EqRG K H (EqG K H n) x y
theorem EqG.refl_ref {K : PySem.W.Frag} {H : Hp} {n : Nat} (a : Addr) : EqG K H (n + 1) (.ref a) (.ref a) := .inr (.inl ⟨a, rfl, rfl⟩)
theorem EqG.flat {K : PySem.W.Frag} {H : Hp} {n : Nat} {x : V} (f : flatB x = true) : EqG K H (n + 1) x x := .inl ⟨rfl, f⟩
theorem EqG.any {K : PySem.W.Frag} {H : Hp} {n : Nat} {x : V} (h : flatB x = true ∨ ∃ a, x = .ref a) : EqG K H (n + 1) x x := h.elim EqG.flat fun ⟨a, e⟩ => by rw [e]; exact EqG.refl_ref a
section
variable {X : Cx} {pins : List (Addr × Obj)} {σ : L2.St} {H : Hp} {s : Shared}
theorem items_in {F : V → V → Prop} {P : Program} {w : World} {A : Around} (ih : ∀ x y v u, F x y → RelV x v → RelV y u → PySem.SeqAt.EqIn P w A s v u true) : ∀ {xs ys : List V} {us ws : List Value}, Paired F xs ys → Vals xs us → Vals ys ws → us.length = ws.length ∧ ∀ p ∈ us.zip ws, PySem.SeqAt.EqIn P w A s p.1 p.2 true
  | _, _, _, _, .nil, .nil, .nil => ⟨rfl, fun _ h => nomatch h⟩
  | _, _, _, _, .cons a b, .cons r1 q1, .cons r2 q2 => by
    obtain ⟨l, k⟩ := items_in ih b q1 q2
    refine ⟨congrArg (· + 1) l, fun p hp => ?_⟩
    rcases List.mem_cons.mp hp with rfl | hp
    · exact ih _ _ _ _ a r1 r2
    · exact k p hp
theorem zip_at {P : Value → Value → Prop} {us ws : List Value} (h : ∀ p ∈ us.zip ws, P p.1 p.2) (j : Nat) (h1 : j < us.length) (h2 : j < ws.length) : P us[j] ws[j] := by
  have hz : j < (us.zip ws).length := by rw [List.length_zip]; omega
  have := h _ (List.getElem_mem hz)
  rw [List.getElem_zip] at this
  exact this
theorem hits_in {F : V → V → Prop} {P : Program} {w : World} {A : Around} (ih : ∀ x y v u, F x y → RelV x v → RelV y u → PySem.SeqAt.EqIn P w A s v u true) {ls : List (Key × V)} {vb : List (Key × Value)} (rb : KV ls vb) {ks : List (Key × V)}
    {va : List (Key × Value)} (ra : KV ks va) : (∀ p ∈ ks, ∃ u, valV ls p.1 = some u ∧ F p.2 u) → PySem.W.KeqHitsIn P w A s vb va true := by
  unfold KV at ra
  induction ra with
  | nil => exact fun _ => .nil
  | @cons p q ps qs h t k =>
    intro hp
    obtain ⟨h1, h2⟩ := h
    obtain ⟨u, e, f⟩ := hp p List.mem_cons_self
    obtain ⟨y, hy, ry⟩ := (show RelO (some u) (valueAt vb p.1) by rw [← e]; exact rb.val p.1).some_of
    obtain ⟨key, v⟩ := q
    cases (show p.1 = key from h1)
    exact .hit (e := true) (b := true) (r := qs) hy (ih _ _ _ _ f h2 ry) (k fun p' hm => hp p' (List.mem_cons_of_mem _ hm))
/-- the comparison itself, both ways -/
theorem eqRG_run (I : Inv X pins σ H s) {A : Around} {F : V → V → Prop} (hu : A.units < cLine) (ih : ∀ x y v u, F x y → RelV x v → RelV y u → PySem.SeqAt.EqIn X.prog X.w A.in1 s v u true) {x y : V} {v u : Value} (h : EqRG X.K H F x y) (rx : RelV x v) (ry : RelV y u)
    (E Q : Value → Shared → Prop) (q : Q (.bool true) s) : wpAny (model X.prog X.w) A (richCompare .Eq v u) Q E s := by
  rcases h with ⟨a, b, xs, ys, rfl, rfl, ha, hb, hp⟩ | ⟨a, b, xs, ys, rfl, rfl, ha, hb, hp⟩ | ⟨a, b, ks, ls, rfl, rfl, ha, hb, hl, hp⟩
  · cases rx
    cases ry
    obtain ⟨us, r1, p1, _⟩ := I.list ha
    obtain ⟨ws, r2, p2, _⟩ := I.list hb
    obtain ⟨hz, k⟩ := items_in ih hp r1 r2
    refine PySem.SeqAt.rcIn_lists (e := fun _ => true) p1.isList p2.isList (by simpa using hz) hu (fun j h1 h2 => ?_) ?_
    · simpa using zip_at (P := fun p q => PySem.SeqAt.EqIn X.prog X.w A.in1 s p q true) k j (by simpa using h1) (by simpa using h2)
    · rw [List.all_eq_true.mpr fun _ _ => rfl]
      exact q
  · cases rx
    cases ry
    obtain ⟨us, r1, p1⟩ := I.tuple ha
    obtain ⟨ws, r2, p2⟩ := I.tuple hb
    obtain ⟨hz, k⟩ := items_in ih hp r1 r2
    refine PySem.SeqAt.rcIn_tuples (e := fun _ => true) p1.1 p2.1 hu (fun j h1 h2 => ?_) ?_
    · simpa using zip_at (P := fun p q => PySem.SeqAt.EqIn X.prog X.w A.in1 s p q true) k j (by simpa using h1) (by simpa using h2)
    · rw [List.all_eq_true.mpr fun _ _ => rfl, show us.toArray.size = ws.toArray.size by simpa using hz]
      simpa using q
  · cases rx
    cases ry
    obtain ⟨_, ya, va, ra, da⟩ := (show ObjOk X.prog X.w H s.heap a (.dK ks) from I.hok a _ ha)
    obtain ⟨_, yb, vb, rb, db⟩ := (show ObjOk X.prog X.w H s.heap b (.dK ls) from I.hok b _ hb)
    refine PySem.W.keq_eqIn (knd := mixKind X.prog X.w) (r := true) ya yb da db hu (fun _ => hits_in ih rb ra hp) ?_
    rw [show va.length = vb.length by rw [← ra.length, ← rb.length]; exact hl]
    simpa using q
theorem eqG_run (I : Inv X pins σ H s) : ∀ (n : Nat) (A : Around), A.units + n + 64 < cLine → ∀ (x y : V) (v u : Value), EqG X.K H n x y → RelV x v → RelV y u → PySem.SeqAt.EqIn X.prog X.w A s v u true
  | 0, _, _, _, _, _, _, h, _, _ => (show False from h).elim
  | n + 1, A, hu, x, y, v, u, h, rx, ry => by
    rcases h with ⟨rfl, f⟩ | ⟨a, rfl, rfl⟩ | ⟨hn, d, e, hd, he, sd, se, eq⟩ | h
    · exact (PySem.SeqAt.EqAt.inModel (eqAt_same rx ry f) _ _)
    · cases rx
      cases ry
      exact PySem.SeqAt.EqAt.inModel (SeqAt.EqAt.same _) _ _
    · obtain ⟨as, r1⟩ := Dp.reads I d x v hd rx
      obtain ⟨bs, r2⟩ := Dp.reads I e y u he ry
      have := PySem.SeqAt.eqAt_reads d e A s v u as bs r1 r2 (SeqAt.canLay_of_shaped sd) (SeqAt.canLay_of_shaped se) (SeqAt.room_of_shaped sd (by omega))
      rw [eq] at this
      exact PySem.SeqAt.EqAt.inModel this _ _
    · have step := eqRG_run I (A := A) (by omega) (eqG_run I n A.in1 (by show A.units + 1 + n + 64 < cLine; omega)) h rx ry
      obtain ⟨a, b, rfl, rfl⟩ : ∃ a b, x = .ref a ∧ y = .ref b := by
        rcases h with ⟨a, b, _, _, e1, e2, _⟩ | ⟨a, b, _, _, e1, e2, _⟩ | ⟨a, b, _, _, e1, e2, _⟩ <;> exact ⟨a, b, e1, e2⟩
      cases rx
      cases ry
      by_cases e : a = b
      · subst e
        exact PySem.SeqAt.EqAt.inModel (SeqAt.EqAt.same _) _ _
      · exact PySem.SeqAt.EqIn.of_refs e step
end
/-- a == b, a != b of lists, tuples, dicts that are alike -/
def rEqG (K : PySem.W.Frag) : R2 := fun x y H Q => EqRG K H (EqG K H 80) x y ∧ Q (.bl true) H
def rNeG (K : PySem.W.Frag) : R2 := fun x y H Q => ((∃ a b xs ys, x = .ref a ∧ y = .ref b ∧ SqL K H a xs ∧ SqL K H b ys ∧ Paired (EqG K H 80) xs ys) ∨ (∃ a b xs ys, x = .ref a ∧ y = .ref b ∧ SqT K H a xs ∧ SqT K H b ys ∧ Paired (EqG K H 80) xs ys)) ∧ Q (.bl false) H
section
variable {X : Cx}
theorem op_eqG (hu : X.A.units + 199 < cLine) : OpR X (compareOp .Eq) (rEqG X.K) := by
  intro pins s σ H x y v u Q I rx ry h
  obtain ⟨h, q⟩ := h
  exact eqRG_run I (A := X.A) (by omega) (eqG_run I 80 X.A.in1 (by show X.A.units + 1 + 80 + 64 < cLine; omega)) h rx ry _ _ ⟨.bl true, H, I, rfl, q⟩
theorem op_neG (hu : X.A.units + 199 < cLine) : OpR X (compareOp .NotEq) (rNeG X.K) := by
  intro pins s σ H x y v u Q I rx ry h
  obtain ⟨h, q⟩ := h
  have ih := eqG_run I 80 X.A.in1 (by show X.A.units + 1 + 80 + 64 < cLine; omega)
  rcases h with ⟨a, b, xs, ys, rfl, rfl, ha, hb, hp⟩ | ⟨a, b, xs, ys, rfl, rfl, ha, hb, hp⟩
  · cases rx
    cases ry
    obtain ⟨us, r1, p1, _⟩ := I.list ha
    obtain ⟨ws, r2, p2, _⟩ := I.list hb
    obtain ⟨hz, k⟩ := items_in ih hp r1 r2
    refine ne_lsts p1.isList p2.isList (by simpa using hz) (by omega) (fun j h1 h2 => ?_) ⟨.bl false, H, I, rfl, q⟩
    simpa using zip_at (P := fun p q => PySem.SeqAt.EqIn X.prog X.w X.A.in1 s p q true) k j (by simpa using h1) (by simpa using h2)
  · cases rx
    cases ry
    obtain ⟨us, r1, p1⟩ := I.tuple ha
    obtain ⟨ws, r2, p2⟩ := I.tuple hb
    obtain ⟨hz, k⟩ := items_in ih hp r1 r2
    exact ne_tups p1.1 p2.1 (by simpa using hz) (by omega) (fun p hm => k p (by simpa using hm)) ⟨.bl false, H, I, rfl, q⟩
theorem hu199 {k : Nat} {A : Around} (r : Room k A) : A.units + 199 < cLine := by have := r.un; omega
end
end L2
namespace Mad
open PySem PySem.Spec PyProof.Rows L2
end Mad
/-! ### more of what is made: told by a heap that keeps all -/
namespace L2
open PySem PySem.Spec PyProof.Rows
def tDNewA : TE := fun _ H Q => ∀ p H2, H p = none → SameU H H2 → H2 p = some (.dK []) → Q (.ref p) H2
def rSlLA (K : PySem.W.Frag) : V → Option Int → Option Int → Hp → VK → Prop := fun x lo hi H Q => ∃ a xs, x = .ref a ∧ SqL K H a xs ∧ ∀ p H2, H p = none → SameU H H2 → H2 p = some (.lst (cutV xs lo hi)) → Q (.ref p) H2
def rListA (K : PySem.W.Frag) : List V → Hp → VK → Prop := fun xs H Q => ∃ p ys, xs = [.ref p] ∧ (SqL K H p ys ∨ SqT K H p ys) ∧ ∀ l H2, H l = none → SameU H H2 → H2 l = some (.lst ys) → Q (.ref l) H2
def rListDA : List V → Hp → VK → Prop := fun xs H Q => ∃ (a : Addr) (kvs : List (Key × V)), xs = [.ref a] ∧ Rd H a (.dK kvs) ∧ ∀ p H2, H p = none → SameU H H2 → H2 p = some (.lst (kvs.map fun kv => kV kv.1)) → Q (.ref p) H2
def rSortedPA (K : PySem.W.Frag) : List V → Hp → VK → Prop := fun vs H Q => ∃ a xs, vs = [V.ref a] ∧ SqL K H a xs ∧ (∀ x ∈ xs, ∃ t i j, x = V.ref t ∧ H t = some (.tup [.int i, .int j])) ∧
  ∀ ys p H2, ys.Perm xs → H p = none → SameU H H2 → H2 p = some (.lst ys) → Q (.ref p) H2
def rDictDA : List V → Hp → VK → Prop := fun xs H Q => ∃ (a : Addr) (kvs : List (Key × V)), xs = [.ref a] ∧ Rd H a (.dK kvs) ∧ ∀ p H2, H p = none → SameU H H2 → H2 p = some (.dK kvs) → Q (.ref p) H2
def rDictPA (K : PySem.W.Frag) : List V → Hp → VK → Prop := fun xs H Q => ∃ (a : Addr) (ps : List Addr) (kvs : List (Key × V)), xs = [.ref a] ∧ SqL K H a (ps.map V.ref) ∧ Paired (fun p kv => SqT K H p [kV kv.1, kv.2]) ps kvs ∧ ∀ p H2, H p = none → SameU H H2 → H2 p = some (.dK (mergeK [] kvs)) → Q (.ref p) H2
section
variable {X : Cx} {pos : Pos}
theorem call_dictPA {K : PySem.W.Frag} (h : X.K = K) (hcalm : X.calm = true) : CallR X (.type "dict") (rDictPA K) := by
  subst h
  intro pins s σ H xs us Q I r h
  obtain ⟨a, ps, kvs, e, hq, hp, q⟩ := h
  exact call_dictP hcalm pins s σ H xs us Q I r ⟨a, ps, kvs, e, hq, hp, fun p np => q p _ np (sameU_new np _) upd_same⟩
theorem call_dictDA : CallR X (.type "dict") rDictDA := by
  intro pins s σ H xs us Q I r h
  obtain ⟨a, kvs, e, hd, q⟩ := h
  exact call_dictD pins s σ H xs us Q I r ⟨a, kvs, e, hd, fun p np => q p _ np (sameU_new np _) upd_same⟩
theorem op_neDK {K : PySem.W.Frag} (h : X.K = K) (hu : X.A.units + 64 < cLine) : OpR X (compareOp .NotEq) (rNeD K) := by
  subst h
  exact op_neD hu
theorem op_eqDK {K : PySem.W.Frag} (h : X.K = K) (hu : X.A.units + 64 < cLine) : OpR X (compareOp .Eq) (rEqD K) := by
  subst h
  exact op_eqD hu
theorem pe_dnewA : PE X (.Dict [] [] pos) tDNewA := ⟨fun pins s σ H Q I h => pe_dnewK.run pins s σ H Q I fun p np => h p _ np (sameU_new np _) upd_same⟩
theorem sl_listA : SlR X (rSlLA X.K) := by
  intro pins s σ H x v vl vu lo hi sl Q I rx hs pl pu h
  obtain ⟨a, xs, e, hx, q⟩ := h
  exact sl_list pins s σ H x v vl vu lo hi sl Q I rx hs pl pu ⟨a, xs, e, hx, fun p np => q p _ np (sameU_new np _) upd_same⟩
theorem call_listA : CallR X (.type "list") (rListA X.K) := by
  intro pins s σ H xs us Q I r h
  obtain ⟨p, ys, e, hq, q⟩ := h
  exact call_list_of pins s σ H xs us Q I r ⟨p, ys, e, hq, fun l nl => q l _ nl (sameU_new nl _) upd_same⟩
theorem call_listDA (hcalm : X.calm = true) : CallR X (.type "list") rListDA := by
  intro pins s σ H xs us Q I r h
  obtain ⟨p, ys, e, hq, q⟩ := h
  exact call_listD hcalm pins s σ H xs us Q I r ⟨p, ys, e, hq, fun l nl => q l _ nl (sameU_new nl _) upd_same⟩
theorem cr_sortedPA : CallR X (.builtin "sorted") (rSortedPA X.K) := by
  intro pins s σ H vs us Q I r h
  obtain ⟨a, xs, e, hs, hx, q⟩ := h
  exact cr_sortedP pins s σ H vs us Q I r ⟨a, xs, e, hs, hx, fun ys p pm np => q ys p _ pm np (sameU_new np _) upd_same⟩
end
end L2
namespace Mad
open PySem PySem.Spec PyProof.Rows L2
/-! ### sorted of texts, told by a heap that keeps all -/
def rSortTA (K : PySem.W.Frag) : List V → Hp → VK → Prop := fun vs H Q => ∃ (a : Addr) (ns : List (List Nat)), vs = [V.ref a] ∧ SqL K H a (txs ns) ∧
  ∀ (ys : List (List Nat)) (p : Addr) (H2 : Hp), ys.Perm ns → Rising ys → H p = none → SameU H H2 → H2 p = some (.lst (txs ys)) → Q (.ref p) H2
def rSortTDA : List V → Hp → VK → Prop := fun vs H Q => ∃ (a : Addr) (kvs : List (Key × V)) (ns : List (List Nat)), vs = [V.ref a] ∧ H a = some (.dK kvs) ∧ nmKeys kvs ns ∧
  ∀ (ys : List (List Nat)) (p : Addr) (H2 : Hp), ys.Perm ns → Rising ys → H p = none → SameU H H2 → H2 p = some (.lst (txs ys)) → Q (.ref p) H2
theorem cr_sortTA {X : Cx} : CallR X (.builtin "sorted") (rSortTA X.K) := by
  intro pins s σ H vs us Q I r h
  obtain ⟨a, ns, e, hs, q⟩ := h
  exact cr_sortT pins s σ H vs us Q I r ⟨a, ns, e, hs, fun ys p pm ri np => q ys p _ pm ri np (sameU_new np _) upd_same⟩
theorem cr_sortTDA {X : Cx} (hcalm : X.calm = true) : CallR X (.builtin "sorted") rSortTDA := by
  intro pins s σ H vs us Q I r h
  obtain ⟨a, kvs, ns, e, hd, hk, q⟩ := h
  exact cr_sortTD hcalm pins s σ H vs us Q I r ⟨a, kvs, ns, e, hd, hk, fun ys p pm ri np => q ys p _ pm ri np (sameU_new np _) upd_same⟩
end Mad
/-! ### d.update(e) of two dicts; d != e of dicts that are alike -/
namespace PySem.W
open PySem PySem.Spec PyProof.Rows PySem.SeqAt
theorem keq_neIn {K : Type} [DecidableEq K] {prog : Program} {w : World} {knd : KeyKind prog w K} {s : Shared} {A : Around} {E : Value → Shared → Prop} {a b : Addr} {ka kb : List (K × Value)} {r : Bool} {Q : Value → Shared → Prop} (ha : (a == sysModules) = false) (hb : (b == sysModules) = false)
    (da : s.heap.DictOf knd a ka) (db : s.heap.DictOf knd b kb) (hu : A.units < cLine) (hits : ka.length = kb.length → KeqHitsIn prog w A.in1 s kb ka r) (h : Q (.bool (!(ka.length == kb.length && r))) s) :
    wpAny (model prog w) A (compareOp .NotEq (.ref a) (.ref b)) Q E s := by
  refine wpAny_richCompare_same_room (op := .NotEq) da.typeIs db.typeIs PySem.F.slot_dict_ne (wpAny_call_entry PySem.F.slot_dict_ne da.typeIs PySem.F.entry_dict_ne ?_ (PySem.F.args_dict_ne_2 _ _)) hu
  show wpAny _ _ (Builtin.Dict.dictSlotArgs "__ne__" ⟨[.ref a, .ref b], []⟩ >>= _) _ _ s
  refine wpAny_bind ?_
  unfold Builtin.Dict.dictSlotArgs
  refine wpAny_bind (wpAny_notOrdered_dict da.typeIs ?_)
  show wpAny _ _ (pure (Value.ref a, Value.ref b)) _ _ s
  refine wpAny_pure ?_
  refine wpAny_bind (wpAny_isInstance (T := "dict") db.typeIs PySem.F.sub_dict_dict ?_)
  simp only [Bool.not_true, Bool.false_eq_true, if_false]
  refine wpAny_bind (wpAny_pure (wpAny_bind (wpAny_pure ?_)))
  refine wpAny_bind (keq_samePairsIn ha hb da db hits ?_)
  refine wpAny_pure ⟨_, rfl, ?_, ?_⟩
  · exact fun x => nomatch x
  · simpa using h
end PySem.W
namespace L2
open PySem PySem.Spec PyProof.Rows
section
variable {X : Cx}
/-- a != b of dicts that are alike -/
def rNeGD (K : PySem.W.Frag) : R2 := fun x y H Q => (∃ a b ks ls, x = .ref a ∧ y = .ref b ∧ H a = some (.dK ks) ∧ H b = some (.dK ls) ∧ ks.length = ls.length ∧ ∀ p ∈ ks, ∃ u, valV ls p.1 = some u ∧ EqG K H 80 p.2 u) ∧ Q (.bl false) H
theorem op_neGD (hu : X.A.units + 199 < cLine) : OpR X (compareOp .NotEq) (rNeGD X.K) := by
  intro pins s σ H x y v u Q I rx ry h
  obtain ⟨⟨a, b, ks, ls, rfl, rfl, ha, hb, hl, hp⟩, q⟩ := h
  cases rx
  cases ry
  obtain ⟨_, ya, va, ra, da⟩ := (show ObjOk X.prog X.w H s.heap a (.dK ks) from I.hok a _ ha)
  obtain ⟨_, yb, vb, rb, db⟩ := (show ObjOk X.prog X.w H s.heap b (.dK ls) from I.hok b _ hb)
  have ih := eqG_run I 80 X.A.in1 (by show X.A.units + 1 + 80 + 64 < cLine; omega)
  refine PySem.W.keq_neIn (knd := mixKind X.prog X.w) (r := true) ya yb da db (by omega) (fun _ => hits_in ih rb ra hp) ?_
  have : (!(va.length == vb.length && true)) = false := by rw [show va.length = vb.length by rw [← ra.length, ← rb.length]; exact hl]; simp
  rw [this]
  exact ⟨.bl false, H, I, rfl, q⟩
end
section
variable {X : Cx} {pins : List (Addr × Obj)} {σ : St} {H : Hp} {s : Shared} {a b : Addr} {kvs ls : List (Key × V)} {A : Around} {E : Value → Shared → Prop}
theorem d_upd {Q : Value → Shared → Prop} (I : Inv X pins σ H s) (e : H a = some (.dK kvs)) (e2 : Rd H b (.dK ls)) (hne : a ≠ b) (hl : kvs.length + ls.length ≤ sizeLine)
    (h : ∀ s', Inv X pins σ (upd H a (.dK (mergeK kvs ls))) s' → Q .none s') : wpAny (model X.prog X.w) A (call (.builtin "dict.update") [.ref a, .ref b]) Q E s := by
  obtain ⟨z, hd, vs, rel, dd⟩ := dk_of I.hok e
  obtain ⟨z2, hd2, vs2, rel2, dd2⟩ := dk_rd I.hok e2
  refine call_meetsIn PySem.F.slot_dict_update dd.typeIs PySem.F.entry_dict_update (PySem.F.args_dict_update_2 _ _) (meets_dict_update (mixKind X.prog X.w) a b hne hd2) ⟨vs, vs2, dd, dd2, by rw [← rel.length, ← rel2.length]; exact hl, fun h' dd' _ hs => h _ ?_⟩
  have he : ∃ q, h'.get? a = some q := let ⟨q, _, _, hq, _⟩ := dd'; ⟨q, hq⟩
  exact d_write (t' := s.toks) I (by rw [e]; exact True.intro) hs he (dk_new (Nat.le_trans (length_mergeK _ _) hl) hd (rel2.merge rel) dd')
end
def tDUpd (td ty : TE) : TE := fun σ H Q => td σ H fun x H1 => ∃ a, x = .ref a ∧ IsD H1 a ∧ ty σ H1 fun y H2 => ∃ b kvs ls, y = .ref b ∧ H2 a = some (.dK kvs) ∧ Rd H2 b (.dK ls) ∧ a ≠ b ∧ kvs.length + ls.length ≤ sizeLine ∧ Q .non (upd H2 a (.dK (mergeK kvs ls)))
section
variable {X : Cx} {o e : Expr} {apos cpos : Pos} {td ty : TE}
theorem pe_dupd (ho : PE X o td) (he : PE X e ty) (m : M1 X o "update" apos e cpos) : PE X (.Call (.Attribute o "update" apos) [e] [] cpos) (tDUpd td ty) := by
  refine ⟨fun pins s σ H Q I h => ?_⟩
  refine wpAny_Call_method m.base m.few m.line PySem.F.plainAttrs_dict PySem.F.slot_dict_update PySem.F.type_dict_update (thn (ho.run pins s σ H _ I h) fun u s1 ⟨x, H1, I1, rx, a, ex, d, q1⟩ => ?_)
  subst ex
  obtain rfl : u = Value.ref a := rx
  obtain ⟨t1, t2, _⟩ := isD_at I1 d
  refine ⟨t1, t2, ?_⟩
  rw [m.trees]
  refine Calls.callWith_builtin rfl (Calls.evalArgs_plain (Calls.spliced_cons (thn (he.run pins s1 σ H1 _ I1 q1) fun iv s2 ⟨y, H2, I2, ry, b, kvs, ls, ey, ea, eb, ne, l, q2⟩ => Calls.spliced_nil ?_)))
  subst ey
  obtain rfl : iv = Value.ref b := ry
  exact d_upd I2 ea eb ne l fun s3 I3 => ⟨.non, _, I3, rfl, q2⟩
end
end L2
namespace Mad
open PySem PySem.Spec PyProof.Rows L2
/-! ### dicts put together -/
def merA {α : Type} (l m : List (List Nat × α)) : List (List Nat × α) := m.foldl (fun a p => putA a p.1 p.2) l
theorem merA_keys {α : Type} {u : List Nat} : ∀ {m l : List (List Nat × α)}, u ∈ (merA l m).map (·.1) ↔ u ∈ l.map (·.1) ∨ u ∈ m.map (·.1)
  | [], l => ⟨.inl, fun h => h.elim id fun h => nomatch h⟩
  | p :: m, l => by
    show u ∈ (merA (putA l p.1 p.2) m).map (·.1) ↔ _
    rw [merA_keys, putA_mem, List.map_cons, List.mem_cons, or_assoc]
theorem merA_nd {α : Type} : ∀ {m l : List (List Nat × α)}, (l.map (·.1)).Nodup → ((merA l m).map (·.1)).Nodup
  | [], l, h => h
  | p :: m, l, h => merA_nd (m := m) (putA_nd h)
theorem mem_merA {α : Type} {q : List Nat × α} : ∀ {m l : List (List Nat × α)}, q ∈ merA l m → q ∈ l ∨ q ∈ m
  | [], l, h => .inl h
  | p :: m, l, h => by
    rcases mem_merA (m := m) h with h | h
    · rcases mem_putA h with rfl | h
      · exact .inr List.mem_cons_self
      · exact .inl h
    · exact .inr (List.mem_cons_of_mem _ h)
theorem KvR.merge {α : Type} {R : α → V → Prop} : ∀ {m : List (List Nat × α)} {k : List (Key × V)} {l : List (List Nat × α)} {j : List (Key × V)}, KvR R m k → KvR R l j → KvR R (merA l m) (mergeK j k)
  | [], [], l, j, _, h => h
  | p :: m, q :: k, l, j, ⟨x, y, z⟩, h => by
    show KvR R (merA (putA l p.1 p.2) m) (mergeK (putK j q.1 q.2) k)
    rw [x]
    exact KvR.merge z (h.put y)
  | [], _ :: _, _, _, h, _ => h.elim
  | _ :: _, [], _, _, h, _ => h.elim
theorem nums_merge (l m : List Pr) : mergeK (numsK l) (numsK m) = numsK (merA l m) := numsR_eq (KvR.merge (numsR m) (numsR l))
/-! ### enumerate(dict) -/
end Mad
namespace L2
open PySem PySem.Spec PyProof.Rows
section
variable {prog : Program} {w : World} {A : Around} {E : Value → Shared → Prop} {s : Shared}
theorem nextOf_key_item {it d : Addr} {i n ep : Nat} {od : Obj} {es : Array DictEntry} {en : DictEntry} {Q : Value → Shared → Prop} (hit : s.heap.IsKeyIter it d i n ep) (hod : s.heap.get? d = some od) (hdd : od.data = .dict es ep)
    (hsz : es.size = n) (hx : es[i]? = some en) (hQ : ∀ h', h'.IsKeyIter it d (i + 1) n ep → Heap.SameBut it s.heap h' → Q en.key { s with heap := h' }) : wpAny (model prog w) A (Builtin.SmallTypes.nextOf (.ref it)) Q E s := by
  obtain ⟨o, ho, hc, hd⟩ := id hit
  unfold Builtin.SmallTypes.nextOf
  refine wpAny_bind (wpAny_callSpecial?_slot (name := Str.ofString "__next__") hit.typeIs F.slot_dict_keyiterator_next
    (wpAny_call_entry F.slot_dict_keyiterator_next hit.typeIs F.entry_dict_keyiterator_next ?_ (F.args_dict_keyiterator_next_1 _)))
  refine wpAny_bind (wpAny_pure ?_)
  refine wpAny_bind ?_
  refine wpAny_bind ?_
  first | refine wpAny_bind (wpAny_typeNameOfWhole_keyiter hit.typeIs (wpAny_pure ?_)) | refine wpAny_bind (wpAny_typeNameOf_keyiter hit.typeIs (wpAny_pure ?_))
  refine wpAny_bind (wpAny_fieldsOf ho hd ?_)
  have hown : Builtin.Dict_items.ownsTuple "dict_keyiterator" = false := by decide
  simp only [hown, Bool.false_eq_true, if_false]
  show wpAny _ _ (if (Value.ref d == Value.none) = true then _ else _) _ _ s
  rw [if_neg (show ¬ ((Value.ref d == Value.none) = true) from Bool.false_ne_true)]
  refine wpAny_bind (wpAny_pure ?_)
  refine wpAny_bind (wpAny_dictEntries hod hdd ?_)
  rw [if_neg (by rw [hsz]; simp)]
  refine wpAny_bind (wpAny_pure ?_)
  refine wpAny_bind (wpAny_dictEpoch hod hdd ?_)
  rw [if_neg (by simp)]
  refine wpAny_pure ?_
  obtain ⟨hlt', hen⟩ := Array.getElem?_eq_some_iff.mp hx
  simp only [show ¬ ((i : Int) < 0) from by omega, if_false, Int.toNat_natCast, Array.getElem?_eq_getElem hlt']
  refine wpAny_bind ?_
  first | refine wpAny_bind (wpAny_typeNameOfWhole_keyiter hit.typeIs (wpAny_pure ?_)) | refine wpAny_bind (wpAny_typeNameOf_keyiter hit.typeIs (wpAny_pure ?_))
  refine wpAny_bind (wpAny_isOneOf_keyiter hit.typeIs ?_)
  show wpAny _ _ (setField (.ref it) 1 (rawInt ((i : Int) + 1)) >>= _) _ _ s
  refine wpAny_bind (wpAny_setField ho hd (by simp) ?_)
  have hit' : (s.heap.update it (Obj.mapFields (·.setIfInBounds 1 (rawInt ((i : Int) + 1))))).IsKeyIter it d (i + 1) n ep :=
    ⟨_, Heap.get?_update_self _ ho (Obj.isFreed_of_fields (Obj.data_mapFields hd _)), (Obj.cls_mapFields ..).trans hc, by rw [Obj.data_mapFields hd]; simp [rawInt]⟩
  refine wpAny_bind (wpAny_holding ?_)
  refine wpAny_bind (wpAny_isOneOf_keyiter (s := { s with heap := s.heap.update it (Obj.mapFields (·.setIfInBounds 1 (rawInt ((i : Int) + 1)))) }) hit'.typeIs ?_)
  show wpAny _ _ (pure es[i].key) _ _ _
  rw [hen]
  exact wpAny_pure (wpAny_pure ⟨_, rfl, wpAny_pure (hQ _ hit' (Heap.SameBut.update ..))⟩)
theorem nextOf_key_end {it d : Addr} {i n ep : Nat} {od : Obj} {es : Array DictEntry} {Q : Value → Shared → Prop} (hh : A.handled = none) (hit : s.heap.IsKeyIter it d i n ep) (hod : s.heap.get? d = some od) (hdd : od.data = .dict es ep)
    (hsz : es.size = n) (hge : n ≤ i) (hE : ∀ h' e, Heap.ExtBut it s.heap h' → (∃ o, h'.get? e = some o ∧ o.cls = .type "StopIteration") → E (.ref e) { s with heap := h' }) : wpAny (model prog w) A (Builtin.SmallTypes.nextOf (.ref it)) Q E s := by
  obtain ⟨o, ho, hc, hd⟩ := id hit
  unfold Builtin.SmallTypes.nextOf
  refine wpAny_bind (wpAny_callSpecial?_slot (name := Str.ofString "__next__") hit.typeIs F.slot_dict_keyiterator_next
    (wpAny_call_entry F.slot_dict_keyiterator_next hit.typeIs F.entry_dict_keyiterator_next ?_ (F.args_dict_keyiterator_next_1 _)))
  refine wpAny_bind (wpAny_pure ?_)
  refine wpAny_bind ?_
  refine wpAny_bind ?_
  first | refine wpAny_bind (wpAny_typeNameOfWhole_keyiter hit.typeIs (wpAny_pure ?_)) | refine wpAny_bind (wpAny_typeNameOf_keyiter hit.typeIs (wpAny_pure ?_))
  refine wpAny_bind (wpAny_fieldsOf ho hd ?_)
  have hown : Builtin.Dict_items.ownsTuple "dict_keyiterator" = false := by decide
  simp only [hown, Bool.false_eq_true, if_false]
  show wpAny _ _ (if (Value.ref d == Value.none) = true then _ else _) _ _ s
  rw [if_neg (show ¬ ((Value.ref d == Value.none) = true) from Bool.false_ne_true)]
  refine wpAny_bind (wpAny_pure ?_)
  refine wpAny_bind (wpAny_dictEntries hod hdd ?_)
  rw [if_neg (by rw [hsz]; simp)]
  refine wpAny_bind (wpAny_pure ?_)
  refine wpAny_bind (wpAny_dictEpoch hod hdd ?_)
  rw [if_neg (by simp)]
  refine wpAny_pure ?_
  have hge' : es.size ≤ i := by rw [hsz]; exact hge
  simp only [show ¬ ((i : Int) < 0) from by omega, if_false, Int.toNat_natCast, Array.getElem?_eq_none hge']
  refine wpAny_bind ?_
  first | refine wpAny_bind (wpAny_typeNameOfWhole_keyiter hit.typeIs (wpAny_pure ?_)) | refine wpAny_bind (wpAny_typeNameOf_keyiter hit.typeIs (wpAny_pure ?_))
  show wpAny _ _ (setField (.ref it) 0 .none >>= _) _ _ s
  refine wpAny_bind (wpAny_setField ho hd (by simp) ?_)
  show wpAny _ _ (newExc (.type "StopIteration") [] >>= _) _ _ _
  refine wpAny_bind ?_
  simp only [newExc, newTuple]
  refine wpAny_bind (wpAny_newObj_type ?_ (by size_fits))
  refine wpAny_bind (m := firstArgMember _ _) (wpAny_of_eq (a := Value.none) (by first | rfl | (simp only [firstArgMember]; rfl)) ?_)
  refine wpAny_newObj_type ?_ (by size_fits)
  simp only [raiseNew]
  refine wpAny_bind (wpAny_handled ?_)
  first | rw [show A.in1.handled = none from hh] | rw [hh]
  refine wpAny_bind (wpAny_pure (wpAny_throw ?_))
  exact hE _ _ (((Heap.SameBut.update ..).extBut.push _).push _) ⟨_, Heap.get?_push_size _ rfl, rfl⟩
theorem draws_keys (hh : A.handled = none) {it d : Addr} {n ep : Nat} {od : Obj} {es : Array DictEntry} (hdd : od.data = .dict es ep) (hsz : es.size = n) (hne : it ≠ d) :
    Draws prog w A it [it, d] n (fun i x => ∃ en, es[i]? = some en ∧ x = en.key) (fun i h => h.IsKeyIter it d i n ep ∧ h.get? d = some od) where
  live := fun i h st => by obtain ⟨⟨o, ho, _⟩, _⟩ := st; exact ⟨o, ho⟩
  frame := fun i h h' st k => ⟨st.1.at fun o e => k it (by simp) o e, k d (by simp) _ st.2⟩
  item := fun i s Q E hi st hQ => by
    have hi' : i < es.size := by omega
    refine nextOf_key_item st.1 st.2 hdd hsz (Array.getElem?_eq_getElem hi') fun h' st' sb => ?_
    exact hQ _ h' s.toks ⟨_, Array.getElem?_eq_getElem hi', rfl⟩ ⟨st', (sb.2 d (Ne.symm hne)).trans st.2⟩ sb
  done := fun s Q E st hQ => nextOf_key_end hh st.1 st.2 hdd hsz (Nat.le_refl _) hQ
end
def kIter (d : Addr) (es : Array DictEntry) (ep : Nat) : Obj := { cls := .type "dict_keyiterator", data := .fields #[.ref d, .int 0 0, .int es.size 0, .int ep 0] }
set_option maxHeartbeats 1000000 in
theorem meets_enumerate_newD {d : Addr} {o : Obj} {es : Array DictEntry} {ep : Nat} (hd : (d == sysModules) = false) (hc : o.ExactDict) (hdat : o.data = .dict es ep) :
    Meets (Builtin.«enumerate.__new__» ⟨[.type "enumerate", .ref d], []⟩) (fun _ R s => s.heap.get? d = some o ∧
      R (.ok (.ret (.ref (s.heap.push (kIter d es ep)).objs.size))) { s with heap := (s.heap.push (kIter d es ep)).push { cls := .type "enumerate", data := .fields #[.none, .bool false, .ref s.heap.objs.size, rawInt 0, .none, .none] } }) :=
  .of_wp fun prog w A R s h => by
    obtain ⟨hp, g, dr, tk, os⟩ := s; obtain ⟨h1, h⟩ := h
    have hsub := sub_enumerate
    have q1 : ∀ {A' : Around} {E : Value → Shared → Prop} {Q : Value → Shared → Prop}, Q (.ref hp.objs.size) ⟨hp.push (kIter d es ep), g, dr, tk, os⟩ → wpAny (model prog w) A' (pyIter (.ref d)) Q E ⟨hp, g, dr, tk, os⟩ :=
      fun q => iter_keys (s := ⟨hp, g, dr, tk, os⟩) hd h1 hc hdat q
    wp_walk using q1
    refine wpAny_stack_any fun st => wpAny_pure ?_
    split
    · rename_i c _ _ _ _ _
      cases (c == Value.type "enumerate")
      · wp_walk using q1
        exact ⟨_, rfl, h⟩
      · wp_walk using q1
        exact ⟨_, rfl, h⟩
    · wp_walk using q1
      exact ⟨_, rfl, h⟩
section
variable {prog : Program} {w : World} {A : Around} {E : Value → Shared → Prop} {s : Shared}
theorem call_enumerate_dict {d : Addr} {o : Obj} {es : Array DictEntry} {ep : Nat} {Q : Value → Shared → Prop} (hd : (d == sysModules) = false) (ho : s.heap.get? d = some o) (hc : o.ExactDict) (hdat : o.data = .dict es ep)
    (h : ∀ h', IsEnum h' (s.heap.objs.size + 1) s.heap.objs.size 0 .none → h'.IsKeyIter s.heap.objs.size d 0 es.size ep → h'.objs.size = s.heap.objs.size + 2 →
      (∀ b o, s.heap.get? b = some o → h'.get? b = some o) → Q (.ref (s.heap.objs.size + 1)) { s with heap := h' }) :
    wpAny (model prog w) A (call (.type "enumerate") [.ref d]) Q E s := by
  refine callType_new F.called_enumerate (by decide) (F.typeCall_enumerate_1 _) (F.newCall_enumerate_1 _) (fun obj => F.args_object_init_2 obj _) F.entry_enumerate_new
    (meets_enumerate_newD hd hc hdat) ⟨ho, ?_⟩
  have hz : (s.heap.push (kIter d es ep)).objs.size = s.heap.objs.size + 1 := Heap.size_push ..
  show _ ∧ _
  rw [hz]
  have he : IsEnum ((s.heap.push (kIter d es ep)).push { cls := .type "enumerate", data := .fields #[.none, .bool false, .ref s.heap.objs.size, rawInt 0, .none, .none] }) (s.heap.objs.size + 1) s.heap.objs.size 0 .none := by
    have := Heap.get?_push_size (s.heap.push (kIter d es ep)) (o := { cls := .type "enumerate", data := .fields #[.none, .bool false, .ref s.heap.objs.size, rawInt 0, .none, .none] }) rfl
    rw [hz] at this; exact this
  refine ⟨⟨_, he, rfl⟩, h _ he ⟨_, Heap.get?_push_of_some _ (Heap.get?_push_size _ rfl), rfl, rfl⟩ (by rw [Heap.size_push, hz]) fun b o x => Heap.get?_push_of_some _ (Heap.get?_push_of_some _ x)⟩
theorem enumK_end {e it d : Addr} {i : Int} {j n ep : Nat} {od : Obj} {es : Array DictEntry} {old : Value} {Q : Option Value → Shared → Prop} (hh : A.in1.handled = none) (he : IsEnum s.heap e it i old) (hit : s.heap.IsKeyIter it d j n ep) (hod : s.heap.get? d = some od) (hdd : od.data = .dict es ep)
    (hsz : es.size = n) (hge : n ≤ j) (hQ : ∀ h', Heap.ExtBut it s.heap h' → Q none { s with heap := h' }) : wpAny (model prog w) A (pyNext (.ref e)) Q E s := by
  have hT : s.TypeIs (.ref e) "enumerate" := ⟨_, he, rfl⟩
  unfold pyNext
  refine wpAny_bind (wpAny_attempt (wpAny_callSpecial?_slot (name := Str.ofString "__next__") hT F.slot_enumerate_next
    (wpAny_call_entry F.slot_enumerate_next hT F.entry_enumerate_next ?_ (F.args_enumerate_next_1 _))))
  show wpAny _ _ (field (.ref e) 2 >>= _) _ _ _
  refine wpAny_bind (wpAny_field he rfl (x := .ref it) rfl ?_)
  refine wpAny_bind (nextOf_key_end hh hit hod hdd hsz hge fun h' x he' hx' => ?_)
  obtain ⟨o, ho, hc⟩ := hx'
  refine wpAny_bind (wpAny_isInstance (T := "StopIteration") (b := true) ⟨o, ho, hc⟩ isSubtype_stop ?_)
  exact wpAny_pure (hQ _ he')
end
/-- the keys of the locked dict at d, each in a new pair -/
def Itek (d : Addr) (o : Obj) (kvs : List (Key × V)) : It :=
  ⟨fun i H => H d = some (.frz o (.dK kvs)) ∧ i < kvs.length, fun i H v H' => ∃ T k x, v = .ref T ∧ H T = none ∧ H' = upd H T (.tup [.int (i : Nat), kV k]) ∧ kvs[i]? = some (k, x), fun i H => H d = some (.frz o (.dK kvs)) ∧ kvs.length ≤ i⟩
theorem turn_enumK {P : Program} {w : World} {K : PySem.W.Frag} {elts : List Expr} {kk : Nat} {tpos : Pos} {d : Addr} {o : Obj} {kvs : List (Key × V)} {es : Array DictEntry} {ep : Nat} (e it : Addr) (hod : o.data = .dict es ep) :
    Turn P w K (.Tuple elts kk tpos) (Itek d o kvs) [e, it] e (fun i h => (∃ old, IsEnum h e it ((i : Nat) : Int) old) ∧ h.IsKeyIter it d i kvs.length ep ∧ e ≠ it) where
  mem := by simp
  obj := fun i h st b hb => by
    obtain ⟨⟨old, he⟩, ⟨o, ho, hc, hd⟩, _⟩ := st
    have e' : b = e ∨ b = it := by simpa using hb
    rcases e' with z | z
    · rw [z]; exact ⟨_, he, fun v q => nomatch q⟩
    · rw [z]; exact ⟨o, ho, fun v q => by rw [hd] at q; cases q⟩
  keep := fun i h h' st k => let ⟨⟨old, he⟩, hi, hne⟩ := st; ⟨⟨old, k e (by simp) _ he⟩, hi.at fun o q => k it (by simp) o q, hne⟩
  item := by
    intro X hP hw hK hc i pins s σ H E I hf st hg
    subst hP hw hK
    obtain ⟨⟨old, he⟩, hit, hne⟩ := st
    obtain ⟨hd, hi⟩ := hg
    obtain ⟨hs, hgd, hx, es', ep', vs, hdt, hsz, kv, hm⟩ := I.frzK hd
    obtain ⟨rfl, rfl⟩ := dict_ep hod hdt
    obtain ⟨⟨k, v⟩, hkv⟩ : ∃ p, kvs[i]? = some p := ⟨kvs[i], List.getElem?_eq_getElem hi⟩
    obtain ⟨u, hu, ru⟩ := kv_get kv hkv
    have hl : kvs.length = vs.length := Paired.length kv
    have hel : e < s.heap.objs.size := Heap.lt_size he
    have hil : it < s.heap.objs.size := by obtain ⟨_, q, _⟩ := hit; exact Heap.lt_size q
    have nde : e ≠ d := fun z => by have := (hf e (by simp)).1; rw [z, hd] at this; cases this
    have ndi : it ≠ d := fun z => by have := (hf it (by simp)).1; rw [z, hd] at this; cases this
    have D := draws_keys (prog := X.prog) (w := X.w) (A := X.A.in1) (I.ok.hd hc) (it := it) (d := d) (n := kvs.length) hod hsz ndi
    refine wpAny_pyNext_enum_itemD D he ⟨hit, hgd⟩ hi hne (by simp [hne, nde]) fun x h' tk hx' ho hst' hT hsz' hk => ?_
    obtain ⟨en, hen, rfl⟩ := hx'
    have hkey : keyIs k en.key = true := by
      obtain ⟨od2, es2, g1, _, g2, _, hp, _⟩ := id hm
      rw [hgd] at g1
      cases g1
      rw [hdt] at g2
      cases g2
      exact (hp.get? (e := en) (by simpa using hen) hu).1
    refine ⟨_, rfl, wpAny_letOwnedTupleGo_enum (s := { s with heap := h', toks := tk + 1 }) ho fun h'' he' sb => ?_⟩
    have hT2 : h''.get? s.heap.objs.size = some { cls := .type "tuple", data := .seq #[.int i tk, en.key] } := (sb.2 _ (Nat.ne_of_gt hel)).trans hT
    have new : ObjOk X.prog X.w (upd H s.heap.objs.size (.tup [.int (i : Nat), kV k])) h'' s.heap.objs.size (.tup [.int (i : Nat), kV k]) :=
      ⟨by show 2 ≤ sizeLine; decide, [.int i tk, en.key], .cons ⟨_, rfl⟩ (.cons (relV_key hkey) .nil), ⟨_, hT2, rfl, _, rfl⟩⟩
    have I1 : Inv X pins σ (upd H s.heap.objs.size (.tup [.int (i : Nat), kV k])) { s with heap := h'', toks := tk + 1 } :=
      I.turnedNew (ch := [e, it]) (fun b ob hb q => (sb.2 b (fun z => hb (by simp [z]))).trans (hk b ob (fun z => hb (by simp [z])) (fun z => hb (by simp [z])) q)) hf (Nat.le_refl _) new
    refine ⟨.ref s.heap.objs.size, _, I1, rfl, ⟨_, k, v, rfl, I.hok.fresh (Nat.le_refl _), rfl, hkv⟩, ⟨⟨en.key, ?_⟩, hst'.1.at fun o q => (sb.2 it (Ne.symm hne)).trans q, hne⟩, fun b hb => ?_⟩
    · have e1 : ((i + 1 : Nat) : Int) = (i : Int) + 1 := by omega
      rw [e1]; exact he'
    · have hb' : b < s.heap.objs.size := by
        have e' : b = e ∨ b = it := by simpa using hb
        rcases e' with z | z
        · rw [z]; exact hel
        · rw [z]; exact hil
      rw [upd_ne (Nat.ne_of_lt hb')]
      exact (hf b hb).1
  done := by
    intro X hP hw hK hc i pins s σ H E I hf st hg
    subst hP hw hK
    obtain ⟨⟨old, he⟩, hit, hne⟩ := st
    obtain ⟨hd, hi⟩ := hg
    obtain ⟨hs, hgd, hx, es', ep', vs, hdt, hsz, kv, hm⟩ := I.frzK hd
    obtain ⟨rfl, rfl⟩ := dict_ep hod hdt
    obtain ⟨f0, f1, f2, f3, f4, f5⟩ := hf it (by simp)
    exact enumK_end (I.ok.hd hc) he hit hgd hdt hsz hi fun h' eb => ⟨rfl, I.turned (t' := s.toks) (fun b ob hb e => eb b ob hb e) f0 f1 f3 f4 f5⟩
  self := fun A i s Q E st h => let ⟨⟨_, he⟩, _⟩ := st; wpAny_pyIter_enum he h
def iEnumK (ta : TA) : TI := fun σ H R => ta σ H fun vs H1 => ∃ d o kvs, vs = [.ref d] ∧ H1 d = some (.frz o (.dK kvs)) ∧ R (Itek d o kvs) H1
theorem pi_enumK {X : Cx} {e : Expr} {ta : TA} {p pos tpos : Pos} {elts : List Expr} {kk : Nat} (hg : Gl X "enumerate") (hm : X.mg "enumerate" = none) (ha : PA X [e] ta) (hs : starEach [e] X.env = [(false, eval e X.env)] := by rfl) :
    PI X (.Tuple elts kk tpos) (.Call (.Name "enumerate" p) [e] [] pos) (iEnumK ta) := by
  refine ⟨fun pins s σ H R I h => ?_⟩
  refine Call_ (ld_blt I hg hm boot_enumerate (PyProof.Rows.callWith_type1 (thn (ha.run pos pins s σ H _ I h) fun us s1 ⟨vs, H1, I1, r1, q1⟩ => ?_) hs rfl))
  obtain ⟨d, o, kvs, ex, hd, q⟩ := q1
  subst ex
  cases r1 with
  | cons r rr =>
    cases rr
    cases r
    obtain ⟨hsm, hgd, hx, es, ep, vs, hdt, hsz, kv, hmm⟩ := I1.frzK hd
    refine call_enumerate_dict hsm hgd hx hdt fun h' he hit hsz' hk => wpAny_pyIter_enum he ?_
    have I2 : Inv X pins σ H1 { s1 with heap := h' } := I1.kept (t' := s1.toks) hk
    refine ⟨s1.heap.objs.size + 1, [s1.heap.objs.size + 1, s1.heap.objs.size], _, _, H1, rfl, I2, turn_enumK (s1.heap.objs.size + 1) s1.heap.objs.size hdt, ⟨⟨.none, he⟩, by rw [hsz] at hit; exact hit, Nat.succ_ne_self _⟩, fun b hb => ?_, q⟩
    have e' : b = s1.heap.objs.size + 1 ∨ b = s1.heap.objs.size := by simpa using hb
    have hle : s1.heap.objs.size ≤ b := by
      rcases e' with z | z
      · rw [z]; exact Nat.le_add_right _ _
      · rw [z]; exact Nat.le_refl _
    exact I1.fpOk hle (I1.hok.fresh hle)
theorem walk_enumK {d : Addr} {o : Obj} {kvs : List (Key × V)} : Walk (Itek d o kvs) kvs.length (fun H => H d = some (.frz o (.dK kvs))) (YPair (fun i => some (.int (i : Nat))) (fun i => kvs[i]?.map fun kv => kV kv.1)) := by
  refine ⟨fun _ _ hi q => ⟨q, hi⟩, fun _ q => ⟨q, Nat.le_refl _⟩, fun i H x H' _ _ y => ?_⟩
  obtain ⟨T, k, v, h1, h2, h3, h4⟩ := y
  exact ⟨T, .int (i : Nat), kV k, h1, h2, h3, rfl, by simp [h4]⟩
end L2
namespace Mad
open PySem PySem.Spec PyProof.Rows L2
/-! ### only what is read matters: plain facts -/
theorem Ev_path {f : List Nat → Option Int} {G : List Nat → Int → Prop} : ∀ {r : Rcp} {o o' : List Pr} {v a : Int}, wk (dnL f) r o = .ok v o' → (∀ u y, u ∈ o'.map (·.1) → G u y → f u = some y) → r.Ev G a → a = v
  | .num n, o, o', v, a, h, _, e => by
    cases h
    exact e
  | .read t, o, o', v, a, h, hg, e => by
    obtain ⟨e1, rfl⟩ := dnL_ok h
    have := hg t a (setd_keys.mpr (.inr rfl)) e
    rw [e1] at this
    exact (Option.some.inj this).symm
  | .two k x y, o, o', v, a, h, hg, ⟨b, c, h1, h2, e⟩ => by
    obtain ⟨b0, o1, g1, g2⟩ := OutR.bind_ok h
    obtain ⟨c0, o2, g3, g4⟩ := OutR.bind_ok g2
    cases g4
    have k2 := (wk_agree g3).1
    rw [e, Ev_path g1 (fun u y hu => hg u y (k2 u hu)) h1, Ev_path g3 hg h2]
  | .pick x y z, o, o', v, a, h, hg, ⟨b, h1, h2, h3⟩ => by
    obtain ⟨b0, o1, g1, g2⟩ := OutR.bind_ok h
    by_cases c : b0 > 0
    · simp only [if_pos c] at g2
      have k2 := (wk_agree g2).1
      have eb := Ev_path g1 (fun u y hu => hg u y (k2 u hu)) h1
      exact Ev_path g2 hg (h2 (eb ▸ c))
    · simp only [if_neg c] at g2
      have k2 := (wk_agree g2).1
      have eb := Ev_path g1 (fun u y hu => hg u y (k2 u hu)) h1
      exact Ev_path g2 hg (h3 (eb ▸ c))
  | .choose x ns, o, o', v, a, h, hg, ⟨b, h1, h2⟩ => by
    obtain ⟨b0, o1, g1, g2⟩ := OutR.bind_ok h
    obtain ⟨e1, rfl⟩ := dnL_ok g2
    have eb := Ev_path g1 (fun u y hu => hg u y (setd_keys.mpr (.inl hu))) h1
    rw [eb] at h2
    have := hg _ a (setd_keys.mpr (.inr rfl)) h2
    rw [e1] at this
    exact (Option.some.inj this).symm
theorem Fit_path {f : List Nat → Option Int} {F G : List Nat → Int → Prop} (hF : ∀ u x, f u = some x → F u x) : ∀ {r : Rcp} {o o' : List Pr} {v : Int}, wk (dnL f) r o = .ok v o' → (∀ u y, u ∈ o'.map (·.1) → G u y → f u = some y) → r.Fit F → r.Fit G
  | .num _, _, _, _, _, _, _ => trivial
  | .read _, _, _, _, _, _, _ => trivial
  | .two k x y, o, o', v, h, hg, ⟨f1, f2⟩ => by
    obtain ⟨b0, o1, g1, g2⟩ := OutR.bind_ok h
    obtain ⟨c0, o2, g3, g4⟩ := OutR.bind_ok g2
    cases g4
    have k2 := (wk_agree g3).1
    have hg1 := fun u y hu => hg u y (k2 u hu)
    obtain ⟨q1, q2⟩ := f2 b0 ((wk_ev g1).mono fun u x e => hF u x e.1)
    refine ⟨Fit_path hF g1 hg1 f1, fun a ha => ?_⟩
    obtain rfl := Ev_path g1 hg1 ha
    refine ⟨Fit_path hF g3 hg q1, fun c hc e => ?_⟩
    obtain rfl := Ev_path g3 hg hc
    exact q2 _ ((wk_ev g3).mono fun u x e => hF u x e.1) e
  | .pick x y z, o, o', v, h, hg, ⟨f1, f2⟩ => by
    obtain ⟨b0, o1, g1, g2⟩ := OutR.bind_ok h
    have q := f2 b0 ((wk_ev g1).mono fun u x e => hF u x e.1)
    by_cases c : b0 > 0
    · simp only [if_pos c] at g2
      have k2 := (wk_agree g2).1
      have hg1 := fun u y hu => hg u y (k2 u hu)
      refine ⟨Fit_path hF g1 hg1 f1, fun a ha => ?_⟩
      obtain rfl := Ev_path g1 hg1 ha
      exact ⟨fun _ => Fit_path hF g2 hg (q.1 c), fun n => absurd c n⟩
    · simp only [if_neg c] at g2
      have k2 := (wk_agree g2).1
      have hg1 := fun u y hu => hg u y (k2 u hu)
      refine ⟨Fit_path hF g1 hg1 f1, fun a ha => ?_⟩
      obtain rfl := Ev_path g1 hg1 ha
      exact ⟨fun p => absurd p c, fun _ => Fit_path hF g2 hg (q.2 c)⟩
  | .choose x ns, o, o', v, h, hg, fx => by
    obtain ⟨b0, o1, g1, g2⟩ := OutR.bind_ok h
    obtain ⟨e1, rfl⟩ := dnL_ok g2
    exact Fit_path (r := x) hF g1 (fun u y hu => hg u y (setd_keys.mpr (.inl hu))) fx
theorem val_all {g : House} : ∀ {own : List Pr}, (∀ p ∈ own, Val g p.1 p.2) → ∃ N, ∀ p ∈ own, val g N p.1 = some p.2
  | [], _ => ⟨0, fun _ h => nomatch h⟩
  | p :: own, h => by
    obtain ⟨n, e⟩ := h p List.mem_cons_self
    obtain ⟨N, hN⟩ := val_all fun q hq => h q (List.mem_cons_of_mem _ hq)
    refine ⟨max n N, fun q hq => ?_⟩
    rcases List.mem_cons.mp hq with rfl | hq
    · exact val_le (Nat.le_max_left _ _) e
    · exact val_le (Nat.le_max_right _ _) (hN q hq)
/-- a name's work: what it reads, told elsewhere alike -/
structure Work (h : House) (t : List Nat) (v : Int) (own : List Pr) (r : Rcp) : Prop where
  no : seen h.given t = none
  rc : rcpOf h.recs t = some r
  wk : ∃ n, wk (dnL (val h n)) r [] = .ok v own
  self : ¬ t ∈ own.map (·.1)
theorem Val.worked {h : House} {t : List Nat} {v : Int} (hv : Val h t v) (e : seen h.given t = none) : ∃ own r, Work h t v own r := by
  obtain ⟨m, hm⟩ := hv
  obtain ⟨k, _, ek, nk⟩ := val_least hm
  rw [val_succ, e] at ek
  cases e2 : rcpOf h.recs t with
  | none => rw [e2] at ek; cases ek
  | some r =>
    rw [e2] at ek
    cases e3 : _root_.Mad.wk (dnL (val h k)) r [] with
    | err x => simp only [e3] at ek; cases ek
    | ok w o =>
      simp only [e3] at ek
      cases ek
      refine ⟨o, r, e, e2, ⟨k, e3⟩, fun z => ?_⟩
      obtain ⟨p, hp, ep⟩ := List.mem_map.mp z
      have := wk_told (f := val h k) (fun p (h : p ∈ ([] : List Pr)) => nomatch h) e3 p hp
      rw [show p.1 = t from ep, nk] at this
      cases this
section
variable {h g : House} {t : List Nat} {v : Int} {own : List Pr} {r : Rcp}
theorem Work.rds (W : Work h t v own r) : Rds h t own := by
  obtain ⟨n, e⟩ := W.wk
  exact ⟨W.no, r, n, v, W.rc, e⟩
theorem Work.val (W : Work h t v own r) : ∀ p ∈ own, Val h p.1 p.2 := W.rds.val
/-- another house in which just what is read stands alike -/
theorem Work.told (W : Work h t v own r) (hr : ∀ p ∈ own, Val g p.1 p.2) (hn : seen g.given t = none) (hc : rcpOf g.recs t = some r) : Val g t v ∧ Rds g t own := by
  obtain ⟨n, e⟩ := W.wk
  obtain ⟨N, hN⟩ := val_all hr
  have key := (wk_agree e).2 (_root_.Mad.val g N) fun u x hu hk => by
    obtain ⟨p, hp, ep⟩ := List.mem_map.mp hk
    have h1 := wk_told (f := _root_.Mad.val h n) (fun p (h : p ∈ ([] : List Pr)) => nomatch h) e p hp
    have ep : p.1 = u := ep
    rw [ep, hu] at h1
    have h2 := hN p hp
    rw [ep] at h2
    rw [h2, ← Option.some.inj h1]
  exact ⟨.work hn hc key, ⟨hn, r, N, v, hc, key⟩⟩
theorem Work.fit (W : Work h t v own r) (hr : ∀ p ∈ own, Val g p.1 p.2) (fit : r.Fit (Val h)) : r.Fit (Val g) := by
  obtain ⟨n, e⟩ := W.wk
  refine Fit_path (f := _root_.Mad.val h n) (F := Val h) (fun u x hx => ⟨n, hx⟩) e (fun u y hu hy => ?_) fit
  obtain ⟨p, hp, ep⟩ := List.mem_map.mp hu
  have ep : p.1 = u := ep
  have h1 := wk_told (f := _root_.Mad.val h n) (fun p (h : p ∈ ([] : List Pr)) => nomatch h) e p hp
  have h2 := (hr p hp).det (ep ▸ hy)
  rw [← ep, h1, h2]
end
/-! ### the four houses -/
def nowh : List Nat := [110, 111, 119, 104, 101, 114, 101]
section
variable {h g : House} {t : List Nat} {v : Int} {own : List Pr} {r : Rcp} {beta : Nat → Nat}
theorem Work.okR (HH : HouseOk 5 h beta) (W : Work h t v own r) (hr : ∀ p ∈ own, Val g p.1 p.2) (h2 : ∀ p ∈ g.recs, Nm p.1 ∧ (p.2 = r ∨ p.2 = .read nowh)) (h3 : ∀ p ∈ g.given, Nm p.1) : HouseOk 5 g beta := by
  have m := rcpOf_mem W.rc
  obtain ⟨_, wn, dp⟩ := HH.rcp _ m
  refine ⟨⟨fun p hp => ?_, h3⟩, fun p hp _ => ?_⟩
  · obtain ⟨a, e | e⟩ := h2 p hp
    · rw [e]; exact ⟨a, wn, dp⟩
    · rw [e]; exact ⟨a, ⟨by decide, by decide, by decide⟩, by decide⟩
  · obtain ⟨_, e | e⟩ := h2 p hp
    · rw [e]; exact W.fit hr (HH.fit _ m W.no)
    · rw [e]; exact trivial
/-- the third: what is read is given too, the other names are as they were -/
theorem Work.third (W : Work h t v own r) (hg : ∀ u x, seen g.given u = some x → (u, x) ∈ own ∨ (seen h.given u = some x)) (hrec : ∀ u x, rcpOf g.recs u = some x → rcpOf h.recs u = some x ∧ seen h.given u = none) : ∀ (n : Nat) (u : List Nat) (x : Int), _root_.Mad.val g n u = some x → Val h u x
  | 0, u, x, e => by cases e
  | n + 1, u, x, e => by
    rw [val_succ] at e
    cases e1 : seen g.given u with
    | some y =>
      rw [e1] at e
      cases e
      rcases hg u x e1 with hm | hs
      · exact W.val _ hm
      · exact .given hs
    | none =>
      rw [e1] at e
      cases e2 : rcpOf g.recs u with
      | none => rw [e2] at e; cases e
      | some s =>
        rw [e2] at e
        obtain ⟨q1, q2⟩ := hrec u s e2
        cases e3 : _root_.Mad.wk (dnL (_root_.Mad.val g n)) s [] with
        | err z => simp only [e3] at e; cases e
        | ok w o =>
          simp only [e3] at e
          cases e
          exact .work_ev q2 q1 ((wk_ev e3).mono fun u y hy => W.third hg hrec n u y hy.1)
theorem Work.okT (HH : HouseOk 5 h beta) (W : Work h t v own r) (hg : ∀ u x, seen g.given u = some x → (u, x) ∈ own ∨ (seen h.given u = some x)) (hrec : ∀ u x, rcpOf g.recs u = some x → rcpOf h.recs u = some x ∧ seen h.given u = none)
    (h2 : ∀ p ∈ g.recs, p ∈ h.recs ∧ seen h.given p.1 = none) (h3 : ∀ p ∈ g.given, Nm p.1) : HouseOk 5 g beta :=
  ⟨⟨fun p hp => HH.rcp p (h2 p hp).1, h3⟩, fun p hp _ => (HH.fit p (h2 p hp).1 (h2 p hp).2).mono fun u x ⟨n, e⟩ => W.third hg hrec n u x e⟩
end
/-! #### dicts of numbers put together -/
theorem merA_app {α : Type} : ∀ {m l : List (List Nat × α)}, (m.map (·.1)).Nodup → (∀ t ∈ m.map (·.1), ¬ t ∈ l.map (·.1)) → merA l m = l ++ m
  | [], l, _, _ => (List.append_nil l).symm
  | p :: m, l, nd, h => by
    obtain ⟨n1, n2⟩ := List.nodup_cons.mp nd
    show merA (putA l p.1 p.2) m = _
    rw [putA_new p.2 (h p.1 List.mem_cons_self), merA_app n2 fun t ht z => by
      rw [List.map_append] at z
      rcases List.mem_append.mp z with z | z
      · exact h t (List.mem_cons_of_mem _ ht) z
      · rw [show t = p.1 from List.mem_singleton.mp z] at ht
        exact n1 ht, List.append_assoc]
    rfl
theorem merA_nil {α : Type} {m : List (List Nat × α)} (h : (m.map (·.1)).Nodup) : merA [] m = m := merA_app h fun _ _ z => nomatch z
theorem mem_putA_old {α : Type} {l : List (List Nat × α)} {t : List Nat} {a : α} {q : List Nat × α} (hq : q ∈ l) (h : q.1 ≠ t) : q ∈ putA l t a := by
  unfold putA
  split
  · exact List.mem_map.mpr ⟨q, hq, if_neg h⟩
  · exact List.mem_append_left _ hq
theorem mem_putA_new {α : Type} (l : List (List Nat × α)) (t : List Nat) (a : α) : (t, a) ∈ putA l t a := by
  unfold putA
  split
  · rename_i c
    obtain ⟨p, hp, e⟩ := List.any_eq_true.mp c
    have e := of_decide_eq_true e
    exact List.mem_map.mpr ⟨p, hp, by rw [if_pos e, e]⟩
  · exact List.mem_append_right _ (List.mem_singleton.mpr rfl)
theorem merA_old {α : Type} {q : List Nat × α} : ∀ {m l : List (List Nat × α)}, q ∈ l → ¬ q.1 ∈ m.map (·.1) → q ∈ merA l m
  | [], _, h, _ => h
  | p :: m, l, h, n => merA_old (m := m) (mem_putA_old h fun e => n (by rw [e]; exact List.mem_cons_self)) fun z => n (List.mem_cons_of_mem _ z)
theorem merA_new {α : Type} {q : List Nat × α} : ∀ {m l : List (List Nat × α)}, (m.map (·.1)).Nodup → q ∈ m → q ∈ merA l m
  | p :: m, l, nd, h => by
    obtain ⟨n1, n2⟩ := List.nodup_cons.mp nd
    rcases List.mem_cons.mp h with rfl | h
    · exact merA_old (m := m) (mem_putA_new l q.1 q.2) n1
    · exact merA_new (m := m) n2 h
theorem seen_nd {l : List Pr} (nd : (l.map (·.1)).Nodup) {p : Pr} (h : p ∈ l) : seen l p.1 = some p.2 := by
  obtain ⟨i, hi⟩ := List.mem_iff_getElem?.mp h
  exact seen_at nd hi
def dropA (l : List Pr) (t : List Nat) : List Pr := l.filter fun p => decide (p.1 ≠ t)
theorem nums_drop : ∀ (l : List Pr) (t : List Nat), dropK (numsK l) (kT (SX.S t)) = numsK (dropA l t)
  | [], _ => rfl
  | p :: l, t => by
    have ih := nums_drop l t
    unfold dropK at ih
    show (((kT (SX.S p.1), V.int p.2) :: numsK l).filter fun kv => decide (kv.1 ≠ kT (SX.S t))) = numsK ((p :: l).filter fun p => decide (p.1 ≠ t))
    by_cases c : p.1 = t
    · rw [List.filter_cons_of_neg (by simp [c]), List.filter_cons_of_neg (by simp [c])]
      exact ih
    · have hk : decide (((kT (SX.S p.1), V.int p.2) : Key × V).1 ≠ kT (SX.S t)) = true := decide_eq_true fun z => c (kS_inj z)
      rw [List.filter_cons_of_pos (p := fun kv : Key × V => decide (kv.1 ≠ kT (SX.S t))) hk, List.filter_cons_of_pos (p := fun p : Pr => decide (p.1 ≠ t)) (show decide (p.1 ≠ t) = true from decide_eq_true c)]
      exact congrArg ((kT (SX.S p.1), V.int p.2) :: ·) ih
theorem drop_seen {l : List Pr} {t : List Nat} (nd : (l.map (·.1)).Nodup) : seen (dropA l t) t = none ∧ ∀ p ∈ l, p.1 ≠ t → seen (dropA l t) p.1 = some p.2 := by
  have nd2 : ((dropA l t).map (·.1)).Nodup := nd.sublist (List.Sublist.map _ List.filter_sublist)
  refine ⟨seen_not fun z => ?_, fun p hp n => seen_nd nd2 (List.mem_filter.mpr ⟨hp, decide_eq_true n⟩)⟩
  obtain ⟨p, hp, e⟩ := List.mem_map.mp z
  exact of_decide_eq_true (List.mem_filter.mp hp).2 e
/-! #### the four houses, one by one -/
theorem seen_app_none {l : List Pr} {u : List Nat} (h : ¬ u ∈ l.map (·.1)) : seen l u = none := seen_not h
theorem Val.nm {dm : Nat} {h : House} {beta : Nat → Nat} (HH : HouseOk dm h beta) {u : List Nat} {x : Int} (v : Val h u x) : Nm u := by
  cases e : seen h.given u with
  | some y => exact HH.n.gvn _ (seen_mem e)
  | none =>
    obtain ⟨_, _, r, _, e2, _⟩ := v.rds e
    exact (HH.rcp _ (rcpOf_mem e2)).1
theorem rcpOf_cons (p : RcpNm) (l : List RcpNm) (t : List Nat) : rcpOf (p :: l) t = if p.1 = t then some p.2 else rcpOf l t := getA_cons p l t
theorem rcpOf_one (t : List Nat) (r : Rcp) : rcpOf [(t, r)] t = some r := by rw [rcpOf_cons, if_pos rfl]
theorem rcpOf_app {l m : List RcpNm} {t : List Nat} (h : ¬ t ∈ l.map (·.1)) : rcpOf (l ++ m) t = rcpOf m t := by
  induction l with
  | nil => rfl
  | cons p l ih =>
    rw [List.cons_append, rcpOf_cons, if_neg fun e => h (by rw [← e]; exact List.mem_cons_self), ih fun z => h (List.mem_cons_of_mem _ z)]
theorem rcpOf_put (l : List RcpNm) (t : List Nat) (r : Rcp) : rcpOf (putA l t r) t = some r := by
  by_cases c : t ∈ l.map (·.1)
  · unfold putA
    rw [if_pos (by obtain ⟨p, hp, e⟩ := List.mem_map.mp c; exact List.any_eq_true.mpr ⟨p, hp, decide_eq_true e⟩)]
    induction l with
    | nil => exact nomatch c
    | cons p l ih =>
      rw [List.map_cons, rcpOf_cons]
      by_cases d : p.1 = t
      · rw [if_pos d, if_pos d]
      · rw [if_neg d, if_neg d]
        exact ih ((List.mem_cons.mp c).resolve_left fun e => d e.symm)
  · rw [putA_new r c, rcpOf_app c, rcpOf_one]
theorem rcpOf_nd {l : List RcpNm} (nd : (l.map (·.1)).Nodup) {p : RcpNm} (h : p ∈ l) : rcpOf l p.1 = some p.2 := by
  induction l with
  | nil => exact nomatch h
  | cons q l ih =>
    obtain ⟨n1, n2⟩ := List.nodup_cons.mp nd
    rw [rcpOf_cons]
    rcases List.mem_cons.mp h with rfl | h
    · rw [if_pos rfl]
    · rw [if_neg fun e => n1 (by show q.1 ∈ _; rw [e]; exact List.mem_map.mpr ⟨p, h, rfl⟩), ih n2 h]
/-- a house in which t has its recipe, worth and reads -/
structure Like (t : List Nat) (v : Int) (own : List Pr) (g : House) : Prop where
  ok : HouseOk 5 g beta17
  few : g.recs.length + 1 ≤ 20
  sz : g.given.length + g.recs.length ≤ 100000
  val : Val g t v
  rds : Rds g t own
section
variable {h : House} {t : List Nat} {v : Int} {own : List Pr} {r : Rcp} {beta : Nat → Nat}
theorem Work.own_nm (HH : HouseOk 5 h beta) (W : Work h t v own r) : ∀ p ∈ own, Nm p.1 := fun p hp => (W.val p hp).nm HH
theorem Work.given_own (W : Work h t v own r) {g : House} (e : g.given = own) : ∀ p ∈ own, Val g p.1 p.2 := fun p hp => .given (by rw [e]; exact seen_nd W.rds.nd hp)
theorem Work.like1 (HH : HouseOk 5 h beta17) (W : Work h t v own r) (ht : Nm t) (l : own.length ≤ 100) : Like t v own ⟨own, [(t, r)]⟩ := by
  have hr := W.given_own (g := ⟨own, [(t, r)]⟩) rfl
  obtain ⟨h1, h2⟩ := W.told (g := ⟨own, [(t, r)]⟩) hr (seen_not W.self) (rcpOf_one t r)
  exact ⟨W.okR HH hr (fun p hp => by rw [List.mem_singleton.mp hp]; exact ⟨ht, .inl rfl⟩) (W.own_nm HH), by show 1 + 1 ≤ 20; decide, by show own.length + 1 ≤ 100000; omega, h1, h2⟩
theorem Work.like2 (HH : HouseOk 5 h beta17) (W : Work h t v own r) (ht : Nm t) (l : own.length ≤ 100) {ns : List (List Nat)} (hn : ∀ u ∈ ns, Nm u) (nl : ns.length ≤ 18) : Like t v own ⟨own, putA (ns.map fun u => (u, Rcp.read nowh)) t r⟩ := by
  have hr := W.given_own (g := ⟨own, putA (ns.map fun u => (u, Rcp.read nowh)) t r⟩) rfl
  obtain ⟨h1, h2⟩ := W.told (g := ⟨own, putA (ns.map fun u => (u, Rcp.read nowh)) t r⟩) hr (seen_not W.self) (rcpOf_put _ t r)
  have pl : (putA (ns.map fun u => (u, Rcp.read nowh)) t r).length ≤ 19 := by
    have := putA_len (ns.map fun u => (u, Rcp.read nowh)) t r
    rw [List.length_map] at this
    rw [this]
    split <;> omega
  refine ⟨W.okR HH hr (fun p hp => ?_) (W.own_nm HH), by show (putA _ t r).length + 1 ≤ 20; omega, by show own.length + (putA _ t r).length ≤ 100000; omega, h1, h2⟩
  rcases mem_putA hp with rfl | hp
  · exact ⟨ht, .inl rfl⟩
  · obtain ⟨u, hu, rfl⟩ := List.mem_map.mp hp
    exact ⟨hn u hu, .inr rfl⟩
theorem Work.like3 (HH : HouseOk 5 h beta17) (W : Work h t v own r) (ht : Nm t) (l : own.length ≤ 100) (gnd : (h.given.map (·.1)).Nodup) (rnd : (h.recs.map (·.1)).Nodup) (lg : h.given.length ≤ 100) (lr : h.recs.length ≤ 19) :
    Like t v own ⟨merA h.given own, h.recs.filter fun p => decide (¬ p.1 ∈ (merA h.given own).map (·.1))⟩ := by
  have ond := W.rds.nd
  have mnd : ((merA h.given own).map (·.1)).Nodup := merA_nd gnd
  have hr : ∀ p ∈ own, Val ⟨merA h.given own, h.recs.filter fun p => decide (¬ p.1 ∈ (merA h.given own).map (·.1))⟩ p.1 p.2 := fun p hp => .given (seen_nd mnd (merA_new ond hp))
  have nt : ¬ t ∈ (merA h.given own).map (·.1) := fun z => by
    rcases merA_keys.mp z with z | z
    · exact seen_none W.no z
    · exact W.self z
  have hc : rcpOf (h.recs.filter fun p => decide (¬ p.1 ∈ (merA h.given own).map (·.1))) t = some r := by
    have := rcpOf_mem W.rc
    exact rcpOf_nd (rnd.sublist (List.Sublist.map _ List.filter_sublist)) (p := (t, r)) (List.mem_filter.mpr ⟨this, decide_eq_true nt⟩)
  obtain ⟨h1, h2⟩ := W.told (g := ⟨merA h.given own, h.recs.filter fun p => decide (¬ p.1 ∈ (merA h.given own).map (·.1))⟩) hr (seen_not nt) hc
  have out : ∀ p ∈ h.recs.filter fun p => decide (¬ p.1 ∈ (merA h.given own).map (·.1)), p ∈ h.recs ∧ seen h.given p.1 = none := fun p hp => by
    obtain ⟨a, b⟩ := List.mem_filter.mp hp
    have b := of_decide_eq_true b
    exact ⟨a, seen_not fun z => b (merA_keys.mpr (.inl z))⟩
  have ml : (merA h.given own).length ≤ 200 := by
    have := sub_lenR mnd (m := h.given.map (·.1) ++ own.map (·.1)) fun u hu => (merA_keys.mp hu).elim (List.mem_append_left _) (List.mem_append_right _)
    rw [List.length_map, List.length_append, List.length_map, List.length_map] at this
    omega
  have fl : (h.recs.filter fun p => decide (¬ p.1 ∈ (merA h.given own).map (·.1))).length ≤ 19 := Nat.le_trans (List.length_filter_le _ _) lr
  refine ⟨W.okT HH (fun u x e => ?_) (fun u x e => ?_) out (fun p hp => ?_), by show (List.filter _ _).length + 1 ≤ 20; omega, by show (merA h.given own).length + (List.filter _ _).length ≤ 100000; omega, h1, h2⟩
  · rcases mem_merA (seen_mem e) with m | m
    · exact .inr (seen_nd gnd m)
    · exact .inl m
  · obtain ⟨a, b⟩ := out _ (rcpOf_mem e)
    exact ⟨rcpOf_nd rnd a, b⟩
  · rcases mem_merA hp with m | m
    · exact HH.n.gvn p m
    · exact W.own_nm HH p m
theorem Work.like4 (HH : HouseOk 5 h beta17) (W : Work h t v own r) (ht : Nm t) (l : own.length ≤ 100) {st : List Pr} (snd : (st.map (·.1)).Nodup) (sn : ∀ p ∈ st, Nm p.1) (sl : st.length ≤ 100) : Like t v own ⟨dropA (merA st own) t, [(t, r)]⟩ := by
  have ond := W.rds.nd
  have mnd : ((merA st own).map (·.1)).Nodup := merA_nd snd
  obtain ⟨d1, d2⟩ := drop_seen (t := t) mnd
  have hr : ∀ p ∈ own, Val ⟨dropA (merA st own) t, [(t, r)]⟩ p.1 p.2 := fun p hp => .given (d2 p (merA_new ond hp) fun e => W.self (by rw [← e]; exact List.mem_map.mpr ⟨p, hp, rfl⟩))
  obtain ⟨h1, h2⟩ := W.told (g := ⟨dropA (merA st own) t, [(t, r)]⟩) hr d1 (rcpOf_one t r)
  have ml : (merA st own).length ≤ 200 := by
    have := sub_lenR mnd (m := st.map (·.1) ++ own.map (·.1)) fun u hu => (merA_keys.mp hu).elim (List.mem_append_left _) (List.mem_append_right _)
    rw [List.length_map, List.length_append, List.length_map, List.length_map] at this
    omega
  have dl : (dropA (merA st own) t).length ≤ 200 := Nat.le_trans (List.length_filter_le _ _) ml
  refine ⟨W.okR HH hr (fun p hp => by rw [List.mem_singleton.mp hp]; exact ⟨ht, .inl rfl⟩) (fun p hp => ?_), by show 1 + 1 ≤ 20; decide, by show (dropA (merA st own) t).length + 1 ≤ 100000; omega, h1, h2⟩
  rcases mem_merA (List.mem_filter.mp hp).1 with m | m
  · exact sn p m
  · exact W.own_nm HH p m
end
/-! #### lists of pairs made into dicts -/
theorem prs_paired {K : PySem.W.Frag} {H : Hp} : ∀ {ps : List Pr} {as : List Addr}, Prs H ps (as.map V.ref) → Paired (fun p kv => SqT K H p [kV kv.1, kv.2]) as (numsK ps)
  | [], [], _ => .nil
  | p :: ps, a :: as, ⟨⟨t, e, ht⟩, h⟩ => by
    cases e
    exact .cons (SqT.of ht) (prs_paired h)
  | [], _ :: _, h => h.elim
  | _ :: _, [], h => h.elim
theorem numsK_self {ps : List Pr} (nd : (ps.map (·.1)).Nodup) : mergeK [] (numsK ps) = numsK ps := by
  have := nums_merge [] ps
  rw [merA_nil nd] at this
  exact this
theorem Val.key {h : House} {u : List Nat} {x : Int} (v : Val h u x) : u ∈ h.given.map (·.1) ++ h.recs.map (·.1) := by
  cases e : seen h.given u with
  | some y => exact List.mem_append_left _ (seen_key e)
  | none =>
    obtain ⟨_, _, r, _, e2, _⟩ := v.rds e
    exact List.mem_append_right _ (List.mem_map.mpr ⟨_, rcpOf_mem e2, rfl⟩)
theorem Rds.len {h : House} {t : List Nat} {own : List Pr} (a : Rds h t own) : own.length ≤ h.given.length + h.recs.length := by
  have := sub_lenR a.nd (m := h.given.map (·.1) ++ h.recs.map (·.1)) fun u hu => by
    obtain ⟨p, hp, rfl⟩ := List.mem_map.mp hu
    exact (a.val p hp).key
  rw [List.length_map, List.length_append, List.length_map, List.length_map] at this
  exact this
theorem pow45 : (10 : Int) ^ (45 : Int).toNat = 1000000000000000000000000000000000000000000000 := by decide +kernel
def strg (fr : Int) : List Pr := names18.map fun s => (s, fr + 7 * ((SX.S s).length : Int))
theorem strg_keys (fr : Int) : (strg fr).map (·.1) = names18 := by
  unfold strg
  rw [List.map_map]
  exact List.map_id _
theorem paired_snoc {α β : Type} {F : α → β → Prop} {a : α} {b : β} : ∀ {xs : List α} {ys : List β}, Paired F xs ys → F a b → Paired F (xs ++ [a]) (ys ++ [b])
  | _, _, .nil, f => .cons f .nil
  | _, _, .cons g h, f => .cons g (paired_snoc h f)
/-! ### whole: only what is read matters -/
open LamX NdefX
theorem prs_pairs13 {K : PySem.W.Frag} {H : Hp} : ∀ {ps : List Pr} {vs : List V}, Prs H ps vs → ∃ as : List Addr, vs = as.map V.ref ∧ Paired (fun p kv => SqT K H p [kV kv.1, kv.2]) as (numsK ps)
  | [], [], _ => ⟨[], rfl, .nil⟩
  | p :: ps, v :: vs, ⟨⟨t, e, ht⟩, h⟩ => by
    obtain ⟨as, e2, h2⟩ := prs_pairs13 h
    exact ⟨t :: as, by rw [e, e2]; rfl, .cons (SqT.of ht) h2⟩
  | [], _ :: _, h => h.elim
  | _ :: _, [], h => h.elim
section
variable {P : Program} {w : World} {K : PySem.W.Frag} {mg : Str → Option Value} {base : Heap} {CN CR : Addr} {Tb : List NTab}
abbrev s_law : Stmt := topS 20
abbrev N_law : List Str := ["script", "house", "given", "recipes", "k", "name", "worth", "reads", "alone", "far", "strange", "beside", "fixed", "others", "some", "other"]
theorem sc_law : FnScope N_law ["script"] (defScope s_law) := ⟨rfl, rfl, rfl, by decide +kernel, rfl, by decide +kernel, by decide +kernel⟩

theorem ok_law {fl : Addr} {fd : FuncData} (F : Fun K "law" "law" s_law fl fd) (T : Txt K mg) (C_cell : Cal P w K mg base CX0 1 "_law_cell" ["script", "k"] (spCellF K)) (C_house : Cal P w K mg base CX0 8 "_law_house" ["script", "first"] (spHouseF K)) (C_nms : Cal P w K mg base CX0 1 "_law_names" [] spNamesF)
    (C__law_worth_told : Cal P w K mg base CX0 (lvR 5 20 + 3) "_law_worth_told" ["house", "name"] (spWT Tb 5 20)) (C_w : Cal P w K mg base (L2.CX P w) (lvR 5 20 + 2) "worth_of" ["house", "name"] (spWorthOf CN CR Tb 5 20))
    (C_r : Cal P w K mg base (L2.CX P w) (lvR 5 20 + 2) "reads_of" ["house", "name"] (spReadsOf CN CR Tb 5 20)) : FnOk P w K mg base CX0 (lvR 5 20 + 4) fl fd ["script"] (spLawT K Tb) := by
  have C__law_cell := C_cell.mono (show 1 ≤ lvR 5 20 + 3 by decide)
  have C__law_house := C_house.mono (show 8 ≤ lvR 5 20 + 3 by decide)
  have C__law_names := C_nms.mono (show 1 ≤ lvR 5 20 + 3 by decide)
  have C_worth_of := C_w.mono (show lvR 5 20 + 2 ≤ lvR 5 20 + 3 by decide)
  have C_reads_of := C_r.mono (show lvR 5 20 + 2 ≤ lvR 5 20 + 3 by decide)
  refine F.ok sc_law (fun vs H Q E h => ?_) (fun cdv A outer s H vs Q E hr h => ?_)
  · obtain ⟨a, ns, rfl, _⟩ := h
    rfl
  obtain ⟨a, ns, rfl, hS, h63, hT, q⟩ := h
  have hu : (cxOf CX0 P w K mg base N_law "law" (defScope s_law) fl cdv A outer s H E).nox.A.units + 1 < cLine := Nat.lt_of_le_of_lt (Nat.add_le_add_left (by decide : 1 ≤ 64) _) hr.units
  have le : ∀ n : Nat, n ≤ 100 → n ≤ sizeLine := fun n h => le_line (Nat.le_trans h (by decide))
  refine ⟨_, (pss_cons (ps_set (i := 1) sc_law.nd rfl (Or.inl rfl) (pe_cal C__law_house (hr.mono (by first | decide | omega)) pass0 (pa_cons (pv 0) (pa_cons pe_int pa_nil))))
      (pss_cons (ps_asg (pv 1) (pg_tup rfl (pgs_cons (pg_name (i := 2) sc_law.nd rfl (Or.inl rfl)) (pgs_cons (pg_name (i := 3) sc_law.nd rfl (Or.inr rfl)) pgs_nil))))
      (pss_cons (ps_lock (ps_for PassesOwn.never rfl (pi_enumK (by rfl) T.b_enumerate (pa_cons (pv 3) pa_nil)) (pg_tup rfl (pgs_cons (pg_name (i := 4) sc_law.nd rfl (Or.inl rfl)) (pgs_cons (pg_name (i := 5) sc_law.nd rfl (Or.inl rfl)) pgs_nil)))
        (pss_cons (ps_set (i := 6) sc_law.nd rfl (Or.inl rfl) (pe_cal C__law_worth_told (hr.mono (by first | decide | omega)) pass0 (pa_cons (pv 1) (pa_cons (pv 5) pa_nil))))
      (pss_one (ps_if (pt_cmpR op_notN (pv 6) pe_non (nomark _))
        (pss_cons (ps_set (i := 7) sc_law.nd rfl (Or.inr rfl) (pe_cal C_reads_of (hr.mono (by first | decide | omega)) passL (pa_cons (pv 1) (pa_cons (pv 5) pa_nil))))
      (pss_cons (ps_set (i := 8) sc_law.nd rfl (Or.inl rfl) (pe_tupA (pa_cons (pe_callTy (call_dictPA (K := K) rfl rfl) (by rfl) T.b_dict (by decide +kernel) (pa_cons (pv 7) pa_nil)) (pa_cons (pe_disp (pps_cons (pv 5) (pe_dget hu (pv 3) (pv 5) (fun _ _ => rfl)) pps_nil) (by rfl) (by rfl) (fun z => by cases z) (by decide)) pa_nil))))
      (pss_cons (ps_set (i := 9) sc_law.nd rfl (Or.inr rfl) (pe_op op_mod (pe_cal C__law_cell (hr.mono (by first | decide | omega)) pass0 (pa_cons (pv 0) (pa_cons (pv 4) pa_nil))) (pe_op op_mulW (pe_op op_pow pe_int pe_int) (pe_op op_pow pe_int pe_int))))
      (pss_cons (ps_set (i := 10) sc_law.nd rfl (Or.inl rfl) (pe_callTy (call_dictPA (K := K) rfl rfl) (by rfl) T.b_dict (by decide +kernel) (pa_cons (pe_lc (own := [("other", 15)]) (g := gName 15)  (by rfl) sc_law.nd  (pi_list (pe_cal0 C__law_names (hr.mono (by first | decide | omega)) pass0)) (blkOk_by (own := [("other", 15)]) (N := N_law) (sc := defScope s_law) (by decide +kernel)) (fun _ _ _ _ _ => (pg_name (i := 15) sc_law.nd rfl (Or.inl rfl))) (fun _ _ _ _ _ => pts_nil) (fun _ _ _ _ _ => (pe_tupA (pa_cons (pv 15) (pa_cons (pe_op op_add (pv 9) (pe_op op_mul pe_int (pe_callB call_len_str (by rfl) T.b_len PySem.boot_len (pa_cons (pv 15) pa_nil)))) pa_nil))))) pa_nil)))
      (pss_cons (ps_set (i := 11) sc_law.nd rfl (Or.inl rfl) (pe_callTy (call_dictPA (K := K) rfl rfl) (by rfl) T.b_dict (by decide +kernel) (pa_cons (pe_lc (own := [("other", 15)]) (g := gName 15)  (by rfl) sc_law.nd  (pi_list (pe_cal0 C__law_names (hr.mono (by first | decide | omega)) pass0)) (blkOk_by (own := [("other", 15)]) (N := N_law) (sc := defScope s_law) (by decide +kernel)) (fun _ _ _ _ _ => (pg_name (i := 15) sc_law.nd rfl (Or.inl rfl))) (fun _ _ _ _ _ => (pts_one (pt_cmp (pc_dnotin hu (pv 15) (pe_callTy (call_dictPA (K := K) rfl rfl) (by rfl) T.b_dict (by decide +kernel) (pa_cons (pv 7) pa_nil)))))) (fun _ _ _ _ _ => (pe_tupA (pa_cons (pv 15) (pa_cons (pe_tupA (pa_cons pe_str (pa_cons pe_str pa_nil))) pa_nil))))) pa_nil)))
      (pss_cons (ps_dput hu (pv 11) (pv 5) (pe_dget hu (pv 3) (pv 5) (fun _ _ => rfl)) rfl)
      (pss_cons (ps_set (i := 12) sc_law.nd rfl (Or.inr rfl) (pe_callTy call_dictDA (by rfl) T.b_dict (by decide +kernel) (pa_cons (pv 2) pa_nil)))
      (pss_cons (ps_expr (pe_dupd (pv 12) (pe_callTy (call_dictPA (K := K) rfl rfl) (by rfl) T.b_dict (by decide +kernel) (pa_cons (pv 7) pa_nil)) ⟨rfl, rfl, rfl, rfl⟩))
      (pss_cons (ps_set (i := 13) sc_law.nd rfl (Or.inl rfl) (pe_callTy (call_dictPA (K := K) rfl rfl) (by rfl) T.b_dict (by decide +kernel) (pa_cons (pe_lc (own := [("other", 15)]) (g := gName 15)  (by rfl) sc_law.nd  (pi_keys (pv 3)) (blkOk_by (own := [("other", 15)]) (N := N_law) (sc := defScope s_law) (by decide +kernel)) (fun _ _ _ _ _ => (pg_name (i := 15) sc_law.nd rfl (Or.inl rfl))) (fun _ _ _ _ _ => (pts_one (pt_cmp (pc_dnotin hu (pv 15) (pv 12))))) (fun _ _ _ _ _ => (pe_tupA (pa_cons (pv 15) (pa_cons (pe_dget hu (pv 3) (pv 15) (fun _ _ => rfl)) pa_nil))))) pa_nil)))
      (pss_cons (ps_expr (pe_dupd (pv 10) (pe_callTy (call_dictPA (K := K) rfl rfl) (by rfl) T.b_dict (by decide +kernel) (pa_cons (pv 7) pa_nil)) ⟨rfl, rfl, rfl, rfl⟩))
      (pss_cons (ps_expr (pe_dpop1 (pv 10) (pv 5) ⟨rfl, rfl, rfl, rfl⟩))
      (pss_one (ps_for PassesOwn.never rfl (pi_list (pe_lstA (pa_cons (pv 8) (pa_cons (pe_tupA (pa_cons (pe_callTy (call_dictPA (K := K) rfl rfl) (by rfl) T.b_dict (by decide +kernel) (pa_cons (pv 7) pa_nil)) (pa_cons (pv 11) pa_nil))) (pa_cons (pe_tupA (pa_cons (pv 12) (pa_cons (pv 13) pa_nil))) (pa_cons (pe_tupA (pa_cons (pv 10) (pa_cons (pe_disp (pps_cons (pv 5) (pe_dget hu (pv 3) (pv 5) (fun _ _ => rfl)) pps_nil) (by rfl) (by rfl) (fun z => by cases z) (by decide)) pa_nil))) pa_nil)))))) (pg_name (i := 14) sc_law.nd rfl (Or.inl rfl))
        (pss_one (ps_if (PW.pt (pw_or (pt_cmpR op_ne (pe_cal C_worth_of (hr.mono (by first | decide | omega)) passL (pa_cons (pv 14) (pa_cons (pv 5) pa_nil))) (pv 6) (nomark _)) (pw_or1 (pt_cmpR (op_neD hr.units) (pe_cal C_reads_of (hr.mono (by first | decide | omega)) passL (pa_cons (pv 14) (pa_cons (pv 5) pa_nil))) (pv 7) (nomark _)))))
        (pss_one (ps_ret pe_bl))
        pss_nil)))))))))))))))
        pss_nil)))))
      (pss_one (ps_ret pe_bl))))), ?_⟩
  refine ⟨_, rfl, a, ns, 2, rfl, hS, h63, by decide, by decide, fun U G R hh kvs H1 s1 nU nG nR eU eG eR hK D => ?_⟩
  have hS1 := Same.seq s1 hS
  have hT1 := hT.ext s1
  have HH := D.ok
  obtain ⟨l14, l13⟩ := D.len
  have hsz : hh.given.length + hh.recs.length ≤ 100000 := by omega
  refine ⟨_, rfl, U, _, rfl, SqT.of eU, rfl, _, _, rfl, _, _, rfl, rfl, ?_⟩
  refine ⟨R, _, eR, trivial, fun od => ?_⟩
  have nUR : U ≠ R := fun z => by rw [z, eR] at eU; cases eU
  have nGR : G ≠ R := fun z => by
    rw [← z, eG] at eR
    cases eR
    cases hg : hh.given with
    | nil => exact D.got hg
    | cons g0 gr =>
      rw [hg] at hK
      cases hr2 : hh.recs with
      | nil => rw [hr2] at hK; exact hK
      | cons p ps =>
        rw [hr2] at hK
        obtain ⟨b, hb⟩ := Rec.ref hK.2.1
        cases hb
  refine ⟨_, rfl, R, od, kvs, rfl, upd_same, for_it walk_enumK (fun i σ X => ∃ (w4 w5 w6 w7 w8 w9 w10 w11 w12 w13 w14 : Option V), σ = [some (.ref a), some (.ref U), some (.ref G), some (.ref R), w4, w5, w6, w7, w8, w9, w10, w11, w12, w13, w14, none] ∧ FrS Tb [] (upd H1 R (.frz od (.dK kvs))) X)
    ⟨_, _, _, _, _, _, _, _, _, _, _, rfl, FrS.refl _ _⟩ (fun i σ X _ ⟨_, _, _, _, _, _, _, _, _, _, _, _, f⟩ => f.at upd_same (fun _ z => nomatch z)) ?_ ?_⟩
  · rintro i x σ X0 X1 hi ⟨w4, w5, w6, w7, w8, w9, w10, w11, w12, w13, w14, rfl, fX⟩ ⟨Tp, y1', y2', rfl, nT, rfl, hy1, hy2⟩
    cases hy1
    have hi' : i < hh.recs.length := by rw [← hK.len]; exact hi
    obtain ⟨kv, hkv⟩ : ∃ kv, kvs[i]? = some kv := ⟨kvs[i], List.getElem?_eq_getElem hi⟩
    obtain ⟨pr, hpr, ek, _⟩ := KvR.at (k := kv.1) (v := kv.2) hK hkv
    have hy2 : (kvs[i]?.map fun kv => kV kv.1) = some y2' := hy2
    rw [hkv] at hy2
    have hy2 := Option.some.inj hy2
    have hy2 : V.str (SX.S pr.1) = y2' := by rw [← hy2]; show _ = kV kv.1; rw [ek]; rfl
    subst hy2
    have hprm := List.mem_of_getElem? hpr
    have htm : pr.1 ∈ hh.given.map (·.1) ++ hh.recs.map (·.1) := List.mem_append_right _ (List.mem_map.mpr ⟨pr, hprm, rfl⟩)
    have ht18 : pr.1 ∈ names18 := List.mem_of_mem_take (D.nms _ htm)
    have ht : Nm pr.1 := names18_fine.2.1 _ ht18
    have hng : seen hh.given pr.1 = none := seen_not fun z => (List.nodup_append.mp D.nd).2.2 _ z _ (List.mem_map.mpr ⟨pr, hprm, rfl⟩) rfl
    have u1 := same_new nT (.tup [.int ((i : Nat) : Int), .str (SX.S pr.1)])
    have eT : upd X0 Tp (.tup [.int ((i : Nat) : Int), .str (SX.S pr.1)]) Tp = some (.tup [.int ((i : Nat) : Int), .str (SX.S pr.1)]) := upd_same
    generalize upd X0 Tp (.tup [.int ((i : Nat) : Int), .str (SX.S pr.1)]) = X1 at u1 eT ⊢
    have f1 := fX.trans (FrS.of u1)
    refine ⟨Tp, _, rfl, SqT.of eT, rfl, _, _, rfl, _, _, rfl, rfl, ?_⟩
    obtain ⟨HL, hHL⟩ : ∃ HL, HL = upd H1 R (.frz od (.dK kvs)) := ⟨_, rfl⟩
    rw [← hHL] at f1
    have kL : Keep H1 HL := fun b ys e => by rw [hHL, upd_ne (fun z => by rw [z, eR] at e; cases e)]; exact e
    have eUL : HL U = some (.tup [.ref G, .ref R]) := kL _ _ eU
    have eGL : HL G = some (.dK (numsK hh.given)) := by rw [hHL, upd_ne nGR]; exact eG
    have eRL : HL R = some (.frz od (.dK kvs)) := by rw [hHL]; exact upd_same
    have hKL : KvR (Rec HL) hh.recs kvs := hK.imp fun r v q => q.keep kL
    have hTL : TabsN Tb HL := by rw [hHL]; exact DL.tab (.inl ⟨_, eR⟩) hT1
    have hAL : HouseAt HL hh (.ref U) := ⟨U, G, R, kvs, rfl, eUL, eGL, .inr ⟨od, eRL⟩, hKL⟩
    refine ⟨_, rfl, _, rfl, .ref U, hh, beta17, pr.1, rfl, HH, hsz, by omega, f1.house hAL, f1.2.2 hTL, ht, ?_⟩
    have hal := fun v => alone_ok HH (n := 20) (v := v) ht (show hh.recs.length + 1 ≤ 20 by omega)
    cases e : lkR hh 20 emptyS pr.1 with
    | err x =>
      intro X2 f2
      refine ⟨_, rfl, rfl, _, rfl, not_true_eq (decide_eq_true rfl) ?_⟩
      exact ⟨_, _, _, _, _, _, _, _, _, _, _, rfl, by rw [← hHL]; exact f1.trans f2⟩
    | ok v st =>
      intro X2 f2
      have f12 := f1.trans f2
      have hv := (hal v).mp ⟨st, e⟩
      obtain ⟨own, r, W⟩ := hv.worked hng
      refine ⟨_, rfl, rfl, _, rfl, not_false_eq (decide_eq_false fun z => by cases z) ?_⟩
      refine ⟨_, rfl, _, rfl, .ref U, hh, beta17, pr.1, rfl, HH, hsz, by omega, f12.house hAL, f12.2.2 hTL, ht, ?_⟩
      rw [e]
      intro x X3 f3 ⟨L3, xs3, ex, nL3, eL3, hP3⟩
      subst ex
      have er : readsFor st pr.1 = own := by
        rcases alone_reads HH ht e with ⟨_, h⟩ | ⟨⟨x, h⟩, _⟩
        · exact h.det W.rds
        · rw [hng] at h; cases h
      rw [er] at hP3
      have f13 := f12.trans f3
      have ond : (own.map (·.1)).Nodup := W.rds.nd
      obtain ⟨as, eas, hPd⟩ := prs_pairs13 (K := K) hP3
      subst eas
      have mO : mergeK [] (numsK own) = numsK own := by
        have := nums_merge [] own
        rw [merA_nil ond] at this
        exact this
      refine ⟨_, rfl, L3, as, numsK own, rfl, SqL.of eL3, hPd, fun d1 X4 nd1 x4' ed1 => ?_⟩
      rw [mO] at ed1
      have x4 : Same X3 X4 := x4'
      have f14 := f13.trans (FrS.of x4)
      obtain ⟨rv, erv, hrv⟩ : ∃ rv, valV kvs (kT (SX.S pr.1)) = some rv ∧ Rec HL r rv := by
        rcases KvR.get (t := pr.1) hKL with ⟨z, _⟩ | ⟨r', rv, z, e43, hrec⟩
        · rw [rcp_seen, W.rc] at z; cases z
        · rw [rcp_seen, W.rc] at z
          obtain rfl := Option.some.inj z
          exact ⟨rv, e43, hrec⟩
      have dR : ∀ {X : Hp}, FrS Tb [] HL X → DGet X R (.str (SX.S pr.1)) (some rv) := fun {X} f => erv ▸ DGet.rd (k := kT (SX.S pr.1)) (.inr ⟨od, f.at eRL (fun _ z => nomatch z)⟩)
      refine fun p1 np1 => ?_
      have u5 := same_new np1 (.dK [])
      refine ⟨_, rfl, _, rfl, _, rfl, R, _, rfl, dR (f14.trans (FrS.of u5)), ?_⟩
      refine ⟨upd_same, [(kT (SX.S pr.1), rv)], rfl, (by show 1 ≤ 15; decide), le 2 (by decide), fun t8 X6 nt8 x6' et8 => ?_⟩
      have s5 : Same X4 (upd (upd X4 p1 (.dK [])) p1 (.dK (mergeK [] [(kT (SX.S pr.1), rv)]))) := same_upd u5 np1 _
      have x6 : Same X4 X6 := s5.trans x6'
      have f16 := f14.trans (FrS.of x6)
      have ep1 : X6 p1 = some (.dK [(kT (SX.S pr.1), rv)]) := x6' _ _ upd_same
      have ed6 : X6 d1 = some (.dK (numsK own)) := x6 _ _ ed1
      have ol : own.length ≤ 100 := by have := W.rds.len; omega
      have LK1 := W.like1 HH ht ol
      have AT1 : HouseAt X6 ⟨own, [(pr.1, r)]⟩ (.ref t8) := ⟨t8, d1, p1, _, rfl, et8, ed6, .inl ep1, rfl, hrv.keep f16.kp, trivial⟩
      have f36 : FrS Tb [] X3 X6 := FrS.of (x4.trans x6)
      have hSL : SqL K HL a (ns.map V.int) := hS1.imp (fun q => q.imp (fun q => by rw [hHL, upd_ne (fun z => by rw [z, eR] at q; cases q)]; exact q) fun ⟨o, q⟩ => ⟨o, by rw [hHL, upd_ne (fun z => by rw [z, eR] at q; cases q)]; exact q⟩) id
      refine ⟨_, rfl, _, rfl, a, ns, ((i : Nat) : Int), rfl, f16.seq (fun z => nomatch z) hSL, h63, by omega, by omega, fun cell => ?_⟩
      refine ⟨_, _, rfl, rfl, ⟨by decide, by decide, by decide⟩, _, _, rfl, rfl, ⟨by decide, by decide, by decide⟩, _, _, rfl, rfl, wide_mul (a := 200) (b := 200) (by show ((10 : Int) ^ (45 : Int).toNat).natAbs < _; rw [pow45]; decide) (by show ((10 : Int) ^ (45 : Int).toNat).natAbs < _; rw [pow45]; decide) (by decide) (by decide) (by decide), _, _, rfl, rfl, (by show (0 : Int) < (10 : Int) ^ (45 : Int).toNat * (10 : Int) ^ (45 : Int).toNat; rw [pow45]; decide), ?_⟩
      obtain ⟨fr, hfr⟩ : ∃ fr : Int, fr = cell % ((10 : Int) ^ (45 : Int).toNat * (10 : Int) ^ (45 : Int).toNat) := ⟨_, rfl⟩
      have dr : ∀ {X : Hp}, FrS Tb [] X3 X → SqL K X L3 (as.map V.ref) ∧ Paired (fun p kv => SqT K X p [kV kv.1, kv.2]) as (numsK own) := fun f => ⟨SqL.of (f.lst eL3), prs_paired (hP3.keep f.kp)⟩
      -- strange
      refine ⟨rfl, fun L0 Y1 y1 nL0 eL0 => ⟨L0, rfl, ⟨_, SqL.of eL0⟩, fun M1 nM1 => lc_it (walk_list (xs := txs names18)) (fun j Z => Same Y1 Z ∧ ∃ zs : List Addr, Z M1 = some (.lst (zs.map V.ref)) ∧ Prs Z ((strg fr).take j) (zs.map V.ref))
        ⟨same_new nM1 _, [], upd_same, trivial⟩ (fun j Z _ h => SqL.of (h.1 _ _ eL0)) ?_ ?_⟩⟩
      · rintro j x Z Z' hj ⟨sZ, zs, eM, hP⟩ ⟨rfl, hx⟩
        rw [txs_len, names18_fine.2.2] at hj
        have hj' : j < names18.length := by rw [names18_fine.2.2]; exact hj
        rw [txs_get hj'] at hx
        cases hx
        have nm := names18_fine.2.1 _ (List.getElem_mem hj')
        have lnm : (SX.S names18[j]).length ≤ 8 := nm.2.1
        refine ⟨rfl, _, rfl, _, rfl, _, rfl, _, rfl, le _ (by omega), _, _, rfl, rfl, .inl ⟨by decide, by decide⟩, _, _, rfl, rfl, le 2 (by decide), fun t Z2 nt u2' et => ?_⟩
        have u2 : Same Z' Z2 := u2'
        have eM2 := u2 _ _ eM
        have zl := hP.len
        rw [List.length_take] at zl
        refine ⟨zs.map V.ref, eM2, lt_line (by omega), same_upd (sZ.trans u2) nM1 _, zs ++ [t], by rw [upd_same, List.map_append]; rfl, ?_⟩
        have hk : strg fr ≠ [] := fun z => by have := congrArg List.length (strg_keys fr); rw [z] at this; cases this
        rw [List.take_add_one, show (strg fr)[j]? = some (names18[j], fr + 7 * ((SX.S names18[j]).length : Int)) by unfold strg; rw [List.getElem?_map, List.getElem?_eq_getElem hj']; rfl, List.map_append]
        refine Prs.snoc ?_ ((hP.same u2).keep (keep_lst eM2))
        rw [upd_ne (fun z => by rw [z, eM2] at et; cases et), hfr]
        exact et
      rintro Z1 ⟨sZ1, zs1, eM1, hP1⟩
      rw [txs_len, ← strg_keys fr, List.length_map, List.take_length] at hP1
      refine ⟨M1, zs1, numsK (strg fr), rfl, SqL.of eM1, prs_paired hP1, fun sD Y2 nsD y2' esD => ?_⟩
      rw [numsK_self (by rw [strg_keys]; exact names18_fine.1)] at esD
      have y2 : Same X6 Y2 := y1.trans (sZ1.trans y2')
      have f2 : FrS Tb [] X3 Y2 := f36.trans (FrS.of y2)
      -- beside
      refine ⟨rfl, fun L0 Y3 y3 nL0 eL0 => ⟨L0, rfl, ⟨_, SqL.of eL0⟩, fun M2 nM2 => lc_it (walk_list (xs := txs names18)) (fun j Z => Same Y3 Z ∧ ∃ (zs : List Addr) (bk : List (Key × V)), Z M2 = some (.lst (zs.map V.ref)) ∧ Paired (fun p kv => Z p = some (.tup [kV kv.1, kv.2])) zs bk ∧ KvR (Rec Z) (((names18.take j).filter fun u => decide (¬ u ∈ own.map (·.1))).map fun u => (u, Rcp.read nowh)) bk ∧ zs.length ≤ j)
        ⟨same_new nM2 _, [], [], upd_same, .nil, trivial, Nat.le_refl _⟩ (fun j Z _ h => SqL.of (h.1 _ _ eL0)) ?_ ?_⟩⟩
      · rintro j x Z Z' hj ⟨sZ, zs, bk, eM, hP, hK2, zl⟩ ⟨rfl, hx⟩
        rw [txs_len, names18_fine.2.2] at hj
        have hj' : j < names18.length := by rw [names18_fine.2.2]; exact hj
        rw [txs_get hj'] at hx
        cases hx
        obtain ⟨dr1, dr2⟩ := dr (f2.trans (FrS.of (y3.trans sZ)))
        refine ⟨rfl, _, rfl, _, rfl, L3, as, numsK own, rfl, dr1, dr2, fun dd Z2 ndd z2' edd => ?_⟩
        have z2 : Same Z' Z2 := z2'
        rw [mO] at edd
        refine ⟨dd, _, rfl, DGet.k (k := kT (SX.S names18[j])) edd, _, rfl, ?_⟩
        rw [val_seen]
        have tk : (names18.take (j + 1)) = names18.take j ++ [names18[j]] := by rw [List.take_add_one, List.getElem?_eq_getElem hj']; rfl
        cases e2 : seen own names18[j] with
        | some y2 =>
          refine iteF ?_
          refine ⟨sZ.trans z2, zs, bk, z2 _ _ eM, L2.Paired.mapP hP fun _ _ h => z2 _ _ h, ?_, by omega⟩
          rw [tk, List.filter_append, show List.filter (fun u => decide (¬ u ∈ own.map (·.1))) [names18[j]] = [] from List.filter_cons_of_neg (by rw [decide_eq_true_eq]; exact fun z => z (seen_key e2)), List.append_nil]
          exact hK2.imp fun r v q => q.same z2
        | none =>
          refine iteT ?_
          refine ⟨_, rfl, le 2 (by decide), fun q1 Z3 nq1 z3' eq1 => ⟨le 2 (by decide), fun q2 Z4 nq2 z4' eq2 => ?_⟩⟩
          have z3 : Same Z2 Z3 := z3'
          have z4 : Same Z3 Z4 := z4'
          have z24 := z2.trans (z3.trans z4)
          have eM4 := z24 _ _ eM
          have st : ∀ b u, b ≠ M2 → Z4 b = some u → upd Z4 M2 (.lst (zs.map V.ref ++ [.ref q2])) b = some u := fun b u n e => by rw [upd_ne n]; exact e
          have nt : ∀ {b : Addr} {ys : List V}, Z4 b = some (.tup ys) → b ≠ M2 := fun {b ys} e z => by rw [z, eM4] at e; cases e
          refine ⟨zs.map V.ref, eM4, lt_line (by rw [List.length_map]; omega), same_upd (sZ.trans z24) nM2 _, zs ++ [q2], bk ++ [(kT (SX.S names18[j]), .ref q1)], by rw [upd_same, List.map_append]; rfl, ?_, ?_, by rw [List.length_append]; exact Nat.succ_le_succ zl⟩
          · have hP4 : Paired (fun (p : Addr) (kv : Key × V) => upd Z4 M2 (.lst (zs.map V.ref ++ [.ref q2])) p = some (.tup [kV kv.1, kv.2])) zs bk := L2.Paired.mapP hP fun p kv h => st _ _ (nt (z24 _ _ h)) (z24 _ _ h)
            exact paired_snoc hP4 (st _ _ (nt eq2) eq2)
          · rw [tk, List.filter_append, show List.filter (fun u => decide (¬ u ∈ own.map (·.1))) [names18[j]] = [names18[j]] from List.filter_cons_of_pos (by rw [decide_eq_true_eq]; exact seen_none e2), List.map_append]
            refine KvR.snoc (a := Rcp.read nowh) ⟨q1, rfl, ?_⟩ (hK2.imp fun r v q => (q.same z24).keep (keep_lst eM4))
            have := st _ _ (nt (z4 _ _ eq1)) (z4 _ _ eq1)
            rw [this, show ("nowhere" : Str) = SX.S nowh by decide +kernel]
      rintro Z2 ⟨sZ2, zs2, bk, eM2, hP2, hK2, zl2⟩
      rw [txs_len, List.take_length] at hK2
      refine ⟨M2, zs2, bk, rfl, SqL.of eM2, L2.Paired.mapP hP2 fun p kv h => SqT.of h, fun bD Y4 nbD y4' ebD => ?_⟩
      have y4 : Same Y2 Y4 := y3.trans (sZ2.trans y4')
      have f4 := f2.trans (FrS.of y4)
      have bnd : ((((names18.filter fun u => decide (¬ u ∈ own.map (·.1))).map fun u => (u, Rcp.read nowh))).map (·.1)).Nodup := by
        rw [List.map_map]
        exact (names18_fine.1.sublist List.filter_sublist).sublist (by rw [show ((fun x : RcpNm => x.1) ∘ fun u : List Nat => (u, Rcp.read nowh)) = id from rfl, List.map_id]; exact List.Sublist.refl _)
      have hB : KvR (Rec Y4) ((names18.filter fun u => decide (¬ u ∈ own.map (·.1))).map fun u => (u, Rcp.read nowh)) (mergeK [] bk) := by
        have := KvR.merge (l := []) (j := []) (hK2.imp fun r v q => q.same y4') trivial
        rw [merA_nil bnd] at this
        exact this
      have bl : (mergeK [] bk).length ≤ 18 := by
        rw [hB.len, List.length_map]
        exact Nat.le_trans (List.length_filter_le _ _) (Nat.le_of_eq names18_fine.2.2)
      have f1k : FrS Tb [] HL Y4 := f13.trans f4
      refine ⟨_, rfl, _, rfl, R, _, rfl, dR f1k, _, rfl, _, rfl, bD, _, rfl, DPut.k (k := kT (SX.S pr.1)) ebD (lt_line (by omega)), ?_⟩
      have hB2 : KvR (Rec Y4) (putA ((names18.filter fun u => decide (¬ u ∈ own.map (·.1))).map fun u => (u, Rcp.read nowh)) pr.1 r) (putK (mergeK [] bk) (kT (SX.S pr.1)) rv) := KvR.put (hrv.keep f1k.kp) hB
      have nb3 : X3 bD = none := f36.2.1 _ (y2.free ((y3.trans sZ2).free nbD))
      have f5 : FrS Tb [] X3 (upd Y4 bD (.dK (putK (mergeK [] bk) (kT (SX.S pr.1)) rv))) := f4.put0 nb3 (.inl ⟨_, ebD⟩)
      have eB5 : upd Y4 bD (.dK (putK (mergeK [] bk) (kT (SX.S pr.1)) rv)) bD = some (.dK (putK (mergeK [] bk) (kT (SX.S pr.1)) rv)) := upd_same
      have kp45 : Keep Y4 (upd Y4 bD (.dK (putK (mergeK [] bk) (kT (SX.S pr.1)) rv))) := fun b ys e => by rw [upd_ne (fun z => by rw [z, ebD] at e; cases e)]; exact e
      have hB3 := hB2.imp fun r v q => q.keep kp45
      have eS5 : upd Y4 bD (.dK (putK (mergeK [] bk) (kT (SX.S pr.1)) rv)) sD = some (.dK (numsK (strg fr))) := by
        have e := y4 _ _ esD
        rw [upd_ne (fun z => by rw [← z] at nbD; have := (y3.trans sZ2) _ _ esD; rw [nbD] at this; cases this)]
        exact e
      obtain ⟨Y5, hY5⟩ : ∃ Y5, Y5 = upd Y4 bD (.dK (putK (mergeK [] bk) (kT (SX.S pr.1)) rv)) := ⟨_, rfl⟩
      rw [← hY5] at f5 eB5 hB3 eS5 ⊢
      have et8' : FrS Tb [] X6 Y5 := by
        have n6 : X6 bD = none := y2.free ((y3.trans sZ2).free nbD)
        rw [hY5]
        exact (FrS.of (y2.trans y4)).put0 n6 (.inl ⟨_, ebD⟩)
      -- fixed
      have f15 : FrS Tb [] HL Y5 := f13.trans f5
      refine ⟨_, rfl, G, numsK hh.given, rfl, .inl (f15.dk eGL), fun xD Y6 nxD y6' exD => ?_⟩
      have y6 : Same Y5 Y6 := y6'
      have f6 := f5.trans (FrS.of y6)
      obtain ⟨dr1, dr2⟩ := dr f6
      refine ⟨_, rfl, xD, rfl, .inl ⟨_, .inl exD⟩, _, rfl, L3, as, numsK own, rfl, dr1, dr2, fun d2 Y7 nd2 y7' ed2 => ?_⟩
      have y7 : Same Y6 Y7 := y7'
      rw [mO] at ed2
      have exD7 := y7 _ _ exD
      refine ⟨d2, _, _, rfl, exD7, .inl ed2, ne_of_none exD nd2, le_line (by rw [numsK_len, numsK_len]; omega), ?_⟩
      rw [nums_merge]
      have nx3 : X3 xD = none := f5.2.1 _ nxD
      have f7 : FrS Tb [] X3 (upd Y7 xD (.dK (numsK (merA hh.given own)))) := (f6.trans (FrS.of y7)).put0 nx3 (.inl ⟨_, exD7⟩)
      have g57 : FrS Tb [] Y5 (upd Y7 xD (.dK (numsK (merA hh.given own)))) := ((FrS.of (y6.trans y7))).put0 nxD (.inl ⟨_, exD7⟩)
      have eF7 : upd Y7 xD (.dK (numsK (merA hh.given own))) xD = some (.dK (numsK (merA hh.given own))) := upd_same
      generalize upd Y7 xD (.dK (numsK (merA hh.given own))) = Y8 at f7 g57 eF7 ⊢
      -- others
      have f18 : FrS Tb [] HL Y8 := f13.trans f7
      have eR8 := f18.at eRL (fun _ z => nomatch z)
      refine ⟨_, rfl, R, od, rfl, .inl ⟨kvs, eR8, fun M3 nM3 => lc_it walk_keys (fun j Z => Same Y8 Z ∧ ∃ (zs : List Addr) (ok : List (Key × V)), Z M3 = some (.lst (zs.map V.ref)) ∧ Paired (fun p kv => Z p = some (.tup [kV kv.1, kv.2])) zs ok ∧ KvR (Rec Z) ((hh.recs.take j).filter fun p => decide (¬ p.1 ∈ (merA hh.given own).map (·.1))) ok ∧ zs.length ≤ j)
        ⟨same_new nM3 _, [], [], upd_same, .nil, trivial, Nat.le_refl _⟩ (fun j Z _ h => h.1 _ _ eR8) ?_ ?_⟩⟩
      · rintro j x Z Z' hj ⟨sZ, zs, ok, eM, hP, hK2, zl⟩ ⟨rfl, k, kv, hk, rfl⟩
        obtain ⟨p, hp, rfl, hrec⟩ := hKL.at hk
        have hj' : j < hh.recs.length := (List.getElem?_eq_some_iff.mp hp).1
        have pm := List.mem_of_getElem? hp
        refine ⟨rfl, _, rfl, _, rfl, xD, _, rfl, DGet.k (k := kT (SX.S p.1)) (sZ _ _ eF7), _, rfl, ?_⟩
        rw [val_seen]
        have tk : (hh.recs.take (j + 1)) = hh.recs.take j ++ [p] := by rw [List.take_add_one, hp]; rfl
        cases e2 : seen (merA hh.given own) p.1 with
        | some y2 =>
          refine iteF ?_
          refine ⟨sZ, zs, ok, eM, hP, ?_, by omega⟩
          rw [tk, List.filter_append, show List.filter (fun q : RcpNm => decide (¬ q.1 ∈ (merA hh.given own).map (·.1))) [p] = [] from List.filter_cons_of_neg (by rw [decide_eq_true_eq]; exact fun z => z (seen_key e2)), List.append_nil]
          exact hK2
        | none =>
          refine iteT ?_
          obtain ⟨_, vv, _⟩ : ∃ a : Rcp, valV kvs (kT (SX.S p.1)) = some kv ∧ Rec H1 a kv := hK.self (List.nodup_append.mp D.nd).2.1 _ (List.mem_of_getElem? hk)
          have dg : DGet Z' R (.str (SX.S p.1)) (some kv) := vv ▸ DGet.rd (k := kT (SX.S p.1)) (.inr ⟨od, sZ _ _ eR8⟩)
          refine ⟨_, rfl, _, rfl, _, rfl, R, _, rfl, dg, le 2 (by decide), fun q2 Z4 nq2 z4' eq2 => ?_⟩
          have z4 : Same Z' Z4 := z4'
          have eM4 := z4 _ _ eM
          have st : ∀ b u, b ≠ M3 → Z4 b = some u → upd Z4 M3 (.lst (zs.map V.ref ++ [.ref q2])) b = some u := fun b u n e => by rw [upd_ne n]; exact e
          have nt : ∀ {b : Addr} {ys : List V}, Z4 b = some (.tup ys) → b ≠ M3 := fun {b ys} e z => by rw [z, eM4] at e; cases e
          refine ⟨zs.map V.ref, eM4, lt_line (by rw [List.length_map]; omega), same_upd (sZ.trans z4) nM3 _, zs ++ [q2], ok ++ [(kT (SX.S p.1), kv)], by rw [upd_same, List.map_append]; rfl, ?_, ?_, by rw [List.length_append]; exact Nat.succ_le_succ zl⟩
          · have hP4 : Paired (fun (p : Addr) (kv : Key × V) => upd Z4 M3 (.lst (zs.map V.ref ++ [.ref q2])) p = some (.tup [kV kv.1, kv.2])) zs ok := L2.Paired.mapP hP fun p kv h => st _ _ (nt (z4 _ _ h)) (z4 _ _ h)
            exact paired_snoc hP4 (st _ _ (nt eq2) eq2)
          · rw [tk, List.filter_append, show List.filter (fun q : RcpNm => decide (¬ q.1 ∈ (merA hh.given own).map (·.1))) [p] = [p] from List.filter_cons_of_pos (by rw [decide_eq_true_eq]; exact seen_none e2)]
            have hr4 : Rec (upd Z4 M3 (.lst (zs.map V.ref ++ [.ref q2]))) p.2 kv := (hrec.keep (f18.kp.trans (same_keep (sZ.trans z4)))).keep (keep_lst eM4)
            exact KvR.snoc (a := p.2) hr4 (hK2.imp fun r v q => (q.same z4).keep (keep_lst eM4))
      rintro Z3 ⟨sZ3, zs3, ok, eM3, hP3', hK3, zl3⟩
      rw [hKL.len, List.take_length] at hK3
      refine ⟨M3, zs3, ok, rfl, SqL.of eM3, L2.Paired.mapP hP3' fun p kv h => SqT.of h, fun oD Y9 noD y9' eoD => ?_⟩
      have y9 : Same Y8 Y9 := sZ3.trans y9'
      have rnd : (hh.recs.map (·.1)).Nodup := (List.nodup_append.mp D.nd).2.1
      have hO : KvR (Rec Y9) (hh.recs.filter fun p => decide (¬ p.1 ∈ (merA hh.given own).map (·.1))) (mergeK [] ok) := by
        have := KvR.merge (l := []) (j := []) (hK3.imp fun r v q => q.same y9') trivial
        rw [merA_nil (rnd.sublist (List.Sublist.map _ List.filter_sublist))] at this
        exact this
      have f9 := f7.trans (FrS.of y9)
      -- strange, further
      have eS9 : Y9 sD = some (.dK (numsK (strg fr))) := y9 _ _ (g57.dk eS5)
      obtain ⟨dr1, dr2⟩ := dr f9
      refine ⟨_, rfl, sD, rfl, .inl ⟨_, .inl eS9⟩, _, rfl, L3, as, numsK own, rfl, dr1, dr2, fun d3 Ya nd3 ya' ed3 => ?_⟩
      have ya : Same Y9 Ya := ya'
      rw [mO] at ed3
      have eSa := ya _ _ eS9
      have sl18 : (strg fr).length = 18 := by rw [← List.length_map (f := (·.1)), strg_keys]; exact names18_fine.2.2
      refine ⟨d3, _, _, rfl, eSa, .inl ed3, ne_of_none eS9 nd3, le_line (by rw [numsK_len, numsK_len]; omega), ?_⟩
      rw [nums_merge]
      have ns6 : X6 sD = none := (y1.trans sZ1).free nsD
      have ns3 : X3 sD = none := f36.2.1 _ ns6
      have hin : pr.1 ∈ (merA (strg fr) own).map (·.1) := merA_keys.mpr (.inl (by rw [strg_keys]; exact ht18))
      obtain ⟨xt, ext⟩ : ∃ x, seen (merA (strg fr) own) pr.1 = some x := by
        cases e : seen (merA (strg fr) own) pr.1 with
        | some x => exact ⟨x, rfl⟩
        | none => exact absurd hin (seen_none e)
      have eSb : upd Ya sD (.dK (numsK (merA (strg fr) own))) sD = some (.dK (numsK (merA (strg fr) own))) := upd_same
      refine ⟨_, rfl, sD, rfl, .inl ⟨_, .inl eSb⟩, _, rfl, _, kT (SX.S pr.1), .int xt, eSb, rfl, by rw [val_seen, ext]; rfl, ?_⟩
      rw [nums_drop, upd_upd]
      -- all four stand
      have nBS : bD ≠ sD := fun z => by rw [z] at nbD; have := (y3.trans sZ2) _ _ esD; rw [nbD] at this; cases this
      have nXS : xD ≠ sD := (ne_of_none eS5 nxD).symm
      have nOS : oD ≠ sD := fun z => by rw [z] at noD; have := sZ3 _ _ (g57.dk eS5); rw [noD] at this; cases this
      have kpS : Keep Ya (upd Ya sD (.dK (numsK (dropA (merA (strg fr) own) pr.1)))) := fun b ys e => by rw [upd_ne (fun z => by rw [z, eSa] at e; cases e)]; exact e
      have fc : FrS Tb [] X3 (upd Ya sD (.dK (numsK (dropA (merA (strg fr) own) pr.1)))) := (f9.trans (FrS.of ya)).put0 ns3 (.inl ⟨_, eSa⟩)
      have f6c : FrS Tb [] X6 (upd Ya sD (.dK (numsK (dropA (merA (strg fr) own) pr.1)))) := (et8'.trans (g57.trans (FrS.of (y9.trans ya)))).put0 ns6 (.inl ⟨_, eSa⟩)
      have eSc : upd Ya sD (.dK (numsK (dropA (merA (strg fr) own) pr.1))) sD = some (.dK (numsK (dropA (merA (strg fr) own) pr.1))) := upd_same
      have eBc : upd Ya sD (.dK (numsK (dropA (merA (strg fr) own) pr.1))) bD = some (.dK (putK (mergeK [] bk) (kT (SX.S pr.1)) rv)) := by rw [upd_ne nBS]; exact ya _ _ (y9 _ _ (g57.dk eB5))
      have eXc : upd Ya sD (.dK (numsK (dropA (merA (strg fr) own) pr.1))) xD = some (.dK (numsK (merA hh.given own))) := by rw [upd_ne nXS]; exact ya _ _ (y9 _ _ eF7)
      have eOc : upd Ya sD (.dK (numsK (dropA (merA (strg fr) own) pr.1))) oD = some (.dK (mergeK [] ok)) := by rw [upd_ne nOS]; exact ya _ _ eoD
      have hBc := hB3.imp fun r v q => q.keep (g57.kp.trans ((same_keep (y9.trans ya)).trans kpS))
      have hOc := hO.imp fun r v q => q.keep ((same_keep ya).trans kpS)
      generalize upd Ya sD (.dK (numsK (dropA (merA (strg fr) own) pr.1))) = Yc at fc f6c eSc eBc eXc eOc hBc hOc ⊢
      clear kpS eSb
      have AT1c := f6c.house AT1
      obtain ⟨dr1, dr2⟩ := dr fc
      -- the list of houses
      refine ⟨_, rfl, _, rfl, L3, as, numsK own, rfl, dr1, dr2, fun d4 Yd nd4 yd' ed4 => ?_⟩
      have yd : Same Yc Yd := yd'
      rw [mO] at ed4
      refine ⟨_, rfl, le 2 (by decide), fun t9 Ye nt9 ye' et9 => ?_⟩
      have ye : Same Yd Ye := ye'
      refine ⟨_, rfl, _, rfl, le 2 (by decide), fun t10 Yf nt10 yf' et10 => ?_⟩
      have yf : Same Ye Yf := yf'
      have fcf : FrS Tb [] HL Yf := f13.trans (fc.trans (FrS.of (yd.trans (ye.trans yf))))
      refine ⟨_, rfl, fun p4 np4 => ?_⟩
      have u9 := same_new np4 (.dK [])
      refine ⟨_, rfl, _, rfl, _, rfl, R, _, rfl, dR (fcf.trans (FrS.of u9)), upd_same, [(kT (SX.S pr.1), rv)], rfl, (by show 1 ≤ 15; decide), le 2 (by decide), fun t11 Yg nt11 yg' et11 => ?_⟩
      have yg : Same Yf Yg := (same_upd u9 np4 _).trans yg'
      have ep4 : Yg p4 = some (.dK [(kT (SX.S pr.1), rv)]) := yg' _ _ upd_same
      refine ⟨le 4 (by decide), fun l4 Yh nl4 yh' el4 => ?_⟩
      have yh : Same Yg Yh := yh'
      have sch : Same Yc Yh := yd.trans (ye.trans (yf.trans (yg.trans yh)))
      have kch := same_keep sch
      have fh : FrS Tb [] HL Yh := f13.trans (fc.trans (FrS.of sch))
      have LK2 := W.like2 HH ht ol (ns := names18.filter fun u => decide (¬ u ∈ own.map (·.1))) (fun u hu => names18_fine.2.1 u (List.mem_filter.mp hu).1) (Nat.le_trans (List.length_filter_le _ _) (Nat.le_of_eq names18_fine.2.2))
      have LK3 := W.like3 HH ht ol (List.nodup_append.mp D.nd).1 rnd (by omega) (by omega)
      have LK4 := W.like4 HH ht ol (st := strg fr) (by rw [strg_keys]; exact names18_fine.1) (fun q hq => names18_fine.2.1 _ (by rw [← strg_keys fr]; exact List.mem_map.mpr ⟨q, hq, rfl⟩)) (by omega)
      have all4 : ∀ x ∈ ([.ref t8, .ref t9, .ref t10, .ref t11] : List V), ∃ g, HouseAt Yh g x ∧ Like pr.1 v own g := by
        intro x hx
        rcases List.mem_cons.mp hx with rfl | hx
        · exact ⟨_, AT1c.same sch, LK1⟩
        rcases List.mem_cons.mp hx with rfl | hx
        · exact ⟨_, ⟨t9, d4, bD, _, rfl, yh _ _ (yg _ _ (yf _ _ et9)), yh _ _ (yg _ _ (yf _ _ (ye _ _ ed4))), .inl (sch _ _ eBc), hBc.imp fun r v q => q.keep kch⟩, LK2⟩
        rcases List.mem_cons.mp hx with rfl | hx
        · exact ⟨_, ⟨t10, xD, oD, _, rfl, yh _ _ (yg _ _ et10), sch _ _ eXc, .inl (sch _ _ eOc), hOc.imp fun r v q => q.keep kch⟩, LK3⟩
        rw [List.mem_singleton.mp hx]
        exact ⟨⟨dropA (merA (strg fr) own) pr.1, [(pr.1, r)]⟩, ⟨t11, sD, p4, _, rfl, yh _ _ et11, sch _ _ eSc, .inl (yh _ _ ep4), rfl, hrv.keep fh.kp, trivial⟩, LK4⟩
      refine ⟨l4, rfl, ⟨_, SqL.of el4⟩, for_it (walk_list (xs := [.ref t8, .ref t9, .ref t10, .ref t11])) (fun j σ Z => ∃ (w14 : Option V), σ = [some (.ref a), some (.ref U), some (.ref G), some (.ref R), some (.int i), some (.str (SX.S pr.1)), some (.int v), some (.ref L3), some (.ref t8), some (.int (cell % ((10 : Int) ^ (45 : Int).toNat * (10 : Int) ^ (45 : Int).toNat))), some (.ref sD), some (.ref bD), some (.ref xD), some (.ref oD), w14, none] ∧ FrS Tb [] Yh Z)
        ⟨_, rfl, FrS.refl _ _⟩ (fun j σ Z _ ⟨_, _, f⟩ => SqL.of (f.lst el4)) ?_ ?_⟩
      · rintro j x σ Z0 Z hj ⟨w14', rfl, fZ⟩ ⟨rfl, hx⟩
        obtain ⟨g, hg, LK⟩ := all4 x (List.mem_of_getElem? hx)
        have hTZ := (fh.trans fZ).2.2 hTL
        obtain ⟨sa, ea⟩ := (alone_ok LK.ok (n := 20) ht LK.few).mpr LK.val
        refine ⟨_, rfl, _, rfl, x, g, beta17, pr.1, rfl, LK.ok, LK.sz, LK.few, fZ.house hg, hTZ, ht, ?_⟩
        rw [ea]
        intro x' Z1 fZ1 ex'
        subst ex'
        refine ⟨_, rfl, rfl, _, rfl, iteNS rfl ?_⟩
        have fZ12 := fZ.trans fZ1
        refine ⟨_, rfl, _, rfl, x, g, beta17, pr.1, rfl, LK.ok, LK.sz, LK.few, fZ12.house hg, fZ1.2.2 hTZ, ht, ?_⟩
        rw [ea]
        intro x' Z2 fZ2 ⟨L', xs', ex', nL', eL', hP'⟩
        subst ex'
        have erd : readsFor sa pr.1 = own := by
          rcases alone_reads LK.ok ht ea with ⟨_, h⟩ | ⟨⟨x0, h⟩, _⟩
          · exact h.det LK.rds
          · rw [LK.rds.1] at h; cases h
        rw [erd] at hP'
        have fZ13 := fZ12.trans fZ2
        have pNm := W.own_nm HH
        have fz := (fc.trans (FrS.of sch)).trans fZ13
        refine ⟨_, rfl, _, _, .lst (SqL.of eL') (DataL.dp (prs_flat _) hP'.data), .lst (SqL.of (fz.lst eL3)) (DataL.dp (prs_flat _) (hP3.keep fz.kp).data), prs_shaped pNm, prs_shaped pNm, _, rfl, ?_⟩
        rw [SeqAt.eqv_refl _ (SeqAt.canLay_of_shaped (prs_shaped pNm))]
        refine iteF ?_
        exact ⟨_, rfl, fZ13⟩
      · rintro σ Z ⟨w14', rfl, fZ⟩
        exact ⟨_, _, _, _, _, _, _, _, _, _, _, rfl, by rw [← hHL]; exact fh.trans fZ⟩
  · rintro σ X ⟨w4, w5, w6, w7, w8, w9, w10, w11, w12, w13, w14, rfl, fX⟩
    refine ⟨fX.at upd_same (fun _ z => nomatch z), ?_⟩
    exact q _
end
/-- the class of an own error stands as it is laid: seen in the written part -/
def oexB (K : PySem.W.Frag) (C : Addr) : Bool := match K.lookup C with
  | none => false
  | some o => match o.data with
    | .cls cd => decide (o.cls = .type "type") && (decide (o.slots.size = 6) && (decide (o.slots[4]? = some (some (.builtin "ValueError.__new__"))) && (cd.hasDict && (!cd.hasDel && (match cd.mro with
      | a :: bm => decide (a = .ref C) && PySem.HandSPX.refsVE bm
      | [] => false)))))
    | _ => false
def OexL (K : PySem.W.Frag) (C : Addr) : Prop := ∃ nm q N bs bm sn sub ab col dd k0 k1 k2 k3 k5, K.lookup C = some (excClassObj nm q C N bs bm true sn sub ab col dd k0 k1 k2 k3 k5 "ValueError.__new__") ∧ PySem.HandSPX.refsVE bm = true
theorem oexB_ok {K : PySem.W.Frag} {C : Addr} (h : oexB K C = true) : OexL K C := by
  unfold oexB at h
  cases e : K.lookup C with
  | none => rw [e] at h; cases h
  | some o =>
    rw [e] at h
    obtain ⟨ocl, odd, odt, ⟨osl⟩⟩ := o
    cases odt with
    | cls cd =>
      obtain ⟨nm, bs, mro, ns, qn, hd, sn, sub, ab, col, del⟩ := cd
      simp only [Bool.and_eq_true, decide_eq_true_eq, Bool.not_eq_true'] at h
      obtain ⟨h1, h2, h3, h4, h5, h6⟩ := h
      subst h1 h4 h5
      cases mro with
      | nil => cases h6
      | cons a bm =>
        simp only [Bool.and_eq_true, decide_eq_true_eq] at h6
        obtain ⟨rfl, h7⟩ := h6
        match osl, h2, h3 with
        | [k0, k1, k2, k3, k4, k5], _, h3 =>
          have h8 : k4 = some (.builtin "ValueError.__new__") := by simpa using h3
          subst h8
          exact ⟨nm, qn, ns, bs, bm, sn, sub, ab, col, odd, k0, k1, k2, k3, k5, e, h7⟩
    | _ => cases h
theorem all_mk {l : PySem.W.OpenLaw} {w : World} {K : PySem.W.Frag} {h : Heap} {mg : Str → Option Value} {fa f_put_together f_worth_by f_worth_of f_reads_of f__law_cell f__law_state f__law_take f__law_number f__law_leaf f__law_recipe f__law_names f__law_house f__law_worth_told f_law : Addr} (X : K.In h) (G : h.Ns mainGlobals mg) (hfa : mg "law" = some (.ref fa))
    {od_put_together an_put_together od_worth_by an_worth_by od_worth_of an_worth_of od_reads_of an_reads_of od__law_cell an__law_cell od__law_state an__law_state od__law_take an__law_take od__law_number an__law_number od__law_leaf an__law_leaf od__law_recipe an__law_recipe od__law_names an__law_names od__law_house an__law_house od__law_worth_told an__law_worth_told od_law an_law : Option Addr} {sl_put_together sl_worth_by sl_worth_of sl_reads_of sl__law_cell sl__law_state sl__law_take sl__law_number sl__law_leaf sl__law_recipe sl__law_names sl__law_house sl__law_worth_told sl_law : Array (Option Value)} {oc_put_together kV_put_together dc_put_together pm_put_together cd_put_together ct_put_together oc_worth_by kV_worth_by dc_worth_by pm_worth_by cd_worth_by ct_worth_by oc_worth_of kV_worth_of dc_worth_of pm_worth_of cd_worth_of ct_worth_of oc_reads_of kV_reads_of dc_reads_of pm_reads_of cd_reads_of ct_reads_of oc__law_cell kV__law_cell dc__law_cell pm__law_cell cd__law_cell ct__law_cell oc__law_state kV__law_state dc__law_state pm__law_state cd__law_state ct__law_state oc__law_take kV__law_take dc__law_take pm__law_take cd__law_take ct__law_take oc__law_number kV__law_number dc__law_number pm__law_number cd__law_number ct__law_number oc__law_leaf kV__law_leaf dc__law_leaf pm__law_leaf cd__law_leaf ct__law_leaf oc__law_recipe kV__law_recipe dc__law_recipe pm__law_recipe cd__law_recipe ct__law_recipe oc__law_names kV__law_names dc__law_names pm__law_names cd__law_names ct__law_names oc__law_house kV__law_house dc__law_house pm__law_house cd__law_house ct__law_house oc__law_worth_told kV__law_worth_told dc__law_worth_told pm__law_worth_told cd__law_worth_told ct__law_worth_told oc_law kV_law dc_law pm_law cd_law ct_law : Value}
    (a_put_together : PySem.W.nsIn K mainGlobals "put_together" = some (some (.ref f_put_together))) (l_put_together : K.lookup f_put_together = some ⟨oc_put_together, od_put_together, .func (PySem.W.fnOf "put_together" "put_together" (defArgs s_put_together) (defBody s_put_together) (defScope s_put_together) .none kV_put_together dc_put_together pm_put_together an_put_together cd_put_together ct_put_together), sl_put_together⟩) (c_put_together : PySem.W.codeIn K cd_put_together "put_together" = true) (k_put_together : PySem.W.keepIn K (.ref f_put_together) = true)
    (a_worth_by : PySem.W.nsIn K mainGlobals "worth_by" = some (some (.ref f_worth_by))) (l_worth_by : K.lookup f_worth_by = some ⟨oc_worth_by, od_worth_by, .func (PySem.W.fnOf "worth_by" "worth_by" (defArgs s_worth_by) (defBody s_worth_by) (defScope s_worth_by) .none kV_worth_by dc_worth_by pm_worth_by an_worth_by cd_worth_by ct_worth_by), sl_worth_by⟩) (c_worth_by : PySem.W.codeIn K cd_worth_by "worth_by" = true) (k_worth_by : PySem.W.keepIn K (.ref f_worth_by) = true)
    (a_worth_of : PySem.W.nsIn K mainGlobals "worth_of" = some (some (.ref f_worth_of))) (l_worth_of : K.lookup f_worth_of = some ⟨oc_worth_of, od_worth_of, .func (PySem.W.fnOf "worth_of" "worth_of" (defArgs s_worth_of) (defBody s_worth_of) (defScope s_worth_of) .none kV_worth_of dc_worth_of pm_worth_of an_worth_of cd_worth_of ct_worth_of), sl_worth_of⟩) (c_worth_of : PySem.W.codeIn K cd_worth_of "worth_of" = true) (k_worth_of : PySem.W.keepIn K (.ref f_worth_of) = true)
    (a_reads_of : PySem.W.nsIn K mainGlobals "reads_of" = some (some (.ref f_reads_of))) (l_reads_of : K.lookup f_reads_of = some ⟨oc_reads_of, od_reads_of, .func (PySem.W.fnOf "reads_of" "reads_of" (defArgs s_reads_of) (defBody s_reads_of) (defScope s_reads_of) .none kV_reads_of dc_reads_of pm_reads_of an_reads_of cd_reads_of ct_reads_of), sl_reads_of⟩) (c_reads_of : PySem.W.codeIn K cd_reads_of "reads_of" = true) (k_reads_of : PySem.W.keepIn K (.ref f_reads_of) = true)
    (a__law_cell : PySem.W.nsIn K mainGlobals "_law_cell" = some (some (.ref f__law_cell))) (l__law_cell : K.lookup f__law_cell = some ⟨oc__law_cell, od__law_cell, .func (PySem.W.fnOf "_law_cell" "_law_cell" (defArgs s__law_cell) (defBody s__law_cell) (defScope s__law_cell) .none kV__law_cell dc__law_cell pm__law_cell an__law_cell cd__law_cell ct__law_cell), sl__law_cell⟩) (c__law_cell : PySem.W.codeIn K cd__law_cell "_law_cell" = true) (k__law_cell : PySem.W.keepIn K (.ref f__law_cell) = true)
    (a__law_state : PySem.W.nsIn K mainGlobals "_law_state" = some (some (.ref f__law_state))) (l__law_state : K.lookup f__law_state = some ⟨oc__law_state, od__law_state, .func (PySem.W.fnOf "_law_state" "_law_state" (defArgs s__law_state) (defBody s__law_state) (defScope s__law_state) .none kV__law_state dc__law_state pm__law_state an__law_state cd__law_state ct__law_state), sl__law_state⟩) (c__law_state : PySem.W.codeIn K cd__law_state "_law_state" = true) (k__law_state : PySem.W.keepIn K (.ref f__law_state) = true)
    (a__law_take : PySem.W.nsIn K mainGlobals "_law_take" = some (some (.ref f__law_take))) (l__law_take : K.lookup f__law_take = some ⟨oc__law_take, od__law_take, .func (PySem.W.fnOf "_law_take" "_law_take" (defArgs s__law_take) (defBody s__law_take) (defScope s__law_take) .none kV__law_take dc__law_take pm__law_take an__law_take cd__law_take ct__law_take), sl__law_take⟩) (c__law_take : PySem.W.codeIn K cd__law_take "_law_take" = true) (k__law_take : PySem.W.keepIn K (.ref f__law_take) = true)
    (a__law_number : PySem.W.nsIn K mainGlobals "_law_number" = some (some (.ref f__law_number))) (l__law_number : K.lookup f__law_number = some ⟨oc__law_number, od__law_number, .func (PySem.W.fnOf "_law_number" "_law_number" (defArgs s__law_number) (defBody s__law_number) (defScope s__law_number) .none kV__law_number dc__law_number pm__law_number an__law_number cd__law_number ct__law_number), sl__law_number⟩) (c__law_number : PySem.W.codeIn K cd__law_number "_law_number" = true) (k__law_number : PySem.W.keepIn K (.ref f__law_number) = true)
    (a__law_leaf : PySem.W.nsIn K mainGlobals "_law_leaf" = some (some (.ref f__law_leaf))) (l__law_leaf : K.lookup f__law_leaf = some ⟨oc__law_leaf, od__law_leaf, .func (PySem.W.fnOf "_law_leaf" "_law_leaf" (defArgs s__law_leaf) (defBody s__law_leaf) (defScope s__law_leaf) .none kV__law_leaf dc__law_leaf pm__law_leaf an__law_leaf cd__law_leaf ct__law_leaf), sl__law_leaf⟩) (c__law_leaf : PySem.W.codeIn K cd__law_leaf "_law_leaf" = true) (k__law_leaf : PySem.W.keepIn K (.ref f__law_leaf) = true)
    (a__law_recipe : PySem.W.nsIn K mainGlobals "_law_recipe" = some (some (.ref f__law_recipe))) (l__law_recipe : K.lookup f__law_recipe = some ⟨oc__law_recipe, od__law_recipe, .func (PySem.W.fnOf "_law_recipe" "_law_recipe" (defArgs s__law_recipe) (defBody s__law_recipe) (defScope s__law_recipe) .none kV__law_recipe dc__law_recipe pm__law_recipe an__law_recipe cd__law_recipe ct__law_recipe), sl__law_recipe⟩) (c__law_recipe : PySem.W.codeIn K cd__law_recipe "_law_recipe" = true) (k__law_recipe : PySem.W.keepIn K (.ref f__law_recipe) = true)
    (a__law_names : PySem.W.nsIn K mainGlobals "_law_names" = some (some (.ref f__law_names))) (l__law_names : K.lookup f__law_names = some ⟨oc__law_names, od__law_names, .func (PySem.W.fnOf "_law_names" "_law_names" (defArgs s__law_names) (defBody s__law_names) (defScope s__law_names) .none kV__law_names dc__law_names pm__law_names an__law_names cd__law_names ct__law_names), sl__law_names⟩) (c__law_names : PySem.W.codeIn K cd__law_names "_law_names" = true) (k__law_names : PySem.W.keepIn K (.ref f__law_names) = true)
    (a__law_house : PySem.W.nsIn K mainGlobals "_law_house" = some (some (.ref f__law_house))) (l__law_house : K.lookup f__law_house = some ⟨oc__law_house, od__law_house, .func (PySem.W.fnOf "_law_house" "_law_house" (defArgs s__law_house) (defBody s__law_house) (defScope s__law_house) .none kV__law_house dc__law_house pm__law_house an__law_house cd__law_house ct__law_house), sl__law_house⟩) (c__law_house : PySem.W.codeIn K cd__law_house "_law_house" = true) (k__law_house : PySem.W.keepIn K (.ref f__law_house) = true)
    (a__law_worth_told : PySem.W.nsIn K mainGlobals "_law_worth_told" = some (some (.ref f__law_worth_told))) (l__law_worth_told : K.lookup f__law_worth_told = some ⟨oc__law_worth_told, od__law_worth_told, .func (PySem.W.fnOf "_law_worth_told" "_law_worth_told" (defArgs s__law_worth_told) (defBody s__law_worth_told) (defScope s__law_worth_told) .none kV__law_worth_told dc__law_worth_told pm__law_worth_told an__law_worth_told cd__law_worth_told ct__law_worth_told), sl__law_worth_told⟩) (c__law_worth_told : PySem.W.codeIn K cd__law_worth_told "_law_worth_told" = true) (k__law_worth_told : PySem.W.keepIn K (.ref f__law_worth_told) = true)
    (a_law : PySem.W.nsIn K mainGlobals "law" = some (some (.ref f_law))) (l_law : K.lookup f_law = some ⟨oc_law, od_law, .func (PySem.W.fnOf "law" "law" (defArgs s_law) (defBody s_law) (defScope s_law) .none kV_law dc_law pm_law an_law cd_law ct_law), sl_law⟩) (c_law : PySem.W.codeIn K cd_law "law" = true) (k_law : PySem.W.keepIn K (.ref f_law) = true)
    (z_len : PySem.W.nsIn K mainGlobals "len" = some none)
    (z_list : PySem.W.nsIn K mainGlobals "list" = some none)
    (z_range : PySem.W.nsIn K mainGlobals "range" = some none)
    (z_tuple : PySem.W.nsIn K mainGlobals "tuple" = some none)
    (z_str : PySem.W.nsIn K mainGlobals "str" = some none)
    (z_int : PySem.W.nsIn K mainGlobals "int" = some none)
    (z_isinstance : PySem.W.nsIn K mainGlobals "isinstance" = some none)
    (z_bool : PySem.W.nsIn K mainGlobals "bool" = some none)
    (z_sum : PySem.W.nsIn K mainGlobals "sum" = some none)
    (z_dict : PySem.W.nsIn K mainGlobals "dict" = some none)
    (z_sorted : PySem.W.nsIn K mainGlobals "sorted" = some none)
    (z_zip : PySem.W.nsIn K mainGlobals "zip" = some none)
    (z_enumerate : PySem.W.nsIn K mainGlobals "enumerate" = some none)
    (z_min : PySem.W.nsIn K mainGlobals "min" = some none)
    (z_max : PySem.W.nsIn K mainGlobals "max" = some none)
    (z_set : PySem.W.nsIn K mainGlobals "set" = some none)
    (z_ValueError : PySem.W.nsIn K mainGlobals "ValueError" = some none)
    {cL PL : Addr}
    {C_Reckoner : Addr}
    {f_Reckoner___init__ f_Reckoner_look_for : Addr}
    {od_Reckoner___init__ an_Reckoner___init__ od_Reckoner_look_for an_Reckoner_look_for : Option Addr}
    {sl_Reckoner___init__ sl_Reckoner_look_for : Array (Option Value)}
    {oc_Reckoner___init__ kV_Reckoner___init__ dc_Reckoner___init__ pm_Reckoner___init__ cd_Reckoner___init__ ct_Reckoner___init__ oc_Reckoner_look_for kV_Reckoner_look_for dc_Reckoner_look_for pm_Reckoner_look_for cd_Reckoner_look_for ct_Reckoner_look_for : Value}
    (a_Reckoner : PySem.W.nsIn K mainGlobals "Reckoner" = some (some (.ref C_Reckoner)))
    (a_Reckoner___init__ : PySem.W.findIn K (.ref C_Reckoner) "__init__" = some (some (.ref f_Reckoner___init__)))
    (i_Reckoner___init__ : PySem.W.isFn K (.ref f_Reckoner___init__) = true)
    (l_Reckoner___init__ : K.lookup f_Reckoner___init__ = some ⟨oc_Reckoner___init__, od_Reckoner___init__, .func (PySem.W.fnOf "__init__" "Reckoner.__init__" (defArgs s_Reckoner___init__) (defBody s_Reckoner___init__) (defScope s_Reckoner___init__) .none kV_Reckoner___init__ dc_Reckoner___init__ pm_Reckoner___init__ an_Reckoner___init__ cd_Reckoner___init__ ct_Reckoner___init__), sl_Reckoner___init__⟩)
    (c_Reckoner___init__ : PySem.W.codeIn K cd_Reckoner___init__ "Reckoner.__init__" = true)
    (k_Reckoner___init__ : PySem.W.keepIn K (.ref f_Reckoner___init__) = true)
    (a_Reckoner_look_for : PySem.W.findIn K (.ref C_Reckoner) "look_for" = some (some (.ref f_Reckoner_look_for)))
    (i_Reckoner_look_for : PySem.W.isFn K (.ref f_Reckoner_look_for) = true)
    (l_Reckoner_look_for : K.lookup f_Reckoner_look_for = some ⟨oc_Reckoner_look_for, od_Reckoner_look_for, .func (PySem.W.fnOf "look_for" "Reckoner.look_for" (defArgs s_Reckoner_look_for) (defBody s_Reckoner_look_for) (defScope s_Reckoner_look_for) .none kV_Reckoner_look_for dc_Reckoner_look_for pm_Reckoner_look_for an_Reckoner_look_for cd_Reckoner_look_for ct_Reckoner_look_for), sl_Reckoner_look_for⟩)
    (c_Reckoner_look_for : PySem.W.codeIn K cd_Reckoner_look_for "Reckoner.look_for" = true)
    (k_Reckoner_look_for : PySem.W.keepIn K (.ref f_Reckoner_look_for) = true)
    (pg_Reckoner : PySem.W.plainGet K C_Reckoner Str.empty = true)
    (hd_Reckoner : PySem.W.hasDictIn K C_Reckoner = true)
    (po_Reckoner : PySem.W.plainOver K C_Reckoner = true)
    (sa_Reckoner : PySem.W.findIn K (.ref C_Reckoner) "__setattr__" = some (some (.builtin "object.__setattr__")))
    (mk_Reckoner : PySem.W.makesIn K C_Reckoner = true)
    (k_Reckoner : PySem.W.keepIn K (.ref C_Reckoner) = true)
    (n_Reckoner_given : PySem.W.findIn K (.ref C_Reckoner) "given" = some none)
    (n_Reckoner_recipes : PySem.W.findIn K (.ref C_Reckoner) "recipes" = some none)
    (n_Reckoner_known : PySem.W.findIn K (.ref C_Reckoner) "known" = some none)
    (n_Reckoner_read_for : PySem.W.findIn K (.ref C_Reckoner) "read_for" = some none)
    (n_Reckoner_asked : PySem.W.findIn K (.ref C_Reckoner) "asked" = some none)
    (e_cd : cd_Reckoner_look_for = .ref cL)
    (h_tab : h.get? PL = some { cls := .none, data := .fields #[] })
    (h_nT : K.lookup PL = none)
    (h_cd : PySem.W.codeHdIn K cL PL = true)
    {C_MadeError C_NoName C_Ring : Addr}
    (a_MadeError : PySem.W.nsIn K mainGlobals "MadeError" = some (some (.ref C_MadeError)))
    (a_NoName : PySem.W.nsIn K mainGlobals "NoName" = some (some (.ref C_NoName)))
    (a_Ring : PySem.W.nsIn K mainGlobals "Ring" = some (some (.ref C_Ring)))
    (d_MadeError : PySem.W.hasDictIn K C_MadeError = true)
    (d_NoName : PySem.W.hasDictIn K C_NoName = true)
    (d_Ring : PySem.W.hasDictIn K C_Ring = true)
    (y_MadeError : PySem.W.typeIn K (.ref C_MadeError) = some (.type "type"))
    (y_NoName : PySem.W.typeIn K (.ref C_NoName) = some (.type "type"))
    (y_Ring : PySem.W.typeIn K (.ref C_Ring) = some (.type "type"))
    (b_MadeError : PySem.W.subIn K (.ref C_MadeError) (.type "BaseException") = some true)
    (q_hn : PySem.W.specialIn K (.builtin "object.__class__") "__get__" = some (some (.builtin "getset_descriptor.__get__")))
    (q_ht : PySem.W.takesIn K (.builtin "object.__class__") = some true)
    (uNoName_MadeError : PySem.W.subIn K (.ref C_NoName) (.ref C_MadeError) = some true)
    (uNoName_Ring : PySem.W.subIn K (.ref C_NoName) (.ref C_Ring) = some false)
    (wNoName_Ring : (C_NoName == C_Ring) = false)
    (uNoName_ValueError : PySem.W.subIn K (.ref C_NoName) (.type "ValueError") = some true)
    (b_NoName : PySem.W.subIn K (.ref C_NoName) (.type "BaseException") = some true)
    (hgNoName : PySem.W.findIn K (.ref C_NoName) "__getattribute__" = some (some (.builtin "BaseException.__getattribute__")))
    (hkNoName : PySem.W.findIn K (.ref C_NoName) "__getattr__" = some none)
    (haNoName : PySem.W.findIn K (.ref C_NoName) "__class__" = some (some (.builtin "object.__class__")))
    (hmNoName : PySem.W.mroIn K C_NoName (.type "object") = some true)
    (x_NoName : oexB K C_NoName = true)
    (sa_NoName : PySem.W.findIn K (.ref C_NoName) "__setattr__" = some (some (.builtin "object.__setattr__")))
    (k_NoName : PySem.W.keepIn K (.ref C_NoName) = true)
    {f_NoName___init__ : Addr} {od_NoName_i an_NoName_i : Option Addr} {sl_NoName_i : Array (Option Value)} {oc_NoName_i kV_NoName_i dc_NoName_i pm_NoName_i cd_NoName_i ct_NoName_i : Value}
    (i_NoName : PySem.W.findIn K (.ref C_NoName) "__init__" = some (some (.ref f_NoName___init__)))
    (t_NoName : PySem.W.typeIn K (.ref f_NoName___init__) = some (.type "function"))
    (n_NoName : PySem.W.findIn K (.ref C_NoName) "name" = some none)
    (l_NoName_i : K.lookup f_NoName___init__ = some ⟨oc_NoName_i, od_NoName_i, .func (PySem.W.fnOf "__init__" "NoName.__init__" (defArgs s_NoName___init__) (defBody s_NoName___init__) (defScope s_NoName___init__) .none kV_NoName_i dc_NoName_i pm_NoName_i an_NoName_i cd_NoName_i ct_NoName_i), sl_NoName_i⟩)
    (c_NoName_i : PySem.W.codeIn K cd_NoName_i "NoName.__init__" = true)
    (k_NoName_i : PySem.W.keepIn K (.ref f_NoName___init__) = true)
    (uRing_MadeError : PySem.W.subIn K (.ref C_Ring) (.ref C_MadeError) = some true)
    (uRing_NoName : PySem.W.subIn K (.ref C_Ring) (.ref C_NoName) = some false)
    (wRing_NoName : (C_Ring == C_NoName) = false)
    (uRing_ValueError : PySem.W.subIn K (.ref C_Ring) (.type "ValueError") = some true)
    (b_Ring : PySem.W.subIn K (.ref C_Ring) (.type "BaseException") = some true)
    (hgRing : PySem.W.findIn K (.ref C_Ring) "__getattribute__" = some (some (.builtin "BaseException.__getattribute__")))
    (hkRing : PySem.W.findIn K (.ref C_Ring) "__getattr__" = some none)
    (haRing : PySem.W.findIn K (.ref C_Ring) "__class__" = some (some (.builtin "object.__class__")))
    (hmRing : PySem.W.mroIn K C_Ring (.type "object") = some true)
    (x_Ring : oexB K C_Ring = true)
    (sa_Ring : PySem.W.findIn K (.ref C_Ring) "__setattr__" = some (some (.builtin "object.__setattr__")))
    (k_Ring : PySem.W.keepIn K (.ref C_Ring) = true)
    {f_Ring___init__ : Addr} {od_Ring_i an_Ring_i : Option Addr} {sl_Ring_i : Array (Option Value)} {oc_Ring_i kV_Ring_i dc_Ring_i pm_Ring_i cd_Ring_i ct_Ring_i : Value}
    (i_Ring : PySem.W.findIn K (.ref C_Ring) "__init__" = some (some (.ref f_Ring___init__)))
    (t_Ring : PySem.W.typeIn K (.ref f_Ring___init__) = some (.type "function"))
    (n_Ring : PySem.W.findIn K (.ref C_Ring) "ring" = some none)
    (l_Ring_i : K.lookup f_Ring___init__ = some ⟨oc_Ring_i, od_Ring_i, .func (PySem.W.fnOf "__init__" "Ring.__init__" (defArgs s_Ring___init__) (defBody s_Ring___init__) (defScope s_Ring___init__) .none kV_Ring_i dc_Ring_i pm_Ring_i an_Ring_i cd_Ring_i ct_Ring_i), sl_Ring_i⟩)
    (c_Ring_i : PySem.W.codeIn K cd_Ring_i "Ring.__init__" = true)
    (k_Ring_i : PySem.W.keepIn K (.ref f_Ring___init__) = true)
    : LamX.LawAtS l w K CX0 (lvR 5 20 + 4) 63 "script" mg fa h := by
  have e := hfa.symm.trans (PySem.W.mg_of X G a_law)
  cases e
  have F_put_together := fun_mk (st := s_put_together) l_put_together c_put_together k_put_together
  have D_put_together : IsDef K mg "put_together" s_put_together ["kind", "one", "other"] := ⟨f_put_together, _, F_put_together, PySem.W.mg_of X G a_put_together, F_put_together.binds (ps := ["kind", "one", "other"]) fun _ _ _ _ _ _ us hl => match us, hl with | [_, _, _], _ => rfl⟩
  have F_worth_by := fun_mk (st := s_worth_by) l_worth_by c_worth_by k_worth_by
  have D_worth_by : IsDef K mg "worth_by" s_worth_by ["recipe", "look"] := ⟨f_worth_by, _, F_worth_by, PySem.W.mg_of X G a_worth_by, F_worth_by.binds (ps := ["recipe", "look"]) fun _ _ _ _ _ _ us hl => match us, hl with | [_, _], _ => rfl⟩
  have F_worth_of := fun_mk (st := s_worth_of) l_worth_of c_worth_of k_worth_of
  have D_worth_of : IsDef K mg "worth_of" s_worth_of ["house", "name"] := ⟨f_worth_of, _, F_worth_of, PySem.W.mg_of X G a_worth_of, F_worth_of.binds (ps := ["house", "name"]) fun _ _ _ _ _ _ us hl => match us, hl with | [_, _], _ => rfl⟩
  have F_reads_of := fun_mk (st := s_reads_of) l_reads_of c_reads_of k_reads_of
  have D_reads_of : IsDef K mg "reads_of" s_reads_of ["house", "name"] := ⟨f_reads_of, _, F_reads_of, PySem.W.mg_of X G a_reads_of, F_reads_of.binds (ps := ["house", "name"]) fun _ _ _ _ _ _ us hl => match us, hl with | [_, _], _ => rfl⟩
  have F__law_cell := fun_mk (st := s__law_cell) l__law_cell c__law_cell k__law_cell
  have D__law_cell : IsDef K mg "_law_cell" s__law_cell ["script", "k"] := ⟨f__law_cell, _, F__law_cell, PySem.W.mg_of X G a__law_cell, F__law_cell.binds (ps := ["script", "k"]) fun _ _ _ _ _ _ us hl => match us, hl with | [_, _], _ => rfl⟩
  have F__law_state := fun_mk (st := s__law_state) l__law_state c__law_state k__law_state
  have D__law_state : IsDef K mg "_law_state" s__law_state ["script", "k"] := ⟨f__law_state, _, F__law_state, PySem.W.mg_of X G a__law_state, F__law_state.binds (ps := ["script", "k"]) fun _ _ _ _ _ _ us hl => match us, hl with | [_, _], _ => rfl⟩
  have F__law_take := fun_mk (st := s__law_take) l__law_take c__law_take k__law_take
  have D__law_take : IsDef K mg "_law_take" s__law_take ["state", "many"] := ⟨f__law_take, _, F__law_take, PySem.W.mg_of X G a__law_take, F__law_take.binds (ps := ["state", "many"]) fun _ _ _ _ _ _ us hl => match us, hl with | [_, _], _ => rfl⟩
  have F__law_number := fun_mk (st := s__law_number) l__law_number c__law_number k__law_number
  have D__law_number : IsDef K mg "_law_number" s__law_number ["state"] := ⟨f__law_number, _, F__law_number, PySem.W.mg_of X G a__law_number, F__law_number.binds (ps := ["state"]) fun _ _ _ _ _ _ us hl => match us, hl with | [_], _ => rfl⟩
  have F__law_leaf := fun_mk (st := s__law_leaf) l__law_leaf c__law_leaf k__law_leaf
  have D__law_leaf : IsDef K mg "_law_leaf" s__law_leaf ["state", "some"] := ⟨f__law_leaf, _, F__law_leaf, PySem.W.mg_of X G a__law_leaf, F__law_leaf.binds (ps := ["state", "some"]) fun _ _ _ _ _ _ us hl => match us, hl with | [_, _], _ => rfl⟩
  have F__law_recipe := fun_mk (st := s__law_recipe) l__law_recipe c__law_recipe k__law_recipe
  have D__law_recipe : IsDef K mg "_law_recipe" s__law_recipe ["state", "some", "deep"] := ⟨f__law_recipe, _, F__law_recipe, PySem.W.mg_of X G a__law_recipe, F__law_recipe.binds (ps := ["state", "some", "deep"]) fun _ _ _ _ _ _ us hl => match us, hl with | [_, _, _], _ => rfl⟩
  have F__law_names := fun_mk (st := s__law_names) l__law_names c__law_names k__law_names
  have D__law_names : IsDef K mg "_law_names" s__law_names [] := ⟨f__law_names, _, F__law_names, PySem.W.mg_of X G a__law_names, F__law_names.binds (ps := []) fun _ _ _ _ _ _ us hl => match us, hl with | [], _ => rfl⟩
  have F__law_house := fun_mk (st := s__law_house) l__law_house c__law_house k__law_house
  have D__law_house : IsDef K mg "_law_house" s__law_house ["script", "first"] := ⟨f__law_house, _, F__law_house, PySem.W.mg_of X G a__law_house, F__law_house.binds (ps := ["script", "first"]) fun _ _ _ _ _ _ us hl => match us, hl with | [_, _], _ => rfl⟩
  have F__law_worth_told := fun_mk (st := s__law_worth_told) l__law_worth_told c__law_worth_told k__law_worth_told
  have D__law_worth_told : IsDef K mg "_law_worth_told" s__law_worth_told ["house", "name"] := ⟨f__law_worth_told, _, F__law_worth_told, PySem.W.mg_of X G a__law_worth_told, F__law_worth_told.binds (ps := ["house", "name"]) fun _ _ _ _ _ _ us hl => match us, hl with | [_, _], _ => rfl⟩
  have F_law := fun_mk (st := s_law) l_law c_law k_law
  have m_len := PySem.W.mg_none_of X G z_len
  have m_list := PySem.W.mg_none_of X G z_list
  have m_range := PySem.W.mg_none_of X G z_range
  have m_tuple := PySem.W.mg_none_of X G z_tuple
  have m_str := PySem.W.mg_none_of X G z_str
  have m_int := PySem.W.mg_none_of X G z_int
  have m_isinstance := PySem.W.mg_none_of X G z_isinstance
  have m_bool := PySem.W.mg_none_of X G z_bool
  have m_sum := PySem.W.mg_none_of X G z_sum
  have m_dict := PySem.W.mg_none_of X G z_dict
  have m_sorted := PySem.W.mg_none_of X G z_sorted
  have m_zip := PySem.W.mg_none_of X G z_zip
  have m_enumerate := PySem.W.mg_none_of X G z_enumerate
  have m_min := PySem.W.mg_none_of X G z_min
  have m_max := PySem.W.mg_none_of X G z_max
  have m_set := PySem.W.mg_none_of X G z_set
  have m_ValueError := PySem.W.mg_none_of X G z_ValueError
  have T : Txt K mg := ⟨m_len, m_list, m_range, m_tuple, m_str, m_int, m_isinstance, m_bool, m_sum, m_dict, m_sorted, m_zip, m_enumerate, m_min, m_max, m_set, m_ValueError⟩
  subst e_cd
  have F_Reckoner___init__ := fun_mk (st := s_Reckoner___init__) l_Reckoner___init__ c_Reckoner___init__ k_Reckoner___init__
  have B_Reckoner___init__ := F_Reckoner___init__.binds (ps := ["self", "house"]) fun _ _ _ _ _ _ us hl => match us, hl with | [_, _], _ => rfl
  have F_Reckoner_look_for := fun_mk (st := s_Reckoner_look_for) l_Reckoner_look_for c_Reckoner_look_for k_Reckoner_look_for
  have B_Reckoner_look_for := F_Reckoner_look_for.binds (ps := ["self", "name"]) fun _ _ _ _ _ _ us hl => match us, hl with | [_, _], _ => rfl
  have M_Reckoner_look_for : IsMet K C_Reckoner "look_for" "Reckoner.look_for" s_Reckoner_look_for ["self", "name"] := ⟨f_Reckoner_look_for, _, F_Reckoner_look_for, ⟨a_Reckoner_look_for, i_Reckoner_look_for, k_Reckoner_look_for⟩, B_Reckoner_look_for⟩
  have ZRk : RkT K mg C_Reckoner f_Reckoner___init__ := ⟨⟨pg_Reckoner, hd_Reckoner, po_Reckoner, sa_Reckoner⟩, n_Reckoner_given, n_Reckoner_recipes, n_Reckoner_known, n_Reckoner_read_for, n_Reckoner_asked, PySem.W.mg_of X G a_Reckoner, ⟨mk_Reckoner, a_Reckoner___init__, i_Reckoner___init__, k_Reckoner⟩⟩
  have Dm : IsMetC K C_Reckoner "look_for" "Reckoner.look_for" s_Reckoner_look_for ["self", "name"] cL := ⟨f_Reckoner_look_for, _, _, _, _, _, _, _, _, _, rfl, l_Reckoner_look_for, c_Reckoner_look_for, ⟨a_Reckoner_look_for, i_Reckoner_look_for, k_Reckoner_look_for⟩, B_Reckoner_look_for⟩
  have XfNoName : XfC K C_NoName := ⟨hgNoName, hkNoName, b_NoName, d_NoName⟩
  have ZNoName : OwnX K mg "NoName" "name" C_NoName f_NoName___init__ := ⟨⟨oexB_ok x_NoName, sa_NoName, b_NoName, y_NoName, k_NoName⟩, i_NoName, t_NoName, PySem.W.mg_of X G a_NoName, n_NoName, XfNoName⟩
  have F_NoName___init__ := fun_mk (st := s_NoName___init__) l_NoName_i c_NoName_i k_NoName_i
  have B_NoName___init__ := F_NoName___init__.binds (ps := ["self", "name"]) fun _ _ _ _ _ _ us hl => match us, hl with | [_, _], _ => rfl
  have XfRing : XfC K C_Ring := ⟨hgRing, hkRing, b_Ring, d_Ring⟩
  have ZRing : OwnX K mg "Ring" "ring" C_Ring f_Ring___init__ := ⟨⟨oexB_ok x_Ring, sa_Ring, b_Ring, y_Ring, k_Ring⟩, i_Ring, t_Ring, PySem.W.mg_of X G a_Ring, n_Ring, XfRing⟩
  have F_Ring___init__ := fun_mk (st := s_Ring___init__) l_Ring_i c_Ring_i k_Ring_i
  have B_Ring___init__ := F_Ring___init__.binds (ps := ["self", "ring"]) fun _ _ _ _ _ _ us hl => match us, hl with | [_, _], _ => rfl
  have ZM : PySem.W.exmOne K (.ref C_NoName) (.ref C_MadeError) = some true ∧ PySem.W.exmOne K (.ref C_Ring) (.ref C_MadeError) = some true := ⟨PySem.W.exm_ref b_MadeError d_MadeError y_MadeError uNoName_MadeError, PySem.W.exm_ref b_MadeError d_MadeError y_MadeError uRing_MadeError⟩
  refine ⟨PySem.W.fnOf "law" "law" (defArgs s_law) (defBody s_law) (defScope s_law) .none kV_law dc_law pm_law an_law cd_law ct_law, [(cL, PL)], spLawT K [(PL, fun _ _ => nm_Reckoner_look_for_look)], fun p hp => ?_, fun p hp => ?_, fun p hp => ?_, fun s v => .of_eq rfl, fun H a ns hl _ hH hS => ?_, fun base _ _ hTB => ?_⟩
  · rw [List.mem_singleton.mp hp]; exact h_tab
  · rw [List.mem_singleton.mp hp]; exact h_nT
  · rw [List.mem_singleton.mp hp]; exact PySem.W.codeHd_of_K X h_cd
  · refine ⟨a, ns, rfl, hS, hl, fun p hp => ?_, fun _ => rfl⟩
    rw [List.mem_singleton.mp hp]
    exact NdefX.TabN.nil (hH _ (List.mem_singleton.mpr rfl))
  have TB := hTB _ (List.mem_singleton.mpr rfl)
  have HM : (PL, fun _ _ => nm_Reckoner_look_for_look) ∈ [((PL, fun _ _ => nm_Reckoner_look_for_look) : NdefX.NTab)] := List.mem_singleton.mpr rfl
  have HU : ∀ p ∈ [((PL, fun _ _ => nm_Reckoner_look_for_look) : NdefX.NTab)], p.1 = PL → p.2 = fun _ _ => nm_Reckoner_look_for_look := fun p hp _ => by rw [List.mem_singleton.mp hp]
  have W1 := ok_put_together (P := l.prog) (w := w) (base := base) T D_put_together
  have I1 := ok_NoName_init (P := l.prog) (w := w) (base := base) T ZNoName F_NoName___init__
  have I2 := ok_Ring_init (P := l.prog) (w := w) (base := base) T ZRing F_Ring___init__
  have I3 := ok_Reckoner_init (P := l.prog) (w := w) (base := base) T ZRk F_Reckoner___init__
  have L1 := ok_look_for (dm := 5) T ZRk ZNoName ZRing I1 B_NoName___init__ I2 B_Ring___init__ TB HM HU Dm D_worth_by W1 20
  have LW := ok_worth_of T ZRk D_worth_of I3 B_Reckoner___init__ L1
  have LR := ok_reads_of T ZRk D_reads_of I3 B_Reckoner___init__ L1
  have A1 := ok__law_cellF (P := l.prog) (w := w) (base := base) T D__law_cell
  have A2 := ok__law_stateF T D__law_state A1
  have A3 := ok__law_takeF (P := l.prog) (w := w) (base := base) T D__law_take
  have A5 := ok__law_numberF T D__law_number A3
  have A6 := ok__law_leafF T D__law_leaf A3 A5
  have A7 := ok__law_recipeF T D__law_recipe A3 A6 3
  have A8 := ok__law_namesF (P := l.prog) (w := w) (base := base) T D__law_names
  have A9 := ok__law_houseF T D__law_house A1 A2 A3 A5 A7 A8
  have A10 := ok__law_worth_told T ⟨PySem.W.mg_of X G a_MadeError, ZM.1, ZM.2⟩ D__law_worth_told LW
  exact ok_law F_law T A1 A9 A8 A10 LW LR
theorem walk {l : PySem.W.OpenLaw} {q : Program} {loose : List Str} {XP : (Str → Option Value) → Heap → Prop} {YP : World → Heap → Prop} {d : DefRec} {K : Params → PySem.W.Frag} (hn : l.most = some 63) (hdf : d.params.defaults = [])
    (hY : ∀ (w : World) (h : Heap), YP w h → (K w.params).In h)
    (F : ∀ (w : World) (mg : Str → Option Value) (fa : Addr) (h : Heap), YP w h → (K w.params).In h → h.Ns mainGlobals mg → mg d.name = some (.ref fa) → LamX.LawAtS l w (K w.params) CX0 (lvR 5 20 + 4) 63 "script" mg fa h) :
    PySem.W.WalkO q loose XP YP l.row.toRowW d [] (fun f vs => PySem.call f vs) :=
  LamX.walk_ofTs (n := 63) (k := (lvR 5 20 + 4)) (x := "script") (CX := fun _ => CX0) hn (by decide) hdf ⟨rfl, by decide, by decide⟩ hY F fun _ _ _ _ _ z => z
end Mad
open PySem PySem.W PyProof.Rows
set_option maxRecDepth 100000 in
set_option maxHeartbeats 0 in
theorem PySem.Challenge.cw_madeagain_k13_whole_only_what_is_read_ma_holds : PySem.Challenge.rw_madeagain_k13_whole_only_what_is_read_ma.Holds := by
  w_on; o_law; k_head; (case hw => w_witness2)
  k_fill
  refine Mad.walk (l := PySem.Challenge.rw_madeagain_k13_whole_only_what_is_read_ma) rfl rfl (fun w h Y => PySem.W.km_in_of Y) ?F
  case F =>
    intro w mg fa h Y KX G hmg
    refine' Mad.all_mk KX G hmg ?a_put_together ?l_put_together ?c_put_together ?k_put_together ?a_worth_by ?l_worth_by ?c_worth_by ?k_worth_by ?a_worth_of ?l_worth_of ?c_worth_of ?k_worth_of ?a_reads_of ?l_reads_of ?c_reads_of ?k_reads_of ?a__law_cell ?l__law_cell ?c__law_cell ?k__law_cell ?a__law_state ?l__law_state ?c__law_state ?k__law_state ?a__law_take ?l__law_take ?c__law_take ?k__law_take ?a__law_number ?l__law_number ?c__law_number ?k__law_number ?a__law_leaf ?l__law_leaf ?c__law_leaf ?k__law_leaf ?a__law_recipe ?l__law_recipe ?c__law_recipe ?k__law_recipe ?a__law_names ?l__law_names ?c__law_names ?k__law_names ?a__law_house ?l__law_house ?c__law_house ?k__law_house ?a__law_worth_told ?l__law_worth_told ?c__law_worth_told ?k__law_worth_told ?a_law ?l_law ?c_law ?k_law ?z_len ?z_list ?z_range ?z_tuple ?z_str ?z_int ?z_isinstance ?z_bool ?z_sum ?z_dict ?z_sorted ?z_zip ?z_enumerate ?z_min ?z_max ?z_set ?z_ValueError ?a_Reckoner ?a_Reckoner___init__ ?i_Reckoner___init__ ?l_Reckoner___init__ ?c_Reckoner___init__ ?k_Reckoner___init__ ?a_Reckoner_look_for ?i_Reckoner_look_for ?l_Reckoner_look_for ?c_Reckoner_look_for ?k_Reckoner_look_for ?pg_Reckoner ?hd_Reckoner ?po_Reckoner ?sa_Reckoner ?mk_Reckoner ?k_Reckoner ?n_Reckoner_given ?n_Reckoner_recipes ?n_Reckoner_known ?n_Reckoner_read_for ?n_Reckoner_asked ?e_cd ?h_tab ?h_nT ?h_cd ?a_MadeError ?a_NoName ?a_Ring ?d_MadeError ?d_NoName ?d_Ring ?y_MadeError ?y_NoName ?y_Ring ?b_MadeError ?q_hn ?q_ht ?uNoName_MadeError ?uNoName_Ring ?wNoName_Ring ?uNoName_ValueError ?b_NoName ?hgNoName ?hkNoName ?haNoName ?hmNoName ?x_NoName ?sa_NoName ?k_NoName ?i_NoName ?t_NoName ?n_NoName ?l_NoName_i ?c_NoName_i ?k_NoName_i ?uRing_MadeError ?uRing_NoName ?wRing_NoName ?uRing_ValueError ?b_Ring ?hgRing ?hkRing ?haRing ?hmRing ?x_Ring ?sa_Ring ?k_Ring ?i_Ring ?t_Ring ?n_Ring ?l_Ring_i ?c_Ring_i ?k_Ring_i
    (case a_put_together => k_is)
    (case l_put_together => k_is)
    (case c_put_together => k_is)
    (case k_put_together => k_is)
    (case a_worth_by => k_is)
    (case l_worth_by => k_is)
    (case c_worth_by => k_is)
    (case k_worth_by => k_is)
    (case a_worth_of => k_is)
    (case l_worth_of => k_is)
    (case c_worth_of => k_is)
    (case k_worth_of => k_is)
    (case a_reads_of => k_is)
    (case l_reads_of => k_is)
    (case c_reads_of => k_is)
    (case k_reads_of => k_is)
    (case a__law_cell => k_is)
    (case l__law_cell => k_is)
    (case c__law_cell => k_is)
    (case k__law_cell => k_is)
    (case a__law_state => k_is)
    (case l__law_state => k_is)
    (case c__law_state => k_is)
    (case k__law_state => k_is)
    (case a__law_take => k_is)
    (case l__law_take => k_is)
    (case c__law_take => k_is)
    (case k__law_take => k_is)
    (case a__law_number => k_is)
    (case l__law_number => k_is)
    (case c__law_number => k_is)
    (case k__law_number => k_is)
    (case a__law_leaf => k_is)
    (case l__law_leaf => k_is)
    (case c__law_leaf => k_is)
    (case k__law_leaf => k_is)
    (case a__law_recipe => k_is)
    (case l__law_recipe => k_is)
    (case c__law_recipe => k_is)
    (case k__law_recipe => k_is)
    (case a__law_names => k_is)
    (case l__law_names => k_is)
    (case c__law_names => k_is)
    (case k__law_names => k_is)
    (case a__law_house => k_is)
    (case l__law_house => k_is)
    (case c__law_house => k_is)
    (case k__law_house => k_is)
    (case a__law_worth_told => k_is)
    (case l__law_worth_told => k_is)
    (case c__law_worth_told => k_is)
    (case k__law_worth_told => k_is)
    (case a_law => k_is)
    (case l_law => k_is)
    (case c_law => k_is)
    (case k_law => k_is)
    (case z_len => k_is)
    (case z_list => k_is)
    (case z_range => k_is)
    (case z_tuple => k_is)
    (case z_str => k_is)
    (case z_int => k_is)
    (case z_isinstance => k_is)
    (case z_bool => k_is)
    (case z_sum => k_is)
    (case z_dict => k_is)
    (case z_sorted => k_is)
    (case z_zip => k_is)
    (case z_enumerate => k_is)
    (case z_min => k_is)
    (case z_max => k_is)
    (case z_set => k_is)
    (case z_ValueError => k_is)
    (case a_Reckoner => k_is)
    (case a_Reckoner___init__ => k_is)
    (case i_Reckoner___init__ => k_is)
    (case l_Reckoner___init__ => k_is)
    (case c_Reckoner___init__ => k_is)
    (case k_Reckoner___init__ => k_is)
    (case a_Reckoner_look_for => k_is)
    (case i_Reckoner_look_for => k_is)
    (case l_Reckoner_look_for => k_is)
    (case c_Reckoner_look_for => k_is)
    (case k_Reckoner_look_for => k_is)
    (case pg_Reckoner => k_is)
    (case hd_Reckoner => k_is)
    (case po_Reckoner => k_is)
    (case sa_Reckoner => k_is)
    (case mk_Reckoner => k_is)
    (case k_Reckoner => k_is)
    (case n_Reckoner_given => k_is)
    (case n_Reckoner_recipes => k_is)
    (case n_Reckoner_known => k_is)
    (case n_Reckoner_read_for => k_is)
    (case n_Reckoner_asked => k_is)
    (case e_cd => rfl)
    (case h_tab => exact PySem.W.km_tabs_of Y _ List.mem_cons_self)
    (case h_nT => kernel_rfl)
    (case h_cd => kernel_rfl)
    (case a_MadeError => k_is)
    (case a_NoName => k_is)
    (case a_Ring => k_is)
    (case d_MadeError => k_is)
    (case d_NoName => k_is)
    (case d_Ring => k_is)
    (case y_MadeError => k_is)
    (case y_NoName => k_is)
    (case y_Ring => k_is)
    (case b_MadeError => k_is)
    (case q_hn => k_is)
    (case q_ht => k_is)
    (case uNoName_MadeError => k_is)
    (case uNoName_Ring => k_is)
    (case wNoName_Ring => first | rfl | decide)
    (case uNoName_ValueError => k_is)
    (case b_NoName => k_is)
    (case hgNoName => k_is)
    (case hkNoName => k_is)
    (case haNoName => k_is)
    (case hmNoName => k_is)
    (case x_NoName => kernel_rfl)
    (case sa_NoName => k_is)
    (case k_NoName => k_is)
    (case i_NoName => k_is)
    (case t_NoName => k_is)
    (case n_NoName => k_is)
    (case l_NoName_i => k_is)
    (case c_NoName_i => k_is)
    (case k_NoName_i => k_is)
    (case uRing_MadeError => k_is)
    (case uRing_NoName => k_is)
    (case wRing_NoName => first | rfl | decide)
    (case uRing_ValueError => k_is)
    (case b_Ring => k_is)
    (case hgRing => k_is)
    (case hkRing => k_is)
    (case haRing => k_is)
    (case hmRing => k_is)
    (case x_Ring => kernel_rfl)
    (case sa_Ring => k_is)
    (case k_Ring => k_is)
    (case i_Ring => k_is)
    (case t_Ring => k_is)
    (case n_Ring => k_is)
    (case l_Ring_i => k_is)
    (case c_Ring_i => k_is)
    (case k_Ring_i => k_is)
#print axioms PySem.Challenge.cw_madeagain_k13_whole_only_what_is_read_ma_holds
