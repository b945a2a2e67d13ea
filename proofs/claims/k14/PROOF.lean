import PyProof.Rows.All
import Wide.All
import OpenK.AllK
import Wide.FinOn
import HandS.ForMost
import HandS.TupAny
import HandS.TupMul
import HandS.Exc
import HandS.ExcCtx
import KE.KeyNested
import HandS.Lambda
import HandS.Wide
import HandS.StrMore
import HandS.Style
import HandS.Flow
import PyProof.StrBlock2
import PyProof.ReprRoads
import HandS.NoneIn
import HandS.Deep
import PyProof.StrLawsFrom
import PyProof.Rows.StrRev
import HandS.IsInst
import HandS.Zip
import PyProof.EnumMake
import PyProof.Draws
import HandS.Star
import KE.GoesEnum
import KE.KDictZip
import HandS.DictTup
import HandS.Strs
import HandS.WideBits
import HandS.Replace
import HandS.ReplaceList
import PyProof.Rows.StrBetween
import HandS.NamedTupSort
import HandS.SortInts
import HandS.SetFor
import HandS.GenList
import PyProof.P3In
import HandS.ExcIs
import HandS.ExcOwn
import HandS.ExcField
import HandS.Small
import KE.KExcInit
import KE.KExcIs
import KE.KExcLine
import HandS.Conv
import PyProof.CallStr
import PyProof.Rows.IntBool
import KE.DatumOrd
import HandS.Property
import KE.KOpsOwn
import KE.KCallOwn
import PyProof.Conv_bool
import PyProof.InstNe
import PyProof.StrLaws
import HandS.ClsMeth
import PyProof.Rows.ChunkEnd
import HandS.Finally
import HandS.Defaults
import HandS.GenYield
import PyProof.Calm
import PyProof.Sched
import PyProof.Ends
import Open.Head
import KE.OsRunLaw
import PySem.Challenge.RW_carbonpad_k14_picks_listed
set_option Elab.async false
set_option linter.all false
set_option maxRecDepth 100000
set_option maxHeartbeats 1000000
namespace HDR
open PySem PySem.W PySem.Calls PyProof.Rows HeadRun
set_option hygiene false in
local macro_rules
  | `(tactic| o_head $H) => `(tactic| assumption)
theorem hmk (h : PySem.Challenge.rw_carbonpad_k14_picks_listed.row.Holds) : PySem.Challenge.rw_carbonpad_k14_picks_listed.row.Holds := by k_head
def hasL : List Addr := [2, 3, 6, 15, 17, 18, 20, 21, 22, 24, 25, 27, 28, 29, 32, 33, 34, 37, 38, 39, 41, 42, 44, 45, 46, 49, 50, 51, 54, 55, 56, 58, 59, 61, 62, 63, 66, 67, 68, 70, 71, 73, 74, 75, 78, 79]
theorem hek : ∀ P, hasL = ((by first | exact hmk.heap_1 | exact hmk.heap_1_1 : Params → Frag) P).map (·.1) := fun _ => by kernel_rfl
def hvw : Program := { PySem.Challenge.pw_carbonpad_k14_picks_listed with main := { PySem.Challenge.pw_carbonpad_k14_picks_listed.main with body := PySem.Challenge.pw_carbonpad_k14_picks_listed.main.body.drop 12 } }
def hnames : List String :=
  "picks_behind" ::
  "each_pick" ::
  "_law_jar" ::
  "_law_take" ::
  "_law_any" ::
  "_law_drawn" ::
  "_law_mate" ::
  "_law_two" ::
  "_law_all" ::
  "_law_begun" ::
  []
def hloose : List Str := hnames.map Str.ofString
def hXt : Shared → Bool := fun s => xlAt hvw [] s && recOk (PySem.Challenge.rw_carbonpad_k14_picks_listed.row.toRowW.records) s
theorem run_o (w : World) (os : OsState) : (endF (stepQ (denQ tabQ) PySem.Challenge.pw_carbonpad_k14_picks_listed w) 880 PySem.Challenge.pw_carbonpad_k14_picks_listed w os).map (fun s => (looksF PySem.Challenge.pw_carbonpad_k14_picks_listed (boot_heap w.params) s.abs, seenQ hvw hloose (importedModules PySem.Challenge.pw_carbonpad_k14_picks_listed.main.body) hXt s.abs, hasL.map (getT s))) = some (true, openGood hvw hloose, ((by first | exact hmk.heap_1 | exact hmk.heap_1_1 : Params → Frag) w.params).map fun x => some x.2) := by kernel_rfl
theorem hleft : LeftO PySem.Challenge.pw_carbonpad_k14_picks_listed hvw hloose hXt (Hook.obs (kHook (by first | exact hmk.heap_1 | exact hmk.heap_1_1 : Params → Frag) hasL hek)) (Hook.val (kHook (by first | exact hmk.heap_1 | exact hmk.heap_1_1 : Params → Frag) hasL hek)) 1580 true :=
  left_oneK (M := 880) (by kernel_rfl) (by rfl) (fun s => by kernel_rfl) (by rfl) run_o
def hdL : DefRec := topDef PySem.Challenge.pw_carbonpad_k14_picks_listed 12
end HDR
namespace DL
open PySem PySem.Spec PyProof.Rows L2
/-- a tuple at p that nobody knows: it has no dict -/
def newT (H : Hp) (Q : VK) (vs : List V) : Prop := ∀ (p : Addr) (ob : Obj), H p = none → ob.dict = none → Q (.ref p) (upd H p (.frz ob (.tup vs)))
section
variable {X : Cx}
/-- the object just pushed -/
theorem fin_tup {pins : List (Addr × Obj)} {σ : L2.St} {H : Hp} {s : Shared} {Q : VK} {vs : List V} {its : List Value} (I : Inv X pins σ H s) (hz : vs.length ≤ sizeLine) (r : Vals vs its) (q : newT H Q vs) :
    EP X pins σ Q (.ref s.heap.objs.size) { s with heap := s.heap.push { cls := .type "tuple", data := .seq its.toArray } } :=
  ⟨.ref s.heap.objs.size, _, I.laid (t' := s.toks) (o := .frz { cls := .type "tuple", data := .seq its.toArray } (.tup vs)) (fun b ob q => Heap.get?_push_of_some _ q) (Nat.le_refl _) ⟨Heap.get?_push_size _ rfl, hz, its, r, IsTup.new _ _⟩, rfl, q _ _ (I.hok.fresh (Nat.le_refl _)) rfl⟩
/-- a display -/
def tTupZ (t : TA) : TE := fun σ H Q => t σ H fun xs H1 => xs.length ≤ sizeLine ∧ newT H1 Q xs
theorem pe_tupZ {es : List Expr} {t : TA} {x1 : Nat} {pos : Pos} (h : PA X es t) : PE X (.Tuple es x1 pos) (tTupZ t) := by
  refine ⟨fun pins s σ H Q I hq => ?_⟩
  refine wpAny_Tuple_spliced (thn (h.run pos pins s σ H _ I hq) fun us s1 ⟨xs, H1, I1, r, z, q⟩ => ⟨by rw [← r.length]; exact z, ?_⟩)
  exact fin_tup I1 z r q
/-- x + y -/
def rCatZ (K : PySem.W.Frag) : R2 := fun x y H Q => ∃ a b xs ys, x = .ref a ∧ y = .ref b ∧ SqT K H a xs ∧ SqT K H b ys ∧ xs.length + ys.length ≤ sizeLine ∧
  (xs = [] → Q (.ref b) H) ∧ (xs ≠ [] → ys = [] → Q (.ref a) H) ∧ (xs ≠ [] → ys ≠ [] → newT H Q (xs ++ ys))
theorem op_catZ : OpR X (binaryOp .Add) (rCatZ X.K) := by
  intro pins s σ H x y v u Q I rx ry h
  obtain ⟨a, b, xs, ys, rfl, rfl, ha, hb, hz, q0, q1, q2⟩ := h
  cases rx
  cases ry
  obtain ⟨its, r1, p1, _⟩ := I.tuple ha
  obtain ⟨its2, r2, p2, _⟩ := I.tuple hb
  by_cases hx : xs = []
  · subst hx
    cases r1
    exact cat_tup0 p1 p2 ⟨.ref b, H, I, rfl, q0 rfl⟩
  · refine HT.cat_tup p1 p2 (fun z => hx (r1.nil_iff.mp z)) (fun z => ⟨.ref a, H, I, rfl, q1 hx (r2.nil_iff.mp z)⟩) (fun z => ?_) (by rw [← r1.length, ← r2.length]; exact hz)
    exact fin_tup I (by rw [List.length_append]; exact hz) (r1.append r2) (q2 hx fun w => z (r2.nil_iff.mpr w))
/-- x[i:j] -/
def rSlZ (K : PySem.W.Frag) : V → Option Int → Option Int → Hp → VK → Prop := fun x lo hi H Q => ∃ a xs, x = .ref a ∧ SqT K H a xs ∧
  (HT.sIx xs.length 0 lo = 0 ∧ HT.sIx xs.length xs.length hi = xs.length → Q (.ref a) H) ∧ (¬ (HT.sIx xs.length 0 lo = 0 ∧ HT.sIx xs.length xs.length hi = xs.length) → newT H Q (cutV xs lo hi))
theorem sl_tupZ : SlR X (rSlZ X.K) := by
  intro pins s σ H x v vl vu lo hi sl Q I rx hs pl pu h
  obtain ⟨a, xs, rfl, hx, q1, q2⟩ := h
  cases rx
  obtain ⟨its, r, ht, hz⟩ := I.tuple hx
  have hlen : its.toArray.size = xs.length := by rw [List.size_toArray]; exact r.length.symm
  refine ⟨"tuple", _, PyProof.Rows.slot_tuple_getitem.lookup, ht.typeIs, ?_⟩
  by_cases hw : HT.sIx xs.length 0 lo = 0 ∧ HT.sIx xs.length xs.length hi = xs.length
  · exact getItem_tuple_whole ht hs pl pu (by rw [hlen]; exact hw) ⟨.ref a, H, I, rfl, q1 hw⟩
  · refine HT.getItem_tuple_cut ht hs pl pu (by rw [hlen]; exact hw) ?_ (by rw [hlen]; exact hz)
    rw [hlen]
    exact fin_tup I (Nat.le_trans (cutV_length xs lo hi) hz) ((r.drop (HT.sIx xs.length 0 lo)).take (HT.sIx xs.length xs.length hi - HT.sIx xs.length 0 lo)) (q2 hw)
/-- x * k, x not empty, 2 <= k -/
def rRepZ (K : PySem.W.Frag) : R2 := fun x y H Q => ∃ l k xs, x = .ref l ∧ y = .int k ∧ SqT K H l xs ∧ xs ≠ [] ∧ 2 ≤ k ∧ k ≤ 1000 ∧ xs.length ≤ 1000 ∧ newT H Q (List.replicate k.toNat xs).flatten
theorem op_repZ : OpR X (binaryOp .Mult) (rRepZ X.K) := by
  intro pins s σ H x y v u Q I rx ry h
  obtain ⟨l, k, xs, rfl, rfl, hT, hne, h1, h2, hz, q⟩ := h
  cases rx
  obtain ⟨t, rfl⟩ := ry
  obtain ⟨its, r, ⟨⟨cls, dd, data, sl⟩, ho, hc, n, hd⟩, hs⟩ := I.tuple hT
  simp only at hc hd
  subst hc hd
  have el : its.length = xs.length := r.length.symm
  have ne : its ≠ [] := fun e => hne (List.eq_nil_of_length_eq_zero (by rw [← el, e]; rfl))
  have em : its.toArray.isEmpty = false := by cases its with | nil => exact absurd rfl ne | cons a b => rfl
  have es : its.toArray.size = xs.length := by rw [List.size_toArray, el]
  have hm : ((its.toArray.size : Nat) : Int) * k ≤ 1000000 := by
    rw [es]
    have a1 : ((xs.length : Nat) : Int) * k ≤ 1000 * k := Int.mul_le_mul_of_nonneg_right (by omega) (by omega)
    omega
  have a1 : k.toNat * xs.length ≤ 1000 * 1000 := Nat.mul_le_mul (by omega) hz
  have fl : (List.replicate k.toNat its).flatten.length ≤ sizeLine := by rw [PyProof.Rows.lm_len_rep_flat, el, sizeLine_eq]; omega
  have d0 : (decide (k < -(2 ^ 63)) || decide (k ≥ 2 ^ 63)) = false := by rw [decide_eq_false (by omega), decide_eq_false (by omega)] <;> rfl
  have d1 : (its.toArray.isEmpty || k == 1) = false := by rw [em, Bool.false_or]; exact beq_eq_false_iff_ne.mpr (by omega)
  have d2 : (decide (k ≤ 0) || its.toArray.isEmpty) = false := by rw [em, Bool.or_false]; exact decide_eq_false (by omega)
  have d4 : Builtin.Tuple.tupleTooMany (((its.toArray.size : Nat) : Int) * k) = false := by unfold Builtin.Tuple.tupleTooMany; rw [sizeLine_eq]; exact decide_eq_false (by omega)
  refine wpAny_binaryOp_repeat_ref (T := "tuple") (U := "int") (by decide) ⟨_, ho, rfl⟩ (fun s' => typeIs_int s' k t) noFill_tuple_mul F.fills_int_mul F.slot_int_rmul repeat_tuple F.slot_int_index.lookup
    (call_meets F.slot_int_rmul (typeIs_int s k t) F.entry_int_rmul (F.args_int_rmul_2 _ _) (int_rmul_tuple k t l its.toArray n dd sl)
      ⟨ho, rfl, ⟨_, ho, rfl⟩, call_meets F.slot_tuple_mul ⟨_, ho, rfl⟩ F.entry_tuple_mul (F.args_tuple_mul_2 _ _) (tuple_mulW l its.toArray n dd sl k t d0 d1 d2 (by omega) d4 (by rw [size_rep, List.size_toArray]; exact fl)) ⟨ho, ?_⟩⟩)
  rw [size_rep]
  exact fin_tup I (by rw [PyProof.Rows.lm_len_rep_flat, sizeLine_eq]; omega) (r.rep k.toNat) q
end
end DL

namespace DL
open PySem PySem.Spec PyProof.Rows L2

/-- a text by its signs -/
abbrev S (l : List Nat) : Str := ⟨l.toArray⟩
/-- data as a tree; ref: an object that changes; obj: an own instance that does not; exn: an exception that was caught; gl: a def or a class of the module; scr: the script -/
inductive D where
  | non | bl (b : Bool) | int (i : Int) | str (x : List Nat) | tup (xs : List D) | lst (xs : List D)
  | dct (kvs : List (Key × D)) | scr (ns : List Int) | ref (a : Addr) | ty (n : String) | gl (x : Str) | pr (a b : D) | obj (c : Str) (fs : List (Str × D)) | exn (c : Str) (fs : List (Str × D)) | tkt (n : Nat) (xs : List D)
/-- a tuple that is known to have no dict -/
def PlT (F : Hp) (a : Addr) (vs : List V) : Prop := ∃ ob : Obj, ob.dict = none ∧ F a = some (.frz ob (.tup vs))
/-- .. whose texts have tokens below n -/
def TkT (F : Hp) (a : Addr) (n : Nat) (vs : List V) : Prop := ∃ (ob : Obj) (us : Array Value) (m : Nat), ob.dict = none ∧ ob.data = .seq us m ∧ (∀ x t, Value.str x t ∈ us → 0 < t ∧ t < n) ∧ F a = some (.frz ob (.tup vs))
/-- an object that changes -/
inductive MO where
  | lst (xs : List D) | ins (c : Str) (fs : List (Str × D)) | dct (kvs : List (Key × D)) | dtt (kvs : List (List Key × D)) | dnn (kvs : List (NestedKey × D)) | tbl (q : Str) | xd (fs : List (Str × D)) | exz (c : Str) (fs : List (Str × D)) | clo (q : Str) (params : Arguments) (body : Expr) (scope : Scope) (cells : List (Str × Addr))
abbrev Sto := Addr → Option MO
def sset (μ : Sto) (a : Addr) (o : MO) : Sto := fun b => if b = a then some o else μ b
theorem sset_same {μ : Sto} {a : Addr} {o : MO} : sset μ a o a = some o := if_pos rfl
theorem sset_ne {μ : Sto} {a b : Addr} {o : MO} (h : b ≠ a) : sset μ a o b = μ b := if_neg h
/-- what a slot holds: a value; a list of the frame's own, which nobody else knows -/
inductive DS where
  | val (d : D) | own (xs : List D)
abbrev DEnv := List (Option DS)

mutual
inductive Dt (K : PySem.W.Frag) (mg : Str → Option Value) (F : Hp) : V → D → Prop
  | non : Dt K mg F .non .non
  | bl (b : Bool) : Dt K mg F (.bl b) (.bl b)
  | int (i : Int) : Dt K mg F (.int i) (.int i)
  | str (x : List Nat) : Dt K mg F (.str (S x)) (.str x)
  | tup {a : Addr} {vs : List V} {ds : List D} : PlT F a vs → Dts K mg F vs ds → Dt K mg F (.ref a) (.tup ds)
  | lst {a : Addr} {vs : List V} {ds : List D} : F a = some (.lst vs) → Dts K mg F vs ds → Dt K mg F (.ref a) (.lst ds)
  | dct {a : Addr} {vs : List (Key × V)} {ds : List (Key × D)} : F a = some (.dK vs) → Dks K mg F vs ds → Dt K mg F (.ref a) (.dct ds)
  | scr {a : Addr} {ns : List Int} : SqL K F a (ns.map V.int) → Dt K mg F (.ref a) (.scr ns)
  | ref (a : Addr) : Dt K mg F (.ref a) (.ref a)
  | ty (n : String) : Dt K mg F (.ty n) (.ty n)
  | gl {x : Str} {a : Addr} : mg x = some (.ref a) → Dt K mg F (.ref a) (.gl x)
  | pr {a : Addr} {v w : V} {d e : D} : F a = some (.tup [v, w]) → Dt K mg F v d → Dt K mg F w e → Dt K mg F (.ref a) (.pr d e)
  | obj {a C dx : Addr} {c : Str} {vfs : List (Str × V)} {fs : List (Str × D)} : mg c = some (.ref C) → F a = some (.ins C dx vfs) → vfs.map (·.1) = fs.map (·.1) → Dts K mg F (vfs.map (·.2)) (fs.map (·.2)) → Dt K mg F (.ref a) (.obj c fs)
  | exn0 {a C : Addr} {c : Str} {oe : Obj} : mg c = some (.ref C) → F a = some (.frz oe (.own 0)) → Zc (.ref C) none oe → (∃ vs, oe.data = .fields vs) → Dt K mg F (.ref a) (.exn c [])
  | exn1 {a C dx : Addr} {c : Str} {oe : Obj} {vfs : List (Str × V)} {fs : List (Str × D)} : mg c = some (.ref C) → F a = some (.frz oe (.own 0)) → Zc (.ref C) (some dx) oe → (∃ vs, oe.data = .fields vs) → F dx = some (.xd vfs) → vfs.map (·.1) = fs.map (·.1) → Dts K mg F (vfs.map (·.2)) (fs.map (·.2)) → Dt K mg F (.ref a) (.exn c fs)
  | tkt {a : Addr} {n : Nat} {vs : List V} {ds : List D} : TkT F a n vs → Dts K mg F vs ds → Dt K mg F (.ref a) (.tkt n ds)
inductive Dts (K : PySem.W.Frag) (mg : Str → Option Value) (F : Hp) : List V → List D → Prop
  | nil : Dts K mg F [] []
  | cons {v : V} {vs : List V} {d : D} {ds : List D} : Dt K mg F v d → Dts K mg F vs ds → Dts K mg F (v :: vs) (d :: ds)
inductive Dks (K : PySem.W.Frag) (mg : Str → Option Value) (F : Hp) : List (Key × V) → List (Key × D) → Prop
  | nil : Dks K mg F [] []
  | cons {k : Key} {v : V} {vs : List (Key × V)} {d : D} {ds : List (Key × D)} : Dt K mg F v d → Dks K mg F vs ds → Dks K mg F ((k, v) :: vs) ((k, d) :: ds)
end

section
variable {K : PySem.W.Frag} {mg : Str → Option Value} {F F' H H' : Hp}
theorem SqT.mono' {a : Addr} {vs : List V} (hF : ∀ a o, F a = some o → F' a = some o) (h : SqT K F a vs) : SqT K F' a vs := by
  rcases h with (h | ⟨o, h⟩) | h
  · exact .inl (.inl (hF _ _ h))
  · exact .inl (.inr ⟨o, hF _ _ h⟩)
  · exact .inr h
theorem PlT.mono {a : Addr} {vs : List V} (hF : ∀ a o, F a = some o → F' a = some o) (h : PlT F a vs) : PlT F' a vs := let ⟨ob, h1, h2⟩ := h; ⟨ob, h1, hF _ _ h2⟩
theorem TkT.mono {a : Addr} {n : Nat} {vs : List V} (hF : ∀ a o, F a = some o → F' a = some o) (h : TkT F a n vs) : TkT F' a n vs := let ⟨ob, us, m, h1, h2, h3, h4⟩ := h; ⟨ob, us, m, h1, h2, h3, hF _ _ h4⟩
theorem PlT.sq {a : Addr} {vs : List V} (h : PlT F a vs) : SqT K F a vs := let ⟨ob, _, h2⟩ := h; .inl (.inr ⟨ob, h2⟩)
theorem SqL.mono' {a : Addr} {vs : List V} (hF : ∀ a o, F a = some o → F' a = some o) (h : SqL K F a vs) : SqL K F' a vs := by
  rcases h with (h | ⟨o, h⟩) | h
  · exact .inl (.inl (hF _ _ h))
  · exact .inl (.inr ⟨o, hF _ _ h⟩)
  · exact .inr h
mutual
theorem Dt.mono (hF : ∀ a o, F a = some o → F' a = some o) : ∀ {v : V} {d : D}, Dt K mg F v d → Dt K mg F' v d
  | _, _, .non => .non
  | _, _, .bl b => .bl b
  | _, _, .int i => .int i
  | _, _, .str x => .str x
  | _, _, .tup h r => .tup (h.mono hF) (Dts.mono hF r)
  | _, _, .lst h r => .lst (hF _ _ h) (Dts.mono hF r)
  | _, _, .dct h r => .dct (hF _ _ h) (Dks.mono hF r)
  | _, _, .scr h => .scr (SqL.mono' hF h)
  | _, _, .ref a => .ref a
  | _, _, .ty n => .ty n
  | _, _, .gl h => .gl h
  | _, _, .pr h a b => .pr (hF _ _ h) (Dt.mono hF a) (Dt.mono hF b)
  | _, _, .obj h1 h2 h3 h4 => .obj h1 (hF _ _ h2) h3 (Dts.mono hF h4)
  | _, _, .exn0 h1 h2 h3 h4 => .exn0 h1 (hF _ _ h2) h3 h4
  | _, _, .exn1 h1 h2 h3 h4 h5 h6 h7 => .exn1 h1 (hF _ _ h2) h3 h4 (hF _ _ h5) h6 (Dts.mono hF h7)
  | _, _, .tkt h r => .tkt (h.mono hF) (Dts.mono hF r)
theorem Dts.mono (hF : ∀ a o, F a = some o → F' a = some o) : ∀ {vs : List V} {ds : List D}, Dts K mg F vs ds → Dts K mg F' vs ds
  | _, _, .nil => .nil
  | _, _, .cons h r => .cons (Dt.mono hF h) (Dts.mono hF r)
theorem Dks.mono (hF : ∀ a o, F a = some o → F' a = some o) : ∀ {vs : List (Key × V)} {ds : List (Key × D)}, Dks K mg F vs ds → Dks K mg F' vs ds
  | _, _, .nil => .nil
  | _, _, .cons h r => .cons (Dt.mono hF h) (Dks.mono hF r)
end
theorem Dts.length : ∀ {vs : List V} {ds : List D}, Dts K mg F vs ds → vs.length = ds.length
  | _, _, .nil => rfl
  | _, _, .cons _ r => congrArg (· + 1) r.length
theorem Dts.get : ∀ {vs : List V} {ds : List D} {i : Nat} {d : D}, Dts K mg F vs ds → ds[i]? = some d → ∃ v, vs[i]? = some v ∧ Dt K mg F v d
  | _, _, _, _, .nil, e => by simp at e
  | _, _, 0, _, .cons r _, e => by simp at e; subst e; exact ⟨_, rfl, r⟩
  | _, _, i + 1, d, .cons _ t, e => by
    obtain ⟨u, h1, h2⟩ := Dts.get (i := i) (d := d) t (by simpa using e)
    exact ⟨u, by simpa using h1, h2⟩
theorem Dts.getV : ∀ {vs : List V} {ds : List D} {i : Nat} {v : V}, Dts K mg F vs ds → vs[i]? = some v → ∃ d, ds[i]? = some d ∧ Dt K mg F v d
  | _, _, _, _, .nil, e => by simp at e
  | _, _, 0, _, .cons r _, e => by simp at e; subst e; exact ⟨_, rfl, r⟩
  | _, _, i + 1, v, .cons _ t, e => by
    obtain ⟨u, h1, h2⟩ := Dts.getV (i := i) (v := v) t (by simpa using e)
    exact ⟨u, by simpa using h1, h2⟩
theorem Dts.append : ∀ {vs ws : List V} {ds es : List D}, Dts K mg F vs ds → Dts K mg F ws es → Dts K mg F (vs ++ ws) (ds ++ es)
  | _, _, _, _, .nil, s => s
  | _, _, _, _, .cons r t, s => .cons r (Dts.append t s)
theorem Dts.take : ∀ {vs : List V} {ds : List D} (n : Nat), Dts K mg F vs ds → Dts K mg F (vs.take n) (ds.take n)
  | _, _, 0, _ => .nil
  | _, _, _ + 1, .nil => .nil
  | _, _, n + 1, .cons r t => .cons r (Dts.take n t)
theorem Dts.drop : ∀ {vs : List V} {ds : List D} (n : Nat), Dts K mg F vs ds → Dts K mg F (vs.drop n) (ds.drop n)
  | _, _, 0, r => r
  | _, _, _ + 1, .nil => .nil
  | _, _, n + 1, .cons _ t => Dts.drop n t
theorem Dts.set {v : V} {d : D} (r : Dt K mg F v d) : ∀ {vs : List V} {ds : List D} (i : Nat), Dts K mg F vs ds → Dts K mg F (vs.set i v) (ds.set i d)
  | _, _, _, .nil => .nil
  | _, _, 0, .cons _ t => .cons r t
  | _, _, i + 1, .cons q t => .cons q (Dts.set r i t)
theorem Dts.revAux : ∀ {vs : List V} {ds : List D} {ws : List V} {es : List D}, Dts K mg F vs ds → Dts K mg F ws es → Dts K mg F (vs.reverseAux ws) (ds.reverseAux es)
  | _, _, _, _, .nil, s => s
  | v :: vs, d :: ds, ws, es, .cons a b, s => Dts.revAux (vs := vs) (ds := ds) (ws := v :: ws) (es := d :: es) b (.cons a s)
theorem Dts.reverse {vs : List V} {ds : List D} (r : Dts K mg F vs ds) : Dts K mg F vs.reverse ds.reverse := Dts.revAux r .nil
theorem Dts.one {v : V} {d : D} (h : Dt K mg F v d) : Dts K mg F [v] [d] := .cons h .nil
theorem Dts.ints : ∀ {vs : List V} {ns : List Int}, Dts K mg F vs (ns.map D.int) → vs = ns.map V.int
  | _, [], .nil => rfl
  | _, n :: ns, .cons h r => by
    cases h
    rw [List.map_cons, ← Dts.ints r]
theorem Dts.ofInts : ∀ (ns : List Int), Dts K mg F (ns.map V.int) (ns.map D.int)
  | [] => .nil
  | n :: ns => .cons (.int n) (Dts.ofInts ns)
theorem Dts.strs : ∀ {vs : List V} {ns : List (List Nat)}, Dts K mg F vs (ns.map D.str) → vs = (ns.map S).map V.str
  | _, [], .nil => rfl
  | _, n :: ns, .cons h r => by
    cases h
    rw [List.map_cons, List.map_cons, ← Dts.strs r]
theorem Dks.append : ∀ {vs ws : List (Key × V)} {ds es : List (Key × D)}, Dks K mg F vs ds → Dks K mg F ws es → Dks K mg F (vs ++ ws) (ds ++ es)
  | _, _, _, _, .nil, s => s
  | _, _, _, _, .cons r t, s => .cons r (Dks.append t s)
theorem Dks.keys : ∀ {vs : List (Key × V)} {ds : List (Key × D)}, Dks K mg F vs ds → vs.map (·.1) = ds.map (·.1)
  | _, _, .nil => rfl
  | _, _, .cons (k := k) _ r => by rw [List.map_cons, List.map_cons, Dks.keys r]
end

mutual
/-- the value v is the key k: whole numbers, tuples of the store that never change -/
def nkAt (H : Hp) : NestedKey → V → Prop
  | .num i, v => v = .int i
  | .tup ks, v => ∃ a ob vs, v = .ref a ∧ H a = some (.frz ob (.tup vs)) ∧ nksAt H ks vs
  | .none, _ => False
  | .text _, _ => False
def nksAt (H : Hp) : List NestedKey → List V → Prop
  | [], vs => vs = []
  | k :: ks, vs => ∃ v r, vs = v :: r ∧ nkAt H k v ∧ nksAt H ks r
end
mutual
theorem nkAt_mono {H H' : Hp} (h : ∀ a o, H a = some o → H' a = some o) : ∀ (k : NestedKey) (v : V), nkAt H k v → nkAt H' k v
  | .num i, v, x => x
  | .tup ks, v, x => by
    rw [nkAt] at x ⊢
    obtain ⟨a, ob, vs, e, y, z⟩ := x
    exact ⟨a, ob, vs, e, h _ _ y, nksAt_mono h ks vs z⟩
  | .none, _, x => x
  | .text _, _, x => x
theorem nksAt_mono {H H' : Hp} (h : ∀ a o, H a = some o → H' a = some o) : ∀ (ks : List NestedKey) (vs : List V), nksAt H ks vs → nksAt H' ks vs
  | [], vs, x => x
  | k :: ks, vs, x => by
    rw [nksAt] at x ⊢
    obtain ⟨v, r, e, y, z⟩ := x
    exact ⟨v, r, e, nkAt_mono h k v y, nksAt_mono h ks r z⟩
end
/-- the dict at a, by its one object -/
def dnnO (a : Addr) (vs : List (NestedKey × Addr × V)) : HO := .ext fun h => ∃ (o : Obj) (es : Array DictEntry) (ep : Nat) (xs : List (NestedKey × Addr × Value)), h.get? a = some o ∧ o.ExactDict ∧ o.data = .dict es ep ∧
  Paired (fun p q => p.1 = q.1 ∧ p.2.1 = q.2.1 ∧ RelV p.2.2 q.2.2) vs xs ∧ (∀ w : World, es.toList = xs.map fun x => ⟨x.1.hash w, .ref x.2.1, x.2.2⟩) ∧ (xs.map (·.1)).Nodup
section
variable (K : PySem.W.Frag) (mg : Str → Option Value)
def MOk (F H : Hp) (a : Addr) : MO → Prop
  | .lst xs => ∃ vs, H a = some (.lst vs) ∧ Dts K mg F vs xs
  | .ins c fs => ∃ C dx vfs, mg c = some (.ref C) ∧ H a = some (.ins C dx vfs) ∧ vfs.map (·.1) = fs.map (·.1) ∧ Dts K mg F (vfs.map (·.2)) (fs.map (·.2))
  | .dct kvs => ∃ vs, H a = some (.dK vs) ∧ Dks K mg F vs kvs
  | .dtt kvs => ∃ vs, H a = some (.dT vs) ∧ vs.map (·.1) = kvs.map (·.1) ∧ Dts K mg F (vs.map (·.2)) (kvs.map (·.2))
  | .dnn kvs => ∃ vs : List (NestedKey × Addr × V), H a = some (dnnO a vs) ∧ vs.map (·.1) = kvs.map (·.1) ∧ Dts K mg F (vs.map (·.2.2)) (kvs.map (·.2)) ∧ ∀ x ∈ vs, x.1.depth ≤ 8 ∧ nkAt F x.1 (.ref x.2.1)
  | .tbl q => ∃ ps, H a = some (.tbl ps) ∧ TriplesOk ps.toList ∧ ∀ (pos : Pos) (cv : Value), codeAmong pos ps.toList = some cv → ∃ c, cv = .ref c ∧ F c = some (LamX.CodeO c q)
  | .xd fs => ∃ vfs, H a = some (.xd vfs) ∧ vfs.map (·.1) = fs.map (·.1) ∧ Dts K mg F (vfs.map (·.2)) (fs.map (·.2))
  | .exz c fs => ∃ C od oe ws, mg c = some (.ref C) ∧ H a = some (.frz oe (.own 0)) ∧ L2N.Zn (.ref C) od oe ∧ oe.data = .fields ws ∧ ((od = none ∧ fs = []) ∨ ∃ dx vfs, od = some dx ∧ F dx = some (.xd vfs) ∧ vfs.map (·.1) = fs.map (·.1) ∧ Dts K mg F (vfs.map (·.2)) (fs.map (·.2)))
  | .clo q params body scope cells => ∃ pm c' ctv, H a = some (.frz (PySem.W.kla_obj "<lambda>" q params body scope cells pm c' ctv) (.own 0)) ∧ F c' = some (LamX.CodeO c' q)
/-- F: what never changes any more; μ: what may change -/
structure Ok (F : Hp) (μ : Sto) (H : Hp) : Prop where
  sub : ∀ a o, F a = some o → H a = some o
  dis : ∀ a m, μ a = some m → F a = none
  sto : ∀ a m, μ a = some m → MOk K mg F H a m
/-- behind a step: what never changes stands, what nobody else knows stands -/
structure Ext (F : Hp) (μ : Sto) (H : Hp) (F' : Hp) (μ' : Sto) (H' : Hp) : Prop where
  mono : ∀ a o, F a = some o → F' a = some o
  keep : ∀ a o, H a = some o → μ a = none → H' a = some o ∧ F' a = F a ∧ μ' a = none
  live : ∀ a, H' a = none → H a = none
def SOk (F : Hp) (μ : Sto) (H : Hp) (v : V) : DS → Prop
  | .val d => Dt K mg F v d
  | .own xs => ∃ a vs, v = .ref a ∧ F a = none ∧ μ a = none ∧ H a = some (.lst vs) ∧ Dts K mg F vs xs
structure Rel (F : Hp) (ρ : DEnv) (μ : Sto) (σ : L2.St) (H : Hp) : Prop where
  ok : Ok K mg F μ H
  len : ρ.length = σ.length
  slot : ∀ (i : Nat) (s : DS), ρ[i]? = some (some s) → ∃ v, σ[i]? = some (some v) ∧ SOk K mg F μ H v s
  apart : ∀ (i j : Nat) (xs ys : List D), ρ[i]? = some (some (DS.own xs)) → ρ[j]? = some (some (DS.own ys)) → σ[i]? = σ[j]? → i = j
end

section
variable {K : PySem.W.Frag} {mg : Str → Option Value} {F F' F'' H H' H'' : Hp} {μ μ' μ'' : Sto} {ρ : DEnv} {σ : L2.St}
theorem Ext.refl : Ext F μ H F μ H := ⟨fun _ _ e => e, fun _ _ e n => ⟨e, rfl, n⟩, fun _ e => e⟩
theorem Ext.trans (a : Ext F μ H F' μ' H') (b : Ext F' μ' H' F'' μ'' H'') : Ext F μ H F'' μ'' H'' :=
  ⟨fun x o e => b.mono x o (a.mono x o e), fun x o e n => by
    obtain ⟨h1, h2, h3⟩ := a.keep x o e n
    obtain ⟨g1, g2, g3⟩ := b.keep x o h1 h3
    exact ⟨g1, g2.trans h2, g3⟩, fun x e => a.live x (b.live x e)⟩
theorem upd_live {H : Hp} {p : Addr} {u : HO} : ∀ a, upd H p u a = none → H a = none := fun a e => by
  by_cases h : a = p
  · subst h; rw [upd_same] at e; cases e
  · rw [upd_ne h] at e; exact e
theorem SOk.ext {v : V} {s : DS} (e : Ext F μ H F' μ' H') (h : SOk K mg F μ H v s) : SOk K mg F' μ' H' v s := by
  cases s with
  | val d => exact Dt.mono e.mono h
  | own xs =>
    obtain ⟨a, vs, rfl, f, m, hh, d⟩ := h
    obtain ⟨h1, h2, h3⟩ := e.keep a _ hh m
    exact ⟨a, vs, rfl, h2.trans f, h3, h1, d.mono e.mono⟩
theorem Rel.ext (r : Rel K mg F ρ μ σ H) (e : Ext F μ H F' μ' H') (o : Ok K mg F' μ' H') : Rel K mg F' ρ μ' σ H' :=
  ⟨o, r.len, fun i s h => by
    obtain ⟨v, h1, h2⟩ := r.slot i s h
    exact ⟨v, h1, h2.ext e⟩, r.apart⟩
theorem Ok.fresh (o : Ok K mg F μ H) {p : Addr} (h : H p = none) : F p = none ∧ μ p = none := by
  constructor
  · cases e : F p with
    | none => rfl
    | some x =>
      have q := o.sub p x e
      rw [h] at q
      cases q
  · cases e : μ p with
    | none => rfl
    | some m =>
      have q := o.sto p m e
      cases m with
      | lst xs => obtain ⟨vs, h1, _⟩ := q; rw [h] at h1; cases h1
      | ins c fs => obtain ⟨_, _, _, _, h1, _⟩ := q; rw [h] at h1; cases h1
      | dct kvs => obtain ⟨vs, h1, _⟩ := q; rw [h] at h1; cases h1
      | dtt kvs => obtain ⟨vs, h1, _⟩ := q; rw [h] at h1; cases h1
      | dnn kvs => obtain ⟨vs, h1, _⟩ := q; rw [h] at h1; cases h1
      | tbl n => obtain ⟨ps, h1, _⟩ := q; rw [h] at h1; cases h1
      | xd fs => obtain ⟨vs, h1, _⟩ := q; rw [h] at h1; cases h1
      | exz c fs => obtain ⟨_, _, _, _, _, h1, _⟩ := q; rw [h] at h1; cases h1
      | clo q ps b sc cs => obtain ⟨_, _, _, h1, _⟩ := q; rw [h] at h1; cases h1
theorem MOk.up {a : Addr} {m : MO} (h : MOk K mg F H a m) (hF : ∀ a o, F a = some o → F' a = some o) (hH : H' a = H a) : MOk K mg F' H' a m := by
  cases m with
  | lst xs => obtain ⟨vs, h1, h2⟩ := h; exact ⟨vs, hH.trans h1, h2.mono hF⟩
  | ins c fs => obtain ⟨C, dx, vfs, h0, h1, h2, h3⟩ := h; exact ⟨C, dx, vfs, h0, hH.trans h1, h2, h3.mono hF⟩
  | dct kvs => obtain ⟨vs, h1, h2⟩ := h; exact ⟨vs, hH.trans h1, h2.mono hF⟩
  | dtt kvs => obtain ⟨vs, h1, h2, h3⟩ := h; exact ⟨vs, hH.trans h1, h2, h3.mono hF⟩
  | tbl q => obtain ⟨ps, h1, h2, h3⟩ := h; exact ⟨ps, hH.trans h1, h2, fun pos cv e => let ⟨c, e1, e2⟩ := h3 pos cv e; ⟨c, e1, hF _ _ e2⟩⟩
  | dnn kvs => obtain ⟨vs, h1, h2, h3, h4⟩ := h; exact ⟨vs, hH.trans h1, h2, h3.mono hF, fun x hx => ⟨(h4 x hx).1, nkAt_mono hF _ _ (h4 x hx).2⟩⟩
  | xd fs => obtain ⟨vs, h1, h2, h3⟩ := h; exact ⟨vs, hH.trans h1, h2, h3.mono hF⟩
  | clo q ps b sc cs => obtain ⟨pm, c', ctv, h1, h2⟩ := h; exact ⟨pm, c', ctv, hH.trans h1, hF _ _ h2⟩
  | exz c fs =>
    obtain ⟨C, od, oe, ws, h1, h2, h3, h4, h5⟩ := h
    refine ⟨C, od, oe, ws, h1, hH.trans h2, h3, h4, ?_⟩
    rcases h5 with h5 | ⟨dx, vfs, k1, k2, k3, k4⟩
    · exact .inl h5
    · exact .inr ⟨dx, vfs, k1, hF _ _ k2, k3, k4.mono hF⟩
/-- a new object that never changes -/
theorem Ok.lay (o : Ok K mg F μ H) {p : Addr} (h : H p = none) (u : HO) : Ok K mg (upd F p u) μ (upd H p u) ∧ Ext F μ H (upd F p u) μ (upd H p u) := by
  obtain ⟨hf, hm⟩ := o.fresh h
  have mono : ∀ a x, F a = some x → upd F p u a = some x := fun a x e => by rw [upd_ne (ne_of_none e hf)]; exact e
  refine ⟨⟨fun a x e => ?_, fun a m e => ?_, fun a m e => ?_⟩, ⟨mono, fun a x e n => ?_, upd_live⟩⟩
  · by_cases ha : a = p
    · subst ha; rw [upd_same] at e ⊢; exact e
    · rw [upd_ne ha] at e ⊢; exact o.sub a x e
  · by_cases ha : a = p
    · subst ha; rw [hm] at e; cases e
    · rw [upd_ne ha]; exact o.dis a m e
  · have ha : a ≠ p := fun q => by subst q; rw [hm] at e; cases e
    exact (o.sto a m e).up mono (upd_ne ha)
  · have ha := ne_of_none e h
    rw [upd_ne ha, upd_ne ha]
    exact ⟨e, rfl, n⟩
/-- an object that changes is changed -/
theorem Ok.write (o : Ok K mg F μ H) {p : Addr} {m0 : MO} (h : μ p = some m0) (u : HO) (m : MO) (hm : MOk K mg F (upd H p u) p m) : Ok K mg F (sset μ p m) (upd H p u) ∧ Ext F μ H F (sset μ p m) (upd H p u) := by
  have hf := o.dis p m0 h
  refine ⟨⟨fun a x e => ?_, fun a m' e => ?_, fun a m' e => ?_⟩, ⟨fun _ _ e => e, fun a x e n => ?_, upd_live⟩⟩
  · rw [upd_ne (ne_of_none e hf)]; exact o.sub a x e
  · by_cases ha : a = p
    · subst ha; exact hf
    · rw [sset_ne ha] at e; exact o.dis a m' e
  · by_cases ha : a = p
    · subst ha; rw [sset_same] at e; cases e; exact hm
    · rw [sset_ne ha] at e; exact (o.sto a m' e).up (fun _ _ e => e) (upd_ne ha)
  · have ha : a ≠ p := fun q => by subst q; rw [n] at h; cases h
    rw [upd_ne ha, sset_ne ha]
    exact ⟨e, rfl, n⟩
/-- a new object that nobody knows: the heap alone grows -/
theorem Ok.layN (o : Ok K mg F μ H) {p : Addr} (h : H p = none) (u : HO) : Ok K mg F μ (upd H p u) ∧ Ext F μ H F μ (upd H p u) := by
  obtain ⟨hf, hn⟩ := o.fresh h
  refine ⟨⟨fun a x e => ?_, o.dis, fun a m' e => ?_⟩, ⟨fun _ _ e => e, fun a x e n => ?_, upd_live⟩⟩
  · rw [upd_ne (ne_of_none e hf)]; exact o.sub a x e
  · have ha : a ≠ p := fun q => by subst q; rw [hn] at e; cases e
    exact (o.sto a m' e).up (fun _ _ e => e) (upd_ne ha)
  · rw [upd_ne (ne_of_none e h)]
    exact ⟨e, rfl, n⟩
/-- an object that nobody else knows is changed -/
theorem Ok.writeN (o : Ok K mg F μ H) {p : Addr} (hf : F p = none) (hn : μ p = none) (u : HO) : Ok K mg F μ (upd H p u) := by
  refine ⟨fun a x e => ?_, o.dis, fun a m' e => ?_⟩
  · rw [upd_ne (ne_of_none e hf)]; exact o.sub a x e
  · have ha : a ≠ p := fun q => by subst q; rw [hn] at e; cases e
    exact (o.sto a m' e).up (fun _ _ e => e) (upd_ne ha)
/-- .. and from then on it never changes -/
theorem Ok.freeze (o : Ok K mg F μ H) {p : Addr} {u : HO} (hf : F p = none) (hn : μ p = none) (hh : H p = some u) : Ok K mg (upd F p u) μ H := by
  have mono : ∀ a x, F a = some x → upd F p u a = some x := fun a x e => by rw [upd_ne (ne_of_none e hf)]; exact e
  refine ⟨fun a x e => ?_, fun a m e => ?_, fun a m e => ?_⟩
  · by_cases ha : a = p
    · subst ha; rw [upd_same] at e; rw [hh]; exact e
    · rw [upd_ne ha] at e; exact o.sub a x e
  · have ha : a ≠ p := fun q => by subst q; rw [hn] at e; cases e
    rw [upd_ne ha]; exact o.dis a m e
  · exact (o.sto a m e).up mono rfl
end

abbrev DK := D → Sto → Prop
/-- an expression's reading over data -/
abbrev TED := DEnv → Sto → DK → Prop
abbrev TTD := DEnv → Sto → (Bool → Sto → Prop) → Prop
abbrev TAD := DEnv → Sto → (List D → Sto → Prop) → Prop
structure DEnds where
  nx : DEnv → Sto → Prop
  rt : DK
  bk : DEnv → Sto → Prop := fun _ _ => False
  ct : DEnv → Sto → Prop := fun _ _ => False
abbrev TSD := DEnds → DEnv → Sto → Prop
section
variable (K : PySem.W.Frag) (mg : Str → Option Value)
def liftE (d : TED) : TE := fun σ H Q => ∃ F ρ μ Qd, Rel K mg F ρ μ σ H ∧ d ρ μ Qd ∧ ∀ v F' μ' H' dv, Ext F μ H F' μ' H' → Ok K mg F' μ' H' → Dt K mg F' v dv → Qd dv μ' → Q v H'
/-- a value that is only looked at: as a value, or a list of the frame's own -/
def Wk (F : Hp) (μ : Sto) (H : Hp) (v : V) (d : D) : Prop := Dt K mg F v d ∨ ∃ a vs xs, v = .ref a ∧ d = .lst xs ∧ F a = none ∧ μ a = none ∧ H a = some (.lst vs) ∧ Dts K mg F vs xs
def liftW (d : TED) : TE := fun σ H Q => ∃ F ρ μ Qd, Rel K mg F ρ μ σ H ∧ d ρ μ Qd ∧ ∀ v F' μ' H' dv, Ext F μ H F' μ' H' → Ok K mg F' μ' H' → Wk K mg F' μ' H' v dv → Qd dv μ' → Q v H'
/-- a new list that nobody knows -/
abbrev TFD := DEnv → Sto → (List D → Sto → Prop) → Prop
def liftF (d : TFD) : TE := fun σ H Q => ∃ F ρ μ Qd, Rel K mg F ρ μ σ H ∧ d ρ μ Qd ∧ ∀ p vs F' μ' H' ds, Ext F μ H F' μ' H' → Ok K mg F' μ' H' → H p = none → F' p = none → μ' p = none → H' p = some (.lst vs) → Dts K mg F' vs ds → Qd ds μ' → Q (.ref p) H'
def liftT (d : TTD) : TT := fun σ H Q => ∃ F ρ μ Qd, Rel K mg F ρ μ σ H ∧ d ρ μ Qd ∧ ∀ b F' μ' H', Ext F μ H F' μ' H' → Ok K mg F' μ' H' → Qd b μ' → Q b H'
def liftA (d : TAD) : TA := fun σ H Q => ∃ F ρ μ Qd, Rel K mg F ρ μ σ H ∧ d ρ μ Qd ∧ ∀ vs F' μ' H' ds, Ext F μ H F' μ' H' → Ok K mg F' μ' H' → Dts K mg F' vs ds → Qd ds μ' → Q vs H'
/-- .. whose values are only looked at -/
inductive Wks (F : Hp) (μ : Sto) (H : Hp) : List V → List D → Prop
  | nil : Wks F μ H [] []
  | cons {v : V} {vs : List V} {d : D} {ds : List D} : Wk K mg F μ H v d → Wks F μ H vs ds → Wks F μ H (v :: vs) (d :: ds)
def liftAW (d : TAD) : TA := fun σ H Q => ∃ F ρ μ Qd, Rel K mg F ρ μ σ H ∧ d ρ μ Qd ∧ ∀ vs F' μ' H' ds, Ext F μ H F' μ' H' → Ok K mg F' μ' H' → Wks K mg F' μ' H' vs ds → Qd ds μ' → Q vs H'
def FLe (F F' : Hp) : Prop := ∀ a o, F a = some o → F' a = some o
/-- the state at the def's entry -/
structure Bs where
  F : Hp
  μ : Sto
  H : Hp
/-- .. and a state within the def -/
structure RelB (B : Bs) (F : Hp) (ρ : DEnv) (μ : Sto) (σ : L2.St) (H : Hp) : Prop where
  rel : Rel K mg F ρ μ σ H
  ext : Ext B.F B.μ B.H F μ H
  new : ∀ (i : Nat) (xs : List D) (a : Addr), ρ[i]? = some (some (DS.own xs)) → σ[i]? = some (some (.ref a)) → B.H a = none
def liftS (B : Bs) (d : TSD) : TS := fun D σ H => ∃ F ρ μ Dd, RelB K mg B F ρ μ σ H ∧ d Dd ρ μ ∧
  (∀ F' ρ' μ' σ' H', FLe F F' → RelB K mg B F' ρ' μ' σ' H' → Dd.nx ρ' μ' → D.nx σ' H') ∧
  (∀ F' ρ' μ' σ' H', FLe F F' → RelB K mg B F' ρ' μ' σ' H' → Dd.bk ρ' μ' → D.bk σ' H') ∧
  (∀ F' ρ' μ' σ' H', FLe F F' → RelB K mg B F' ρ' μ' σ' H' → Dd.ct ρ' μ' → D.ct σ' H') ∧
  (∀ v F' μ' H' dv, Ext B.F B.μ B.H F' μ' H' → Ok K mg F' μ' H' → Dt K mg F' v dv → Dd.rt dv μ' → D.rt v H')
end
theorem FLe.rfl' {F : Hp} : FLe F F := fun _ _ e => e
theorem FLe.trans {F F' F'' : Hp} (h : FLe F F') (g : FLe F' F'') : FLe F F'' := fun a o e => g a o (h a o e)
theorem _root_.L2.PE.weaken {X : Cx} {e : Expr} {t t' : TE} (h : PE X e t) (w : ∀ σ H Q, t' σ H Q → t σ H Q) : PE X e t' := ⟨fun pins s σ H Q I q => h.run pins s σ H Q I (w σ H Q q)⟩
theorem _root_.L2.PT.weaken {X : Cx} {e : Expr} {t t' : TT} (h : PT X e t) (w : ∀ σ H Q, t' σ H Q → t σ H Q) : PT X e t' := ⟨fun pins s σ H Q I q => h.run pins s σ H Q I (w σ H Q q)⟩
theorem _root_.L2.PW.weaken {X : Cx} {e : Expr} {t t' : TT} (h : PW X e t) (w : ∀ σ H Q, t' σ H Q → t σ H Q) : PW X e t' := ⟨fun wh pins s σ H Q I q => h.run wh pins s σ H Q I (w σ H Q q)⟩
theorem _root_.L2.PA.weaken {X : Cx} {e : List Expr} {t t' : TA} (h : PA X e t) (w : ∀ σ H Q, t' σ H Q → t σ H Q) : PA X e t' := ⟨fun pos pins s σ H Q I q => h.run pos pins s σ H Q I (w σ H Q q)⟩
theorem _root_.L2.PS.weaken {X : Cx} {e : Stmt} {t t' : TS} (h : PS X e t) (w : ∀ D σ H, t' D σ H → t D σ H) : PS X e t' := ⟨fun pins s σ H D I q => h.run pins s σ H D I (w D σ H q)⟩
theorem _root_.L2.PSs.weaken {X : Cx} {e : List Stmt} {t t' : TS} (h : PSs X e t) (w : ∀ D σ H, t' D σ H → t D σ H) : PSs X e t' := ⟨fun pins s σ H D I q => h.run pins s σ H D I (w D σ H q)⟩

abbrev DE (X : Cx) (e : Expr) (d : TED) : Prop := PE X e (liftE X.K X.mg d)
abbrev DW (X : Cx) (e : Expr) (d : TED) : Prop := PE X e (liftW X.K X.mg d)
abbrev DF (X : Cx) (e : Expr) (d : TFD) : Prop := PE X e (liftF X.K X.mg d)
abbrev DT (X : Cx) (e : Expr) (d : TTD) : Prop := PT X e (liftT X.K X.mg d)
abbrev DPW (X : Cx) (e : Expr) (d : TTD) : Prop := PW X e (liftT X.K X.mg d)
abbrev DA (X : Cx) (es : List Expr) (d : TAD) : Prop := PA X es (liftA X.K X.mg d)
abbrev DAW (X : Cx) (es : List Expr) (d : TAD) : Prop := PA X es (liftAW X.K X.mg d)
abbrev DSt (X : Cx) (B : Bs) (st : Stmt) (d : TSD) : Prop := PS X st (liftS X.K X.mg B d)
abbrev DSs (X : Cx) (B : Bs) (st : List Stmt) (d : TSD) : Prop := PSs X st (liftS X.K X.mg B d)
end DL

namespace DL
open PySem PySem.Spec PyProof.Rows L2

section
variable {K : PySem.W.Frag} {mg : Str → Option Value} {F F' H H' : Hp} {μ μ' : Sto} {x : V}
theorem Wk.ext {d : D} (e : Ext F μ H F' μ' H') (h : Wk K mg F μ H x d) : Wk K mg F' μ' H' x d := by
  rcases h with h | ⟨a, vs, xs, rfl, rfl, f, m, hh, r⟩
  · exact .inl (h.mono e.mono)
  · obtain ⟨h1, h2, h3⟩ := e.keep a _ hh m
    exact .inr ⟨a, vs, xs, rfl, rfl, h2.trans f, h3, h1, r.mono e.mono⟩
theorem Wk.int {i : Int} (h : Wk K mg F μ H x (.int i)) : x = .int i := by
  rcases h with h | ⟨_, _, _, _, e, _⟩
  · cases h; rfl
  · cases e
theorem Wk.bl {i : Bool} (h : Wk K mg F μ H x (.bl i)) : x = .bl i := by
  rcases h with h | ⟨_, _, _, _, e, _⟩
  · cases h; rfl
  · cases e
theorem Wk.non (h : Wk K mg F μ H x .non) : x = .non := by
  rcases h with h | ⟨_, _, _, _, e, _⟩
  · cases h; rfl
  · cases e
theorem Wk.str {s : List Nat} (h : Wk K mg F μ H x (.str s)) : x = .str (S s) := by
  rcases h with h | ⟨_, _, _, _, e, _⟩
  · cases h; rfl
  · cases e
theorem Wk.ref {a : Addr} (h : Wk K mg F μ H x (.ref a)) : x = .ref a := by
  rcases h with h | ⟨_, _, _, _, e, _⟩
  · cases h; rfl
  · cases e
theorem Wk.ty {n : String} (h : Wk K mg F μ H x (.ty n)) : x = .ty n := by
  rcases h with h | ⟨_, _, _, _, e, _⟩
  · cases h; rfl
  · cases e
theorem SqT.sub (o : Ok K mg F μ H) {a : Addr} {vs : List V} (h : SqT K F a vs) : SqT K H a vs := SqT.mono' o.sub h
theorem Wk.tup (o : Ok K mg F μ H) {ds : List D} (h : Wk K mg F μ H x (.tup ds)) : ∃ a vs, x = .ref a ∧ SqT K H a vs ∧ PlT F a vs ∧ Dts K mg F vs ds := by
  rcases h with h | ⟨_, _, _, _, e, _⟩
  · cases h with
    | tup q r => exact ⟨_, _, rfl, SqT.sub o q.sq, q, r⟩
  · cases e
theorem Wk.lst (o : Ok K mg F μ H) {ds : List D} (h : Wk K mg F μ H x (.lst ds)) : ∃ a vs, x = .ref a ∧ H a = some (.lst vs) ∧ Dts K mg F vs ds := by
  rcases h with h | ⟨a, vs, xs, rfl, e, f, m, hh, r⟩
  · cases h with
    | lst q r => exact ⟨_, _, rfl, o.sub _ _ q, r⟩
  · cases e
    exact ⟨a, vs, rfl, hh, r⟩
theorem Wk.scr (o : Ok K mg F μ H) {ns : List Int} (h : Wk K mg F μ H x (.scr ns)) : ∃ a, x = .ref a ∧ SqL K H a (ns.map V.int) := by
  rcases h with h | ⟨a, vs, xs, rfl, e, f, m, hh, r⟩
  · cases h with
    | scr q => exact ⟨_, rfl, SqL.mono' o.sub q⟩
  · cases e
theorem Wk.dct (o : Ok K mg F μ H) {ds : List (Key × D)} (h : Wk K mg F μ H x (.dct ds)) : ∃ a vs, x = .ref a ∧ H a = some (.dK vs) ∧ Dks K mg F vs ds := by
  rcases h with h | ⟨a, vs, xs, rfl, e, f, m, hh, r⟩
  · cases h with
    | dct q r => exact ⟨_, _, rfl, o.sub _ _ q, r⟩
  · cases e
/-- a new tuple -/
theorem newTup (o : Ok K mg F μ H) {vs : List V} {ds : List D} (r : Dts K mg F vs ds) {p : Addr} {ob : Obj} (hp : H p = none) (ho : ob.dict = none) :
    Ext F μ H (upd F p (.frz ob (.tup vs))) μ (upd H p (.frz ob (.tup vs))) ∧ Ok K mg (upd F p (.frz ob (.tup vs))) μ (upd H p (.frz ob (.tup vs))) ∧ Dt K mg (upd F p (.frz ob (.tup vs))) (.ref p) (.tup ds) := by
  obtain ⟨h1, h2⟩ := o.lay hp (.frz ob (.tup vs))
  exact ⟨h2, h1, .tup ⟨ob, ho, upd_same⟩ (r.mono h2.mono)⟩
/-- a pair that is only unpacked -/
theorem newPr (o : Ok K mg F μ H) {v w : V} {d e : D} (r : Dt K mg F v d) (r2 : Dt K mg F w e) {p : Addr} (hp : H p = none) : Ext F μ H (upd F p (.tup [v, w])) μ (upd H p (.tup [v, w])) ∧ Ok K mg (upd F p (.tup [v, w])) μ (upd H p (.tup [v, w])) ∧ Dt K mg (upd F p (.tup [v, w])) (.ref p) (.pr d e) := by
  obtain ⟨h1, h2⟩ := o.lay hp (.tup [v, w])
  exact ⟨h2, h1, .pr upd_same (r.mono h2.mono) (r2.mono h2.mono)⟩
/-- a new list that never changes -/
theorem newLst (o : Ok K mg F μ H) {vs : List V} {ds : List D} (r : Dts K mg F vs ds) {p : Addr} (hp : H p = none) : Ext F μ H (upd F p (.lst vs)) μ (upd H p (.lst vs)) ∧ Ok K mg (upd F p (.lst vs)) μ (upd H p (.lst vs)) ∧ Dt K mg (upd F p (.lst vs)) (.ref p) (.lst ds) := by
  obtain ⟨h1, h2⟩ := o.lay hp (.lst vs)
  exact ⟨h2, h1, .lst upd_same (r.mono h2.mono)⟩
end

mutual
def D.py : D → PyData
  | .non => .none | .bl b => .bool b | .int i => .int i | .str x => .str (S x)
  | .tup xs => .tuple (D.pys xs) | .lst xs => .list (D.pys xs) | .scr ns => .list (ns.map .int)
  | _ => .none
def D.pys : List D → List PyData
  | [] => []
  | x :: xs => x.py :: D.pys xs
end
mutual
/-- data without dicts, objects -/
def D.flat : D → Bool
  | .non => true | .bl _ => true | .int _ => true | .str _ => true
  | .tup xs => D.flats xs | .lst xs => D.flats xs
  | _ => false
def D.flats : List D → Bool
  | [] => true
  | x :: xs => x.flat && D.flats xs
end
section
variable {K : PySem.W.Frag} {mg : Str → Option Value} {F H : Hp} {μ : Sto}
mutual
theorem Dt.dp (hF : ∀ a o, F a = some o → H a = some o) : ∀ {v : V} {d : D}, Dt K mg F v d → d.flat = true → Dp K H v d.py
  | _, _, .non, _ => .non
  | _, _, .bl b, _ => .bl b
  | _, _, .int i, _ => .int i
  | _, _, .str x, _ => .str (S x)
  | _, _, .tup h r, q => .tup (SqT.mono' hF h.sq) (Dts.dp hF r q)
  | _, _, .lst h r, q => .lst (.inl (.inl (hF _ _ h))) (Dts.dp hF r q)
  | _, _, .dct _ _, q => nomatch q
  | _, _, .scr _, q => nomatch q
  | _, _, .ref _, q => nomatch q
  | _, _, .ty _, q => nomatch q
  | _, _, .gl _, q => nomatch q
  | _, _, .pr _ _ _, q => nomatch q
  | _, _, .obj _ _ _ _, q => nomatch q
  | _, _, .exn0 _ _ _ _, q => nomatch q
  | _, _, .exn1 _ _ _ _ _ _ _, q => nomatch q
  | _, _, .tkt _ _, q => nomatch q
theorem Dts.dp (hF : ∀ a o, F a = some o → H a = some o) : ∀ {vs : List V} {ds : List D}, Dts K mg F vs ds → D.flats ds = true → DpAll K H vs (D.pys ds)
  | _, _, .nil, _ => .nil
  | _, _, .cons h r, q => .cons (Dt.dp hF h (Bool.and_eq_true_iff.mp q).1) (Dts.dp hF r (Bool.and_eq_true_iff.mp q).2)
end
theorem Wk.dp (o : Ok K mg F μ H) {v : V} {d : D} (h : Wk K mg F μ H v d) (q : d.flat = true) : Dp K H v d.py := by
  rcases h with h | ⟨a, vs, xs, rfl, rfl, f, m, hh, r⟩
  · exact Dt.dp o.sub h q
  · exact .lst (.inl (.inl hh)) (Dts.dp o.sub r q)
end

abbrev RD2 := D → D → Sto → DK → Prop
def OpS (K : PySem.W.Frag) (mg : Str → Option Value) (r : R2) (rd : RD2) : Prop :=
  ∀ (F : Hp) (μ : Sto) (H : Hp) (x y : V) (dx dy : D) (Qd : DK) (Q : VK), Ok K mg F μ H → Wk K mg F μ H x dx → Wk K mg F μ H y dy → rd dx dy μ Qd →
    (∀ v F' μ' H' dv, Ext F μ H F' μ' H' → Ok K mg F' μ' H' → Dt K mg F' v dv → Qd dv μ' → Q v H') → r x y H Q
@[simp] def dOp (rd : RD2) (a b : TED) : TED := fun ρ μ Q => a ρ μ fun x μ1 => b ρ μ1 fun y μ2 => rd x y μ2 Q
section
variable {X : Cx} {a b c e : Expr} {da db dc : TED} {pos : Pos} {K : PySem.W.Frag} {mg : Str → Option Value}
theorem lift_op {r : R2} {rd : RD2} (hs : OpS K mg r rd) {σ : L2.St} {H : Hp} {Q : VK} (h : liftE K mg (dOp rd da db) σ H Q) : tOp r (liftW K mg da) (liftW K mg db) σ H Q := by
  obtain ⟨F, ρ, μ, Qd, R, hd, k⟩ := h
  refine ⟨F, ρ, μ, _, R, hd, fun v F1 μ1 H1 dv e1 o1 w1 q1 => ?_⟩
  refine ⟨F1, ρ, μ1, _, R.ext e1 o1, q1, fun u F2 μ2 H2 du e2 o2 w2 q2 => ?_⟩
  exact hs F2 μ2 H2 v u dv du _ _ o2 (w1.ext e2) w2 q2 fun z F3 μ3 H3 dz e3 o3 w3 q3 => k z F3 μ3 H3 dz (e1.trans (e2.trans e3)) o3 w3 q3
theorem lift_W {d : TED} {σ : L2.St} {H : Hp} {Q : VK} (h : liftW K mg d σ H Q) : liftE K mg d σ H Q := by
  obtain ⟨F, ρ, μ, Qd, R, hd, k⟩ := h
  exact ⟨F, ρ, μ, Qd, R, hd, fun v F' μ' H' dv e o w q => k v F' μ' H' dv e o (.inl w) q⟩
theorem dw {d : TED} (h : DE X e d) : DW X e d := h.weaken fun _ _ _ q => lift_W q
theorem de_op {op : Operator} {r : R2} {rd : RD2} (ho : OpR X (binaryOp op) r) (hs : OpS X.K X.mg r rd) (ha : DW X a da) (hb : DW X b db) : DE X (.BinOp a op b pos) (dOp rd da db) :=
  (pe_op ho ha hb).weaken fun _ _ _ q => lift_op hs q
/-- a test that is a value -/
def blK : D → (Bool → Prop) → Prop
  | .bl b, K => K b
  | _, _ => False
@[simp] theorem blK_1 : blK  (.bl b0) K0 = (K0 b0) := rfl
theorem blK_iff {x : D} {K : Bool → Prop} (h : blK x K) : ∃ b, x = .bl b ∧ K b := by
  cases x <;> first | exact h.elim | exact ⟨_, rfl, h⟩
@[simp] def dB (d : TED) : TTD := fun ρ μ Q => d ρ μ fun x μ1 => blK x fun b => Q b μ1
theorem dt_cmp {op : CmpOp} {r : R2} {rd : RD2} (ho : OpR X (compareOp op) r) (hs : OpS X.K X.mg r rd) (ha : DW X a da) (hb : DW X b db) (hm : behindInMarks op b = false) : DT X (.Compare a [op] [b] pos) (dB (dOp rd da db)) :=
  (pt_cmpR ho ha hb hm).weaken fun σ H Q q => by
    obtain ⟨F, ρ, μ, Qd, R, hd, k⟩ := q
    refine lift_op hs ⟨F, ρ, μ, _, R, hd, fun v F' μ' H' dv e o w q => ?_⟩
    obtain ⟨b, rfl, q⟩ := blK_iff q
    cases w
    exact ⟨b, rfl, k b F' μ' H' e o q⟩
@[simp] def dVar (i : Nat) : TED := fun ρ μ Q => ∃ d, ρ[i]? = some (some (.val d)) ∧ Q d μ
/-- .. only looked at -/
@[simp] def dLook (i : Nat) : TED := fun ρ μ Q => match ρ[i]? with | some (some (.val d)) => Q d μ | some (some (.own xs)) => Q (.lst xs) μ | _ => False
@[simp] def dC (d : D) : TED := fun _ μ Q => Q d μ
theorem de_var {i : Nat} {x : Str} (h : PE X (.Name x pos) (tVar i)) : DE X (.Name x pos) (dVar i) := h.weaken fun σ H Q q => by
  obtain ⟨F, ρ, μ, Qd, R, ⟨d, hd, q⟩, k⟩ := q
  obtain ⟨v, h1, h2⟩ := R.slot i _ hd
  exact ⟨v, h1, k v F μ H d .refl R.ok h2 q⟩
theorem dw_var {i : Nat} {x : Str} (h : PE X (.Name x pos) (tVar i)) : DW X (.Name x pos) (dLook i) := h.weaken fun σ H Q q => by
  obtain ⟨F, ρ, μ, Qd, R, q, k⟩ := q
  cases e : ρ[i]? with
  | none => simp [dLook, e] at q
  | some o =>
    cases o with
    | none => simp [dLook, e] at q
    | some s =>
      obtain ⟨v, h1, h2⟩ := R.slot i _ e
      cases s with
      | val d => exact ⟨v, h1, k v F μ H d .refl R.ok (.inl h2) (by simpa [dLook, e] using q)⟩
      | own xs =>
        obtain ⟨a, vs, rfl, f, m, hh, r⟩ := h2
        exact ⟨_, h1, k _ F μ H (.lst xs) .refl R.ok (.inr ⟨a, vs, xs, rfl, rfl, f, m, hh, r⟩) (by simpa [dLook, e] using q)⟩
theorem de_c {v : V} {d : D} (h : PE X e (tC v)) (hd : ∀ F, Dt X.K X.mg F v d) : DE X e (dC d) := h.weaken fun σ H Q q => by
  obtain ⟨F, ρ, μ, Qd, R, q, k⟩ := q
  exact k v F μ H d .refl R.ok (hd F) q
theorem de_int {i j pos} : DE X (.Constant (.int i) j pos) (dC (.int i)) := de_c pe_int fun _ => .int i
theorem de_bl {b j pos} : DE X (.Constant (.bool b) j pos) (dC (.bl b)) := de_c pe_bl fun _ => .bl b
theorem de_str {x : Str} {j pos} (s : List Nat) (h : x = S s := by decide +kernel) : DE X (.Constant (.str x) j pos) (dC (.str s)) := de_c pe_str fun _ => by subst h; exact .str s
@[simp] def dNot (t : TTD) : TTD := fun ρ μ Q => t ρ μ fun b μ1 => Q (!b) μ1
@[simp] def dAnd (t u : TTD) : TTD := fun ρ μ Q => t ρ μ fun b μ1 => if b = true then u ρ μ1 Q else Q false μ1
@[simp] def dOr (t u : TTD) : TTD := fun ρ μ Q => t ρ μ fun b μ1 => if b = true then Q true μ1 else u ρ μ1 Q
@[simp] def dIf (t : TTD) (a b : TED) : TED := fun ρ μ Q => t ρ μ fun c μ1 => if c = true then a ρ μ1 Q else b ρ μ1 Q
variable {ta tb : TTD} {rest : List Expr}
theorem dpw_and1 (ha : DT X a ta) : DPW X (.BoolOp .And [a] pos) ta := pw_and1 ha
theorem dpw_and (ha : DT X a ta) (hb : DPW X (.BoolOp .And (b :: rest) pos) tb) : DPW X (.BoolOp .And (a :: b :: rest) pos) (dAnd ta tb) := (pw_and ha hb).weaken fun σ H Q q => by
  obtain ⟨F, ρ, μ, Qd, R, hd, k⟩ := q
  refine ⟨F, ρ, μ, _, R, hd, fun b F1 μ1 H1 e1 o1 q1 => ?_⟩
  cases b with
  | true => exact ⟨F1, ρ, μ1, _, R.ext e1 o1, q1, fun c F2 μ2 H2 e2 o2 q2 => k c F2 μ2 H2 (e1.trans e2) o2 q2⟩
  | false => exact k false F1 μ1 H1 e1 o1 q1
theorem DPW.dt (h : DPW X e ta) : DT X e ta := PW.pt h
/-- .. as values, all but the last True or False -/
@[simp] def dAndV (a b : TED) : TED := fun ρ μ Q => a ρ μ fun x μ1 => blK x fun c => if c = true then b ρ μ1 Q else Q (.bl false) μ1
@[simp] def dOrV (a b : TED) : TED := fun ρ μ Q => a ρ μ fun x μ1 => blK x fun c => if c = true then Q (.bl true) μ1 else b ρ μ1 Q
@[simp] def dNotV (a : TED) : TED := fun ρ μ Q => a ρ μ fun x μ1 => blK x fun c => Q (.bl (!c)) μ1
@[simp] def dNeg (a : TED) : TED := fun ρ μ Q => a ρ μ fun x μ1 => ∃ i, x = .int i ∧ Q (.int (-i)) μ1
@[simp] def dChain (r r' : RD2) (a b c : TED) : TED := fun ρ μ Q => a ρ μ fun x μ1 => b ρ μ1 fun y μ2 => r x y μ2 fun z μ3 => blK z fun k => (if k = true then c ρ μ3 fun w μ4 => r' y w μ4 Q else Q (.bl false) μ3)
end
end DL

namespace DL
open PySem PySem.Spec PyProof.Rows L2

theorem S_len (l : List Nat) : (S l).length = l.length := by show l.toArray.size = l.length; simp
theorem S_app (l r : List Nat) : S l ++ S r = S (l ++ r) := by
  show (⟨l.toArray ++ r.toArray⟩ : Str) = ⟨(l ++ r).toArray⟩
  simp
theorem S_list (l : List Nat) : (S l).cps.toList = l := by simp
theorem S_inj {l r : List Nat} : S l = S r ↔ l = r := by
  constructor
  · intro h
    have := congrArg (fun z : Str => z.cps.toList) h
    simpa using this
  · intro h; rw [h]
theorem S_of (z : Str) : S z.cps.toList = z := by
  show (⟨z.cps.toList.toArray⟩ : Str) = z
  simp

/-- two whole numbers under a condition -/
def rdI (C : Int → Int → Prop) (g : Int → Int → D) : RD2
  | .int i, .int j, μ, Q => C i j ∧ Q (g i j) μ
  | _, _, _, _ => False
@[simp] theorem rdI_1 (C : Int → Int → Prop) (g : Int → Int → D) {i j : Int} {μ : Sto} {Q : DK} : rdI C g (.int i) (.int j) μ Q = (C i j ∧ Q (g i j) μ) := rfl
def mulOk (i j : Int) : Prop := (-18446744073709551616 < i ∧ i < 18446744073709551616) ∨ (-18446744073709551616 < j ∧ j < 18446744073709551616) ∨ i.natAbs.log2 + j.natAbs.log2 < 1000000
def powOk (i j : Int) : Prop := 0 ≤ j ∧ j ≤ 1000000 ∧ i.natAbs < 18446744073709551616
def divOk (j : Int) : Prop := 0 < j ∧ (j < 1073741824 ∨ j.natAbs.log2 < 9000)
@[simp] abbrev SZ : Nat := 16777216
def repl {α : Type} (n : Nat) (l : List α) : List α := (List.replicate n l).flatten
def rdAdd : RD2
  | .int i, .int j, μ, Q => Q (.int (i + j)) μ
  | .str s, .str t, μ, Q => s.length + t.length ≤ SZ ∧ Q (.str (s ++ t)) μ
  | .tup s, .tup t, μ, Q => s.length + t.length ≤ SZ ∧ Q (.tup (s ++ t)) μ
  | .lst s, .lst t, μ, Q => s.length + t.length ≤ SZ ∧ Q (.lst (s ++ t)) μ
  | .int i, .bl k, μ, Q => Q (.int (i + b2i k)) μ
  | .ref a, .lst t, μ, Q => ∃ s, μ a = some (.lst s) ∧ s.length + t.length ≤ SZ ∧ Q (.lst (s ++ t)) μ
  | _, _, _, _ => False
@[simp] theorem rdAdd_1 : rdAdd  (.int i0) (.int j0) μ0 Q0 = (Q0 (.int (i0 + j0)) μ0) := rfl
@[simp] theorem rdAdd_2 : rdAdd  (.str s0) (.str t0) μ0 Q0 = (s0.length + t0.length ≤ SZ ∧ Q0 (.str (s0 ++ t0)) μ0) := rfl
@[simp] theorem rdAdd_3 : rdAdd  (.tup s0) (.tup t0) μ0 Q0 = (s0.length + t0.length ≤ SZ ∧ Q0 (.tup (s0 ++ t0)) μ0) := rfl
@[simp] theorem rdAdd_4 : rdAdd  (.lst s0) (.lst t0) μ0 Q0 = (s0.length + t0.length ≤ SZ ∧ Q0 (.lst (s0 ++ t0)) μ0) := rfl
@[simp] theorem rdAdd_5 : rdAdd  (.int i0) (.bl k0) μ0 Q0 = (Q0 (.int (i0 + b2i k0)) μ0) := rfl
@[simp] theorem rdAdd_6 : rdAdd  (.ref a0) (.lst t0) μ0 Q0 = (∃ s, μ0 a0 = some (.lst s) ∧ s.length + t0.length ≤ SZ ∧ Q0 (.lst (s ++ t0)) μ0) := rfl
def rdSub : RD2 := rdI (fun _ _ => True) fun i j => .int (i - j)
def rdMul : RD2
  | .int i, .int j, μ, Q => mulOk i j ∧ Q (.int (i * j)) μ
  | .str s, .int n, μ, Q => n ≤ 1000000 ∧ -1000000 ≤ n ∧ s.length * n.toNat ≤ SZ ∧ Q (.str (repl n.toNat s)) μ
  | .tup s, .int n, μ, Q => -1000 ≤ n ∧ n ≤ 1000 ∧ s.length ≤ 1000 ∧ Q (.tup (repl n.toNat s)) μ
  | .lst s, .int n, μ, Q => n ≤ 1000000 ∧ -1000000 ≤ n ∧ s.length * n.toNat ≤ SZ ∧ Q (.lst (repl n.toNat s)) μ
  | _, _, _, _ => False
@[simp] theorem rdMul_1 : rdMul  (.int i0) (.int j0) μ0 Q0 = (mulOk i0 j0 ∧ Q0 (.int (i0 * j0)) μ0) := rfl
@[simp] theorem rdMul_2 : rdMul  (.str s0) (.int n0) μ0 Q0 = (n0 ≤ 1000000 ∧ -1000000 ≤ n0 ∧ s0.length * n0.toNat ≤ SZ ∧ Q0 (.str (repl n0.toNat s0)) μ0) := rfl
@[simp] theorem rdMul_3 : rdMul  (.tup s0) (.int n0) μ0 Q0 = (-1000 ≤ n0 ∧ n0 ≤ 1000 ∧ s0.length ≤ 1000 ∧ Q0 (.tup (repl n0.toNat s0)) μ0) := rfl
@[simp] theorem rdMul_4 : rdMul  (.lst s0) (.int n0) μ0 Q0 = (n0 ≤ 1000000 ∧ -1000000 ≤ n0 ∧ s0.length * n0.toNat ≤ SZ ∧ Q0 (.lst (repl n0.toNat s0)) μ0) := rfl
def rdMod : RD2 := rdI (fun _ j => 0 < j) fun i j => .int (i % j)
def rdDiv : RD2 := rdI (fun _ j => divOk j) fun i j => .int (i / j)
def rdPow : RD2 := rdI powOk fun i j => .int (i ^ j.toNat)
def rdShl : RD2 := rdI powOk fun i j => .int (i * 2 ^ j.toNat)
def rdShr : RD2 := rdI (fun _ j => 0 ≤ j) fun i j => .int (i / 2 ^ j.toNat)
def rdAnd : RD2 := rdI (fun _ _ => True) fun i j => .int (Builtin.bitAnd i j)
def rdLt : RD2
  | .int i, .int j, μ, Q => Q (.bl (decide (i < j))) μ
  | .str s, .str t, μ, Q => Q (.bl (decide (s < t))) μ
  | _, _, _, _ => False
@[simp] theorem rdLt_1 : rdLt  (.int i0) (.int j0) μ0 Q0 = (Q0 (.bl (decide (i0 < j0))) μ0) := rfl
@[simp] theorem rdLt_2 : rdLt  (.str s0) (.str t0) μ0 Q0 = (Q0 (.bl (decide (s0 < t0))) μ0) := rfl
def rdLe : RD2 := rdI (fun _ _ => True) fun i j => .bl (decide (i ≤ j))
def rdGt : RD2 := rdI (fun _ _ => True) fun i j => .bl (decide (j < i))
def rdGe : RD2 := rdI (fun _ _ => True) fun i j => .bl (decide (j ≤ i))
@[simp] theorem rdSub_i {i j : Int} {μ : Sto} {Q : DK} : rdSub (.int i) (.int j) μ Q = (Q (.int (i - j)) μ) := by simp [rdSub]
@[simp] theorem rdMod_i {i j : Int} {μ : Sto} {Q : DK} : rdMod (.int i) (.int j) μ Q = (0 < j ∧ Q (.int (i % j)) μ) := by simp [rdMod]
@[simp] theorem rdDiv_i {i j : Int} {μ : Sto} {Q : DK} : rdDiv (.int i) (.int j) μ Q = (divOk j ∧ Q (.int (i / j)) μ) := by simp [rdDiv]
@[simp] theorem rdPow_i {i j : Int} {μ : Sto} {Q : DK} : rdPow (.int i) (.int j) μ Q = (powOk i j ∧ Q (.int (i ^ j.toNat)) μ) := by simp [rdPow]
@[simp] theorem rdShl_i {i j : Int} {μ : Sto} {Q : DK} : rdShl (.int i) (.int j) μ Q = (powOk i j ∧ Q (.int (i * 2 ^ j.toNat)) μ) := by simp [rdShl]
@[simp] theorem rdShr_i {i j : Int} {μ : Sto} {Q : DK} : rdShr (.int i) (.int j) μ Q = (0 ≤ j ∧ Q (.int (i / 2 ^ j.toNat)) μ) := by simp [rdShr]
@[simp] theorem rdAnd_i {i j : Int} {μ : Sto} {Q : DK} : rdAnd (.int i) (.int j) μ Q = (Q (.int (Builtin.bitAnd i j)) μ) := by simp [rdAnd]
@[simp] theorem rdLe_i {i j : Int} {μ : Sto} {Q : DK} : rdLe (.int i) (.int j) μ Q = (Q (.bl (decide (i ≤ j))) μ) := by simp [rdLe]
@[simp] theorem rdGt_i {i j : Int} {μ : Sto} {Q : DK} : rdGt (.int i) (.int j) μ Q = (Q (.bl (decide (j < i))) μ) := by simp [rdGt]
@[simp] theorem rdGe_i {i j : Int} {μ : Sto} {Q : DK} : rdGe (.int i) (.int j) μ Q = (Q (.bl (decide (j ≤ i))) μ) := by simp [rdGe]
/-- are two data equal -/
def D.eqv (x y : D) : Bool := PyData.eqv x.py y.py
def scD : D → D → Bool
  | .int _, .int _ => true
  | .str _, .str _ => true
  | _, _ => false
def okEq (x y : D) : Prop := scD x y = true ∨ (x.flat = true ∧ y.flat = true ∧ SeqAt.shaped x.py = true ∧ SeqAt.shaped y.py = true)
@[simp] def rdEq : RD2 := fun x y μ Q => okEq x y ∧ Q (.bl (D.eqv x y)) μ
@[simp] def rdNe : RD2 := fun x y μ Q => okEq x y ∧ Q (.bl (!D.eqv x y)) μ
@[simp] def isNonD : D → Bool
  | .non => true
  | _ => false
def rdIs : RD2
  | x, .non, μ, Q => Q (.bl (isNonD x)) μ
  | _, _, _, _ => False
@[simp] theorem rdIs_1 : rdIs  x0 (.non) μ0 Q0 = (Q0 (.bl (isNonD x0)) μ0) := rfl
def rdIsNot : RD2
  | x, .non, μ, Q => Q (.bl (!isNonD x)) μ
  | _, _, _, _ => False
@[simp] theorem rdIsNot_1 : rdIsNot  x0 (.non) μ0 Q0 = (Q0 (.bl (!isNonD x0)) μ0) := rfl

section
variable {K : PySem.W.Frag} {mg : Str → Option Value}
theorem ops_I {C : Int → Int → Prop} {C' : Int → Int → Prop} {g : Int → Int → V} {g' : Int → Int → D} (hC : ∀ i j, C' i j → C i j) (hg : ∀ i j F, Dt K mg F (g i j) (g' i j)) : OpS K mg (rI C g) (rdI C' g') := by
  intro F μ H x y dx dy Qd Q o wx wy h k
  cases dx <;> cases dy <;> first | exact h.elim | skip
  obtain ⟨h1, h2⟩ := h
  exact ⟨_, _, wx.int, wy.int, hC _ _ h1, k _ F μ H _ .refl o (hg _ _ F) h2⟩
theorem ops_I0 {C' : Int → Int → Prop} {g : Int → Int → V} {g' : Int → Int → D} (hg : ∀ i j F, Dt K mg F (g i j) (g' i j)) : OpS K mg (rI0 g) (rdI C' g') := by
  intro F μ H x y dx dy Qd Q o wx wy h k
  cases dx <;> cases dy <;> first | exact h.elim | skip
  obtain ⟨h1, h2⟩ := h
  exact ⟨_, _, wx.int, wy.int, k _ F μ H _ .refl o (hg _ _ F) h2⟩
/-- one value, the heap as it stands -/
theorem fin0 {F : Hp} {μ : Sto} {H : Hp} {Qd : DK} {Q : VK} (o : Ok K mg F μ H) (k : ∀ v F' μ' H' dv, Ext F μ H F' μ' H' → Ok K mg F' μ' H' → Dt K mg F' v dv → Qd dv μ' → Q v H') {v : V} {d : D} (h : Dt K mg F v d) (q : Qd d μ) : Q v H :=
  k v F μ H d .refl o h q
def rAddA (K : PySem.W.Frag) : R2 := fun x y H Q => (rI0 (fun i j => .int (i + j)) x y H Q ∨ (∃ i j, x = .str i ∧ y = .str j ∧ i.length + j.length ≤ sizeLine ∧ Q (.str (i ++ j)) H)) ∨ ((rCatZ K x y H Q ∨ rCat x y H Q) ∨ (∃ i k, x = .int i ∧ y = .bl k ∧ Q (.int (i + b2i k)) H))
theorem op_addA {X : Cx} : OpR X (binaryOp .Add) (rAddA X.K) := .or (.or op_add op_add_str) (.or (.or op_catZ op_cat) op_add_ib)
theorem ops_add : OpS K mg (rAddA K) rdAdd := by
  intro F μ H x y dx dy Qd Q o wx wy h k
  cases dx <;> cases dy <;> first | exact h.elim | skip
  · exact .inr (.inr ⟨_, _, wx.int, wy.bl, fin0 o k (.int _) h⟩)
  · exact .inl (.inl ⟨_, _, wx.int, wy.int, fin0 o k (.int _) h⟩)
  · obtain ⟨h1, h2⟩ := h
    refine .inl (.inr ⟨_, _, wx.str, wy.str, ?_, ?_⟩)
    · rw [S_len, S_len, sizeLine_eq]; exact h1
    · rw [S_app]; exact fin0 o k (.str _) h2
  · obtain ⟨h1, h2⟩ := h
    obtain ⟨a, vs, rfl, ha, _, ra⟩ := wx.tup o
    obtain ⟨b, ws, rfl, hb, _, rb⟩ := wy.tup o
    refine .inr (.inl (.inl ⟨a, b, vs, ws, rfl, rfl, ha, hb, ?_, fun e => ?_, fun e1 e2 => ?_, fun e1 e2 p ob hp hob => ?_⟩))
    · rw [ra.length, rb.length, sizeLine_eq]; exact h1
    · subst e; cases ra
      rcases wy with wy | ⟨_, _, _, _, q, _⟩
      · exact fin0 o k wy h2
      · cases q
    · subst e2; cases rb
      rw [List.append_nil] at h2
      rcases wx with wx | ⟨_, _, _, _, q, _⟩
      · exact fin0 o k wx h2
      · cases q
    · obtain ⟨g1, g2, g3⟩ := newTup o (ra.append rb) hp hob
      exact k _ _ _ _ _ g1 g2 g3 h2
  · obtain ⟨h1, h2⟩ := h
    obtain ⟨a, vs, rfl, ha, ra⟩ := wx.lst o
    obtain ⟨b, ws, rfl, hb, rb⟩ := wy.lst o
    refine .inr (.inl (.inr ⟨a, b, vs, ws, rfl, rfl, ha, hb, ?_, fun p hp => ?_⟩))
    · rw [ra.length, rb.length, sizeLine_eq]; exact h1
    · obtain ⟨g1, g2, g3⟩ := newLst o (ra.append rb) hp
      exact k _ _ _ _ _ g1 g2 g3 h2
  · obtain ⟨us, h0, h1, h2⟩ := h
    cases wx.ref
    obtain ⟨vs, ha, ra⟩ := o.sto _ _ h0
    obtain ⟨b, ws, rfl, hb, rb⟩ := wy.lst o
    refine .inr (.inl (.inr ⟨_, b, vs, ws, rfl, rfl, ha, hb, ?_, fun p hp => ?_⟩))
    · rw [ra.length, rb.length, sizeLine_eq]; exact h1
    · obtain ⟨g1, g2, g3⟩ := newLst o (ra.append rb) hp
      exact k _ _ _ _ _ g1 g2 g3 h2
theorem ops_mod : OpS K mg (rI (fun _ j => 0 < j) fun i j => .int (i % j)) rdMod := ops_I (fun _ _ h => h) fun _ _ _ => .int _
theorem ops_pow : OpS K mg (rI CPow fun i j => .int (i ^ j.toNat)) rdPow := ops_I (fun _ _ h => h) fun _ _ _ => .int _
def rDivA : R2 := fun x y H Q => rI CDiv (fun i j => .int (i / j)) x y H Q ∨ rI CDivW (fun i j => .int (i / j)) x y H Q
theorem op_divA {X : Cx} : OpR X (binaryOp .FloorDiv) rDivA := .or op_fdiv op_fdivW
theorem ops_div : OpS K mg rDivA rdDiv := by
  intro F μ H x y dx dy Qd Q o wx wy h k
  cases dx <;> cases dy <;> first | exact h.elim | skip
  obtain ⟨⟨h0, h1 | h1⟩, h2⟩ := h
  · exact .inl ⟨_, _, wx.int, wy.int, ⟨h0, h1⟩, fin0 o k (.int _) h2⟩
  · exact .inr ⟨_, _, wx.int, wy.int, ⟨h0, h1⟩, fin0 o k (.int _) h2⟩
/-- text * int -/
def rRepS : R2 := fun x y H Q => ∃ s n, x = .str s ∧ y = .int n ∧ PySem.MulOk s n ∧ Q (.str (PySem.Txt.mul s n)) H
theorem op_repS {X : Cx} : OpR X (binaryOp .Mult) rRepS := by
  intro pins s σ H x y v u Q I rx ry h
  obtain ⟨z, n, rfl, rfl, hm, q⟩ := h
  obtain ⟨t, rfl⟩ := rx
  obtain ⟨t', rfl⟩ := ry
  exact PySem.SB.mul hm fun t' k => ⟨.str _, H, I.tok _, ⟨_, rfl⟩, q⟩
theorem repl_one {α : Type} (l : List α) : repl 1 l = l := by simp [repl]
theorem flat_const {α : Type} (l : List α) : ∀ n : Nat, (List.replicate (n + 1) l).flatten = l ++ (List.replicate n l).flatten := fun n => by rw [List.replicate_succ, List.flatten_cons]
end
end DL

namespace DL
open PySem PySem.Spec PyProof.Rows L2
section
variable {K : PySem.W.Frag} {mg : Str → Option Value}

theorem foldl_arr (l : List Nat) : ∀ (n : Nat) (acc : List Nat), (List.replicate n l.toArray).foldl (· ++ ·) acc.toArray = (acc ++ repl n l).toArray := by
  intro n
  induction n with
  | zero => intro acc; simp [repl]
  | succ n ih =>
    intro acc
    rw [List.replicate_succ, List.foldl_cons, List.append_toArray, ih]
    simp [repl, List.replicate_succ]
theorem repl_len {α : Type} (n : Nat) (l : List α) : (repl n l).length = n * l.length := by
  simp [repl, List.length_flatten]
theorem S_mul (l : List Nat) (n : Int) : PySem.Txt.mul (S l) n = S (repl n.toNat l) := by
  unfold PySem.Txt.mul
  by_cases h : n < 1
  · rw [if_pos h, show n.toNat = 0 by omega]
    rfl
  · rw [if_neg h]
    by_cases c : (n == 1 || (S l).length == 0) = true
    · rw [if_pos c]
      rcases Bool.or_eq_true_iff.mp c with c | c
      · have e : n = 1 := by simpa using c
        subst e
        show S l = S (repl 1 l)
        rw [repl_one]
      · have e : l = [] := by
          rw [S_len] at c
          exact List.eq_nil_of_length_eq_zero (by simpa using c)
        subst e
        simp [repl]
    · rw [if_neg c]
      have := foldl_arr l n.toNat []
      rw [List.nil_append] at this
      show (⟨List.foldl (fun x1 x2 => x1 ++ x2) #[] (List.replicate n.toNat l.toArray)⟩ : Str) = ⟨(repl n.toNat l).toArray⟩
      rw [← this]
theorem mulOk_S {l : List Nat} {n : Int} (h1 : n ≤ 1000000) (h2 : -1000000 ≤ n) (h3 : l.length * n.toNat ≤ SZ) : PySem.MulOk (S l) n := by
  refine ⟨?_, fun a b => ?_, fun a b => ?_⟩
  · rw [decide_eq_false (by omega), decide_eq_false (by omega)]; rfl
  · rw [S_len]
    intro c
    have h4 : (l.length : Int) * n ≤ SZ := by
      have : ((l.length * n.toNat : Nat) : Int) ≤ (SZ : Nat) := by exact_mod_cast h3
      rw [Int.natCast_mul, Int.toNat_of_nonneg (by omega)] at this
      exact this
    have h5 : (9223372036854775807 : Int) / n < l.length := c
    have h6 : (9223372036854775807 : Int) < l.length * n := by
      have := Int.lt_mul_of_ediv_lt (show (0 : Int) < n by omega) h5
      omega
    have : ((SZ : Nat) : Int) = 16777216 := rfl
    omega
  · rw [S_len]
    show Builtin.Str.tooLong _ = false
    unfold Builtin.Str.tooLong
    rw [sizeLine_eq]
    exact decide_eq_false (Nat.not_lt.mpr h3)
theorem tmul_same (l : Addr) (its : Array Value) (n : Nat) (dd : Option Addr) (sl : Array (Option Value)) (x : Int) (u : Tok) (c0 : (decide (x < -(2 ^ 63)) || decide (x ≥ 2 ^ 63)) = false) (c1 : (its.isEmpty || x == 1) = true) :
    Meets (Builtin.«tuple.__mul__» ⟨[.ref l, .int x u], []⟩) (fun _ R s => s.heap.get? l = some { cls := .type "tuple", dict := dd, data := .seq its n, slots := sl } ∧ R (.ok (.ret (Value.ref l))) s) :=
  .of_wp fun prog w A R s h => by
    obtain ⟨hp, g, d, tk, os⟩ := s
    obtain ⟨hl, h⟩ := h
    have f1 := AutoSeq1.idx_int
    wp_walk using wpAny_loadPart' hl
    repeat (first
      | (refine wpAny_ite_false (decide_eq_false (by rw [c0]; exact Bool.false_ne_true)) ?_; wp_walk using wpAny_loadPart' hl)
      | (refine wpAny_ite_true (decide_eq_true (by rw [c1])) ?_; wp_walk using wpAny_loadPart' hl))
    exact ⟨_, rfl, h⟩
theorem tmul_none (l : Addr) (its : Array Value) (n : Nat) (dd : Option Addr) (sl : Array (Option Value)) (x : Int) (u : Tok) (c0 : (decide (x < -(2 ^ 63)) || decide (x ≥ 2 ^ 63)) = false) (c1 : (its.isEmpty || x == 1) = false) (c2 : (decide (x ≤ 0) || its.isEmpty) = true) :
    Meets (Builtin.«tuple.__mul__» ⟨[.ref l, .int x u], []⟩) (fun _ R s => s.heap.get? l = some { cls := .type "tuple", dict := dd, data := .seq its n, slots := sl } ∧
      R (.ok (.ret (Value.ref s.heap.objs.size))) { s with heap := s.heap.push { cls := Value.type "tuple", data := Data.seq #[] }, toks := s.toks }) :=
  .of_wp fun prog w A R s h => by
    obtain ⟨hp, g, d, tk, os⟩ := s
    obtain ⟨hl, h⟩ := h
    have f1 := AutoSeq1.idx_int
    wp_walk using wpAny_loadPart' hl
    repeat (first
      | (refine wpAny_ite_false (decide_eq_false (by rw [c0]; exact Bool.false_ne_true)) ?_; wp_walk using wpAny_loadPart' hl)
      | (refine wpAny_ite_false (decide_eq_false (by rw [c1]; exact Bool.false_ne_true)) ?_; wp_walk using wpAny_loadPart' hl)
      | (refine wpAny_ite_true (decide_eq_true (by rw [c2])) ?_; wp_walk using wpAny_loadPart' hl))
    exact ⟨_, rfl, h⟩
def rRepT1 (K : PySem.W.Frag) : R2 := fun x y H Q => ∃ l k xs, x = .ref l ∧ y = .int k ∧ SqT K H l xs ∧ -1000 ≤ k ∧ k ≤ 1000 ∧ (k ≤ 1 ∨ xs = []) ∧ ((k = 1 ∨ xs = []) → Q (.ref l) H) ∧ (k ≤ 0 → xs ≠ [] → newT H Q [])
theorem op_repT1 {X : Cx} : OpR X (binaryOp .Mult) (rRepT1 X.K) := by
  intro pins s σ H x y v u Q I rx ry h
  obtain ⟨l, k, xs, rfl, rfl, hT, h1, h2, h3, qa, qb⟩ := h
  cases rx
  obtain ⟨t, rfl⟩ := ry
  obtain ⟨its, r, ⟨⟨cls, dd, data, sl⟩, ho, hc, n, hd⟩, hs⟩ := I.tuple hT
  simp only at hc hd
  subst hc hd
  have hle : its.length = xs.length := r.length.symm
  have c0 : (decide (k < -(2 ^ 63)) || decide (k ≥ 2 ^ 63)) = false := by
    rw [decide_eq_false (by omega), decide_eq_false (by omega)] <;> rfl
  have go : ∀ {RR : (Result → Shared → Prop) → Shared → Prop}, Meets (Builtin.«tuple.__mul__» ⟨[.ref l, .int k t], []⟩) (fun _ R s => s.heap.get? l = some { cls := .type "tuple", dict := dd, data := .seq its.toArray n, slots := sl } ∧ RR R s) →
      (∀ R : Result → Shared → Prop, (∀ v' s', EP X pins σ Q v' s' → R (.ok (.ret v')) s') → RR R s) → wpAny (model X.prog X.w) X.A (binaryOp .Mult (.ref l) (.int k t)) (EP X pins σ Q) X.xe s := fun {RR} hm hr =>
    wpAny_binaryOp_repeat_ref (T := "tuple") (U := "int") (by decide) ⟨_, ho, rfl⟩ (fun s' => typeIs_int s' k t) noFill_tuple_mul F.fills_int_mul F.slot_int_rmul repeat_tuple F.slot_int_index.lookup
      (call_meets F.slot_int_rmul (typeIs_int s k t) F.entry_int_rmul (F.args_int_rmul_2 _ _) (int_rmul_tuple k t l its.toArray n dd sl)
        ⟨ho, rfl, ⟨_, ho, rfl⟩, call_meets F.slot_tuple_mul ⟨_, ho, rfl⟩ F.entry_tuple_mul (F.args_tuple_mul_2 _ _) hm ⟨ho, hr _ fun v' s' z => z⟩⟩)
  by_cases hk : k = 1 ∨ xs = []
  · have c1 : (its.toArray.isEmpty || k == 1) = true := by
      rcases hk with hk | hk
      · subst hk; simp
      · subst hk
        have : its = [] := List.eq_nil_of_length_eq_zero hle
        subst this; rfl
    exact go (tmul_same l its.toArray n dd sl k t c0 c1) fun R hR => hR _ _ ⟨.ref l, H, I, rfl, qa hk⟩
  · have hn : its ≠ [] := fun e => hk (.inr (List.eq_nil_of_length_eq_zero (by rw [← hle, e]; rfl)))
    have hi : its.toArray.isEmpty = false := by
      cases its with
      | nil => exact absurd rfl hn
      | cons a b => rfl
    have hk0 : k ≤ 0 := by
      have : k ≠ 1 := fun e => hk (.inl e)
      rcases h3 with h3 | h3
      · omega
      · exact absurd (.inr h3) hk
    have c1 : (its.toArray.isEmpty || k == 1) = false := by
      rw [hi, Bool.false_or]
      exact beq_eq_false_iff_ne.mpr (by omega)
    have c2 : (decide (k ≤ 0) || its.toArray.isEmpty) = true := by rw [decide_eq_true hk0]; rfl
    exact go (tmul_none l its.toArray n dd sl k t c0 c1 c2) fun R hR => hR _ _ (fin_tup (its := []) I (Nat.zero_le _) .nil (qb hk0 fun e => hk (.inr e)))
def rMulA (K : PySem.W.Frag) : R2 := fun x y H Q => (rI CMul (fun i j => .int (i * j)) x y H Q ∨ rI CMulW (fun i j => .int (i * j)) x y H Q) ∨ ((rRepS x y H Q ∨ (rRepZ K x y H Q ∨ rRepT1 K x y H Q)) ∨ rRep x y H Q)
theorem op_mulA {X : Cx} : OpR X (binaryOp .Mult) (rMulA X.K) := .or (.or op_mul op_mulW) (.or (.or op_repS (.or op_repZ op_repT1)) op_rep)
theorem Dts.repl {F : Hp} {vs : List V} {ds : List D} (r : Dts K mg F vs ds) : ∀ n, Dts K mg F (List.replicate n vs).flatten (List.replicate n ds).flatten
  | 0 => .nil
  | n + 1 => by
    rw [flat_const, flat_const]
    exact r.append (Dts.repl r n)
theorem ops_mul : OpS K mg (rMulA K) rdMul := by
  intro F μ H x y dx dy Qd Q o wx wy h k
  cases dx <;> cases dy <;> first | exact h.elim | skip
  · obtain ⟨h1 | h1 | h1, h2⟩ := h
    · exact .inl (.inl ⟨_, _, wx.int, wy.int, .inl h1, fin0 o k (.int _) h2⟩)
    · exact .inl (.inl ⟨_, _, wx.int, wy.int, .inr h1, fin0 o k (.int _) h2⟩)
    · exact .inl (.inr ⟨_, _, wx.int, wy.int, h1, fin0 o k (.int _) h2⟩)
  · obtain ⟨h1, h2, h3, h4⟩ := h
    refine .inr (.inl (.inl ⟨_, _, wx.str, wy.int, mulOk_S h1 h2 h3, ?_⟩))
    rw [S_mul]
    exact fin0 o k (.str _) h4
  · rename_i sx nx
    obtain ⟨h1, h2, h4, h5⟩ := h
    obtain ⟨a, vs, rfl, ha, hf, ra⟩ := wx.tup o
    have wd : Dt K mg F (.ref a) (.tup sx) := .tup hf ra
    by_cases hs : nx ≤ 1 ∨ sx = []
    · have e0 : vs = [] ↔ sx = [] := by
        constructor
        · intro e; subst e; cases ra; rfl
        · intro e; subst e; cases ra; rfl
      refine .inr (.inl (.inr (.inr ⟨a, _, vs, rfl, wy.int, ha, h1, h2, hs.imp id e0.mpr, fun hk => ?_, fun hk hne p ob hp hob => ?_⟩)))
      · have : repl nx.toNat sx = sx := by
          rcases hk with hk | hk
          · subst hk; exact repl_one sx
          · rw [e0.mp hk]; simp [repl]
        rw [this] at h5
        exact fin0 o k wd h5
      · rw [show nx.toNat = 0 by omega] at h5
        obtain ⟨g1, g2, g3⟩ := newTup o (vs := []) (ds := []) .nil hp hob
        exact k _ _ _ _ _ g1 g2 g3 h5
    · refine .inr (.inl (.inr (.inl ⟨a, _, vs, rfl, wy.int, ha, fun e => hs ?_, by omega, by omega, by rw [ra.length]; exact h4, fun p ob hp hob => ?_⟩)))
      · subst e; cases ra; exact .inr rfl
      · obtain ⟨g1, g2, g3⟩ := newTup o (ra.repl _) hp hob
        exact k _ _ _ _ _ g1 g2 g3 h5
  · obtain ⟨h1, h2, h3, h5⟩ := h
    obtain ⟨a, vs, rfl, ha, ra⟩ := wx.lst o
    refine .inr (.inr ⟨a, _, vs, rfl, wy.int, ha, by omega, by omega, by rw [ra.length, sizeLine_eq]; exact h3, fun p hp => ?_⟩)
    obtain ⟨g1, g2, g3⟩ := newLst o (ra.repl _) hp
    exact k _ _ _ _ _ g1 g2 g3 h5

def rLtA : R2 := fun x y H Q => rI0 (fun i j => .bl (decide (i < j))) x y H Q ∨ ∃ i j, x = .str i ∧ y = .str j ∧ Q (.bl (decide (i.cps.toList < j.cps.toList))) H
theorem op_ltA {X : Cx} : OpR X (compareOp .Lt) rLtA := .or op_lt op_lt_str
theorem ops_lt : OpS K mg rLtA rdLt := by
  intro F μ H x y dx dy Qd Q o wx wy h k
  cases dx <;> cases dy <;> first | exact h.elim | skip
  · exact .inl ⟨_, _, wx.int, wy.int, fin0 o k (.bl _) h⟩
  · refine .inr ⟨_, _, wx.str, wy.str, ?_⟩
    rw [S_list, S_list]
    exact fin0 o k (.bl _) h
theorem ops_gt : OpS K mg (rI0 fun i j => .bl (decide (j < i))) rdGt := ops_I0 fun _ _ _ => .bl _
theorem ops_ge : OpS K mg (rI0 fun i j => .bl (decide (j ≤ i))) rdGe := ops_I0 fun _ _ _ => .bl _
abbrev r2Or (r r' : R2) : R2 := fun x y H Q => r x y H Q ∨ r' x y H Q
theorem op_eqA {X : Cx} (hu : X.A.units + 64 < cLine) : OpR X (compareOp .Eq) (r2Or (rEqD X.K) rEq) := .or (op_eqD hu) op_eq
theorem op_neA {X : Cx} (hu : X.A.units + 64 < cLine) : OpR X (compareOp .NotEq) (r2Or (rNeD X.K) rNe) := .or (op_neD hu) op_ne
theorem sc_dec {K : PySem.W.Frag} {mg : Str → Option Value} {F H : Hp} {μ : Sto} {x y : V} {dx dy : D} (wx : Wk K mg F μ H x dx) (wy : Wk K mg F μ H y dy) (h : scD dx dy = true) : scal x y = true ∧ decide (x = y) = D.eqv dx dy := by
  cases dx <;> cases dy <;> first | exact (Bool.false_ne_true h).elim | skip
  · rw [wx.int, wy.int]; exact ⟨rfl, dec_int⟩
  · rw [wx.str, wy.str]; exact ⟨rfl, dec_str⟩
theorem ops_eq : OpS K mg (r2Or (rEqD K) rEq) rdEq := by
  intro F μ H x y dx dy Qd Q o wx wy h k
  obtain ⟨h | ⟨f1, f2, s1, s2⟩, q⟩ := h
  · obtain ⟨g1, g2⟩ := sc_dec wx wy h
    exact .inr ⟨g1, by rw [g2]; exact fin0 o k (.bl _) q⟩
  · exact .inl ⟨_, _, wx.dp o f1, wy.dp o f2, s1, s2, fin0 o k (.bl _) q⟩
theorem ops_ne : OpS K mg (r2Or (rNeD K) rNe) rdNe := by
  intro F μ H x y dx dy Qd Q o wx wy h k
  obtain ⟨h | ⟨f1, f2, s1, s2⟩, q⟩ := h
  · obtain ⟨g1, g2⟩ := sc_dec wx wy h
    exact .inr ⟨g1, by rw [g2]; exact fin0 o k (.bl _) q⟩
  · exact .inl ⟨_, _, wx.dp o f1, wy.dp o f2, s1, s2, fin0 o k (.bl _) q⟩
/-- None, a bool, a whole number, a text -/
def D.sc : D → Bool
  | .non => true | .bl _ => true | .int _ => true | .str _ => true
  | _ => false
theorem Dt.sc {F : Hp} {v : V} {d : D} (h : Dt K mg F v d) (q : d.sc = true) : L2.flatV v = true := by
  cases h <;> first | rfl | cases q
theorem Dts.sc {F : Hp} : ∀ {vs : List V} {ds : List D}, Dts K mg F vs ds → ds.all D.sc = true → vs.all L2.flatV = true
  | _, _, .nil, _ => rfl
  | _, _, .cons h r, q => by
    rw [List.all_cons, Bool.and_eq_true_iff] at q ⊢
    exact ⟨h.sc q.1, Dts.sc r q.2⟩
theorem Dt.eqv {F F' : Hp} {v w : V} {d e : D} (h : Dt K mg F v d) (g : Dt K mg F' w e) (q : d.sc = true) (p : e.sc = true) : L2.eqV v w = D.eqv d e := by
  cases h <;> first | cases q | skip
  all_goals cases g <;> first | cases p | skip
  all_goals rfl
theorem Dts.any {F F' : Hp} {w : V} {e : D} (g : Dt K mg F' w e) (p : e.sc = true) : ∀ {vs : List V} {ds : List D}, Dts K mg F vs ds → ds.all D.sc = true → L2.inV w vs = ds.any fun z => D.eqv z e
  | _, _, .nil, _ => rfl
  | _, _, .cons h r, q => by
    rw [List.all_cons, Bool.and_eq_true_iff] at q
    have := Dts.any g p r q.2
    unfold L2.inV at this ⊢
    rw [List.any_cons, List.any_cons, this, h.eqv g q.1 p]
/-- in: a sign in a text; a scalar in a list or tuple of scalars -/
@[simp] def inL (neg : Bool) (x : D) (ds : List D) (μ : Sto) (Q : DK) : Prop := x.sc = true ∧ ds.all D.sc = true ∧ Q (.bl (if neg then !(ds.any fun z => D.eqv z x) else ds.any fun z => D.eqv z x)) μ
def inS (neg : Bool) : D → List Nat → Sto → DK → Prop
  | .str [c], s, μ, Q => Q (.bl (if neg then !decide (c ∈ s) else decide (c ∈ s))) μ
  | _, _, _, _ => False
@[simp] theorem inS_1 (neg : Bool) {c : Nat} {s : List Nat} {μ : Sto} {Q : DK} : inS neg (.str [c]) s μ Q = (Q (.bl (if neg then !decide (c ∈ s) else decide (c ∈ s))) μ) := rfl
def rdInN (neg : Bool) : RD2
  | x, .str s, μ, Q => inS neg x s μ Q
  | x, .lst ds, μ, Q => inL neg x ds μ Q
  | x, .tup ds, μ, Q => inL neg x ds μ Q
  | _, _, _, _ => False
@[simp] theorem rdInN_1 (neg : Bool) {x : D} {s : List Nat} {μ : Sto} {Q : DK} : rdInN neg x (.str s) μ Q = inS neg x s μ Q := rfl
@[simp] theorem rdInN_2 (neg : Bool) {x : D} {s : List D} {μ : Sto} {Q : DK} : rdInN neg x (.lst s) μ Q = inL neg x s μ Q := rfl
@[simp] theorem rdInN_3 (neg : Bool) {x : D} {s : List D} {μ : Sto} {Q : DK} : rdInN neg x (.tup s) μ Q = inL neg x s μ Q := rfl
theorem Wk.val {F H : Hp} {μ : Sto} {x : V} {d : D} (h : Wk K mg F μ H x d) (q : d.sc = true) : Dt K mg F x d := by
  rcases h with h | ⟨a, vs, xs, rfl, rfl, _⟩
  · exact h
  · cases q
/-- x[i] -/
def rdIx : RD2
  | .lst ds, .int i, μ, Q => ∃ d, atI ds i = some d ∧ Q d μ
  | .tup ds, .int i, μ, Q => ∃ d, atI ds i = some d ∧ Q d μ
  | .str s, .int i, μ, Q => s.length ≤ SZ ∧ ∃ c, atI s i = some c ∧ Q (.str [c]) μ
  | .scr ns, .int i, μ, Q => ∃ n, atI ns i = some n ∧ Q (.int n) μ
  | .ref a, .int i, μ, Q => ∃ ds d, μ a = some (.lst ds) ∧ atI ds i = some d ∧ Q d μ
  | _, _, _, _ => False
@[simp] theorem rdIx_1 : rdIx  (.lst ds0) (.int i0) μ0 Q0 = (∃ d, atI ds0 i0 = some d ∧ Q0 d μ0) := rfl
@[simp] theorem rdIx_2 : rdIx  (.tup ds0) (.int i0) μ0 Q0 = (∃ d, atI ds0 i0 = some d ∧ Q0 d μ0) := rfl
@[simp] theorem rdIx_3 : rdIx  (.str s0) (.int i0) μ0 Q0 = (s0.length ≤ SZ ∧ ∃ c, atI s0 i0 = some c ∧ Q0 (.str [c]) μ0) := rfl
@[simp] theorem rdIx_4 : rdIx  (.scr ns0) (.int i0) μ0 Q0 = (∃ n, atI ns0 i0 = some n ∧ Q0 (.int n) μ0) := rfl
@[simp] theorem rdIx_5 : rdIx  (.ref a0) (.int i0) μ0 Q0 = (∃ ds d, μ0 a0 = some (.lst ds) ∧ atI ds i0 = some d ∧ Q0 d μ0) := rfl
theorem Dts.atI {F : Hp} {vs : List V} {ds : List D} {i : Int} {d : D} (r : Dts K mg F vs ds) (h : L2.atI ds i = some d) : ∃ v, L2.atI vs i = some v ∧ Dt K mg F v d := by
  unfold L2.atI at h ⊢
  rw [r.length]
  cases e : ixN ds.length i with
  | none => rw [e] at h; cases h
  | some j =>
    rw [e] at h
    exact r.get h
theorem atI_map {α β : Type} {f : α → β} {xs : List α} {i : Int} {x : α} (h : L2.atI xs i = some x) : L2.atI (xs.map f) i = some (f x) := by
  unfold L2.atI at h ⊢
  rw [List.length_map]
  cases e : ixN xs.length i with
  | none => rw [e] at h; cases h
  | some j =>
    rw [e] at h
    have h' : xs[j]? = some x := h
    show (xs.map f)[j]? = _
    rw [List.getElem?_map, h']
    rfl
theorem ops_ix : OpS K mg (rIx K) rdIx := by
  intro F μ H x y dx dy Qd Q o wx wy h k
  cases dx <;> cases dy <;> first | exact h.elim | skip
  · obtain ⟨h0, c, h1, h2⟩ := h
    refine .inr (.inr ⟨_, _, c, wx.str, wy.int, by rw [S_len, sizeLine_eq]; exact h0, by rw [S_list]; exact h1, fin0 o k (.str [c]) h2⟩)
  · obtain ⟨d, h1, h2⟩ := h
    obtain ⟨a, vs, rfl, ha, _, ra⟩ := wx.tup o
    obtain ⟨v, g1, g2⟩ := ra.atI h1
    exact .inr (.inl ⟨a, vs, _, v, rfl, wy.int, ha, g1, fin0 o k g2 h2⟩)
  · obtain ⟨d, h1, h2⟩ := h
    obtain ⟨a, vs, rfl, ha, ra⟩ := wx.lst o
    obtain ⟨v, g1, g2⟩ := ra.atI h1
    exact .inl ⟨a, vs, _, v, rfl, wy.int, .inl (.inl ha), g1, fin0 o k g2 h2⟩
  · obtain ⟨n, h1, h2⟩ := h
    obtain ⟨a, rfl, ha⟩ := wx.scr o
    exact .inl ⟨a, _, _, _, rfl, wy.int, ha, atI_map h1, fin0 o k (.int _) h2⟩
  · obtain ⟨ds, d, h0, h1, h2⟩ := h
    cases wx.ref
    obtain ⟨vs, ha, ra⟩ := o.sto _ _ h0
    obtain ⟨v, g1, g2⟩ := ra.atI h1
    exact .inl ⟨_, vs, _, v, rfl, wy.int, .inl (.inl ha), g1, fin0 o k g2 h2⟩
end
section
variable {X : Cx} {a b e : Expr} {da db : TED} {pos : Pos}
theorem de_ix (ha : DW X a da) (hb : DW X b db) (hs : PlainIx b) : DE X (.Subscript a b pos) (dOp rdIx da db) := (pe_ix ix_seq ha hb hs).weaken fun _ _ _ q => lift_op ops_ix q

abbrev TOD := DEnv → Sto → (Option Int → Sto → Prop) → Prop
def liftO (K : PySem.W.Frag) (mg : Str → Option Value) (d : TOD) : TO := fun σ H Q => ∃ F ρ μ Qd, Rel K mg F ρ μ σ H ∧ d ρ μ Qd ∧ ∀ b F' μ' H', Ext F μ H F' μ' H' → Ok K mg F' μ' H' → Qd b μ' → Q b H'
structure DO (X : Cx) (e : Option Expr) (d : TOD) : Prop where
  po : ∃ t, PO X e t ∧ ∀ σ H Q, liftO X.K X.mg d σ H Q → t σ H Q
@[simp] def dNoPart : TOD := fun _ μ Q => Q none μ
@[simp] def dPart (d : TED) : TOD := fun ρ μ Q => d ρ μ fun x μ1 => ∃ i, x = .int i ∧ Q (some i) μ1
theorem do_none : DO X none dNoPart := ⟨_, po_none, fun σ H Q q => by
  obtain ⟨F, ρ, μ, Qd, R, hd, k⟩ := q
  exact k none F μ H .refl R.ok hd⟩
theorem do_some (h : DE X e da) : DO X (some e) (dPart da) := ⟨_, po_some h, fun σ H Q q => by
  obtain ⟨F, ρ, μ, Qd, R, hd, k⟩ := q
  refine ⟨F, ρ, μ, _, R, hd, fun v F1 μ1 H1 dv e1 o1 w1 q1 => ?_⟩
  obtain ⟨i, rfl, q1⟩ := q1
  cases w1
  exact ⟨i, rfl, k _ F1 μ1 H1 e1 o1 q1⟩⟩
def cut {α : Type} (l : List α) (lo hi : Option Int) : List α := (l.drop (HT.sIx l.length 0 lo)).take (HT.sIx l.length l.length hi - HT.sIx l.length 0 lo)
def rdSl : D → Option Int → Option Int → Sto → DK → Prop
  | .str s, lo, hi, μ, Q => s.length ≤ SZ ∧ Q (.str (cut s lo hi)) μ
  | .tup ds, lo, hi, μ, Q => Q (.tup (cut ds lo hi)) μ
  | .lst ds, lo, hi, μ, Q => Q (.lst (cut ds lo hi)) μ
  | .scr ns, lo, hi, μ, Q => Q (.lst ((cut ns lo hi).map D.int)) μ
  | _, _, _, _, _ => False
@[simp] theorem rdSl_1 : rdSl  (.str s0) lo0 hi0 μ0 Q0 = (s0.length ≤ SZ ∧ Q0 (.str (cut s0 lo0 hi0)) μ0) := rfl
@[simp] theorem rdSl_2 : rdSl  (.tup ds0) lo0 hi0 μ0 Q0 = (Q0 (.tup (cut ds0 lo0 hi0)) μ0) := rfl
@[simp] theorem rdSl_3 : rdSl  (.lst ds0) lo0 hi0 μ0 Q0 = (Q0 (.lst (cut ds0 lo0 hi0)) μ0) := rfl
@[simp] theorem rdSl_4 : rdSl  (.scr ns0) lo0 hi0 μ0 Q0 = (Q0 (.lst ((cut ns0 lo0 hi0).map D.int)) μ0) := rfl
@[simp] def dSl (a : TED) (lo hi : TOD) : TED := fun ρ μ Q => a ρ μ fun x μ1 => lo ρ μ1 fun l μ2 => hi ρ μ2 fun u μ3 => rdSl x l u μ3 Q
theorem cutS_S (s : List Nat) (l u : Option Int) : cutS (S s) l u = S (cut s l u) := by unfold cutS cut; rw [S_list, S_len]
theorem cutV_cut (vs : List V) (lo hi : Option Int) : cutV vs lo hi = cut vs lo hi := rfl
theorem Dts.cut {K : PySem.W.Frag} {mg : Str → Option Value} {F : Hp} {vs : List V} {ds : List D} (r : Dts K mg F vs ds) (lo hi : Option Int) : Dts K mg F (cut vs lo hi) (cut ds lo hi) := by
  unfold DL.cut
  rw [r.length]
  exact (r.drop _).take _
theorem cut_map {α β : Type} (f : α → β) (l : List α) (lo hi : Option Int) : cut (l.map f) lo hi = (cut l lo hi).map f := by
  unfold cut
  rw [List.length_map, List.map_take, List.map_drop]
theorem cut_all {α : Type} {l : List α} {lo hi : Option Int} (h : HT.sIx l.length 0 lo = 0 ∧ HT.sIx l.length l.length hi = l.length) : cut l lo hi = l := by
  unfold cut
  rw [h.1, h.2]
  simp
def rSlAll (K : PySem.W.Frag) : V → Option Int → Option Int → Hp → VK → Prop := fun x lo hi H Q => (rSlS x lo hi H Q ∨ rSlZ K x lo hi H Q) ∨ rSlL K x lo hi H Q
theorem sl_all {X : Cx} : SlR X (rSlAll X.K) := .or (.or sl_str sl_tupZ) sl_list
variable {lo hi : Option Expr} {dl dh : TOD} {p2 : Pos}
theorem de_slice (ha : DW X a da) (hl : DO X lo dl) (hh : DO X hi dh) : DE X (.Subscript a (.Slice lo hi none p2) pos) (dSl da dl dh) := by
  obtain ⟨tl, pl, sl⟩ := hl
  obtain ⟨th, ph, sh⟩ := hh
  refine (pe_slice sl_all ha pl ph).weaken fun σ H Q q => ?_
  obtain ⟨F, ρ, μ, Qd, R, hd, k⟩ := q
  refine ⟨F, ρ, μ, _, R, hd, fun v F1 μ1 H1 dv e1 o1 w1 q1 => ?_⟩
  refine sl _ _ _ ⟨F1, ρ, μ1, _, R.ext e1 o1, q1, fun l F2 μ2 H2 e2 o2 q2 => ?_⟩
  refine sh _ _ _ ⟨F2, ρ, μ2, _, R.ext (e1.trans e2) o2, q2, fun u F3 μ3 H3 e3 o3 q3 => ?_⟩
  have w3 := (w1.ext e2).ext e3
  have k3 : ∀ z F' μ' H' dz, Ext F3 μ3 H3 F' μ' H' → Ok X.K X.mg F' μ' H' → Dt X.K X.mg F' z dz → Qd dz μ' → Q z H' := fun z F' μ' H' dz e o w q => k z F' μ' H' dz (e1.trans (e2.trans (e3.trans e))) o w q
  cases dv <;> first | exact q3.elim | skip
  · obtain ⟨h1, h2⟩ := q3
    refine .inl (.inl ⟨_, w3.str, by rw [S_len, sizeLine_eq]; exact h1, ?_⟩)
    rw [cutS_S]
    exact fin0 o3 k3 (.str _) h2
  · have q3' : Qd (.tup (cut _ l u)) μ3 := q3
    obtain ⟨a, vs, rfl, ha, hf, ra⟩ := w3.tup o3
    refine .inl (.inr ⟨a, vs, rfl, ha, fun c => ?_, fun c p ob hp hob => ?_⟩)
    · rw [ra.length] at c
      rw [cut_all c] at q3'
      rcases w3 with w3 | ⟨_, _, _, _, z, _⟩
      · exact fin0 o3 k3 w3 q3'
      · cases z
    · obtain ⟨g1, g2, g3⟩ := newTup o3 (ra.cut l u) hp hob
      exact k3 _ _ _ _ _ g1 g2 g3 q3'
  · have q3' : Qd (.lst (cut _ l u)) μ3 := q3
    obtain ⟨a, vs, rfl, ha, ra⟩ := w3.lst o3
    refine .inr ⟨a, vs, rfl, .inl (.inl ha), fun p hp => ?_⟩
    obtain ⟨g1, g2, g3⟩ := newLst o3 (ra.cut l u) hp
    exact k3 _ _ _ _ _ g1 g2 g3 q3'
  · obtain ⟨a, rfl, ha⟩ := w3.scr o3
    refine .inr ⟨a, _, rfl, ha, fun p hp => ?_⟩
    rw [cutV_cut, cut_map]
    obtain ⟨g1, g2, g3⟩ := newLst o3 (Dts.ofInts (K := X.K) (mg := X.mg) (F := F3) (cut _ l u)) hp
    exact k3 _ _ _ _ _ g1 g2 g3 q3

@[simp] def dNil : TAD := fun _ μ Q => Q [] μ
@[simp] def dCons (a : TED) (t : TAD) : TAD := fun ρ μ Q => a ρ μ fun x μ1 => t ρ μ1 fun xs μ2 => Q (x :: xs) μ2
variable {es : List Expr} {t : TAD}
theorem da_nil : DA X [] dNil := pa_nil.weaken fun σ H Q q => by
  obtain ⟨F, ρ, μ, Qd, R, hd, k⟩ := q
  exact k [] F μ H [] .refl R.ok .nil hd
theorem da_cons (h : DE X e da) (hr : DA X es t) (hs : starEach (e :: es) X.env = (false, eval e X.env) :: starEach es X.env := by rfl) : DA X (e :: es) (dCons da t) := (pa_cons h hr hs).weaken fun σ H Q q => by
  obtain ⟨F, ρ, μ, Qd, R, hd, k⟩ := q
  refine ⟨F, ρ, μ, _, R, hd, fun v F1 μ1 H1 dv e1 o1 w1 q1 => ?_⟩
  exact ⟨F1, ρ, μ1, _, R.ext e1 o1, q1, fun vs F2 μ2 H2 ds e2 o2 w2 q2 => k (v :: vs) F2 μ2 H2 (dv :: ds) (e1.trans e2) o2 (.cons (w1.mono e2.mono) w2) q2⟩
/-- the values only looked at -/
theorem daw_nil : DAW X [] dNil := pa_nil.weaken fun σ H Q q => by
  obtain ⟨F, ρ, μ, Qd, R, hd, k⟩ := q
  exact k [] F μ H [] .refl R.ok .nil hd
theorem Wks.ext {K : PySem.W.Frag} {mg : Str → Option Value} {F F' H H' : Hp} {μ μ' : Sto} (e : Ext F μ H F' μ' H') : ∀ {vs : List V} {ds : List D}, Wks K mg F μ H vs ds → Wks K mg F' μ' H' vs ds
  | _, _, .nil => .nil
  | _, _, .cons h r => .cons (h.ext e) (Wks.ext e r)
theorem daw_cons (h : DW X e da) (hr : DAW X es t) (hs : starEach (e :: es) X.env = (false, eval e X.env) :: starEach es X.env := by rfl) : DAW X (e :: es) (dCons da t) := (pa_cons h hr hs).weaken fun σ H Q q => by
  obtain ⟨F, ρ, μ, Qd, R, hd, k⟩ := q
  refine ⟨F, ρ, μ, _, R, hd, fun v F1 μ1 H1 dv e1 o1 w1 q1 => ?_⟩
  exact ⟨F1, ρ, μ1, _, R.ext e1 o1, q1, fun vs F2 μ2 H2 ds e2 o2 w2 q2 => k (v :: vs) F2 μ2 H2 (dv :: ds) (e1.trans e2) o2 (.cons (w1.ext e2) w2) q2⟩
@[simp] def dTup (t : TAD) : TED := fun ρ μ Q => t ρ μ fun xs μ1 => xs.length ≤ SZ ∧ Q (.tup xs) μ1
@[simp] def dLst (t : TAD) : TED := fun ρ μ Q => t ρ μ fun xs μ1 => xs.length ≤ SZ ∧ Q (.lst xs) μ1
@[simp] def dLstF (t : TAD) : TFD := fun ρ μ Q => t ρ μ fun xs μ1 => xs.length ≤ SZ ∧ Q xs μ1
theorem de_tup {x1} (h : DA X es t) : DE X (.Tuple es x1 pos) (dTup t) := (pe_tupZ h).weaken fun σ H Q q => by
  obtain ⟨F, ρ, μ, Qd, R, hd, k⟩ := q
  refine ⟨F, ρ, μ, _, R, hd, fun vs F1 μ1 H1 ds e1 o1 w1 q1 => ⟨by rw [w1.length, sizeLine_eq]; exact q1.1, fun p ob hp hob => ?_⟩⟩
  obtain ⟨g1, g2, g3⟩ := newTup o1 w1 hp hob
  exact k _ _ _ _ _ (e1.trans g1) g2 g3 q1.2
theorem de_lst (h : DA X es t) : DE X (.List es pos) (dLst t) := (pe_lst h).weaken fun σ H Q q => by
  obtain ⟨F, ρ, μ, Qd, R, hd, k⟩ := q
  refine ⟨F, ρ, μ, _, R, hd, fun vs F1 μ1 H1 ds e1 o1 w1 q1 => ⟨by rw [w1.length, sizeLine_eq]; exact q1.1, fun p hp => ?_⟩⟩
  obtain ⟨g1, g2, g3⟩ := newLst o1 w1 hp
  exact k _ _ _ _ _ (e1.trans g1) g2 g3 q1.2
theorem df_lst (h : DA X es t) : DF X (.List es pos) (dLstF t) := (pe_lst h).weaken fun σ H Q q => by
  obtain ⟨F, ρ, μ, Qd, R, hd, k⟩ := q
  refine ⟨F, ρ, μ, _, R, hd, fun vs F1 μ1 H1 ds e1 o1 w1 q1 => ⟨by rw [w1.length, sizeLine_eq]; exact q1.1, fun p hp => ?_⟩⟩
  obtain ⟨g1, g2⟩ := o1.layN hp (.lst vs)
  obtain ⟨f1, f2⟩ := o1.fresh hp
  have hp0 : H p = none := e1.live p hp
  exact k _ _ _ _ _ _ (e1.trans g2) g1 hp0 f1 f2 upd_same w1 q1.2
end
end DL

namespace DL
open PySem PySem.Spec PyProof.Rows L2
section
variable {K : PySem.W.Frag} {mg : Str → Option Value} {B : Bs} {F F' H H' : Hp} {μ μ' : Sto} {ρ : DEnv} {σ : L2.St}
theorem RelB.step (r : RelB K mg B F ρ μ σ H) (e : Ext F μ H F' μ' H') (o : Ok K mg F' μ' H') : RelB K mg B F' ρ μ' σ H' :=
  ⟨r.rel.ext e o, r.ext.trans e, r.new⟩
theorem RelB.set (r : RelB K mg B F ρ μ σ H) {i : Nat} {v : V} {d : D} (h : Dt K mg F v d) : RelB K mg B F (ρ.set i (some (.val d))) μ (σ.set i (some v)) H := by
  refine ⟨⟨r.rel.ok, by rw [List.length_set, List.length_set]; exact r.rel.len, fun j s e => ?_, fun j l xs ys e1 e2 e3 => ?_⟩, r.ext, fun j xs a e1 e2 => ?_⟩
  · by_cases hj : i = j
    · subst hj
      have hl : i < ρ.length := by
        have := (List.getElem?_eq_some_iff.mp e).1
        rwa [List.length_set] at this
      rw [List.getElem?_set_self hl] at e
      cases e
      exact ⟨v, List.getElem?_set_self (by rw [← r.rel.len]; exact hl), h⟩
    · rw [List.getElem?_set_ne hj] at e
      rw [List.getElem?_set_ne hj]
      exact r.rel.slot j s e
  · have n1 : i ≠ j := fun q => by
      subst q
      rw [List.getElem?_set_self (by have := (List.getElem?_eq_some_iff.mp e1).1; rwa [List.length_set] at this)] at e1
      cases e1
    have n2 : i ≠ l := fun q => by
      subst q
      rw [List.getElem?_set_self (by have := (List.getElem?_eq_some_iff.mp e2).1; rwa [List.length_set] at this)] at e2
      cases e2
    rw [List.getElem?_set_ne n1] at e1 e3
    rw [List.getElem?_set_ne n2] at e2 e3
    exact r.rel.apart j l xs ys e1 e2 e3
  · have n1 : i ≠ j := fun q => by
      subst q
      rw [List.getElem?_set_self (by have := (List.getElem?_eq_some_iff.mp e1).1; rwa [List.length_set] at this)] at e1
      cases e1
    rw [List.getElem?_set_ne n1] at e1 e2
    exact r.new j xs a e1 e2
/-- a slot takes a list that nobody knows -/
theorem RelB.setOwn (r : RelB K mg B F ρ μ σ H) {i : Nat} {p : Addr} {vs : List V} {ds : List D} (hf : F p = none) (hm : μ p = none) (hh : H p = some (.lst vs)) (h : Dts K mg F vs ds) (hb : B.H p = none)
    (hn : ∀ (j : Nat) (xs : List D), i ≠ j → ρ[j]? = some (some (DS.own xs)) → σ[j]? ≠ some (some (.ref p))) : RelB K mg B F (ρ.set i (some (.own ds))) μ (σ.set i (some (.ref p))) H := by
  have len : ∀ {j : Nat} {s : Option DS}, (ρ.set i (some (.own ds)))[j]? = some s → j < ρ.length := fun {j s} e => by
    have := (List.getElem?_eq_some_iff.mp e).1
    rwa [List.length_set] at this
  refine ⟨⟨r.rel.ok, by rw [List.length_set, List.length_set]; exact r.rel.len, fun j s e => ?_, fun j l xs ys e1 e2 e3 => ?_⟩, r.ext, fun j xs a e1 e2 => ?_⟩
  · by_cases hj : i = j
    · subst hj
      have hl := len e
      rw [List.getElem?_set_self hl] at e
      cases e
      exact ⟨_, List.getElem?_set_self (by rw [← r.rel.len]; exact hl), p, vs, rfl, hf, hm, hh, h⟩
    · rw [List.getElem?_set_ne hj] at e
      rw [List.getElem?_set_ne hj]
      exact r.rel.slot j s e
  · by_cases n1 : i = j
    · by_cases n2 : i = l
      · exact n1.symm.trans n2
      · subst n1
        rw [List.getElem?_set_ne n2] at e2 e3
        rw [List.getElem?_set_self (by rw [← r.rel.len]; exact len e1)] at e3
        exact absurd e3.symm (hn l ys n2 e2)
    · by_cases n2 : i = l
      · subst n2
        rw [List.getElem?_set_ne n1] at e1 e3
        rw [List.getElem?_set_self (by rw [← r.rel.len]; exact len e2)] at e3
        exact absurd e3 (hn j xs n1 e1)
      · rw [List.getElem?_set_ne n1] at e1 e3
        rw [List.getElem?_set_ne n2] at e2 e3
        exact r.rel.apart j l xs ys e1 e2 e3
  · by_cases n1 : i = j
    · subst n1
      rw [List.getElem?_set_self (by rw [← r.rel.len]; exact len e1)] at e2
      cases e2
      exact hb
    · rw [List.getElem?_set_ne n1] at e1 e2
      exact r.new j xs a e1 e2
theorem RelB.ownAt (r : RelB K mg B F ρ μ σ H) {i : Nat} {xs : List D} (h : ρ[i]? = some (some (.own xs))) : ∃ p vs, σ[i]? = some (some (.ref p)) ∧ F p = none ∧ μ p = none ∧ H p = some (.lst vs) ∧ Dts K mg F vs xs ∧ B.H p = none := by
  obtain ⟨v, h1, a, vs, rfl, hf, hm, hh, hd⟩ := r.rel.slot i _ h
  exact ⟨a, vs, h1, hf, hm, hh, hd, r.new i xs a h h1⟩
/-- a list of the frame's own is changed -/
theorem RelB.writeOwn (r : RelB K mg B F ρ μ σ H) {i : Nat} {xs ys : List D} {p : Addr} {vs ws : List V} (h : ρ[i]? = some (some (.own xs))) (hs : σ[i]? = some (some (.ref p))) (hf : F p = none) (hm : μ p = none) (hh : H p = some (.lst vs)) (hb : B.H p = none)
    (hd : Dts K mg F ws ys) : RelB K mg B F (ρ.set i (some (.own ys))) μ σ (upd H p (.lst ws)) := by
  have hi : i < ρ.length := (List.getElem?_eq_some_iff.mp h).1
  have other : ∀ (j : Nat) (zs : List D), i ≠ j → ρ[j]? = some (some (DS.own zs)) → σ[j]? ≠ some (some (.ref p)) := fun j zs hj e q => hj (r.rel.apart i j xs zs h e (hs.trans q.symm))
  have ok' := r.rel.ok.writeN hf hm (.lst ws)
  have r' : RelB K mg B F (ρ.set i none) μ σ (upd H p (.lst ws)) := by
    have nn : ∀ {j : Nat} {s : DS}, (ρ.set i none)[j]? = some (some s) → i ≠ j ∧ ρ[j]? = some (some s) := fun {j s} e => by
      by_cases hj : i = j
      · subst hj; rw [List.getElem?_set_self hi] at e; cases e
      · rw [List.getElem?_set_ne hj] at e; exact ⟨hj, e⟩
    refine ⟨⟨ok', by rw [List.length_set]; exact r.rel.len, fun j s e => ?_, fun j l as bs e1 e2 e3 => r.rel.apart j l as bs (nn e1).2 (nn e2).2 e3⟩, ⟨r.ext.mono, fun a o e n => ?_, fun a e => r.ext.live a (upd_live a e)⟩, fun j zs a e1 e2 => r.new j zs a (nn e1).2 e2⟩
    · obtain ⟨hj, e⟩ := nn e
      obtain ⟨v, h1, h2⟩ := r.rel.slot j s e
      refine ⟨v, h1, ?_⟩
      cases s with
      | val d => exact h2
      | own zs =>
        obtain ⟨a, us, rfl, g1, g2, g3, g4⟩ := h2
        have ha : a ≠ p := fun q => other j zs hj e (by rw [h1, q])
        exact ⟨a, us, rfl, g1, g2, by rw [upd_ne ha]; exact g3, g4⟩
    · obtain ⟨g1, g2, g3⟩ := r.ext.keep a o e n
      have ha : a ≠ p := fun q => by subst q; rw [hb] at e; cases e
      exact ⟨by rw [upd_ne ha]; exact g1, g2, g3⟩
  have := r'.setOwn (i := i) (p := p) (ds := ys) hf hm upd_same hd hb (fun j zs hj e => other j zs hj (by rw [List.getElem?_set_ne hj] at e; exact e))
  rw [List.set_set] at this
  have e2 : σ.set i (some (.ref p)) = σ := by
    apply List.ext_getElem?
    intro j
    by_cases hj : i = j
    · subst hj
      rw [List.getElem?_set_self (by rw [← r.rel.len]; exact hi), hs]
    · rw [List.getElem?_set_ne hj]
  rw [e2] at this
  exact this
/-- a list of the frame's own never changes any more -/
theorem RelB.freeze (r : RelB K mg B F ρ μ σ H) {i : Nat} {xs : List D} (h : ρ[i]? = some (some (.own xs))) : ∃ F', FLe F F' ∧ RelB K mg B F' (ρ.set i (some (.val (.lst xs)))) μ σ H ∧ (∃ v, σ[i]? = some (some v) ∧ Dt K mg F' v (.lst xs)) := by
  obtain ⟨p, vs, hs, hf, hm, hh, hd, hb⟩ := r.ownAt h
  have hi : i < ρ.length := (List.getElem?_eq_some_iff.mp h).1
  have ok' := r.rel.ok.freeze hf hm hh
  have mono : ∀ a x, F a = some x → upd F p (.lst vs) a = some x := fun a x e => by rw [upd_ne (ne_of_none e hf)]; exact e
  have dl : Dt K mg (upd F p (.lst vs)) (.ref p) (.lst xs) := .lst upd_same (hd.mono mono)
  refine ⟨upd F p (.lst vs), mono, ?_, _, hs, dl⟩
  have nn : ∀ {j : Nat} {s : DS}, (ρ.set i (some (.val (.lst xs))))[j]? = some (some s) → (i = j ∧ s = .val (.lst xs)) ∨ (i ≠ j ∧ ρ[j]? = some (some s)) := fun {j s} e => by
    by_cases hj : i = j
    · subst hj; rw [List.getElem?_set_self hi] at e; cases e; exact .inl ⟨rfl, rfl⟩
    · rw [List.getElem?_set_ne hj] at e; exact .inr ⟨hj, e⟩
  refine ⟨⟨ok', by rw [List.length_set]; exact r.rel.len, fun j s e => ?_, fun j l as bs e1 e2 e3 => ?_⟩, ⟨fun a x e => mono a x (r.ext.mono a x e), fun a x e n => ?_, r.ext.live⟩, fun j zs a e1 e2 => ?_⟩
  · rcases nn e with ⟨rfl, rfl⟩ | ⟨hj, e⟩
    · exact ⟨_, hs, dl⟩
    · obtain ⟨v, h1, h2⟩ := r.rel.slot j s e
      refine ⟨v, h1, ?_⟩
      cases s with
      | val d => exact Dt.mono mono h2
      | own zs =>
        obtain ⟨a, us, rfl, g1, g2, g3, g4⟩ := h2
        have ha : a ≠ p := fun q => hj (r.rel.apart i j xs zs h e (by rw [hs, h1, q]))
        exact ⟨a, us, rfl, by rw [upd_ne ha]; exact g1, g2, g3, g4.mono mono⟩
  · rcases nn e1 with ⟨_, q⟩ | ⟨_, e1⟩
    · cases q
    · rcases nn e2 with ⟨_, q⟩ | ⟨_, e2⟩
      · cases q
      · exact r.rel.apart j l as bs e1 e2 e3
  · obtain ⟨g1, g2, g3⟩ := r.ext.keep a x e n
    have ha : a ≠ p := fun q => by subst q; rw [hb] at e; cases e
    exact ⟨g1, by rw [upd_ne ha]; exact g2, g3⟩
  · rcases nn e1 with ⟨_, q⟩ | ⟨_, e1⟩
    · cases q
    · exact r.new j zs a e1 e2
end

section
variable {X : Cx} {B : Bs} {st : Stmt} {rest : List Stmt} {t u : TSD} {e : Expr} {d : TED} {pos : Pos}
@[simp] def dNext : TSD := fun D ρ μ => D.nx ρ μ
@[simp] def dSeq (t u : TSD) : TSD := fun D ρ μ => t { D with nx := u D } ρ μ
theorem ds_nil : DSs X B [] dNext := pss_nil.weaken fun D σ H h => by
  obtain ⟨F, ρ, μ, Dd, R, hd, kn, _⟩ := h
  exact kn F ρ μ σ H .rfl' R hd
theorem ds_cons (h1 : DSt X B st t) (h2 : DSs X B rest u) : DSs X B (st :: rest) (dSeq t u) := (pss_cons h1 h2).weaken fun D σ H h => by
  obtain ⟨F, ρ, μ, Dd, R, hd, kn, kb, kc, kr⟩ := h
  exact ⟨F, ρ, μ, { Dd with nx := u Dd }, R, hd, fun F' ρ' μ' σ' H' hF R' q => ⟨F', ρ', μ', Dd, R', q, fun F2 ρ2 μ2 σ2 H2 h2 => kn F2 ρ2 μ2 σ2 H2 (hF.trans h2), fun F2 ρ2 μ2 σ2 H2 h2 => kb F2 ρ2 μ2 σ2 H2 (hF.trans h2), fun F2 ρ2 μ2 σ2 H2 h2 => kc F2 ρ2 μ2 σ2 H2 (hF.trans h2), kr⟩, kb, kc, kr⟩
theorem ds_last (h1 : DSt X B st t) : DSs X B [st] t := pss_one h1
@[simp] def dBreak : TSD := fun D ρ μ => D.bk ρ μ
@[simp] def dCont : TSD := fun D ρ μ => D.ct ρ μ
theorem ds_break : DSt X B (.Break pos) dBreak := ps_break.weaken fun D σ H h => by
  obtain ⟨F, ρ, μ, Dd, R, hd, kn, kb, _⟩ := h
  exact kb F ρ μ σ H .rfl' R hd
/-- ghost: a list of the frame's own never changes any more -/
@[simp] def dFreeze (i : Nat) (t : TSD) : TSD := fun D ρ μ => ∃ xs, ρ[i]? = some (some (.own xs)) ∧ t D (ρ.set i (some (.val (.lst xs)))) μ
@[simp] def dDrop (d : TED) : TSD := fun D ρ μ => d ρ μ fun _ μ1 => D.nx ρ μ1
@[simp] def dRet (d : TED) : TSD := fun D ρ μ => d ρ μ D.rt
theorem ds_ret (he : DE X e d) : DSt X B (.Return (some e) pos) (dRet d) := (ps_ret he).weaken fun D σ H h => by
  obtain ⟨F, ρ, μ, Dd, R, hd, kn, kb, kc, kr⟩ := h
  exact ⟨F, ρ, μ, _, R.rel, hd, fun v F' μ' H' dv e o w q => kr v F' μ' H' dv (R.ext.trans e) o w q⟩
/-- return x, x perhaps a list of the frame's own -/
theorem ds_retName {i : Nat} {x : Str} {p : Pos} (h : PE X (.Name x p) (tVar i)) : DSt X B (.Return (some (.Name x p)) pos) (dRet (dLook i)) := (ps_ret h).weaken fun D σ H h => by
  obtain ⟨F, ρ, μ, Dd, R, hd, kn, kb, kc, kr⟩ := h
  have hd' : dLook i ρ μ Dd.rt := hd
  cases e : ρ[i]? with
  | none => simp [dLook, e] at hd'
  | some o =>
    cases o with
    | none => simp [dLook, e] at hd'
    | some s =>
      cases s with
      | val d =>
        obtain ⟨v, h1, h2⟩ := R.rel.slot i _ e
        exact ⟨v, h1, kr v F μ H d R.ext R.rel.ok h2 (by simpa [dLook, e] using hd')⟩
      | own xs =>
        obtain ⟨F', _, R', v, h1, h2⟩ := R.freeze e
        exact ⟨v, h1, kr v F' μ H _ R'.ext R'.rel.ok h2 (by simpa [dLook, e] using hd')⟩
@[simp] def dIfS (c : TTD) (t u : TSD) : TSD := fun D ρ μ => c ρ μ fun b μ1 => if b = true then t D ρ μ1 else u D ρ μ1
theorem ds_if {c : Expr} {a b : List Stmt} {tc : TTD} (hc : DT X c tc) (ha : DSs X B a t) (hb : DSs X B b u) : DSt X B (.If c a b pos) (dIfS tc t u) := (ps_if hc ha hb).weaken fun D σ H h => by
  obtain ⟨F, ρ, μ, Dd, R, hd, kn, kb, kc, kr⟩ := h
  refine ⟨F, ρ, μ, _, R.rel, hd, fun b F' μ' H' e o q => ?_⟩
  cases b with
  | true => exact ⟨F', ρ, μ', Dd, R.step e o, q, fun F2 ρ2 μ2 σ2 H2 h2 => kn F2 ρ2 μ2 σ2 H2 (FLe.trans e.mono h2), fun F2 ρ2 μ2 σ2 H2 h2 => kb F2 ρ2 μ2 σ2 H2 (FLe.trans e.mono h2), fun F2 ρ2 μ2 σ2 H2 h2 => kc F2 ρ2 μ2 σ2 H2 (FLe.trans e.mono h2), kr⟩
  | false => exact ⟨F', ρ, μ', Dd, R.step e o, q, fun F2 ρ2 μ2 σ2 H2 h2 => kn F2 ρ2 μ2 σ2 H2 (FLe.trans e.mono h2), fun F2 ρ2 μ2 σ2 H2 h2 => kb F2 ρ2 μ2 σ2 H2 (FLe.trans e.mono h2), fun F2 ρ2 μ2 σ2 H2 h2 => kc F2 ρ2 μ2 σ2 H2 (FLe.trans e.mono h2), kr⟩

abbrev TGD := D → DEnv → (DEnv → Prop) → Prop
abbrev TGDs := List D → DEnv → (DEnv → Prop) → Prop
/-- ns: the slots that it may store to -/
def liftG (K : PySem.W.Frag) (mg : Str → Option Value) (B : Bs) (ns : List Nat) (g : TGD) : TG := fun v σ H Q => ∃ F ρ μ dv Qd, RelB K mg B F ρ μ σ H ∧ Dt K mg F v dv ∧ g dv ρ Qd ∧
  ∀ ρ' σ', RelB K mg B F ρ' μ σ' H → σ'.length = σ.length → (∀ j, j ∉ ns → σ'[j]? = σ[j]?) → Qd ρ' → Q σ' H
def liftGs (K : PySem.W.Frag) (mg : Str → Option Value) (B : Bs) (ns : List Nat) (g : TGDs) : TGs := fun vs σ H Q => ∃ F ρ μ ds Qd, RelB K mg B F ρ μ σ H ∧ Dts K mg F vs ds ∧ g ds ρ Qd ∧
  ∀ ρ' σ', RelB K mg B F ρ' μ σ' H → σ'.length = σ.length → (∀ j, j ∉ ns → σ'[j]? = σ[j]?) → Qd ρ' → Q σ' H
abbrev DG (X : Cx) (B : Bs) (tg : Expr) (ns : List Nat) (g : TGD) : Prop := PG X tg (liftG X.K X.mg B ns g)
abbrev DGs (X : Cx) (B : Bs) (ts : List Expr) (ns : List Nat) (g : TGDs) : Prop := PGs X ts (liftGs X.K X.mg B ns g)
theorem _root_.L2.PG.weaken {X : Cx} {e : Expr} {t t' : TG} (h : PG X e t) (w : ∀ v σ H Q, t' v σ H Q → t v σ H Q) : PG X e t' := ⟨fun pins s σ H v u Q I r q => h.run pins s σ H v u Q I r (w v σ H Q q)⟩
theorem _root_.L2.PGs.weaken {X : Cx} {e : List Expr} {t t' : TGs} (h : PGs X e t) (w : ∀ v σ H Q, t' v σ H Q → t v σ H Q) : PGs X e t' := ⟨fun pins s σ H v u Q I r q => h.run pins s σ H v u Q I r (w v σ H Q q)⟩
@[simp] def dName (i : Nat) : TGD := fun d ρ Q => Q (ρ.set i (some (.val d)))
theorem dg_name {i : Nat} {x : Str} (h : PG X (.Name x pos) (gName i)) : DG X B (.Name x pos) [i] (dName i) := h.weaken fun v σ H Q q => by
  obtain ⟨F, ρ, μ, dv, Qd, R, w, hd, k⟩ := q
  exact k _ _ (R.set w) (by rw [List.length_set]) (fun j hj => List.getElem?_set_ne fun z => hj (by simp [z])) hd
@[simp] def gdNil : TGDs
  | [], ρ, Q => Q ρ
  | _ :: _, _, _ => False
@[simp] def gdCons (g : TGD) (gs : TGDs) : TGDs
  | d :: r, ρ, Q => g d ρ fun ρ1 => gs r ρ1 Q
  | [], _, _ => False
theorem dgs_nil : DGs X B [] [] gdNil := pgs_nil.weaken fun vs σ H Q q => by
  obtain ⟨F, ρ, μ, ds, Qd, R, w, hd, k⟩ := q
  cases w with
  | nil => exact ⟨rfl, k ρ σ R rfl (fun _ _ => rfl) hd⟩
  | cons => exact hd.elim
theorem dgs_cons {es : List Expr} {n1 n2 : List Nat} {g : TGD} {gs : TGDs} (h1 : DG X B e n1 g) (h2 : DGs X B es n2 gs) (hs : (assignEach (e :: es) X.env).map (·.2) = assign e X.env :: (assignEach es X.env).map (·.2) := by rfl) :
    DGs X B (e :: es) (n1 ++ n2) (gdCons g gs) := (pgs_cons h1 h2 hs).weaken fun vs σ H Q q => by
  obtain ⟨F, ρ, μ, ds, Qd, R, w, hd, k⟩ := q
  cases w with
  | nil => exact hd.elim
  | cons wv ws =>
    refine ⟨_, _, rfl, F, ρ, μ, _, _, R, wv, hd, fun ρ1 σ1 R1 l1 f1 q1 => ?_⟩
    exact ⟨F, ρ1, μ, _, Qd, R1, ws, q1, fun ρ2 σ2 R2 l2 f2 q2 => k ρ2 σ2 R2 (l2.trans l1) (fun j hj => by
      rw [List.mem_append, not_or] at hj
      rw [f2 j hj.2, f1 j hj.1]) q2⟩
/-- (a, b, ..) = a tuple, a list of that length -/
@[simp] def dUnp (n : Nat) (gs : TGDs) : TGD
  | .tup ds, ρ, Q => ds.length = n ∧ gs ds ρ Q
  | .pr a b, ρ, Q => n = 2 ∧ gs [a, b] ρ Q
  | _, _, _ => False
@[simp] def dUnl (n : Nat) (gs : TGDs) : TGD
  | .lst ds, ρ, Q => ds.length = n ∧ gs ds ρ Q
  | _, _, _ => False
theorem dg_tup {es : List Expr} {k : Nat} {ns : List Nat} {gs : TGDs} {n : Nat} (hc : X.calm = true) (h : DGs X B es ns gs)
    (hn : (assignEach es X.env).length = n := by rfl) (hst : (assignEach es X.env).findIdx? (·.1) = none := by rfl) : DG X B (.Tuple es k pos) ns (dUnp n gs) := (pg_tup hc h hn hst).weaken fun v σ H Q q => by
  obtain ⟨F, ρ, μ, dv, Qd, R, w, hd, k⟩ := q
  cases dv <;> first | exact hd.elim | skip
  · obtain ⟨h1, h2⟩ := hd
    obtain ⟨a, vs, rfl, ha, hf, ra⟩ := Wk.tup R.rel.ok (μ := μ) (.inl w)
    exact ⟨a, vs, rfl, ha, ra.length.trans h1, F, ρ, μ, _, Qd, R, ra, h2, k⟩
  · obtain ⟨h1, h2⟩ := hd
    cases w with
    | pr hf r r2 => exact ⟨_, _, rfl, .inl (.inl (R.rel.ok.sub _ _ hf)), h1.symm, F, ρ, μ, _, Qd, R, .cons r (.cons r2 .nil), h2, k⟩
theorem dg_unl {es : List Expr} {k : Nat} {ns : List Nat} {gs : TGDs} {n : Nat} (hc : X.calm = true) (h : DGs X B es ns gs)
    (hn : (assignEach es X.env).length = n := by rfl) (hst : (assignEach es X.env).findIdx? (·.1) = none := by rfl) : DG X B (.Tuple es k pos) ns (dUnl n gs) := (pg_unl hc h hn hst).weaken fun v σ H Q q => by
  obtain ⟨F, ρ, μ, dv, Qd, R, w, hd, k⟩ := q
  cases dv <;> first | exact hd.elim | skip
  obtain ⟨h1, h2⟩ := hd
  obtain ⟨a, vs, rfl, ha, ra⟩ := Wk.lst R.rel.ok (μ := μ) (.inl w)
  exact ⟨a, vs, rfl, .inl (.inl ha), ra.length.trans h1, F, ρ, μ, _, Qd, R, ra, h2, k⟩

@[simp] def dAsg (d : TED) (g : TGD) : TSD := fun D ρ μ => d ρ μ fun x μ1 => g x ρ fun ρ1 => D.nx ρ1 μ1
theorem ds_asg {tg : Expr} {ns : List Nat} {g : TGD} (he : DE X e d) (hg : DG X B tg ns g) (hs : swapsWithSole [tg] e pos.line X.env = pure false := by rfl) (hw : swappedStores [tg] e X.env = pure none := by rfl)
    (h1 : (assignEach [tg] X.env).map (·.2) = [assign tg X.env] := by rfl) : DSt X B (.Assign [tg] e pos) (dAsg d g) := (ps_asg he hg hs hw h1).weaken fun D σ H h => by
  obtain ⟨F, ρ, μ, Dd, R, hd, kn, kb, kc, kr⟩ := h
  refine ⟨F, ρ, μ, _, R.rel, hd, fun v F' μ' H' dv e o w q => ?_⟩
  exact ⟨F', ρ, μ', dv, _, R.step e o, w, q, fun ρ1 σ1 R1 _ _ q1 => kn F' ρ1 μ' σ1 H' e.mono R1 q1⟩
@[simp] def dSet (i : Nat) (d : TED) : TSD := fun D ρ μ => d ρ μ fun x μ1 => D.nx (ρ.set i (some (.val x))) μ1
/-- x = a new list, x's own -/
@[simp] def dSetF (i : Nat) (d : TFD) : TSD := fun D ρ μ => d ρ μ fun xs μ1 => D.nx (ρ.set i (some (.own xs))) μ1
/-- x op= e -/
@[simp] def dAug (i : Nat) (r : RD2) (d : TED) : TSD := fun D ρ μ => ∃ x, ρ[i]? = some (some (.val x)) ∧ d ρ μ fun y μ1 => r x y μ1 fun z μ2 => D.nx (ρ.set i (some (.val z))) μ2
@[simp] def dApp (i : Nat) (d : TED) : TSD := fun E ρ μ => ∃ xs, ρ[i]? = some (some (.own xs)) ∧ d ρ μ fun y μ1 => xs.length < SZ ∧ E.nx (ρ.set i (some (.own (xs ++ [y])))) μ1
/-- x.extend(e) -/
@[simp] def dExt (i : Nat) (d : TED) : TSD := fun E ρ μ => ∃ xs, ρ[i]? = some (some (.own xs)) ∧ d ρ μ fun y μ1 => ∃ ys, y = .lst ys ∧ xs.length + ys.length ≤ SZ ∧ E.nx (ρ.set i (some (.own (xs ++ ys)))) μ1
/-- what a loop walks: the items, and what must stay true of what may change -/
abbrev TSrc := DEnv → Sto → (List D → (Sto → Prop) → Sto → Prop) → Prop
abbrev still : Sto → Prop := fun _ => True
/-- the iterator J yields the items -/
def ItD (K : PySem.W.Frag) (mg : Str → Option Value) (F : Hp) (J : It) (items : List D) (inv : Sto → Prop) : Prop :=
  ∀ (F1 : Hp) (μ1 : Sto) (H1 : Hp), (∀ a o, F a = some o → F1 a = some o) → Ok K mg F1 μ1 H1 → inv μ1 → ∀ i : Nat,
    (i < items.length → J.go i H1 ∧ ∀ x H2, J.yld i H1 x H2 → ∃ F2 d, Ext F1 μ1 H1 F2 μ1 H2 ∧ Ok K mg F2 μ1 H2 ∧ items[i]? = some d ∧ Dt K mg F2 x d) ∧
    (i = items.length → J.stop i H1)
def liftI (K : PySem.W.Frag) (mg : Str → Option Value) (d : TSrc) : TI := fun σ H R => ∃ F ρ μ Qd, Rel K mg F ρ μ σ H ∧ d ρ μ Qd ∧ ∀ J F' μ' H' items inv, Ext F μ H F' μ' H' → Ok K mg F' μ' H' → ItD K mg F' J items inv → Qd items inv μ' → R J H'
abbrev DI (X : Cx) (tg e : Expr) (d : TSrc) : Prop := PI X tg e (liftI X.K X.mg d)
theorem _root_.L2.PI.weaken {X : Cx} {tg e : Expr} {t t' : TI} (h : PI X tg e t) (w : ∀ σ H Q, t' σ H Q → t σ H Q) : PI X tg e t' := ⟨fun pins s σ H Q I q => h.run pins s σ H Q I (w σ H Q q)⟩
@[simp] def forD (g : TGD) (body : TSD) (E : DEnds) (inv : Sto → Prop) : List D → DEnv → Sto → Prop
  | [], ρ, μ => inv μ ∧ E.nx ρ μ
  | x :: xs, ρ, μ => inv μ ∧ g x ρ fun ρ1 => body { E with nx := forD g body E inv xs, ct := forD g body E inv xs, bk := E.nx } ρ1 μ
@[simp] def dFor (src : TSrc) (g : TGD) (body : TSD) : TSD := fun E ρ μ => src ρ μ fun items inv μ1 => forD g body E inv items ρ μ1
theorem ds_for {tg iter : Expr} {body : List Stmt} {src : TSrc} {ns : List Nat} {g : TGD} {tb : TSD} (hp : PassesOwn (model X.prog X.w) X.A X.env X.xe) (hc : X.calm = true) (hi : DI X tg iter src) (hg : DG X B tg ns g) (hb : DSs X B body tb)
    (hs : ∀ x, foldedSetIterable iter X.env x = pure x := by intro _; rfl) : DSt X B (.For tg iter body [] pos) (dFor src g tb) := (ps_for hp hc hi hg hb hs).weaken fun D σ H h => by
  obtain ⟨F, ρ, μ, Dd, R, hd, kn, kb, kc, kr⟩ := h
  refine ⟨F, ρ, μ, _, R.rel, hd, fun J F0 μ0 H0 items inv e0 o0 it q0 => ?_⟩
  refine ⟨fun i m σ1 H1 => ∃ F1 ρ1 μ1, m = items.length - i ∧ i ≤ items.length ∧ (∀ a o, F0 a = some o → F1 a = some o) ∧ RelB X.K X.mg B F1 ρ1 μ1 σ1 H1 ∧ forD g tb Dd inv (items.drop i) ρ1 μ1,
    ⟨items.length, F0, ρ, μ0, by simp, Nat.zero_le _, fun _ _ z => z, R.step e0 o0, by simpa using q0⟩, ?_⟩
  rintro i m σ1 H1 ⟨F1, ρ1, μ1, rfl, hi, hF, R1, q1⟩
  have hinv : inv μ1 := by
    cases hz : items.drop i with
    | nil => rw [hz] at q1; exact q1.1
    | cons x xs => rw [hz] at q1; exact q1.1
  obtain ⟨hgo, hstop⟩ := it F1 μ1 H1 hF R1.rel.ok hinv i
  by_cases hlt : i < items.length
  · obtain ⟨g1, g2⟩ := hgo hlt
    refine .inr ⟨g1, fun σ' H' => ∃ F' ρ' μ', (∀ a o, F0 a = some o → F' a = some o) ∧ RelB X.K X.mg B F' ρ' μ' σ' H' ∧ forD g tb Dd inv (items.drop (i + 1)) ρ' μ', fun σ' H' ⟨F', ρ', μ', a1, a2, a3⟩ => ⟨items.length - (i + 1), by omega, F', ρ', μ', rfl, hlt, a1, a2, a3⟩, fun x H2 hy => ?_⟩
    obtain ⟨F2, d, e2, o2, hx, wx⟩ := g2 x H2 hy
    have hdrop : items.drop i = d :: items.drop (i + 1) := by
      have hd := List.drop_eq_getElem_cons hlt
      rw [List.getElem?_eq_getElem hlt] at hx
      cases hx
      exact hd
    rw [hdrop] at q1
    refine ⟨F2, ρ1, μ1, d, _, R1.step e2 o2, wx, q1.2, fun ρ3 σ3 R3 _ _ q3 => ?_⟩
    have hF2 : FLe F0 F2 := fun a o z => e2.mono a o (hF a o z)
    have hF2' : FLe F F2 := fun a o z => hF2 a o (e0.mono a o z)
    exact ⟨F2, ρ3, μ1, _, R3, q3, fun F4 ρ4 μ4 σ4 H4 h4 R4 q4 => ⟨F4, ρ4, μ4, hF2.trans h4, R4, q4⟩, fun F4 ρ4 μ4 σ4 H4 h4 R4 q4 => kn F4 ρ4 μ4 σ4 H4 (hF2'.trans h4) R4 q4, fun F4 ρ4 μ4 σ4 H4 h4 R4 q4 => ⟨F4, ρ4, μ4, hF2.trans h4, R4, q4⟩, kr⟩
  · have : i = items.length := by omega
    subst this
    refine .inl ⟨hstop rfl, ?_⟩
    rw [List.drop_length] at q1
    exact kn F1 ρ1 μ1 σ1 H1 (fun a o z => hF a o (e0.mono a o z)) R1 q1.2
end
end DL

namespace DL
open PySem PySem.Spec PyProof.Rows L2
section
variable {K : PySem.W.Frag} {mg : Str → Option Value} {F : Hp}
theorem itd_list {a : Addr} {vs : List V} {ds : List D} (h : F a = some (.lst vs)) (r : Dts K mg F vs ds) : ItD K mg F (Itl K a) ds still := by
  intro F1 μ1 H1 hF o1 _ i
  have ha : SqL K H1 a vs := .inl (.inl (o1.sub _ _ (hF _ _ h)))
  refine ⟨fun hi => ⟨⟨vs, vs[i]'(by rw [r.length]; exact hi), ha, List.getElem?_eq_getElem _⟩, fun x H2 hy => ?_⟩, fun e => ⟨vs, ha, by rw [r.length, e]; exact Nat.le_refl _⟩⟩
  obtain ⟨rfl, hx⟩ := hy
  obtain ⟨d, hd, w⟩ := r.getV (hx vs ha)
  exact ⟨F1, d, .refl, o1, hd, w.mono hF⟩
/-- a list that changes, as long as it does not -/
theorem itd_ref (a : Addr) (ds : List D) : ItD K mg F (Itl K a) ds (fun μ => μ a = some (.lst ds)) := by
  intro F1 μ1 H1 hF o1 hi i
  obtain ⟨vs, h, r⟩ := o1.sto _ _ hi
  have ha : SqL K H1 a vs := .inl (.inl h)
  refine ⟨fun hi => ⟨⟨vs, vs[i]'(by rw [r.length]; exact hi), ha, List.getElem?_eq_getElem _⟩, fun x H2 hy => ?_⟩, fun e => ⟨vs, ha, by rw [r.length, e]; exact Nat.le_refl _⟩⟩
  obtain ⟨rfl, hx⟩ := hy
  obtain ⟨d, hd, w⟩ := r.getV (hx vs ha)
  exact ⟨F1, d, .refl, o1, hd, w⟩
theorem itd_scr {a : Addr} {ns : List Int} (h : SqL K F a (ns.map V.int)) : ItD K mg F (Itl K a) (ns.map D.int) still := by
  intro F1 μ1 H1 hF o1 _ i
  have ha : SqL K H1 a (ns.map V.int) := SqL.mono' (fun b u z => o1.sub _ _ (hF _ _ z)) h
  refine ⟨fun hi => ⟨⟨_, (ns.map V.int)[i]'(by simpa using hi), ha, List.getElem?_eq_getElem _⟩, fun x H2 hy => ?_⟩, fun e => ⟨_, ha, by simp [e]⟩⟩
  obtain ⟨rfl, hx⟩ := hy
  obtain ⟨d, hd, w⟩ := (Dts.ofInts (K := K) (mg := mg) (F := F1) ns).getV (hx _ ha)
  exact ⟨F1, d, .refl, o1, hd, w⟩
theorem itd_tup {a : Addr} {vs : List V} {ds : List D} (h : SqT K F a vs) (r : Dts K mg F vs ds) : ItD K mg F (Itt K a) ds still := by
  intro F1 μ1 H1 hF o1 _ i
  have ha : SqT K H1 a vs := SqT.mono' (fun b u z => o1.sub _ _ (hF _ _ z)) h
  refine ⟨fun hi => ⟨⟨vs, vs[i]'(by rw [r.length]; exact hi), ha, List.getElem?_eq_getElem _⟩, fun x H2 hy => ?_⟩, fun e => ⟨vs, ha, by rw [r.length, e]; exact Nat.le_refl _⟩⟩
  obtain ⟨rfl, hx⟩ := hy
  obtain ⟨d, hd, w⟩ := r.getV (hx vs ha)
  exact ⟨F1, d, .refl, o1, hd, w.mono hF⟩
def rngD (lo : Int) (n : Nat) : List D := (List.range n).map fun i => .int (lo + (i : Nat))
theorem itd_rng (lo : Int) (n : Nat) : ItD K mg F (Itr lo n) (rngD lo n) still := by
  intro F1 μ1 H1 hF o1 _ i
  unfold rngD
  refine ⟨fun hi => ⟨by show i < n; simpa using hi, fun x H2 hy => ?_⟩, fun e => by
    have e' : i = n := by simpa using e
    exact Nat.le_of_eq e'.symm⟩
  obtain ⟨rfl, rfl⟩ := hy
  have hi' : i < n := by simpa using hi
  refine ⟨F1, .int (lo + i), .refl, o1, ?_, .int _⟩
  rw [List.getElem?_map, List.getElem?_range hi']
  rfl
def strD (s : List Nat) : List D := s.map fun c => .str [c]
theorem itd_str (s : List Nat) : ItD K mg F (Its (S s)) (strD s) still := by
  intro F1 μ1 H1 hF o1 _ i
  have hs : (S s).cps.size = s.length := S_len s
  unfold strD
  refine ⟨fun hi => ⟨?_, fun x H2 hy => ?_⟩, fun e => ?_⟩
  · show i < (S s).cps.size
    rw [hs]; simpa using hi
  · obtain ⟨rfl, c, hc, rfl⟩ := hy
    refine ⟨F1, .str [c], .refl, o1, ?_, .str [c]⟩
    have hc' : s[i]? = some c := by simpa using hc
    rw [List.getElem?_map, hc']
    rfl
  · show (S s).cps.size ≤ i
    rw [hs]; simp at e; omega
end
section
variable {X : Cx} {tg : Expr} {e : Expr} {es : List Expr} {d : TED} {t : TAD} {p pos : Pos}
/-- the items of a list, a tuple, a text, the script -/
@[simp] def dEach (d : TED) : TSrc := fun ρ μ Q => d ρ μ fun x μ1 => match x with
  | .lst xs => Q xs still μ1
  | .tup xs => Q xs still μ1
  | .str s => Q (strD s) still μ1
  | .scr ns => Q (ns.map D.int) still μ1
  | .ref a => ∃ xs, μ1 a = some (.lst xs) ∧ Q xs (fun μ => μ a = some (.lst xs)) μ1
  | _ => False
def iAny (K : PySem.W.Frag) (te : TE) : TI := fun σ H R => te σ H fun x H1 => (∃ a, x = .ref a ∧ (∃ xs, SqL K H1 a xs) ∧ R (Itl K a) H1) ∨ (∃ a, x = .ref a ∧ (∃ xs, SqT K H1 a xs) ∧ R (Itt K a) H1) ∨ (∃ z, x = .str z ∧ R (Its z) H1)
theorem pi_any {l : Expr} {tl : TE} (hl : PE X l tl) : PI X tg l (iAny X.K tl) := by
  refine ⟨fun pins s σ H R I h => ?_⟩
  refine thn (hl.run pins s σ H _ I h) fun v s1 ⟨x, H1, I1, r1, q1⟩ => ?_
  rcases q1 with ⟨a, rfl, ⟨xs, hq⟩, q⟩ | ⟨a, rfl, ⟨xs, hq⟩, q⟩ | ⟨z, rfl, q⟩
  · cases r1
    obtain ⟨its, _, pl, _⟩ := I1.list hq
    exact wpAny_pyIter_list pl.isList (pi_one (tk := s1.toks) I1 _ (turn_list a _) ⟨_, Heap.get?_push_size _ rfl, rfl, rfl⟩ q)
  · cases r1
    obtain ⟨its, _, tp, _⟩ := I1.tuple hq
    exact wpAny_pyIter_tuple tp (pi_one (tk := s1.toks) I1 _ (turn_tuple a _) ⟨_, Heap.get?_push_size _ rfl, rfl, rfl⟩ q)
  · obtain ⟨t, rfl⟩ := r1
    cases ha : z.cps.all (· < 128)
    · exact wpAny_pyIter_wide ha (pi_one (tk := s1.toks) I1 _ (turn_str _ z t "str_iterator" (.inr rfl)) ⟨_, Heap.get?_push_size _ rfl, rfl, rfl⟩ q)
    · exact wpAny_pyIter_ascii ha (pi_one (tk := s1.toks) I1 _ (turn_str _ z t "str_ascii_iterator" (.inl rfl)) ⟨_, Heap.get?_push_size _ rfl, rfl, rfl⟩ q)
theorem di_each (h : DE X e d) : DI X tg e (dEach d) := (pi_any h).weaken fun σ H R q => by
  obtain ⟨F, ρ, μ, Qd, Rl, hd, k⟩ := q
  refine ⟨F, ρ, μ, _, Rl, hd, fun v F' μ' H' dv e o w q => ?_⟩
  cases dv <;> first | exact q.elim | skip
  · cases w
    exact .inr (.inr ⟨_, rfl, k _ F' μ' H' _ _ e o (itd_str _) q⟩)
  · cases w with
    | tup h r => exact .inr (.inl ⟨_, rfl, ⟨_, SqT.sub o h.sq⟩, k _ F' μ' H' _ _ e o (itd_tup h.sq r) q⟩)
  · cases w with
    | lst h r => exact .inl ⟨_, rfl, ⟨_, .inl (.inl (o.sub _ _ h))⟩, k _ F' μ' H' _ _ e o (itd_list h r) q⟩
  · cases w with
    | scr h => exact .inl ⟨_, rfl, ⟨_, SqL.mono' o.sub h⟩, k _ F' μ' H' _ _ e o (itd_scr h) q⟩
  · cases w
    obtain ⟨xs, hx, q⟩ := q
    obtain ⟨vs, ha, r⟩ := o.sto _ _ hx
    exact .inl ⟨_, rfl, ⟨_, .inl (.inl ha)⟩, k _ F' μ' H' _ _ e o (itd_ref _ _) q⟩
def rngOk (i : Int) : Prop := -4611686018427387904 ≤ i ∧ i < 4611686018427387904
@[simp] def dRng1 (t : TAD) : TSrc := fun ρ μ Q => t ρ μ fun xs μ1 => match xs with
  | [.int j] => rngOk j ∧ Q (rngD 0 j.toNat) still μ1
  | _ => False
@[simp] def dRng2 (t : TAD) : TSrc := fun ρ μ Q => t ρ μ fun xs μ1 => match xs with
  | [.int i, .int j] => rngOk i ∧ rngOk j ∧ Q (rngD i (j - i).toNat) still μ1
  | _ => False
theorem di_rng1 (hg : Gl X "range") (hm : X.mg "range" = none) (h : DA X [e] t) (hs : starEach [e] X.env = [(false, eval e X.env)] := by rfl) : DI X tg (.Call (.Name "range" p) [e] [] pos) (dRng1 t) := (pi_range1 hg hm h hs).weaken fun σ H R q => by
  obtain ⟨F, ρ, μ, Qd, Rl, hd, k⟩ := q
  refine ⟨F, ρ, μ, _, Rl, hd, fun vs F' μ' H' ds e o w q => ?_⟩
  split at q
  · cases w with
    | cons h r =>
      cases r
      cases h
      exact ⟨_, rfl, q.1.1, q.1.2, k _ F' μ' H' _ _ e o (itd_rng _ _) q.2⟩
  · exact q.elim
theorem di_rng2 {e2 : Expr} (hg : Gl X "range") (hm : X.mg "range" = none) (h : DA X [e, e2] t) (hs : starEach [e, e2] X.env = [(false, eval e X.env), (false, eval e2 X.env)] := by rfl) (hs2 : starEach [e2] X.env = [(false, eval e2 X.env)] := by rfl) :
    DI X tg (.Call (.Name "range" p) [e, e2] [] pos) (dRng2 t) := (pi_range2 hg hm h hs hs2).weaken fun σ H R q => by
  obtain ⟨F, ρ, μ, Qd, Rl, hd, k⟩ := q
  refine ⟨F, ρ, μ, _, Rl, hd, fun vs F' μ' H' ds e o w q => ?_⟩
  split at q
  · cases w with
    | cons h r =>
      cases r with
      | cons h' r =>
        cases r
        cases h
        cases h'
        exact ⟨_, _, rfl, ⟨q.1.1, q.1.2, q.2.1.1, q.2.1.2⟩, k _ F' μ' H' _ _ e o (itd_rng _ _) q.2.2⟩
  · exact q.elim
def enumD (k : Nat) : List D → List D
  | [] => []
  | x :: xs => .pr (.int k) x :: enumD (k + 1) xs
theorem enumD_get (xs : List D) : ∀ (k i : Nat), (enumD k xs)[i]? = xs[i]?.map fun x => .pr (.int ((k + i : Nat) : Int)) x := by
  induction xs with
  | nil => intro k i; simp [enumD]
  | cons x xs ih =>
    intro k i
    cases i with
    | zero => simp [enumD]
    | succ i =>
      rw [enumD, List.getElem?_cons_succ, ih, List.getElem?_cons_succ, show k + 1 + i = k + (i + 1) by omega]
theorem enumD_len (xs : List D) : ∀ k, (enumD k xs).length = xs.length := by
  induction xs with
  | nil => intro k; rfl
  | cons x xs ih => intro k; rw [enumD, List.length_cons, ih, List.length_cons]
/-- enumerate of a list -/
@[simp] def dEnum (t : TAD) : TSrc := fun ρ μ Q => t ρ μ fun xs μ1 => match xs with
  | [.lst ds] => Q (enumD 0 ds) still μ1
  | [.ref a] => ∃ ds, μ1 a = some (.lst ds) ∧ Q (enumD 0 ds) (fun μ => μ a = some (.lst ds)) μ1
  | _ => False
theorem itd_enum {K : PySem.W.Frag} {mg : Str → Option Value} {F : Hp} {a : Addr} {vs : List V} {ds : List D} (h : F a = some (.lst vs)) (r : Dts K mg F vs ds) : ItD K mg F (Ite K a) (enumD 0 ds) still := by
  intro F1 μ1 H1 hF o1 _ i
  have ha : SqL K H1 a vs := .inl (.inl (o1.sub _ _ (hF _ _ h)))
  rw [enumD_len]
  refine ⟨fun hi => ⟨⟨vs, vs[i]'(by rw [r.length]; exact hi), ha, List.getElem?_eq_getElem _⟩, fun x H2 hy => ?_⟩, fun e => ⟨vs, ha, by rw [r.length, e]; exact Nat.le_refl _⟩⟩
  obtain ⟨T, y, rfl, hT, rfl, hx⟩ := hy
  obtain ⟨d, hd, w⟩ := r.getV (hx vs ha)
  obtain ⟨g1, g2, g3⟩ := newPr o1 (v := .int (i : Nat)) (d := .int (i : Nat)) (.int _) (w.mono hF) hT
  refine ⟨_, _, g1, g2, ?_, g3⟩
  rw [enumD_get, hd]
  simp
theorem itd_enumR {K : PySem.W.Frag} {mg : Str → Option Value} {F : Hp} (a : Addr) (ds : List D) : ItD K mg F (Ite K a) (enumD 0 ds) (fun μ => μ a = some (.lst ds)) := by
  intro F1 μ1 H1 hF o1 hi i
  obtain ⟨vs, h, r⟩ := o1.sto _ _ hi
  have ha : SqL K H1 a vs := .inl (.inl h)
  rw [enumD_len]
  refine ⟨fun hi => ⟨⟨vs, vs[i]'(by rw [r.length]; exact hi), ha, List.getElem?_eq_getElem _⟩, fun x H2 hy => ?_⟩, fun e => ⟨vs, ha, by rw [r.length, e]; exact Nat.le_refl _⟩⟩
  obtain ⟨T, y, rfl, hT, rfl, hx⟩ := hy
  obtain ⟨d, hd, w⟩ := r.getV (hx vs ha)
  obtain ⟨g1, g2, g3⟩ := newPr o1 (v := .int (i : Nat)) (d := .int (i : Nat)) (.int _) w hT
  refine ⟨_, _, g1, g2, ?_, g3⟩
  rw [enumD_get, hd]
  simp
theorem di_enum {elts : List Expr} {kk : Nat} {tpos : Pos} (hg : Gl X "enumerate") (hm : X.mg "enumerate" = none) (h : DA X [e] t) (hs : starEach [e] X.env = [(false, eval e X.env)] := by rfl) : DI X (.Tuple elts kk tpos) (.Call (.Name "enumerate" p) [e] [] pos) (dEnum t) := (pi_enum hg hm h hs).weaken fun σ H R q => by
  obtain ⟨F, ρ, μ, Qd, Rl, hd, k⟩ := q
  refine ⟨F, ρ, μ, _, Rl, hd, fun vs F' μ' H' ds e o w q => ?_⟩
  split at q
  · cases w with
    | cons h r =>
      cases r
      cases h with
      | lst h r => exact ⟨_, _, rfl, .inl (.inl (o.sub _ _ h)), k _ F' μ' H' _ _ e o (itd_enum h r) q⟩
  · cases w with
    | cons h r =>
      cases r
      cases h
      obtain ⟨ds, hx, q⟩ := q
      obtain ⟨vs, ha, r⟩ := o.sto _ _ hx
      exact ⟨_, _, rfl, .inl (.inl ha), k _ F' μ' H' _ _ e o (itd_enumR _ _) q⟩
  · exact q.elim

@[simp] def wipeD (ρ : DEnv) : List Nat → DEnv
  | [] => ρ
  | v :: vs => (wipeD ρ vs).set v none
theorem wipeD_length (ρ : DEnv) : ∀ vs, (wipeD ρ vs).length = ρ.length
  | [] => rfl
  | v :: vs => by unfold wipeD; rw [List.length_set, wipeD_length ρ vs]
theorem set_none_some {α : Type} {l : List (Option α)} {v i : Nat} {x : α} (h : (l.set v none)[i]? = some (some x)) : v ≠ i ∧ l[i]? = some (some x) := by
  by_cases hv : v = i
  · subst hv
    have hl : v < l.length := by
      have := (List.getElem?_eq_some_iff.mp h).1
      rwa [List.length_set] at this
    rw [List.getElem?_set_self hl] at h
    cases h
  · rw [List.getElem?_set_ne hv] at h
    exact ⟨hv, h⟩
theorem wipeD_some {ρ : DEnv} {i : Nat} {x : DS} : ∀ {vs : List Nat}, (wipeD ρ vs)[i]? = some (some x) → ρ[i]? = some (some x) ∧ i ∉ vs
  | [], h => ⟨h, by simp⟩
  | v :: vs, h => by
    obtain ⟨h1, h2⟩ := set_none_some h
    obtain ⟨h3, h4⟩ := wipeD_some (vs := vs) h2
    refine ⟨h3, ?_⟩
    rw [List.mem_cons, not_or]
    exact ⟨fun q => h1 q.symm, h4⟩
theorem wipe_get {σ : L2.St} {i : Nat} : ∀ {vs : List Nat}, i ∉ vs → (wipe σ vs)[i]? = σ[i]?
  | [], _ => rfl
  | v :: vs, h => by
    rw [List.mem_cons, not_or] at h
    show ((wipe σ vs).set v none)[i]? = _
    rw [List.getElem?_set_ne (fun q => h.1 q.symm), wipe_get h.2]
theorem RelB.wipe {K : PySem.W.Frag} {mg : Str → Option Value} {B : Bs} {F H : Hp} {ρ : DEnv} {μ : Sto} {σ : L2.St} (r : RelB K mg B F ρ μ σ H) (vs : List Nat) : RelB K mg B F (wipeD ρ vs) μ (L2.wipe σ vs) H := by
  refine ⟨⟨r.rel.ok, by rw [wipeD_length, wipe_length]; exact r.rel.len, fun i s e => ?_, fun i j xs ys e1 e2 e3 => ?_⟩, r.ext, fun i xs a e1 e2 => ?_⟩
  · obtain ⟨e, n⟩ := wipeD_some e
    obtain ⟨v, h1, h2⟩ := r.rel.slot i s e
    exact ⟨v, by rw [wipe_get n]; exact h1, h2⟩
  · obtain ⟨e1, n1⟩ := wipeD_some e1
    obtain ⟨e2, n2⟩ := wipeD_some e2
    rw [wipe_get n1, wipe_get n2] at e3
    exact r.rel.apart i j xs ys e1 e2 e3
  · obtain ⟨e1, n1⟩ := wipeD_some e1
    rw [wipe_get n1] at e2
    exact r.new i xs a e1 e2
theorem wipe_eq {σ σ' : L2.St} {vs : List Nat} (hl : σ'.length = σ.length) (h : ∀ j, j ∉ vs → σ'[j]? = σ[j]?) : wipe σ' vs = wipe σ vs := by
  have inn : ∀ (τ : L2.St) (us : List Nat) (j : Nat), j ∈ us → j < τ.length → (wipe τ us)[j]? = some none := by
    intro τ us
    induction us with
    | nil => intro j h; cases h
    | cons u us ih =>
      intro j hj hl
      show ((wipe τ us).set u none)[j]? = _
      by_cases hu : u = j
      · subst hu
        exact List.getElem?_set_self (by rw [wipe_length]; exact hl)
      · rw [List.getElem?_set_ne hu]
        rcases List.mem_cons.mp hj with z | z
        · exact absurd z.symm hu
        · exact ih j z hl
  apply List.ext_getElem?
  intro j
  by_cases hj : j ∈ vs
  · by_cases hjl : j < σ.length
    · rw [inn σ vs j hj hjl, inn σ' vs j hj (by rw [hl]; exact hjl)]
    · rw [List.getElem?_eq_none (by rw [wipe_length]; omega), List.getElem?_eq_none (by rw [wipe_length]; omega)]
  · rw [wipe_get hj, wipe_get hj, h j hj]
structure DTs (X : Cx) (ifs : List Expr) (d : TTD) : Prop where
  run : PTs X ifs (liftT X.K X.mg d)
@[simp] def dYes : TTD := fun _ μ Q => Q true μ
theorem dts_nil : DTs X [] dYes := ⟨⟨fun pins s σ H Q I h => pts_nil.run pins s σ H Q I (by
  obtain ⟨F, ρ, μ, Qd, R, hd, k⟩ := h
  exact k true F μ H .refl R.ok hd)⟩⟩
theorem dts_one {c : Expr} {tc : TTD} (h : DT X c tc) : DTs X [c] tc := ⟨pts_one h⟩
/-- acc: what is made so far -/
@[simp] def lcD (vs : List Nat) (g : TGD) (c : TTD) (el : TED) (ρ : DEnv) (inv : Sto → Prop) (Q : List D → Sto → Prop) : List D → List D → Sto → Prop
  | [], acc, μ => inv μ ∧ Q acc μ
  | x :: xs, acc, μ => inv μ ∧ g x (wipeD ρ vs) fun ρ1 => c ρ1 μ fun b μ1 => if b = true then el ρ1 μ1 fun y μ2 => acc.length < SZ ∧ lcD vs g c el ρ inv Q xs (acc ++ [y]) μ2 else lcD vs g c el ρ inv Q xs acc μ1
@[simp] def dLc (vs : List Nat) (src : TSrc) (g : TGD) (c : TTD) (el : TED) : TFD := fun ρ μ Q => src ρ μ fun items inv μ1 => lcD vs g c el ρ inv Q items [] μ1
/-- a new list is a value -/
@[simp] def dF (d : TFD) : TED := fun ρ μ Q => d ρ μ fun xs μ1 => Q (.lst xs) μ1
theorem de_F {d : TFD} (h : DF X e d) : DE X e (dF d) := h.weaken fun σ H Q q => by
  obtain ⟨F, ρ, μ, Qd, R, hd, k⟩ := q
  refine ⟨F, ρ, μ, _, R, hd, fun p vs F' μ' H' ds e o hn hf hm hh w q => ?_⟩
  have mono : FLe F' (upd F' p (.lst vs)) := fun a x z => by rw [upd_ne (ne_of_none z hf)]; exact z
  refine k _ (upd F' p (.lst vs)) μ' H' _ ⟨fun a x z => mono a x (e.mono a x z), fun a x z n => ?_, e.live⟩ (o.freeze hf hm hh) (.lst upd_same (w.mono mono)) q
  obtain ⟨g1, g2, g3⟩ := e.keep a x z n
  have ha : a ≠ p := fun q => by subst q; rw [hn] at z; cases z
  exact ⟨g1, by rw [upd_ne ha]; exact g2, g3⟩
/-- the comprehension's reading over data gives the hand layer's -/
theorem lc_weak {K : PySem.W.Frag} {mg : Str → Option Value} {vs0 ns : List Nat} {src : TSrc} {g : TGD} {c : TTD} {el : TED} (hns : ∀ j ∈ ns, j ∈ vs0) {σ : L2.St} {H : Hp} {Q : VK} (q : liftF K mg (dLc vs0 src g c el) σ H Q) :
    tLc (liftI K mg src) (fun v σ H Q => ∃ B, liftG K mg B ns g v σ H Q) (liftT K mg c) (liftE K mg el) vs0 σ H Q := by
  obtain ⟨F, ρ, μ, Qd, R, hd, k⟩ := q
  refine ⟨F, ρ, μ, _, R, hd, fun J F0 μ0 H0 items inv e0 o0 it q0 L hL => ?_⟩
  obtain ⟨o1, e1⟩ := o0.layN hL (.lst [])
  obtain ⟨fL, mL⟩ := o0.fresh hL
  have B0 : ∀ {F' : Hp} {μ' : Sto} {H' : Hp}, Ext (fun _ => none) (fun _ => none) (fun _ => none) F' μ' H' := fun {F' μ' H'} => ⟨(fun a o z => nomatch z), (fun a o z => nomatch z), fun _ _ => rfl⟩
  have R0 : RelB K mg ⟨fun _ => none, fun _ => none, fun _ => none⟩ F0 ρ μ0 σ H0 := ⟨R.ext e0 o0, B0, fun _ _ _ _ _ => rfl⟩
  · refine ⟨fun i m H1 => ∃ F1 μ1 acc vs, m = items.length - i ∧ i ≤ items.length ∧ FLe F0 F1 ∧ Ext F0 μ0 H0 F1 μ1 H1 ∧ Ok K mg F1 μ1 H1 ∧ F1 L = none ∧ μ1 L = none ∧ H1 L = some (.lst vs) ∧ Dts K mg F1 vs acc ∧ lcD vs0 g c el ρ inv Qd (items.drop i) acc μ1,
      ⟨items.length, F0, μ0, [], [], by simp, Nat.zero_le _, .rfl', e1, o1, fL, mL, upd_same, .nil, by simpa using q0⟩, ?_⟩
    rintro i m H1 ⟨F1, μ1, acc, vs, rfl, hi', hF, x1, ok1, f1, m1, h1, w1, q1⟩
    have hinv : inv μ1 := by
      cases hz : items.drop i with
      | nil => rw [hz] at q1; exact q1.1
      | cons x xs => rw [hz] at q1; exact q1.1
    obtain ⟨hgo, hstop⟩ := it F1 μ1 H1 hF ok1 hinv i
    by_cases hlt : i < items.length
    · obtain ⟨g1, g2⟩ := hgo hlt
      refine .inr ⟨g1, fun H' => ∃ F' μ' acc vs, FLe F0 F' ∧ Ext F0 μ0 H0 F' μ' H' ∧ Ok K mg F' μ' H' ∧ F' L = none ∧ μ' L = none ∧ H' L = some (.lst vs) ∧ Dts K mg F' vs acc ∧ lcD vs0 g c el ρ inv Qd (items.drop (i + 1)) acc μ',
        fun H' ⟨F', μ', acc, vs, b1, b2, b3, b4, b5, b6, b7, b8⟩ => ⟨items.length - (i + 1), by omega, F', μ', acc, vs, rfl, hlt, b1, b2, b3, b4, b5, b6, b7, b8⟩, fun x H2 hy => ?_⟩
      obtain ⟨F2, d, e2, o2, hx, wx⟩ := g2 x H2 hy
      have hdrop : items.drop i = d :: items.drop (i + 1) := by
        have hd := List.drop_eq_getElem_cons hlt
        rw [List.getElem?_eq_getElem hlt] at hx
        cases hx
        exact hd
      rw [hdrop] at q1
      have e02 := x1.trans e2
      have Rw : RelB K mg ⟨fun _ => none, fun _ => none, fun _ => none⟩ F2 (wipeD ρ vs0) μ1 (wipe σ vs0) H2 := (R0.step e02 o2).wipe _
      refine ⟨⟨fun _ => none, fun _ => none, fun _ => none⟩, F2, _, μ1, d, _, Rw, wx, q1.2, fun ρ3 σ3 R3 l3 f3 q3 => ⟨?_, ?_⟩⟩
      · have z := wipe_eq (σ := wipe σ vs0) (σ' := σ3) (vs := vs0) l3 fun j hj => f3 j fun hn => hj (hns j hn)
        rw [z]
        exact wipe_eq (wipe_length _ _) fun j hj => wipe_get hj
      · obtain ⟨hL2, fL2, mL2⟩ := e2.keep L _ h1 m1
        refine ⟨F2, ρ3, μ1, _, R3.rel, q3, fun b F4 μ4 H4 e4 o4 q4 => ?_⟩
        obtain ⟨hL4, fL4, mL4⟩ := e4.keep L _ hL2 m1
        cases b with
        | false =>
          exact ⟨F4, μ4, acc, vs, (hF.trans e2.mono).trans e4.mono, e02.trans e4, o4, fL4.trans (fL2.trans f1), mL4, hL4, w1.mono (FLe.trans e2.mono e4.mono), q4⟩
        | true =>
          refine ⟨F4, ρ3, μ4, _, R3.rel.ext e4 o4, q4, fun y F5 μ5 H5 dy e5 o5 w5 q5 => ?_⟩
          obtain ⟨hL5, fL5, mL5⟩ := e5.keep L _ hL4 mL4
          have fn : F5 L = none := fL5.trans (fL4.trans (fL2.trans f1))
          refine ⟨vs, hL5, by rw [w1.length, sizeLine_eq]; exact q5.1, F5, μ5, _, _, ((hF.trans e2.mono).trans e4.mono).trans e5.mono, ?_, o5.writeN fn mL5 _, fn, mL5, upd_same, (w1.mono ((FLe.trans e2.mono e4.mono).trans e5.mono)).append (.one w5), q5.2⟩
          have ee := e02.trans (e4.trans e5)
          refine ⟨ee.mono, fun a o z n => ?_, fun a z => ee.live a (upd_live a z)⟩
          obtain ⟨b1, b2, b3⟩ := ee.keep a o z n
          have ha : a ≠ L := fun q => by subst q; rw [hL] at z; cases z
          exact ⟨by rw [upd_ne ha]; exact b1, b2, b3⟩
    · have : i = items.length := by omega
      subst this
      refine .inl ⟨hstop rfl, ?_⟩
      rw [List.drop_length] at q1
      exact k L vs F1 μ1 H1 acc (e0.trans x1) ok1 (e0.live L hL) f1 m1 h1 w1 q1.2

section
variable {elt iter : Expr} {ifs : List Expr} {scope : Scope} {own : List (Str × Nat)} {ns : List Nat} {src : TSrc} {g : TGD} {c : TTD} {el : TED}
theorem df_lc (hc : X.calm = true) (hN : X.N.Nodup) (hi : DI X tg iter src) (ok : BlkOk X.N X.env.scope scope own)
    (hns : ∀ j ∈ ns, j ∈ own.map (·.2))
    (hg : ∀ (s : Shared) (H : Hp) (C : Addr) (cl : List (Str × Addr)) (fp : List Addr) (B : Bs), DG (X.blk s H scope (compEnvC scope cl C X.env) fp) B tg ns g) (ht : ∀ (s : Shared) (H : Hp) (C : Addr) (cl : List (Str × Addr)) (fp : List Addr), DTs (X.blk s H scope (compEnvC scope cl C X.env) fp) ifs c)
    (he : ∀ (s : Shared) (H : Hp) (C : Addr) (cl : List (Str × Addr)) (fp : List Addr), DE (X.blk s H scope (compEnvC scope cl C X.env) fp) elt el) (hs : ∀ x, foldedSetIterable iter X.env x = pure x := by intro _; rfl) :
    DF X (.ListComp elt [⟨tg, iter, ifs, 0⟩] scope pos) (dLc (own.map (·.2)) src g c el) :=
  (pe_lc (g := fun v σ H Q => ∃ B, liftG X.K X.mg B ns g v σ H Q) (tt := liftT X.K X.mg c) (te := liftE X.K X.mg el) hc hN hi ok (fun s H C cl fp => ⟨fun pins s' σ H' v u Q I r ⟨B, q⟩ => (hg s H C cl fp B).run pins s' σ H' v u Q I r q⟩)
    (fun s H C cl fp => (ht s H C cl fp).run) he hs).weaken fun _ _ _ q => lc_weak hns q
/-- a result: a value, or a new list that nobody knows -/
abbrev TRD := DEnv → Sto → (DS → Sto → Prop) → Prop
@[simp] def dVal (d : TED) : TRD := fun ρ μ Q => d ρ μ fun x μ1 => Q (.val x) μ1
@[simp] def dOwn (d : TFD) : TRD := fun ρ μ Q => d ρ μ fun xs μ1 => Q (.own xs) μ1
/-- .. as it lies in the heap; it is not known ahead -/
def ROk (K : PySem.W.Frag) (mg : Str → Option Value) (H F' : Hp) (μ' : Sto) (H' : Hp) (v : V) : DS → Prop
  | .val d => Dt K mg F' v d
  | .own xs => ∃ p vs, v = .ref p ∧ H p = none ∧ F' p = none ∧ μ' p = none ∧ H' p = some (.lst vs) ∧ Dts K mg F' vs xs
def liftR (K : PySem.W.Frag) (mg : Str → Option Value) (d : TRD) : TE := fun σ H Q => ∃ F ρ μ Qd, Rel K mg F ρ μ σ H ∧ d ρ μ Qd ∧ ∀ v F' μ' H' s, Ext F μ H F' μ' H' → Ok K mg F' μ' H' → ROk K mg H F' μ' H' v s → Qd s μ' → Q v H'
abbrev DR (X : Cx) (e : Expr) (d : TRD) : Prop := PE X e (liftR X.K X.mg d)
theorem dr_E {d : TED} (h : DE X e d) : DR X e (dVal d) := h.weaken fun σ H Q q => by
  obtain ⟨F, ρ, μ, Qd, R, hd, k⟩ := q
  exact ⟨F, ρ, μ, _, R, hd, fun v F' μ' H' dv e o w q => k v F' μ' H' (.val dv) e o w q⟩
theorem dr_F {d : TFD} (h : DF X e d) : DR X e (dOwn d) := h.weaken fun σ H Q q => by
  obtain ⟨F, ρ, μ, Qd, R, hd, k⟩ := q
  exact ⟨F, ρ, μ, _, R, hd, fun p vs F' μ' H' ds e o h1 h2 h3 h4 h5 q => k _ F' μ' H' (.own ds) e o ⟨p, vs, rfl, h1, h2, h3, h4, h5⟩ q⟩
/-- a result is stored -/
theorem RelB.setR {K : PySem.W.Frag} {mg : Str → Option Value} {B : Bs} {F F' H H' : Hp} {μ μ' : Sto} {ρ : DEnv} {σ : L2.St} {i : Nat} {v : V} {s : DS} (R : RelB K mg B F ρ μ σ H) (R' : RelB K mg B F' ρ μ' σ H') (h : ROk K mg H F' μ' H' v s) :
    RelB K mg B F' (ρ.set i (some s)) μ' (σ.set i (some v)) H' := by
  cases s with
  | val d => exact R'.set h
  | own xs =>
    obtain ⟨p, vs, rfl, h1, h2, h3, h4, h5⟩ := h
    refine R'.setOwn h2 h3 h4 h5 (R.ext.live p h1) fun j ys hj e1 e2 => ?_
    obtain ⟨v, g1, a, us, rfl, g2, g3, g4, g5⟩ := R.rel.slot j _ e1
    rw [g1] at e2
    cases e2
    rw [h1] at g4
    cases g4
@[simp] def dSetR (i : Nat) (d : TRD) : TSD := fun E ρ μ => d ρ μ fun s μ1 => E.nx (ρ.set i (some s)) μ1
theorem ds_setR {B : Bs} {i : Nat} {x : Str} {d : TRD} (h : ∀ te, PE X e te → PS X (.Assign [.Name x p] e pos) (tAsg te (gName i))) (he : DR X e d) : DSt X B (.Assign [.Name x p] e pos) (dSetR i d) := (h _ he).weaken fun D σ H h => by
  obtain ⟨F, ρ, μ, Dd, R, hd, kn, kb, kc, kr⟩ := h
  exact ⟨F, ρ, μ, _, R.rel, hd, fun v F' μ' H' s e o w q => kn F' _ μ' _ H' e.mono (R.setR (R.step e o) w) q⟩
/-- x = [..], on one line, x no cell -/
theorem ds_setLc {B : Bs} {i : Nat} {y : Str} {py spos : Pos} (hc : X.calm = true) (hN : X.N.Nodup) (hy : X.N[i]? = some y) (hyl : X.env.scope.names.lookup y = some .local)
    (hsw : swapsWith (.ListComp elt [⟨tg, iter, ifs, 0⟩] scope pos) (some (.Name y py)) spos.line X.env = pure true) (hi : DI X tg iter src) (ok : BlkOk X.N X.env.scope scope own) (hns : ∀ j ∈ ns, j ∈ own.map (·.2))
    (hg : ∀ (s : Shared) (H : Hp) (C : Addr) (cl : List (Str × Addr)) (fp : List Addr) (B : Bs), DG (X.blk s H scope (compEnvC scope cl C X.env) fp) B tg ns g) (ht : ∀ (s : Shared) (H : Hp) (C : Addr) (cl : List (Str × Addr)) (fp : List Addr), DTs (X.blk s H scope (compEnvC scope cl C X.env) fp) ifs c)
    (he : ∀ (s : Shared) (H : Hp) (C : Addr) (cl : List (Str × Addr)) (fp : List Addr), DE (X.blk s H scope (compEnvC scope cl C X.env) fp) elt el) (hs : ∀ x, foldedSetIterable iter X.env x = pure x := by intro _; rfl)
    {rd : TRD} (hr : ∀ K mg σ H Q, liftR K mg rd σ H Q → liftF K mg (dLc (own.map (·.2)) src g c el) σ H Q) :
    DSt X B (.Assign [.Name y py] (.ListComp elt [⟨tg, iter, ifs, 0⟩] scope pos) spos) (dSetR i rd) :=
  (ps_setLc (g := fun v σ H Q => ∃ B, liftG X.K X.mg B ns g v σ H Q) (tt := liftT X.K X.mg c) (te := liftE X.K X.mg el) hc hN hy hyl hsw hi ok (fun s H C cl fp => ⟨fun pins s' σ H' v u Q I r ⟨B, q⟩ => (hg s H C cl fp B).run pins s' σ H' v u Q I r q⟩)
    (fun s H C cl fp => (ht s H C cl fp).run) he hs).weaken fun D σ H h => by
  obtain ⟨F, ρ, μ, Dd, R, hd, kn, kb, kc, kr⟩ := h
  refine lc_weak hns (hr _ _ _ _ _ ⟨F, ρ, μ, _, R.rel, hd, fun v F' μ' H' s e o w q => ?_⟩)
  exact kn F' _ μ' _ H' e.mono (R.setR (R.step e o) w) q
theorem lr_val {K : PySem.W.Frag} {mg : Str → Option Value} {d : TFD} {σ : L2.St} {H : Hp} {Q : VK} (q : liftR K mg (dVal (dF d)) σ H Q) : liftF K mg d σ H Q := by
  obtain ⟨F, ρ, μ, Qd, R, hd, k⟩ := q
  refine ⟨F, ρ, μ, _, R, hd, fun p vs F' μ' H' ds e o hn hf hm hh w q => ?_⟩
  have mono : FLe F' (upd F' p (.lst vs)) := fun a x z => by rw [upd_ne (ne_of_none z hf)]; exact z
  refine k _ (upd F' p (.lst vs)) μ' H' (.val (.lst ds)) ⟨fun a x z => mono a x (e.mono a x z), fun a x z n => ?_, e.live⟩ (o.freeze hf hm hh) (.lst upd_same (w.mono mono)) q
  obtain ⟨g1, g2, g3⟩ := e.keep a x z n
  have ha : a ≠ p := fun q => by subst q; rw [hn] at z; cases z
  exact ⟨g1, by rw [upd_ne ha]; exact g2, g3⟩
/-- x, y = a, b -/
@[simp] def dPar2 (i j : Nat) (a b : TRD) : TSD := fun E ρ μ => a ρ μ fun s μ1 => b ρ μ1 fun t μ2 => E.nx ((ρ.set i (some s)).set j (some t)) μ2
theorem ROk.ext {K : PySem.W.Frag} {mg : Str → Option Value} {H F H1 F2 H2 : Hp} {μ μ2 : Sto} {v : V} {s : DS} (h : ROk K mg H F μ H1 v s) (e : Ext F μ H1 F2 μ2 H2) : ROk K mg H F2 μ2 H2 v s := by
  cases s with
  | val d => exact Dt.mono e.mono h
  | own xs =>
    obtain ⟨p, vs, rfl, h1, h2, h3, h4, h5⟩ := h
    obtain ⟨g1, g2, g3⟩ := e.keep p _ h4 h3
    exact ⟨p, vs, rfl, h1, g2.trans h2, g3, g1, h5.mono e.mono⟩
end
end
end DL

namespace DL
open PySem PySem.Spec PyProof.Rows L2

/-- no repr of a list, tuple or dict runs around -/
abbrev Quiet (A : Around) : Prop := A.guards = some []
/-- a def's promise, where no repr runs around -/
structure FnG (P : Program) (w : World) (K : PySem.W.Frag) (mg : Str → Option Value) (base : Heap) (CX : CXT) (k : Nat) (f : Addr) (fd : FuncData) (ps : List Str) (sp : Sp) : Prop where
  len : ∀ vs H Q E, sp vs H Q E → vs.length = ps.length
  run : ∀ (A : Around) (outer : List Env) (s : Shared) (H : Hp) (args : Args) (us : List Value) (vs : List V) (Q : VK) (E : XK), Quiet A → Room k A → Env0 P w K mg base A outer s H →
    BindsTo s fd args (ps.zip us) → Vals vs us → sp vs H Q E → codeAny (model P w) A (.call (.ref f) args) (CR CX outer P w H s Q E) s
section
variable {P : Program} {w : World} {K : PySem.W.Frag} {mg : Str → Option Value} {base : Heap} {CX : CXT} {j k : Nat} {f : Addr} {fd : FuncData} {ps : List Str} {sp : Sp}
theorem FnG.mono (F : FnG P w K mg base CX j f fd ps sp) (h : j ≤ k) : FnG P w K mg base CX k f fd ps sp where
  len := F.len
  run := fun A outer s H args us vs Q E g r => F.run A outer s H args us vs Q E g (r.mono h)
theorem FnG.of {name qual : Str} {st : Stmt} {N : List Str} (D : Fun K name qual st f fd) (S : FnScope N ps (defScope st)) (len : ∀ vs H Q E, sp vs H Q E → vs.length = ps.length)
    (body : ∀ (cdv : Value) (A : Around) (outer : List Env) (s : Shared) (H : Hp) (vs : List V) (Q : VK) (E : XK), Quiet (A.deeper (envOfC qual (defScope st) s.heap.objs.size f cdv)) → Room k (A.deeper (envOfC qual (defScope st) s.heap.objs.size f cdv)) →
      sp vs H Q E → ∃ t, PSs (cxOf CX P w K mg base N qual (defScope st) f cdv A outer s H E) (defBody st) t ∧ t { nx := fun _ H' => Q .non H', rt := Q } (L2.start N vs) H) :
    FnG P w K mg base CX (k + 1) f fd ps sp := by
  obtain ⟨oc, od, kV, doc, pm, an, cdv, ct, osl, rfl, hk, hcode⟩ := D.ex
  refine ⟨len, ?_⟩
  intro A outer s H args us vs Q E quiet room env bind rel hsp
  have n := len _ _ _ _ hsp
  have kin : K.In s.heap := env.mod.kin.keeps (fun b o z => (env.bs b o z).1)
  have free : s.heap.NoLimit := env.mod.nolimit.keeps (fun b o z => (env.bs b o z).1)
  refine codeAny_call_function room.depth (kin _ _ hk) rfl S.co S.gen rfl (PySem.W.codeRec_of kin hcode) (bind _ _ _ _ ?_)
  have loc : ∀ y ∈ ps.zip us, (defScope st).names.lookup y.1 = some .local ∨ ((defScope st).names.lookup y.1 = some .cell ∧ ((cellsFrom (s.heap.objs.size + 1) (defScope st).names []).lookup y.1).isSome = true) := by
    intro y hy
    rcases S.par y.1 (List.of_mem_zip hy).1 with q | q
    · exact Or.inl q
    · exact Or.inr ⟨q, PySem.W.cellsFrom_some _ _ _ (Or.inl q)⟩
  refine wpAny_newFunctionEnv_cells S.kind loc ?_
  intro env' he s1 x
  subst he
  refine ⟨free.keeps x.toInCall.keep, codeAny_func ?_⟩
  obtain ⟨t, ht, hq⟩ := body cdv A outer s H vs Q E quiet (room.deeper _) hsp
  have I := inv_start (CX := CX) (E := E) S room.hd env n rel x
  refine wpAny_mono (ht.run [] s1 _ H _ I hq) ?_ (fun _ _ z => z)
  intro fl s' hs
  match fl, hs with
  | .ret u, ⟨v, σ', H', J, rv, q⟩ => exact ⟨v, H', J.os, J.bare, J.base, J.hok, rv, q⟩
  | .next, ⟨σ', H', J, q⟩ => exact ⟨V.non, H', J.os, J.bare, J.base, J.hok, rfl, q⟩
  | .brk, ⟨_, _, _, q⟩ => exact q.elim
  | .cont, ⟨_, _, _, q⟩ => exact q.elim
end

/-- an exception over data: its class, its fields -/
abbrev DXK := Str → List (Str × D) → Sto → Prop
abbrev DSp := List D → Sto → DK → DXK → Prop
/-- an exception of a class of the module, as the hand layer tells it -/
def XDo (K : PySem.W.Frag) (mg : Str → Option Value) (H0 : Hp) (F : Hp) (μ : Sto) (H : Hp) (cv : Value) (od : Option Addr) (c : Str) (fs : List (Str × D)) : Prop :=
  ∃ C, cv = .ref C ∧ mg c = some (.ref C) ∧ ((od = none ∧ fs = []) ∨ ∃ d vfs, od = some d ∧ fs ≠ [] ∧ H0 d = none ∧ F d = none ∧ μ d = none ∧ H d = some (.xd vfs) ∧ vfs.map (·.1) = fs.map (·.1) ∧ Dts K mg F (vfs.map (·.2)) (fs.map (·.2)))
/-- an exception of a built-in class: nothing is told of its dict -/
def XB (mg : Str → Option Value) (cv : Value) (c : Str) (fs : List (Str × D)) : Prop := ∃ T, cv = .type T ∧ mg c = none ∧ bootBuiltins c = some (.type T) ∧ fs = []
def XD (K : PySem.W.Frag) (mg : Str → Option Value) (H0 : Hp) (F : Hp) (μ : Sto) (H : Hp) (cv : Value) (od : Option Addr) (c : Str) (fs : List (Str × D)) : Prop := XDo K mg H0 F μ H cv od c fs ∨ XB mg cv c fs
def liftP (K : PySem.W.Frag) (mg : Str → Option Value) (S : DSp) : Sp := fun vs H Q E => ∃ F μ ds Qd Ed, Ok K mg F μ H ∧ Dts K mg F vs ds ∧ S ds μ Qd Ed ∧
  (∀ v F' μ' H' dv, Ext F μ H F' μ' H' → Ok K mg F' μ' H' → Dt K mg F' v dv → Qd dv μ' → Q v H') ∧
  (∀ cv od F' μ' H' c fs, Ext F μ H F' μ' H' → Ok K mg F' μ' H' → XD K mg H F' μ' H' cv od c fs → Ed c fs μ' → E cv od H')
abbrev noD : DXK := fun _ _ _ => False
/-- a call by position, where no repr runs around -/
def FR (P : Program) (w : World) (K : PySem.W.Frag) (mg : Str → Option Value) (base : Heap) (CX : CXT) (k : Nat) (f : Addr) (sp : Sp) : Prop :=
  ∀ (A : Around) (outer : List Env) (s : Shared) (H : Hp) (us : List Value) (vs : List V) (Q : VK) (E : XK), Quiet A → Room k A → Env0 P w K mg base A outer s H → Vals vs us → sp vs H Q E → codeAny (model P w) A (.call (.ref f) ⟨us, []⟩) (CR CX outer P w H s Q E) s
theorem FnG.toR {P : Program} {w : World} {K : PySem.W.Frag} {mg : Str → Option Value} {base : Heap} {CX : CXT} {k : Nat} {f : Addr} {fd : FuncData} {ps : List Str} {sp : Sp} (F : FnG P w K mg base CX k f fd ps sp) (hb : Binds K fd ps []) : FR P w K mg base CX k f sp := by
  intro A outer s H us vs Q E quiet room env r h
  have kin : K.In s.heap := env.mod.kin.keeps (fun b o z => (env.bs b o z).1)
  have n : (us ++ []).length = ps.length := by rw [List.append_nil, ← r.length]; exact F.len _ _ _ _ h
  have b := hb s us kin n
  rw [List.append_nil] at b
  exact F.run A outer s H ⟨us, []⟩ us vs Q E quiet room env b r h
/-- the def x of the module keeps the promise S, by at most level k -/
structure Cal (P : Program) (w : World) (K : PySem.W.Frag) (mg : Str → Option Value) (base : Heap) (CX : CXT) (k : Nat) (x : Str) (S : DSp) : Prop where
  ex : ∃ f, FR P w K mg base CX k f (liftP K mg S) ∧ mg x = some (.ref f) ∧ PySem.W.keepIn K (.ref f) = true
theorem Cal.mono {P : Program} {w : World} {K : PySem.W.Frag} {mg : Str → Option Value} {base : Heap} {CX : CXT} {j k : Nat} {x : Str} {S : DSp} (c : Cal P w K mg base CX j x S) (h : j ≤ k) : Cal P w K mg base CX k x S := by
  obtain ⟨f, F, r⟩ := c.ex
  exact ⟨f, fun A outer s H us vs Q E q rm => F A outer s H us vs Q E q (rm.mono h), r⟩
theorem Cal.imp {P : Program} {w : World} {K : PySem.W.Frag} {mg : Str → Option Value} {base : Heap} {CX : CXT} {k : Nat} {x : Str} {S S' : DSp} (c : Cal P w K mg base CX k x S) (h : ∀ ds μ Q E, S' ds μ Q E → S ds μ Q E) : Cal P w K mg base CX k x S' := by
  obtain ⟨f, F, r⟩ := c.ex
  have go : ∀ vs H Q E, liftP K mg S' vs H Q E → liftP K mg S vs H Q E := fun vs H Q E ⟨F, μ, ds, Qd, Ed, h1, h2, h3, h4⟩ => ⟨F, μ, ds, Qd, Ed, h1, h2, h _ _ _ _ h3, h4⟩
  exact ⟨f, fun A outer s H us vs Q E q rm e v z => F A outer s H us vs Q E q rm e v (go _ _ _ _ z), r⟩
/-- the slots at the entry -/
@[simp] def startD (n : Nat) (ds : List D) : DEnv := ds.map (fun d => some (.val d)) ++ List.replicate (n - ds.length) none
theorem start_rel {K : PySem.W.Frag} {mg : Str → Option Value} {F H : Hp} {μ : Sto} {vs : List V} {ds : List D} {N : List Str} (o : Ok K mg F μ H) (r : Dts K mg F vs ds) : RelB K mg ⟨F, μ, H⟩ F (startD N.length ds) μ (L2.start N vs) H := by
  have noOwn : ∀ (i : Nat) (xs : List D), (startD N.length ds)[i]? ≠ some (some (DS.own xs)) := fun i xs e => by
    unfold startD at e
    by_cases hi : i < ds.length
    · rw [List.getElem?_append_left (by simpa using hi), List.getElem?_map] at e
      cases z : ds[i]? with
      | none => rw [z] at e; cases e
      | some d => rw [z] at e; cases e
    · rw [List.getElem?_append_right (by simpa using hi), List.getElem?_replicate] at e
      split at e <;> cases e
  refine ⟨⟨o, ?_, fun i s e => ?_, fun i j xs ys e1 _ _ => absurd e1 (noOwn i xs)⟩, .refl, fun i xs a e _ => absurd e (noOwn i xs)⟩
  · unfold startD L2.start
    rw [List.length_append, List.length_append, List.length_map, List.length_map, List.length_replicate, List.length_replicate, r.length]
  · unfold startD at e
    by_cases hi : i < ds.length
    · rw [List.getElem?_append_left (by simpa using hi), List.getElem?_map] at e
      cases z : ds[i]? with
      | none => rw [z] at e; cases e
      | some d =>
        rw [z] at e; cases e
        obtain ⟨v, h1, h2⟩ := r.get z
        refine ⟨v, ?_, h2⟩
        unfold L2.start
        rw [List.getElem?_append_left (by rw [List.length_map, r.length]; exact hi), List.getElem?_map, h1]
        rfl
    · rw [List.getElem?_append_right (by simpa using hi), List.getElem?_replicate] at e
      split at e <;> cases e
section
variable {P : Program} {w : World} {K : PySem.W.Frag} {mg : Str → Option Value} {base : Heap} {k n : Nat} {f : Addr} {fd : FuncData} {ps : List Str} {S : DSp}
/-- a def that raises nothing, by its body over data -/
theorem FnG.ofD {name qual : Str} {st : Stmt} {N : List Str} (D : Fun K name qual st f fd) (Sc : FnScope N ps (defScope st)) (len : ∀ ds μ Q E, S ds μ Q E → ds.length = ps.length) (d : TSD)
    (hd : ∀ ds μ Q E, S ds μ Q E → d { nx := fun _ μ' => Q .non μ', rt := Q } (startD N.length ds) μ)
    (body : ∀ (cdv : Value) (A : Around) (outer : List Env) (s : Shared) (H : Hp) (E : XK) (B : Bs), Quiet (A.deeper (envOfC qual (defScope st) s.heap.objs.size f cdv)) → Room k (A.deeper (envOfC qual (defScope st) s.heap.objs.size f cdv)) →
      DSs (cxOf L2.CX0 P w K mg base N qual (defScope st) f cdv A outer s H E).nox B (defBody st) d) : FnG P w K mg base L2.CX0 (k + 1) f fd ps (liftP K mg S) := by
  refine FnG.of D Sc ?_ ?_
  · rintro vs H Q E ⟨F, μ, ds, Qd, Ed, _, h2, h3, _⟩
    exact h2.length.trans (len _ _ _ _ h3)
  · rintro cdv A outer s H vs Q E quiet room ⟨F, μ, ds, Qd, Ed, h1, h2, h3, h4, h5⟩
    refine ⟨_, PSs.nox (body cdv A outer s H E ⟨F, μ, H⟩ quiet room), ?_⟩
    refine ⟨F, startD N.length ds, μ, { nx := fun _ μ' => Qd .non μ', rt := Qd }, start_rel h1 h2, hd _ _ _ _ h3, ?_, fun _ _ _ _ _ _ _ z => z.elim, fun _ _ _ _ _ _ _ z => z.elim, ?_⟩
    · exact fun F' ρ' μ' σ' H' _ R q => h4 .non F' μ' H' .non R.ext R.rel.ok .non q
    · exact h4
theorem Cal.of {x : Str} (F : FnG P w K mg base L2.CX0 k f fd ps (liftP K mg S)) (hx : mg x = some (.ref f)) (hk : PySem.W.keepIn K (.ref f) = true) (hb : Binds K fd ps []) : Cal P w K mg base L2.CX0 k x S := ⟨f, F.toR hb, hx, hk⟩
end
section
variable {X : Cx} {k : Nat} {x : Str} {S : DSp} {e : Expr} {es : List Expr} {t : TAD} {p pos : Pos} {CX : CXT}
@[simp] def dCall (S : DSp) (t : TAD) (E : DXK) : TED := fun ρ μ Q => t ρ μ fun ds μ1 => S ds μ1 Q E
/-- the callee runs -/
theorem run_g {f : Addr} {sp : Sp} {E : XK} {pins : List (Addr × Obj)} {σ : L2.St} {H : Hp} {s : Shared} {Q : VK} {us : List Value} {vs : List V} (F : FR X.prog X.w X.K X.mg X.base CX k f sp) (quiet : Quiet X.A) (room : Room k X.A)
    (hx : Passes CX X E) (I : Inv X pins σ H s) (r : Vals vs us) (h : sp vs H Q E) : wpAny (model X.prog X.w) X.A (call (.ref f) us) (EP X pins σ Q) X.xe s := by
  refine wpAny_call (codeAny_mono (F X.A X.stack s H us vs Q E quiet room I.env0 r h) ?_)
  intro z s' hz
  match z, hz with
  | .error e, hz => exact hx pins σ H s e s' I hz
  | .ok (.ret u), hz => exact I.after hz
theorem de_call (c : Cal X.prog X.w X.K X.mg X.base L2.CX0 k x S) (quiet : Quiet X.A) (room : Room k X.A) (hg : Gl X x) (ha : DA X (e :: es) t) (hdb : (x == ("__debug__" : Str)) = false := by decide)
    (he : starEach (e :: es) X.env = (false, eval e X.env) :: starEach es X.env := by rfl) (hpl : (backTo pos (starEach es X.env)).any (·.1) = false := by rfl) : DE X (.Call (.Name x p) (e :: es) [] pos) (dCall S t noD) := by
  obtain ⟨f, F, hm, hk⟩ := c.ex
  refine ⟨fun pins s σ H Q I h => ?_⟩
  obtain ⟨F0, ρ, μ, Qd, R, hd, kk⟩ := h
  refine wpAny_Call_Name_kw (ld_glob I hg hm ?_ hdb)
  refine PySem.W.callWith_K (h₀ := X.base) I.ok.mod.kin hk (thn (ha.run pos pins s σ H (fun vs H1 => liftP X.K X.mg S vs H1 Q L2.E0) I ⟨F0, ρ, μ, _, R, hd, fun vs F1 μ1 H1 ds e1 o1 w1 q1 => ?_⟩) fun us s1 ⟨vs, H1, I1, r, q⟩ => ⟨I1.kIn, ?_⟩) he hpl
  · exact ⟨F1, μ1, ds, Qd, noD, o1, w1, q1, fun v F' μ' H' dv e o w q => kk v F' μ' H' dv (e1.trans e) o w q, fun _ _ _ _ _ _ _ _ _ _ z => z.elim⟩
  · exact run_g F quiet room L2.pass0 I1 r q
end
end DL

namespace DL
open PySem PySem.Spec PyProof.Rows L2
abbrev RDn := List D → Sto → DK → Prop
def CallS (K : PySem.W.Frag) (mg : Str → Option Value) (r : List V → Hp → VK → Prop) (rd : RDn) : Prop :=
  ∀ (F : Hp) (μ : Sto) (H : Hp) (vs : List V) (ds : List D) (Qd : DK) (Q : VK), Ok K mg F μ H → Wks K mg F μ H vs ds → rd ds μ Qd →
    (∀ v F' μ' H' dv, Ext F μ H F' μ' H' → Ok K mg F' μ' H' → Dt K mg F' v dv → Qd dv μ' → Q v H') → r vs H Q
@[simp] def dFn (rd : RDn) (t : TAD) : TED := fun ρ μ Q => t ρ μ fun ds μ1 => rd ds μ1 Q
section
variable {X : Cx} {x : Str} {p pos : Pos} {e : Expr} {es : List Expr} {t : TAD} {id T : String} {r : List V → Hp → VK → Prop} {rd : RDn}
theorem lift_fn {K : PySem.W.Frag} {mg : Str → Option Value} (hs : CallS K mg r rd) {σ : L2.St} {H : Hp} {Q : VK} (h : liftE K mg (dFn rd t) σ H Q) : tCB r (liftAW K mg t) σ H Q := by
  obtain ⟨F, ρ, μ, Qd, R, hd, k⟩ := h
  exact ⟨F, ρ, μ, _, R, hd, fun vs F1 μ1 H1 ds e1 o1 w1 q1 => hs F1 μ1 H1 vs ds Qd Q o1 w1 q1 fun v F2 μ2 H2 dv e2 o2 w2 q2 => k v F2 μ2 H2 dv (e1.trans e2) o2 w2 q2⟩
theorem de_fnB (hc : CallR X (.builtin id) r) (hs : CallS X.K X.mg r rd) (hg : Gl X x) (hm : X.mg x = none) (hv : bootBuiltins x = some (.builtin id)) (ha : DAW X (e :: es) t) (hn : x ≠ "__name__" := by decide) (hdb : (x == ("__debug__" : Str)) = false := by decide)
    (he : starEach (e :: es) X.env = (false, eval e X.env) :: starEach es X.env := by rfl) (hpl : (backTo pos (starEach es X.env)).any (·.1) = false := by rfl) : DE X (.Call (.Name x p) (e :: es) [] pos) (dFn rd t) :=
  (pe_callB hc hg hm hv ha hn hdb he hpl).weaken fun _ _ _ q => lift_fn hs q
end
section
variable {K : PySem.W.Frag} {mg : Str → Option Value} {F H : Hp} {μ : Sto}
theorem Wks.one {vs : List V} {d : D} (h : Wks K mg F μ H vs [d]) : ∃ v, vs = [v] ∧ Wk K mg F μ H v d := by
  cases h with
  | cons a b => cases b; exact ⟨_, rfl, a⟩
theorem Wks.two {vs : List V} {d e : D} (h : Wks K mg F μ H vs [d, e]) : ∃ v w, vs = [v, w] ∧ Wk K mg F μ H v d ∧ Wk K mg F μ H w e := by
  cases h with
  | cons a b =>
    obtain ⟨w, rfl, c⟩ := b.one
    exact ⟨_, _, rfl, a, c⟩
def refLst (μ : Sto) (a : Addr) : Option (List D) := match μ a with
  | some (.lst xs) => some xs
  | _ => none
theorem refLst_some {a : Addr} {xs : List D} (h : refLst μ a = some xs) : μ a = some (.lst xs) := by
  unfold refLst at h
  split at h
  · rename_i ys hy
    cases h
    exact hy
  · cases h
/-- a list that is read: as a value, the frame's own, the script, one that changes -/
@[simp] def lstOf (μ : Sto) : D → Option (List D)
  | .lst xs => some xs
  | .scr ns => some (ns.map D.int)
  | .ref a => refLst μ a
  | _ => none
/-- .. or a tuple -/
@[simp] def seqOf (μ : Sto) : D → Option (List D)
  | .tup xs => some xs
  | d => lstOf μ d
theorem Wk.list (o : Ok K mg F μ H) {v : V} {d : D} {xs : List D} (h : Wk K mg F μ H v d) (q : lstOf μ d = some xs) : ∃ a vs, v = .ref a ∧ SqL K H a vs ∧ Dts K mg F vs xs := by
  cases d <;> first | cases q; done | skip
  · cases q
    obtain ⟨a, vs, rfl, ha, r⟩ := h.lst o
    exact ⟨a, vs, rfl, .inl (.inl ha), r⟩
  · cases q
    obtain ⟨a, rfl, ha⟩ := h.scr o
    exact ⟨a, _, rfl, ha, Dts.ofInts _⟩
  · have q' := refLst_some q
    cases h.ref
    obtain ⟨vs, ha, r⟩ := o.sto _ _ q'
    exact ⟨_, vs, rfl, .inl (.inl ha), r⟩
theorem Wk.seq (o : Ok K mg F μ H) {v : V} {d : D} {xs : List D} (h : Wk K mg F μ H v d) (q : seqOf μ d = some xs) : ∃ a vs, v = .ref a ∧ (SqL K H a vs ∨ SqT K H a vs) ∧ Dts K mg F vs xs := by
  have other : ∀ q' : lstOf μ d = some xs, ∃ a vs, v = .ref a ∧ (SqL K H a vs ∨ SqT K H a vs) ∧ Dts K mg F vs xs := fun q' => by
    obtain ⟨a, vs, e, ha, r⟩ := h.list o q'
    exact ⟨a, vs, e, .inl ha, r⟩
  cases d with
  | tup ys =>
    cases q
    obtain ⟨a, vs, rfl, ha, _, r⟩ := h.tup o
    exact ⟨a, vs, rfl, .inr ha, r⟩
  | _ => exact other q

def rdLen : RDn
  | [.str s], μ, Q => s.length ≤ SZ ∧ Q (.int s.length) μ
  | [d], μ, Q => ∃ xs, seqOf μ d = some xs ∧ Q (.int xs.length) μ
  | _, _, _ => False
@[simp] theorem rdLen_1 : rdLen  [.str s0] μ0 Q0 = (s0.length ≤ SZ ∧ Q0 (.int s0.length) μ0) := rfl
@[simp] theorem rdLen_2 : rdLen  [.tup zs0] μ0 Q0 = (∃ xs, seqOf μ0 (.tup zs0) = some xs ∧ Q0 (.int xs.length) μ0) := rfl
@[simp] theorem rdLen_3 : rdLen  [.lst zs0] μ0 Q0 = (∃ xs, seqOf μ0 (.lst zs0) = some xs ∧ Q0 (.int xs.length) μ0) := rfl
@[simp] theorem rdLen_4 : rdLen  [.scr zs0] μ0 Q0 = (∃ xs, seqOf μ0 (.scr zs0) = some xs ∧ Q0 (.int xs.length) μ0) := rfl
@[simp] theorem rdLen_5 : rdLen  [.ref za0] μ0 Q0 = (∃ xs, seqOf μ0 (.ref za0) = some xs ∧ Q0 (.int xs.length) μ0) := rfl
def rLenA (K : PySem.W.Frag) : List V → Hp → VK → Prop := fun xs H Q => (∃ p ys, xs = [.ref p] ∧ (SqL K H p ys ∨ SqT K H p ys) ∧ Q (.int ys.length) H) ∨ (∃ z, xs = [.str z] ∧ z.length ≤ sizeLine ∧ Q (.int z.length) H)
theorem call_lenA {X : Cx} : CallR X (.builtin "len") (rLenA X.K) := .or call_len_seq call_len_str
theorem cs_len : CallS K mg (rLenA K) rdLen := by
  intro F μ H vs ds Qd Q o w h k
  unfold rdLen at h
  split at h
  · obtain ⟨v, rfl, wk⟩ := w.one
    refine .inr ⟨_, by rw [wk.str], by rw [S_len, sizeLine_eq]; exact h.1, ?_⟩
    rw [S_len]
    exact fin0 o k (.int _) h.2
  · obtain ⟨v, rfl, wk⟩ := w.one
    obtain ⟨xs, hx, h⟩ := h
    obtain ⟨a, us, rfl, ha, r⟩ := wk.seq o hx
    refine .inl ⟨a, us, rfl, ha, ?_⟩
    rw [r.length]
    exact fin0 o k (.int _) h
  · exact h.elim
def rdAbs : RDn
  | [.int i], μ, Q => Q (.int (if i < 0 then -i else i)) μ
  | _, _, _ => False
@[simp] theorem rdAbs_1 : rdAbs  [.int i0] μ0 Q0 = (Q0 (.int (if i0 < 0 then -i0 else i0)) μ0) := rfl
theorem cs_abs : CallS K mg (fun xs H Q => ∃ i, xs = [.int i] ∧ Q (.int (if i < 0 then -i else i)) H) rdAbs := by
  intro F μ H vs ds Qd Q o w h k
  unfold rdAbs at h
  split at h
  · obtain ⟨v, rfl, wk⟩ := w.one
    exact ⟨_, by rw [wk.int], fin0 o k (.int _) h⟩
  · exact h.elim
def rdInt : RDn
  | [.int i], μ, Q => Q (.int i) μ
  | [.bl k], μ, Q => Q (.int (if k then 1 else 0)) μ
  | _, _, _ => False
@[simp] theorem rdInt_1 : rdInt  [.int i0] μ0 Q0 = (Q0 (.int i0) μ0) := rfl
@[simp] theorem rdInt_2 : rdInt  [.bl k0] μ0 Q0 = (Q0 (.int (if k0 then 1 else 0)) μ0) := rfl
def rdTuple : RDn
  | [.tup xs], μ, Q => Q (.tup xs) μ
  | [d], μ, Q => ∃ xs, lstOf μ d = some xs ∧ Q (.tup xs) μ
  | _, _, _ => False
@[simp] theorem rdTuple_1 : rdTuple  [.tup xs0] μ0 Q0 = (Q0 (.tup xs0) μ0) := rfl
@[simp] theorem rdTuple_2 : rdTuple  [.lst zs0] μ0 Q0 = (∃ xs, lstOf μ0 (.lst zs0) = some xs ∧ Q0 (.tup xs) μ0) := rfl
@[simp] theorem rdTuple_3 : rdTuple  [.scr zs0] μ0 Q0 = (∃ xs, lstOf μ0 (.scr zs0) = some xs ∧ Q0 (.tup xs) μ0) := rfl
@[simp] theorem rdTuple_4 : rdTuple  [.ref za0] μ0 Q0 = (∃ xs, lstOf μ0 (.ref za0) = some xs ∧ Q0 (.tup xs) μ0) := rfl
def rdList : RDn
  | [d], μ, Q => ∃ xs, seqOf μ d = some xs ∧ Q (.lst xs) μ
  | _, _, _ => False
@[simp] theorem rdList_1 : rdList  [.tup zs0] μ0 Q0 = (∃ xs, seqOf μ0 (.tup zs0) = some xs ∧ Q0 (.lst xs) μ0) := rfl
@[simp] theorem rdList_2 : rdList  [.lst zs0] μ0 Q0 = (∃ xs, seqOf μ0 (.lst zs0) = some xs ∧ Q0 (.lst xs) μ0) := rfl
@[simp] theorem rdList_3 : rdList  [.scr zs0] μ0 Q0 = (∃ xs, seqOf μ0 (.scr zs0) = some xs ∧ Q0 (.lst xs) μ0) := rfl
@[simp] theorem rdList_4 : rdList  [.ref za0] μ0 Q0 = (∃ xs, seqOf μ0 (.ref za0) = some xs ∧ Q0 (.lst xs) μ0) := rfl
def rdStr : RDn
  | [.int i], μ, Q => i.natAbs.log2 < 1920 ∧ Q (.str (toString i : Str).cps.toList) μ
  | _, _, _ => False
@[simp] theorem rdStr_1 : rdStr  [.int i0] μ0 Q0 = (i0.natAbs.log2 < 1920 ∧ Q0 (.str (toString i0 : Str).cps.toList) μ0) := rfl
def rdSum : RDn
  | [d], μ, Q => ∃ ns : List Int, lstOf μ d = some (ns.map D.int) ∧ Q (.int ns.sum) μ
  | _, _, _ => False
@[simp] theorem rdSum_1 : rdSum  [.lst zs0] μ0 Q0 = (∃ ns : List Int, lstOf μ0 (.lst zs0) = some (ns.map D.int) ∧ Q0 (.int ns.sum) μ0) := rfl
@[simp] theorem rdSum_2 : rdSum  [.scr zs0] μ0 Q0 = (∃ ns : List Int, lstOf μ0 (.scr zs0) = some (ns.map D.int) ∧ Q0 (.int ns.sum) μ0) := rfl
@[simp] theorem rdSum_3 : rdSum  [.ref za0] μ0 Q0 = (∃ ns : List Int, lstOf μ0 (.ref za0) = some (ns.map D.int) ∧ Q0 (.int ns.sum) μ0) := rfl
def rdAll : RDn
  | [d], μ, Q => ∃ bs : List Bool, lstOf μ d = some (bs.map D.bl) ∧ Q (.bl (bs.all id)) μ
  | _, _, _ => False
@[simp] theorem rdAll_1 : rdAll  [.lst zs0] μ0 Q0 = (∃ bs : List Bool, lstOf μ0 (.lst zs0) = some (bs.map D.bl) ∧ Q0 (.bl (bs.all id)) μ0) := rfl
@[simp] theorem rdAll_2 : rdAll  [.scr zs0] μ0 Q0 = (∃ bs : List Bool, lstOf μ0 (.scr zs0) = some (bs.map D.bl) ∧ Q0 (.bl (bs.all id)) μ0) := rfl
@[simp] theorem rdAll_3 : rdAll  [.ref za0] μ0 Q0 = (∃ bs : List Bool, lstOf μ0 (.ref za0) = some (bs.map D.bl) ∧ Q0 (.bl (bs.all id)) μ0) := rfl
def rdAny : RDn
  | [d], μ, Q => ∃ bs : List Bool, lstOf μ d = some (bs.map D.bl) ∧ Q (.bl (bs.any id)) μ
  | _, _, _ => False
@[simp] theorem rdAny_1 : rdAny  [.lst zs0] μ0 Q0 = (∃ bs : List Bool, lstOf μ0 (.lst zs0) = some (bs.map D.bl) ∧ Q0 (.bl (bs.any id)) μ0) := rfl
@[simp] theorem rdAny_2 : rdAny  [.scr zs0] μ0 Q0 = (∃ bs : List Bool, lstOf μ0 (.scr zs0) = some (bs.map D.bl) ∧ Q0 (.bl (bs.any id)) μ0) := rfl
@[simp] theorem rdAny_3 : rdAny  [.ref za0] μ0 Q0 = (∃ bs : List Bool, lstOf μ0 (.ref za0) = some (bs.map D.bl) ∧ Q0 (.bl (bs.any id)) μ0) := rfl
def rdMax : RDn
  | [d], μ, Q => ∃ ns : List Int, lstOf μ d = some (ns.map D.int) ∧ 0 < ns.length ∧ ∀ m, m ∈ ns → (∀ y, y ∈ ns → y ≤ m) → Q (.int m) μ
  | [.int i, .int j], μ, Q => Q (.int (if j > i then j else i)) μ
  | _, _, _ => False
@[simp] theorem rdMax_1 : rdMax  [.lst zs0] μ0 Q0 = (∃ ns : List Int, lstOf μ0 (.lst zs0) = some (ns.map D.int) ∧ 0 < ns.length ∧ ∀ m, m ∈ ns → (∀ y, y ∈ ns → y ≤ m) → Q0 (.int m) μ0) := rfl
@[simp] theorem rdMax_2 : rdMax  [.scr zs0] μ0 Q0 = (∃ ns : List Int, lstOf μ0 (.scr zs0) = some (ns.map D.int) ∧ 0 < ns.length ∧ ∀ m, m ∈ ns → (∀ y, y ∈ ns → y ≤ m) → Q0 (.int m) μ0) := rfl
@[simp] theorem rdMax_3 : rdMax  [.ref za0] μ0 Q0 = (∃ ns : List Int, lstOf μ0 (.ref za0) = some (ns.map D.int) ∧ 0 < ns.length ∧ ∀ m, m ∈ ns → (∀ y, y ∈ ns → y ≤ m) → Q0 (.int m) μ0) := rfl
@[simp] theorem rdMax_4 : rdMax  [.int i0, .int j0] μ0 Q0 = (Q0 (.int (if j0 > i0 then j0 else i0)) μ0) := rfl
def rdMin : RDn
  | [d], μ, Q => ∃ ns : List Int, lstOf μ d = some (ns.map D.int) ∧ 0 < ns.length ∧ ∀ m, m ∈ ns → (∀ y, y ∈ ns → m ≤ y) → Q (.int m) μ
  | [.int i, .int j], μ, Q => Q (.int (if j < i then j else i)) μ
  | _, _, _ => False
@[simp] theorem rdMin_1 : rdMin  [.lst zs0] μ0 Q0 = (∃ ns : List Int, lstOf μ0 (.lst zs0) = some (ns.map D.int) ∧ 0 < ns.length ∧ ∀ m, m ∈ ns → (∀ y, y ∈ ns → m ≤ y) → Q0 (.int m) μ0) := rfl
@[simp] theorem rdMin_2 : rdMin  [.scr zs0] μ0 Q0 = (∃ ns : List Int, lstOf μ0 (.scr zs0) = some (ns.map D.int) ∧ 0 < ns.length ∧ ∀ m, m ∈ ns → (∀ y, y ∈ ns → m ≤ y) → Q0 (.int m) μ0) := rfl
@[simp] theorem rdMin_3 : rdMin  [.ref za0] μ0 Q0 = (∃ ns : List Int, lstOf μ0 (.ref za0) = some (ns.map D.int) ∧ 0 < ns.length ∧ ∀ m, m ∈ ns → (∀ y, y ∈ ns → m ≤ y) → Q0 (.int m) μ0) := rfl
@[simp] theorem rdMin_4 : rdMin  [.int i0, .int j0] μ0 Q0 = (Q0 (.int (if j0 < i0 then j0 else i0)) μ0) := rfl
end

mutual
/-- may be written out by repr -/
def D.shows : D → Bool
  | .non => true | .bl _ => true | .int i => decide (i.natAbs.log2 < 1920) | .str _ => true
  | .tup xs => D.showsAll xs | .lst xs => D.showsAll xs
  | _ => false
def D.showsAll : List D → Bool
  | [] => true
  | x :: xs => x.shows && D.showsAll xs
end
mutual
theorem D.shows_flat : ∀ d : D, d.shows = true → d.flat = true ∧ d.py.showable = true ∧ d.py.hasDict = false
  | .non, _ => ⟨rfl, rfl, rfl⟩
  | .bl _, _ => ⟨rfl, rfl, rfl⟩
  | .int _, h => ⟨rfl, h, rfl⟩
  | .str _, _ => ⟨rfl, rfl, rfl⟩
  | .tup xs, h => D.showsAll_flat xs h
  | .lst xs, h => D.showsAll_flat xs h
  | .dct _, h => nomatch h
  | .scr _, h => nomatch h
  | .ref _, h => nomatch h
  | .ty _, h => nomatch h
  | .gl _, h => nomatch h
theorem D.showsAll_flat : ∀ ds : List D, D.showsAll ds = true → D.flats ds = true ∧ PyData.showableAll (D.pys ds) = true ∧ PyData.hasDictAll (D.pys ds) = false
  | [], _ => ⟨rfl, rfl, rfl⟩
  | x :: xs, h => by
    have h' := Bool.and_eq_true_iff.mp h
    obtain ⟨a1, a2, a3⟩ := D.shows_flat x h'.1
    obtain ⟨b1, b2, b3⟩ := D.showsAll_flat xs h'.2
    refine ⟨?_, ?_, ?_⟩
    · show (x.flat && D.flats xs) = true
      rw [a1, b1]; rfl
    · show (x.py.showable && PyData.showableAll (D.pys xs)) = true
      rw [a2, b2]; rfl
    · show (x.py.hasDict || PyData.hasDictAll (D.pys xs)) = false
      rw [a3, b3]; rfl
end
/-- the text of repr -/
def D.rep (d : D) : List Nat := d.py.shown.cps.toList
def repOk (d : D) : Prop := d.shows = true ∧ d.py.depth ≤ 50 ∧ d.rep.length ≤ SZ
def rdRepr : RDn
  | [d], μ, Q => repOk d ∧ Q (.str d.rep) μ
  | _, _, _ => False
@[simp] theorem rdRepr_1 {d : D} {μ : Sto} {Q : DK} : rdRepr [d] μ Q = (repOk d ∧ Q (.str d.rep) μ) := rfl
def rReprA (K : PySem.W.Frag) : List V → Hp → VK → Prop := fun xs H Q => ∃ x d, xs = [x] ∧ Dp K H x d ∧ d.showable = true ∧ d.hasDict = false ∧ d.depth ≤ 50 ∧ d.shown.length ≤ sizeLine ∧ Q (.str d.shown) H
theorem call_reprA {X : Cx} (quiet : Quiet X.A) (hu : X.A.units + 64 < cLine) : CallR X (.builtin "repr") (rReprA X.K) := by
  intro pins s σ H xs us Q I r h
  obtain ⟨x, d, rfl, hd, hs, hn, hdep, hsz, q⟩ := h
  obtain ⟨u, rfl, ru⟩ := Vals.one r
  obtain ⟨as, reads⟩ := Dp.reads I d x u hd ru
  have done : ∀ (tk : Nat) (t : Tok), EP X pins σ Q (.str d.shown t) { s with toks := tk } := fun tk t => ⟨.str d.shown, H, I.tok _, ⟨_, rfl⟩, q⟩
  cases hd with
  | non => cases ru; exact PySem.P.repr_of_none (done _ _)
  | bl b => cases ru; exact PySem.P.repr_of_bool (done _ _)
  | int i =>
    obtain ⟨t, rfl⟩ := ru
    exact PySem.P.repr_of_int (of_decide_eq_true hs) (done _ _)
  | str z =>
    obtain ⟨t, rfl⟩ := ru
    exact PySem.P.repr_of_str (done _ _) hsz
  | lst h1 h2 =>
    cases ru
    exact repr_of_reads' reads hs (fun c => by rw [hn] at c; cases c) quiet (by omega) (fun _ _ e => e) (fun h' t tk keep => ⟨.str _, H, I.kept keep, ⟨_, rfl⟩, q⟩) hsz
  | tup h1 h2 =>
    cases ru
    exact repr_of_reads' reads hs (fun c => by rw [hn] at c; cases c) quiet (by omega) (fun _ _ e => e) (fun h' t tk keep => ⟨.str _, H, I.kept keep, ⟨_, rfl⟩, q⟩) hsz
theorem cs_repr {K : PySem.W.Frag} {mg : Str → Option Value} : CallS K mg (rReprA K) rdRepr := by
  intro F μ H vs ds Qd Q o w h k
  unfold rdRepr at h
  split at h
  · obtain ⟨v, rfl, wk⟩ := w.one
    obtain ⟨⟨h1, h2, h3⟩, q⟩ := h
    obtain ⟨f1, f2, f3⟩ := D.shows_flat _ h1
    refine ⟨v, _, rfl, wk.dp o f1, f2, f3, h2, by rw [sizeLine_eq, ← S_of (D.py _).shown, S_len]; exact h3, ?_⟩
    have := fin0 o k (.str (D.rep _)) q
    unfold D.rep at this
    rw [S_of] at this
    exact this
  · exact h.elim

abbrev RDm := D → List D → Sto → DK → Prop
def MtS (K : PySem.W.Frag) (mg : Str → Option Value) (r : V → List V → Hp → VK → Prop) (rd : RDm) : Prop :=
  ∀ (F : Hp) (μ : Sto) (H : Hp) (v : V) (vs : List V) (d : D) (ds : List D) (Qd : DK) (Q : VK), Ok K mg F μ H → Wk K mg F μ H v d → Wks K mg F μ H vs ds → rd d ds μ Qd →
    (∀ v F' μ' H' dv, Ext F μ H F' μ' H' → Ok K mg F' μ' H' → Dt K mg F' v dv → Qd dv μ' → Q v H') → r v vs H Q
/-- of which built-in type the receiver is -/
@[simp] def tyD (μ : Sto) (T : String) (d : D) : Prop := match d with
  | .str _ => T = "str"
  | .int _ => T = "int"
  | d => T = "list" ∧ ∃ xs, lstOf μ d = some xs
@[simp] def dMt (T : String) (rd : RDm) (o : TED) (t : TAD) : TED := fun ρ μ Q => o ρ μ fun x μ1 => tyD μ1 T x ∧ t ρ μ1 fun ds μ2 => rd x ds μ2 Q
theorem Wk.ty' {K : PySem.W.Frag} {mg : Str → Option Value} {F H : Hp} {μ : Sto} (o : Ok K mg F μ H) {T : String} {v : V} {d : D} (w : Wk K mg F μ H v d) (h : tyD μ T d) : tyV K T v H := by
  have other : (T = "list" ∧ ∃ xs, lstOf μ d = some xs) → tyV K T v H := fun ⟨e, xs, hx⟩ => by
    obtain ⟨a, vs, rfl, ha, r⟩ := w.list o hx
    exact .inl ⟨e, vs, ha⟩
  cases d with
  | str s => rw [w.str]; exact h
  | int i => rw [w.int]; exact h
  | _ => exact other h
section
variable {X : Cx} {o e : Expr} {es : List Expr} {d : TED} {t : TAD} {name : Str} {apos cpos : Pos} {T id : String} {r : V → List V → Hp → VK → Prop} {rd : RDm}
theorem de_mt (pa : PlainAttrs T) (slot : Slot T name id) (hty : typeOf (.builtin id) = pure (.type "method_descriptor")) (hm : MtR X id r) (hs : MtS X.K X.mg r rd) (ho : DW X o d) (ha : DAW X (e :: es) t)
    (hbase : attributeBase o name X.env (eval o X.env) = eval o X.env := by rfl)
    (hfew : ((backTo cpos (starEach (e :: es) X.env)).all (fun x => !x.1) && (backToKw cpos (keywordEach [] X.env)).all (fun x => x.1.isSome) && decide ((e :: es).length + ([] : List Keyword).length + (if ([] : List Keyword).isEmpty then 0 else 1) < 30)) = true := by rfl)
    (hline : (apos.endLine == cpos.line) = true := by rfl) (hst : starEach (e :: es) X.env = (false, eval e X.env) :: starEach es X.env := by rfl) (hplain : (backTo cpos (starEach es X.env)).any (·.1) = false := by rfl) :
    DE X (.Call (.Attribute o name apos) (e :: es) [] cpos) (dMt T rd d t) := (pe_bm pa slot hty hm ho ha hbase hfew hline hst hplain).weaken fun σ H Q q => by
  obtain ⟨F, ρ, μ, Qd, R, hd, k⟩ := q
  refine ⟨F, ρ, μ, _, R, hd, fun v F1 μ1 H1 dv e1 o1 w1 q1 => ⟨w1.ty' o1 q1.1, F1, ρ, μ1, _, R.ext e1 o1, q1.2, fun vs F2 μ2 H2 ds e2 o2 w2 q2 => ?_⟩⟩
  exact hs F2 μ2 H2 v vs dv ds Qd Q o2 (w1.ext e2) w2 q2 fun z F3 μ3 H3 dz e3 o3 w3 q3 => k z F3 μ3 H3 dz (e1.trans (e2.trans e3)) o3 w3 q3
end
/-- the texts joined -/
def joinL (sep : List Nat) : List (List Nat) → List Nat
  | [] => []
  | x :: r => x ++ (r.map fun y => sep ++ y).flatten
theorem join_S (sep : List Nat) (parts : List (List Nat)) : PySem.Txt.join (S sep) (parts.map S) = S (joinL sep parts) := by
  have go : ∀ (r : List (List Nat)) (acc : List Nat), (r.map S).foldl (fun acc p => acc ++ (S sep).cps ++ p.cps) acc.toArray = (acc ++ (r.map fun y => sep ++ y).flatten).toArray := by
    intro r
    induction r with
    | nil => intro acc; simp
    | cons x r ih =>
      intro acc
      rw [List.map_cons, List.foldl_cons]
      have e : acc.toArray ++ (S sep).cps ++ (S x).cps = (acc ++ sep ++ x).toArray := by simp
      rw [e, ih]
      simp
  show Builtin.Str.glued (S sep) (parts.map S) = _
  unfold Builtin.Str.glued
  cases parts with
  | nil => rfl
  | cons x r =>
    rw [List.map_cons]
    have := go r x
    show (⟨_⟩ : Str) = _
    rw [List.drop_one, List.tail_cons, List.headD_cons, this]
    rfl
theorem strs_len (parts : List (List Nat)) : ((parts.map S).map (·.length)).sum = (parts.map List.length).sum := by
  rw [List.map_map]
  exact congrArg List.sum (List.map_congr_left fun x _ => S_len x)
def rdJoin : RDm
  | .str sep, [d], μ, Q => ∃ parts : List (List Nat), seqOf μ d = some (parts.map D.str) ∧ (parts.map List.length).sum + parts.length * sep.length ≤ SZ ∧ Q (.str (joinL sep parts)) μ
  | _, _, _, _ => False
@[simp] theorem rdJoin_1 : rdJoin  (.str sep0) [.tup zs0] μ0 Q0 = (∃ parts : List (List Nat), seqOf μ0 (.tup zs0) = some (parts.map D.str) ∧ (parts.map List.length).sum + parts.length * sep0.length ≤ SZ ∧ Q0 (.str (joinL sep0 parts)) μ0) := rfl
@[simp] theorem rdJoin_2 : rdJoin  (.str sep0) [.lst zs0] μ0 Q0 = (∃ parts : List (List Nat), seqOf μ0 (.lst zs0) = some (parts.map D.str) ∧ (parts.map List.length).sum + parts.length * sep0.length ≤ SZ ∧ Q0 (.str (joinL sep0 parts)) μ0) := rfl
@[simp] theorem rdJoin_3 : rdJoin  (.str sep0) [.scr zs0] μ0 Q0 = (∃ parts : List (List Nat), seqOf μ0 (.scr zs0) = some (parts.map D.str) ∧ (parts.map List.length).sum + parts.length * sep0.length ≤ SZ ∧ Q0 (.str (joinL sep0 parts)) μ0) := rfl
@[simp] theorem rdJoin_4 : rdJoin  (.str sep0) [.ref za0] μ0 Q0 = (∃ parts : List (List Nat), seqOf μ0 (.ref za0) = some (parts.map D.str) ∧ (parts.map List.length).sum + parts.length * sep0.length ≤ SZ ∧ Q0 (.str (joinL sep0 parts)) μ0) := rfl
theorem ms_join {K : PySem.W.Frag} {mg : Str → Option Value} : MtS K mg (fun x xs H Q => ∃ a p, ∃ ys : List Str, x = .str a ∧ xs = [.ref p] ∧ (SqL K H p (ys.map V.str) ∨ SqT K H p (ys.map V.str)) ∧ (ys.map (·.length)).sum + ys.length * a.length ≤ 16777216 ∧ Q (.str (PySem.Txt.join a ys)) H) rdJoin := by
  intro F μ H v vs d ds Qd Q o w ws h k
  unfold rdJoin at h
  split at h
  · obtain ⟨u, rfl, wk⟩ := ws.one
    obtain ⟨parts, hx, hz, h⟩ := h
    obtain ⟨a, us, rfl, ha, r⟩ := wk.seq o hx
    rw [r.strs] at ha
    refine ⟨_, a, parts.map S, w.str, rfl, ha, ?_, ?_⟩
    · rw [strs_len, List.length_map, S_len]; exact hz
    · rw [join_S]
      exact fin0 o k (.str _) h
  · exact h.elim
/-- the first place of a sign from a place on, or -1 -/
def findI (s : List Nat) (c : Nat) (b : Nat) : Int := match (s.drop b).findIdx? (· == c) with
  | some k => ((b + k : Nat) : Int)
  | none => -1
def rdFind : RDm
  | .str s, [.str [c], .int i], μ, Q => 0 ≤ i ∧ Q (.int (findI s c i.toNat)) μ
  | _, _, _, _ => False
@[simp] theorem rdFind_1 : rdFind  (.str s0) [.str [c0], .int i0] μ0 Q0 = (0 ≤ i0 ∧ Q0 (.int (findI s0 c0 i0.toNat)) μ0) := rfl
end DL

namespace DL
open PySem PySem.Spec PyProof.Rows L2
section
variable {X : Cx} {B : Bs} {e o i : Expr} {es : List Expr} {d do' di : TED} {t : TAD} {p pos : Pos}
/-- a new list as one that changes -/
@[simp] def dM (d : TFD) : TED := fun ρ μ Q => d ρ μ fun xs μ1 => ∀ p, μ1 p = none → Q (.ref p) (sset μ1 p (.lst xs))
theorem de_M {d : TFD} (h : DF X e d) : DE X e (dM d) := h.weaken fun σ H Q q => by
  obtain ⟨F, ρ, μ, Qd, R, hd, k⟩ := q
  refine ⟨F, ρ, μ, _, R, hd, fun p vs F' μ' H' ds e o hn hf hm hh w q => ?_⟩
  refine k _ F' (sset μ' p (.lst ds)) H' _ ⟨e.mono, fun a x z n => ?_, e.live⟩ ⟨o.sub, fun a m z => ?_, fun a m z => ?_⟩ (.ref p) (q p hm)
  · obtain ⟨g1, g2, g3⟩ := e.keep a x z n
    have ha : a ≠ p := fun q => by subst q; rw [hn] at z; cases z
    exact ⟨g1, g2, by rw [sset_ne ha]; exact g3⟩
  · by_cases ha : a = p
    · subst ha; exact hf
    · rw [sset_ne ha] at z; exact o.dis a m z
  · by_cases ha : a = p
    · subst ha; rw [sset_same] at z; cases z; exact ⟨vs, hh, w⟩
    · rw [sset_ne ha] at z; exact o.sto a m z
section
variable {name : Str} {apos cpos : Pos} {T id : String} {r : V → List V → Hp → VK → Prop} {rd : RDm}
end
def rdApp : RDm
  | .ref a, [y], μ, Q => ∃ xs, μ a = some (.lst xs) ∧ xs.length < SZ ∧ Q .non (sset μ a (.lst (xs ++ [y])))
  | _, _, _, _ => False
@[simp] theorem rdApp_1 : rdApp  (.ref a0) [y0] μ0 Q0 = (∃ xs, μ0 a0 = some (.lst xs) ∧ xs.length < SZ ∧ Q0 .non (sset μ0 a0 (.lst (xs ++ [y0])))) := rfl
/-- pop() -/
def rdPop0 : RDm
  | .ref a, [], μ, Q => ∃ xs y, μ a = some (.lst xs) ∧ xs[xs.length - 1]? = some y ∧ Q y (sset μ a (.lst xs.dropLast))
  | _, _, _, _ => False
@[simp] theorem rdPop0_1 : rdPop0  (.ref a0) [] μ0 Q0 = (∃ xs y, μ0 a0 = some (.lst xs) ∧ xs[xs.length - 1]? = some y ∧ Q0 y (sset μ0 a0 (.lst xs.dropLast))) := rfl
/-- pop(i) -/
def rdPopAt : RDm
  | .ref a, [.int i], μ, Q => ∃ xs j y, μ a = some (.lst xs) ∧ -9223372036854775808 ≤ i ∧ i < 9223372036854775808 ∧ seqIndex? i xs.length = some j ∧ xs[j]? = some y ∧ Q y (sset μ a (.lst (xs.eraseIdx j)))
  | _, _, _, _ => False
@[simp] theorem rdPopAt_1 : rdPopAt  (.ref a0) [.int i0] μ0 Q0 = (∃ xs j y, μ0 a0 = some (.lst xs) ∧ -9223372036854775808 ≤ i0 ∧ i0 < 9223372036854775808 ∧ seqIndex? i0 xs.length = some j ∧ xs[j]? = some y ∧ Q0 y (sset μ0 a0 (.lst (xs.eraseIdx j)))) := rfl
theorem Dts.eraseIdx {K : PySem.W.Frag} {mg : Str → Option Value} {F : Hp} : ∀ {vs : List V} {ds : List D} (n : Nat), Dts K mg F vs ds → Dts K mg F (vs.eraseIdx n) (ds.eraseIdx n)
  | _, _, _, .nil => .nil
  | _, _, 0, .cons _ t => t
  | _, _, n + 1, .cons q t => .cons q (Dts.eraseIdx n t)
theorem Dts.dropLast {K : PySem.W.Frag} {mg : Str → Option Value} {F : Hp} {vs : List V} {ds : List D} (h : Dts K mg F vs ds) : Dts K mg F vs.dropLast ds.dropLast := by
  rw [List.dropLast_eq_take, List.dropLast_eq_take, h.length]
  exact h.take _
/-- o a list that changes -/
@[simp] def dPutM (d o i : TED) : TSD := fun E ρ μ => d ρ μ fun y μ1 => o ρ μ1 fun x μ2 => i ρ μ2 fun k μ3 => ∃ a xs n j, x = .ref a ∧ k = .int n ∧ μ3 a = some (.lst xs) ∧ ixN xs.length n = some j ∧ E.nx ρ (sset μ3 a (.lst (xs.set j y)))
theorem ds_putM {spos : Pos} (he : DE X e d) (ho : DE X o do') (hi : DW X i di)
    (ha : ∀ v, assign (.Subscript o i spos) X.env v = (do
      let ov ← holding [v] (eval o X.env)
      let iv ← holding [v, ov] (eval i X.env)
      standAt spos
      holding [v, ov, iv] (setItem ov iv v)
      release [v, ov, iv] []) := by intro _; rfl)
    (hs : swapsWithSole [.Subscript o i spos] e pos.line X.env = pure false := by rfl) (hw : swappedStores [.Subscript o i spos] e X.env = pure none := by rfl) (h1 : (assignEach [.Subscript o i spos] X.env).map (·.2) = [assign (.Subscript o i spos) X.env] := by rfl) :
    DSt X B (.Assign [.Subscript o i spos] e pos) (dPutM d do' di) := (ps_asg he (pg_sub ho hi set_list ha) hs hw h1).weaken fun E σ H h => by
  obtain ⟨F, ρ, μ, Dd, R, hd, kn, kb, kc, kr⟩ := h
  refine ⟨F, ρ, μ, _, R.rel, hd, fun v F1 μ1 H1 dv e1 o1 w1 q1 => ?_⟩
  refine ⟨F1, ρ, μ1, _, R.rel.ext e1 o1, q1, fun u F2 μ2 H2 du e2 o2 w2 q2 => ?_⟩
  refine ⟨F2, ρ, μ2, _, R.rel.ext (e1.trans e2) o2, q2, fun z F3 μ3 H3 dz e3 o3 w3 q3 => ?_⟩
  obtain ⟨a, xs, n, j, rfl, rfl, hx, hj, q⟩ := q3
  cases w2
  obtain ⟨us, hus, ru⟩ := o3.sto _ _ hx
  have e13 := e1.trans (e2.trans e3)
  obtain ⟨g1, g2⟩ := o3.write hx (.lst (us.set j v)) (.lst (xs.set j dv)) ⟨_, upd_same, ru.set ((w1.mono e2.mono).mono e3.mono) j⟩
  exact ⟨a, us, n, j, rfl, w3.int, hus, by rw [ru.length]; exact hj, kn F3 ρ _ σ _ (e13.trans g2).mono (R.step (e13.trans g2) g1) q⟩
/-- o a name of a list of the frame's own -/
@[simp] def dPut (sl : Nat) (d i : TED) : TSD := fun E ρ μ => ∃ xs, ρ[sl]? = some (some (.own xs)) ∧ d ρ μ fun y μ1 => i ρ μ1 fun k μ2 => ∃ n j, k = .int n ∧ ixN xs.length n = some j ∧ E.nx (ρ.set sl (some (.own (xs.set j y)))) μ2
end
end DL

namespace DL
open PySem PySem.Spec PyProof.Rows L2
theorem rev_S (s : List Nat) (u : Tok) : PySem.Txt.sliceBy (S s) none none (-1, u) = S s.reverse := by
  have h := PyProof.Rows.step_rev_list (S s) u
  have e : (List.range (S s).length).map (fun k => (S s).cps.getD ((S s).length - 1 - k) 0) = s.reverse := by
    rw [S_len]
    apply List.ext_getElem?
    intro i
    by_cases hi : i < s.length
    · rw [List.getElem?_map, List.getElem?_range hi, List.getElem?_reverse hi]
      have hj : s.length - 1 - i < s.length := by omega
      simp [List.getElem?_eq_getElem hj]
    · rw [List.getElem?_eq_none (by simp; omega), List.getElem?_eq_none (by simp; omega)]
  rw [e] at h
  rw [← S_of (PySem.Txt.sliceBy (S s) none none (-1, u)), h]
section
variable {X : Cx} {e : Expr} {d : TED} {t : TAD} {p pos : Pos}
def tRevS (te : TE) : TE := fun σ H Q => te σ H fun x H1 => ∃ z, x = .str (S z) ∧ z.length ≤ sizeLine ∧ Q (.str (S z.reverse)) H1
theorem pe_revS {te : TE} {k : Nat} {p1 p2 p3 : Pos} (he : PE X e te) : PE X (.Subscript e (.Slice none none (some (.UnaryOp .USub (.Constant (.int 1) k p1) p2)) p3) pos) (tRevS te) := by
  refine ⟨fun pins s σ H Q I h => Subscript_ (thn (he.run pins s σ H _ I h) ?_)⟩
  rintro v s1 ⟨x, H1, I1, r1, z, rfl, hz, q⟩
  obtain ⟨tk, rfl⟩ := r1
  have step : PO X (some (.UnaryOp .USub (.Constant (.int 1) k p1) p2)) (tPart (tUn (rU fun i => .int (-i)) (tC (.int 1)))) := po_some (pe_un un_neg pe_int)
  refine wpAny_Slice (thn (po_none.run pins s1 σ H1 (fun o H2 => o = none ∧ H2 = H1) I1 ⟨rfl, rfl⟩) ?_)
  rintro vl s2 ⟨l, H2, I2, pl, rfl, rfl⟩
  refine thn (po_none.run pins s2 σ H2 (fun o H3 => o = none ∧ H3 = H2) I2 ⟨rfl, rfl⟩) ?_
  rintro vu s3 ⟨u, H3, I3, pu, rfl, rfl⟩
  refine thn (step.run pins s3 σ H3 (fun o H4 => o = some (-1) ∧ H4 = H3) I3 ⟨1, rfl, -1, rfl, rfl, rfl⟩) ?_
  rintro vs s4 ⟨o, H4, I4, ps, rfl, rfl⟩
  cases pl
  cases pu
  obtain ⟨uk, rfl⟩ : ∃ uk, vs = .int (-1) uk := by cases ps; exact ⟨_, rfl⟩
  refine tail_any (ops := [.str (S z) tk, .ref s4.heap.objs.size]) (typeIs_str _ _ _) PySem.F.slot_str_getitem.lookup ?_ (by with_unfolding_all rfl)
  refine wpAny_getItem_str_slice (l := none) (u := none) (st := some (-1, uk)) ⟨_, Heap.get?_push_size _ rfl, rfl, rfl⟩ rfl (post_val_or_str ⟨?_, fun t' c => ?_⟩)
  · exact Nat.le_trans (PySem.Txt.sliceBy_le _ none none (-1, uk) (fun z => by cases z)) (by rw [S_len]; exact hz)
  · refine ⟨.str _, H4, I4.kept (fun b ob w => Heap.get?_push_of_some _ w), ⟨t', rfl⟩, ?_⟩
    have e := rev_S z uk
    show Q (V.str (PySem.Txt.sliceBy (S z) none none (-1, uk))) H4
    rw [e]
    exact q
@[simp] def dRev (d : TED) : TED := fun ρ μ Q => d ρ μ fun x μ1 => match x with
  | .str s => s.length ≤ SZ ∧ Q (.str s.reverse) μ1
  | _ => False
theorem de_rev {k : Nat} {p1 p2 p3 : Pos} (he : DW X e d) : DE X (.Subscript e (.Slice none none (some (.UnaryOp .USub (.Constant (.int 1) k p1) p2)) p3) pos) (dRev d) := (pe_revS he).weaken fun σ H Q q => by
  obtain ⟨F, ρ, μ, Qd, R, hd, k⟩ := q
  refine ⟨F, ρ, μ, _, R, hd, fun v F1 μ1 H1 dv e1 o1 w1 q1 => ?_⟩
  cases dv <;> first | exact q1.elim | skip
  exact ⟨_, w1.str, by rw [sizeLine_eq]; exact q1.1, k _ F1 μ1 H1 _ e1 o1 (.str _) q1.2⟩
@[simp] def dRevL (d : TED) : TED := fun ρ μ Q => d ρ μ fun x μ1 => ∃ xs, lstOf μ1 x = some xs ∧ Q (.lst xs.reverse) μ1
end
end DL

namespace DL
open PySem PySem.Spec PyProof.Rows L2
theorem forD_inv {g : TGD} {body : TSD} {E : DEnds} {inv : Sto → Prop} (P : List D → DEnv → Sto → Prop) (hi : ∀ xs ρ μ, P xs ρ μ → inv μ)
    (step : ∀ x xs ρ μ (n : DEnv → Sto → Prop), P (x :: xs) ρ μ → (∀ ρ' μ', P xs ρ' μ' → n ρ' μ') → g x ρ fun ρ1 => body { E with nx := n, ct := n, bk := E.nx } ρ1 μ) (done : ∀ ρ μ, P [] ρ μ → E.nx ρ μ) :
    ∀ items ρ μ, P items ρ μ → forD g body E inv items ρ μ := by
  intro items
  induction items with
  | nil => intro ρ μ h; exact ⟨hi _ _ _ h, done ρ μ h⟩
  | cons x xs ih => intro ρ μ h; exact ⟨hi _ _ _ h, step x xs ρ μ _ h ih⟩
/-- over a range from 0 -/
theorem forD_rng {g : TGD} {body : TSD} {E : DEnds} {n : Nat} (P : Nat → DEnv → Sto → Prop)
    (step : ∀ (i : Nat) ρ μ (k : DEnv → Sto → Prop), i < n → P i ρ μ → (∀ ρ' μ', P (i + 1) ρ' μ' → k ρ' μ') → g (.int i) ρ fun ρ1 => body { E with nx := k, ct := k, bk := E.nx } ρ1 μ) (done : ∀ ρ μ, P n ρ μ → E.nx ρ μ)
    {ρ : DEnv} {μ : Sto} (h0 : P 0 ρ μ) : forD g body E still (rngD 0 n) ρ μ := by
  refine forD_inv (fun xs ρ μ => ∃ i, i ≤ n ∧ xs = (rngD 0 n).drop i ∧ P i ρ μ) (fun _ _ _ _ => trivial) ?_ ?_ _ _ _ ⟨0, Nat.zero_le _, rfl, h0⟩
  · rintro x xs ρ μ k ⟨i, hi, e, hP⟩ hk
    have hl : (rngD 0 n).length = n := by simp [rngD]
    have hlt : i < n := by
      apply Decidable.byContradiction
      intro hc
      rw [List.drop_eq_nil_of_le (by omega)] at e
      cases e
    have hd := List.drop_eq_getElem_cons (l := rngD 0 n) (i := i) (by omega)
    rw [← e] at hd
    have hx : x = .int i := by
      rw [(List.cons.inj hd).1]
      simp [rngD]
    subst hx
    exact step i ρ μ k hlt hP fun ρ' μ' h => hk ρ' μ' ⟨i + 1, hlt, (List.cons.inj hd).2, h⟩
  · rintro ρ μ ⟨i, hi, e, hP⟩
    have hl : (rngD 0 n).length = n := by simp [rngD]
    have : i = n := by
      apply Decidable.byContradiction
      intro hc
      have hd := List.drop_eq_getElem_cons (l := rngD 0 n) (i := i) (by omega)
      rw [← e] at hd
      cases hd
    subst this
    exact done ρ μ hP
theorem lcD_inv {vs : List Nat} {g : TGD} {c : TTD} {el : TED} {ρ : DEnv} {inv : Sto → Prop} {Q : List D → Sto → Prop} (P : List D → List D → Sto → Prop) (hi : ∀ xs acc μ, P xs acc μ → inv μ)
    (step : ∀ x xs acc μ (n : List D → Sto → Prop), P (x :: xs) acc μ → (∀ acc' μ', P xs acc' μ' → n acc' μ') → g x (wipeD ρ vs) fun ρ1 => c ρ1 μ fun b μ1 => if b = true then el ρ1 μ1 fun y μ2 => acc.length < SZ ∧ n (acc ++ [y]) μ2 else n acc μ1)
    (done : ∀ acc μ, P [] acc μ → Q acc μ) : ∀ items acc μ, P items acc μ → lcD vs g c el ρ inv Q items acc μ := by
  intro items
  induction items with
  | nil => intro acc μ h; exact ⟨hi _ _ _ h, done acc μ h⟩
  | cons x xs ih => intro acc μ h; exact ⟨hi _ _ _ h, step x xs acc μ (fun a m => lcD vs g c el ρ inv Q xs a m) h ih⟩
/-- each item gives one, nothing changes -/
theorem lcD_map {vs : List Nat} {g : TGD} {el : TED} {ρ : DEnv} {Q : List D → Sto → Prop} {μ : Sto} (f : D → D) (items : List D) (hl : items.length ≤ SZ)
    (step : ∀ x ∈ items, ∀ k : D → Sto → Prop, k (f x) μ → g x (wipeD ρ vs) fun ρ1 => el ρ1 μ k) (done : Q (items.map f) μ) : lcD vs g dYes el ρ still Q items [] μ := by
  refine lcD_inv (fun xs acc μ' => μ' = μ ∧ ∃ pre, items = pre ++ xs ∧ acc = pre.map f) (fun _ _ _ _ => trivial) ?_ ?_ items [] μ ⟨rfl, [], rfl, rfl⟩
  · rintro x xs acc μ' n ⟨rfl, pre, e, rfl⟩ hn
    refine step x (by rw [e]; simp) _ ⟨?_, hn _ _ ⟨rfl, pre ++ [x], by simp [e], by simp⟩⟩
    rw [e] at hl
    simp at hl ⊢
    omega
  · rintro acc μ' ⟨rfl, pre, e, rfl⟩
    rw [List.append_nil] at e
    subst e
    exact done
theorem strD_cons (c : Nat) (s : List Nat) : strD (c :: s) = .str [c] :: strD s := rfl
theorem strD_inv {x : D} {xs : List D} {s : List Nat} (h : x :: xs = strD s) : ∃ c r, s = c :: r ∧ x = .str [c] ∧ xs = strD r := by
  cases s with
  | nil => cases h
  | cons c r => rw [strD_cons] at h; cases h; exact ⟨c, r, rfl, rfl, rfl⟩
theorem strD_nil_inv {s : List Nat} (h : [] = strD s) : s = [] := by
  cases s with
  | nil => rfl
  | cons c r => cases h
end DL

namespace DL
open PySem PySem.Spec PyProof.Rows L2
mutual
/-- data of which repr and == speak -/
def D.ic : D → Prop
  | .non => True
  | .bl _ => True
  | .int i => i.natAbs < 2 ^ 300
  | .str s => ∀ c ∈ s, c < 1114112
  | .tup xs => D.ics xs
  | .lst xs => D.ics xs
  | .dct _ => False | .scr _ => False | .ref _ => False | .ty _ => False | .gl _ => False | .pr _ _ => False | .obj _ _ => False | .exn _ _ => False | .tkt _ _ => False
def D.ics : List D → Prop
  | [] => True
  | x :: xs => x.ic ∧ D.ics xs
end
mutual
def D.wt : D → Nat
  | .int _ => 300
  | .str s => s.length
  | .tup xs => D.wts xs
  | .lst xs => D.wts xs
  | .non => 0 | .bl _ => 0 | .dct _ => 0 | .scr _ => 0 | .ref _ => 0 | .ty _ => 0 | .gl _ => 0 | .pr _ _ => 0 | .obj _ _ => 0 | .exn _ _ => 0 | .tkt _ _ => 0
def D.wts : List D → Nat
  | [] => 0
  | x :: xs => x.wt + 1 + D.wts xs
end
mutual
def D.dp : D → Nat
  | .tup xs => D.dps xs + 1
  | .lst xs => D.dps xs + 1
  | .int _ => 0 | .str _ => 0 | .non => 0 | .bl _ => 0 | .dct _ => 0 | .scr _ => 0 | .ref _ => 0 | .ty _ => 0 | .gl _ => 0 | .pr _ _ => 0 | .obj _ _ => 0 | .exn _ _ => 0 | .tkt _ _ => 0
def D.dps : List D → Nat
  | [] => 0
  | x :: xs => max x.dp (D.dps xs)
end
theorem log_lt {n k : Nat} (hk : 0 < k) (h : n < 2 ^ k) : n.log2 < k := by
  by_cases h0 : n = 0
  · subst h0; simpa using hk
  · exact (Nat.log2_lt h0).mpr h
theorem S_all {s : List Nat} (h : ∀ c ∈ s, c < 1114112) : (S s).cps.all (· < 0x110000) = true := by
  show s.toArray.all _ = true
  rw [List.all_toArray, List.all_eq_true]
  intro c hc
  simpa using h c hc
mutual
theorem D.ic_all : ∀ d : D, d.ic → d.shows = true ∧ d.py.canLay0 = true ∧ d.py.intsShort 302 = true ∧ d.py.weight ≤ d.wt ∧ d.py.depth = d.dp
  | .non, _ => ⟨rfl, rfl, rfl, Nat.le_refl _, rfl⟩
  | .bl _, _ => ⟨rfl, rfl, rfl, Nat.le_refl _, rfl⟩
  | .int i, h => by
    have hl := log_lt (by decide) h
    refine ⟨?_, rfl, ?_, ?_, rfl⟩
    · show decide _ = true
      simp only [decide_eq_true_eq]
      omega
    · show decide _ = true
      simp only [decide_eq_true_eq]
      have := int_text_length_le (a := i) (k := 300) (by decide) hl
      have e : (PyData.shown (.int i)).length = (toString i).length := by
        show (Str.ofString (toString i)).length = _
        rw [PySem.ofString_length]
      rw [e]
      omega
    · show (if i == 0 then 0 else _) ≤ 300
      split <;> omega
  | .str s, h => by
    refine ⟨rfl, S_all h, rfl, ?_, rfl⟩
    show s.toArray.size ≤ s.length
    simp
  | .tup xs, h => by
    obtain ⟨a, b, c, e, f⟩ := D.ics_all xs h
    exact ⟨a, b, c, e, by show _ + 1 = _ + 1; rw [f]⟩
  | .lst xs, h => by
    obtain ⟨a, b, c, e, f⟩ := D.ics_all xs h
    exact ⟨a, b, c, e, by show _ + 1 = _ + 1; rw [f]⟩
  | .dct _, h => h.elim
  | .scr _, h => h.elim
  | .ref _, h => h.elim
  | .ty _, h => h.elim
  | .gl _, h => h.elim
  | .pr _ _, h => h.elim
  | .obj _ _, h => h.elim
  | .exn _ _, h => h.elim
  | .tkt _ _, h => h.elim
theorem D.ics_all : ∀ ds : List D, D.ics ds → D.showsAll ds = true ∧ PyData.canLayAll0 (D.pys ds) = true ∧ PyData.intsShortAll 302 (D.pys ds) = true ∧ PyData.weightAll (D.pys ds) ≤ D.wts ds ∧ PyData.depthAll (D.pys ds) = D.dps ds
  | [], _ => ⟨rfl, rfl, rfl, Nat.le_refl _, rfl⟩
  | x :: xs, h => by
    obtain ⟨a, b, c, e, f⟩ := D.ic_all x h.1
    obtain ⟨a', b', c', e', f'⟩ := D.ics_all xs h.2
    refine ⟨?_, ?_, ?_, ?_, ?_⟩
    · show (x.shows && D.showsAll xs) = true
      rw [a, a']; rfl
    · show (x.py.canLay0 && PyData.canLayAll0 (D.pys xs)) = true
      rw [b, b']; rfl
    · show (x.py.intsShort 302 && PyData.intsShortAll 302 (D.pys xs)) = true
      rw [c, c']; rfl
    · show x.py.weight + 1 + PyData.weightAll (D.pys xs) ≤ x.wt + 1 + D.wts xs
      omega
    · show max x.py.depth (PyData.depthAll (D.pys xs)) = max x.dp (D.dps xs)
      rw [f, f']
end
theorem okEq_of {x y : D} (hx : x.ic) (hy : y.ic) (dx : x.dp ≤ 50) (dy : y.dp ≤ 50) : okEq x y := by
  have sh : ∀ d : D, d.ic → d.dp ≤ 50 → d.flat = true ∧ SeqAt.shaped d.py = true := fun d h hd => by
    obtain ⟨a, b, c, e, f⟩ := D.ic_all d h
    refine ⟨(D.shows_flat d a).1, ?_⟩
    unfold SeqAt.shaped
    rw [b]
    simp only [Bool.true_and, decide_eq_true_eq]
    omega
  exact .inr ⟨(sh x hx dx).1, (sh y hy dy).1, (sh x hx dx).2, (sh y hy dy).2⟩
@[simp] theorem okEq_int (i j : Int) : okEq (.int i) (.int j) := .inl rfl
@[simp] theorem okEq_str (s t : List Nat) : okEq (.str s) (.str t) := .inl rfl
@[simp] theorem okEq_bl (a b : Bool) : okEq (.bl a) (.bl b) := okEq_of trivial trivial (Nat.zero_le _) (Nat.zero_le _)
theorem ics_iff : ∀ xs : List D, D.ics xs ↔ ∀ x ∈ xs, x.ic
  | [] => by simp [D.ics]
  | x :: xs => by simp [D.ics, ics_iff xs]
theorem dps_le {k : Nat} : ∀ xs : List D, (∀ x ∈ xs, x.dp ≤ k) → D.dps xs ≤ k
  | [], _ => by simp [D.dps]
  | x :: xs, h => by
    have h1 := h x (by simp)
    have h2 := dps_le xs fun y hy => h y (by simp [hy])
    simp only [D.dps]
    omega
@[simp] theorem eqv_int (i j : Int) : D.eqv (.int i) (.int j) = decide (i = j) := by
  show (i == j) = _
  by_cases h : i = j <;> simp [h]
@[simp] theorem eqv_str (s t : List Nat) : D.eqv (.str s) (.str t) = decide (s = t) := by
  show (S s == S t) = _
  by_cases h : s = t
  · simp [h]
  · have : S s ≠ S t := fun e => h (S_inj.mp e)
    simp [h, this]
@[simp] theorem eqv_bl (a b : Bool) : D.eqv (.bl a) (.bl b) = (a == b) := rfl
@[simp] theorem eqv_non : D.eqv .non .non = true := rfl
def D.eqvs : List D → List D → Bool
  | [], [] => true
  | x :: xs, y :: ys => D.eqv x y && D.eqvs xs ys
  | _, _ => false
theorem eqvs_py : ∀ xs ys : List D, PyData.eqvAll (D.pys xs) (D.pys ys) = D.eqvs xs ys
  | [], [] => rfl
  | x :: xs, [] => rfl
  | [], y :: ys => rfl
  | x :: xs, y :: ys => by
    show (PyData.eqv x.py y.py && PyData.eqvAll (D.pys xs) (D.pys ys)) = _
    rw [eqvs_py xs ys]; rfl
@[simp] theorem eqv_lst (xs ys : List D) : D.eqv (.lst xs) (.lst ys) = D.eqvs xs ys := eqvs_py xs ys
@[simp] theorem eqv_tup (xs ys : List D) : D.eqv (.tup xs) (.tup ys) = D.eqvs xs ys := eqvs_py xs ys
@[simp] theorem eqvs_nil : D.eqvs [] [] = true := rfl
@[simp] theorem eqvs_cons (x y : D) (xs ys : List D) : D.eqvs (x :: xs) (y :: ys) = (D.eqv x y && D.eqvs xs ys) := rfl
theorem eqvs_nil_r (xs : List D) : D.eqvs xs [] = decide (xs = []) := by cases xs <;> rfl
abbrev nats (l : List Nat) : List D := l.map fun (n : Nat) => D.int n
theorem ics_nats {l : List Nat} (h : ∀ x ∈ l, x < 2 ^ 300) : D.ics (nats l) := by
  rw [ics_iff]
  intro x hx
  obtain ⟨n, hn, rfl⟩ := List.mem_map.mp hx
  show (n : Int).natAbs < _
  have := h n hn
  omega
theorem dps_nats {l : List Nat} : D.dps (nats l) = 0 := by
  have := dps_le (k := 0) (nats l) fun x hx => by
    obtain ⟨n, hn, rfl⟩ := List.mem_map.mp hx
    exact Nat.le_refl _
  omega
@[simp] theorem ixN_nat {n i : Nat} (h : i < n) : ixN n (i : Int) = some i := by
  unfold ixN
  rw [if_pos (by omega), if_pos (by omega)]
  rfl
theorem atI_nat {α : Type} (xs : List α) (i : Nat) : atI xs (i : Int) = xs[i]? := by
  unfold L2.atI
  by_cases h : i < xs.length
  · rw [ixN_nat h]; rfl
  · have : ixN xs.length (i : Int) = none := by
      unfold ixN
      rw [if_pos (by omega), if_neg (by omega)]
    rw [this, List.getElem?_eq_none (by omega)]
    rfl
theorem atI_of {α : Type} {xs : List α} {i : Int} (h0 : 0 ≤ i) (h1 : i < xs.length) : ∃ x, atI xs i = some x ∧ x ∈ xs := by
  obtain ⟨n, rfl⟩ := Int.eq_ofNat_of_zero_le h0
  rw [atI_nat]
  have hn : n < xs.length := by omega
  exact ⟨xs[n], List.getElem?_eq_getElem hn, List.getElem_mem hn⟩
@[simp] theorem atI_0 {α : Type} (x : α) (xs : List α) : atI (x :: xs) 0 = some x := atI_nat (x :: xs) 0
@[simp] theorem atI_1 {α : Type} (x y : α) (xs : List α) : atI (x :: y :: xs) 1 = some y := atI_nat (x :: y :: xs) 1
@[simp] theorem atI_2 {α : Type} (x y z : α) (xs : List α) : atI (x :: y :: z :: xs) 2 = some z := atI_nat (x :: y :: z :: xs) 2
@[simp] theorem ixN_0 (n : Nat) : ixN (n + 1) 0 = some 0 := ixN_nat (n := n + 1) (i := 0) (by omega)
@[simp] theorem ixN_1 (n : Nat) : ixN (n + 2) 1 = some 1 := ixN_nat (n := n + 2) (i := 1) (by omega)
@[simp] theorem ixN_2 (n : Nat) : ixN (n + 3) 2 = some 2 := ixN_nat (n := n + 3) (i := 2) (by omega)
theorem cut_take {α : Type} (l : List α) (n : Nat) : cut l none (some (n : Int)) = l.take n := by
  unfold cut
  rw [HT.sIx_nat, HT.sIx_none, List.drop_zero, Nat.sub_zero]
  by_cases h : n ≤ l.length
  · rw [Nat.min_eq_left h]
  · rw [Nat.min_eq_right (by omega), List.take_of_length_le (Nat.le_refl _), List.take_of_length_le (by omega)]
end DL

namespace DL
open PySem PySem.Spec PyProof.Rows L2
/-- the jar at j, its cells at c, at most b draws so far -/
def Jar (j c : Addr) (b : Nat) (μ : Sto) : Prop := ∃ (n : Nat) (cells : List Nat), n ≤ b ∧ j ≠ c ∧ μ j = some (.lst [.ref c, .int n]) ∧ μ c = some (.lst (cells.map fun x : Nat => D.int x)) ∧ cells.length ≤ 63
/-- nothing else has changed -/
def Same (j c : Addr) (μ μ' : Sto) : Prop := ∀ a, a ≠ j → a ≠ c → μ' a = μ a
theorem Jar.le {j c : Addr} {b b' : Nat} {μ : Sto} (h : Jar j c b μ) (le : b ≤ b') : Jar j c b' μ := by
  obtain ⟨n, cells, hn, r⟩ := h
  exact ⟨n, cells, Nat.le_trans hn le, r⟩
theorem Same.refl {j c : Addr} {μ : Sto} : Same j c μ μ := fun _ _ _ => rfl
theorem Same.trans {j c : Addr} {μ μ1 μ2 : Sto} (h : Same j c μ μ1) (g : Same j c μ1 μ2) : Same j c μ μ2 := fun a x y => (g a x y).trans (h a x y)
/-- what a drawing def promises: from a jar of at most b draws (b small) to one of at most b + k, result as R says -/
def drawSp (k : Nat) (pre : List D → (D → Prop) → Prop) : DSp := fun ds μ Q _ => ∃ j c b r, ds = .ref j :: r ∧ Jar j c b μ ∧ b + k ≤ 1000000 ∧ ∃ R, pre r R ∧ ∀ d μ', R d → Jar j c (b + k) μ' → Same j c μ μ' → Q d μ'
/-- _law_jar(script) -/
def sp_law_jar : DSp := fun ds μ Q _ => ∃ ns : List Int, ds = [.scr ns] ∧ ns.length ≤ 63 ∧ ∀ j c μ', Jar j c 0 μ' → μ j = none → μ c = none → Same j c μ μ' → Q (.ref j) μ'
/-- _law_jar(_law_script); slots 0:_law_script 1:_law_cell -/
def b_law_jar : TSD :=
  (dRet (dM (dLstF (dCons (dM (dLc [1] (dEach (dSl (dLook 0) dNoPart (dPart (dC (.int 63))))) (dName 1) dYes (dFn rdAbs (dCons (dLook 1) dNil)))) (dCons (dC (.int 0)) dNil)))))
theorem len_law_jar : ∀ ds μ Q E, sp_law_jar ds μ Q E → ds.length = 1 := by
  rintro ds μ Q E ⟨ns, rfl, _⟩; rfl
theorem ok_law_jar : ∀ ds μ Q E, sp_law_jar ds μ Q E → b_law_jar { nx := fun _ μ' => Q .non μ', rt := Q } (startD 2 ds) μ := by
  rintro ds μ Q E ⟨ns, rfl, hn, q⟩
  simp [b_law_jar]
  rw [show (63 : Int) = ((63 : Nat) : Int) from rfl, cut_take, List.take_of_length_le hn]
  refine lcD_map (fun x => match x with | .int i => .int (if i < 0 then -i else i) | d => d) _ (by simp; omega) ?_ ?_
  · intro x hx k hk
    obtain ⟨i, _, rfl⟩ := List.mem_map.mp hx
    simpa using hk
  · intro p hp p1 hp1
    have hne : p1 ≠ p := fun e => by subst e; rw [sset_same] at hp1; cases hp1
    refine q p1 p _ ⟨0, ns.map (·.natAbs), Nat.le_refl _, hne, sset_same, ?_, by simpa using hn⟩ (by rw [sset_ne hne] at hp1; exact hp1) hp fun a h1 h2 => by rw [sset_ne h1, sset_ne h2]
    rw [sset_ne hne.symm, sset_same]
    congr 2
    rw [List.map_map, List.map_map]
    refine List.map_congr_left fun i _ => ?_
    show D.int _ = D.int _
    congr 1
    show (if i < 0 then -i else i) = (i.natAbs : Int)
    split <;> omega
/-- _law_take(jar, many) -/
def sp_law_take : DSp := drawSp 1 fun r R => ∃ m : Nat, r = [.int m] ∧ 0 < m ∧ m < 1000000000 ∧ R = fun d => ∃ x : Nat, x < m ∧ d = .int x
/-- _law_take(_law_jar_here, _law_many); slots 0:_law_jar_here 1:_law_many 2:_law_cells 3:_law_great 4:_law_digit 5:_law_cell 6:_law_mixed 7:_law_k -/
def b_law_take : TSD :=
  (dSeq (dSetR 2 (dVal (dOp rdIx (dLook 0) (dC (.int 0)))))
  (dSeq (dPutM (dOp rdAdd (dOp rdIx (dLook 0) (dC (.int 1))) (dC (.int 1))) (dVar 0) (dC (.int 1)))
  (dSeq (dSetR 3 (dVal (dF (dLc [7, 5] (dEnum (dCons (dVar 2) dNil)) (dUnp 2 (gdCons (dName 7) (gdCons (dName 5) gdNil))) (dB (dOp rdGe (dLook 5) (dOp rdPow (dC (.int 10)) (dC (.int 18))))) (dVar 7)))))
  (dSeq (dIfS (dB (dOp rdNe (dLook 3) (dLst dNil)))
  (dSeq (dSetR 4 (dVal (dOp rdMod (dOp rdIx (dLook 2) (dOp rdIx (dLook 3) (dC (.int 0)))) (dLook 1))))
  (dSeq (dPutM (dOp rdDiv (dOp rdIx (dLook 2) (dOp rdIx (dLook 3) (dC (.int 0)))) (dLook 1)) (dVar 2) (dOp rdIx (dLook 3) (dC (.int 0))))
  (dRet (dLook 4))))
  dNext)
  (dSeq (dSetR 5 (dVal (dOp rdIx (dOp rdAdd (dLook 2) (dLst (dCons (dC (.int 61)) dNil))) (dOp rdMod (dOp rdIx (dLook 0) (dC (.int 1))) (dOp rdAdd (dFn rdLen (dCons (dLook 2) dNil)) (dC (.int 1)))))))
  (dSeq (dSetR 6 (dVal (dOp rdMod (dOp rdPow (dOp rdAdd (dOp rdAdd (dOp rdMod (dLook 5) (dC (.int 2147483563))) (dOp rdMul (dC (.int 48271)) (dOp rdIx (dLook 0) (dC (.int 1))))) (dC (.int 29))) (dC (.int 3))) (dC (.int 2147483579)))))
  (dSeq (dSetR 6 (dVal (dOp rdMod (dOp rdPow (dOp rdAdd (dLook 6) (dOp rdMul (dOp rdMul (dC (.int 5003)) (dOp rdIx (dLook 0) (dC (.int 1)))) (dOp rdIx (dLook 0) (dC (.int 1))))) (dC (.int 3))) (dC (.int 2305843009213693951)))))
  (dRet (dOp rdMod (dOp rdDiv (dLook 6) (dC (.int 4096))) (dLook 1))))))))))
theorem len_law_take : ∀ ds μ Q E, sp_law_take ds μ Q E → ds.length = 2 := by
  rintro ds μ Q E ⟨j, c, b, r, rfl, _, _, R, ⟨m, rfl, _⟩, _⟩; rfl
theorem ok_law_take : ∀ ds μ Q E, sp_law_take ds μ Q E → b_law_take { nx := fun _ μ' => Q .non μ', rt := Q } (startD 8 ds) μ := by
  rintro ds μ Q E ⟨j, c, b, r, rfl, ⟨n, cells, hn, hjc, hj, hc, hl⟩, hb, R, ⟨m, rfl, m0, m1, rfl⟩, q⟩
  unfold b_law_take
  rw [dSeq]
  simp [hj, -dSeq]
  rw [dSeq]
  simp [hj, -dSeq]
  rw [dSeq]
  have hj1 : sset μ j (MO.lst [D.ref c, D.int (↑n + 1)]) j = some (.lst [D.ref c, D.int ((n + 1 : Nat) : Int)]) := sset_same
  have hc1 : sset μ j (MO.lst [D.ref c, D.int (↑n + 1)]) c = some (.lst (cells.map fun x : Nat => D.int x)) := by rw [sset_ne hjc.symm]; exact hc
  have s1 : Same j c μ (sset μ j (MO.lst [D.ref c, D.int (↑n + 1)])) := fun a h1 _ => sset_ne h1
  generalize sset μ j (MO.lst [D.ref c, D.int (↑n + 1)]) = μ1 at hj1 hc1 s1
  simp [hc1, -dSeq]
  refine lcD_inv (fun xs acc μ' => μ' = μ1 ∧ ∃ k rest l, xs = enumD k rest ∧ (cells.map fun x : Nat => D.int x).drop k = rest ∧ acc = nats l ∧ l.length ≤ k ∧ k + rest.length = cells.length ∧ ∀ i ∈ l, i < cells.length) ?_ ?_ ?_ _ _ _ ⟨rfl, 0, _, [], rfl, rfl, rfl, Nat.le_refl _, by simp, by simp⟩
  · rintro xs acc μ' ⟨rfl, _⟩; exact hc1
  · rintro x xs acc μ' nn ⟨rfl, k, rest, l, hx, hd, rfl, hlk, hlen, hi⟩ hnn
    cases rest with
    | nil => cases hx
    | cons y r =>
      cases hx
      have hy : y ∈ (cells.map fun x : Nat => D.int x) := List.mem_of_mem_drop (by rw [hd]; simp)
      obtain ⟨z, hz, rfl⟩ := List.mem_map.mp hy
      have hd' : (cells.map fun x : Nat => D.int x).drop (k + 1) = r := by rw [← List.drop_drop, hd]; rfl
      simp at hlen
      simp [powOk]
      split
      · exact ⟨by omega, hnn _ _ ⟨rfl, k + 1, r, l ++ [k], rfl, hd', by simp, by simp; omega, by omega, by simp; intro a ha; rcases ha with ha | ha; exact hi a ha; omega⟩⟩
      · exact hnn _ _ ⟨rfl, k + 1, r, l, rfl, hd', rfl, by omega, by omega, hi⟩
  · rintro acc μ' ⟨rfl, k, rest, l, hx, hd, rfl, hlk, hlen, hi⟩
    rw [dSeq]
    have okk : okEq (.lst (nats l)) (.lst []) := okEq_of (ics_nats fun x hx => Nat.lt_of_lt_of_le (hi x hx) (by omega)) trivial (by show D.dps _ + 1 ≤ 50; rw [dps_nats]; decide) (by decide)
    simp [okk, eqvs_nil_r, -dSeq]
    cases l with
    | nil =>
      have r1 : refLst μ' c = some (cells.map fun x : Nat => D.int x) := by unfold refLst; rw [hc1]
      have fin : ∀ v : Int, Q (D.int (v % (m : Int))) μ' := fun v => by
        have h1 := Int.emod_nonneg v (b := (m : Int)) (by omega)
        have h2 := Int.emod_lt_of_pos v (b := (m : Int)) (by omega)
        refine q _ _ ⟨(v % (m : Int)).toNat, by omega, by congr 1; omega⟩ ⟨n + 1, cells, by omega, hjc, hj1, hc1, hl⟩ s1
      have ix : ∃ d : Nat, atI ((cells.map fun x : Nat => D.int x) ++ [D.int 61]) (((n + 1 : Nat) : Int) % ((cells.length : Int) + 1)) = some (D.int d) := by
        obtain ⟨y, h1, h2⟩ := atI_of (xs := (cells.map fun x : Nat => D.int x) ++ [D.int 61]) (i := ((n + 1 : Nat) : Int) % ((cells.length : Int) + 1)) (Int.emod_nonneg _ (by omega)) (by
          have := Int.emod_lt_of_pos ((n + 1 : Nat) : Int) (b := (cells.length : Int) + 1) (by omega)
          simp at this ⊢
          omega)
        simp at h2
        rcases h2 with ⟨z, _, rfl⟩ | rfl
        · exact ⟨z, h1⟩
        · exact ⟨61, h1⟩
      obtain ⟨d, hd1⟩ := ix
      simp [hc1, hj1, r1, mulOk, divOk, powOk, m0]
      refine ⟨by omega, _, hd1, ?_⟩
      simp [hj1, mulOk, divOk, powOk, m0]
      have b1 := Int.emod_nonneg (d : Int) (b := 2147483563) (by omega)
      have b2 := Int.emod_lt_of_pos (d : Int) (b := 2147483563) (by omega)
      have b3 := Int.emod_nonneg (((d : Int) % 2147483563 + 48271 * ((n : Int) + 1) + 29) ^ 3) (b := 2147483579) (by omega)
      have b4 := Int.emod_lt_of_pos (((d : Int) % 2147483563 + 48271 * ((n : Int) + 1) + 29) ^ 3) (b := 2147483579) (by omega)
      have b5 : 5003 * ((n : Int) + 1) * ((n : Int) + 1) ≤ 5003 * 1000000 * 1000000 := Int.mul_le_mul (by omega) (by omega) (by omega) (by omega)
      have b6 : 0 ≤ 5003 * ((n : Int) + 1) * ((n : Int) + 1) := Int.mul_nonneg (by omega) (by omega)
      refine ⟨by omega, Or.inr (Or.inl ⟨by omega, by omega⟩), by omega, fin _⟩
    | cons i l' =>
      have hi' := hi i (by simp)
      have hat : atI (cells.map fun x : Nat => D.int x) (i : Int) = some (.int (cells[i] : Nat)) := by rw [atI_nat]; simp [hi']
      simp [hc1, hat, m0, divOk, hi', show (m : Int) < 1073741824 by omega]
      refine q _ _ ⟨cells[i] % m, Nat.mod_lt _ m0, rfl⟩ ⟨n + 1, cells.set i (cells[i] / m), by omega, hjc, by rw [sset_ne hjc]; exact hj1, ?_, by simpa using hl⟩ fun a h1 h2 => by rw [sset_ne h2]; exact s1 a h1 h2
      rw [sset_same]
      simp [List.map_set]
/-- since μ0: a jar of at most b draws, nothing else changed -/
def St (j c : Addr) (μ0 : Sto) (b : Nat) (μ : Sto) : Prop := Jar j c b μ ∧ Same j c μ0 μ
theorem St.le {j c : Addr} {b b' : Nat} {μ0 μ : Sto} (h : St j c μ0 b μ) (le : b ≤ b') : St j c μ0 b' μ := ⟨h.1.le le, h.2⟩
theorem draw_ok {k : Nat} {pre : List D → (D → Prop) → Prop} {j c : Addr} {b : Nat} {μ0 μ : Sto} {r : List D} {R : D → Prop} {Q : DK} {E : DXK} (h : St j c μ0 b μ) (hb : b + k ≤ 1000000) (hp : pre r R)
    (q : ∀ d μ', R d → St j c μ0 (b + k) μ' → Q d μ') : drawSp k pre (.ref j :: r) μ Q E := ⟨j, c, b, r, rfl, h.1, hb, R, hp, fun d μ' h1 h2 h3 => q d μ' h1 ⟨h2, h.2.trans h3⟩⟩
theorem take_ok {j c : Addr} {b m : Nat} {μ0 μ : Sto} {Q : DK} {E : DXK} (h : St j c μ0 b μ) (hb : b + 1 ≤ 1000000) (m0 : 0 < m) (m1 : m < 1000000000) (q : ∀ (x : Nat) μ', x < m → St j c μ0 (b + 1) μ' → Q (.int x) μ') :
    sp_law_take [.ref j, .int m] μ Q E := draw_ok h hb ⟨m, rfl, m0, m1, rfl⟩ fun d μ' ⟨x, hx, e⟩ h2 => e ▸ q x μ' hx h2
/-- the items of a list, a tuple, a text -/
inductive Items : D → List D → Prop
  | lst {xs : List D} : Items (.lst xs) xs
  | tup {xs : List D} : Items (.tup xs) xs
  | str {s : List Nat} : s.length ≤ SZ → Items (.str s) (strD s)
def sp_law_any : DSp := drawSp 1 fun r R => ∃ it xs, r = [it] ∧ Items it xs ∧ xs ≠ [] ∧ xs.length < 1000000000 ∧ R = fun d => d ∈ xs
/-- _law_any(_law_jar_here, _law_items); slots 0:_law_jar_here 1:_law_items -/
def b_law_any : TSD :=
  (dRet (dOp rdIx (dLook 1) (dCall sp_law_take (dCons (dVar 0) (dCons (dFn rdLen (dCons (dLook 1) dNil)) dNil)) noD)))
theorem len_law_any : ∀ ds μ Q E, sp_law_any ds μ Q E → ds.length = 2 := by
  rintro ds μ Q E ⟨j, c, b, r, rfl, _, _, R, ⟨it, xs, rfl, _⟩, _⟩; rfl
theorem ok_law_any : ∀ ds μ Q E, sp_law_any ds μ Q E → b_law_any { nx := fun _ μ' => Q .non μ', rt := Q } (startD 2 ds) μ := by
  rintro ds μ Q E ⟨j, c, b, r, rfl, hJ, hb, R, ⟨it, xs, rfl, hi, h0, h1, rfl⟩, q⟩
  have hl : 0 < xs.length := List.length_pos_iff.mpr h0
  have st : St j c μ b μ := ⟨hJ, .refl⟩
  unfold b_law_any
  cases hi with
  | lst =>
    simp
    refine take_ok st hb hl h1 fun x μ' hx s => ?_
    simp [atI_nat, hx]
    exact q _ _ (List.getElem_mem hx) s.1 s.2
  | tup =>
    simp
    refine take_ok st hb hl h1 fun x μ' hx s => ?_
    simp [atI_nat, hx]
    exact q _ _ (List.getElem_mem hx) s.1 s.2
  | str hs =>
    rename_i s
    have e : (strD s).length = s.length := by simp [strD]
    rw [e] at hl h1
    simp at hs ⊢
    refine ⟨hs, take_ok st hb hl h1 fun x μ' hx st => ?_⟩
    simp [atI_nat, hx, hs]
    exact q _ _ (List.mem_map.mpr ⟨_, List.getElem_mem hx, rfl⟩) st.1 st.2
theorem any_ok {j c : Addr} {b : Nat} {μ0 μ : Sto} {it : D} {xs : List D} {Q : DK} {E : DXK} (h : St j c μ0 b μ) (hb : b + 1 ≤ 1000000) (hi : Items it xs) (h0 : xs ≠ []) (h1 : xs.length < 1000000000) (q : ∀ x μ', x ∈ xs → St j c μ0 (b + 1) μ' → Q x μ') :
    sp_law_any [.ref j, it] μ Q E := draw_ok h hb ⟨it, xs, rfl, hi, h0, h1, rfl⟩ fun d μ' hx h2 => q d μ' hx h2
/-- a word of small letters -/
def Low (s : List Nat) : Prop := ∀ c ∈ s, 97 ≤ c ∧ c ≤ 122
theorem flat_ones : ∀ l : List Nat, (l.map fun c => [c]).flatten = l
  | [] => rfl
  | a :: r => by
    show [a] ++ (r.map fun c => [c]).flatten = a :: r
    rw [flat_ones r]; rfl
theorem joinL_nil (ls : List (List Nat)) : joinL [] ls = ls.flatten := by
  cases ls with
  | nil => rfl
  | cons a r =>
    show a ++ (r.map fun x => [] ++ x).flatten = (a :: r).flatten
    rw [List.flatten_cons]
    congr 2
    exact List.map_id' r
theorem joinL_ones (l : List Nat) : joinL [] (l.map fun c => [c]) = l := by rw [joinL_nil, flat_ones]
theorem Low.append {s t : List Nat} (h : Low s) (g : Low t) : Low (s ++ t) := fun c hc => (List.mem_append.mp hc).elim (h c) (g c)
theorem Low.take {s : List Nat} (h : Low s) (n : Nat) : Low (s.take n) := fun c hc => h c (List.mem_of_mem_take hc)
theorem Low.reverse {s : List Nat} (h : Low s) : Low s.reverse := fun c hc => h c (List.mem_reverse.mp hc)
theorem Low.repl {s : List Nat} (h : Low s) (n : Nat) : Low (repl n s) := fun c hc => by
  unfold DL.repl at hc
  obtain ⟨l, hl, hc⟩ := List.mem_flatten.mp hc
  rw [(List.mem_replicate.mp hl).2] at hc
  exact h c hc
theorem Low.lt {s : List Nat} (h : Low s) : ∀ c ∈ s, c < 1114112 := fun c hc => by have := h c hc; omega
/-- a text is joined from its signs -/
theorem sum_ones (l : List Nat) : ((l.map fun c => [c]).map List.length).sum = l.length := by
  induction l with
  | nil => rfl
  | cons a r ih => simp at ih ⊢; omega
theorem strD_map (l : List Nat) : strD l = (l.map fun c => [c]).map D.str := by unfold strD; rw [List.map_map]; rfl
theorem strD_app (l r : List Nat) : strD (l ++ r) = strD l ++ strD r := by simp [strD]
end DL

namespace DL
open PySem PySem.Spec PyProof.Rows L2
def sp_law_drawn : DSp := drawSp 40 fun r R => ∃ m : Nat, r = [.int m] ∧ m ≤ 30 ∧ R = fun d => ∃ s, d = .str s ∧ Low s ∧ s.length ≤ m
theorem drawn_ok {j c : Addr} {b m : Nat} {μ0 μ : Sto} {Q : DK} {E : DXK} (h : St j c μ0 b μ) (hb : b + 40 ≤ 1000000) (m1 : m ≤ 30) (q : ∀ (s : List Nat) μ', Low s → s.length ≤ m → St j c μ0 (b + 40) μ' → Q (.str s) μ') :
    sp_law_drawn [.ref j, .int m] μ Q E := draw_ok h hb ⟨m, rfl, m1, rfl⟩ fun d μ' ⟨s, e, h1, h2⟩ h3 => e ▸ q s μ' h1 h2 h3
/-- _law_drawn(_law_jar_here, _law_most); slots 0:_law_jar_here 1:_law_most 2:_law_names 3:_law_size 4:_law_found 5:_law_part 6:_law_k -/
def b_law_drawn : TSD :=
  (dSeq (dSetR 2 (dVal (dCall sp_law_any (dCons (dVar 0) (dCons (dLst (dCons (dC (.str [97])) (dCons (dC (.str [97, 98])) (dCons (dC (.str [97, 98, 99])) (dCons (dC (.str [97, 97, 98])) (dCons (dC (.str [97, 98, 99, 100, 101, 102, 103, 104, 105, 106, 107, 108, 109, 110, 111, 112, 113, 114, 115, 116, 117, 118, 119, 120, 121, 122])) dNil)))))) dNil)) noD)))
  (dSeq (dSetR 3 (dVal (dCall sp_law_take (dCons (dVar 0) (dCons (dOp rdAdd (dLook 1) (dC (.int 1))) dNil)) noD)))
  (dSeq (dSetR 4 (dVal (dMt "str" rdJoin (dC (.str [])) (dCons (dF (dLc [6] (dRng1 (dCons (dVar 3) dNil)) (dName 6) dYes (dCall sp_law_any (dCons (dVar 0) (dCons (dVar 2) dNil)) noD))) dNil))))
  (dSeq (dIfS (dAnd (dB (dOp rdGt (dLook 3) (dC (.int 0)))) (dB (dOp rdEq (dCall sp_law_take (dCons (dVar 0) (dCons (dC (.int 4)) dNil)) noD) (dC (.int 0)))))
  (dSeq (dSetR 5 (dVal (dOp rdAdd (dC (.int 1)) (dCall sp_law_take (dCons (dVar 0) (dCons (dVar 3) dNil)) noD))))
  (dSetR 4 (dVal (dSl (dOp rdMul (dSl (dLook 4) dNoPart (dPart (dVar 5))) (dLook 3)) dNoPart (dPart (dVar 3))))))
  dNext)
  (dRet (dLook 4))))))
theorem len_law_drawn : ∀ ds μ Q E, sp_law_drawn ds μ Q E → ds.length = 2 := by
  rintro ds μ Q E ⟨j, c, b, r, rfl, _, _, R, ⟨m, rfl, _⟩, _⟩; rfl
theorem ok_law_drawn : ∀ ds μ Q E, sp_law_drawn ds μ Q E → b_law_drawn { nx := fun _ μ' => Q .non μ', rt := Q } (startD 7 ds) μ := by
  rintro ds μ Q E ⟨j, c, b, r, rfl, hJ, hb, R, ⟨m, rfl, hm, rfl⟩, q⟩
  have s0 : St j c μ b μ := ⟨hJ, .refl⟩
  have fin : ∀ s μ', Low s → s.length ≤ m → St j c μ (b + 40) μ' → Q (.str s) μ' := fun s μ' h1 h2 h3 => q _ _ ⟨s, rfl, h1, h2⟩ h3.1 h3.2
  unfold b_law_drawn
  rw [dSeq]
  simp [-dSeq]
  refine any_ok s0 (by omega) .lst (by simp) (by simp) fun x μ1 hx s1 => ?_
  have hx : ∃ nm, x = .str nm ∧ Low nm ∧ nm ≠ [] ∧ nm.length ≤ 30 := by
    simp at hx
    rcases hx with rfl | rfl | rfl | rfl | rfl <;> exact ⟨_, rfl, by intro c hc; simp at hc; omega, by simp, by simp⟩
  obtain ⟨nm, rfl, hlow, hne, hnl⟩ := hx
  rw [dSeq]
  simp [-dSeq]
  refine take_ok (m := m + 1) s1 (by omega) (by omega) (by omega) fun size μ2 hsz s2 => ?_
  rw [dSeq]
  simp [rngOk, -dSeq]
  refine ⟨by omega, ?_⟩
  refine lcD_inv (fun xs acc μ' => ∃ l, acc = strD l ∧ Low l ∧ l.length + xs.length = size ∧ St j c μ (b + 2 + l.length) μ') (fun _ _ _ _ => trivial) ?_ ?_ _ _ _ ⟨[], rfl, (fun _ h => nomatch h), by simp [rngD], s2⟩
  · rintro x xs acc μ' n ⟨l, rfl, hl, hlen, st⟩ hn
    simp at hlen
    simp
    refine any_ok st (by omega) (.str (by simp; omega)) (by simpa [strD] using hne) (by simp [strD]; omega) fun y μ3 hy s3 => ?_
    obtain ⟨ch, hch, rfl⟩ := List.mem_map.mp hy
    refine ⟨by simp [strD]; omega, hn _ _ ⟨l ++ [ch], by rw [strD_app]; rfl, hl.append fun d hd => by simp at hd; subst hd; exact hlow _ hch, by simp; omega, ?_⟩⟩
    rw [List.length_append, ← Nat.add_assoc]
    exact s3
  rintro acc μ3 ⟨l, rfl, hl, hlen, s3⟩
  simp at hlen
  refine ⟨l.map fun c => [c], strD_map l, by rw [sum_ones]; omega, ?_⟩
  rw [joinL_ones, dSeq]
  simp
  split
  · rename_i h0
    refine take_ok (m := 4) s3 (by omega) (by omega) (by omega) fun x μ4 hx s4 => ?_
    simp
    by_cases hx0 : x = 0
    · rw [if_pos hx0]
      refine take_ok (m := size) s4 (by omega) (by omega) (by omega) fun p μ5 hp s5 => ?_
      simp
      rw [show ((1 : Int) + (p : Int)) = ((1 + p : Nat) : Int) by omega, cut_take]
      have ht : (l.take (1 + p)).length ≤ 30 := by rw [List.length_take]; omega
      have hr : (repl size (l.take (1 + p))).length ≤ 30 * 30 := by rw [repl_len]; exact Nat.mul_le_mul (by omega) ht
      have hr2 : (l.take (1 + p)).length * size ≤ 30 * 30 := Nat.mul_le_mul ht (by omega)
      refine ⟨by omega, by omega, by omega, by omega, ?_⟩
      rw [cut_take]
      exact fin _ _ (((hl.take _).repl _).take _) (by rw [List.length_take]; omega) (s5.le (by omega))
    · rw [if_neg hx0]
      exact fin _ _ hl (by omega) (s4.le (by omega))
  · exact fin _ _ hl (by omega) (s3.le (by omega))
end DL

namespace DL
open PySem PySem.Spec PyProof.Rows L2
/-- the first pick, from a place on: places -/
def fp (one : List Nat) : List Nat → Nat → List Nat
  | [], _ => []
  | c :: r, b => match (one.drop b).findIdx? (· == c) with
    | some k => (b + k) :: fp one r (b + k + 1)
    | none => []

theorem fp_cons (one : List Nat) (c : Nat) (r : List Nat) (b : Nat) : fp one (c :: r) b = match (one.drop b).findIdx? (· == c) with
    | some k => (b + k) :: fp one r (b + k + 1)
    | none => [] := rfl
end DL

namespace DL
open PySem PySem.Spec PyProof.Rows L2
def sp_law_mate : DSp := drawSp 80 fun r R => ∃ (w : List Nat) (m : Nat), r = [.str w, .int m] ∧ Low w ∧ w.length ≤ 30 ∧ m ≤ 30 ∧ R = fun d => ∃ s, d = .str s ∧ Low s ∧ s.length ≤ m
theorem mate_ok {j c : Addr} {b m : Nat} {w : List Nat} {μ0 μ : Sto} {Q : DK} {E : DXK} (h : St j c μ0 b μ) (hb : b + 80 ≤ 1000000) (hw : Low w) (hl : w.length ≤ 30) (m1 : m ≤ 30) (q : ∀ (s : List Nat) μ', Low s → s.length ≤ m → St j c μ0 (b + 80) μ' → Q (.str s) μ') :
    sp_law_mate [.ref j, .str w, .int m] μ Q E := draw_ok h hb ⟨w, m, rfl, hw, hl, m1, rfl⟩ fun d μ' ⟨s, e, h1, h2⟩ h3 => e ▸ q s μ' h1 h2 h3
/-- _law_mate(_law_jar_here, _law_word, _law_most); slots 0:_law_jar_here 1:_law_word 2:_law_most 3:_law_way 4:_law_kept 5:_law_fresh 6:_law_letter -/
def b_law_mate : TSD :=
  (dSeq (dSetR 3 (dVal (dCall sp_law_take (dCons (dVar 0) (dCons (dC (.int 5)) dNil)) noD)))
  (dSeq (dSetR 4 (dVal (dMt "str" rdJoin (dC (.str [])) (dCons (dF (dLc [6] (dEach (dVar 1)) (dName 6) (dB (dOp rdGt (dCall sp_law_take (dCons (dVar 0) (dCons (dC (.int 3)) dNil)) noD) (dC (.int 0)))) (dVar 6))) dNil))))
  (dSeq (dSetR 5 (dVal (dCall sp_law_drawn (dCons (dVar 0) (dCons (dVar 2) dNil)) noD)))
  (dRet (dSl (dOp rdIx (dLst (dCons (dOp rdAdd (dLook 4) (dLook 5)) (dCons (dRev (dLook 1)) (dCons (dVar 4) (dCons (dOp rdAdd (dLook 1) (dLook 5)) (dCons (dVar 5) dNil)))))) (dLook 3)) dNoPart (dPart (dVar 2)))))))
theorem len_law_mate : ∀ ds μ Q E, sp_law_mate ds μ Q E → ds.length = 3 := by
  rintro ds μ Q E ⟨j, c, b, r, rfl, _, _, R, ⟨w, m, rfl, _⟩, _⟩; rfl
theorem ok_law_mate : ∀ ds μ Q E, sp_law_mate ds μ Q E → b_law_mate { nx := fun _ μ' => Q .non μ', rt := Q } (startD 7 ds) μ := by
  rintro ds μ Q E ⟨j, c, b, r, rfl, hJ, hb, R, ⟨w, m, rfl, hw, hwl, hm, rfl⟩, q⟩
  have s0 : St j c μ b μ := ⟨hJ, .refl⟩
  have fin : ∀ s μ', Low s → s.length ≤ m → St j c μ (b + 80) μ' → Q (.str s) μ' := fun s μ' h1 h2 h3 => q _ _ ⟨s, rfl, h1, h2⟩ h3.1 h3.2
  unfold b_law_mate
  rw [dSeq]
  simp [-dSeq]
  refine take_ok (m := 5) s0 (by omega) (by omega) (by omega) fun way μ1 hway s1 => ?_
  rw [dSeq]
  simp [-dSeq]
  refine lcD_inv (fun xs acc μ' => ∃ l rest, xs = strD rest ∧ acc = strD l ∧ Low l ∧ Low rest ∧ l.length + rest.length ≤ 30 ∧ ∃ k, k + rest.length = 31 ∧ St j c μ (b + k) μ') (fun _ _ _ _ => trivial) ?_ ?_ _ _ _ ⟨[], w, rfl, rfl, (fun _ h => nomatch h), hw, by simpa using hwl, 31 - w.length, by omega, s1.le (by omega)⟩
  · rintro x xs acc μ' n ⟨l, rest, hx, rfl, hl, hr, hlen, k, hk, st⟩ hn
    obtain ⟨ch, r, rfl, rfl, rfl⟩ := strD_inv hx
    simp at hlen hk
    simp
    refine take_ok (m := 3) st (by omega) (by omega) (by omega) fun x μ3 hx3 s3 => ?_
    simp
    have hr' : Low r := fun d hd => hr d (by simp [hd])
    split
    · refine ⟨by simp [strD]; omega, hn _ _ ⟨l ++ [ch], r, rfl, by rw [strD_app]; rfl, hl.append fun d hd => by simp at hd; subst hd; exact hr _ (by simp), hr', by simp; omega, k + 1, by omega, s3⟩⟩
    · exact hn _ _ ⟨l, r, rfl, rfl, hl, hr', by omega, k + 1, by omega, s3⟩
  rintro acc μ3 ⟨l, rest, hx, rfl, hl, hr, hlen, k, hk, s3⟩
  cases strD_nil_inv hx
  simp at hlen hk
  refine ⟨l.map fun c => [c], strD_map l, by rw [sum_ones]; omega, ?_⟩
  rw [joinL_ones, dSeq]
  simp
  refine drawn_ok s3 (by omega) hm fun f μ4 hf hfl s4 => ?_
  simp
  refine ⟨by omega, by omega, by omega, ?_⟩
  obtain ⟨y, h1, h2⟩ := atI_of (xs := [D.str (l ++ f), D.str w.reverse, D.str l, D.str (w ++ f), D.str f]) (i := (way : Int)) (by omega) (by simp; omega)
  refine ⟨y, h1, ?_⟩
  have hy : ∃ s, y = .str s ∧ Low s ∧ s.length ≤ 100 := by
    simp at h2
    rcases h2 with rfl | rfl | rfl | rfl | rfl
    · exact ⟨_, rfl, hl.append hf, by simp; omega⟩
    · exact ⟨_, rfl, hw.reverse, by simp; omega⟩
    · exact ⟨_, rfl, hl, by omega⟩
    · exact ⟨_, rfl, hw.append hf, by simp; omega⟩
    · exact ⟨_, rfl, hf, by omega⟩
  obtain ⟨s, rfl, hs, hsl⟩ := hy
  simp
  rw [cut_take]
  exact ⟨by omega, fin _ _ (hs.take _) (by rw [List.length_take]; omega) (s4.le (by omega))⟩
def sp_law_two : DSp := drawSp 120 fun r R => ∃ m : Nat, r = [.int m] ∧ m ≤ 30 ∧ R = fun d => ∃ s t, d = .lst [.str s, .str t] ∧ Low s ∧ s.length ≤ m ∧ Low t ∧ t.length ≤ m
theorem two_ok {j c : Addr} {b m : Nat} {μ0 μ : Sto} {Q : DK} {E : DXK} (h : St j c μ0 b μ) (hb : b + 120 ≤ 1000000) (m1 : m ≤ 30) (q : ∀ (s t : List Nat) μ', Low s → s.length ≤ m → Low t → t.length ≤ m → St j c μ0 (b + 120) μ' → Q (.lst [.str s, .str t]) μ') :
    sp_law_two [.ref j, .int m] μ Q E := draw_ok h hb ⟨m, rfl, m1, rfl⟩ fun d μ' ⟨s, t, e, h1, h2, h3, h4⟩ h5 => e ▸ q s t μ' h1 h2 h3 h4 h5
/-- _law_two(_law_jar_here, _law_most); slots 0:_law_jar_here 1:_law_most 2:_law_one -/
def b_law_two : TSD :=
  (dSeq (dSetR 2 (dVal (dCall sp_law_drawn (dCons (dVar 0) (dCons (dVar 1) dNil)) noD)))
  (dRet (dLst (dCons (dVar 2) (dCons (dCall sp_law_mate (dCons (dVar 0) (dCons (dVar 2) (dCons (dVar 1) dNil))) noD) dNil)))))
theorem len_law_two : ∀ ds μ Q E, sp_law_two ds μ Q E → ds.length = 2 := by
  rintro ds μ Q E ⟨j, c, b, r, rfl, _, _, R, ⟨m, rfl, _⟩, _⟩; rfl
theorem ok_law_two : ∀ ds μ Q E, sp_law_two ds μ Q E → b_law_two { nx := fun _ μ' => Q .non μ', rt := Q } (startD 3 ds) μ := by
  rintro ds μ Q E ⟨j, c, b, r, rfl, hJ, hb, R, ⟨m, rfl, hm, rfl⟩, q⟩
  have s0 : St j c μ b μ := ⟨hJ, .refl⟩
  unfold b_law_two
  simp
  refine drawn_ok s0 (by omega) hm fun s μ1 hs hl s1 => ?_
  refine mate_ok s1 (by omega) hs (by omega) hm fun t μ2 ht hl2 s2 => ?_
  exact q _ _ ⟨s, t, rfl, hs, hl, ht, hl2⟩ s2.1 s2.2
/-- one sign further in the upper word -/
theorem fp_step (one : List Nat) (c : Nat) (r : List Nat) (b : Nat) (h : b < one.length) : fp one (c :: r) b = if one[b] = c then b :: fp one r (b + 1) else fp one (c :: r) (b + 1) := by
  rw [fp_cons, List.drop_eq_getElem_cons h, List.findIdx?_cons]
  by_cases e : one[b] = c
  · simp [e]
  · rw [fp_cons]
    simp [e]
    cases List.findIdx? (fun x => x == c) (List.drop (b + 1) one) with
    | none => rfl
    | some k =>
      simp
      refine ⟨by omega, by congr 1; omega⟩
theorem fp_end (one other : List Nat) (b : Nat) (h : one.length ≤ b) : fp one other b = [] := by
  cases other with
  | nil => rfl
  | cons c r => rw [fp_cons, List.drop_eq_nil_of_le h]; rfl
end DL

namespace DL
open PySem PySem.Spec PyProof.Rows L2
abbrev typs : List String := ["NoneType", "bool", "int", "str", "list", "tuple", "dict"]
@[simp] def isiD : D → String → Bool
  | .non, T => decide (T = "NoneType")
  | .bl _, T => decide (T = "bool") || decide (T = "int")
  | .int _, T => decide (T = "int")
  | .str _, T => decide (T = "str")
  | .tup _, T => decide (T = "tuple")
  | .lst _, T => decide (T = "list")
  | .scr _, T => decide (T = "list")
  | .dct _, T => decide (T = "dict")
  | _, _ => false
@[simp] def isiOk : D → Bool
  | .non | .bl _ | .int _ | .str _ | .tup _ | .lst _ | .scr _ | .dct _ => true
  | _ => false
def rdIsi : RDn
  | [d, .ty T], μ, Q => isiOk d = true ∧ T ∈ typs ∧ Q (.bl (isiD d T)) μ
  | _, _, _ => False
@[simp] theorem rdIsi_1 : rdIsi  [d0, .ty T0] μ0 Q0 = (isiOk d0 = true ∧ T0 ∈ typs ∧ Q0 (.bl (isiD d0 T0)) μ0) := rfl
section
variable {K : PySem.W.Frag} {mg : Str → Option Value} {F H : Hp} {μ : Sto}
end
section
variable {X : Cx} {x : Str} {T : String} {pos p : Pos} {e e2 : Expr} {t : TAD}
def zipD (xs ys : List D) : List D := (xs.zip ys).map fun p => .pr p.1 p.2
@[simp] def dZip (t : TAD) : TSrc := fun ρ μ Q => t ρ μ fun xs μ1 => match xs with
  | [.tup xs, .tup ys] => Q (zipD xs ys) still μ1
  | [.lst xs, .lst ys] => Q (zipD xs ys) still μ1
  | _ => False
@[simp] def dNever : TSD := fun _ _ _ => False
end
section
variable {K : PySem.W.Frag} {mg : Str → Option Value}
def rdIsB : RD2
  | .bl a, .bl b, μ, Q => Q (.bl (decide (a = b))) μ
  | _, _, _, _ => False
@[simp] theorem rdIsB_1 : rdIsB  (.bl a0) (.bl b0) μ0 Q0 = (Q0 (.bl (decide (a0 = b0))) μ0) := rfl
def rdNotB : RD2
  | .bl a, .bl b, μ, Q => Q (.bl (!decide (a = b))) μ
  | _, _, _, _ => False
@[simp] theorem rdNotB_1 : rdNotB  (.bl a0) (.bl b0) μ0 Q0 = (Q0 (.bl (!decide (a0 = b0))) μ0) := rfl
end
section
variable {X : Cx} {B : Bs} {pos : Pos}
/-- x, y, z = a, b, c: values -/
@[simp] def dPar3 (i j l : Nat) (t : TAD) : TSD := fun E ρ μ => t ρ μ fun xs μ1 => match xs with
  | [x, y, z] => E.nx (((ρ.set i (some (.val x))).set j (some (.val y))).set l (some (.val z))) μ1
  | _ => False
end
end DL

namespace DL
open PySem PySem.Spec PyProof.Rows L2
/-- the letters of one at the places l, one behind the other -/
def inc (l : List Nat) : Bool := (l.zip (l.drop 1)).all fun p => decide (p.1 < p.2)
def isPick (one other l : List Nat) : Bool := l.all (fun p => decide (p < one.length)) && (inc l && (decide (l.length ≤ other.length) && decide (l.map (fun p => one.getD p 0) = other.take l.length)))
end DL

namespace DL
open PySem PySem.Spec PyProof.Rows L2
theorem find_cut {one : List Nat} {b i c : Nat} (e : (one.drop b).findIdx? (· == c) = some i) : b + i < one.length ∧ one.drop (b + i) = c :: one.drop (b + i + 1) := by
  obtain ⟨h1, h2, _⟩ := List.findIdx?_eq_some_iff_getElem.mp e
  rw [List.length_drop] at h1
  have hl : b + i < one.length := by omega
  rw [List.getElem_drop] at h2
  refine ⟨hl, ?_⟩
  rw [List.drop_eq_getElem_cons hl]
  simp at h2
  rw [h2]
/-- what is met is there -/
theorem fp_sub (one : List Nat) : ∀ (r : List Nat) (b : Nat), (r.take (fp one r b).length).Sublist (one.drop b)
  | [], b => by simp
  | c :: r, b => by
    rw [fp_cons]
    cases e : (one.drop b).findIdx? (· == c) with
    | none => simp
    | some i =>
      obtain ⟨h1, h2⟩ := find_cut e
      have ih := fp_sub one r (b + i + 1)
      have h3 : (one.drop (b + i)).Sublist (one.drop b) := by rw [← List.drop_drop]; exact List.drop_sublist _ _
      simp
      refine List.Sublist.trans ?_ h3
      rw [h2]
      exact List.Sublist.cons₂ c ih
/-- no way meets more -/
theorem fp_best (one : List Nat) : ∀ (r : List Nat) (b k : Nat), k ≤ r.length → (r.take k).Sublist (one.drop b) → k ≤ (fp one r b).length
  | [], b, k, hk, _ => by simp at hk; omega
  | c :: r, b, 0, _, _ => Nat.zero_le _
  | c :: r, b, k + 1, hk, h => by
    rw [List.take_succ_cons, List.cons_sublist_iff] at h
    obtain ⟨r1, r2, h1, h2, h3⟩ := h
    obtain ⟨j, hj, ej⟩ := List.getElem_of_mem h2
    have hm : c ∈ one.drop b := by rw [h1]; exact List.mem_append_left _ h2
    rw [fp_cons]
    cases e : (one.drop b).findIdx? (· == c) with
    | none =>
      rw [List.findIdx?_eq_none_iff] at e
      have := e c hm
      simp at this
    | some i =>
      obtain ⟨g1, g2, g3⟩ := List.findIdx?_eq_some_iff_getElem.mp e
      have hle : i ≤ j := by
        apply Decidable.byContradiction
        intro hc
        have h4 := g3 j (by omega)
        have h5 : (one.drop b)[j]'(by omega) = c := by
          have : (one.drop b)[j]'(by omega) = (r1 ++ r2)[j]'(by rw [List.length_append]; omega) := by simp only [h1]
          rw [this, List.getElem_append_left hj]
          exact ej
        rw [h5] at h4
        simp at h4
      simp
      refine fp_best one r _ k (by simpa using hk) (h3.trans ?_)
      have e2 : r2 = one.drop (b + r1.length) := by
        rw [← List.drop_drop, h1, List.drop_left]
      rw [e2, show b + r1.length = (b + i + 1) + (r1.length - i - 1) by omega, ← List.drop_drop]
      exact List.drop_sublist _ _
theorem fp_iff (one r : List Nat) (k : Nat) (hk : k ≤ r.length) : k ≤ (fp one r 0).length ↔ (r.take k).Sublist one := by
  constructor
  · intro h
    have := fp_sub one r 0
    rw [List.drop_zero] at this
    refine List.Sublist.trans ?_ this
    rw [show r.take k = (r.take (fp one r 0).length).take k by rw [List.take_take, Nat.min_eq_left h]]
    exact List.take_sublist _ _
  · intro h
    exact fp_best one r 0 k hk (by simpa using h)
@[simp] theorem inc_nil : inc [] = true := rfl
@[simp] theorem inc_one (x : Nat) : inc [x] = true := rfl
theorem inc_cons (x y : Nat) (l : List Nat) : inc (x :: y :: l) = (decide (x < y) && inc (y :: l)) := rfl
theorem inc_pw : ∀ l : List Nat, inc l = true ↔ l.Pairwise (· < ·)
  | [] => by simp
  | [x] => by simp
  | x :: y :: l => by
    rw [inc_cons, Bool.and_eq_true, inc_pw (y :: l)]
    simp only [decide_eq_true_eq]
    constructor
    · rintro ⟨h1, h2⟩
      refine List.Pairwise.cons (fun z hz => ?_) h2
      rcases List.mem_cons.mp hz with rfl | hz
      · exact h1
      · exact Nat.lt_trans h1 (List.rel_of_pairwise_cons h2 hz)
    · intro h
      exact ⟨List.rel_of_pairwise_cons h (by simp), h.of_cons⟩
theorem isPick_iff (one other l : List Nat) : isPick one other l = true ↔ (∀ p ∈ l, p < one.length) ∧ l.Pairwise (· < ·) ∧ l.length ≤ other.length ∧ l.map (fun p => one.getD p 0) = other.take l.length := by
  unfold isPick
  simp only [Bool.and_eq_true, decide_eq_true_eq, inc_pw, List.all_eq_true]
end DL

namespace DL
open PySem PySem.Spec PyProof.Rows L2
/-- enumerate of a text -/
@[simp] def dEnumS (t : TAD) : TSrc := fun ρ μ Q => t ρ μ fun xs μ1 => match xs with
  | [.str s] => Q (enumD 0 (strD s)) still μ1
  | _ => False
section
variable {K : PySem.W.Frag} {mg : Str → Option Value}
def rdNeR : RD2
  | .ref a, .lst ys, μ, Q => ∃ xs, μ a = some (.lst xs) ∧ okEq (.lst xs) (.lst ys) ∧ Q (.bl (!D.eqv (.lst xs) (.lst ys))) μ
  | _, _, _, _ => False
@[simp] theorem rdNeR_1 : rdNeR  (.ref a0) (.lst ys0) μ0 Q0 = (∃ xs, μ0 a0 = some (.lst xs) ∧ okEq (.lst xs) (.lst ys0) ∧ Q0 (.bl (!D.eqv (.lst xs) (.lst ys0))) μ0) := rfl
end
end DL

namespace DL
open PySem PySem.Spec PyProof.Rows L2
theorem Dts.split {K : PySem.W.Frag} {mg : Str → Option Value} {F : Hp} {vs : List V} {ds : List D} (n : Nat) (r : Dts K mg F vs ds) : vs = vs.take n ++ vs.drop n ∧ Dts K mg F (vs.take n) (ds.take n) ∧ Dts K mg F (vs.drop n) (ds.drop n) := ⟨(List.take_append_drop n vs).symm, r.take n, r.drop n⟩
section
variable {P : Program} {w : World} {K : PySem.W.Frag} {mg : Str → Option Value} {base : Heap} {k : Nat} {f : Addr} {ps : List Str} {S : DSp}
end
/-- each item gives one, nothing changes -/
theorem lcD_list {α : Type} {vs : List Nat} {g : TGD} {el : TED} {ρ : DEnv} {Q : List D → Sto → Prop} {μ : Sto} {inv : Sto → Prop} (l : List α) (i r : α → D) (hi : inv μ) (hl : l.length ≤ SZ)
    (step : ∀ a ∈ l, ∀ k : D → Sto → Prop, k (r a) μ → g (i a) (wipeD ρ vs) fun ρ1 => el ρ1 μ k) (done : Q (l.map r) μ) : lcD vs g dYes el ρ inv Q (l.map i) [] μ := by
  refine lcD_inv (fun xs acc μ' => μ' = μ ∧ ∃ pre post, l = pre ++ post ∧ xs = post.map i ∧ acc = pre.map r) (fun _ _ _ h => h.1 ▸ hi) ?_ ?_ (l.map i) [] μ ⟨rfl, [], l, rfl, rfl, rfl⟩
  · rintro x xs acc μ' n ⟨rfl, pre, post, e, hx, rfl⟩ hn
    cases post with
    | nil => cases hx
    | cons a post =>
      rw [List.map_cons] at hx
      cases hx
      have := step a (by rw [e]; simp) (fun y m => (pre.map r).length < SZ ∧ n (pre.map r ++ [y]) m) ⟨by rw [e] at hl; simp at hl ⊢; omega, hn _ _ ⟨rfl, pre ++ [a], post, by simp [e], rfl, by simp⟩⟩
      simpa using this
  · rintro acc μ' ⟨rfl, pre, post, e, hx, rfl⟩
    cases post with
    | nil => rw [List.append_nil] at e; subst e; exact done
    | cons a post => cases hx
/-- each item that fits gives one, nothing changes -/
theorem lcD_listF {α : Type} {vs : List Nat} {g : TGD} {c : TTD} {el : TED} {ρ : DEnv} {Q : List D → Sto → Prop} {μ : Sto} {inv : Sto → Prop} (l : List α) (p : α → Bool) (i r : α → D) (hi : inv μ) (hl : l.length ≤ SZ)
    (step : ∀ a ∈ l, ∀ (k : D → Sto → Prop) (n : Sto → Prop), (p a = true → k (r a) μ) → (p a = false → n μ) → g (i a) (wipeD ρ vs) fun ρ1 => c ρ1 μ fun b μ1 => if b = true then el ρ1 μ1 k else n μ1)
    (done : Q ((l.filter p).map r) μ) : lcD vs g c el ρ inv Q (l.map i) [] μ := by
  refine lcD_inv (fun xs acc μ' => μ' = μ ∧ ∃ pre post, l = pre ++ post ∧ xs = post.map i ∧ acc = (pre.filter p).map r) (fun _ _ _ h => h.1 ▸ hi) ?_ ?_ (l.map i) [] μ ⟨rfl, [], l, rfl, rfl, rfl⟩
  · rintro x xs acc μ' n ⟨rfl, pre, post, e, hx, rfl⟩ hn
    cases post with
    | nil => cases hx
    | cons a post =>
      rw [List.map_cons] at hx
      cases hx
      refine step a (by rw [e]; simp) _ (fun m => n _ m) (fun hp => ⟨?_, hn _ _ ⟨rfl, pre ++ [a], post, by simp [e], rfl, by simp [hp]⟩⟩) fun hp => hn _ _ ⟨rfl, pre ++ [a], post, by simp [e], rfl, by simp [hp]⟩
      have := List.length_filter_le p pre
      rw [e] at hl
      simp at hl ⊢
      omega
  · rintro acc μ' ⟨rfl, pre, post, e, hx, rfl⟩
    cases post with
    | nil => rw [List.append_nil] at e; subst e; exact done
    | cons a post => cases hx
end DL

namespace DL
open PySem PySem.Spec PyProof.Rows L2
/-- enumerate of a tuple -/
@[simp] def dEnumT (t : TAD) : TSrc := fun ρ μ Q => t ρ μ fun xs μ1 => match xs with
  | [.tup s] => Q (enumD 0 s) still μ1
  | _ => False
end DL

namespace DL
open PySem PySem.Spec PyProof.Rows L2
open RZ (nextOf_tuple_item nextOf_tuple_end call_zipT pyNext_zipT_item pyNext_zipT_end)
section
variable {prog : Program} {w : World} {A : Around} {E : Value → Shared → Prop} {s : Shared}
/-- the pairs laid so far -/
structure ZGot (xs ys : Array Value) (base : Nat) (h : Heap) (ts : List Addr) : Prop where
  low : ∀ t ∈ ts, base ≤ t
  nd : ts.Nodup
  pr : ∀ (j : Nat) (t : Addr), ts[j]? = some t → ∃ x y, xs[j]? = some x ∧ ys[j]? = some y ∧ IsPair h t x y
theorem ZGot.keep {xs ys : Array Value} {base : Nat} {h h' : Heap} {ts : List Addr} (g : ZGot xs ys base h ts) (k : ∀ t, base ≤ t → ∀ o, h.get? t = some o → h'.get? t = some o) : ZGot xs ys base h' ts :=
  ⟨g.low, g.nd, fun j t e => let ⟨x, y, a, b, c⟩ := g.pr j t e; ⟨x, y, a, b, k t (g.low t (List.mem_of_getElem? e)) _ c⟩⟩
theorem ZGot.more {xs ys : Array Value} {base : Nat} {h : Heap} {ts : List Addr} {p : Addr} {x y : Value} (g : ZGot xs ys base h ts) (hp : base ≤ p) (hn : p ∉ ts) (hx : xs[ts.length]? = some x) (hy : ys[ts.length]? = some y) (hq : IsPair h p x y) : ZGot xs ys base h (ts ++ [p]) := by
  refine ⟨fun t ht => ?_, ?_, fun j t e => ?_⟩
  · rcases List.mem_append.mp ht with h1 | h1
    · exact g.low t h1
    · rw [List.mem_singleton.mp h1]; exact hp
  · rw [List.nodup_append]
    exact ⟨g.nd, by simp, fun a ha b hb => by rw [List.mem_singleton.mp hb]; exact fun e => hn (e ▸ ha)⟩
  · rcases Nat.lt_or_ge j ts.length with h1 | h1
    · rw [List.getElem?_append_left h1] at e; exact g.pr j t e
    · rw [List.getElem?_append_right h1] at e
      have hj : j = ts.length := by
        rcases Nat.eq_or_lt_of_le h1 with q | q
        · exact q.symm
        · rw [List.getElem?_eq_none (by simp; omega)] at e; cases e
      subst hj
      rw [Nat.sub_self] at e
      cases e
      exact ⟨x, y, hx, hy, hq⟩
/-- where the iterator stands -/
structure ZSt (z TI TO i1 i2 l1 l2 : Addr) (xs ys : Array Value) (i : Nat) (h : Heap) : Prop where
  pTI : IsPair h TI (.ref i1) (.ref i2)
  g1 : h.IsTupleIter i1 l1 i
  g2 : h.IsTupleIter i2 l2 i
  t1 : h.IsTuple l1 xs
  t2 : h.IsTuple l2 ys
  st : (IsZip h z TI TO .none ∧ ∃ a b, IsPair h TO a b) ∨ ∃ T f oT, IsZipHeld h z TI TO T f ∧ h.get? T = some oT ∧ T ≠ z ∧ T ≠ i1 ∧ T ≠ i2
structure ZOff (z TI TO i1 i2 l1 l2 S : Addr) : Prop where
  z : S ≠ z
  TI : S ≠ TI
  TO : S ≠ TO
  i1 : S ≠ i1
  i2 : S ≠ i2
  l1 : S ≠ l1
  l2 : S ≠ l2
theorem ZSt.upd {z TI TO i1 i2 l1 l2 S : Addr} {xs ys : Array Value} {i : Nat} {h h' : Heap} (a : ZSt z TI TO i1 i2 l1 l2 xs ys i h) (n : ZOff z TI TO i1 i2 l1 l2 S) (k : ∀ b o, b ≠ S → h.get? b = some o → h'.get? b = some o) (hS : ∀ o, h.get? S = some o → ∃ o', h'.get? S = some o') : ZSt z TI TO i1 i2 l1 l2 xs ys i h' := by
  refine ⟨k _ _ n.TI.symm a.pTI, a.g1.at fun o e => k _ o n.i1.symm e, a.g2.at fun o e => k _ o n.i2.symm e, a.t1.at fun o e => k _ o n.l1.symm e, a.t2.at fun o e => k _ o n.l2.symm e, ?_⟩
  rcases a.st with ⟨q, x, y, r⟩ | ⟨T, f, oT, q, r, r1, r2, r3⟩
  · exact .inl ⟨k _ _ n.z.symm q, x, y, k _ _ n.TO.symm r⟩
  · refine .inr ?_
    by_cases hT : T = S
    · subst hT
      obtain ⟨o', ho'⟩ := hS _ r
      exact ⟨T, f, o', k _ _ n.z.symm q, ho', r1, r2, r3⟩
    · exact ⟨T, f, oT, k _ _ n.z.symm q, k _ _ hT r, r1, r2, r3⟩
end
section
variable {prog : Program} {w : World} {A : Around} {R : Result → Shared → Prop}
end
section
variable {prog : Program} {w : World} {A : Around} {E : Value → Shared → Prop} {s : Shared} {R : Result → Shared → Prop}
end
section
variable {prog : Program} {w : World} {A : Around} {E : Value → Shared → Prop} {s : Shared}
end
section
variable {X : Cx}
end
def zipT (xs ys : List D) : List D := (xs.zip ys).map fun p => .tup [p.1, p.2]
section
variable {K : PySem.W.Frag} {mg : Str → Option Value}
end
@[simp] def dLzipF (t : TAD) : TFD := fun ρ μ Q => t ρ μ fun ds μ1 => match ds with
  | [.tup xs, .tup ys] => Q (zipT xs ys) μ1
  | _ => False
section
variable {X : Cx} {e e2 : Expr} {t : TAD} {p p2 pos pos2 : Pos}
end
end DL

namespace DL
open PySem PySem.Spec PyProof.Rows L2
@[simp] def dStar (a : TED) (t : TAD) : TAD := fun ρ μ Q => a ρ μ fun x μ1 => match x with
  | .tup xs => t ρ μ1 fun ys μ2 => Q (xs ++ ys) μ2
  | .lst xs => t ρ μ1 fun ys μ2 => Q (xs ++ ys) μ2
  | _ => False
section
variable {X : Cx} {e : Expr} {es : List Expr} {da : TED} {t : TAD} {p : Pos}
theorem da_star (h : DW X e da) (hr : DA X es t) (hs : starEach (.Starred e p :: es) X.env = (true, eval e X.env) :: starEach es X.env := by rfl) : DA X (.Starred e p :: es) (dStar da t) := (StX.pa_star h hr hs).weaken fun σ H Q q => by
  obtain ⟨F, ρ, μ, Qd, R, hd, k⟩ := q
  refine ⟨F, ρ, μ, _, R, hd, fun v F1 μ1 H1 dv e1 o1 w1 q1 => ?_⟩
  split at q1
  · obtain ⟨a, vs, rfl, ha, _, ra⟩ := w1.tup o1
    exact ⟨a, vs, rfl, .inl ha, F1, ρ, μ1, _, R.ext e1 o1, q1, fun us F2 μ2 H2 ds e2 o2 w2 q2 => k (vs ++ us) F2 μ2 H2 _ (e1.trans e2) o2 ((ra.mono e2.mono).append w2) q2⟩
  · obtain ⟨a, vs, rfl, ha, ra⟩ := w1.lst o1
    exact ⟨a, vs, rfl, .inr (.inl (.inl ha)), F1, ρ, μ1, _, R.ext e1 o1, q1, fun us F2 μ2 H2 ds e2 o2 w2 q2 => k (vs ++ us) F2 μ2 H2 _ (e1.trans e2) o2 ((ra.mono e2.mono).append w2) q2⟩
  · exact q1.elim
end
def rngC (lo c : Int) (n : Nat) : List D := (List.range n).map fun k => .int (lo + (k : Nat) * c)
@[simp] def dRng3 (t : TAD) : TSrc := fun ρ μ Q => t ρ μ fun xs μ1 => match xs with
  | [.int i, .int j, .int c] => c = -1 ∧ rngOk i ∧ rngOk j ∧ Q (rngC i (-1) (i - j).toNat) still μ1
  | _ => False
section
variable {X : Cx} {tg e e2 e3 : Expr} {t : TAD} {p pos : Pos}
end
section
variable {X : Cx} {B : Bs}
@[simp] def dAugP (sl : Nat) (r : RD2) (i d : TED) : TSD := fun E ρ μ => ∃ xs, ρ[sl]? = some (some (.own xs)) ∧ i ρ μ fun k μ1 => ∃ n j x, k = .int n ∧ ixN xs.length n = some j ∧ xs[j]? = some x ∧ d ρ μ1 fun y μ2 => r x y μ2 fun z μ3 => E.nx (ρ.set sl (some (.own (xs.set j z)))) μ3
end
def rdIMul : RD2 := rdI (fun i j => (-18446744073709551616 < i ∧ i < 18446744073709551616) ∨ (-18446744073709551616 < j ∧ j < 18446744073709551616)) fun i j => .int (i * j)
@[simp] theorem rdIMul_i {i j : Int} {μ : Sto} {Q : DK} : rdIMul (.int i) (.int j) μ Q = (((-18446744073709551616 < i ∧ i < 18446744073709551616) ∨ (-18446744073709551616 < j ∧ j < 18446744073709551616)) ∧ Q (.int (i * j)) μ) := rfl
section
variable {X : Cx}
end
section
variable {X : Cx} {o e : Expr} {es : List Expr} {name : Str} {apos cpos : Pos} {id : String} {r : V → List V → Hp → VK → Prop} {rd : RDm} {to : TE} {t : TA} {d : TED} {ta : TAD}
@[simp] def dMtT (rd : RDm) (d : TED) (t : TAD) : TED := fun ρ μ Q => d ρ μ fun x μ1 => match x with
  | .tup xs => t ρ μ1 fun ys μ2 => rd (.tup xs) ys μ2 Q
  | _ => False
end
def rdIndexT : RDm
  | .tup xs, [.int k], μ, Q => ∃ (ns : List Int) (j : Nat), xs = ns.map D.int ∧ ns[j]? = some k ∧ (∀ m, m < j → ns[m]? ≠ some k) ∧ Q (.int j) μ
  | _, _, _, _ => False
def rdIndexL : RDm
  | .lst xs, [.int k], μ, Q => ∃ (ns : List Int) (j : Nat), xs = ns.map D.int ∧ ns[j]? = some k ∧ (∀ m, m < j → ns[m]? ≠ some k) ∧ Q (.int j) μ
  | _, _, _, _ => False
def rdIndexS : RDm
  | .str s, [.str [c]], μ, Q => ∃ j, s.findIdx? (· == c) = some j ∧ Q (.int j) μ
  | _, _, _, _ => False
@[simp] theorem rdIndexT_1 : rdIndexT (.tup xs) [.int k] μ Q = (∃ (ns : List Int) (j : Nat), xs = ns.map D.int ∧ ns[j]? = some k ∧ (∀ m, m < j → ns[m]? ≠ some k) ∧ Q (.int j) μ) := rfl
@[simp] theorem rdIndexL_1 : rdIndexL (.lst xs) [.int k] μ Q = (∃ (ns : List Int) (j : Nat), xs = ns.map D.int ∧ ns[j]? = some k ∧ (∀ m, m < j → ns[m]? ≠ some k) ∧ Q (.int j) μ) := rfl
@[simp] theorem rdIndexS_1 : rdIndexS (.str s) [.str [c]] μ Q = (∃ j, s.findIdx? (· == c) = some j ∧ Q (.int j) μ) := rfl
section
variable {K : PySem.W.Frag} {mg : Str → Option Value}
end
def rdDivmod : RDn
  | [.int i, .int j], μ, Q => divOk j ∧ Q (.pr (.int (i / j)) (.int (i % j))) μ
  | _, _, _ => False
@[simp] theorem rdDivmod_1 : rdDivmod [.int i, .int j] μ Q = (divOk j ∧ Q (.pr (.int (i / j)) (.int (i % j))) μ) := rfl
end DL

namespace DL
open PySem PySem.Spec PyProof.Rows L2
@[simp] def dAddF (a b : TED) : TFD := fun ρ μ Q => a ρ μ fun x μ1 => b ρ μ1 fun y μ2 => ∃ xs ys, x = .lst xs ∧ y = .lst ys ∧ xs.length + ys.length ≤ SZ ∧ Q (xs ++ ys) μ2
@[simp] def dMulF (a b : TED) : TFD := fun ρ μ Q => a ρ μ fun x μ1 => b ρ μ1 fun y μ2 => ∃ xs n, x = .lst xs ∧ y = .int n ∧ n ≤ 1000000 ∧ -1000000 ≤ n ∧ xs.length * n.toNat ≤ SZ ∧ Q (repl n.toNat xs) μ2
@[simp] def dListF (t : TAD) : TFD := fun ρ μ Q => t ρ μ fun ds μ1 => match ds with
  | [.tup xs] => Q xs μ1
  | [.lst xs] => Q xs μ1
  | _ => False
section
variable {X : Cx} {e f : Expr} {da db : TED} {pos p : Pos} {t : TAD}
end
def rdIAdd : RD2
  | .int i, .int j, μ, Q => Q (.int (i + j)) μ
  | .str s, .str t, μ, Q => s.length + t.length ≤ SZ ∧ Q (.str (s ++ t)) μ
  | _, _, _, _ => False
@[simp] theorem rdIAdd_1 : rdIAdd (.int i) (.int j) μ Q = Q (.int (i + j)) μ := rfl
@[simp] theorem rdIAdd_2 : rdIAdd (.str s) (.str t) μ Q = (s.length + t.length ≤ SZ ∧ Q (.str (s ++ t)) μ) := rfl
@[simp] def dPar4 (i j k l : Nat) (a b : TRD) (c d : TED) : TSD := fun E ρ μ => a ρ μ fun s μ1 => b ρ μ1 fun t μ2 => c ρ μ2 fun x μ3 => d ρ μ3 fun y μ4 => E.nx ((((ρ.set i (some s)).set j (some t)).set k (some (.val x))).set l (some (.val y))) μ4
section
variable {X : Cx} {B : Bs} {i j k l : Nat} {a b c d t1 t2 t3 t4 : Expr} {da db : TRD} {dc dd : TED} {pt pt2 pos : Pos} {kt k2 : Nat}
end
end DL

namespace DL
open PySem PySem.Spec PyProof.Rows L2
/-- the deck at j, its cells at c, at most b draws without them so far -/
def Deck (j c : Addr) (b : Nat) (μ : Sto) : Prop := ∃ (r n m : Nat) (cells : List Nat), n ≤ b ∧ j ≠ c ∧ m < 2147483629 ∧ μ j = some (.lst [.ref c, .int r, .int n, .int m]) ∧ μ c = some (.lst (nats cells)) ∧ cells.length ≤ 63
def StD (j c : Addr) (μ0 : Sto) (b : Nat) (μ : Sto) : Prop := Deck j c b μ ∧ Same j c μ0 μ
theorem Deck.le {j c : Addr} {b b' : Nat} {μ : Sto} (h : Deck j c b μ) (le : b ≤ b') : Deck j c b' μ := by
  obtain ⟨r, n, m, cells, hn, q⟩ := h
  exact ⟨r, n, m, cells, Nat.le_trans hn le, q⟩
theorem StD.le {j c : Addr} {b b' : Nat} {μ0 μ : Sto} (h : StD j c μ0 b μ) (le : b ≤ b') : StD j c μ0 b' μ := ⟨h.1.le le, h.2⟩
@[simp] theorem atI_3 {α : Type} {a b c d : α} : atI [a, b, c, d] 3 = some d := rfl
@[simp] theorem ixN_43 : ixN 4 3 = some 3 := rfl
end DL

namespace DL
open PySem PySem.Spec PyProof.Rows L2
/-- each sheet behind the one before it -/
def prs {α : Type} (ws : List α) : List (α × α) := ws.zip (ws.drop 1)
theorem prs_len {α : Type} (ws : List α) : (prs ws).length = ws.length - 1 := by simp [prs]
theorem prs_mem {α : Type} {ws : List α} {p : α × α} (h : p ∈ prs ws) : p.1 ∈ ws ∧ p.2 ∈ ws :=
  ⟨(List.of_mem_zip (a := p.1) (b := p.2) h).1, List.mem_of_mem_drop (List.of_mem_zip (a := p.1) (b := p.2) h).2⟩
theorem prs_cons {α : Type} (a b : α) (r : List α) : prs (a :: b :: r) = (a, b) :: prs (b :: r) := rfl
def pcks (ws : List (List Nat)) : List (List Nat) := (prs ws).map fun p => fp p.1 p.2 0
def lens (ws : List (List Nat)) : Nat := (ws.map List.length).sum
end DL

namespace DL
open PySem PySem.Spec PyProof.Rows L2
/-- drawn sheets: at most n, of at most g letters each -/
def Shts (n g : Nat) (ws : List (List Nat)) : Prop := 0 < ws.length ∧ ws.length ≤ n ∧ ∀ w ∈ ws, Low w ∧ w.length ≤ g
end DL

namespace DL
open PySem PySem.Spec PyProof.Rows L2
end DL

namespace DL
open PySem PySem.Spec PyProof.Rows L2
/-- a stroke: letter, force; or a tear -/
abbrev HI := Option (Nat × Nat)
end DL

namespace DL
open PySem PySem.Spec PyProof.Rows L2
/-- on how many sheets the letter at the place was written; the picks behind -/
def forceOf : List (List Nat) → Nat → Nat
  | [], _ => 1
  | q :: r, p => match q.findIdx? (· == p) with
    | some j => 1 + forceOf r j
    | none => 1
theorem forceOf_cons (q : List Nat) (r : List (List Nat)) (p : Nat) : forceOf (q :: r) p = match q.findIdx? (· == p) with
    | some j => 1 + forceOf r j
    | none => 1 := rfl
/-- the strokes of a sheet, from a place on -/
def stks (w : List Nat) (ps : List (List Nat)) (b : Nat) : List HI := (List.range (w.length - b)).map fun k => some (w.getD (b + k) 0, forceOf ps (b + k))
def hisG : Nat → List (List Nat) → List (List Nat) → List HI
  | _, [], _ => []
  | b, w :: _, [] => stks w [] b
  | b, w :: ws, q :: ps => stks w (q :: ps) b ++ none :: hisG q.length ws ps
/-- the history of picks -/
def hisOf (ws ps : List (List Nat)) : List HI := hisG 0 ws ps
end DL

namespace DL
open PySem PySem.Spec PyProof.Rows L2
theorem fp_nilR (one : List Nat) (b : Nat) : fp one [] b = [] := rfl
end DL

namespace DL
open PySem PySem.Spec PyProof.Rows L2
/-- q is a pick of one for other -/
def PkOk (one other q : List Nat) : Prop := q.Pairwise (· < ·) ∧ (∀ x ∈ q, x < one.length) ∧ q.length ≤ other.length ∧ ∀ i x, q[i]? = some x → one.getD x 0 = other.getD i 0
def PksG : List (List Nat) → List (List Nat) → Prop
  | [_], [] => True
  | w :: v :: ws, q :: ps => PkOk w v q ∧ PksG (v :: ws) ps
  | _, _ => False
/-- a stroke through f rows -/
def strR (c : Nat) : Nat → List (List Nat) → List (List Nat)
  | 0, l => l
  | _, [] => []
  | f + 1, r :: l => (r ++ [c]) :: strR c f l
/-- the places that it brings: rows and what came to the rows behind the first -/
def strC : Nat → List (List Nat) → List (List Nat) → List (List Nat)
  | f + 2, r :: rs, q :: qs => (q ++ [r.length]) :: strC (f + 1) rs qs
  | _, _, qs => qs
end DL

namespace DL
open PySem PySem.Spec PyProof.Rows L2
/-- the sheet at which the player is, the rows, the places that came, the strokes so far -/
structure PSt where
  at_ : Nat
  R : List (List Nat)
  C : List (List Nat)
  n : Nat
def stp (s : PSt) : HI → PSt
  | none => ⟨s.at_ + 1, s.R, s.C, s.n⟩
  | some (c, f) => ⟨s.at_, s.R.take s.at_ ++ strR c f (s.R.drop s.at_), s.C.take (s.at_ + 1) ++ strC f (s.R.drop s.at_) (s.C.drop (s.at_ + 1)), s.n + 1⟩
/-- a history of n sheets, from sheet a on -/
def Vld (n : Nat) : Nat → List HI → Prop
  | a, [] => a + 1 = n
  | a, none :: r => a + 1 < n ∧ Vld n (a + 1) r
  | a, some (c, f) :: r => (97 ≤ c ∧ c < 123) ∧ 1 ≤ f ∧ a + f ≤ n ∧ Vld n a r
theorem stks_cons {w : List Nat} {b : Nat} (ps : List (List Nat)) (h : b < w.length) : stks w ps b = some (w.getD b 0, forceOf ps b) :: stks w ps (b + 1) := by
  unfold stks
  obtain ⟨k, hk⟩ : ∃ k, w.length - b = k + 1 := ⟨w.length - b - 1, by omega⟩
  have hk' : w.length - (b + 1) = k := by omega
  rw [hk, hk', List.range_succ_eq_map, List.map_cons, List.map_map]
  simp only [Nat.add_zero]
  congr 1
  refine List.map_congr_left fun j _ => ?_
  show some (w.getD (b + (j + 1)) 0, _) = some (w.getD (b + 1 + j) 0, _)
  rw [show b + 1 + j = b + (j + 1) by omega]
theorem stks_nil {w : List Nat} {b : Nat} (ps : List (List Nat)) (h : w.length ≤ b) : stks w ps b = [] := by
  unfold stks
  rw [Nat.sub_eq_zero_of_le h]; rfl
theorem strR_len (c : Nat) : ∀ (f : Nat) (l : List (List Nat)), (strR c f l).length = l.length
  | 0, l => rfl
  | f + 1, [] => rfl
  | f + 1, r :: l => by rw [strR, List.length_cons, List.length_cons, strR_len c f l]
theorem tkR_len (c i m : Nat) (R : List (List Nat)) : (R.take m ++ strR c i (R.drop m)).length = R.length := by
  rw [List.length_append, strR_len, List.length_take, List.length_drop]; omega
end DL

namespace DL
open PySem PySem.Spec PyProof.Rows L2
end DL

namespace DL
open PySem PySem.Spec PyProof.Rows L2
/-- the places of c from b on -/
def spots (one : List Nat) (b c : Nat) : List Nat := ((List.range (one.length - b)).map (b + ·)).filter fun k => one.getD k 0 == c
theorem mem_spots {one : List Nat} {b c k : Nat} (h : k ∈ spots one b c) : b ≤ k ∧ k < one.length ∧ one.getD k 0 = c := by
  unfold spots at h
  rw [List.mem_filter, List.mem_map] at h
  obtain ⟨⟨i, hi, rfl⟩, h2⟩ := h
  simp at hi
  exact ⟨by omega, by omega, by simpa using h2⟩
/-- places so far, the next one is from b on -/
def PrePk (one pre q : List Nat) (b : Nat) : Prop := q.Pairwise (· < ·) ∧ (∀ x ∈ q, x < b) ∧ b ≤ one.length ∧ q.length = pre.length ∧ ∀ i x, q[i]? = some x → one.getD x 0 = pre.getD i 0
theorem PrePk.ok {one pre r q : List Nat} {b : Nat} (h : PrePk one pre q b) : PkOk one (pre ++ r) q := by
  obtain ⟨h1, h2, h3, h4, h5⟩ := h
  refine ⟨h1, fun x hx => Nat.lt_of_lt_of_le (h2 x hx) h3, by rw [List.length_append]; omega, fun i x hx => ?_⟩
  have hi := (List.getElem?_eq_some_iff.mp hx).1
  rw [h5 i x hx, List.getD_eq_getElem?_getD, List.getD_eq_getElem?_getD, List.getElem?_append_left (by omega)]
theorem PrePk.nil (one : List Nat) : PrePk one [] [] 0 := ⟨List.Pairwise.nil, by simp, Nat.zero_le _, rfl, by simp⟩
theorem PrePk.snoc {one pre q : List Nat} {b c k : Nat} (h : PrePk one pre q b) (hk : k ∈ spots one b c) : PrePk one (pre ++ [c]) (q ++ [k]) (k + 1) := by
  obtain ⟨h1, h2, h3, h4, h5⟩ := h
  obtain ⟨k1, k2, k3⟩ := mem_spots hk
  refine ⟨?_, fun x hx => ?_, k2, by simp [h4], fun i x hx => ?_⟩
  · rw [List.pairwise_append]
    exact ⟨h1, by simp, fun x hx y hy => by simp at hy; subst hy; exact Nat.lt_of_lt_of_le (h2 x hx) k1⟩
  · rw [List.mem_append] at hx
    rcases hx with hx | hx
    · have := h2 x hx; omega
    · simp at hx; omega
  · by_cases hi : i < q.length
    · rw [List.getElem?_append_left hi] at hx
      rw [h5 i x hx, List.getD_eq_getElem?_getD, List.getD_eq_getElem?_getD, List.getElem?_append_left (by omega)]
    · have e : i = q.length := by
        have := (List.getElem?_eq_some_iff.mp hx).1
        simp at this; omega
      subst e
      rw [List.getElem?_append_right (Nat.le_refl _), Nat.sub_self] at hx
      simp at hx
      subst hx
      rw [k3, List.getD_eq_getElem?_getD, h4, List.getElem?_append_right (Nat.le_refl _), Nat.sub_self]; rfl
theorem PksG_of : ∀ (ws ps : List (List Nat)), ps.length + 1 = ws.length → (∀ z ∈ (prs ws).zip ps, PkOk z.1.1 z.1.2 z.2) → PksG ws ps
  | [], ps, h, _ => by simp at h
  | [w], [], _, _ => trivial
  | [w], q :: ps, h, _ => by simp at h
  | w :: v :: ws, [], h, _ => by simp at h
  | w :: v :: ws, q :: ps, h, hz => ⟨hz ((w, v), q) (by rw [prs_cons, List.zip_cons_cons]; simp), PksG_of (v :: ws) ps (by simpa using h) fun z hz' => hz z (by rw [prs_cons, List.zip_cons_cons]; exact List.mem_cons_of_mem _ hz')⟩
theorem spots_step {one : List Nat} {b : Nat} (c : Nat) (h : b < one.length) : spots one b c = if one[b] = c then b :: spots one (b + 1) c else spots one (b + 1) c := by
  unfold spots
  obtain ⟨k, hk⟩ : ∃ k, one.length - b = k + 1 := ⟨one.length - b - 1, by omega⟩
  have hk' : one.length - (b + 1) = k := by omega
  rw [hk, hk', List.range_succ_eq_map, List.map_cons, List.map_map, List.filter_cons, Nat.add_zero]
  have e : ((fun x => b + x) ∘ Nat.succ) = fun x => b + 1 + x := by funext x; simp; omega
  rw [e]
  have e2 : one.getD b 0 = one[b] := by rw [List.getD_eq_getElem?_getD, List.getElem?_eq_getElem h]; rfl
  rw [e2]
  by_cases hc : one[b] = c <;> simp [hc]
theorem spots_end {one : List Nat} {b : Nat} (c : Nat) (h : one.length ≤ b) : spots one b c = [] := by
  unfold spots; rw [Nat.sub_eq_zero_of_le h]; rfl
theorem fp_spots (one : List Nat) (c : Nat) (r : List Nat) : ∀ (m b : Nat), one.length - b = m → fp one (c :: r) b = match spots one b c with | [] => [] | k :: _ => k :: fp one r (k + 1)
  | 0, b, h => by rw [fp_end _ _ _ (by omega), spots_end _ (by omega)]
  | m + 1, b, h => by
    rw [fp_step _ _ _ _ (by omega), spots_step c (by omega)]
    by_cases e : one[b]'(by omega) = c
    · rw [if_pos e, if_pos e]
    · rw [if_neg e, if_neg e]; exact fp_spots one c r m (b + 1) (by omega)
theorem PrePk.fp {one : List Nat} : ∀ {r pre q : List Nat} {b : Nat}, PrePk one pre q b → PkOk one (pre ++ r) (q ++ fp one r b)
  | [], pre, q, b, h => by rw [fp_nilR, List.append_nil q]; exact h.ok
  | c :: r, pre, q, b, h => by
    rw [fp_spots one c r _ b rfl]
    cases hs : spots one b c with
    | nil => rw [List.append_nil q]; exact h.ok
    | cons k ks =>
      have := (h.snoc (c := c) (k := k) (by rw [hs]; simp)).fp (r := r)
      rw [List.append_assoc, List.append_assoc] at this
      exact this
end DL

namespace DL
open PySem PySem.Spec PyProof.Rows L2
mutual
/-- like ic, with small integers -/
def D.sm : D → Prop
  | .non => True
  | .bl _ => True
  | .int i => i.natAbs < 2 ^ 60
  | .str s => ∀ c ∈ s, c < 1114112
  | .tup xs => D.sms xs
  | .lst xs => D.sms xs
  | .dct _ => False | .scr _ => False | .ref _ => False | .ty _ => False | .gl _ => False | .pr _ _ => False | .obj _ _ => False | .exn _ _ => False | .tkt _ _ => False
def D.sms : List D → Prop
  | [] => True
  | x :: xs => x.sm ∧ D.sms xs
end
mutual
def D.wS : D → Nat
  | .int _ => 60
  | .str s => s.length
  | .tup xs => D.wSs xs
  | .lst xs => D.wSs xs
  | .non => 0 | .bl _ => 0 | .dct _ => 0 | .scr _ => 0 | .ref _ => 0 | .ty _ => 0 | .gl _ => 0 | .pr _ _ => 0 | .obj _ _ => 0 | .exn _ _ => 0 | .tkt _ _ => 0
def D.wSs : List D → Nat
  | [] => 0
  | x :: xs => x.wS + 1 + D.wSs xs
end
mutual
theorem D.sm_all : ∀ d : D, d.sm → d.ic ∧ d.py.intsShort 62 = true ∧ d.py.weight ≤ d.wS
  | .non, _ => ⟨trivial, rfl, Nat.le_refl _⟩
  | .bl _, _ => ⟨trivial, rfl, Nat.le_refl _⟩
  | .int i, h => by
    have hl := log_lt (k := 60) (by decide) h
    refine ⟨Nat.lt_trans h (by decide), ?_, ?_⟩
    · show decide _ = true
      simp only [decide_eq_true_eq]
      have := int_text_length_le (a := i) (k := 60) (by decide) hl
      have e : (PyData.shown (.int i)).length = (toString i).length := by
        show (Str.ofString (toString i)).length = _
        rw [PySem.ofString_length]
      rw [e]
      omega
    · show (if i == 0 then 0 else _) ≤ 60
      split <;> omega
  | .str s, h => by
    refine ⟨h, rfl, ?_⟩
    show s.toArray.size ≤ s.length
    simp
  | .tup xs, h => D.sms_all xs h
  | .lst xs, h => D.sms_all xs h
  | .dct _, h => h.elim
  | .scr _, h => h.elim
  | .ref _, h => h.elim
  | .ty _, h => h.elim
  | .gl _, h => h.elim
  | .pr _ _, h => h.elim
  | .obj _ _, h => h.elim
  | .exn _ _, h => h.elim
  | .tkt _ _, h => h.elim
theorem D.sms_all : ∀ ds : List D, D.sms ds → D.ics ds ∧ PyData.intsShortAll 62 (D.pys ds) = true ∧ PyData.weightAll (D.pys ds) ≤ D.wSs ds
  | [], _ => ⟨trivial, rfl, Nat.le_refl _⟩
  | x :: xs, h => by
    obtain ⟨a, c, e⟩ := D.sm_all x h.1
    obtain ⟨a', c', e'⟩ := D.sms_all xs h.2
    refine ⟨⟨a, a'⟩, ?_, ?_⟩
    · show (x.py.intsShort 62 && PyData.intsShortAll 62 (D.pys xs)) = true
      rw [c, c']; rfl
    · show x.py.weight + 1 + PyData.weightAll (D.pys xs) ≤ x.wS + 1 + D.wSs xs
      omega
end
theorem repOkS {d : D} (h : d.sm) (hw : d.wS ≤ 250000) (hd : d.dp ≤ 50) : repOk d := by
  obtain ⟨i, c2, e2⟩ := D.sm_all d h
  obtain ⟨a, b, c, e, f⟩ := D.ic_all d i
  refine ⟨a, by omega, ?_⟩
  have h2 := PyData.shown_le 62 (by decide) d.py (PyData.leavesShort_of_canLay0 62 d.py b c2)
  show d.py.shown.cps.toList.length ≤ SZ
  have e3 : d.py.shown.cps.toList.length = d.py.shown.length := by simp [Str.length]
  rw [e3]
  simp only [SZ]
  omega
theorem sms_iff : ∀ xs : List D, D.sms xs ↔ ∀ x ∈ xs, x.sm
  | [] => by simp [D.sms]
  | x :: xs => by simp [D.sms, sms_iff xs]
theorem wSs_le {w : Nat} : ∀ xs : List D, (∀ x ∈ xs, x.wS ≤ w) → D.wSs xs ≤ xs.length * (w + 1)
  | [], _ => by simp [D.wSs]
  | x :: xs, h => by
    have h1 := h x (by simp)
    have h2 := wSs_le xs fun y hy => h y (by simp [hy])
    simp [D.wSs, Nat.add_mul]
    omega
/-- data that may be written out, of weight at most w and depth at most k -/
structure Shw (w k : Nat) (d : D) : Prop where
  sm : d.sm
  wt : d.wS ≤ w
  dp : d.dp ≤ k
theorem Shw.rep {w k : Nat} {d : D} (h : Shw w k d) (hw : w ≤ 250000) (hk : k ≤ 50) : repOk d := repOkS h.sm (Nat.le_trans h.wt hw) (Nat.le_trans h.dp hk)
theorem Shw.mono {w k w' k' : Nat} {d : D} (h : Shw w k d) (hw : w ≤ w') (hk : k ≤ k') : Shw w' k' d := ⟨h.sm, Nat.le_trans h.wt hw, Nat.le_trans h.dp hk⟩
theorem shw_int {i : Int} (h : i.natAbs < 2 ^ 60) : Shw 60 0 (.int i) := ⟨h, Nat.le_refl _, Nat.le_refl _⟩
theorem shw_nat {i : Nat} (h : i < 1152921504606846976) : Shw 60 0 (.int i) := shw_int (by rw [show (2 : Nat) ^ 60 = 1152921504606846976 from rfl]; omega)
theorem shws {w k n : Nat} {xs : List D} (h : ∀ x ∈ xs, Shw w k x) (hl : xs.length ≤ n) : D.sms xs ∧ D.wSs xs ≤ n * (w + 1) ∧ D.dps xs ≤ k :=
  ⟨(sms_iff _).mpr fun x hx => (h x hx).sm, Nat.le_trans (wSs_le xs fun x hx => (h x hx).wt) (Nat.mul_le_mul_right _ hl), dps_le _ fun x hx => (h x hx).dp⟩
theorem shw_tup {w k n : Nat} {xs : List D} (h : ∀ x ∈ xs, Shw w k x) (hl : xs.length ≤ n) : Shw (n * (w + 1)) (k + 1) (.tup xs) := by
  obtain ⟨a, b, c⟩ := shws h hl
  exact ⟨a, b, Nat.succ_le_succ c⟩
theorem shw_lst {w k n : Nat} {xs : List D} (h : ∀ x ∈ xs, Shw w k x) (hl : xs.length ≤ n) : Shw (n * (w + 1)) (k + 1) (.lst xs) := by
  obtain ⟨a, b, c⟩ := shws h hl
  exact ⟨a, b, Nat.succ_le_succ c⟩
theorem shw_nats {l : List Nat} {n : Nat} (h : ∀ x ∈ l, x < 1152921504606846976) (hl : l.length ≤ n) : ∀ x ∈ nats l, Shw 60 0 x := fun x hx => by
  obtain ⟨y, hy, rfl⟩ := List.mem_map.mp hx
  exact shw_nat (h y hy)
end DL

namespace DL
open PySem PySem.Spec PyProof.Rows L2
theorem PksG.len : ∀ {ws ps : List (List Nat)}, PksG ws ps → ps.length + 1 = ws.length
  | [], _, h => h.elim
  | [_], [], _ => rfl
  | [_], _ :: _, h => h.elim
  | _ :: _ :: _, [], h => h.elim
  | _ :: v :: ws, _ :: ps, h => by
    have := PksG.len (ws := v :: ws) (ps := ps) h.2
    simp at this ⊢; exact this
theorem PksG.mem : ∀ {ws ps : List (List Nat)}, PksG ws ps → ∀ q ∈ ps, ∃ one ∈ ws, ∃ other ∈ ws, PkOk one other q
  | [], _, h => h.elim
  | [_], [], _ => by simp
  | [_], _ :: _, h => h.elim
  | _ :: _ :: _, [], h => h.elim
  | w :: v :: ws, p :: ps, h => fun q hq => by
    rcases List.mem_cons.mp hq with rfl | hq
    · exact ⟨w, by simp, v, by simp, h.1⟩
    · obtain ⟨a, ha, b, hb, e⟩ := PksG.mem (ws := v :: ws) (ps := ps) h.2 q hq
      exact ⟨a, List.mem_cons_of_mem _ ha, b, List.mem_cons_of_mem _ hb, e⟩
theorem PksG.small {n m : Nat} {ws ps : List (List Nat)} (hs : Shts n m ws) (hm : m ≤ 30) (h : PksG ws ps) : ∀ q ∈ ps, (∀ x ∈ q, x < 30) ∧ q.length ≤ m := fun q hq => by
  obtain ⟨one, h1, other, h2, _, a, b, _⟩ := h.mem q hq
  have h3 := (hs.2.2 one h1).2
  have h4 := (hs.2.2 other h2).2
  exact ⟨fun x hx => by have := a x hx; omega, by omega⟩
end DL

namespace DL
open PySem PySem.Spec PyProof.Rows L2
end DL

namespace DL
open PySem PySem.Spec PyProof.Rows L2
end DL

namespace DL
open PySem PySem.Spec PyProof.Rows L2
end DL

namespace DL
open PySem PySem.Spec PyProof.Rows L2
/-- the own lists of the frame are there -/
def Old (ρ : DEnv) (σ : L2.St) (H : Hp) : Prop := ∀ (j : Nat) (xs : List D) (p : Addr), ρ[j]? = some (some (DS.own xs)) → σ[j]? = some (some (V.ref p)) → H p ≠ none
theorem Old.of {K : PySem.W.Frag} {mg : Str → Option Value} {B : Bs} {F H : Hp} {μ : Sto} {ρ : DEnv} {σ : L2.St} (R : RelB K mg B F ρ μ σ H) : Old ρ σ H := fun j xs p z1 z2 => by
  obtain ⟨p2, vs, c1, c2, c3, c4, _⟩ := R.ownAt z1
  rw [c1] at z2
  cases z2
  rw [c4]
  exact fun z => nomatch z
theorem Old.own {K : PySem.W.Frag} {mg : Str → Option Value} {B : Bs} {F F1 H H1 : Hp} {μ μ1 : Sto} {ρ : DEnv} {σ : L2.St} (R : RelB K mg B F ρ μ σ H) (e : Ext F μ H F1 μ1 H1) : Old ρ σ H1 := fun j xs p z1 z2 => by
  obtain ⟨p2, vs, c1, c2, c3, c4, _⟩ := R.ownAt z1
  rw [c1] at z2
  cases z2
  rw [(e.keep p _ c4 c3).1]
  exact fun z => nomatch z
theorem Old.set {K : PySem.W.Frag} {mg : Str → Option Value} {F H0 H H2 : Hp} {μ : Sto} {ρ : DEnv} {σ : L2.St} {i : Nat} {v : V} {s : DS} (h : Old ρ σ H2) (hl : ρ.length = σ.length) (w : ROk K mg H0 F μ H v s) (hk : ∀ p, H p ≠ none → H0 p = none → H2 p ≠ none) :
    Old (ρ.set i (some s)) (σ.set i (some v)) H2 := fun j xs p z1 z2 => by
  by_cases hj : i = j
  · subst hj
    have hi : i < ρ.length := by
      have := (List.getElem?_eq_some_iff.mp z1).1
      rwa [List.length_set] at this
    rw [List.getElem?_set_self hi] at z1
    cases z1
    obtain ⟨p2, vs, rfl, c1, c2, c3, c4, c5⟩ := w
    rw [List.getElem?_set_self (by rw [← hl]; exact hi)] at z2
    cases z2
    exact hk _ (by rw [c4]; exact fun z => nomatch z) c1
  · rw [List.getElem?_set_ne hj] at z1 z2
    exact h j xs p z1 z2
theorem Old.ext {F F' H H' : Hp} {μ μ' : Sto} {ρ : DEnv} {σ : L2.St} (h : Old ρ σ H) (e : Ext F μ H F' μ' H') : Old ρ σ H' := fun j xs p z1 z2 z => h j xs p z1 z2 (e.live p z)
/-- x, y, z = a, b, c: results -/
@[simp] def dParR (i j l : Nat) (a b c : TRD) : TSD := fun E ρ μ => a ρ μ fun s μ1 => b ρ μ1 fun t μ2 => c ρ μ2 fun u μ3 => E.nx (((ρ.set i (some s)).set j (some t)).set l (some u)) μ3
section
variable {X : Cx} {B : Bs} {i j l : Nat} {a b c : Expr} {da db dc : TRD} {pos : Pos} {kt k2 : Nat}
end
end DL

namespace DL
open PySem PySem.Spec PyProof.Rows L2
end DL

namespace DL
open PySem PySem.Spec PyProof.Rows L2
/-- all letters on the lower sheets came through -/
def Ch : List (List Nat) → List (List Nat) → Prop
  | [_], [] => True
  | w :: v :: ws, q :: qs => (q.Pairwise (· < ·) ∧ (∀ x ∈ q, x < w.length) ∧ q.length = v.length ∧ ∀ i x, q[i]? = some x → w.getD x 0 = v.getD i 0) ∧ Ch (v :: ws) qs
  | _, _ => False
/-- later rows and places -/
def Ex : List (List Nat) → List (List Nat) → List (List Nat) → List (List Nat) → Prop
  | [w], [], [w'], [] => w <+: w'
  | w :: v :: ws, q :: qs, w' :: v' :: ws', q' :: qs' => w <+: w' ∧ (∃ y, q' = q ++ y ∧ ∀ z ∈ y, w.length ≤ z) ∧ Ex (v :: ws) qs (v' :: ws') qs'
  | _, _, _, _ => False
theorem Ch.refl : ∀ {rows cs : List (List Nat)}, Ch rows cs → Ex rows cs rows cs
  | [_], [], _ => List.prefix_refl _
  | _ :: v :: ws, _ :: qs, h => ⟨List.prefix_refl _, ⟨[], by simp, by simp⟩, Ch.refl (rows := v :: ws) (cs := qs) h.2⟩
  | [], _, h => h.elim
  | [_], _ :: _, h => h.elim
  | _ :: _ :: _, [], h => h.elim
theorem Ex.head : ∀ {r c r' c' : List (List Nat)}, Ex r c r' c' → ∃ w ws w' ws', r = w :: ws ∧ r' = w' :: ws' ∧ w <+: w'
  | [w], [], [w'], [], h => ⟨_, _, _, _, rfl, rfl, h⟩
  | w :: v :: ws, q :: qs, w' :: v' :: ws', q' :: qs', h => ⟨_, _, _, _, rfl, rfl, h.1⟩
  | [], _, _, _, h => by unfold Ex at h; exact h.elim
  | [_], _ :: _, _, _, h => by unfold Ex at h; exact h.elim
  | [_], [], [], _, h => by unfold Ex at h; exact h.elim
  | [_], [], _ :: _ :: _, _, h => by unfold Ex at h; exact h.elim
  | [_], [], [_], _ :: _, h => by unfold Ex at h; exact h.elim
  | _ :: _ :: _, [], _, _, h => by unfold Ex at h; exact h.elim
  | _ :: _ :: _, _ :: _, [], _, h => by unfold Ex at h; exact h.elim
  | _ :: _ :: _, _ :: _, [_], _, h => by unfold Ex at h; exact h.elim
  | _ :: _ :: _, _ :: _, _ :: _ :: _, [], h => by unfold Ex at h; exact h.elim
theorem Ex.two {w v : List Nat} {ws qs r' c' : List (List Nat)} {q : List Nat} (h : Ex (w :: v :: ws) (q :: qs) r' c') : ∃ w' v' ws' q' qs', r' = w' :: v' :: ws' ∧ c' = q' :: qs' ∧ w <+: w' ∧ (∃ y, q' = q ++ y ∧ ∀ z ∈ y, w.length ≤ z) ∧ Ex (v :: ws) qs (v' :: ws') qs' := by
  match r', c', h with
  | w' :: v' :: ws', q' :: qs', h => exact ⟨_, _, _, _, _, rfl, rfl, h⟩
  | [], _, h => unfold Ex at h; exact h.elim
  | [_], _, h => unfold Ex at h; exact h.elim
  | _ :: _ :: _, [], h => unfold Ex at h; exact h.elim
theorem Ex.one {w : List Nat} {r' c' : List (List Nat)} (h : Ex [w] [] r' c') : ∃ w', r' = [w'] ∧ c' = [] ∧ w <+: w' := by
  match r', c', h with
  | [w'], [], h => exact ⟨_, rfl, rfl, h⟩
  | [], _, h => unfold Ex at h; exact h.elim
  | _ :: _ :: _, _, h => unfold Ex at h; exact h.elim
  | [_], _ :: _, h => unfold Ex at h; exact h.elim
theorem Ex.trans : ∀ {r c r2 c2 r3 c3 : List (List Nat)}, Ch r c → Ex r c r2 c2 → Ex r2 c2 r3 c3 → Ex r c r3 c3
  | [w], [], _, _, _, _, _, h, g => by
    obtain ⟨w', rfl, rfl, h1⟩ := h.one
    obtain ⟨w2, rfl, rfl, h2⟩ := g.one
    exact h1.trans h2
  | w :: v :: ws, q :: qs, _, _, _, _, hc, h, g => by
    obtain ⟨w', v', ws', q', qs', rfl, rfl, h1, ⟨y, rfl, hy⟩, h3⟩ := h.two
    obtain ⟨w2, v2, ws2, q2, qs2, rfl, rfl, g1, ⟨y2, rfl, hy2⟩, g3⟩ := g.two
    refine ⟨h1.trans g1, ⟨y ++ y2, by simp, fun z hz => ?_⟩, Ex.trans hc.2 h3 g3⟩
    rcases List.mem_append.mp hz with hz | hz
    · exact hy z hz
    · exact Nat.le_trans h1.length_le (hy2 z hz)
  | [], _, _, _, _, _, hc, _, _ => hc.elim
  | [_], _ :: _, _, _, _, _, hc, _, _ => hc.elim
  | _ :: _ :: _, [], _, _, _, _, hc, _, _ => hc.elim
theorem pre_getD {w w' : List Nat} (h : w <+: w') {i : Nat} (hi : i < w.length) : w'.getD i 0 = w.getD i 0 := by
  obtain ⟨t, rfl⟩ := h
  rw [List.getD_eq_getElem?_getD, List.getD_eq_getElem?_getD, List.getElem?_append_left hi]
theorem app_getD (w : List Nat) (c : Nat) : (w ++ [c]).getD w.length 0 = c := by
  rw [List.getD_eq_getElem?_getD, List.getElem?_append_right (Nat.le_refl _), Nat.sub_self]; rfl
/-- a stroke -/
theorem Ch.stroke (c : Nat) : ∀ {f : Nat} {r cs : List (List Nat)}, Ch r cs → f + 1 ≤ r.length → Ch (strR c (f + 1) r) (strC (f + 1) r cs) ∧ Ex r cs (strR c (f + 1) r) (strC (f + 1) r cs)
  | 0, [w], [], h, _ => ⟨trivial, List.prefix_append _ _⟩
  | 0, w :: v :: ws, q :: qs, h, _ => by
    obtain ⟨⟨h1, h2, h3, h4⟩, h5⟩ := h
    refine ⟨⟨⟨h1, fun x hx => by have := h2 x hx; simp; omega, h3, fun i x hx => ?_⟩, h5⟩, List.prefix_append _ _, ⟨[], by simp, by simp⟩, h5.refl⟩
    rw [pre_getD (List.prefix_append _ _) (h2 x (List.mem_of_getElem? hx))]; exact h4 i x hx
  | f + 1, [w], [], h, hl => by simp at hl
  | f + 1, w :: v :: ws, q :: qs, h, hl => by
    obtain ⟨⟨h1, h2, h3, h4⟩, h5⟩ := h
    obtain ⟨i1, i2⟩ := Ch.stroke c (f := f) (r := v :: ws) (cs := qs) h5 (by simp at hl ⊢; omega)
    have e : strR c (f + 1) (v :: ws) = (v ++ [c]) :: strR c f ws := rfl
    rw [e] at i1 i2
    refine ⟨⟨⟨?_, ?_, ?_, ?_⟩, i1⟩, ⟨List.prefix_append _ _, ⟨[w.length], rfl, by simp⟩, i2⟩⟩
    · rw [List.pairwise_append]
      exact ⟨h1, by simp, fun x hx y hy => by simp at hy; subst hy; exact h2 x hx⟩
    · intro x hx
      rw [List.mem_append] at hx
      rcases hx with hx | hx
      · have := h2 x hx; simp; omega
      · simp at hx; simp [hx]
    · simp [h3]
    · intro i x hx
      by_cases hi : i < q.length
      · rw [List.getElem?_append_left hi] at hx
        rw [pre_getD (List.prefix_append _ _) (h2 x (List.mem_of_getElem? hx)), pre_getD (List.prefix_append _ _) (by omega)]
        exact h4 i x hx
      · have hi2 := (List.getElem?_eq_some_iff.mp hx).1
        simp at hi2
        have : i = q.length := by omega
        subst this
        rw [List.getElem?_append_right (Nat.le_refl _), Nat.sub_self] at hx
        simp at hx
        subst hx
        rw [app_getD, h3, app_getD]
  | _, [], _, h, _ => h.elim
  | _, [_], _ :: _, h, _ => h.elim
  | _, _ :: _ :: _, [], h, _ => h.elim
theorem find_none {q : List Nat} {p : Nat} (h : ∀ x ∈ q, x ≠ p) : q.findIdx? (· == p) = none := by
  rw [List.findIdx?_eq_none_iff]
  intro x hx
  simpa using h x hx
theorem find_at {q y : List Nat} {p : Nat} (h : ∀ x ∈ q, x ≠ p) : (q ++ p :: y).findIdx? (· == p) = some q.length := by
  rw [List.findIdx?_append, find_none h, List.findIdx?_cons]
  simp
theorem Ch.force (c : Nat) : ∀ {f : Nat} {w : List Nat} {ws cs r' c' : List (List Nat)}, Ch (w :: ws) cs → f + 1 ≤ (w :: ws).length → Ex (strR c (f + 1) (w :: ws)) (strC (f + 1) (w :: ws) cs) r' c' → forceOf c' w.length = f + 1
  | 0, w, [], [], _, _, h, _, e => by
    obtain ⟨w', rfl, rfl, _⟩ := e.one
    rfl
  | 0, w, v :: ws, q :: qs, r', c', h, _, e => by
    obtain ⟨⟨h1, h2, h3, h4⟩, h5⟩ := h
    have e : Ex ((w ++ [c]) :: v :: ws) (q :: qs) r' c' := e
    obtain ⟨w', v', ws', q', qs', rfl, rfl, g1, ⟨y, rfl, hy⟩, g3⟩ := e.two
    rw [forceOf_cons, find_none]
    intro x hx
    rw [List.mem_append] at hx
    rcases hx with hx | hx
    · have := h2 x hx; omega
    · have := hy x hx; simp at this; omega
  | f + 1, w, [], [], _, _, h, hl, e => by simp at hl
  | f + 1, w, v :: ws, q :: qs, r', c', h, hl, e => by
    obtain ⟨⟨h1, h2, h3, h4⟩, h5⟩ := h
    have e : Ex ((w ++ [c]) :: (v ++ [c]) :: strR c f ws) ((q ++ [w.length]) :: strC (f + 1) (v :: ws) qs) r' c' := e
    obtain ⟨w', v', ws', q', qs', rfl, rfl, g1, ⟨y, rfl, hy⟩, g3⟩ := e.two
    have ih := Ch.force c (f := f) (w := v) (ws := ws) (cs := qs) h5 (by simp at hl ⊢; omega) g3
    rw [forceOf_cons, List.append_assoc, List.singleton_append, find_at (fun x hx => by have := h2 x hx; omega)]
    show 1 + forceOf qs' q.length = _
    rw [h3, ih]; omega
  | _, _, [], _ :: _, _, _, h, _, _ => h.elim
  | _, _, _ :: _, [], _, _, h, _, _ => h.elim
theorem strR_lenP (c : Nat) : ∀ (f : Nat) (l : List (List Nat)), (strR c f l).length = l.length
  | 0, l => rfl
  | f + 1, [] => rfl
  | f + 1, r :: l => by rw [strR, List.length_cons, List.length_cons, strR_lenP c f l]
def play : List HI → List (List Nat) → List (List Nat) → List (List Nat) × List (List Nat)
  | [], r, c => (r, c)
  | none :: h, w :: r, q :: c => (w :: (play h r c).1, q :: (play h r c).2)
  | none :: _, r, c => (r, c)
  | some (x, f) :: h, r, c => play h (strR x f r) (strC f r c)
theorem hisG_step {w : List Nat} {ws cs : List (List Nat)} {b : Nat} (h : b < w.length) : hisG b (w :: ws) cs = some (w.getD b 0, forceOf cs b) :: hisG (b + 1) (w :: ws) cs := by
  cases cs with
  | nil => rw [hisG, hisG, stks_cons _ h]
  | cons q cs => rw [hisG, hisG, stks_cons _ h]; rfl
theorem play_back : ∀ {h : List HI} {w : List Nat} {ws cs : List (List Nat)} {n a : Nat}, Ch (w :: ws) cs → Vld n a h → a + (w :: ws).length = n →
    Ex (w :: ws) cs (play h (w :: ws) cs).1 (play h (w :: ws) cs).2 ∧ PksG (play h (w :: ws) cs).1 (play h (w :: ws) cs).2 ∧ hisG w.length (play h (w :: ws) cs).1 (play h (w :: ws) cs).2 = h
  | [], w, ws, cs, n, a, hc, hv, hl => by
    have hv : a + 1 = n := hv
    have : ws = [] := List.length_eq_zero_iff.mp (by simp at hl; omega)
    subst this
    match cs, hc with
    | [], hc => exact ⟨hc.refl, trivial, by rw [play, hisG, stks_nil _ (Nat.le_refl _)]⟩
    | _ :: _, hc => exact hc.elim
  | none :: h, w, [], cs, n, a, hc, hv, hl => by
    have := hv.1
    simp at hl; omega
  | none :: h, w, v :: ws, [], n, a, hc, hv, hl => hc.elim
  | none :: h, w, v :: ws, q :: qs, n, a, hc, hv, hl => by
    obtain ⟨⟨h1, h2, h3, h4⟩, h5⟩ := hc
    obtain ⟨i1, i2, i3⟩ := play_back (h := h) (w := v) (ws := ws) (cs := qs) h5 hv.2 (by simp at hl ⊢; omega)
    rw [play]
    generalize (play h (v :: ws) qs).1 = R at i1 i2 i3
    generalize (play h (v :: ws) qs).2 = C at i1 i2 i3
    obtain ⟨_, _, v', ws', e, rfl, hp⟩ := i1.head
    cases e
    refine ⟨⟨List.prefix_refl _, ⟨[], by simp, by simp⟩, i1⟩, ⟨⟨h1, h2, by rw [h3]; exact hp.length_le, fun i x hx => ?_⟩, i2⟩, ?_⟩
    · rw [h4 i x hx, pre_getD hp (by have := (List.getElem?_eq_some_iff.mp hx).1; omega)]
    · show hisG w.length (w :: v' :: ws') (q :: C) = _
      rw [hisG, stks_nil _ (Nat.le_refl _), h3, i3]; rfl
  | some (c, f) :: h, w, ws, cs, n, a, hc, hv, hl => by
    obtain ⟨v1, v2, v3, v4⟩ := hv
    obtain ⟨g, rfl⟩ : ∃ g, f = g + 1 := ⟨f - 1, by omega⟩
    have hg : g + 1 ≤ (w :: ws).length := by omega
    obtain ⟨s1, s2⟩ := hc.stroke c hg
    have e : strR c (g + 1) (w :: ws) = (w ++ [c]) :: strR c g ws := rfl
    obtain ⟨i1, i2, i3⟩ := play_back (h := h) (w := w ++ [c]) (ws := strR c g ws) (cs := strC (g + 1) (w :: ws) cs) s1 v4 (by rw [List.length_cons, strR_lenP]; simpa using hl)
    rw [play, e]
    rw [e] at s2
    refine ⟨Ex.trans hc s2 i1, i2, ?_⟩
    have fo := hc.force c hg (by rw [e]; exact i1)
    obtain ⟨_, _, w', ws', e2, e3, hp⟩ := i1.head
    cases e2
    rw [e3] at i3 ⊢
    rw [List.length_append, show [c].length = 1 from rfl] at i3
    have hlt := hp.length_le
    simp at hlt
    rw [hisG_step (by omega), fo, i3, pre_getD hp (by simp), app_getD]
theorem strC_lenP : ∀ (f : Nat) (rs l : List (List Nat)), (strC f rs l).length = l.length
  | 0, rs, l => by unfold strC; rfl
  | 1, rs, l => by unfold strC; rfl
  | f + 2, [], l => by unfold strC; rfl
  | f + 2, r :: rs, [] => by unfold strC; rfl
  | f + 2, r :: rs, q :: qs => by rw [strC, List.length_cons, List.length_cons, strC_lenP (f + 1) rs qs]
theorem play_stp : ∀ {h : List HI} {A B r c : List (List Nat)} {m : Nat}, B.length = A.length + 1 → r.length = c.length + 1 → Vld (A.length + r.length) A.length h →
    ∃ k, h.foldl stp ⟨A.length, A ++ r, B ++ c, m⟩ = ⟨A.length + c.length, A ++ (play h r c).1, B ++ (play h r c).2, k⟩
  | [], A, B, r, c, m, hB, hr, hv => by
    have hv : A.length + 1 = A.length + r.length := hv
    have : c = [] := List.length_eq_zero_iff.mp (by omega)
    subst this
    exact ⟨m, rfl⟩
  | none :: h, A, B, r, c, m, hB, hr, hv => by
    obtain ⟨v1, v2⟩ := hv
    match r, c, hr with
    | w :: v :: r, q :: c, hr =>
      obtain ⟨k, hk⟩ := play_stp (h := h) (A := A ++ [w]) (B := B ++ [q]) (r := v :: r) (c := c) (m := m) (by simp [hB]) (by simpa using hr) (by
        have e : (A ++ [w]).length + (v :: r).length = A.length + (w :: v :: r).length := by simp; omega
        rw [e, List.length_append]; exact v2)
      refine ⟨k, ?_⟩
      rw [List.foldl_cons, stp, play]
      simp only [List.append_assoc, List.singleton_append, List.length_append, List.length_cons, List.length_nil, Nat.zero_add] at hk ⊢
      rw [hk]
      congr 1; omega
    | [w], [], hr => simp at v1
    | [], _, hr => simp at hr
    | [w], _ :: _, hr => simp at hr
    | _ :: _ :: _, [], hr => simp at hr
  | some (x, f) :: h, A, B, r, c, m, hB, hr, hv => by
    obtain ⟨v1, v2, v3, v4⟩ := hv
    obtain ⟨k, hk⟩ := play_stp (h := h) (A := A) (B := B) (r := strR x f r) (c := strC f r c) (m := m + 1) hB (by rw [strR_lenP, strC_lenP]; exact hr) (by rw [strR_lenP]; exact v4)
    refine ⟨k, ?_⟩
    rw [List.foldl_cons, stp, play]
    simp only [← hB, List.take_left, List.drop_left]
    rw [hk, strC_lenP]
theorem ch0 : ∀ n : Nat, Ch (List.replicate (n + 1) []) (List.replicate n [])
  | 0 => trivial
  | n + 1 => ⟨⟨.nil, by simp, rfl, by simp⟩, ch0 n⟩
/-- the history of what a history wrote and picked is this history -/
theorem his_back {n : Nat} {h : List HI} {s : PSt} (hn : 0 < n) (hv : Vld n 0 h) (e : s = h.foldl stp ⟨0, List.replicate n [], List.replicate n [], 0⟩) :
    PksG s.R (s.C.drop 1) ∧ hisOf s.R (s.C.drop 1) = h := by
  obtain ⟨m, rfl⟩ : ∃ m, n = m + 1 := ⟨n - 1, by omega⟩
  obtain ⟨k, hk⟩ := play_stp (h := h) (A := []) (B := [[]]) (r := List.replicate (m + 1) []) (c := List.replicate m []) (m := 0) rfl (by simp) (by simpa using hv)
  obtain ⟨i1, i2, i3⟩ := play_back (h := h) (w := []) (ws := List.replicate m []) (cs := List.replicate m []) (n := m + 1) (a := 0) (ch0 m) hv (by simp)
  have er : List.replicate (m + 1) ([] : List Nat) = [] :: List.replicate m [] := rfl
  rw [er] at hk e
  simp only [List.length_nil, List.nil_append, List.singleton_append] at hk
  rw [hk] at e
  subst e
  exact ⟨i2, i3⟩
end DL

namespace DL
open PySem PySem.Spec PyProof.Rows L2
/-- what the strokes write on sheet i, from the top sheet t on -/
def lt : List HI → Nat → Nat → List Nat
  | [], _, _ => []
  | none :: r, t, i => lt r (t + 1) i
  | some (c, f) :: r, t, i => if t ≤ i ∧ i < t + f then c :: lt r t i else lt r t i
end DL

namespace DL
open PySem PySem.Spec PyProof.Rows L2
end DL

namespace DL
open PySem PySem.Spec PyProof.Rows L2
end DL

namespace DL
open PySem PySem.Spec PyProof.Rows L2
end DL

namespace DL
open PySem PySem.Spec PyProof.Rows L2
def strokes (h : List HI) : Nat := (h.filter Option.isSome).length
end DL

namespace DL
open PySem PySem.Spec PyProof.Rows L2
end DL

namespace DL
open PySem PySem.Spec PyProof.Rows L2
end DL

namespace DL
open PySem PySem.Spec PyProof.Rows L2
open RZ (nextOf_tuple_item nextOf_tuple_end)
/-- the iterator at i, which walks over the items xs that are kept at l -/
structure Wlk (i l : Addr) (xs : Array Value) where
  It : Nat → Heap → Prop
  Src : Heap → Prop
  it : ∀ {k h h'}, It k h → (∀ o, h.get? i = some o → h'.get? i = some o) → It k h'
  src : ∀ {h h'}, Src h → (∀ o, h.get? l = some o → h'.get? l = some o) → Src h'
  item : ∀ {prog : Program} {w : World} {A : Around} {E : Value → Shared → Prop} {s : Shared} {k : Nat} {x : Value} {Q : Value → Shared → Prop}, It k s.heap → Src s.heap → xs[k]? = some x →
    (∀ h', It (k + 1) h' → Heap.SameBut i s.heap h' → Q x { s with heap := h' }) → wpAny (model prog w) A (Builtin.SmallTypes.nextOf (.ref i)) Q E s
  fin : ∀ {prog : Program} {w : World} {A : Around} {E : Value → Shared → Prop} {s : Shared} {k : Nat} {Q : Value → Shared → Prop}, A.handled = none → It k s.heap → Src s.heap → xs[k]? = none →
    (∀ h' e, Heap.ExtBut i s.heap h' → (∃ o, h'.get? e = some o ∧ o.cls = .type "StopIteration") → E (.ref e) { s with heap := h' }) → wpAny (model prog w) A (Builtin.SmallTypes.nextOf (.ref i)) Q E s
def Wlk.list (i l : Addr) (xs : Array Value) : Wlk i l xs where
  It := fun k h => h.IsListIter i l k
  Src := fun h => h.IsList l xs
  it := fun a b => a.at b
  src := fun a b => a.at b
  item := fun a b c d => wpAny_nextOf_list_item a b c d
  fin := fun a b c d e => wpAny_nextOf_list_end a b c d e
def Wlk.tup (i l : Addr) (xs : Array Value) : Wlk i l xs where
  It := fun k h => h.IsTupleIter i l k
  Src := fun h => h.IsTuple l xs
  it := fun a b => a.at b
  src := fun a b => a.at b
  item := fun a b c d => nextOf_tuple_item a b c d
  fin := fun a b c d e => nextOf_tuple_end a b c d e
section
variable {prog : Program} {w : World} {A : Around} {E : Value → Shared → Prop} {s : Shared} {z TI TO i1 i2 l1 l2 : Addr} {k1 k2 : Nat} {xs ys : Array Value} {a b : Value}
end
section
variable {prog : Program} {w : World} {A : Around} {E : Value → Shared → Prop} {s : Shared}
end
section
variable {X : Cx} {e e2 : Expr} {p pos tpos : Pos} {elts : List Expr} {kk : Nat}
/-- zip of a list and a tuple -/
@[simp] def dZipM (t : TAD) : TSrc := fun ρ μ Q => t ρ μ fun xs μ1 => match xs with
  | [.lst xs, .tup ys] => Q (zipD xs ys) still μ1
  | _ => False
end
end DL

namespace DL
open PySem PySem.Spec PyProof.Rows L2
open TS (TupInts intsOf)
open PySem.W
section
variable {prog : Program} {w : World} {A : Around} {E : Value → Shared → Prop} {s : Shared}
theorem lt_plain {v u : Value} {ns ms : List Int} {Q : Bool → Shared → Prop} (hu : A.units < cLine) (hv : TupInts s.heap v ns) (hw : TupInts s.heap u ms) (h : Q (HT.lexLt ns ms) s) : wpAny (model prog w) A (keyLt' oneType' v u) Q E s := by
  obtain ⟨a, its, rfl, p1, i1⟩ := hv
  obtain ⟨b, its2, rfl, p2, i2⟩ := hw
  obtain ⟨⟨cls, dd, data, sl⟩, ho, hc, n, hd⟩ := id p1
  obtain ⟨⟨cls2, dd2, data2, sl2⟩, ho2, hc2, n2, hd2⟩ := id p2
  simp only at hc hd hc2 hd2
  subst hc hd hc2 hd2
  rw [keyLt'_oneType, oneLt'_eq]
  simp only [if_true]
  refine wpAny_bind (wpAny_cRoomFor hu ?_)
  refine wpAny_bind (wpAny_callSpecialIfBound?_slot ⟨_, ho, rfl⟩ PySem.F.slot_tuple_lt (call_meets PySem.F.slot_tuple_lt ⟨_, ho, rfl⟩ PySem.F.entry_tuple_lt (PySem.F.args_tuple_lt_2 _ _) (HT.tuple_lt_ints a b its its2 n n2 dd dd2 sl sl2 ns ms i1 i2) ⟨ho, ho2, ?_⟩))
  exact wpAny_truthy_bool h
theorem first_tup {M : Model} {v : Value} {ns : List Int} {Q : Option Value → Shared → Prop} (hv : TupInts s.heap v ns) (h : ∀ r, (ns = [] → r = none) → Q r s) : wpAny M A (firstOfTuple' v) Q E s := by
  obtain ⟨a, its, rfl, ⟨o, ho, hc, n, hd⟩, i1⟩ := hv
  rw [kas_first_eq]
  refine wpAny_bind (PySem.W.Looks.here (show PySem.W.Looks M s.heap (typeOf (.ref a)) o.cls from (PySem.W.Looks.ld ho).andThen .now) ?_)
  rw [hc, if_neg (by first | decide | simp)]
  refine wpAny_bind (listItems_at ho hd (wpAny_pure (h _ fun e => ?_)))
  subst e
  have : its.toList.length = 0 := i1.length
  rw [Array.getElem?_eq_none (by simpa using this)]
theorem firsts_any {M : Model} : ∀ (vs : List Value) {Q : List (Option Value) → Shared → Prop}, (∀ v ∈ vs, ∃ ns, TupInts s.heap v ns) → (∀ rs, Q rs s) → wpAny M A (vs.mapM firstOfTuple') Q E s
  | [], _, _, h => by rw [List.mapM_nil]; exact wpAny_pure (h _)
  | v :: vs, Q, t, h => by
    obtain ⟨ns, hv⟩ := t v (by simp)
    rw [List.mapM_cons]
    exact wpAny_bind (first_tup hv fun r _ => wpAny_bind (firsts_any vs (Q := fun bs s' => wpAny M A (pure (r :: bs)) Q E s') (fun v hv => t v (by simp [hv])) fun rs => wpAny_pure (h _)))
/-- () comes first: the items are compared as they are -/
theorem kind_unit {M : Model} {v0 : Value} {vs : List Value} {Q : SortKind → Shared → Prop} (h0 : TupInts s.heap v0 []) (t : ∀ v ∈ vs, ∃ ns, TupInts s.heap v ns) (h : Q oneType' s) : wpAny M A (keyKind' (v0 :: vs).toArray) Q E s := by
  rw [kat_kind_eq, List.mapM_toArray, map_eq_pure_bind]
  refine wpAny_bind (wpAny_bind ?_)
  rw [List.mapM_cons]
  refine wpAny_bind (first_tup h0 fun r hr => wpAny_bind (firsts_any vs t fun rs => wpAny_pure (wpAny_pure ?_)))
  rw [hr rfl]
  rw [if_neg (by simp), if_neg (by simp)]
  rw [oneTypeOnly'_eq, List.mapM_toArray, map_eq_pure_bind]
  have hT : ∀ v ∈ v0 :: vs, Looks M s.heap (typeOf v) (.type "tuple") := fun v hv => by
    have : ∃ ns, TupInts s.heap v ns := by
      rcases List.mem_cons.mp hv with rfl | hv
      · exact ⟨[], h0⟩
      · exact t v hv
    obtain ⟨ns, a, its, rfl, ⟨o, ho, hc, _⟩, _⟩ := this
    have := (show Looks M s.heap (typeOf (.ref a)) o.cls from (Looks.ld ho).andThen .now)
    rw [hc] at this
    exact this
  refine wpAny_bind (wpAny_bind (wpAny_bind (kas_mapM (r := Value.type "tuple") _ (fun v hv Q' hq => (hT v hv).here hq) (wpAny_pure ?_))))
  have hall : ((List.map (fun _ => Value.type "tuple") (v0 :: vs)).toArray.all fun x => x == Value.type "tuple") = true := by
    simp only [List.all_toArray, List.all_map, List.all_eq_true]
    intro _ _
    rfl
  have hz : (List.map (fun _ => Value.type "tuple") (v0 :: vs)).toArray[0]? = some (Value.type "tuple") := by simp
  rw [hz]
  simp only [hall, if_true]
  exact wpAny_pure (wpAny_pure h)
theorem unit_sortable {a : Addr} {v0 : Value} {vs : List Value} {k : Value → List Int} (hu : A.units < cLine) (h0 : TupInts s.heap v0 []) (t : ∀ v ∈ v0 :: vs, TupInts s.heap v (k v)) (ha : ∀ o, s.heap.get? a = some o → o.cls ≠ .type "tuple") :
    SrtO.SortableO prog w A s a (v0 :: vs) fun v u => HT.lexLt (k v) (k u) := by
  intro h' keep
  have kp : ∀ {v ns}, TupInts s.heap v ns → TupInts h' v ns := fun x => x.keeps fun b o e c => keep b o (fun z => by subst z; exact ha o e c) e
  refine ⟨oneType', fun Q E hq => kind_unit (s := { s with heap := h' }) (kp h0) (fun v hv => ⟨_, kp (t v (by simp [hv]))⟩) hq, ?_⟩
  intro p q hp hq
  exact lt_plain (s := { s with heap := h' }) (Q := fun r s' => s' = { s with heap := h' } ∧ r = HT.lexLt (k p.1) (k q.1)) (E := fun _ _ => False) hu (kp (t _ hp)) (kp (t _ hq)) ⟨rfl, rfl⟩
end
/-- sorted(xs): tuples of ints, () first -/
def rSortU (K : PySem.W.Frag) : List V → Hp → VK → Prop := fun vs H Q => ∃ (a t0 : Addr) (ps : List (Addr × List Int)), vs = [V.ref a] ∧ SqL K H a (((t0, []) :: ps).map fun p => V.ref p.1) ∧ (∀ p ∈ (t0, []) :: ps, SqT K H p.1 (p.2.map V.int)) ∧
  ∀ (ps' : List (Addr × List Int)) (p : Addr), ps'.Perm ((t0, []) :: ps) → ps'.Pairwise (fun x y => HT.lexLt y.2 x.2 = false) → H p = none → Q (.ref p) (upd H p (.lst (ps'.map fun p => V.ref p.1)))
theorem refs_of : ∀ {ts : List Addr} {us : List Value}, Vals (ts.map V.ref) us → us = ts.map Value.ref
  | [], us, r => by
    rw [List.map_nil] at r
    cases r
    rfl
  | t :: ts, us, r => by
    rw [List.map_cons] at r
    cases r with
    | cons h q =>
      cases h
      rw [List.map_cons, ← refs_of q]
theorem vals_refs : ∀ ts : List Addr, Vals (ts.map V.ref) (ts.map Value.ref)
  | [] => .nil
  | _ :: ts => .cons rfl (vals_refs ts)
theorem cr_sortU {X : Cx} (hu : X.A.units + 64 < cLine) : CallR X (.builtin "sorted") (rSortU X.K) := by
  intro pins s σ H vs us Q I r h
  obtain ⟨a, t0, ps, rfl, hs, hT, q⟩ := h
  obtain ⟨its, rv, hl, hz⟩ := I.list hs
  rw [Vals.ref1 r]
  have ei : its = ((t0, []) :: ps).map fun p => Value.ref p.1 := by
    have := refs_of (ts := ((t0, []) :: ps).map Prod.fst) (us := its) (by rw [List.map_map]; exact rv)
    rw [this, List.map_map]; rfl
  have ht : ∀ p ∈ (t0, ([] : List Int)) :: ps, TupInts s.heap (.ref p.1) p.2 := fun p hp => by
    obtain ⟨its2, r2, p2, _⟩ := I.tuple (hT p hp)
    exact ⟨p.1, its2.toArray, rfl, p2, intsAre_of r2⟩
  have hk : ∀ v ∈ its, TupInts s.heap v (intsOf s.heap v) := fun v hv => by
    rw [ei] at hv
    obtain ⟨p, hp, rfl⟩ := List.mem_map.mp hv
    have := ht p hp
    rwa [this.ints]
  have h0 : TupInts s.heap (.ref t0) [] := ht (t0, []) (by simp)
  refine SrtO.sorted_ord (NtL.swo_lexL fun v => intsOf s.heap v) hl.isList (by rw [← rv.length]; exact hz) (fun h2 h₁ a' ha kk => ?_) fun out h1 h2 => ?_
  · have ks : ∀ {v ns}, TupInts s.heap v ns → TupInts h₁ v ns := fun x => x.keeps fun b o e _ => (kk b o e).2
    rw [ei] at hk ⊢
    refine unit_sortable (s := { s with heap := h₁ }) (v0 := .ref t0) (k := fun v => intsOf s.heap v) (by show X.A.units + 1 + 1 < cLine; omega) (ks h0) (fun v hv => ks (hk v hv)) fun o e => ?_
    have e' : some o = some (seqObj "list" _ 0) := e.symm.trans ha
    cases e'
    intro c
    exact absurd (Value.type.inj c) (by decide)
  · obtain ⟨ep, he'⟩ := PyProof.Rows.sortedAll_at s.heap its out.toArray
    have hpm : (out.map fun v => (adO v, intsOf s.heap v)).Perm ((t0, []) :: ps) := by
      have p1 := h2.perm.map fun v => (adO v, intsOf s.heap v)
      rw [ei, List.map_map] at p1
      have e : (((t0, ([] : List Int)) :: ps).map ((fun v => (adO v, intsOf s.heap v)) ∘ fun p => Value.ref p.1)) = (t0, []) :: ps := by
        refine (List.map_congr_left fun p hp => ?_).trans (List.map_id _)
        show (p.1, intsOf s.heap (.ref p.1)) = p
        rw [(ht p hp).ints]
      rwa [e] at p1
    have eo : out = (out.map fun v => (adO v, intsOf s.heap v)).map fun p => Value.ref p.1 := by
      rw [List.map_map]
      refine ((List.map_congr_left fun v hv => ?_).trans (List.map_id _)).symm
      have hm : v ∈ its := h2.perm.mem_iff.mp hv
      rw [ei] at hm
      obtain ⟨p, _, rfl⟩ := List.mem_map.mp hm
      rfl
    have hs2 : (out.map fun v => (adO v, intsOf s.heap v)).Pairwise fun x y => HT.lexLt y.2 x.2 = false := List.pairwise_map.mpr (h1.imp fun {x y} z => z)
    generalize (out.map fun v => (adO v, intsOf s.heap v)) = pp at hpm eo hs2
    have rvo : Vals (pp.map fun p => V.ref p.1) out := by
      rw [eo]
      have := vals_refs (pp.map Prod.fst)
      rw [List.map_map, List.map_map] at this
      exact this
    have hlen : (pp.map fun p => V.ref p.1).length ≤ sizeLine := by
      rw [List.length_map, hpm.length_eq]
      rw [List.length_map] at hz
      exact hz
    exact ⟨.ref _, upd H (s.heap.objs.size + 1) (.lst (pp.map fun p => V.ref p.1)), I.laid (t' := s.toks) (fun _ _ => PyProof.Rows.sortedAll_old) (Nat.le_succ _) ⟨hlen, out, ep, rvo, he'⟩, rfl, q _ _ hpm hs2 (I.hok.fresh (Nat.le_succ _))⟩
abbrev tupD (q : List Nat) : D := .tup (nats q)
abbrev intL (q : List Nat) : List Int := q.map fun n : Nat => (n : Int)
theorem dts_tups {K : PySem.W.Frag} {mg : Str → Option Value} {F : Hp} : ∀ {us : List V} {ls : List (List Nat)}, Dts K mg F us (ls.map tupD) → ∃ ps : List (Addr × List Nat), us = ps.map (fun p => V.ref p.1) ∧ ps.map (·.2) = ls ∧ ∀ p ∈ ps, SqT K F p.1 ((intL p.2).map V.int) ∧ Dt K mg F (.ref p.1) (tupD p.2)
  | us, [], r => by cases r; exact ⟨[], rfl, rfl, by simp⟩
  | us, q :: ls, r => by
    rw [List.map_cons] at r
    cases r with
    | cons h r =>
      obtain ⟨ps, rfl, e2, e3⟩ := dts_tups r
      have h' := h
      cases h with
      | tup hp rr =>
        rename_i a vs
        have ev : vs = (intL q).map V.int := Dts.ints (ns := intL q) (by
          have : nats q = (intL q).map D.int := by unfold nats; rw [List.map_map]; rfl
          rwa [this] at rr)
        refine ⟨(a, q) :: ps, rfl, by simp [e2], fun p hm => ?_⟩
        rcases List.mem_cons.mp hm with rfl | hm
        · exact ⟨ev ▸ hp.sq, h'⟩
        · exact e3 p hm
theorem dts_back {K : PySem.W.Frag} {mg : Str → Option Value} {F : Hp} : ∀ (ps : List (Addr × List Nat)), (∀ p ∈ ps, Dt K mg F (.ref p.1) (tupD p.2)) → Dts K mg F (ps.map fun p => V.ref p.1) ((ps.map (·.2)).map tupD)
  | [], _ => .nil
  | p :: ps, h => .cons (h p (by simp)) (dts_back ps fun q hq => h q (by simp [hq]))
@[simp] def dSortF (t : TAD) : TFD := fun ρ μ Q => t ρ μ fun ds μ1 => match ds with
  | [.lst xs] => ∃ ls : List (List Nat), xs = ([] :: ls).map tupD ∧ ∀ ls' : List (List Nat), ls'.Perm ([] :: ls) → ls'.Pairwise (fun p q => HT.lexLt (intL q) (intL p) = false) → Q (ls'.map tupD) μ1
  | _ => False
theorem df_sortU {X : Cx} {e : Expr} {pos p : Pos} {t : TAD} (hu : X.A.units + 64 < cLine) (hg : Gl X "sorted") (hm : X.mg "sorted" = none) (h : DAW X [e] t) (hs : starEach [e] X.env = (false, eval e X.env) :: starEach [] X.env := by rfl) : DF X (.Call (.Name "sorted" p) [e] [] pos) (dSortF t) :=
  (pe_callB (cr_sortU hu) hg hm (by decide +kernel) h (by decide) (by decide) hs rfl).weaken fun σ H Q q => by
  obtain ⟨F, ρ, μ, Qd, R, hd, k⟩ := q
  refine ⟨F, ρ, μ, _, R, hd, fun vs F1 μ1 H1 ds e1 o1 w1 q1 => ?_⟩
  split at q1
  · obtain ⟨v, rfl, wk⟩ := w1.one
    obtain ⟨a, us, rfl, ha, ra⟩ := wk.lst o1
    obtain ⟨ls, hx, q1⟩ := q1
    rw [hx] at ra
    obtain ⟨ps, rfl, e2, e3⟩ := dts_tups ra
    match ps, e2 with
    | (t0, q0) :: ps, e2 =>
      rw [List.map_cons] at e2
      injection e2 with eq0 els
      have eq0 : q0 = [] := eq0
      subst eq0 els
      refine ⟨a, t0, ps.map fun p => (p.1, intL p.2), rfl, .inl (.inl (by rw [List.map_cons, List.map_map]; exact ha)), fun p hp => ?_, fun ps' l hperm hsort hl => ?_⟩
      · rcases List.mem_cons.mp hp with rfl | hp
        · exact SqT.mono' o1.sub (e3 (t0, []) (by simp)).1
        · obtain ⟨p', hp', rfl⟩ := List.mem_map.mp hp
          exact SqT.mono' o1.sub (e3 p' (by simp [hp'])).1
      · obtain ⟨pp, hpp, rfl⟩ : ∃ pp : List (Addr × List Nat), pp.Perm ((t0, []) :: ps) ∧ ps' = pp.map fun p => (p.1, intL p.2) := by
          refine ⟨ps'.map fun p => (p.1, p.2.map Int.toNat), ?_, ?_⟩
          · have := hperm.map fun p : Addr × List Int => (p.1, p.2.map Int.toNat)
            rw [List.map_cons, List.map_map] at this
            have e : (ps.map ((fun p : Addr × List Int => (p.1, p.2.map Int.toNat)) ∘ fun p : Addr × List Nat => (p.1, intL p.2))) = ps := by
              refine (List.map_congr_left fun p _ => ?_).trans (List.map_id _)
              show (p.1, (intL p.2).map Int.toNat) = p
              unfold intL
              rw [List.map_map]
              have : (Int.toNat ∘ fun n : Nat => (n : Int)) = id := by funext n; simp
              rw [this, List.map_id]
            rw [e] at this
            exact this
          · rw [List.map_map]
            refine ((List.map_congr_left fun p hp => ?_).trans (List.map_id _)).symm
            have hp := hperm.mem_iff.mp hp
            have : ∃ q : List Nat, p.2 = intL q := by
              rcases List.mem_cons.mp hp with rfl | hp
              · exact ⟨[], rfl⟩
              · obtain ⟨p', _, rfl⟩ := List.mem_map.mp hp
                exact ⟨p'.2, rfl⟩
            obtain ⟨q, hq⟩ := this
            show (p.1, intL (p.2.map Int.toNat)) = p
            rw [hq]
            unfold intL
            rw [List.map_map, List.map_map]
            have : (((fun n : Nat => (n : Int)) ∘ Int.toNat) ∘ fun n : Nat => (n : Int)) = fun n : Nat => (n : Int) := by funext n; simp
            rw [this]
            exact Prod.ext rfl hq.symm
        obtain ⟨g1, g2⟩ := o1.layN hl (.lst _)
        obtain ⟨f1, f2⟩ := o1.fresh hl
        rw [List.map_map]
        refine k _ _ _ _ _ _ (e1.trans g2) g1 (e1.live l hl) f1 f2 upd_same (dts_back pp fun p hp => (e3 p (hpp.mem_iff.mp hp)).2) (q1 _ (by simpa using hpp.map (·.2)) ?_)
        rw [List.pairwise_map] at hsort
        exact List.pairwise_map.mpr hsort
  · exact q1.elim
end DL

namespace DL
open PySem PySem.Spec PyProof.Rows L2
def rdCountL : RDm
  | .lst xs, [.int k], μ, Q => ∃ ns : List Int, xs = ns.map D.int ∧ Q (.int (ns.count k : Nat)) μ
  | _, _, _, _ => False
@[simp] theorem rdCountL_1 {xs : List D} {k : Int} {μ : Sto} {Q : DK} : rdCountL (.lst xs) [.int k] μ Q = (∃ ns : List Int, xs = ns.map D.int ∧ Q (.int (ns.count k : Nat)) μ) := rfl
end DL

namespace DL
open PySem PySem.Spec PyProof.Rows L2
/-- all picks among the first p places -/
def allA (one other : List Nat) : Nat → List (List Nat)
  | 0 => [[]]
  | p + 1 => allA one other p ++ ((allA one other p).filter fun q => decide (other[q.length]? = some (one.getD p 0))).map fun q => q ++ [p]
theorem allA_head (one other : List Nat) : ∀ p, ∃ r, allA one other p = [] :: r
  | 0 => ⟨[], rfl⟩
  | p + 1 => by
    obtain ⟨r, hr⟩ := allA_head one other p
    exact ⟨_, by rw [allA, hr]; rfl⟩
theorem allA_len (one other : List Nat) : ∀ p, (allA one other p).length ≤ 2 ^ p
  | 0 => Nat.le_refl _
  | p + 1 => by
    have ih := allA_len one other p
    rw [allA, List.length_append, List.length_map, Nat.pow_succ]
    have := List.length_filter_le (fun q : List Nat => decide (other[q.length]? = some (one.getD p 0))) (allA one other p)
    omega
theorem allA_small (one other : List Nat) : ∀ p, ∀ q ∈ allA one other p, q.length ≤ p ∧ ∀ x ∈ q, x < p
  | 0, q, h => by
    have : q = [] := by simpa [allA] using h
    subst this
    simp
  | p + 1, q, h => by
    rw [allA, List.mem_append] at h
    rcases h with h | h
    · obtain ⟨h1, h2⟩ := allA_small one other p q h
      exact ⟨by omega, fun x hx => by have := h2 x hx; omega⟩
    · obtain ⟨r, hr, rfl⟩ := List.mem_map.mp h
      obtain ⟨h1, h2⟩ := allA_small one other p r (List.mem_filter.mp hr).1
      refine ⟨by simp; omega, fun x hx => ?_⟩
      rcases List.mem_append.mp hx with hx | hx
      · have := h2 x hx; omega
      · simp at hx; omega
end DL

namespace DL
open PySem PySem.Spec PyProof.Rows L2
theorem cut_one {α : Type} (l : List α) (a : Nat) : cut l (some (a : Int)) (some ((a : Int) + 1)) = (l.drop a).take 1 := by
  rw [show (a : Int) + 1 = ((a + 1 : Nat) : Int) by omega]
  unfold cut
  rw [HT.sIx_nat, HT.sIx_nat]
  by_cases h : a < l.length
  · rw [Nat.min_eq_left (by omega), Nat.min_eq_left (by omega), Nat.add_sub_cancel_left]
  · rw [Nat.min_eq_right (by omega), Nat.min_eq_right (by omega), List.drop_eq_nil_of_le (by omega), List.drop_eq_nil_of_le (by omega)]
    simp
theorem take1 (l : List Nat) (a c : Nat) : (l.drop a).take 1 = [c] ↔ l[a]? = some c := by
  by_cases h : a < l.length
  · rw [List.drop_eq_getElem_cons h, List.getElem?_eq_getElem h, List.take_succ_cons, List.take_zero]; simp
  · rw [List.drop_eq_nil_of_le (by omega), List.getElem?_eq_none (by omega)]; simp
end DL

namespace DL
open PySem PySem.Spec PyProof.Rows L2
abbrev st0 (n : Nat) : PSt := ⟨0, List.replicate n [], List.replicate n [], 0⟩
/-- a beginning of a history of n sheets, now at sheet a -/
def VB (n : Nat) (pre : List HI) (a : Nat) : Prop := ∀ rest, Vld n a rest → Vld n 0 (pre ++ rest)
theorem VB.nil (n : Nat) : VB n [] 0 := fun _ h => h
theorem VB.none {n a : Nat} {pre : List HI} (h : VB n pre a) (ha : a + 1 < n) : VB n (pre ++ [none]) (a + 1) := fun rest hr => by
  rw [List.append_assoc]
  exact h _ ⟨ha, hr⟩
theorem VB.some {n a c f : Nat} {pre : List HI} (h : VB n pre a) (hc : 97 ≤ c ∧ c < 123) (h1 : 1 ≤ f) (h2 : a + f ≤ n) : VB n (pre ++ [some (c, f)]) a := fun rest hr => by
  rw [List.append_assoc]
  exact h _ ⟨hc, h1, h2, hr⟩
theorem strR_get (c : Nat) : ∀ (f : Nat) (l : List (List Nat)) (j : Nat), (strR c f l)[j]? = (l[j]?).map fun w => if j < f then w ++ [c] else w
  | 0, l, j => by rw [strR]; simp
  | f + 1, [], j => by rw [strR]; simp; exact fun h => by cases h
  | f + 1, r :: l, 0 => by rw [strR]; simp
  | f + 1, r :: l, j + 1 => by rw [strR, List.getElem?_cons_succ, List.getElem?_cons_succ, strR_get c f l j]; simp
theorem stR_get (c f : Nat) {a : Nat} {R : List (List Nat)} (ha : a ≤ R.length) (j : Nat) : (R.take a ++ strR c f (R.drop a))[j]? = (R[j]?).map fun w => if a ≤ j ∧ j < a + f then w ++ [c] else w := by
  rw [List.getElem?_append, List.length_take, Nat.min_eq_left ha]
  by_cases hj : j < a
  · rw [if_pos hj, List.getElem?_take_of_lt hj]
    have : ¬(a ≤ j ∧ j < a + f) := by omega
    simp only [this, if_false, Option.map_id_fun', id_eq]
  · rw [if_neg hj, strR_get, List.getElem?_drop, show a + (j - a) = j by omega]
    have : (j - a < f) = (a ≤ j ∧ j < a + f) := by simp; omega
    simp only [this]
/-- a drawn history of n sheets with at most g letters on each -/
def Deed (n g : Nat) (h : List HI) : Prop := Vld n 0 h ∧ h.length ≤ n + n * g ∧ ∀ w ∈ (h.foldl stp (st0 n)).R, Low w ∧ w.length ≤ g
/-- what stands after the beginning pre -/
structure DSt1 (n g a : Nat) (pre : List HI) (s : PSt) : Prop where
  st : s = pre.foldl stp (st0 n)
  at_ : s.at_ = a
  lR : s.R.length = n
  vb : VB n pre a
  bd : ∀ w ∈ s.R, Low w ∧ w.length ≤ g
theorem DSt1.none {n g a : Nat} {pre : List HI} {s : PSt} (h : DSt1 n g a pre s) (ha : a + 1 < n) : DSt1 n g (a + 1) (pre ++ [Option.none]) (stp s Option.none) :=
  ⟨by rw [List.foldl_append, ← h.st]; rfl, by show s.at_ + 1 = _; rw [h.at_], h.lR, h.vb.none ha, h.bd⟩
theorem DSt1.some {n g a c f : Nat} {pre : List HI} {s : PSt} (h : DSt1 n g a pre s) (hc : 97 ≤ c ∧ c < 123) (h1 : 1 ≤ f) (h2 : a + f ≤ n) (hl : ∀ j w, a ≤ j → j < a + f → s.R[j]? = Option.some w → w.length < g) :
    DSt1 n g a (pre ++ [Option.some (c, f)]) (stp s (Option.some (c, f))) := by
  refine ⟨by rw [List.foldl_append, ← h.st]; rfl, h.at_, by show (s.R.take s.at_ ++ strR c f (s.R.drop s.at_)).length = n; rw [tkR_len]; exact h.lR, h.vb.some hc h1 h2, fun w hw => ?_⟩
  obtain ⟨j, hj⟩ := List.getElem?_of_mem hw
  have ha : s.at_ ≤ s.R.length := by rw [h.lR, h.at_]; omega
  rw [show (stp s (Option.some (c, f))).R = s.R.take s.at_ ++ strR c f (s.R.drop s.at_) from rfl, stR_get c f ha, Option.map_eq_some_iff] at hj
  obtain ⟨v, hv, rfl⟩ := hj
  rw [h.at_]
  split
  · rename_i hcc
    have := hl j v hcc.1 hcc.2 hv
    exact ⟨(h.bd v (List.mem_of_getElem? hv)).1.append fun d hd => by simp at hd; subst hd; omega, by simp; omega⟩
  · exact h.bd v (List.mem_of_getElem? hv)
theorem fold_len {n : Nat} : ∀ (h : List HI) (s : PSt), s.R.length = n → (h.foldl stp s).R.length = n
  | [], s, e => e
  | none :: h, s, e => by rw [List.foldl_cons]; exact fold_len h _ e
  | some (c, f) :: h, s, e => by rw [List.foldl_cons]; exact fold_len h _ (by rw [stp, tkR_len]; exact e)
/-- sheets and picks of a drawn history -/
theorem Deed.sheets {n g : Nat} {h : List HI} (hd : Deed n g h) (h0 : 0 < n) {s : PSt} (e : s = h.foldl stp (st0 n)) : Shts n g s.R ∧ PksG s.R (s.C.drop 1) ∧ hisOf s.R (s.C.drop 1) = h := by
  obtain ⟨i1, i2⟩ := his_back h0 hd.1 e
  have hR : s.R.length = n := by rw [e]; exact fold_len h _ (by simp)
  refine ⟨⟨by omega, by omega, fun w hw => hd.2.2 w (by rw [← e]; exact hw)⟩, i1, i2⟩
end DL

namespace GW2
open PySem PyProof.Rows GenW
open Sem (wp)

/-- a sleeping generator that must not be woken -/
def bad : GenState → GenState
  | .suspended _ l c p fs cl => .suspended (fun _ => .unsupported "") l c p fs cl
  | x => x
def isS : GenState → Bool
  | .suspended .. => true
  | _ => false
theorem bad_seen (x : GenState) : (bad x).seen = x.seen := by cases x <;> rfl
theorem bad_bare (x : GenState) : (bad x).bare = x.bare := by cases x <;> rfl
theorem bad_of_not {x : GenState} (h : isS x = false) : bad x = x := by cases x <;> first | rfl | cases h
/-- the tables of two runs: those that slept at the start (G) are bad in the one, as they were in the other; all else is equal -/
structure Sim (G gb gt : Array GenState) : Prop where
  size : gb.size = gt.size
  le : G.size ≤ gb.size
  old : ∀ (i : Nat) (y : GenState), G[i]? = some y → isS y = true → gb[i]? = some (bad y) ∧ gt[i]? = some y
  new : ∀ (i : Nat), (∀ y, G[i]? = some y → isS y = false) → gb[i]? = gt[i]? ∧ ∀ k l c p fs cl, gt[i]? = some (.suspended k l c p fs cl) → splitAtGen fs = none
theorem Sim.start (G : Array GenState) : Sim G (G.map bad) G where
  size := by simp
  le := by simp
  old := fun i y e _ => ⟨by simp [e], e⟩
  new := fun i h => by
    cases e : G[i]? with
    | none => exact ⟨by simp [e], fun _ _ _ _ _ _ z => by cases z⟩
    | some y =>
      have q := h y e
      refine ⟨by simp [e, bad_of_not q], fun k l c p fs cl z => ?_⟩
      cases z; cases q
section
variable {G gb gt : Array GenState} {g : Nat}
theorem Sim.isNew (S : Sim G gb gt) {x : GenState} (h : gb[g]? = some x) (hx : isS x = false) : ∀ y, G[g]? = some y → isS y = false := fun y e => by
  cases q : isS y with
  | false => rfl
  | true =>
    have := (S.old g y e q).1
    rw [h] at this
    cases this
    cases y <;> first | exact hx | cases q
theorem Sim.set (S : Sim G gb gt) (hn : ∀ y, G[g]? = some y → isS y = false) (x : GenState) (hx : ∀ k l c p fs cl, x = .suspended k l c p fs cl → splitAtGen fs = none) : Sim G (gb.setIfInBounds g x) (gt.setIfInBounds g x) where
  size := by simp [S.size]
  le := by simpa using S.le
  old := fun i y e q => by
    have hi : g ≠ i := fun z => by subst z; rw [hn y e] at q; cases q
    rw [Array.getElem?_setIfInBounds_ne hi, Array.getElem?_setIfInBounds_ne hi]
    exact S.old i y e q
  new := fun i h => by
    by_cases hi : g = i
    · subst hi
      by_cases hl : g < gb.size
      · have hl' : g < gt.size := by rw [← S.size]; exact hl
        refine ⟨by simp [hl, hl'], fun k l c p fs cl z => ?_⟩
        rw [show (gt.setIfInBounds g x)[g]? = some x by simp [hl']] at z
        cases z
        exact hx _ _ _ _ _ _ rfl
      · have hl' : ¬ g < gt.size := by rw [← S.size]; exact hl
        refine ⟨by simp [hl, hl'], fun k l c p fs cl z => ?_⟩
        simp [hl'] at z
    · rw [Array.getElem?_setIfInBounds_ne hi, Array.getElem?_setIfInBounds_ne hi]
      exact S.new i h
theorem Sim.push (S : Sim G gb gt) (c : Code) : Sim G (gb.push (.fresh c)) (gt.push (.fresh c)) where
  size := by simp [S.size]
  le := by have := S.le; simp; omega
  old := fun i y e q => by
    obtain ⟨h1, h2⟩ := S.old i y e q
    obtain ⟨l1, _⟩ := Array.getElem?_eq_some_iff.mp h1
    obtain ⟨l2, _⟩ := Array.getElem?_eq_some_iff.mp h2
    rw [Array.getElem?_push_lt l1, Array.getElem?_push_lt l2, ← Array.getElem?_eq_getElem l1, ← Array.getElem?_eq_getElem l2]
    exact ⟨h1, h2⟩
  new := fun i h => by
    obtain ⟨h1, h2⟩ := S.new i h
    rw [Array.getElem?_push, Array.getElem?_push, S.size]
    by_cases z : i = gt.size
    · rw [if_pos z, if_pos z]
      exact ⟨rfl, fun _ _ _ _ _ _ e => by cases e⟩
    · rw [if_neg z, if_neg z]
      exact ⟨h1, h2⟩
/-- an entry that is read -/
theorem Sim.seen (S : Sim G gb gt) {st : GenState} (h : gb[g]? = some st) : ∃ y, gt[g]? = some y ∧ y.seen = st.seen := by
  by_cases hn : ∀ y, G[g]? = some y → isS y = false
  · exact ⟨st, (S.new g hn).1 ▸ h, rfl⟩
  · have : ∃ y, G[g]? = some y ∧ isS y = true := by
      cases e : G[g]? with
      | none => exact absurd (fun y z => by rw [e] at z; cases z) hn
      | some y =>
        cases q : isS y with
        | true => exact ⟨y, rfl, q⟩
        | false => exact absurd (fun z hz => by rw [e] at hz; cases hz; exact q) hn
    obtain ⟨y, e, q⟩ := this
    obtain ⟨h1, h2⟩ := S.old g y e q
    rw [h] at h1
    cases h1
    exact ⟨y, h2, (bad_seen y).symm⟩
theorem Sim.bare (S : Sim G gb gt) (h : AllBare gb) : AllBare gt := fun y hy => by
  obtain ⟨i, hi, e⟩ := Array.mem_iff_getElem.mp hy
  have e' : gt[i]? = some y := by rw [Array.getElem?_eq_getElem hi, e]
  by_cases hn : ∀ y, G[i]? = some y → isS y = false
  · have q := (S.new i hn).1
    rw [e'] at q
    exact h y (Array.mem_of_getElem? q)
  · have : ∃ z, G[i]? = some z ∧ isS z = true := by
      cases e : G[i]? with
      | none => exact absurd (fun y z => by rw [e] at z; cases z) hn
      | some y =>
        cases q : isS y with
        | true => exact ⟨y, rfl, q⟩
        | false => exact absurd (fun z hz => by rw [e] at hz; cases hz; exact q) hn
    obtain ⟨z, e1, q⟩ := this
    obtain ⟨h1, h2⟩ := S.old i z e1 q
    rw [e'] at h2
    cases h2
    rw [← bad_bare]
    exact h _ (Array.mem_of_getElem? h1)
end

theorem no_unsupported {M : Model} {Γ : Ctx} {p : Pos} {w : String} {fs : List Frame} {s s' : Shared} {e : End} (h : Runs M Γ p (.unsupported w) fs s e s') : False := by
  generalize ht : (Sem.unsupported w : Sem PySem.Fin) = t at h
  induction h with
  | segRet _ _ ih _ => exact ih ht
  | segGen _ _ ih _ => exact ih ht
  | segSuspOut _ _ ih => exact ih ht
  | segSuspGen _ _ _ _ ih _ => exact ih ht
  | _ => cases ht
theorem splitAtGen_app {a b : List Frame} (h : splitAtGen a = none) (h' : splitAtGen b = none) : splitAtGen (a ++ b) = none := by
  induction a with
  | nil => exact h'
  | cons f a ih =>
    cases f with
    | gen => cases h
    | ret k hd g l c p kp =>
      have h2 : splitAtGen a = none := by
        have q : (splitAtGen a).map (fun (fs, b, r) => (Frame.ret k hd g l c p kp :: fs, b, r)) = none := h
        cases e : splitAtGen a with
        | none => rfl
        | some x => rw [e] at q; cases q
      show (splitAtGen (a ++ b)).map _ = none
      rw [ih h2]; rfl
theorem splitAtGen_tail {k : Result → Sem PySem.Fin} {hd : Option Value} {g : Bool} {l kp : List Value} {c : Code} {p : Pos} {a : List Frame} (h : splitAtGen (.ret k hd g l c p kp :: a) = none) : splitAtGen a = none := by
  have q : (splitAtGen a).map (fun (fs, b, r) => (Frame.ret k hd g l c p kp :: fs, b, r)) = none := h
  cases e : splitAtGen a with
  | none => rfl
  | some x => rw [e] at q; cases q

/-- the frames that an end keeps hold no generator -/
def NoGen (e : End) : Prop := ∀ v g l k c p fs, e = .susp v g l k c p fs → splitAtGen fs = none
theorem NoGen.ret (r : Result) : NoGen (.ret r) := fun _ _ _ _ _ _ _ z => by cases z
theorem NoGen.state {e : End} (h : NoGen e) : ∀ k l c p fs cl, e.genState = .suspended k l c p fs cl → splitAtGen fs = none := fun k l c p fs cl z => by
  cases e with
  | ret r => cases z
  | susp v g l' k' c' p' fs' =>
    cases z
    exact h _ _ _ _ _ _ _ rfl
def SegP (M : Model) (A : Around) (Φ : End → Shared → Prop) (c : Code) (t : Sem PySem.Fin) (fs : List Frame) (s : Shared) : Prop :=
  ∀ Γ p, Γ.code = c → Γ.Woken A → ∃ e s', Runs M Γ p t fs s e s' ∧ Φ e s'
section
variable {M : Model} {A : Around} {Φ Ψ : End → Shared → Prop} {c : Code} {fs : List Frame} {s : Shared} {α β : Type}
theorem SegP.imp {t : Sem PySem.Fin} (h : SegP M A Φ c t fs s) (w : ∀ e s', Φ e s' → Ψ e s') : SegP M A Ψ c t fs s := fun Γ p hc hΓ => let ⟨e, s', r, q⟩ := h Γ p hc hΓ; ⟨e, s', r, w e s' q⟩
theorem sp_wrap {m : Sem α} {K : α → Sem PySem.Fin} {H : Value → Sem PySem.Fin} {gd : Bool → Bool} {lv : List Value → List Value}
    (h : wpAny M (A.over c fs) m (fun a s' => SegP M A Φ c (K a) fs s') (fun x s' => SegP M A Φ c (H x) fs s') s) : SegP M A Φ c (m.wrap K H gd lv) fs s := by
  rintro Γ p rfl hΓ
  exact runs_wrap_of_wp K H gd lv m (h (Γ.over fs) p (hΓ.over fs)) (fun a p' s' h' => h' Γ p' rfl hΓ) (fun x p' s' h' => h' Γ p' rfl hΓ)
theorem sp_point {l : List Value} {k : Unit → Sem PySem.Fin} (h : SegP M A Φ c (k ()) fs s) : SegP M A Φ c (.point l k) fs s :=
  sp_wrap (m := point) (K := k) (H := .raise) (gd := id) (lv := fun _ => l) (wpAny_point h)
theorem sp_end (r : Result) (h : Φ (.ret r) s) : SegP M A Φ c (leafOf r) [] s := by
  rintro Γ p rfl _
  exact ⟨.ret r, s, Runs.leaf r, h⟩
end
section
variable {prog : Program} {w : World} {A : Around} {Φ : End → Shared → Prop} {fs : List Frame} {s : Shared} {env : Env}
theorem sp_func {body : List Stmt}
    (h : SegP (model prog w) A Φ (.func body env) ((execs body env).wrap (fun f => .pure (.done (.ret (match f with | .ret v => v | _ => .none)))) (fun e => (leaving env e).wrap (fun _ => .raise e) .raise id id) id id) fs s) :
    SegP (model prog w) A Φ (.func body env) ((model prog w).den (.func body env)) fs s := by
  show SegP _ A Φ _ (.point [] fun _ => ((execs body env).onRaise (leaving env)) >>= _) fs s
  refine sp_point ?_
  rw [Sem.onRaise_eq_wrap, Sem.bind_eq_wrap', Sem.wrap_wrap]
  rw [Sem.wrap_congr (execs body env) _ _ (K' := fun f => .pure (.done (.ret (match f with | .ret v => v | _ => .none)))) (H' := fun e => (leaving env e).wrap (fun _ => .raise e) .raise id id) (fun f => by cases f <;> rfl)
    (fun e => by rw [Sem.bind_eq_wrap, Sem.wrap_wrap]; rfl)]
  exact h
end
end GW2

namespace YM
open PySem PyProof.Rows
open Sem (wp)

/-- a sleep that is guarded, but of which nothing shows -/
def Ben (s : Shared) (c : Code) (fs : List Frame) : Prop :=
  fs.any Frame.guarded = false ∧ ∃ (a : Addr) (xs : List Value) (kw : List (Str × Value)) (o : Obj), c = .builtin "proto.yield_from" ⟨.ref a :: xs, kw⟩ ∧ s.heap.get? a = some o ∧ o.genNumber?.isSome = true
def OkT (s : Shared) (t : Thread) : Prop :=
  t.calm = true ∨ ∃ v l k fs b rest, t.cur = .yield v true l k ∧ splitAtGen t.stack = some (fs, b, rest) ∧ Ben s t.code fs
/-- one step -/
def St1 (P : Program) (w : World) (x y : Shared × Thread) : Prop := OkT x.1 x.2 ∧ stepK (denote table) P w x.1 x.2 = .go y.1 y.2
inductive Sts (P : Program) (w : World) : Shared × Thread → Shared × Thread → Prop
  | refl (x) : Sts P w x x
  | head {x y z} : St1 P w x y → Sts P w y z → Sts P w x z
section
variable {P : Program} {w : World}
theorem Sts.trans {x y z : Shared × Thread} (h : Sts P w x y) (g : Sts P w y z) : Sts P w x z := by
  induction h with
  | refl => exact g
  | head a _ ih => exact .head a (ih g)
theorem Sts.one {x y : Shared × Thread} (h : St1 P w x y) : Sts P w x y := .head h (.refl _)
/-- a step of the library's machine -/
theorem St1.of {s s' : Shared} {t t' : Thread} (h : (model P w).step s t = .go s' t') : St1 P w (s, t) (s', t') := by
  unfold Model.step stepI at h
  split at h
  · cases h
  · rename_i hl
    refine ⟨.inl ?_, h⟩
    rw [Thread.calm_eq]
    cases hr : t.refused with
    | false => simpa using hl
    | true =>
      obtain ⟨what, e⟩ := stepK_refused (model P w).den (model P w).prog (model P w).w (s := s) hr
      rw [e] at h; cases h
theorem Sts.ofReach {base : List Frame} {s s' : Shared} {t : Sem PySem.Fin} {c : Code} {p : Pos} {pre : List Frame} {e : End} (h : Reach (model P w) base s t c p pre s' e) :
    ∃ t' c' p' pre', Exits e t' c' p' pre' ∧ Sts P w (s, ⟨t, c, p, pre ++ base⟩) (s', ⟨t', c', p', pre' ++ base⟩) := by
  induction h with
  | exit hx => exact ⟨_, _, _, _, hx, .refl _⟩
  | step hs _ ih =>
    obtain ⟨t', c', p', pre', hx, h⟩ := ih
    exact ⟨t', c', p', pre', hx, .head (.of hs) h⟩
end

/-- what a tree does at a place of the stack -/
def TL (P : Program) (w : World) {α : Type} (A : Around) (t : Sem α) (Q : α → Shared → Prop) (E : Value → Shared → Prop) (s : Shared) : Prop :=
  ∀ (Γ : Ctx) (st : List Frame) (p : Pos), Γ.Fits st → Γ.In A → ∀ (K : α → Sem PySem.Fin) (H : Value → Sem PySem.Fin) (gd : Bool → Bool) (lv : List Value → List Value),
    (∃ a p' s', Q a s' ∧ Sts P w (s, ⟨t.wrap K H gd lv, Γ.code, p, st⟩) (s', ⟨K a, Γ.code, p', st⟩)) ∨
    (∃ e p' s', E e s' ∧ Sts P w (s, ⟨t.wrap K H gd lv, Γ.code, p, st⟩) (s', ⟨H e, Γ.code, p', st⟩))
/-- what a code does -/
def TC (P : Program) (w : World) (A : Around) (c : Code) (R : Result → Shared → Prop) (s : Shared) : Prop :=
  ∀ (Γ : Ctx) (st : List Frame) (p : Pos), Γ.code = c → Γ.Fits st → Γ.Below A → ∃ r s' c' p', R r s' ∧ Sts P w (s, ⟨denote table c, c, p, st⟩) (s', ⟨leafOf r, c', p', st⟩)
section
variable {P : Program} {w : World} {α β : Type} {A : Around} {E : Value → Shared → Prop} {s : Shared}

theorem out_head {K : α → Sem PySem.Fin} {H : Value → Sem PySem.Fin} {Q : α → Pos → Shared → Prop} {E : Value → Pos → Shared → Prop} {x y : Shared × Thread} {c : Code} {st : List Frame} (a : Sts P w x y)
    (h : (∃ a p' s', Q a p' s' ∧ Sts P w y (s', ⟨K a, c, p', st⟩)) ∨ (∃ e p' s', E e p' s' ∧ Sts P w y (s', ⟨H e, c, p', st⟩))) :
    (∃ a p' s', Q a p' s' ∧ Sts P w x (s', ⟨K a, c, p', st⟩)) ∨ (∃ e p' s', E e p' s' ∧ Sts P w x (s', ⟨H e, c, p', st⟩)) :=
  h.imp (fun ⟨b, p, s, q, z⟩ => ⟨b, p, s, q, a.trans z⟩) fun ⟨b, p, s, q, z⟩ => ⟨b, p, s, q, a.trans z⟩
theorem steps_of_wp {Γ : Ctx} {st : List Frame} (hf : Γ.Fits st) (K : α → Sem PySem.Fin) (H : Value → Sem PySem.Fin) (gd : Bool → Bool) (lv : List Value → List Value) (m : Sem α) :
    ∀ {Q : α → Pos → Shared → Prop} {E : Value → Pos → Shared → Prop} {p : Pos} {s : Shared}, wp (model P w) Γ m Q E p s →
      (∃ a p' s', Q a p' s' ∧ Sts P w (s, ⟨m.wrap K H gd lv, Γ.code, p, st⟩) (s', ⟨K a, Γ.code, p', st⟩)) ∨ (∃ e p' s', E e p' s' ∧ Sts P w (s, ⟨m.wrap K H gd lv, Γ.code, p, st⟩) (s', ⟨H e, Γ.code, p', st⟩)) := by
  induction m with
  | pure a => intro Q E p s h; exact .inl ⟨a, p, s, h, .refl _⟩
  | raise x => intro Q E p s h; exact .inr ⟨x, p, s, h, .refl _⟩
  | unsupported what => intro Q E p s h; exact h.elim
  | finish x => intro Q E p s h; exact h.elim
  | register a k => intro Q E p s h; exact h.elim
  | yield v g l k => intro Q E p s h; exact h.elim
  | fork c k => intro Q E p s h; exact h.elim
  | await a f d l k => intro Q E p s h; exact h.elim
  | rule tag k ih => intro Q E p s h; exact out_head (.one (.of (step_rule ..))) (ih () h)
  | «at» p' k ih => intro Q E p s h; exact out_head (.one (.of (step_at ..))) (ih () h)
  | load a part k ih => intro Q E p s h; obtain ⟨o, ho, h⟩ := h; exact out_head (.one (.of (step_load _ _ _ _ _ _ _ ho))) (ih o h)
  | update a part f k ih => intro Q E p s h; obtain ⟨ha, h⟩ := h; exact out_head (.one (.of (step_update _ _ _ _ _ _ _ _ ha))) (ih () h)
  | alloc o k ih => intro Q E p s h; exact out_head (.one (.of (step_alloc ..))) (ih _ h)
  | loadIfAlive a k ih => intro Q E p s h; exact out_head (.one (.of (step_loadIfAlive ..))) (ih _ h)
  | point l k ih => intro Q E p s h; exact out_head (.one (.of (step_point ..))) (ih () h)
  | fresh k ih => intro Q E p s h; exact out_head (.one (.of (step_fresh ..))) (ih _ h)
  | ask k ih => intro Q E p s h; exact out_head (.one (.of (step_ask ..))) (ih _ h)
  | choose src n k ih => intro Q E p s h; obtain ⟨hn, h⟩ := h; exact out_head (.one (.of (step_choose _ _ _ _ _ _ _ hn))) (ih _ h)
  | os q l k ih => intro Q E p s h; exact out_head (.one (.of (step_os ..))) (ih _ h)
  | call c hd g l k ih =>
    intro Q E p s h
    obtain ⟨r, s₁, hret, h⟩ := h
    obtain ⟨t', c', p', pre', hx, hs⟩ := Sts.ofReach (runs_reach hret _ (hf.enter c (fun x => (k x).wrap K H gd lv) hd (gd g) (lv l) p []))
    obtain ⟨rfl, rfl⟩ := hx
    refine out_head (.head (.of (step_call ..)) (hs.trans (.one (.of (step_leaf_ret ..))))) (ih r h)
  | handled own k ih =>
    intro Q E p s h
    refine out_head (.one (.of ((step_handled ..).trans ?_))) (ih _ h)
    cases own
    · rw [hf.handled]; rfl
    · rw [hf.own]; rfl
  | newGen c k ih => intro Q E p s h; exact out_head (.one (.of (step_newGen ..))) (ih _ h)
  | genState g k ih => intro Q E p s h; obtain ⟨x, hg, h⟩ := h; exact out_head (.one (.of (step_genState _ _ _ _ _ _ hg))) (ih _ h)
  | stack k ih => intro Q E p s h; exact out_head (.one (.of ((step_stack ..).trans (by rw [hf.below])))) (ih _ h)
  | thread k ih => intro Q E p s h; exact out_head (.one (.of (step_thread ..))) (ih _ h)
  | resume g r l k ih =>
    intro Q E p s h
    obtain ⟨res, s₁, hwk, h⟩ := h
    unfold Wakes at hwk
    cases hg : s.gens[g]? with
    | none => rw [hg] at hwk; exact hwk.elim
    | some x =>
      rw [hg] at hwk
      cases x with
      | fresh c =>
        cases r with
        | send v =>
          cases v with
          | none =>
            obtain ⟨e₁, s2, hr, hq, rfl, rfl⟩ := hwk
            obtain ⟨t', c', p', pre', hx, hs⟩ := Sts.ofReach (runs_reach hr _ (hf.wake c g (fun x => (k x).wrap K H gd lv) (lv l) p))
            exact out_head (.head (.of (step_resume_fresh _ _ _ _ _ _ _ hg)) (hs.trans (.one (.of (step_exit_gen _ _ _ _ _ _ _ hx hq))))) (ih _ h)
          | _ =>
            obtain ⟨rfl, rfl⟩ := hwk
            exact out_head (.one (.of (step_resume_justStarted _ _ _ _ _ _ _ hg (by intro z; cases z)))) (ih _ h)
        | throw y =>
          obtain ⟨rfl, rfl⟩ := hwk
          exact out_head (.one (.of (step_resume_throwFresh _ _ _ _ _ _ _ _ hg))) (ih _ h)
      | suspended k₀ l₀ c₀ p₀ fs₀ cl =>
        obtain ⟨e₁, s2, hr, hq, rfl, rfl⟩ := hwk
        obtain ⟨t', c', p', pre', hx, hs⟩ := Sts.ofReach (runs_reach hr _ (hf.wake c₀ g (fun x => (k x).wrap K H gd lv) (lv l) p))
        exact out_head (.head (.of (step_resume_suspended _ _ _ _ _ _ _ _ hg)) (hs.trans (.one (.of (step_exit_gen _ _ _ _ _ _ _ hx hq))))) (ih _ h)
      | running =>
        obtain ⟨rfl, rfl⟩ := hwk
        exact out_head (.one (.of (step_resume_running _ _ _ _ _ _ _ _ hg))) (ih _ h)
      | finished =>
        obtain ⟨rfl, rfl⟩ := hwk
        exact out_head (.one (.of (step_resume_finished _ _ _ _ _ _ _ _ hg))) (ih _ h)
/-- what the library proves of a tree -/
theorem TL.of {t : Sem α} {Q : α → Shared → Prop} (h : wpAny (model P w) A t Q E s) : TL P w A t Q E s := fun Γ st p hf hΓ K H gd lv => steps_of_wp hf K H gd lv t (h Γ p hΓ)
theorem TC.of {c : Code} {R : Result → Shared → Prop} (h : codeAny (model P w) A c R s) : TC P w A c R s := fun Γ st p hc hf hΓ => by
  obtain ⟨r, s', hr, hR⟩ := h Γ p hc hΓ
  obtain ⟨t', c', p', pre', ⟨rfl, rfl⟩, hs⟩ := Sts.ofReach (runs_reach hr st hf)
  subst hc
  exact ⟨r, s', c', p', hR, hs⟩
theorem TL.mono {t : Sem α} {Q Q' : α → Shared → Prop} {E' : Value → Shared → Prop} (h : TL P w A t Q E s) (hQ : ∀ a s, Q a s → Q' a s) (hE : ∀ e s, E e s → E' e s) : TL P w A t Q' E' s := fun Γ st p hf hΓ K H gd lv =>
  (h Γ st p hf hΓ K H gd lv).imp (fun ⟨a, p', s', q, z⟩ => ⟨a, p', s', hQ a s' q, z⟩) fun ⟨a, p', s', q, z⟩ => ⟨a, p', s', hE a s' q, z⟩
theorem TL.pure {a : α} {Q : α → Shared → Prop} (h : Q a s) : TL P w A (Pure.pure a) Q E s := fun Γ st p _ _ K H gd lv => .inl ⟨a, p, s, h, .refl _⟩
theorem TL.throw {e : Value} {Q : α → Shared → Prop} (h : E e s) : TL P w A (MonadExcept.throw e : Sem α) Q E s := fun Γ st p _ _ K H gd lv => .inr ⟨e, p, s, h, .refl _⟩
theorem TL.raise {e : Value} {Q : α → Shared → Prop} (h : E e s) : TL P w A (.raise e : Sem α) Q E s := fun Γ st p _ _ K H gd lv => .inr ⟨e, p, s, h, .refl _⟩
theorem TL.eq {t u : Sem α} {Q : α → Shared → Prop} (e : t = u) (h : TL P w A u Q E s) : TL P w A t Q E s := e ▸ h
theorem TL.wrapE {m : Sem α} {f : α → Sem β} {g : Value → Sem β} {gd : Bool → Bool} {lv : List Value → List Value} {Q : β → Shared → Prop}
    (h : TL P w A m (fun a s' => TL P w A (f a) Q E s') (fun e s' => TL P w A (g e) Q E s') s) : TL P w A (m.wrap f g gd lv) Q E s := fun Γ st p hf hΓ K H gd' lv' => by
  rw [Sem.wrap_wrap]
  rcases h Γ st p hf hΓ (fun a => (f a).wrap K H gd' lv') (fun e => (g e).wrap K H gd' lv') (fun b => gd' (gd b)) (fun l => lv' (lv l)) with ⟨a, p', s', q, z⟩ | ⟨a, p', s', q, z⟩
  · exact out_head z (q Γ st p' hf hΓ K H gd' lv')
  · exact out_head z (q Γ st p' hf hΓ K H gd' lv')
theorem TL.bind {m : Sem α} {f : α → Sem β} {Q : β → Shared → Prop} (h : TL P w A m (fun a s' => TL P w A (f a) Q E s') E s) : TL P w A (m >>= f) Q E s := by
  rw [Sem.bind_eq_wrap']
  exact .wrapE (h.mono (fun _ _ x => x) fun e s' x => .raise x)
theorem TL.map {m : Sem α} {f : α → β} {Q : β → Shared → Prop} (h : TL P w A m (fun a s' => Q (f a) s') E s) : TL P w A (f <$> m) Q E s := .eq (u := m >>= fun a => Pure.pure (f a)) (by rfl) (.bind (h.mono (fun _ _ x => .pure x) fun _ _ x => x))
theorem TL.onRaise {m : Sem α} {k : Value → Sem Unit} {Q : α → Shared → Prop} (h : TL P w A m Q (fun e s' => TL P w A (k e) (fun _ s'' => E e s'') E s') s) : TL P w A (m.onRaise k) Q E s := by
  rw [Sem.onRaise_eq_wrap]
  refine .wrapE (h.mono (fun a s' x => .pure x) fun e s' x => ?_)
  exact TL.bind (m := k e) (x.mono (fun _ _ y => .raise y) fun _ _ y => y)
theorem TL.attempt {m : Sem α} {Q : Except Value α → Shared → Prop} (h : TL P w A m (fun a => Q (.ok a)) (fun e => Q (.error e)) s) : TL P w A m.attempt Q E s := by
  unfold Sem.attempt
  rw [Sem.tryCatch_eq_wrap, Sem.bind_eq_wrap, Sem.wrap_wrap]
  exact .wrapE (h.mono (fun a s' x => .pure (a := Except.ok a) x) fun e s' x => .pure (a := Except.error e) x)
theorem TL.keep {m : Sem α} {vs : List Value} {Q : α → Shared → Prop} (h : TL P w A m Q E s) : TL P w A (m.keep vs) Q E s := by
  rw [Sem.keep_eq_wrap]
  exact .wrapE (h.mono (fun a s' x => .pure x) fun e s' x => .raise x)
theorem TL.holding {m : Sem α} {vs : List Value} {Q : α → Shared → Prop} (h : TL P w A m Q E s) : TL P w A (holding vs m) Q E s := by
  unfold PySem.holding
  split
  · exact h
  · exact .keep h
theorem TL.standAt {p' : Pos} {Q : Unit → Shared → Prop} (h : Q () s) : TL P w A (standAt p') Q E s := .of (wpAny_standAt h)
/-- a call of a code -/
theorem TL.callN {c : Code} {h : Option Value} {g : Bool} {l : List Value} {k : Result → Sem α} {Q : α → Shared → Prop} (hc : TC P w (A.mark h) c (fun r s' => TL P w A (k r) Q E s') s) (hnb : h ≠ some byPass := by intro x; cases x) : TL P w A (.call c h g l k) Q E s := fun Γ st p hf hΓ K H gd lv => by
  obtain ⟨r, s', c', p', hq, hs⟩ := hc (Γ.enter c h p) _ p rfl (hf.enter c (fun x => (k x).wrap K H gd lv) h (gd g) (lv l) p []) (hΓ.enter c h p hnb)
  exact out_head (.head (.of (step_call ..)) (hs.trans (.one (.of (step_leaf_ret ..))))) (hq Γ st p hf hΓ K H gd lv)
theorem TL.run {c : Code} {h : Option Value} {Q : Flow → Shared → Prop} (hc : TC P w (A.mark h) c (fun r s' => match r with | .ok f => Q f s' | .error e => E e s') s) (hnb : h ≠ some byPass := by intro x; cases x) : TL P w A (run c h) Q E s := by
  unfold PySem.run
  refine .callN (fun Γ st p a b d => ?_) hnb
  obtain ⟨r, s', c', p', hq, hs⟩ := hc Γ st p a b d
  refine ⟨r, s', c', p', ?_, hs⟩
  cases r with
  | ok f => exact .pure hq
  | error e => exact .raise hq
theorem TL.runValue {c : Code} {Q : Value → Shared → Prop} (hc : TC P w (A.mark none) c (fun r s' => match r with | .ok (.ret v) => Q v s' | .ok _ => False | .error e => E e s') s) : TL P w A (runValue c) Q E s := by
  unfold PySem.runValue
  refine .bind (.run fun Γ st p a b d => ?_)
  obtain ⟨r, s', c', p', hq, hs⟩ := hc Γ st p a b d
  refine ⟨r, s', c', p', ?_, hs⟩
  cases r with
  | ok f =>
    cases f with
    | ret v => exact .pure hq
    | _ => exact hq.elim
  | error e => exact hq
theorem TC.mono {c : Code} {R R' : Result → Shared → Prop} (h : TC P w A c R s) (hR : ∀ r s', R r s' → R' r s') : TC P w A c R' s := fun Γ st p a b d => by
  obtain ⟨r, s', c', p', hq, hs⟩ := h Γ st p a b d
  exact ⟨r, s', c', p', hR r s' hq, hs⟩
theorem TC.tree {c : Code} {R : Result → Shared → Prop} (h : TL P w (A.under c) (denote table c) (fun fin s' => match fin with | .done f => R (.ok f) s' | .again c' => c'.quiet = true ∧ TC P w A c' R s') (fun e s' => R (.error e) s') s) : TC P w A c R s := fun Γ st p hc hf hΓ => by
  subst hc
  have e : ∀ t : Sem PySem.Fin, t.wrap .pure .raise id id = t := fun t => by
    rw [← Sem.bind_eq_wrap]; exact Sem.bind_pure t
  rcases h Γ st p hf hΓ.in .pure .raise id id with ⟨fin, p', s', q, z⟩ | ⟨x, p', s', q, z⟩
  · rw [e] at z
    cases fin with
    | done f => exact ⟨.ok f, s', _, p', q, z⟩
    | again c' =>
      obtain ⟨hq, q⟩ := q
      obtain ⟨r, s2, c2, p2, hR, hs⟩ := q (Γ.goto c') st p' rfl (hf.goto c') (hΓ.goto c')
      exact ⟨r, s2, c2, p2, hR, z.trans (.head (.of (step_again _ _ _ _ _ _ hq)) hs)⟩
  · rw [e] at z
    exact ⟨.error x, s', _, p', q, z⟩
end

def SegM (P : Program) (w : World) (A : Around) (Φ : End → Shared → Prop) (c : Code) (t : Sem PySem.Fin) (fs : List Frame) (s : Shared) : Prop :=
  ∀ (Γ : Ctx) (base : List Frame) (p : Pos), Γ.code = c → Γ.Fits base → Γ.Woken A → ∃ e s' t' c' p' pre', Φ e s' ∧ Exits e t' c' p' pre' ∧ Sts P w (s, ⟨t, c, p, fs ++ base⟩) (s', ⟨t', c', p', pre' ++ base⟩)
section
variable {P : Program} {w : World} {A : Around} {Φ Ψ : End → Shared → Prop} {c : Code} {fs : List Frame} {s : Shared} {α β : Type}
theorem SegM.imp {t : Sem PySem.Fin} (h : SegM P w A Φ c t fs s) (k : ∀ e s', Φ e s' → Ψ e s') : SegM P w A Ψ c t fs s := fun Γ base p a b d =>
  let ⟨e, s', t', c', p', pre', q, x, z⟩ := h Γ base p a b d; ⟨e, s', t', c', p', pre', k e s' q, x, z⟩
theorem sm_wrap {m : Sem α} {K : α → Sem PySem.Fin} {H : Value → Sem PySem.Fin} {gd : Bool → Bool} {lv : List Value → List Value}
    (h : TL P w (A.over c fs) m (fun a s' => SegM P w A Φ c (K a) fs s') (fun x s' => SegM P w A Φ c (H x) fs s') s) : SegM P w A Φ c (m.wrap K H gd lv) fs s := by
  rintro Γ base p rfl hf hΓ
  rcases h (Γ.over fs) (fs ++ base) p (hf.over fs) (hΓ.over fs) K H gd lv with ⟨a, p', s', q, z⟩ | ⟨a, p', s', q, z⟩
  · obtain ⟨e, s2, t2, c2, p2, pre2, q2, x2, z2⟩ := q Γ base p' rfl hf hΓ
    exact ⟨e, s2, t2, c2, p2, pre2, q2, x2, z.trans z2⟩
  · obtain ⟨e, s2, t2, c2, p2, pre2, q2, x2, z2⟩ := q Γ base p' rfl hf hΓ
    exact ⟨e, s2, t2, c2, p2, pre2, q2, x2, z.trans z2⟩
theorem sm_bind {m : Sem α} {K : α → Sem PySem.Fin}
    (h : TL P w (A.over c fs) m (fun a s' => SegM P w A Φ c (K a) fs s') (fun x s' => SegM P w A Φ c (.raise x) fs s') s) : SegM P w A Φ c (m >>= K) fs s := by
  rw [Sem.bind_eq_wrap']; exact sm_wrap h
theorem sm_bind_wrap {m : Sem α} {K : α → Sem β} {K' : β → Sem PySem.Fin} {H' : Value → Sem PySem.Fin} {gd : Bool → Bool} {lv : List Value → List Value}
    (h : TL P w (A.over c fs) m (fun a s' => SegM P w A Φ c ((K a).wrap K' H' gd lv) fs s') (fun x s' => SegM P w A Φ c (H' x) fs s') s) : SegM P w A Φ c ((m >>= K).wrap K' H' gd lv) fs s := by
  rw [Sem.bind_eq_wrap', Sem.wrap_wrap]; exact sm_wrap h
theorem sm_at {p' : Pos} {k : Unit → Sem PySem.Fin} (h : SegM P w A Φ c (k ()) fs s) : SegM P w A Φ c (.at p' k) fs s :=
  sm_wrap (m := standAt p') (K := k) (H := .raise) (gd := id) (lv := id) (.standAt h)
theorem sm_point {l : List Value} {k : Unit → Sem PySem.Fin} (h : SegM P w A Φ c (k ()) fs s) : SegM P w A Φ c (.point l k) fs s :=
  sm_wrap (m := point) (K := k) (H := .raise) (gd := id) (lv := fun _ => l) (.of (wpAny_point h))
theorem sm_call {c' : Code} {h : Option Value} {g : Bool} {l : List Value} {k : Result → Sem PySem.Fin} (hc : ∀ p, SegM P w A Φ c' (denote table c') (.ret k h g l c p [] :: fs) s) : SegM P w A Φ c (.call c' h g l k) fs s := by
  rintro Γ base p rfl hf hΓ
  obtain ⟨e, s2, t2, c2, p2, pre2, q2, x2, z2⟩ := hc p (Γ.goto c') base p rfl (hf.goto c') (hΓ.goto c')
  exact ⟨e, s2, t2, c2, p2, pre2, q2, x2, .head (.of (step_call ..)) z2⟩
theorem sm_leaf {k : Result → Sem PySem.Fin} {h : Option Value} {g : Bool} {l : List Value} {c₁ : Code} {p₁ : Pos} {kp : List Value} (r : Result) (hk : SegM P w A Φ c₁ (k r) fs s) : SegM P w A Φ c (leafOf r) (.ret k h g l c₁ p₁ kp :: fs) s := by
  rintro Γ base p rfl hf hΓ
  obtain ⟨e, s2, t2, c2, p2, pre2, q2, x2, z2⟩ := hk (Γ.goto c₁) base p₁ rfl (hf.goto c₁) (hΓ.goto c₁)
  exact ⟨e, s2, t2, c2, p2, pre2, q2, x2, .head (.of (step_leaf_ret ..)) z2⟩
theorem sm_again {c' : Code} (hq : c'.quiet = true) (hc : SegM P w A Φ c' (denote table c') fs s) : SegM P w A Φ c (.pure (.again c')) fs s := by
  rintro Γ base p rfl hf hΓ
  obtain ⟨e, s2, t2, c2, p2, pre2, q2, x2, z2⟩ := hc (Γ.goto c') base p rfl (hf.goto c') (hΓ.goto c')
  exact ⟨e, s2, t2, c2, p2, pre2, q2, x2, .head (.of (step_again _ _ _ _ _ _ hq)) z2⟩
theorem sm_end (r : Result) (h : Φ (.ret r) s) : SegM P w A Φ c (leafOf r) [] s := by
  rintro Γ base p rfl _ _
  exact ⟨.ret r, s, _, _, _, [], h, ⟨rfl, rfl⟩, .refl _⟩
theorem sm_yield {v : Value} {g : Bool} {l : List Value} {k : Resume → Sem PySem.Fin} (hfs : splitAtGen fs = none) (h : ∀ p, Φ (.susp v g l k c p fs) s) : SegM P w A Φ c (.yield v g l k) fs s := by
  rintro Γ base p rfl _ _
  exact ⟨_, s, _, _, p, fs, h p, ⟨rfl, rfl, rfl, rfl, hfs⟩, .refl _⟩
/-- a piece that the library proves -/
theorem SegM.of {t : Sem PySem.Fin} (h : GW2.SegP (model P w) A Φ c t fs s) : SegM P w A Φ c t fs s := by
  rintro Γ base p rfl hf hΓ
  obtain ⟨e, s', hr, q⟩ := h Γ p rfl hΓ
  obtain ⟨t', c', p', pre', hx, hs⟩ := Sts.ofReach (runs_reach hr base hf)
  exact ⟨e, s', t', c', p', pre', q, hx, hs⟩

/-- how a piece may end where it is woken -/
def BenE (s : Shared) (e : End) : Prop := e.quiet = true ∨ ∃ v l k c p fs, e = .susp v true l k c p fs ∧ Ben s c fs
/-- a generator's next piece -/
def GoesM (P : Program) (w : World) (A : Around) (Φ : End → Shared → Prop) (gs : GenState) (s : Shared) : Prop :=
  match gs with
  | .fresh c => SegM P w A Φ c (denote table c) [] s
  | .suspended k _ c _ fs _ => SegM P w A Φ c (k (.send .none)) fs s
  | _ => False
theorem exit_gen {e₁ : End} {t' : Sem PySem.Fin} {c' : Code} {p' : Pos} {pre' : List Frame} {s₁ : Shared} {g : Nat} {k : GenResult → Sem PySem.Fin} {l : List Value} {p : Pos} {st : List Frame} (hx : Exits e₁ t' c' p' pre') (hb : BenE s₁ e₁) :
    St1 P w (s₁, ⟨t', c', p', pre' ++ .gen g k l c p :: st⟩) (s₁.setGen g e₁.genState, ⟨k e₁.result, c, p, st⟩) := by
  rcases hb with hq | ⟨v, l0, k0, c0, p0, fs0, rfl, hben⟩
  · exact .of (step_exit_gen _ _ _ _ _ _ _ hx hq)
  · obtain ⟨rfl, rfl, rfl, rfl, hfs⟩ := hx
    have hsp : splitAtGen (pre' ++ .gen g k l c p :: st) = some (pre', (g, k, c, p), st) := by rw [splitAtGen_append_none _ hfs, splitAtGen_gen]; simp
    refine ⟨.inr ⟨v, l0, k0, pre', _, _, rfl, hsp, hben⟩, ?_⟩
    simp only [stepK, PySem.step, hsp]
    rfl
variable {E : Value → Shared → Prop}
theorem TL.resume {g : Nat} {gs : GenState} {l : List Value} {k : GenResult → Sem α} {Q : α → Shared → Prop} (hg : s.gens[g]? = some gs)
    (hgo : GoesM P w A Φ gs (s.setGen g .running)) (hq : ∀ e s₁, Φ e s₁ → BenE s₁ e)
    (h : ∀ e s₁, Φ e s₁ → TL P w A (k e.result) Q E (s₁.setGen g e.genState)) : TL P w A (.resume g (.send .none) l k) Q E s := fun Γ st p hf hΓ K H gd lv => by
  have hB : ∀ c, (Γ.wake c p).Woken A := fun c => hΓ.wake c p
  cases gs with
  | fresh c =>
    obtain ⟨e₁, s₁, t', c', p', pre', he, hx, hs⟩ := hgo (Γ.wake c p) _ p rfl (hf.wake c g (fun x => (k x).wrap K H gd lv) (lv l) p) (hB c)
    exact out_head (.head (.of (step_resume_fresh _ _ _ _ _ _ _ hg)) (hs.trans (.one (exit_gen hx (hq e₁ s₁ he))))) (h e₁ s₁ he Γ st p hf hΓ K H gd lv)
  | suspended k₀ l₀ c₀ p₀ fs₀ cl =>
    obtain ⟨e₁, s₁, t', c', p', pre', he, hx, hs⟩ := hgo (Γ.wake c₀ p) _ p₀ rfl (hf.wake c₀ g (fun x => (k x).wrap K H gd lv) (lv l) p) (hB c₀)
    exact out_head (.head (.of (step_resume_suspended _ _ _ _ _ _ _ _ hg)) (hs.trans (.one (exit_gen hx (hq e₁ s₁ he))))) (h e₁ s₁ he Γ st p hf hΓ K H gd lv)
  | running => exact hgo.elim
  | finished => exact hgo.elim
end
end YM

namespace YM
open PySem PyProof.Rows GenW GW2
open Sem (wp)

/-- a sleeping generator that must not be woken -/
def dull : GenState → GenState
  | .suspended _ l c p fs cl => .suspended (fun _ => .unsupported "") l c p fs false
  | x => x
theorem dull_seen (x : GenState) : (dull x).seen = x.seen := by cases x <;> rfl
theorem dull_bare (x : GenState) : (dull x).bare = true := by cases x <;> rfl
theorem dull_of_not {x : GenState} (h : isS x = false) : dull x = x := by cases x <;> first | rfl | cases h
/-- the tables of two runs: those that slept at the start (G) are dull in the one, as they were in the other; all else is equal -/
structure Dim (G gb gt : Array GenState) : Prop where
  size : gb.size = gt.size
  le : G.size ≤ gb.size
  old : ∀ (i : Nat) (y : GenState), G[i]? = some y → isS y = true → gb[i]? = some (dull y) ∧ gt[i]? = some y
  new : ∀ (i : Nat), (∀ y, G[i]? = some y → isS y = false) → gb[i]? = gt[i]? ∧ ∀ k l c p fs cl, gt[i]? = some (.suspended k l c p fs cl) → splitAtGen fs = none
theorem Dim.start (G : Array GenState) : Dim G (G.map dull) G where
  size := by simp
  le := by simp
  old := fun i y e _ => ⟨by simp [e], e⟩
  new := fun i h => by
    cases e : G[i]? with
    | none => exact ⟨by simp [e], fun _ _ _ _ _ _ z => by cases z⟩
    | some y =>
      have q := h y e
      refine ⟨by simp [e, dull_of_not q], fun k l c p fs cl z => ?_⟩
      cases z; cases q
section
variable {G gb gt : Array GenState} {g : Nat}
theorem Dim.isNew (S : Dim G gb gt) {x : GenState} (h : gb[g]? = some x) (hx : isS x = false) : ∀ y, G[g]? = some y → isS y = false := fun y e => by
  cases q : isS y with
  | false => rfl
  | true =>
    have := (S.old g y e q).1
    rw [h] at this
    cases this
    cases y <;> first | exact hx | cases q
theorem Dim.set (S : Dim G gb gt) (hn : ∀ y, G[g]? = some y → isS y = false) (x : GenState) (hx : ∀ k l c p fs cl, x = .suspended k l c p fs cl → splitAtGen fs = none) : Dim G (gb.setIfInBounds g x) (gt.setIfInBounds g x) where
  size := by simp [S.size]
  le := by simpa using S.le
  old := fun i y e q => by
    have hi : g ≠ i := fun z => by subst z; rw [hn y e] at q; cases q
    rw [Array.getElem?_setIfInBounds_ne hi, Array.getElem?_setIfInBounds_ne hi]
    exact S.old i y e q
  new := fun i h => by
    by_cases hi : g = i
    · subst hi
      by_cases hl : g < gb.size
      · have hl' : g < gt.size := by rw [← S.size]; exact hl
        refine ⟨by simp [hl, hl'], fun k l c p fs cl z => ?_⟩
        rw [show (gt.setIfInBounds g x)[g]? = some x by simp [hl']] at z
        cases z
        exact hx _ _ _ _ _ _ rfl
      · have hl' : ¬ g < gt.size := by rw [← S.size]; exact hl
        refine ⟨by simp [hl, hl'], fun k l c p fs cl z => ?_⟩
        simp [hl'] at z
    · rw [Array.getElem?_setIfInBounds_ne hi, Array.getElem?_setIfInBounds_ne hi]
      exact S.new i h
theorem Dim.push (S : Dim G gb gt) (c : Code) : Dim G (gb.push (.fresh c)) (gt.push (.fresh c)) where
  size := by simp [S.size]
  le := by have := S.le; simp; omega
  old := fun i y e q => by
    obtain ⟨h1, h2⟩ := S.old i y e q
    obtain ⟨l1, _⟩ := Array.getElem?_eq_some_iff.mp h1
    obtain ⟨l2, _⟩ := Array.getElem?_eq_some_iff.mp h2
    rw [Array.getElem?_push_lt l1, Array.getElem?_push_lt l2, ← Array.getElem?_eq_getElem l1, ← Array.getElem?_eq_getElem l2]
    exact ⟨h1, h2⟩
  new := fun i h => by
    obtain ⟨h1, h2⟩ := S.new i h
    rw [Array.getElem?_push, Array.getElem?_push, S.size]
    by_cases z : i = gt.size
    · rw [if_pos z, if_pos z]
      exact ⟨rfl, fun _ _ _ _ _ _ e => by cases e⟩
    · rw [if_neg z, if_neg z]
      exact ⟨h1, h2⟩
/-- an entry that is read -/
theorem Dim.seen (S : Dim G gb gt) {st : GenState} (h : gb[g]? = some st) : ∃ y, gt[g]? = some y ∧ y.seen = st.seen := by
  by_cases hn : ∀ y, G[g]? = some y → isS y = false
  · exact ⟨st, (S.new g hn).1 ▸ h, rfl⟩
  · have : ∃ y, G[g]? = some y ∧ isS y = true := by
      cases e : G[g]? with
      | none => exact absurd (fun y z => by rw [e] at z; cases z) hn
      | some y =>
        cases q : isS y with
        | true => exact ⟨y, rfl, q⟩
        | false => exact absurd (fun z hz => by rw [e] at hz; cases hz; exact q) hn
    obtain ⟨y, e, q⟩ := this
    obtain ⟨h1, h2⟩ := S.old g y e q
    rw [h] at h1
    cases h1
    exact ⟨y, h2, (dull_seen y).symm⟩
end

theorem runs_dim {M : Model} {Γ : Ctx} {p : Pos} {t : Sem PySem.Fin} {fs : List Frame} {s s' : Shared} {e : End} (h : Runs M Γ p t fs s e s') {G : Array GenState} :
    splitAtGen fs = none → ∀ gt, Dim G s.gens gt → ∃ gt', Runs M Γ p t fs { s with gens := gt } e { s' with gens := gt' } ∧ Dim G s'.gens gt' ∧ NoGen e := by
  induction h with
  | done => exact fun _ gt S => ⟨gt, .done, S, .ret _⟩
  | raise => exact fun _ gt S => ⟨gt, .raise, S, .ret _⟩
  | again q _ ih => exact fun f gt S => let ⟨g', r, S', n⟩ := ih f gt S; ⟨g', .again q r, S', n⟩
  | rule _ ih => exact fun f gt S => let ⟨g', r, S', n⟩ := ih f gt S; ⟨g', .rule r, S', n⟩
  | «at» _ ih => exact fun f gt S => let ⟨g', r, S', n⟩ := ih f gt S; ⟨g', .at r, S', n⟩
  | load e _ ih => exact fun f gt S => let ⟨g', r, S', n⟩ := ih f gt S; ⟨g', .load e r, S', n⟩
  | update e _ ih => exact fun f gt S => let ⟨g', r, S', n⟩ := ih f gt S; ⟨g', .update e r, S', n⟩
  | loadIfAlive _ ih => exact fun f gt S => let ⟨g', r, S', n⟩ := ih f gt S; ⟨g', .loadIfAlive r, S', n⟩
  | point _ ih => exact fun f gt S => let ⟨g', r, S', n⟩ := ih f gt S; ⟨g', .point r, S', n⟩
  | alloc _ ih => exact fun f gt S => let ⟨g', r, S', n⟩ := ih f gt S; ⟨g', .alloc r, S', n⟩
  | fresh _ ih => exact fun f gt S => let ⟨g', r, S', n⟩ := ih f gt S; ⟨g', .fresh r, S', n⟩
  | ask _ ih => exact fun f gt S => let ⟨g', r, S', n⟩ := ih f gt S; ⟨g', .ask r, S', n⟩
  | choose e _ ih => exact fun f gt S => let ⟨g', r, S', n⟩ := ih f gt S; ⟨g', .choose e r, S', n⟩
  | os _ ih => exact fun f gt S => let ⟨g', r, S', n⟩ := ih f gt S; ⟨g', .os r, S', n⟩
  | handled _ ih => exact fun f gt S => let ⟨g', r, S', n⟩ := ih f gt S; ⟨g', .handled r, S', n⟩
  | genState e _ ih =>
    intro f gt S
    obtain ⟨y, hy, hs⟩ := S.seen e
    obtain ⟨g', r, S', n⟩ := ih f gt S
    exact ⟨g', .genState hy (by rw [hs]; exact r), S', n⟩
  | stack _ ih => exact fun f gt S => let ⟨g', r, S', n⟩ := ih f gt S; ⟨g', .stack r, S', n⟩
  | thread _ ih => exact fun f gt S => let ⟨g', r, S', n⟩ := ih f gt S; ⟨g', .thread r, S', n⟩
  | newGen _ ih =>
    intro f gt S
    obtain ⟨g', r, S', n⟩ := ih f _ (S.push _)
    refine ⟨g', .newGen ?_, S', n⟩
    rw [S.size] at r
    exact r
  | call _ _ ih1 ih2 =>
    intro f gt S
    obtain ⟨g1, r1, S1, _⟩ := ih1 rfl gt S
    obtain ⟨g2, r2, S2, n⟩ := ih2 f g1 S1
    exact ⟨g2, .call r1 r2, S2, n⟩
  | callSusp _ ih =>
    intro f gt S
    obtain ⟨g1, r1, S1, n⟩ := ih rfl gt S
    refine ⟨g1, .callSusp r1, S1, fun _ _ _ _ _ _ _ z => ?_⟩
    cases z
    exact splitAtGen_app (n _ _ _ _ _ _ _ rfl) rfl
  | yield => exact fun f gt S => ⟨gt, .yield, S, fun _ _ _ _ _ _ _ z => by cases z; rfl⟩
  | resumeFresh hg _ hq _ ih1 ih2 =>
    intro f gt S
    have hn := S.isNew hg rfl
    obtain ⟨g1, r1, S1, n1⟩ := ih1 rfl _ (S.set hn .running fun _ _ _ _ _ _ z => by cases z)
    obtain ⟨g2, r2, S2, n⟩ := ih2 f _ (S1.set hn _ n1.state)
    exact ⟨g2, .resumeFresh ((S.new _ hn).1 ▸ hg) r1 hq r2, S2, n⟩
  | @resumeSuspended Γ p g r l k s k₀ l₀ c₀ p₀ fs₀ cl e₁ s₁ e s' hg h1 hq _ ih1 ih2 =>
    intro f gt S
    by_cases hn : ∀ y, G[g]? = some y → isS y = false
    · obtain ⟨hs, hfs⟩ := S.new g hn
      have hg' : gt[g]? = some (.suspended k₀ l₀ c₀ p₀ fs₀ cl) := hs ▸ hg
      obtain ⟨g1, r1, S1, n1⟩ := ih1 (hfs _ _ _ _ _ _ hg') _ (S.set hn .running fun _ _ _ _ _ _ z => by cases z)
      obtain ⟨g2, r2, S2, n⟩ := ih2 f _ (S1.set hn _ n1.state)
      exact ⟨g2, .resumeSuspended hg' r1 hq r2, S2, n⟩
    · exfalso
      have : ∃ y, G[g]? = some y ∧ isS y = true := by
        cases e : G[g]? with
        | none => exact absurd (fun y z => by rw [e] at z; cases z) hn
        | some y =>
          cases q : isS y with
          | true => exact ⟨y, rfl, q⟩
          | false => exact absurd (fun z hz => by rw [e] at hz; cases hz; exact q) hn
      obtain ⟨y, e, q⟩ := this
      have h2 := (S.old g y e q).1
      rw [hg] at h2
      cases y with
      | suspended k' l' c' p' f' cl' =>
        have h3 := Option.some.inj h2
        have h4 : k₀ = fun _ => .unsupported "" := by injection h3
        rw [h4] at h1
        exact no_unsupported h1
      | _ => cases q
  | resumeJustStarted hg hv _ ih =>
    intro f gt S
    have hn := S.isNew hg rfl
    obtain ⟨g1, r1, S1, n⟩ := ih f gt S
    exact ⟨g1, .resumeJustStarted ((S.new _ hn).1 ▸ hg) hv r1, S1, n⟩
  | resumeThrowFresh hg _ ih =>
    intro f gt S
    have hn := S.isNew hg rfl
    obtain ⟨g1, r1, S1, n⟩ := ih f _ (S.set hn .finished fun _ _ _ _ _ _ z => by cases z)
    exact ⟨g1, .resumeThrowFresh ((S.new _ hn).1 ▸ hg) r1, S1, n⟩
  | resumeRunning hg _ ih =>
    intro f gt S
    have hn := S.isNew hg rfl
    obtain ⟨g1, r1, S1, n⟩ := ih f gt S
    exact ⟨g1, .resumeRunning ((S.new _ hn).1 ▸ hg) r1, S1, n⟩
  | resumeFinished hg _ ih =>
    intro f gt S
    have hn := S.isNew hg rfl
    obtain ⟨g1, r1, S1, n⟩ := ih f gt S
    exact ⟨g1, .resumeFinished ((S.new _ hn).1 ▸ hg) r1, S1, n⟩
  | segRet _ _ ih1 ih2 =>
    intro f gt S
    obtain ⟨g1, r1, S1, _⟩ := ih1 rfl gt S
    obtain ⟨g2, r2, S2, n⟩ := ih2 (splitAtGen_tail f) g1 S1
    exact ⟨g2, .segRet r1 r2, S2, n⟩
  | segGen _ _ _ _ => exact fun f => by cases f
  | segSuspOut hf _ ih =>
    intro f gt S
    obtain ⟨g1, r1, S1, n⟩ := ih rfl gt S
    refine ⟨g1, .segSuspOut hf r1, S1, fun _ _ _ _ _ _ _ z => ?_⟩
    cases z
    exact splitAtGen_app (n _ _ _ _ _ _ _ rfl) hf
  | segSuspGen hf _ _ _ _ _ => exact fun f => by rw [f] at hf; cases hf

theorem returns_dim {M : Model} {Γ : Ctx} {p : Pos} {s s' : Shared} {r : Result} {G gt : Array GenState} (h : Returns M Γ p s r s') (S : Dim G s.gens gt) : ∃ gt', Returns M Γ p { s with gens := gt } r { s' with gens := gt' } ∧ Dim G s'.gens gt' :=
  let ⟨g', r, S', _⟩ := runs_dim h rfl gt S; ⟨g', r, S'⟩
theorem wakes_dim {M : Model} {Γ : Ctx} {p : Pos} {g : Nat} {r : Resume} {s s' : Shared} {res : GenResult} {G gt : Array GenState} (h : Wakes M Γ p g r s res s') (S : Dim G s.gens gt) : ∃ gt', Wakes M Γ p g r { s with gens := gt } res { s' with gens := gt' } ∧ Dim G s'.gens gt' := by
  unfold Wakes at h
  cases hg : s.gens[g]? with
  | none => rw [hg] at h; exact h.elim
  | some x =>
    rw [hg] at h
    cases x with
    | fresh c =>
      have hn := S.isNew hg rfl
      have hg' : gt[g]? = some (.fresh c) := (S.new _ hn).1 ▸ hg
      cases r with
      | send v =>
        cases v with
        | none =>
          obtain ⟨e₁, s₁, hr, hq, rfl, rfl⟩ := h
          obtain ⟨g1, r1, S1, n1⟩ := runs_dim hr rfl _ (S.set hn .running fun _ _ _ _ _ _ z => by cases z)
          refine ⟨_, ?_, S1.set hn _ n1.state⟩
          unfold Wakes
          simp only [hg']
          exact ⟨e₁, _, r1, hq, rfl, rfl⟩
        | _ =>
          obtain ⟨rfl, rfl⟩ := h
          refine ⟨gt, ?_, S⟩
          unfold Wakes
          simp only [hg']
          exact ⟨trivial, trivial⟩
      | throw x =>
        obtain ⟨rfl, rfl⟩ := h
        refine ⟨_, ?_, S.set hn .finished fun _ _ _ _ _ _ z => by cases z⟩
        unfold Wakes
        simp only [hg']
        first | exact ⟨trivial, rfl⟩ | exact ⟨trivial, trivial⟩ | exact ⟨rfl, rfl⟩
    | suspended k₀ l₀ c₀ p₀ fs₀ cl =>
      obtain ⟨e₁, s₁, hr, hq, rfl, rfl⟩ := h
      by_cases hn : ∀ y, G[g]? = some y → isS y = false
      · obtain ⟨hs, hfs⟩ := S.new g hn
        have hg' : gt[g]? = some (.suspended k₀ l₀ c₀ p₀ fs₀ cl) := hs ▸ hg
        obtain ⟨g1, r1, S1, n1⟩ := runs_dim hr (hfs _ _ _ _ _ _ hg') _ (S.set hn .running fun _ _ _ _ _ _ z => by cases z)
        refine ⟨_, ?_, S1.set hn _ n1.state⟩
        unfold Wakes
        simp only [hg']
        exact ⟨e₁, _, r1, hq, rfl, rfl⟩
      · exfalso
        have : ∃ y, G[g]? = some y ∧ isS y = true := by
          cases e : G[g]? with
          | none => exact absurd (fun y z => by rw [e] at z; cases z) hn
          | some y =>
            cases q : isS y with
            | true => exact ⟨y, rfl, q⟩
            | false => exact absurd (fun z hz => by rw [e] at hz; cases hz; exact q) hn
        obtain ⟨y, e, q⟩ := this
        have h2 := (S.old g y e q).1
        rw [hg] at h2
        cases y with
        | suspended k' l' c' p' f' cl' =>
          have h3 := Option.some.inj h2
          have h4 : k₀ = fun _ => .unsupported "" := by injection h3
          rw [h4] at hr
          exact no_unsupported hr
        | _ => cases q
    | running =>
      obtain ⟨rfl, rfl⟩ := h
      have hg' : gt[g]? = some .running := (S.new _ (S.isNew hg rfl)).1 ▸ hg
      refine ⟨gt, ?_, S⟩
      unfold Wakes
      simp only [hg']
      exact ⟨trivial, trivial⟩
    | finished =>
      obtain ⟨rfl, rfl⟩ := h
      have hg' : gt[g]? = some .finished := (S.new _ (S.isNew hg rfl)).1 ▸ hg
      refine ⟨gt, ?_, S⟩
      unfold Wakes
      simp only [hg']
      exact ⟨trivial, trivial⟩

theorem wp_dim {α : Type} (M : Model) (Γ : Ctx) (G : Array GenState) (t : Sem α) : ∀ (Q : α → Pos → Shared → Prop) (E : Value → Pos → Shared → Prop) (p : Pos) (s : Shared) (gt : Array GenState), Dim G s.gens gt → wp M Γ t Q E p s →
    wp M Γ t (fun a p' s' => ∃ gb, Dim G gb s'.gens ∧ Q a p' { s' with gens := gb }) (fun e p' s' => ∃ gb, Dim G gb s'.gens ∧ E e p' { s' with gens := gb }) p { s with gens := gt } := by
  induction t with
  | pure a => intro Q E p s gt S h; exact ⟨s.gens, S, h⟩
  | raise e => intro Q E p s gt S h; exact ⟨s.gens, S, h⟩
  | unsupported _ => intro Q E p s gt S h; exact h
  | finish _ => intro Q E p s gt S h; exact h
  | rule _ k ih => intro Q E p s gt S h; exact ih () Q E p s gt (by exact S) h
  | «at» p' k ih => intro Q E p s gt S h; exact ih () Q E p' s gt (by exact S) h
  | load a _ k ih => intro Q E p s gt S h; obtain ⟨o, ho, h⟩ := h; exact ⟨o, ho, ih o Q E p s gt (by exact S) h⟩
  | update a _ f k ih => intro Q E p s gt S h; exact ⟨h.1, ih () Q E p _ gt (by exact S) h.2⟩
  | loadIfAlive a k ih => intro Q E p s gt S h; exact ih _ Q E p s gt (by exact S) h
  | point _ k ih => intro Q E p s gt S h; exact ih () Q E p s gt (by exact S) h
  | register _ _ => intro Q E p s gt S h; exact h
  | alloc o k ih => intro Q E p s gt S h; exact ih _ Q E p _ gt (by exact S) h
  | fresh k ih => intro Q E p s gt S h; exact ih _ Q E p _ gt (by exact S) h
  | ask k ih => intro Q E p s gt S h; exact ih _ Q E p s gt (by exact S) h
  | choose src m k ih => intro Q E p s gt S h; exact ⟨h.1, ih _ Q E p _ gt (by exact S) h.2⟩
  | os q _ k ih => intro Q E p s gt S h; exact ih _ Q E p _ gt (by exact S) h
  | call c hd _ _ k ih =>
    intro Q E p s gt S h
    obtain ⟨r, s', hr, h⟩ := h
    obtain ⟨g1, r1, S1⟩ := returns_dim hr S
    exact ⟨r, _, r1, ih r Q E p s' g1 S1 h⟩
  | handled own k ih => intro Q E p s gt S h; exact ih _ Q E p s gt (by exact S) h
  | genState g k ih =>
    intro Q E p s gt S h
    obtain ⟨st, hs, h⟩ := h
    obtain ⟨y, hy, e⟩ := S.seen hs
    exact ⟨y, hy, by rw [e]; exact ih _ Q E p s gt (by exact S) h⟩
  | newGen c k ih =>
    intro Q E p s gt S h
    have q := ih _ Q E p _ _ (S.push c) h
    rw [S.size] at q
    exact q
  | resume g r _ k ih =>
    intro Q E p s gt S h
    obtain ⟨res, s', hw, h⟩ := h
    obtain ⟨g1, r1, S1⟩ := wakes_dim hw S
    exact ⟨res, _, r1, ih res Q E p s' g1 S1 h⟩
  | yield _ _ _ _ => intro Q E p s gt S h; exact h
  | stack k ih => intro Q E p s gt S h; exact ih _ Q E p s gt (by exact S) h
  | fork _ _ => intro Q E p s gt S h; exact h
  | thread k ih => intro Q E p s gt S h; exact ih _ Q E p s gt (by exact S) h
  | await _ _ _ _ _ => intro Q E p s gt S h; exact h

theorem dull_all (g : Array GenState) : AllBare (g.map dull) := fun y hy => by
  obtain ⟨z, _, e⟩ := Array.mem_map.mp hy
  rw [← e, dull_bare]
/-- what a quiet piece leaves of the table -/
structure Kp (s s' : Shared) : Prop where
  size : s.gens.size ≤ s'.gens.size
  old : ∀ (i : Nat) (y : GenState), s.gens[i]? = some y → isS y = true → s'.gens[i]? = some y
theorem Kp.refl (s : Shared) : Kp s s := ⟨Nat.le_refl _, fun _ _ e _ => e⟩
theorem Kp.trans {s s1 s2 : Shared} (h : Kp s s1) (g : Kp s1 s2) : Kp s s2 := ⟨Nat.le_trans h.size g.size, fun i y e q => g.old i y (h.old i y e q) q⟩
theorem Kp.of {s s' : Shared} (h : s'.gens = s.gens) : Kp s s' := ⟨by rw [h]; exact Nat.le_refl _, fun i y e _ => by rw [h]; exact e⟩
theorem Kp.ofDim {s s' : Shared} {gb : Array GenState} (S : Dim s.gens gb s'.gens) : Kp s s' := ⟨by rw [← S.size]; exact S.le, fun i y e z => (S.old i y e z).2⟩
abbrev Shared.dull (s : Shared) : Shared := { s with gens := s.gens.map YM.dull }
/-- a quiet piece, over any table -/
theorem TL.dim {P : Program} {w : World} {α : Type} {A : Around} {s : Shared} {G gb : Array GenState} {t : Sem α} {Q : α → Shared → Prop} {E : Value → Shared → Prop} (S : Dim G gb s.gens) (h : wpAny (model P w) A t Q E { s with gens := gb }) :
    TL P w A t (fun a s' => ∃ gb', Dim G gb' s'.gens ∧ Q a { s' with gens := gb' }) (fun e s' => ∃ gb', Dim G gb' s'.gens ∧ E e { s' with gens := gb' }) s :=
  .of fun Γ p hΓ => wp_dim (model P w) Γ G t _ _ p { s with gens := gb } s.gens S (h Γ p hΓ)
theorem TL.dull {P : Program} {w : World} {α : Type} {A : Around} {s : Shared} {t : Sem α} {Q : α → Shared → Prop} {E : Value → Shared → Prop} (h : wpAny (model P w) A t Q E (Shared.dull s)) :
    TL P w A t (fun a s' => ∃ gb', Dim s.gens gb' s'.gens ∧ Q a { s' with gens := gb' }) (fun e s' => ∃ gb', Dim s.gens gb' s'.gens ∧ E e { s' with gens := gb' }) s := .dim (Dim.start s.gens) h
theorem TC.dim {P : Program} {w : World} {A : Around} {c : Code} {R : Result → Shared → Prop} {s : Shared} {G gb : Array GenState} (S : Dim G gb s.gens) (h : codeAny (model P w) A c R { s with gens := gb }) : TC P w A c (fun r s' => ∃ gb', Dim G gb' s'.gens ∧ R r { s' with gens := gb' }) s :=
  .of fun Γ p hc hΓ => by
    obtain ⟨r, s', hr, hR⟩ := h Γ p hc hΓ
    obtain ⟨g1, r1, S1⟩ := returns_dim hr S
    exact ⟨r, { s' with gens := g1 }, r1, s'.gens, S1, hR⟩
end YM

namespace DL
open PySem PySem.Spec PyProof.Rows L2
def rdInDat (neg : Bool) : RD2
  | x, .lst ds, μ, Q => x.ic ∧ D.ics ds ∧ x.dp ≤ 50 ∧ Q (.bl (if neg then !(ds.any fun z => D.eqv z x) else ds.any fun z => D.eqv z x)) μ
  | _, _, _, _ => False
@[simp] theorem rdInDat_1 (neg : Bool) {x : D} {ds : List D} {μ : Sto} {Q : DK} : rdInDat neg x (.lst ds) μ Q = (x.ic ∧ D.ics ds ∧ x.dp ≤ 50 ∧ Q (.bl (if neg then !(ds.any fun z => D.eqv z x) else ds.any fun z => D.eqv z x)) μ) := rfl
end DL

namespace DL
open PySem PySem.Spec PyProof.Rows L2 PySem.W PySem.Calls
section
open Builtin Builtin.ObjectAttr
variable {prog : Program} {w : World} {A : Around} {R : Result → Shared → Prop} {hp : Heap} {g : Array GenState} {d : Drawn} {t : Nat} {os : OsState}
end
def iS (f : Str) : Scope := { kind := .function, names := [(PySem.Str.ofString "self", .local), (f, .local)], isGenerator := false, isCoroutine := false, more := [] }
section
variable {prog : Program} {w : World} {A : Around} {R : Result → Shared → Prop} {s : Shared} {K : Frag} {mg : Str → Option Value} {C fI : Addr} {x f : Str} {B newId initId : String} {bmB : List Value}
end
section
variable {X : Cx} {C fI : Addr} {x f : Str} {B newId initId : String} {bmB : List Value}
end
end DL

namespace DL
open PySem PySem.Spec PyProof.Rows L2
/-- an exception that is made, over data -/
abbrev TXD := DEnv → Sto → DXK → Prop
@[simp] def dMkF (c f : Str) (t : TAD) : TXD := fun ρ μ Q => t ρ μ fun ds μ1 => match ds with
  | [d] => Q c [(f, d)] μ1
  | _ => False
@[simp] def dMk0 (c : Str) : TXD := fun _ μ Q => Q c [] μ
section
variable {X : Cx} {x f : Str} {k : Nat} {a e : Expr} {t : TAD} {d : TXD} {p pos : Pos} {B : Bs}
theorem XDo.mono {K : PySem.W.Frag} {mg : Str → Option Value} {H0 H1 F H : Hp} {μ : Sto} {cv : Value} {od : Option Addr} {c : Str} {fs : List (Str × D)} (h : ∀ a, H1 a = none → H0 a = none) (x : XDo K mg H1 F μ H cv od c fs) : XDo K mg H0 F μ H cv od c fs := by
  obtain ⟨C, h1, h2, h3⟩ := x
  refine ⟨C, h1, h2, ?_⟩
  rcases h3 with h3 | ⟨d, vfs, a1, a2, a3, a4⟩
  · exact .inl h3
  · exact .inr ⟨d, vfs, a1, a2, h d a3, a4⟩
theorem XD.mono {K : PySem.W.Frag} {mg : Str → Option Value} {H0 H1 F H : Hp} {μ : Sto} {cv : Value} {od : Option Addr} {c : Str} {fs : List (Str × D)} (h : ∀ a, H1 a = none → H0 a = none) (x : XD K mg H1 F μ H cv od c fs) : XD K mg H0 F μ H cv od c fs := x.imp (XDo.mono h) id
theorem XD.own {K : PySem.W.Frag} {mg : Str → Option Value} {H1 F H : Hp} {μ : Sto} {cv : Value} {od : Option Addr} {c : Str} {fs : List (Str × D)} (x : XD K mg H1 F μ H cv od c fs) (h : bootBuiltins c = none) : XDo K mg H1 F μ H cv od c fs := by
  rcases x with x | ⟨T, _, _, e, _⟩
  · exact x
  · rw [h] at e; cases e
/-- what is wished of an exception, at the slots -/
def liftWX (K : PySem.W.Frag) (mg : Str → Option Value) (B : Bs) (W : DEnv → DXK) : WX := fun cv od σ H => ∃ F ρ μ c fs, RelB K mg B F ρ μ σ H ∧ XD K mg B.H F μ H cv od c fs ∧ W ρ c fs μ
@[simp] def dRaise (d : TXD) (W : DEnv → DXK) : TSD := fun _ ρ μ => d ρ μ (W ρ)
end
section
variable {P : Program} {w : World} {K : PySem.W.Frag} {mg : Str → Option Value} {base : Heap} {k n : Nat} {f : Addr} {fd : FuncData} {ps : List Str} {S : DSp}
end
section
variable {X : Cx} {x : Str} {k : Nat} {a b e : Expr} {es : List Expr} {t : TAD} {tt : TTD} {d da db : TED} {p pos : Pos} {B : Bs} {S : DSp} {W : DEnv → DXK}
@[simp] def dCallX (S : DSp) (t : TAD) (W : DEnv → DXK) : TED := fun ρ μ Q => t ρ μ fun ds μ1 => S ds μ1 Q (W ρ)
@[simp] def dExprX (d : TED) : TSD := fun D ρ μ => d ρ μ fun _ μ1 => D.nx ρ μ1
end
end DL

namespace DL
open PySem PySem.Spec PyProof.Rows L2
/-- the exception's own dict, in the store and out of it -/
def sdel (μ : Sto) (a : Addr) : Sto := fun b => if b = a then none else μ b
def excU (od : Option Addr) (μ : Sto) : Sto := match od with
  | none => μ
  | some d => sdel μ d
section
variable {K : PySem.W.Frag} {mg : Str → Option Value} {B : Bs} {F F' H H' : Hp} {μ μ' : Sto} {ρ : DEnv} {σ : L2.St}
theorem RelB.excU {od : Option Addr} (r : RelB K mg B F ρ μ σ H) : RelB K mg B F ρ (excU od μ) σ H := by
  cases od with
  | none => exact r
  | some d =>
    have le : ∀ {a : Addr}, μ a = none → sdel μ d a = none := fun {a} h => by
      unfold sdel
      split
      · rfl
      · exact h
    have ge : ∀ {a : Addr} {m : MO}, sdel μ d a = some m → μ a = some m := fun {a m} h => by
      unfold sdel at h
      split at h
      · cases h
      · exact h
    refine ⟨⟨⟨r.rel.ok.sub, fun a m e => r.rel.ok.dis a m (ge e), fun a m e => r.rel.ok.sto a m (ge e)⟩, r.rel.len, fun i s e => ?_, r.rel.apart⟩, ⟨r.ext.mono, fun a o e n => ?_, r.ext.live⟩, r.new⟩
    · obtain ⟨v, g1, g2⟩ := r.rel.slot i s e
      refine ⟨v, g1, ?_⟩
      cases s with
      | val d' => exact g2
      | own xs =>
        obtain ⟨a, vs, q1, q2, q3, q4, q5⟩ := g2
        exact ⟨a, vs, q1, q2, le q3, q4, q5⟩
    · obtain ⟨g1, g2, g3⟩ := r.ext.keep a o e n
      exact ⟨g1, g2, le g3⟩
/-- the base of a try: what never changes is that of now -/
theorem RelB.here (r : RelB K mg B F ρ μ σ H) : RelB K mg ⟨F, B.μ, B.H⟩ F ρ μ σ H :=
  ⟨r.rel, ⟨fun _ _ e => e, fun a o e n => ⟨(r.ext.keep a o e n).1, rfl, (r.ext.keep a o e n).2.2⟩, r.ext.live⟩, r.new⟩
theorem ext_back {F0 : Hp} {μ0 : Sto} {H0 : Hp} (r : Ext F0 μ0 H0 F μ H) {F1 : Hp} {μ1 : Sto} {H1 : Hp} (e : Ext F μ0 H0 F1 μ1 H1) : Ext F0 μ0 H0 F1 μ1 H1 :=
  ⟨fun a o h => e.mono a o (r.mono a o h), fun a o h n => by
    obtain ⟨g1, g2, g3⟩ := e.keep a o h n
    exact ⟨g1, g2.trans (r.keep a o h n).2.1, g3⟩, e.live⟩
theorem RelB.back {μ1 : Sto} {F1 H1 : Hp} {ρ1 : DEnv} {σ1 : L2.St} (r : RelB K mg B F ρ μ σ H) (q : RelB K mg ⟨F, B.μ, B.H⟩ F1 ρ1 μ1 σ1 H1) : RelB K mg B F1 ρ1 μ1 σ1 H1 := ⟨q.rel, ext_back r.ext q.ext, q.new⟩
end
/-- the ends of an except suite -/
def exD (i : Nat) (od : Option Addr) (E : DEnds) : DEnds := { nx := fun ρ μ => E.nx (ρ.set i none) (excU od μ), rt := fun d μ => E.rt d (excU od μ), bk := fun ρ μ => E.bk (ρ.set i none) (excU od μ), ct := fun ρ μ => E.ct (ρ.set i none) (excU od μ) }
@[simp] theorem exD_rt {i : Nat} {od : Option Addr} {E : DEnds} {d : D} {μ : Sto} : (exD i od E).rt d μ = E.rt d (excU od μ) := rfl
@[simp] theorem exD_nx {i : Nat} {od : Option Addr} {E : DEnds} {ρ : DEnv} {μ : Sto} : (exD i od E).nx ρ μ = E.nx (ρ.set i none) (excU od μ) := rfl
section
variable {X : Cx} {B : Bs} {x n : Str} {cv : Value} {i : Nat} {body suite : List Stmt} {b₀ : Stmt} {np pos pos' : Pos} {cat : Str → Option Bool} {tb : (DEnv → DXK) → TSD} {ts : Addr → Option Addr → Str → TSD} {Wout : DEnv → DXK}
end
end DL

namespace DL
open PySem PySem.Spec PyProof.Rows L2
structure XTab where
  own : List (Str × Str × Bool)
  blt : List (Str × String × Bool)
def XTab.get (T : XTab) (c q : Str) : Option Bool := (T.own.find? fun z => decide (z.1 = c) && decide (z.2.1 = q)).map (·.2.2)
def XTab.getT (T : XTab) (c : Str) (t : String) : Option Bool := (T.blt.find? fun z => decide (z.1 = c) && decide (z.2.1 = t)).map (·.2.2)
def isCls : D → Bool
  | .gl _ => true
  | .ty _ => true
  | _ => false
def XTab.any (T : XTab) (c : Str) : List D → Option Bool
  | [] => some false
  | .gl q :: r => match T.get c q with
    | some true => if r.all isCls then some true else none
    | some false => T.any c r
    | none => none
  | .ty t :: r => match T.getT c t with
    | some true => if r.all isCls then some true else none
    | some false => T.any c r
    | none => none
  | _ :: _ => none
structure XTabOk (K : PySem.W.Frag) (mg : Str → Option Value) (T : XTab) : Prop where
  own : ∀ z ∈ T.own, ∃ C Q, mg z.1 = some (.ref C) ∧ mg z.2.1 = some (.ref Q) ∧ PySem.W.kitOne K (.ref C) (.ref Q) = some z.2.2 ∧ PySem.W.exmOne K (.ref C) (.ref Q) = some z.2.2 ∧ ExcC K C
  blt : ∀ z ∈ T.blt, ∃ C, mg z.1 = some (.ref C) ∧ PySem.W.kitOne K (.ref C) (.type z.2.1) = some z.2.2 ∧ ExcC K C
section
variable {K : PySem.W.Frag} {mg : Str → Option Value} {T : XTab} {c q : Str} {t : String} {b : Bool} {C : Addr}
theorem XTabOk.get (h : XTabOk K mg T) (e : T.get c q = some b) (hc : mg c = some (.ref C)) : ∃ Q, mg q = some (.ref Q) ∧ PySem.W.kitOne K (.ref C) (.ref Q) = some b ∧ PySem.W.exmOne K (.ref C) (.ref Q) = some b ∧ ExcC K C := by
  unfold XTab.get at e
  obtain ⟨z, hz, rfl⟩ := Option.map_eq_some_iff.mp e
  have hm := List.mem_of_find?_eq_some hz
  have hp := List.find?_some hz
  rw [Bool.and_eq_true, decide_eq_true_eq, decide_eq_true_eq] at hp
  obtain ⟨rfl, rfl⟩ := hp
  obtain ⟨C', Q, h1, h2, h3⟩ := h.own z hm
  rw [hc] at h1
  cases h1
  exact ⟨Q, h2, h3⟩
theorem XTabOk.getT (h : XTabOk K mg T) (e : T.getT c t = some b) (hc : mg c = some (.ref C)) : PySem.W.kitOne K (.ref C) (.type t) = some b ∧ ExcC K C := by
  unfold XTab.getT at e
  obtain ⟨z, hz, rfl⟩ := Option.map_eq_some_iff.mp e
  have hm := List.mem_of_find?_eq_some hz
  have hp := List.find?_some hz
  rw [Bool.and_eq_true, decide_eq_true_eq, decide_eq_true_eq] at hp
  obtain ⟨rfl, rfl⟩ := hp
  obtain ⟨C', h1, h3⟩ := h.blt z hm
  rw [hc] at h1
  cases h1
  exact h3
theorem clsV_of {F : Hp} {v : V} {d : D} (h : isCls d = true) (r : Dt K mg F v d) : ∃ u, ClsV v u := by
  cases r <;> first | exact (Bool.false_ne_true h).elim | skip
  · exact ⟨_, .ty _⟩
  · exact ⟨_, .own _⟩
theorem clsVs_of {F : Hp} : ∀ {vs : List V} {ds : List D}, ds.all isCls = true → Dts K mg F vs ds → ∃ us, Paired ClsV vs us
  | _, _, _, .nil => ⟨[], .nil⟩
  | _, _, h, .cons r rs => by
    rw [List.all_cons, Bool.and_eq_true] at h
    obtain ⟨u, hu⟩ := clsV_of h.1 r
    obtain ⟨us, hus⟩ := clsVs_of h.2 rs
    exact ⟨u :: us, .cons hu hus⟩
theorem XTabOk.any (h : XTabOk K mg T) (hc : mg c = some (.ref C)) {F : Hp} : ∀ (ds : List D) (vs : List V) (b : Bool), T.any c ds = some b → Dts K mg F vs ds → ∃ us, Paired ClsV vs us ∧ PySem.W.kitAny K (.ref C) us = some b
  | [], vs, b, e, r => by
    cases r
    cases e
    exact ⟨[], .nil, rfl⟩
  | d :: ds, vs, b, e, r => by
    cases r with
    | cons r rs =>
      rename_i v vs
      have key : ∀ (g : Option Bool) (u : Value), (match g with | some true => if ds.all isCls then some true else none | some false => T.any c ds | none => none) = some b → ClsV v u → (∀ b', g = some b' → PySem.W.kitOne K (.ref C) u = some b') → ∃ us, Paired ClsV (v :: vs) us ∧ PySem.W.kitAny K (.ref C) us = some b := fun g u e hu hk => by
        match g, e, hk with
        | some true, e, hk =>
          dsimp only at e
          split at e
          · rename_i ha
            cases e
            obtain ⟨us, hus⟩ := clsVs_of ha rs
            exact ⟨u :: us, .cons hu hus, by unfold PySem.W.kitAny; rw [hk true rfl]⟩
          · cases e
        | some false, e, hk =>
          obtain ⟨us, hus, hka⟩ := XTabOk.any h hc ds vs b e rs
          exact ⟨u :: us, .cons hu hus, by unfold PySem.W.kitAny; rw [hk false rfl]; exact hka⟩
        | none, e, hk => cases e
      cases d <;> first | cases e; done | skip
      · rename_i n
        cases r
        exact key (T.getT c n) _ e (.ty n) fun b' hb => (h.getT hb hc).1
      · rename_i x
        cases r
        rename_i a ha
        refine key (T.get c x) _ e (.own a) fun b' hb => ?_
        obtain ⟨Q, h1, h2, _⟩ := h.get hb hc
        rw [ha] at h1
        cases h1
        exact h2
end
/-- the exception's dict is in the store -/
def excHas (od : Option Addr) (μ : Sto) : Prop := match od with
  | none => True
  | some d => ∃ fs, μ d = some (.xd fs)
def rdIsX (a : Addr) (od : Option Addr) (c : Str) (T : XTab) : RDn
  | [.ref x, .gl q], μ, Q => x = a ∧ excHas od μ ∧ ∃ b, T.get c q = some b ∧ Q (.bl b) μ
  | [.ref x, .ty t], μ, Q => x = a ∧ excHas od μ ∧ ∃ b, T.getT c t = some b ∧ Q (.bl b) μ
  | [.ref x, .tup cs], μ, Q => x = a ∧ cs ≠ [] ∧ excHas od μ ∧ ∃ b, T.any c cs = some b ∧ Q (.bl b) μ
  | _, _, _ => False
@[simp] theorem rdIsX_1 {a x : Addr} {od : Option Addr} {c q : Str} {T : XTab} {μ : Sto} {Q : DK} : rdIsX a od c T [.ref x, .gl q] μ Q = (x = a ∧ excHas od μ ∧ ∃ b, T.get c q = some b ∧ Q (.bl b) μ) := rfl
@[simp] theorem rdIsX_2 {a x : Addr} {od : Option Addr} {c : Str} {t : String} {T : XTab} {μ : Sto} {Q : DK} : rdIsX a od c T [.ref x, .ty t] μ Q = (x = a ∧ excHas od μ ∧ ∃ b, T.getT c t = some b ∧ Q (.bl b) μ) := rfl
@[simp] theorem rdIsX_3 {a x : Addr} {od : Option Addr} {c : Str} {cs : List D} {T : XTab} {μ : Sto} {Q : DK} : rdIsX a od c T [.ref x, .tup cs] μ Q = (x = a ∧ cs ≠ [] ∧ excHas od μ ∧ ∃ b, T.any c cs = some b ∧ Q (.bl b) μ) := rfl
section
variable {X : Cx} {a C : Addr} {od : Option Addr} {oe : Obj} {pn : List (Addr × Obj)} {x f c : Str} {e : Expr} {d : TED} {p pos : Pos}
/-- e.f, e the exception that the suite holds -/
@[simp] def dXf (a : Addr) (od : Option Addr) (c cB f : Str) (d : TED) : TED := fun ρ μ Q => d ρ μ fun x μ1 => x = .ref a ∧ c = cB ∧ ∃ dd fs v, od = some dd ∧ μ1 dd = some (.xd fs) ∧ fs.lookup f = some v ∧ Q v μ1
end
end DL

namespace DL
open PySem PySem.Spec PyProof.Rows L2
section
variable {P : Program} {w : World} {K : PySem.W.Frag} {mg : Str → Option Value} {base : Heap} {k : Nat} {f : Addr} {ps : List Str} {S : DSp}
end
section
variable {K : PySem.W.Frag} {mg : Str → Option Value} {C Q : Addr} {b : Bool}
end
section
theorem takesN {X : Cx} : Takes X (fun _ _ _ _ => False) := fun _ _ x => by
  obtain ⟨_, _, _, _, _, _, _, _, _, _, _, _, _, _, _, _, z⟩ := x
  exact z.elim
variable {X : Cx} {x : Str} {k : Nat} {e : Expr} {es : List Expr} {t : TAD} {p pos : Pos} {S : DSp}
end
end DL

namespace DL
open PySem PySem.Spec PyProof.Rows L2
section
variable {X : Cx} {B : Bs} {i j : Nat} {a b : Expr} {da db : TRD} {pos : Pos} {kt k2 : Nat}
end
end DL

namespace DL
open PySem PySem.Spec PyProof.Rows L2
def keyPy : Key → PyData
  | .inl i => .int i
  | .inr s => .str s
mutual
/-- data at a value, dicts with them -/
inductive Dq (K : PySem.W.Frag) (H : Hp) : V → PyData → Prop
  | non : Dq K H .non .none
  | bl (b : Bool) : Dq K H (.bl b) (.bool b)
  | int (i : Int) : Dq K H (.int i) (.int i)
  | str (x : Str) : Dq K H (.str x) (.str x)
  | lst {a : Addr} {xs : List V} {ds : List PyData} : SqL K H a xs → DqAll K H xs ds → Dq K H (.ref a) (.list ds)
  | tup {a : Addr} {xs : List V} {ds : List PyData} : SqT K H a xs → DqAll K H xs ds → Dq K H (.ref a) (.tuple ds)
  | dct {a : Addr} {kvs : List (Key × V)} {ds : List (PyData × PyData)} : H a = some (.dK kvs) → DqKv K H kvs ds → Dq K H (.ref a) (.dict ds)
inductive DqAll (K : PySem.W.Frag) (H : Hp) : List V → List PyData → Prop
  | nil : DqAll K H [] []
  | cons {v : V} {vs : List V} {d : PyData} {ds : List PyData} : Dq K H v d → DqAll K H vs ds → DqAll K H (v :: vs) (d :: ds)
inductive DqKv (K : PySem.W.Frag) (H : Hp) : List (Key × V) → List (PyData × PyData) → Prop
  | nil : DqKv K H [] []
  | cons {k : Key} {v : V} {kvs : List (Key × V)} {d : PyData} {ds : List (PyData × PyData)} : Dq K H v d → DqKv K H kvs ds → DqKv K H ((k, v) :: kvs) ((keyPy k, d) :: ds)
end
section
variable {X : Cx} {pins : List (Addr × Obj)} {σ : L2.St} {H : Hp} {s : Shared}
theorem keys_read {P : Program} {w : World} {h : Heap} : ∀ {es : List DictEntry} {kvs : List (Key × Value)}, Pairs (mixKind P w) es kvs → ReadsAll h (es.map (·.key)) (kvs.map fun kv => keyPy kv.1) []
  | _, _, .nil => .nil
  | _, _, .cons (e := e) (kv := kv) h1 _ r => by
    have ih := keys_read (h := h) r
    have one : Reads h e.key (keyPy kv.1) [] := by
      obtain ⟨k, v⟩ := kv
      rcases keyIs_shape h1 with ⟨i, t, e1, e2⟩ | ⟨x, t, e1, e2⟩
      · dsimp only at e1
        subst e1
        rw [e2]
        exact .int i t
      · dsimp only at e1
        subst e1
        rw [e2]
        exact .str x t
    exact .cons (as := []) (bs := []) one ih
theorem vals_are {P : Program} {w : World} : ∀ {es : List DictEntry} {kvs : List (Key × Value)}, Pairs (mixKind P w) es kvs → es.map (·.val) = kvs.map (·.2)
  | _, _, .nil => rfl
  | _, _, .cons _ h2 r => by rw [List.map_cons, List.map_cons, h2, vals_are r]
/-- what is read of a value, and how it is shown -/
def RP (P : Program) (w : World) (h : Heap) (v : Value) (d : PyData) : Prop := ∃ as bs, Reads h v d as ∧ ReadAtMost h d.depth bs ∧ ReprK P w bs h d.depth v d.shown
def RPA (P : Program) (w : World) (h : Heap) (vs : List Value) (ds : List PyData) : Prop := ∃ as bs, ReadsAll h vs ds as ∧ ReadAtMost h (PyData.depthAll ds) bs ∧ ReprAllK P w bs h (PyData.depthAll ds) vs (PyData.shownAll ds)
theorem rp_flat {P : Program} {w : World} {h : Heap} {v : Value} {d : PyData} (r : Reads h v d []) (hs : d.showable = true) (hz : d.shown.length ≤ sizeLine) : RP P w h v d := by
  obtain ⟨bs, h1, h2⟩ := ReprK.of_reads (prog := P) (w := w) r hs (fun _ z => nomatch z) hz
  exact ⟨[], bs, r, h1, h2⟩
theorem rpa_nil {P : Program} {w : World} {h : Heap} : RPA P w h [] [] := ⟨[], [], .nil, (fun _ z => nomatch z), .nil⟩
theorem rpa_cons {P : Program} {w : World} {h : Heap} {v : Value} {vs : List Value} {d : PyData} {ds : List PyData} (r : RP P w h v d) (rs : RPA P w h vs ds) : RPA P w h (v :: vs) (d :: ds) := by
  obtain ⟨as, b1, q1, m1, k1⟩ := r
  obtain ⟨cs, b2, q2, m2, k2⟩ := rs
  have l1 : d.depth ≤ PyData.depthAll (d :: ds) := Nat.le_max_left _ _
  have l2 : PyData.depthAll ds ≤ PyData.depthAll (d :: ds) := Nat.le_max_right _ _
  exact ⟨as ++ cs, b1 ++ b2, .cons q1 q2, (m1.mono l1).append (m2.mono l2), .cons ((k1.more fun b z => List.mem_append_left _ z).level_le l1) (k2.more_le (fun b z => List.mem_append_right _ z) l2)⟩
theorem deeper {h : Heap} {a : Addr} {d : PyData} {as bs : List Addr} {n : Nat} (r : Reads h (.ref a) d as) (hn : n < d.depth) (m : ReadAtMost h n bs) : a ∉ bs := not_mem_of_deeper r hn m
theorem rp_list {P : Program} {w : World} {h : Heap} {a : Addr} {o : Obj} {vs : Array Value} {n : Nat} {ds : List PyData} (h1 : h.get? a = some o) (h2 : o.cls = .type "list") (h3 : o.data = .seq vs n) (rs : RPA P w h vs.toList ds) : RP P w h (.ref a) (.list ds) := by
  obtain ⟨as, bs, q, m, k⟩ := rs
  have r : Reads h (.ref a) (.list ds) (a :: as) := Reads.list h1 h2 h3 q
  have lt : PyData.depthAll ds < (PyData.list ds).depth := by show _ < PyData.depthAll ds + 1; omega
  have hna := deeper r lt m
  refine ⟨_, a :: bs, r, ReadAtMost.cons r (Nat.le_refl _) (m.mono (Nat.le_of_lt lt)), ?_⟩
  show ReprK P w (a :: bs) h (PyData.depthAll ds + 1) (.ref a) (listText (PyData.shownAll ds))
  obtain ⟨l⟩ := vs
  cases l with
  | nil =>
    cases (show ReadsAll h [] ds as from q)
    show ReprK P w (a :: bs) h _ (.ref a) (listText [])
    rw [listText_nil]; exact ReprK.listEmpty h1 h2 h3
  | cons x l => exact ReprK.list h1 h2 h3 hna (by simpa using k.length_eq) fun i y e => k.item i y (by simpa using e)
theorem rp_tuple {P : Program} {w : World} {h : Heap} {a : Addr} {o : Obj} {vs : Array Value} {n : Nat} {ds : List PyData} (h1 : h.get? a = some o) (h2 : o.cls = .type "tuple") (h3 : o.data = .seq vs n) (rs : RPA P w h vs.toList ds) : RP P w h (.ref a) (.tuple ds) := by
  obtain ⟨as, bs, q, m, k⟩ := rs
  have r : Reads h (.ref a) (.tuple ds) as := Reads.tuple h1 h2 h3 q
  have lt : PyData.depthAll ds < (PyData.tuple ds).depth := by show _ < PyData.depthAll ds + 1; omega
  have hna := deeper r lt m
  exact ⟨_, a :: bs, r, ReadAtMost.cons r (Nat.le_refl _) (m.mono (Nat.le_of_lt lt)), ReprK.tuple h1 h2 h3 hna k⟩
theorem rp_dict {P : Program} {w : World} {h : Heap} {a : Addr} {o : Obj} {es : Array DictEntry} {n : Nat} {kvs : List (PyData × PyData)} (h1 : h.get? a = some o) (h2 : o.cls = .type "dict") (h3 : o.data = .dict es n) (hn : (a == sysModules) = false)
    (rk : RPA P w h (es.toList.map (·.key)) (kvs.map (·.1))) (rv : RPA P w h (es.toList.map (·.val)) (kvs.map (·.2))) : RP P w h (.ref a) (.dict kvs) := by
  obtain ⟨as, b1, q1, m1, k1⟩ := rk
  obtain ⟨cs, b2, q2, m2, k2⟩ := rv
  have r : Reads h (.ref a) (.dict kvs) (a :: as ++ cs) := Reads.dict h1 h2 h3 q1 q2
  have lt : PyData.depthKv kvs < (PyData.dict kvs).depth := by show _ < PyData.depthKv kvs + 1; omega
  have m := (m1.mono (PyData.depthAll_keys_le kvs)).append (m2.mono (PyData.depthAll_vals_le kvs))
  have hna := deeper r lt m
  refine ⟨_, a :: (b1 ++ b2), r, ReadAtMost.cons r (Nat.le_refl _) (m.mono (Nat.le_of_lt lt)), ?_⟩
  show ReprK P w (a :: (b1 ++ b2)) h (PyData.depthKv kvs + 1) (.ref a) (dictText (PyData.shownKv kvs))
  rw [PyData.shownKv_eq]
  exact ReprK.dict h1 h2 h3 hn hna (ReprEntriesK.of_two es.toList _ _ (k1.more_le (fun b z => List.mem_append_left _ z) (PyData.depthAll_keys_le kvs)) (k2.more_le (fun b z => List.mem_append_right _ z) (PyData.depthAll_vals_le kvs)))
/-- texts of texts are small -/
def Fits (d : PyData) : Prop := d.showable = true ∧ d.shown.length ≤ sizeLine
def FitsAll (ds : List PyData) : Prop := PyData.showableAll ds = true ∧ ∀ t ∈ PyData.shownAll ds, t.length ≤ sizeLine
theorem Fits.list {ds : List PyData} (h : Fits (.list ds)) : FitsAll ds := ⟨h.1, fun t ht => Nat.le_trans (listText_mem_le ht) h.2⟩
theorem Fits.tuple {ds : List PyData} (h : Fits (.tuple ds)) : FitsAll ds := ⟨h.1, fun t ht => Nat.le_trans (tupleText_mem_le ht) h.2⟩
theorem FitsAll.head {d : PyData} {ds : List PyData} (h : FitsAll (d :: ds)) : Fits d := ⟨(Bool.and_eq_true_iff.mp h.1).1, h.2 _ (List.mem_cons_self ..)⟩
theorem FitsAll.tail {d : PyData} {ds : List PyData} (h : FitsAll (d :: ds)) : FitsAll ds := ⟨(Bool.and_eq_true_iff.mp h.1).2, fun t ht => h.2 t (List.mem_cons_of_mem _ ht)⟩
theorem Fits.dict {kvs : List (PyData × PyData)} (h : Fits (.dict kvs)) : FitsAll (kvs.map (·.1)) ∧ FitsAll (kvs.map (·.2)) := by
  obtain ⟨a, b⟩ := PyData.showableKv_split kvs h.1
  refine ⟨⟨a, fun t ht => ?_⟩, b, fun t ht => ?_⟩
  · obtain ⟨p, hp, hl⟩ := PyData.shownKv_key_le kvs t ht
    exact Nat.le_trans hl (Nat.le_trans (dictText_mem_le hp) h.2)
  · obtain ⟨p, hp, hl⟩ := PyData.shownKv_val_le kvs t ht
    exact Nat.le_trans hl (Nat.le_trans (dictText_mem_le hp) h.2)
theorem rpa_keys {P : Program} {w : World} {h : Heap} : ∀ {ks : List Value} {ds : List PyData}, ReadsAll h ks ds [] → FitsAll ds → RPA P w h ks ds := fun {ks ds} r f => by
  obtain ⟨bs, h1, h2⟩ := ReprAllK.of_readsAll (prog := P) (w := w) r f.1 (fun _ z => nomatch z) f.2
  exact ⟨[], bs, r, h1, h2⟩
mutual
theorem Dq.rp (I : Inv X pins σ H s) : ∀ (d : PyData) (v : V) (u : Value), Dq X.K H v d → RelV v u → Fits d → RP X.prog X.w s.heap u d
  | .none, _, _, h, r, f => by
    cases h
    cases r
    exact rp_flat .none f.1 f.2
  | .bool b, _, _, h, r, f => by
    cases h
    cases r
    exact rp_flat (.bool b) f.1 f.2
  | .int i, _, _, h, r, f => by
    cases h
    obtain ⟨t, rfl⟩ := r
    exact rp_flat (.int i t) f.1 f.2
  | .str x, _, _, h, r, f => by
    cases h
    obtain ⟨t, rfl⟩ := r
    exact rp_flat (.str x t) f.1 f.2
  | .list ds, _, _, h, r, f => by
    cases h with
    | lst hs ha =>
      cases r
      obtain ⟨its, rv, ⟨o, n, ho, hc, _, hd⟩, _⟩ := I.list hs
      exact rp_list ho hc hd (by simpa using Dq.rpa I ds _ its ha rv f.list)
  | .tuple ds, _, _, h, r, f => by
    cases h with
    | tup hs ha =>
      cases r
      obtain ⟨its, rv, ⟨o, ho, hc, n, hd⟩, _⟩ := I.tuple hs
      exact rp_tuple ho hc hd (by simpa using Dq.rpa I ds _ its ha rv f.tuple)
  | .dict ds, _, _, h, r, f => by
    cases h with
    | dct he ha =>
      cases r
      obtain ⟨_, hns, vs, kv, o, es, ep, ho, hx, hd, hk, hp, _⟩ := dk_of I.hok he
      obtain ⟨ek, rv⟩ := Dq.rpv I ds _ vs ha kv f.dict.2
      have r1 := keys_read (h := s.heap) hp
      rw [ek] at r1
      exact rp_dict ho hx.1 hd hns (rpa_keys r1 f.dict.1) (by rw [vals_are hp]; exact rv)
theorem Dq.rpa (I : Inv X pins σ H s) : ∀ (ds : List PyData) (vs : List V) (us : List Value), DqAll X.K H vs ds → Vals vs us → FitsAll ds → RPA X.prog X.w s.heap us ds
  | [], _, _, h, r, f => by
    cases h
    cases r
    exact rpa_nil
  | d :: ds, _, _, h, r, f => by
    cases h with
    | cons h1 h2 =>
      cases r with
      | cons r1 r2 => exact rpa_cons (Dq.rp I d _ _ h1 r1 f.head) (Dq.rpa I ds _ _ h2 r2 f.tail)
theorem Dq.rpv (I : Inv X pins σ H s) : ∀ (ds : List (PyData × PyData)) (kvs : List (Key × V)) (vs : List (Key × Value)), DqKv X.K H kvs ds → KV kvs vs → FitsAll (ds.map (·.2)) → (vs.map fun kv => keyPy kv.1) = ds.map (·.1) ∧ RPA X.prog X.w s.heap (vs.map (·.2)) (ds.map (·.2))
  | [], _, _, h, r, f => by
    cases h
    cases r
    exact ⟨rfl, rpa_nil⟩
  | d :: ds, _, _, h, r, f => by
    cases h with
    | cons h1 h2 =>
      cases r with
      | cons r1 r2 =>
        obtain ⟨e2, q2⟩ := Dq.rpv I ds _ _ h2 r2 f.tail
        refine ⟨?_, rpa_cons (Dq.rp I _ _ _ h1 r1.2 f.head) q2⟩
        rw [List.map_cons, List.map_cons, e2, ← r1.1]
end
end
theorem shows_list {P : Program} {w : World} {h : Heap} {a : Addr} {o : Obj} {vs : Array Value} {n : Nat} {ds : List PyData} (h1 : h.get? a = some o) (h2 : o.cls = .type "list") (h3 : o.data = .seq vs n) (rs : RPA P w h vs.toList ds) (f : Fits (.list ds)) : ShowsBy P w h a (.list ds) "list" "list.__repr__" := by
  obtain ⟨as, bs, q, m, k⟩ := rs
  have lt : PyData.depthAll ds < (PyData.list ds).depth := by show _ < PyData.depthAll ds + 1; omega
  have hna := deeper (Reads.list h1 h2 h3 q) lt m
  refine ⟨F.slot_list_repr.toG, F.slot_list_str, F.slot_list_format, fun s hk => ⟨o, hk _ _ h1, h2⟩, fun A E s Q hg hu hk hQ => ?_⟩
  have hu' : A.units + (PyData.depthAll ds + 1) < cLine := hu
  obtain ⟨l⟩ := vs
  cases l with
  | nil =>
    cases (show ReadsAll h [] ds as from q)
    refine call_list_repr_empty ⟨o, hk _ _ h1, h2⟩ (hk _ _ h1) h3 ?_
    have := hQ s.heap
    rw [show (PyData.list []).shown = "[]" from listText_nil] at this
    exact this _ _ fun _ _ e => e
  | cons x l => exact call_list_reprK h1 h2 h3 hna (by simpa using k.length_eq) (fun i y e => k.item i y (by simpa using e)) hg (fun b _ => Clear.nil b) hu' hk hQ f.2
theorem shows_tuple {P : Program} {w : World} {h : Heap} {a : Addr} {o : Obj} {vs : Array Value} {n : Nat} {ds : List PyData} (h1 : h.get? a = some o) (h2 : o.cls = .type "tuple") (h3 : o.data = .seq vs n) (rs : RPA P w h vs.toList ds) (f : Fits (.tuple ds)) : ShowsBy P w h a (.tuple ds) "tuple" "tuple.__repr__" := by
  obtain ⟨as, bs, q, m, k⟩ := rs
  have lt : PyData.depthAll ds < (PyData.tuple ds).depth := by show _ < PyData.depthAll ds + 1; omega
  have hna := deeper (Reads.tuple h1 h2 h3 q) lt m
  exact ⟨F.slot_tuple_repr, F.slot_tuple_str, F.slot_tuple_format, fun s hk => ⟨o, hk _ _ h1, h2⟩, fun A E s Q hg hu hk hQ => call_tuple_reprK h1 h2 h3 hna k hg (fun b _ => Clear.nil b) (show A.units + (PyData.depthAll ds + 1) < cLine from hu) hk hQ f.2⟩
theorem shows_dict {P : Program} {w : World} {h : Heap} {a : Addr} {o : Obj} {es : Array DictEntry} {n : Nat} {kvs : List (PyData × PyData)} (h1 : h.get? a = some o) (h2 : o.cls = .type "dict") (h3 : o.data = .dict es n) (hn : (a == sysModules) = false)
    (rk : RPA P w h (es.toList.map (·.key)) (kvs.map (·.1))) (rv : RPA P w h (es.toList.map (·.val)) (kvs.map (·.2))) (f : Fits (.dict kvs)) : ShowsBy P w h a (.dict kvs) "dict" "dict.__repr__" := by
  obtain ⟨as, b1, q1, m1, k1⟩ := rk
  obtain ⟨cs, b2, q2, m2, k2⟩ := rv
  have lt : PyData.depthKv kvs < (PyData.dict kvs).depth := by show _ < PyData.depthKv kvs + 1; omega
  have hna := deeper (Reads.dict h1 h2 h3 q1 q2) lt ((m1.mono (PyData.depthAll_keys_le kvs)).append (m2.mono (PyData.depthAll_vals_le kvs)))
  refine ⟨F.slot_dict_repr, F.slot_dict_str, F.slot_dict_format, fun s hk => ⟨o, hk _ _ h1, h2⟩, fun A E s Q hg hu hk hQ => ?_⟩
  have hQ' : ∀ h' u tk, (∀ b o, s.heap.get? b = some o → h'.get? b = some o) → Q (.str (dictText (PyData.shownKv kvs)) u) { s with heap := h', toks := tk } := hQ
  have fz : (dictText (PyData.shownKv kvs)).length ≤ sizeLine := f.2
  rw [PyData.shownKv_eq] at hQ' fz
  exact call_dict_reprK h1 h2 h3 hn hna (ReprEntriesK.of_two es.toList _ _ (k1.more_le (fun b z => List.mem_append_left _ z) (PyData.depthAll_keys_le kvs)) (k2.more_le (fun b z => List.mem_append_right _ z) (PyData.depthAll_vals_le kvs))) hg (fun b _ => Clear.nil b) (show A.units + (PyData.depthKv kvs + 1) < cLine from hu) hk hQ' fz
section
variable {X : Cx} {pins : List (Addr × Obj)} {σ : L2.St} {H : Hp} {s : Shared}
theorem Dq.shows (I : Inv X pins σ H s) {d : PyData} {a : Addr} (h : Dq X.K H (.ref a) d) (f : Fits d) : ∃ T idr, ShowsBy X.prog X.w s.heap a d T idr := by
  cases h with
  | lst hs ha =>
    obtain ⟨its, rv, ⟨o, n, ho, hc, _, hd⟩, _⟩ := I.list hs
    exact ⟨_, _, shows_list ho hc hd (by simpa using Dq.rpa I _ _ its ha rv f.list) f⟩
  | tup hs ha =>
    obtain ⟨its, rv, ⟨o, ho, hc, n, hd⟩, _⟩ := I.tuple hs
    exact ⟨_, _, shows_tuple ho hc hd (by simpa using Dq.rpa I _ _ its ha rv f.tuple) f⟩
  | dct he ha =>
    obtain ⟨_, hns, vs, kv, o, es, ep, ho, hx, hd, hk, hp, _⟩ := dk_of I.hok he
    obtain ⟨ek, rv⟩ := Dq.rpv I _ _ vs ha kv f.dict.2
    have r1 := keys_read (h := s.heap) hp
    rw [ek] at r1
    exact ⟨_, _, shows_dict ho hx.1 hd hns (rpa_keys r1 f.dict.1) (by rw [vals_are hp]; exact rv) f⟩
end
mutual
def D.pyO : D → PyData
  | .non => .none
  | .bl b => .bool b
  | .int i => .int i
  | .str x => .str (S x)
  | .tup xs => .tuple (D.pysO xs)
  | .lst xs => .list (D.pysO xs)
  | .dct kvs => .dict (D.kvsO kvs)
  | _ => .none
def D.pysO : List D → List PyData
  | [] => []
  | x :: xs => x.pyO :: D.pysO xs
def D.kvsO : List (Key × D) → List (PyData × PyData)
  | [] => []
  | (k, v) :: r => (keyPy k, v.pyO) :: D.kvsO r
end
mutual
/-- plain data, dicts with them -/
def D.plain : D → Bool
  | .non => true
  | .bl _ => true
  | .int _ => true
  | .str _ => true
  | .tup xs => D.plains xs
  | .lst xs => D.plains xs
  | .dct kvs => D.plainKv kvs
  | _ => false
def D.plains : List D → Bool
  | [] => true
  | x :: xs => x.plain && D.plains xs
def D.plainKv : List (Key × D) → Bool
  | [] => true
  | (_, v) :: r => v.plain && D.plainKv r
end
section
variable {K : PySem.W.Frag} {mg : Str → Option Value} {F H : Hp} {μ : Sto}
end
/-- the text of repr -/
def D.repO (d : D) : List Nat := d.pyO.shown.cps.toList
def repOkB (d : D) : Bool := d.plain && d.pyO.showable && decide (d.pyO.depth ≤ 50) && decide (d.repO.length ≤ SZ)
def repOkO (d : D) : Prop := repOkB d = true
def rdReprO : RDn
  | [d], μ, Q => repOkO d ∧ Q (.str d.repO) μ
  | _, _, _ => False
@[simp] theorem rdReprO_1 {d : D} {μ : Sto} {Q : DK} : rdReprO [d] μ Q = (repOkO d ∧ Q (.str d.repO) μ) := rfl
section
variable {X : Cx} {pos : Pos}
end
end DL

namespace DL
open PySem PySem.Spec PyProof.Rows L2
structure Shx (t k : Nat) (d : D) : Prop where
  pl : d.plain = true
  sh : d.pyO.showable = true
  dp : d.pyO.depth ≤ k
  ln : d.pyO.shown.length ≤ t
theorem Shx.mono {t k t' k' : Nat} {d : D} (h : Shx t k d) (ht : t ≤ t') (hk : k ≤ k') : Shx t' k' d := ⟨h.pl, h.sh, Nat.le_trans h.dp hk, Nat.le_trans h.ln ht⟩
theorem Shx.rep {t k : Nat} {d : D} (h : Shx t k d) (ht : t ≤ 16777216) (hk : k ≤ 50) : repOkO d := by
  obtain ⟨a, b, c, e⟩ := h
  unfold repOkO repOkB D.repO
  have e3 : d.pyO.shown.cps.toList.length = d.pyO.shown.length := by simp [Str.length]
  simp only [Bool.and_eq_true, decide_eq_true_eq]
  rw [e3]
  exact ⟨⟨⟨a, b⟩, by omega⟩, by show _ ≤ 16777216; omega⟩
end DL

namespace DL
open PySem PySem.Spec PyProof.Rows L2
section
variable {prog : Program} {w : World} {A : Around} {E : Value → Shared → Prop} {s : Shared}
end
section
variable {X : Cx} {e : Expr} {d : TED} {p pos : Pos}
@[simp] def dRevT (d : TED) : TED := fun ρ μ Q => d ρ μ fun x μ1 => match x with
  | .tup xs => Q (.tup xs.reverse) μ1
  | _ => False
def rdListS : RDn
  | [.str s], μ, Q => s.length ≤ SZ ∧ Q (.lst (strD s)) μ
  | _, _, _ => False
@[simp] theorem rdListS_1 {s : List Nat} {μ : Sto} {Q : DK} : rdListS [.str s] μ Q = (s.length ≤ SZ ∧ Q (.lst (strD s)) μ) := rfl
def lrOk (i j : Int) : Prop := 0 ≤ i ∧ i ≤ 16777216 ∧ 0 ≤ j ∧ j ≤ 16777216
@[simp] def dLRngF (d : TED) : TFD := fun ρ μ Q => d ρ μ fun x μ1 => match x with
  | .int j => lrOk 0 j ∧ Q (rngD 0 j.toNat) μ1
  | _ => False
@[simp] def dTRng (d : TED) : TED := fun ρ μ Q => d ρ μ fun x μ1 => match x with
  | .int j => lrOk 0 j ∧ Q (.tup (rngD 0 j.toNat)) μ1
  | _ => False
end
end DL

namespace DL
open PySem PySem.Spec PyProof.Rows L2
section
variable {X : Cx} {a : Expr} {p p2 q pos : Pos} {d : TED}
@[simp] def dSortSetF (d : TED) : TFD := fun ρ μ Q => d ρ μ fun x μ1 => match x with
  | .tup xs => ∃ ns : List Int, xs = ns.map D.int ∧ ns.length < 60 ∧ ∀ out : List Int, out.Pairwise (· < ·) → (∀ k, k ∈ out ↔ k ∈ ns) → Q (out.map D.int) μ1
  | _ => False
@[simp] def dLenSet (d : TED) : TED := fun ρ μ Q => d ρ μ fun x μ1 => match x with
  | .tup xs => ∃ ns : List Int, xs = ns.map D.int ∧ ns.length < 60 ∧ ∀ out : List Int, out.Nodup → (∀ k, k ∈ out ↔ k ∈ ns) → Q (.int out.length) μ1
  | _ => False
end
section
variable {X : Cx}
def rdNilC (f : Bool → Bool) : RD2
  | .lst xs, .lst ys, μ, Q => ys = [] ∧ Q (.bl (f xs.isEmpty)) μ
  | _, _, _, _ => False
@[simp] theorem rdNilC_1 {f : Bool → Bool} {xs : List D} {μ : Sto} {Q : DK} : rdNilC f (.lst xs) (.lst []) μ Q = Q (.bl (f xs.isEmpty)) μ := by
  show (([] : List D) = [] ∧ _) = _
  simp
end
end DL

namespace DL
open PySem PySem.Spec PyProof.Rows L2
def keyD : D → Option Key
  | .int i => some (.inl i)
  | .str s => some (.inr (S s))
  | _ => none
@[simp] theorem keyD_int (i : Int) : keyD (.int i) = some (.inl i) := rfl
def valD (kvs : List (Key × D)) (k : Key) : Option D := (kvs.find? fun kv => decide (kv.1 = k)).map (·.2)
def putD (kvs : List (Key × D)) (k : Key) (d : D) : List (Key × D) := if kvs.any fun kv => decide (kv.1 = k) then kvs.map fun kv => if kv.1 = k then (kv.1, d) else kv else kvs ++ [(k, d)]
section
variable {K : PySem.W.Frag} {mg : Str → Option Value} {F H : Hp} {μ : Sto}
theorem Wk.key (o : Ok K mg F μ H) {v : V} {d : D} {k : Key} (h : Wk K mg F μ H v d) (e : keyD d = some k) : v = kV k := by
  cases d <;> first | cases e; done | skip
  · cases e; exact h.int
  · cases e; exact h.str
theorem Dks.val : ∀ {vs : List (Key × V)} {ds : List (Key × D)}, Dks K mg F vs ds → ∀ k, (∀ d, valD ds k = some d → ∃ v, valV vs k = some v ∧ Dt K mg F v d) ∧ (valV vs k).isSome = (valD ds k).isSome
  | _, _, .nil, k => ⟨fun d h => (by cases h), rfl⟩
  | _, _, .cons (k := j) (v := v) (d := d) h r, k => by
    have ih := Dks.val r k
    by_cases e : j = k
    · subst e
      have e1 : ∀ ds, valD ((j, d) :: ds) j = some d := fun ds => by simp [valD]
      have e2 : ∀ vs, valV ((j, v) :: vs) j = some v := fun vs => by simp [valV]
      rw [e1, e2]
      exact ⟨fun d' h' => by cases h'; exact ⟨v, rfl, h⟩, rfl⟩
    · have e1 : ∀ ds, valD ((j, d) :: ds) k = valD ds k := fun ds => by simp [valD, e]
      have e2 : ∀ vs, valV ((j, v) :: vs) k = valV vs k := fun vs => by simp [valV, e]
      rw [e1, e2]
      exact ih
theorem Dks.len : ∀ {vs : List (Key × V)} {ds : List (Key × D)}, Dks K mg F vs ds → vs.length = ds.length
  | _, _, .nil => rfl
  | _, _, .cons _ r => congrArg (· + 1) (Dks.len r)
theorem Dks.any : ∀ {vs : List (Key × V)} {ds : List (Key × D)}, Dks K mg F vs ds → ∀ k, (vs.any fun kv => decide (kv.1 = k)) = ds.any fun kv => decide (kv.1 = k)
  | _, _, .nil, _ => rfl
  | _, _, .cons _ r, k => by rw [List.any_cons, List.any_cons, Dks.any r k]
theorem Dks.rep {v : V} {d : D} (h : Dt K mg F v d) (k : Key) : ∀ {vs : List (Key × V)} {ds : List (Key × D)}, Dks K mg F vs ds → Dks K mg F (vs.map fun kv => if kv.1 = k then (kv.1, v) else kv) (ds.map fun kv => if kv.1 = k then (kv.1, d) else kv)
  | _, _, .nil => .nil
  | _, _, .cons (k := j) g r => by
    rw [List.map_cons, List.map_cons]
    by_cases e : j = k
    · simp only [if_pos e]
      exact .cons h (Dks.rep h k r)
    · simp only [if_neg e]
      exact .cons g (Dks.rep h k r)
end
section
variable {X : Cx} {B : Bs} {e o i : Expr} {d do' di : TED} {p pos : Pos}
/-- {} as a dict that changes -/
@[simp] def dNewD : TED := fun _ μ Q => ∀ p, μ p = none → Q (.ref p) (sset μ p (.dct []))
/-- d[y] -/
@[simp] def dGetD (o i : TED) : TED := fun ρ μ Q => o ρ μ fun x μ1 => i ρ μ1 fun y μ2 => ∃ a kvs k d, x = .ref a ∧ μ2 a = some (.dct kvs) ∧ keyD y = some k ∧ valD kvs k = some d ∧ Q d μ2
/-- y in d, y not in d -/
@[simp] def dInD (neg : Bool) (i o : TED) : TED := fun ρ μ Q => i ρ μ fun y μ1 => o ρ μ1 fun x μ2 => ∃ a kvs k, x = .ref a ∧ μ2 a = some (.dct kvs) ∧ keyD y = some k ∧ Q (.bl (if neg then !(valD kvs k).isSome else (valD kvs k).isSome)) μ2
/-- d[y] = v -/
@[simp] def dPutD (d o i : TED) : TSD := fun E ρ μ => d ρ μ fun v μ1 => o ρ μ1 fun x μ2 => i ρ μ2 fun y μ3 => ∃ a kvs k, x = .ref a ∧ μ3 a = some (.dct kvs) ∧ keyD y = some k ∧ kvs.length < SZ ∧ E.nx ρ (sset μ3 a (.dct (putD kvs k v)))
end
end DL

namespace DL
open PySem PySem.Spec PyProof.Rows L2
abbrev txtD (kvs : List (List Nat × List Nat)) : List (Key × D) := kvs.map fun p => (.inr (S p.1), D.str p.2)
section
variable {X : Cx} {e o i : Expr} {d do' di : TED} {p pos : Pos}
@[simp] def dDctS (kvs : List (List Nat × List Nat)) : TED := dC (.dct (txtD kvs))
/-- d[y] of a dict that does not change -/
@[simp] def dGetF (o i : TED) : TED := fun ρ μ Q => o ρ μ fun x μ1 => i ρ μ1 fun y μ2 => ∃ kvs k d, x = .dct kvs ∧ keyD y = some k ∧ valD kvs k = some d ∧ Q d μ2
end
end DL

namespace DL
open PySem PySem.Spec PyProof.Rows L2
section
variable {X : Cx}
def rdNeNilT : RD2
  | .tup xs, .tup ys, μ, Q => ys = [] ∧ Q (.bl (!xs.isEmpty)) μ
  | _, _, _, _ => False
@[simp] theorem rdNeNilT_1 {xs : List D} {μ : Sto} {Q : DK} : rdNeNilT (.tup xs) (.tup []) μ Q = Q (.bl (!xs.isEmpty)) μ := by
  show (([] : List D) = [] ∧ _) = _
  simp
end
section
variable {X : Cx}
def rdAddN : RD2
  | .bl k, .int i, μ, Q => Q (.int (b2i k + i)) μ
  | x, y, μ, Q => rdAdd x y μ Q
@[simp] theorem rdAddN_1 {k : Bool} {i : Int} {μ : Sto} {Q : DK} : rdAddN (.bl k) (.int i) μ Q = Q (.int (b2i k + i)) μ := rfl
@[simp] theorem rdAddN_2 {i j : Int} {μ : Sto} {Q : DK} : rdAddN (.int i) (.int j) μ Q = Q (.int (i + j)) μ := rfl
@[simp] theorem rdAddN_3 {s t : List D} {μ : Sto} {Q : DK} : rdAddN (.tup s) (.tup t) μ Q = (s.length + t.length ≤ SZ ∧ Q (.tup (s ++ t)) μ) := rfl
@[simp] theorem rdAddN_4 {s t : List D} {μ : Sto} {Q : DK} : rdAddN (.lst s) (.lst t) μ Q = (s.length + t.length ≤ SZ ∧ Q (.lst (s ++ t)) μ) := rfl
def rdSubN : RD2
  | .bl k, .int i, μ, Q => Q (.int (b2i k - i)) μ
  | .int i, .bl k, μ, Q => Q (.int (i - b2i k)) μ
  | .int i, .int j, μ, Q => Q (.int (i - j)) μ
  | _, _, _, _ => False
@[simp] theorem rdSubN_1 {k : Bool} {i : Int} {μ : Sto} {Q : DK} : rdSubN (.bl k) (.int i) μ Q = Q (.int (b2i k - i)) μ := rfl
@[simp] theorem rdSubN_2 {k : Bool} {i : Int} {μ : Sto} {Q : DK} : rdSubN (.int i) (.bl k) μ Q = Q (.int (i - b2i k)) μ := rfl
@[simp] theorem rdSubN_3 {i j : Int} {μ : Sto} {Q : DK} : rdSubN (.int i) (.int j) μ Q = Q (.int (i - j)) μ := rfl
end
section
variable {K : PySem.W.Frag} {mg : Str → Option Value}
end
/-- str() of an int or a bool -/
def truD (b : Bool) : List Nat := if b then [84, 114, 117, 101] else [70, 97, 108, 115, 101]
def rdStrZ : RDn
  | [.int i], μ, Q => i.natAbs.log2 < 1920 ∧ Q (.str (toString i : Str).cps.toList) μ
  | [.bl b], μ, Q => Q (.str (truD b)) μ
  | _, _, _ => False
@[simp] theorem rdStrZ_1 {i : Int} {μ : Sto} {Q : DK} : rdStrZ [.int i] μ Q = (i.natAbs.log2 < 1920 ∧ Q (.str (toString i : Str).cps.toList) μ) := rfl
@[simp] theorem rdStrZ_2 {b : Bool} {μ : Sto} {Q : DK} : rdStrZ [.bl b] μ Q = Q (.str (truD b)) μ := rfl
/-- the promise that asks what never is -/
def noSp : DSp := fun _ _ _ _ => False
theorem Cal.nothing {P : Program} {w : World} {K : PySem.W.Frag} {mg : Str → Option Value} {base : Heap} {CX : CXT} {k : Nat} {x : Str} {f : Addr} (hm : mg x = some (.ref f)) (hk : PySem.W.keepIn K (.ref f) = true) : Cal P w K mg base CX k x noSp :=
  ⟨f, fun _ _ _ _ _ _ _ _ _ _ _ _ ⟨_, _, _, _, _, _, _, h, _⟩ => h.elim, hm, hk⟩
end DL

namespace DL
open PySem PySem.Spec PyProof.Rows L2
open PySem.W (Tup Datum DatumOrd minOf minD dataLt alike AlikeAll)
def keysD : List D → Option (List Key)
  | [] => some []
  | d :: ds => (keyD d).bind fun k => (keysD ds).map (k :: ·)
@[simp] theorem keysD_nil : keysD [] = some [] := rfl
@[simp] theorem keysD_cons (d : D) (ds : List D) : keysD (d :: ds) = (keyD d).bind fun k => (keysD ds).map (k :: ·) := rfl
def valT (kvs : List (List Key × D)) (k : List Key) : Option D := (kvs.find? fun kv => decide (kv.1 = k)).map (·.2)
def putT (kvs : List (List Key × D)) (k : List Key) (d : D) : List (List Key × D) := if kvs.any fun kv => decide (kv.1 = k) then kvs.map fun kv => if kv.1 = k then (kv.1, d) else kv else kvs ++ [(k, d)]
section
variable {K : PySem.W.Frag} {mg : Str → Option Value} {F H : Hp} {μ : Sto}
def KvT (K : PySem.W.Frag) (mg : Str → Option Value) (F : Hp) (vs : List (List Key × V)) (ds : List (List Key × D)) : Prop := vs.map (·.1) = ds.map (·.1) ∧ Dts K mg F (vs.map (·.2)) (ds.map (·.2))
theorem KvT.cases' {v : List Key × V} {vs : List (List Key × V)} {d : List Key × D} {ds : List (List Key × D)} (h : KvT K mg F (v :: vs) (d :: ds)) : v.1 = d.1 ∧ Dt K mg F v.2 d.2 ∧ KvT K mg F vs ds := by
  obtain ⟨h1, h2⟩ := h
  rw [List.map_cons, List.map_cons] at h1 h2
  injection h1 with a b
  cases h2 with
  | cons c e => exact ⟨a, c, b, e⟩
theorem KvT.len {vs : List (List Key × V)} {ds : List (List Key × D)} (h : KvT K mg F vs ds) : vs.length = ds.length := by
  have := congrArg List.length h.1
  simpa using this
theorem KvT.val : ∀ {vs : List (List Key × V)} {ds : List (List Key × D)}, KvT K mg F vs ds → ∀ k d, valT ds k = some d → ∃ v, valV vs k = some v ∧ Dt K mg F v d
  | [], [], _, k, d, e => by cases e
  | [], _ :: _, h, _, _, _ => absurd h.len (by simp)
  | _ :: _, [], h, _, _, _ => absurd h.len (by simp)
  | (j, v) :: vs, (j', d0) :: ds, h, k, d, e => by
    obtain ⟨h1, h2, h3⟩ := h.cases'
    have h1 : j = j' := h1
    subst h1
    by_cases ej : j = k
    · subst ej
      have e1 : valT ((j, d0) :: ds) j = some d0 := by simp [valT]
      have e2 : valV ((j, v) :: vs) j = some v := by simp [valV]
      rw [e1] at e; cases e
      exact ⟨v, e2, h2⟩
    · have e1 : valT ((j, d0) :: ds) k = valT ds k := by simp [valT, ej]
      have e2 : valV ((j, v) :: vs) k = valV vs k := by simp [valV, ej]
      rw [e1] at e; rw [e2]
      exact KvT.val h3 k d e
theorem KvT.any : ∀ {vs : List (List Key × V)} {ds : List (List Key × D)}, KvT K mg F vs ds → ∀ k, (vs.any fun kv => decide (kv.1 = k)) = ds.any fun kv => decide (kv.1 = k)
  | [], [], _, k => rfl
  | [], _ :: _, h, _ => absurd h.len (by simp)
  | _ :: _, [], h, _ => absurd h.len (by simp)
  | (j, v) :: vs, (j', d0) :: ds, h, k => by
    obtain ⟨h1, h2, h3⟩ := h.cases'
    rw [List.any_cons, List.any_cons, KvT.any h3 k, h1]
theorem KvT.cons {k : List Key} {v : V} {d : D} {vs : List (List Key × V)} {ds : List (List Key × D)} (h : Dt K mg F v d) (r : KvT K mg F vs ds) : KvT K mg F ((k, v) :: vs) ((k, d) :: ds) :=
  ⟨by rw [List.map_cons, List.map_cons, r.1], .cons h r.2⟩
theorem KvT.rep {v : V} {d : D} (h : Dt K mg F v d) (k : List Key) : ∀ {vs : List (List Key × V)} {ds : List (List Key × D)}, KvT K mg F vs ds → KvT K mg F (vs.map fun kv => if kv.1 = k then (kv.1, v) else kv) (ds.map fun kv => if kv.1 = k then (kv.1, d) else kv)
  | [], [], r => r
  | [], _ :: _, h => absurd h.len (by simp)
  | _ :: _, [], h => absurd h.len (by simp)
  | (j, w) :: vs, (j', d0) :: ds, r => by
    obtain ⟨h1, h2, h3⟩ := r.cases'
    have h1 : j = j' := h1
    subst h1
    rw [List.map_cons, List.map_cons]
    by_cases e : j = k
    · simp only [if_pos e]
      exact .cons h (KvT.rep h k h3)
    · simp only [if_neg e]
      exact .cons h2 (KvT.rep h k h3)
theorem KvT.mono {F' : Hp} (hF : ∀ a o, F a = some o → F' a = some o) {vs : List (List Key × V)} {ds : List (List Key × D)} (r : KvT K mg F vs ds) : KvT K mg F' vs ds := ⟨r.1, r.2.mono hF⟩
end
section
variable {X : Cx} {B : Bs} {e o : Expr} {d do' : TED} {p pos kpos : Pos} {es : List Expr} {t : TAD} {kx : Nat}
/-- {} whose keys will be tuples -/
@[simp] def dNewT : TED := fun _ μ Q => ∀ p, μ p = none → Q (.ref p) (sset μ p (.dtt []))
/-- d[(y, z)] -/
@[simp] def dGetT (o : TED) (t : TAD) : TED := fun ρ μ Q => o ρ μ fun x μ1 => t ρ μ1 fun ys μ2 => ∃ a kvs k d, x = .ref a ∧ μ2 a = some (.dtt kvs) ∧ keysD ys = some k ∧ ys.length ≤ SZ ∧ valT kvs k = some d ∧ Q d μ2
/-- d[(y, z)] = v -/
@[simp] def dPutT (d o : TED) (t : TAD) : TSD := fun E ρ μ => d ρ μ fun v μ1 => o ρ μ1 fun x μ2 => t ρ μ2 fun ys μ3 => ∃ a kvs k, x = .ref a ∧ μ3 a = some (.dtt kvs) ∧ keysD ys = some k ∧ ys.length ≤ SZ ∧ kvs.length < SZ ∧ E.nx ρ (sset μ3 a (.dtt (putT kvs k v)))
end
section
variable {K : PySem.W.Frag} {mg : Str → Option Value}
/-- data of one form, as a list for min -/
def alikeD (xs : List D) : Prop := D.flats xs = true ∧ AlikeAll (D.pys xs) ∧ PyData.depthAll (D.pys xs) ≤ 60
def rdMinD : RDn
  | [.lst (x :: xs)], μ, Q => alikeD (x :: xs) ∧ ∀ d, d ∈ x :: xs → d.py = minD x.py (D.pys xs) → Q d μ
  | _, _, _ => False
@[simp] theorem rdMinD_1 : rdMinD [.lst (x0 :: xs0)] μ0 Q0 = (alikeD (x0 :: xs0) ∧ ∀ d, d ∈ x0 :: xs0 → d.py = minD x0.py (D.pys xs0) → Q0 d μ0) := rfl
end
class DatD (α : Type) [DecidableEq α] [DatumOrd α] where
  of : α → D
  flat : ∀ a, (of a).flat = true
  py : ∀ a, (of a).py = Datum.toD a
theorem flats_map {α : Type} [DecidableEq α] [DatumOrd α] [DatD α] : ∀ l : List α, D.flats (l.map DatD.of) = true
  | [] => rfl
  | a :: l => by rw [List.map_cons, D.flats, DatD.flat a, flats_map l]; rfl
theorem pys_of {α : Type} [DecidableEq α] [DatumOrd α] [DatD α] : ∀ l : List α, D.pys (l.map DatD.of) = l.map Datum.toD
  | [] => rfl
  | a :: l => by rw [List.map_cons, D.pys, DatD.py a, pys_of l]; rfl
instance : DatD Int := ⟨D.int, fun _ => rfl, fun _ => rfl⟩
instance {α β : Type} [DecidableEq α] [DatumOrd α] [DatD α] [DecidableEq β] [DatumOrd β] [DatD β] : DatD (α × β) :=
  ⟨fun p => .tup [DatD.of p.1, DatD.of p.2], fun p => by simp [D.flat, D.flats, DatD.flat], fun p => by simp [D.py, D.pys, DatD.py]; rfl⟩
instance {α : Type} [DecidableEq α] [DatumOrd α] [DatD α] : DatD (Tup α) :=
  ⟨fun p => .tup (p.items.map DatD.of), fun p => by simp only [D.flat]; exact flats_map _, fun p => by simp only [D.py]; rw [pys_of]; rfl⟩
end DL

namespace DL
open PySem PySem.Spec PyProof.Rows L2
section
variable {X : Cx} {e o a b t : Expr} {do' : TED} {p pos apos : Pos} {da db : TFD} {ta : TTD}
@[simp] def dBits (o : TED) : TED := fun ρ μ Q => o ρ μ fun x μ1 => ∃ i, x = .int i ∧ Q (.int (Builtin.Int.intBits i : Nat)) μ1
@[simp] def dIfF (t : TTD) (a b : TFD) : TFD := fun ρ μ Q => t ρ μ fun c μ1 => if c = true then a ρ μ1 Q else b ρ μ1 Q
end
end DL

namespace DL
open PySem PySem.Spec PyProof.Rows L2
section
variable {X : Cx} {ea eb ec ed ek ex : Expr} {da db dc dd dk dx : TED} {p pos apos dpos : Pos}
@[simp] def dDG (a b c d k x : TED) : TED := fun ρ μ Q => a ρ μ fun va μ1 => b ρ μ1 fun vb μ2 => c ρ μ2 fun vc μ3 => d ρ μ3 fun vd μ4 =>
  ∃ ia ib ic id : Int, va = .int ia ∧ vb = .int ib ∧ vc = .int ic ∧ vd = .int id ∧ k ρ μ4 fun vk μ5 => x ρ μ5 fun vx μ6 => ∃ ik ix : Int, vk = .int ik ∧ vx = .int ix ∧ Q (.int (if ik = ic then id else if ik = ia then ib else ix)) μ6
end
end DL

namespace DL
open PySem PySem.Spec PyProof.Rows L2
def putFD (f : Str) (v : D) : List (Str × D) → List (Str × D)
  | [] => [(f, v)]
  | (g, x) :: r => if g = f then (g, v) :: r else (g, x) :: putFD f v r
section
variable {K : PySem.W.Frag} {mg : Str → Option Value} {F H : Hp} {μ : Sto}
def FsR (K : PySem.W.Frag) (mg : Str → Option Value) (F : Hp) (vs : List (Str × V)) (ds : List (Str × D)) : Prop := vs.map (·.1) = ds.map (·.1) ∧ Dts K mg F (vs.map (·.2)) (ds.map (·.2))
theorem FsR.cases' {v : Str × V} {vs : List (Str × V)} {d : Str × D} {ds : List (Str × D)} (h : FsR K mg F (v :: vs) (d :: ds)) : v.1 = d.1 ∧ Dt K mg F v.2 d.2 ∧ FsR K mg F vs ds := by
  obtain ⟨h1, h2⟩ := h
  rw [List.map_cons, List.map_cons] at h1 h2
  injection h1 with a b
  cases h2 with
  | cons c e => exact ⟨a, c, b, e⟩
theorem FsR.len {vs : List (Str × V)} {ds : List (Str × D)} (h : FsR K mg F vs ds) : vs.length = ds.length := by
  have := congrArg List.length h.1
  simpa using this
theorem FsR.cons {k : Str} {v : V} {d : D} {vs : List (Str × V)} {ds : List (Str × D)} (h : Dt K mg F v d) (r : FsR K mg F vs ds) : FsR K mg F ((k, v) :: vs) ((k, d) :: ds) :=
  ⟨by rw [List.map_cons, List.map_cons, r.1], .cons h r.2⟩
theorem FsR.mono {F' : Hp} (hF : ∀ a o, F a = some o → F' a = some o) {vs : List (Str × V)} {ds : List (Str × D)} (r : FsR K mg F vs ds) : FsR K mg F' vs ds := ⟨r.1, r.2.mono hF⟩
theorem Ok.ins (o : Ok K mg F μ H) {a : Addr} {c : Str} {fs : List (Str × D)} (h : μ a = some (.ins c fs)) : ∃ C dx vfs, mg c = some (.ref C) ∧ H a = some (.ins C dx vfs) ∧ FsR K mg F vfs fs := by
  obtain ⟨C, dx, vfs, h1, h2, h3, h4⟩ := o.sto _ _ h
  exact ⟨C, dx, vfs, h1, h2, h3, h4⟩
/-- an instance: its class, its fields -/
def insOf (μ : Sto) : D → Option (Str × List (Str × D))
  | .ref a => match μ a with
    | some (.ins c fs) => some (c, fs)
    | _ => none
  | .obj c fs => some (c, fs)
  | _ => none
@[simp] theorem insOf_obj {c : Str} {fs : List (Str × D)} : insOf μ (.obj c fs) = some (c, fs) := rfl
@[simp] theorem insOf_ref {a : Addr} {c : Str} {fs : List (Str × D)} : insOf μ (.ref a) = some (c, fs) ↔ μ a = some (.ins c fs) := by
  unfold insOf
  dsimp only
  split
  · rename_i c' fs' e
    rw [e]
    constructor
    · intro h; cases h; rfl
    · intro h; cases h; rfl
  · rename_i hn
    constructor
    · intro h; cases h
    · intro h; exact (hn _ _ h).elim
def insK : Option (Str × List (Str × D)) → (Str → List (Str × D) → Prop) → Prop
  | some (c, fs), k => k c fs
  | none, _ => False
@[simp] theorem insK_1 {c : Str} {fs : List (Str × D)} {k : Str → List (Str × D) → Prop} : insK (some (c, fs)) k = k c fs := rfl
@[simp] theorem insOf_same {a : Addr} {c : Str} {fs : List (Str × D)} : insOf (sset μ a (.ins c fs)) (.ref a) = some (c, fs) := insOf_ref.mpr sset_same
def selK : List (Str × DSp) → Str → (DSp → Prop) → Prop
  | [], _, _ => False
  | (c', S) :: r, c, k => if c' = c then k S else selK r c k
@[simp] theorem selK_0 {c : Str} {k : DSp → Prop} : selK [] c k = False := rfl
@[simp] theorem selK_1 {c c' : Str} {S : DSp} {r : List (Str × DSp)} {k : DSp → Prop} : selK ((c', S) :: r) c k = if c' = c then k S else selK r c k := rfl
def fldK : List (Str × D) → Str → (D → Prop) → Prop
  | [], _, _ => False
  | (g, x) :: r, f, k => if g = f then k x else fldK r f k
@[simp] theorem fldK_0 {f : Str} {k : D → Prop} : fldK [] f k = False := rfl
@[simp] theorem fldK_1 {f g : Str} {x : D} {r : List (Str × D)} {k : D → Prop} : fldK ((g, x) :: r) f k = if g = f then k x else fldK r f k := rfl
/-- no field of that name -/
def noF (fs : List (Str × D)) (m : Str) : Prop := fs.lookup m = none
@[simp] theorem noF_0 {m : Str} : noF [] m = True := by simp [noF]
@[simp] theorem noF_1 {m g : Str} {x : D} {r : List (Str × D)} : noF ((g, x) :: r) m = (¬ g = m ∧ noF r m) := by
  unfold noF
  rw [List.lookup_cons]
  by_cases e : g = m
  · subst e; simp
  · have e' : (m == g) = false := beq_eq_false_iff_ne.mpr fun z => e z.symm
    rw [e']; simp [e]
@[simp] theorem putFD_0 {f : Str} {v : D} : putFD f v [] = [(f, v)] := rfl
@[simp] theorem putFD_1 {f g : Str} {v x : D} {r : List (Str × D)} : putFD f v ((g, x) :: r) = if g = f then (g, v) :: r else (g, x) :: putFD f v r := rfl
end
section
variable {X : Cx} {Bq : Bs}
abbrev RlT := Hp → DEnv → Sto → L2.St → Hp → Prop
structure Md (X : Cx) (Rl : RlT) (W : DEnv → DXK) : Prop where
  rel : ∀ F ρ μ σ H, Rl F ρ μ σ H → Rel X.K X.mg F ρ μ σ H
  step : ∀ F ρ μ σ H F' μ' H', Rl F ρ μ σ H → Ext F μ H F' μ' H' → Ok X.K X.mg F' μ' H' → Rl F' ρ μ' σ H'
  wish : ∀ σ, ∃ E : XK, PassesAt (L2.CX X.prog X.w) X σ E ∧ ∀ F ρ μ H, Rl F ρ μ σ H → ∀ cv od F' μ' H' c fs, Ext F μ H F' μ' H' → Ok X.K X.mg F' μ' H' → XD X.K X.mg H F' μ' H' cv od c fs → W ρ c fs μ' → E cv od H'
theorem Md.no : Md X (Rel X.K X.mg) (fun _ => noD) := ⟨fun _ _ _ _ _ h => h, fun _ _ _ _ _ _ _ _ h e o => h.ext e o, fun σ => ⟨_, passAt takesN σ, fun _ _ _ _ _ _ _ _ _ _ _ _ _ _ _ z => z.elim⟩⟩
theorem Md.x {W : DEnv → DXK} (tk : Takes X (liftWX X.K X.mg Bq W)) : Md X (RelB X.K X.mg Bq) W := ⟨fun _ _ _ _ _ h => h.rel, fun _ _ _ _ _ _ _ _ h e o => h.step e o, fun σ => ⟨_, passAt tk σ, fun F ρ μ H R cv od F' μ' H' c fs e o x w => ⟨F', ρ, μ', c, fs, R.step e o, x.mono R.ext.live, w⟩⟩⟩
end
theorem FR.up {P : Program} {w : World} {K : PySem.W.Frag} {mg : Str → Option Value} {base : Heap} {k : Nat} {f : Addr} {sp : Sp} (h : FR P w K mg base L2.CX0 k f sp) : FR P w K mg base (L2.CX P w) k f sp := by
  intro A outer s H us vs Q E q r e v z
  refine codeAny_mono (h A outer s H us vs Q E q r e v z) ?_
  intro r s' hz
  cases r with
  | error e => exact hz.elim
  | ok f => cases f <;> exact hz
section
variable {X : Cx} {B : Bs} {o e : Expr} {do' d : TED} {f m : Str} {pos pos' apos : Pos} {cs : List Str}
/-- o.f -/
@[simp] def dFld (cs : List Str) (f : Str) (o : TED) : TED := fun ρ μ Q => o ρ μ fun x μ1 => insK (insOf μ1 x) fun c fs => c ∈ cs ∧ fldK fs f fun v => Q v μ1
/-- the address of an object that changes -/
def refK : D → (Addr → Prop) → Prop
  | .ref a, k => k a
  | _, _ => False
@[simp] theorem refK_1 {a : Addr} {k : Addr → Prop} : refK (.ref a) k = k a := rfl
/-- o.f = v -/
@[simp] def dSetA (cs : List Str) (f : Str) (o d : TED) : TSD := fun E ρ μ => d ρ μ fun y μ1 => o ρ μ1 fun x μ2 => refK x fun a => insK (insOf μ2 (.ref a)) fun c fs => c ∈ cs ∧ fs.length < 1000 ∧ E.nx ρ (sset μ2 a (.ins c (putFD f y fs)))
end
/-- the method m of the class c keeps the promise S -/
def MCal (P : Program) (w : World) (K : PySem.W.Frag) (mg : Str → Option Value) (base : Heap) (k : Nat) (m : Str) (c : Str) (S : DSp) : Prop := ∃ C f, mg c = some (.ref C) ∧ Cls K C ∧ Meth K C m f ∧ FR P w K mg base (L2.CX P w) k f (liftP K mg S)
theorem MCal.mono {P : Program} {w : World} {K : PySem.W.Frag} {mg : Str → Option Value} {base : Heap} {j k : Nat} {m c : Str} {S : DSp} (h : MCal P w K mg base j m c S) (hk : j ≤ k) : MCal P w K mg base k m c S := by
  obtain ⟨C, f, h1, h2, h3, h4⟩ := h
  exact ⟨C, f, h1, h2, h3, fun A outer s H us vs Q E q rm => h4 A outer s H us vs Q E q (rm.mono hk)⟩
section
variable {X : Cx} {B : Bs} {o e : Expr} {es : List Expr} {do' d : TED} {t : TAD} {f m : Str} {pos pos' apos : Pos} {k : Nat} {Ss : List (Str × DSp)} {W : DEnv → DXK} {Rl : RlT}
/-- o.m(..) -/
@[simp] def dMeth (m : Str) (Ss : List (Str × DSp)) (o : TED) (t : TAD) (W : DEnv → DXK) : TED := fun ρ μ Q => o ρ μ fun x μ1 => insK (insOf μ1 x) fun c fs => noF fs m ∧ selK Ss c fun S => t ρ μ1 fun ds μ2 => S (x :: ds) μ2 Q (W ρ)
end
section
variable {X : Cx} {B : Bs} {o e : Expr} {es : List Expr} {do' d : TED} {t : TAD} {f m x : Str} {p pos pos' apos : Pos} {k : Nat} {Ss : List (Str × DSp)} {W : DEnv → DXK} {C pr g a dx : Addr} {fs : List (Str × V)} {sp : Sp} {Rl : RlT}
@[simp] def dProp (f : Str) (Ss : List (Str × DSp)) (o : TED) (_ : DEnv → DXK) : TED := fun ρ μ Q => o ρ μ fun x μ1 => insK (insOf μ1 x) fun c _ => selK Ss c fun S => S [x] μ1 Q noD
end
def serase (μ : Sto) (a : Addr) : Sto := fun b => if b = a then none else μ b
theorem serase_same {μ : Sto} {a : Addr} : serase μ a a = none := if_pos rfl
theorem serase_ne {μ : Sto} {a b : Addr} (h : b ≠ a) : serase μ a b = μ b := if_neg h
/-- a class whose objects never change: from the arguments either the fields or an exception -/
abbrev ZMk := List D → (List (Str × D)) ⊕ (Str × List (Str × D))
/-- .. and the call -/
def zNew (c : Str) (dom : List D → Prop) (mk : ZMk) : DSp := fun ds μ Q E => dom ds ∧ match mk ds with
  | .inl fs => Q (.obj c fs) μ
  | .inr (e, efs) => E e efs μ
section
variable {X : Cx} {B : Bs} {e : Expr} {es : List Expr} {t : TAD} {x : Str} {p pos : Pos} {k : Nat} {S : DSp} {W : DEnv → DXK} {C f : Addr} {sp : Sp} {Rl : RlT}
/-- an object is forgotten -/
theorem Ok.forget {K : PySem.W.Frag} {mg : Str → Option Value} {F H : Hp} {μ : Sto} (o : Ok K mg F μ H) (a : Addr) : Ok K mg F (serase μ a) H := by
  refine ⟨o.sub, fun b m h => ?_, fun b m h => ?_⟩
  · by_cases e : b = a
    · subst e; rw [serase_same] at h; cases h
    · rw [serase_ne e] at h; exact o.dis b m h
  · by_cases e : b = a
    · subst e; rw [serase_same] at h; cases h
    · rw [serase_ne e] at h; exact o.sto b m h
theorem Ext.forget {F F' H H' : Hp} {μ μ' : Sto} (e : Ext F μ H F' μ' H') (a : Addr) : Ext F μ H F' (serase μ' a) H' :=
  ⟨e.mono, fun b o h n => by
    obtain ⟨h1, h2, h3⟩ := e.keep b o h n
    refine ⟨h1, h2, ?_⟩
    by_cases q : b = a
    · subst q; exact serase_same
    · rw [serase_ne q]; exact h3, e.live⟩
@[simp] def dMake (c : Str) (S : DSp) (t : TAD) (W : DEnv → DXK) : TED := fun ρ μ Q => t ρ μ fun ds μ1 => ∀ x, μ1 x = none → S (.ref x :: ds) (sset μ1 x (.ins c [])) (fun v μ2 => v = .non ∧ Q (.ref x) μ2) (W ρ)
@[simp] def dMakeZ (c : Str) (dom : List D → Prop) (mk : ZMk) (t : TAD) (W : DEnv → DXK) : TED := fun ρ μ Q => t ρ μ fun ds μ1 => zNew c dom mk ds μ1 Q (W ρ)
end
end DL

namespace DL
open PySem PySem.Spec PyProof.Rows L2
/-- .. at data -/
def rdM (Ss : List (Str × DSp)) : List D → Sto → DK → DXK → Prop
  | x :: r, μ, Q, E => insK (insOf μ x) fun c _ => selK Ss c fun S => S (x :: r) μ Q E
  | [], _, _, _ => False
@[simp] theorem rdM_1 {Ss : List (Str × DSp)} {x : D} {r : List D} {μ : Sto} {Q : DK} {E : DXK} : rdM Ss (x :: r) μ Q E = insK (insOf μ x) fun c _ => selK Ss c fun S => S (x :: r) μ Q E := rfl
section
variable {X : Cx} {k : Nat} {m : Str} {Ss : List (Str × DSp)}
def okS (μ : Sto) (x y : D) : Prop := isiOk y = true ∨ ∃ c fs gs, insOf μ x = some (c, fs) ∧ insOf μ y = some (c, gs)
@[simp] theorem okS_obj {μ : Sto} {c : Str} {fs gs : List (Str × D)} : okS μ (.obj c fs) (.obj c gs) := .inr ⟨c, fs, gs, rfl, rfl⟩
end
end DL

namespace DL
open PySem PySem.Spec PyProof.Rows L2
section
variable {X : Cx} {a b c e : Expr} {da db dc : TED} {pos : Pos} {K : PySem.W.Frag} {mg : Str → Option Value}
end
section
variable {X : Cx} {k : Nat} {Ss : List (Str × DSp)}
@[simp] def rdInO (Ss : List (Str × DSp)) (neg : Bool) : RD2 := fun x y μ Q => rdM Ss [y, x] μ (fun v μ' => blK v fun b => Q (.bl (b != neg)) μ') noD
@[simp] def rdEqO (Ss : List (Str × DSp)) : RD2 := fun x y μ Q => okS μ x y ∧ rdM Ss [x, y] μ Q noD
end
section
open PySem.W
variable {prog : Program} {w : World} {A : Around} {E : Value → Shared → Prop} {K : PySem.W.Frag} {x C L f : Addr} {h₀ : Heap} {m : Str → Option Value} {ox : Obj} {od : Option Obj}
end
section
variable {X : Cx} {a b : Expr} {da db : TED} {pos : Pos} {k : Nat} {Ss : List (Str × DSp)} {W : DEnv → DXK} {Rl : RlT}
@[simp] def dBinO (Ss : List (Str × DSp)) (a b : TED) (W : DEnv → DXK) : TED := fun ρ μ Q => a ρ μ fun x μ1 => b ρ μ1 fun y μ2 => okS μ2 x y ∧ rdM Ss [x, y] μ2 Q (W ρ)
@[simp] def dIxO (Ss : List (Str × DSp)) (a b : TED) (W : DEnv → DXK) : TED := fun ρ μ Q => a ρ μ fun x μ1 => b ρ μ1 fun y μ2 => rdM Ss [x, y] μ2 Q (W ρ)
end
section
variable {X : Cx} {k : Nat} {Ss : List (Str × DSp)}
theorem Wk.ins {K : PySem.W.Frag} {mg : Str → Option Value} {F H : Hp} {μ : Sto} {v : V} {d : D} {c : Str} {fs : List (Str × D)} (w : Wk K mg F μ H v d) (h : insOf μ d = some (c, fs)) : Dt K mg F v d := by
  rcases w with w | ⟨_, _, _, _, rfl, _⟩
  · exact w
  · cases h
def rdUnO (Ss : List (Str × DSp)) (T : D → Sto → DK → Prop) : RDn
  | [x], μ, Q => rdM Ss [x] μ (fun v μ' => T v μ' Q) noD
  | _, _, _ => False
@[simp] theorem rdUnO_1 {T : D → Sto → DK → Prop} {x : D} {μ : Sto} {Q : DK} : rdUnO Ss T [x] μ Q = rdM Ss [x] μ (fun v μ' => T v μ' Q) noD := rfl
@[simp] def tLenD : D → Sto → DK → Prop := fun v μ Q => ∃ n : Int, v = .int n ∧ 0 ≤ n ∧ n < 9223372036854775808 ∧ Q (.int n) μ
@[simp] def tStrD : D → Sto → DK → Prop := fun v μ Q => ∃ z, v = .str z ∧ Q (.str z) μ
end
end DL

namespace DL
open PySem PySem.Spec PyProof.Rows L2
def noTyps (K : PySem.W.Frag) (C : Addr) : Bool := typs.all fun n => PySem.W.subIn K (.ref C) (.type n) == some false
/-- what isinstance asks of a class -/
structure InsC (K : PySem.W.Frag) (C : Addr) : Prop where
  cl : Cls K C
  ha : PySem.W.findIn K (.ref C) "__class__" = some (some (.builtin "object.__class__"))
  hn : PySem.W.specialIn K (.builtin "object.__class__") "__get__" = some (some (.builtin "getset_descriptor.__get__"))
  ht : PySem.W.takesIn K (.builtin "object.__class__") = some true
  hm : PySem.W.mroIn K C (.type "object") = some true
  ty : PySem.W.typeIn K (.ref C) = some (.type "type")
  no : noTyps K C = true
abbrev ITab := List ((Str × Str) × Bool)
def ITab.has (T : ITab) (q : Str) : Bool := T.any fun z => decide (z.1.2 = q)
def ITab.hasC (T : ITab) (c : Str) : Bool := T.any fun z => decide (z.1.1 = c)
def ITab.get (T : ITab) (c q : Str) : Option Bool := (T.find? fun z => decide (z.1.1 = c) && decide (z.1.2 = q)).map (·.2)
def isiF (T : ITab) (μ : Sto) (d : D) (q : Str) : Option Bool := if isiOk d = true then (if T.has q then some false else none) else (insOf μ d).bind fun z => T.get z.1 q
def isiG (T : ITab) (μ : Sto) (d : D) (t : String) : Option Bool := if isiOk d = true then some (isiD d t) else (insOf μ d).bind fun z => if T.hasC z.1 then some false else none
def optK : Option Bool → (Bool → Prop) → Prop
  | some b, k => k b
  | none, _ => False
@[simp] theorem optK_1 {b : Bool} {k : Bool → Prop} : optK (some b) k = k b := rfl
def rdIsiO (T : ITab) : RDn
  | [d, .gl q], μ, Q => optK (isiF T μ d q) fun b => Q (.bl b) μ
  | [d, .ty t], μ, Q => t ∈ typs ∧ optK (isiG T μ d t) fun b => Q (.bl b) μ
  | _, _, _ => False
@[simp] theorem rdIsiO_1 {T : ITab} {d : D} {q : Str} {μ : Sto} {Q : DK} : rdIsiO T [d, .gl q] μ Q = optK (isiF T μ d q) fun b => Q (.bl b) μ := rfl
@[simp] theorem rdIsiO_2 {T : ITab} {d : D} {t : String} {μ : Sto} {Q : DK} : rdIsiO T [d, .ty t] μ Q = (t ∈ typs ∧ optK (isiG T μ d t) fun b => Q (.bl b) μ) := rfl
@[simp] theorem isiG_non {T : ITab} {μ : Sto} {t : String} {b : Bool} {i : Int} {s : List Nat} {xs : List D} {ns : List Int} {kvs : List (Key × D)} : isiG T μ .non t = some (isiD .non t) := rfl
@[simp] theorem isiG_bl {T : ITab} {μ : Sto} {t : String} {b : Bool} {i : Int} {s : List Nat} {xs : List D} {ns : List Int} {kvs : List (Key × D)} : isiG T μ (.bl b) t = some (isiD (.bl b) t) := rfl
@[simp] theorem isiG_int {T : ITab} {μ : Sto} {t : String} {b : Bool} {i : Int} {s : List Nat} {xs : List D} {ns : List Int} {kvs : List (Key × D)} : isiG T μ (.int i) t = some (isiD (.int i) t) := rfl
@[simp] theorem isiG_str {T : ITab} {μ : Sto} {t : String} {b : Bool} {i : Int} {s : List Nat} {xs : List D} {ns : List Int} {kvs : List (Key × D)} : isiG T μ (.str s) t = some (isiD (.str s) t) := rfl
@[simp] theorem isiG_tup {T : ITab} {μ : Sto} {t : String} {b : Bool} {i : Int} {s : List Nat} {xs : List D} {ns : List Int} {kvs : List (Key × D)} : isiG T μ (.tup xs) t = some (isiD (.tup xs) t) := rfl
@[simp] theorem isiG_lst {T : ITab} {μ : Sto} {t : String} {b : Bool} {i : Int} {s : List Nat} {xs : List D} {ns : List Int} {kvs : List (Key × D)} : isiG T μ (.lst xs) t = some (isiD (.lst xs) t) := rfl
@[simp] theorem isiG_scr {T : ITab} {μ : Sto} {t : String} {b : Bool} {i : Int} {s : List Nat} {xs : List D} {ns : List Int} {kvs : List (Key × D)} : isiG T μ (.scr ns) t = some (isiD (.scr ns) t) := rfl
@[simp] theorem isiG_dct {T : ITab} {μ : Sto} {t : String} {b : Bool} {i : Int} {s : List Nat} {xs : List D} {ns : List Int} {kvs : List (Key × D)} : isiG T μ (.dct kvs) t = some (isiD (.dct kvs) t) := rfl
section
variable {K : PySem.W.Frag} {mg : Str → Option Value} {T : ITab}
theorem InsC.isSome {C : Addr} (i : InsC K C) : (PySem.W.clsIn K C).isSome = true := by
  obtain ⟨cd, hc, _⟩ := PySem.W.any_some i.cl.hd
  rw [hc]; rfl
end
section
open Builtin PySem.W
variable {prog : Program} {w : World} {A : Around} {E : Value → Shared → Prop} {s : Shared} {K : PySem.W.Frag} {x C L f : Addr} {h₀ : Heap} {m : Str → Option Value} {ox : Obj} {od : Option Obj}
end
section
variable {X : Cx} {k : Nat} {Ss : List (Str × DSp)}
@[simp] def tBoolD : D → Sto → DK → Prop := fun v μ Q => ∃ b, v = .bl b ∧ Q (.bl b) μ
end
end DL

namespace DL
open PySem PySem.Spec PyProof.Rows L2
section
open Builtin PySem.W
variable {prog : Program} {w : World} {A : Around} {E : Value → Shared → Prop} {s : Shared} {K : PySem.W.Frag} {x C L f : Addr} {h₀ : Heap} {m : Str → Option Value} {ox : Obj} {od : Option Obj}
end
section
variable {X : Cx} {k : Nat} {Ss : List (Str × DSp)}
@[simp] def rdNeO (Ss : List (Str × DSp)) : RD2 := fun x y μ Q => okS μ x y ∧ rdM Ss [x, y] μ (fun v μ' => blK v fun b => Q (.bl (!b)) μ') noD
end
theorem FR.mono {P : Program} {w : World} {K : PySem.W.Frag} {mg : Str → Option Value} {base : Heap} {CX : CXT} {j k : Nat} {f : Addr} {sp : Sp} (h : FR P w K mg base CX j f sp) (hk : j ≤ k) : FR P w K mg base CX k f sp :=
  fun A outer s H us vs Q E q rm => h A outer s H us vs Q E q (rm.mono hk)
end DL

namespace DL
open PySem PySem.Spec PyProof.Rows L2
def rdEnds : RDm
  | .str s, [.str t], μ, Q => Q (.bl (decide (t <:+ s))) μ
  | _, _, _, _ => False
@[simp] theorem rdEnds_1 {s t : List Nat} {μ : Sto} {Q : DK} : rdEnds (.str s) [.str t] μ Q = Q (.bl (decide (t <:+ s))) μ := rfl
end DL

namespace DL
open PySem PySem.Spec PyProof.Rows L2
section
variable {X : Cx} {e fe : Expr} {es : List Expr} {do' : TED} {t : TAD} {pos : Pos} {k : Nat} {Ss : List (Str × DSp)} {W : DEnv → DXK} {Rl : RlT}
@[simp] def dCallO (Ss : List (Str × DSp)) (o : TED) (t : TAD) (W : DEnv → DXK) : TED := fun ρ μ Q => o ρ μ fun x μ1 => insK (insOf μ1 x) fun _ _ => t ρ μ1 fun ds μ2 => rdM Ss (x :: ds) μ2 Q (W ρ)
end
end DL

namespace DL
open PySem PySem.Spec PyProof.Rows L2
section
variable {X : Cx} {B : Bs} {o o2 e : Expr} {do' do2 d : TED} {f g : Str} {pos pos1 pos2 tpos : Pos} {cs : List Str} {k : Nat}
def pairK : D → (D → D → Prop) → Prop
  | .tup [x, y], k => k x y
  | _, _ => False
@[simp] theorem pairK_1 {x y : D} {k : D → D → Prop} : pairK (.tup [x, y]) k = k x y := rfl
/-- o.f, o2.g = v -/
@[simp] def dSetA2 (cs : List Str) (f g : Str) (o o2 d : TED) : TSD := fun E ρ μ => d ρ μ fun y μ1 => pairK y fun y1 y2 =>
  o ρ μ1 fun x μ2 => refK x fun a => insK (insOf μ2 (.ref a)) fun c fs => c ∈ cs ∧ fs.length < 1000 ∧
  o2 ρ (sset μ2 a (.ins c (putFD f y1 fs))) fun x' μ3 => refK x' fun a' => insK (insOf μ3 (.ref a')) fun c' fs' => c' ∈ cs ∧ fs'.length < 1000 ∧ E.nx ρ (sset μ3 a' (.ins c' (putFD g y2 fs')))
@[simp] def dCon (cs : List Str) (f : Str) (i : Int) (o : TED) : TED := fun ρ μ Q => o ρ μ fun x μ1 => insK (insOf μ1 x) fun c fs => c ∈ cs ∧ noF fs f ∧ Q (.int i) μ1
end
end DL

namespace DL
open PySem PySem.Spec PyProof.Rows L2
section
variable {X : Cx} {o e : Expr} {es : List Expr} {do' : TED} {t : TAD} {m x y : Str} {p pos apos : Pos} {k i : Nat} {S : DSp} {W : DEnv → DXK} {Rl : RlT}
/-- C.m(..) -/
@[simp] def dCMeth (c : Str) (S : DSp) (t : TAD) (W : DEnv → DXK) : TED := fun ρ μ Q => t ρ μ fun ds μ1 => S (.gl c :: ds) μ1 Q (W ρ)
/-- cls(..) -/
@[simp] def dMakeL (i : Nat) (c : Str) (S : DSp) (t : TAD) (W : DEnv → DXK) : TED := fun ρ μ Q => ρ[i]? = some (some (.val (.gl c))) ∧ t ρ μ fun ds μ1 => ∀ x, μ1 x = none → S (.ref x :: ds) (sset μ1 x (.ins c [])) (fun v μ2 => v = .non ∧ Q (.ref x) μ2) (W ρ)
end
end DL

namespace DL
open PySem PySem.Spec PyProof.Rows L2
section
variable {X : Cx} {B : Bs} {body : List Stmt} {h₀ : ExceptHandler} {hs : List ExceptHandler} {f₀ : Stmt} {fs : List Stmt} {pos : Pos} {tb tf : TSD}
end
theorem RgC.pos {j c : Int} (hj : 0 ≤ j) (hj' : j < 1000000) (hc : 0 < c) (hc' : c < 1000) : RgC 0 j c ((j + c - 1) / c).toNat := by
  have e : Builtin.Range.rangeSize 0 j c = (j + c - 1) / c := rangeSize_pos (by omega) hj
  have h0 : 0 ≤ (j + c - 1) / c := Int.ediv_nonneg (by omega) (by omega)
  have h1 : (j + c - 1) / c ≤ j + c - 1 := Int.ediv_le_self _ (by omega)
  have h2 : ((j + c - 1) / c) * c ≤ j + c - 1 := Int.ediv_mul_le _ (by omega)
  refine ⟨by omega, by omega, ?_, by rw [e]; omega⟩
  unfold Builtin.Range.small
  rw [e]
  generalize (j + c - 1) / c = n at h0 h1 h2 ⊢
  simp only [Builtin.Range.rangeFitsLong, Bool.and_eq_true, Bool.or_eq_true, decide_eq_true_eq, beq_iff_eq]
  refine ⟨⟨⟨⟨by omega, by omega⟩, by omega⟩, by omega⟩, .inr ?_⟩
  rw [if_pos (by omega)]
  simp only [Bool.and_eq_true, decide_eq_true_eq]
  omega
@[simp] def dRng3P (t : TAD) : TSrc := fun ρ μ Q => t ρ μ fun xs μ1 => match xs with
  | [.int i, .int j, .int c] => i = 0 ∧ 0 ≤ j ∧ j < 1000000 ∧ 0 < c ∧ c < 1000 ∧ Q (rngC 0 c ((j + c - 1) / c).toNat) still μ1
  | _ => False
section
variable {X : Cx} {tg e e2 e3 : Expr} {t : TAD} {p pos : Pos}
end
def tysOf : List D → Option (List String)
  | [] => some []
  | .ty T :: r => if T ∈ typs then (tysOf r).map (T :: ·) else none
  | _ => none
def rdIsiM : RDn
  | [d, .tup cs], μ, Q => isiOk d = true ∧ ∃ Ts, tysOf cs = some Ts ∧ Q (.bl (Ts.any (isiD d))) μ
  | _, _, _ => False
@[simp] theorem rdIsiM_1 {d : D} {cs : List D} {μ : Sto} {Q : DK} : rdIsiM [d, .tup cs] μ Q = (isiOk d = true ∧ ∃ Ts, tysOf cs = some Ts ∧ Q (.bl (Ts.any (isiD d))) μ) := rfl
section
variable {K : PySem.W.Frag} {mg : Str → Option Value}
end
/-- a def whose last parameter is left out and is None -/
def dKw (S : DSp) : DSp := fun ds μ Q W => S (ds ++ [.non]) μ Q W
@[simp] theorem dKw_def {S : DSp} {ds : List D} {μ : Sto} {Q : DK} {W : DXK} : dKw S ds μ Q W = S (ds ++ [.non]) μ Q W := rfl
end DL

namespace L2
open PySem PySem.Spec PyProof.Rows GenW
section
variable {X : Cx} {pos : Pos}
end
section
variable {prog : Program} {w : World} {A : Around} {R : GenEnd} {Y : Protocol} {n : Nat} {s₀ : Shared} {fs : List Frame} {s : Shared} {env : Env} {tg : Expr} {it : Value} {body : List Stmt}
end
section
variable {X : Cx} {tg iter : Expr} {body : List Stmt} {pos : Pos}
end
end L2

namespace DL
open PySem PySem.Spec PyProof.Rows L2
/-- what is wanted behind a statement of a generator; the list: what is out so far -/
structure DGE where
  nx : List D → DEnv → Sto → Prop
  rt : List D → DK
  bk : List D → DEnv → Sto → Prop := fun _ _ _ => False
  ct : List D → DEnv → Sto → Prop := fun _ _ _ => False
abbrev TYD := DGE → List D → DEnv → Sto → Prop
section
variable (K : PySem.W.Frag) (mg : Str → Option Value)
def liftY (B : Bs) (t : TYD) : TGn := fun D ys σ H => ∃ F ρ μ ds Dd, RelB K mg B F ρ μ σ H ∧ Dts K mg F ys ds ∧ t Dd ds ρ μ ∧
  (∀ F' ρ' μ' σ' H' ys' ds', FLe F F' → RelB K mg B F' ρ' μ' σ' H' → Dts K mg F' ys' ds' → Dd.nx ds' ρ' μ' → D.nx ys' σ' H') ∧
  (∀ F' ρ' μ' σ' H' ys' ds', FLe F F' → RelB K mg B F' ρ' μ' σ' H' → Dts K mg F' ys' ds' → Dd.bk ds' ρ' μ' → D.bk ys' σ' H') ∧
  (∀ F' ρ' μ' σ' H' ys' ds', FLe F F' → RelB K mg B F' ρ' μ' σ' H' → Dts K mg F' ys' ds' → Dd.ct ds' ρ' μ' → D.ct ys' σ' H') ∧
  (∀ v F' μ' H' dv ys' ds', Ext B.F B.μ B.H F' μ' H' → Ok K mg F' μ' H' → Dts K mg F' ys' ds' → Dt K mg F' v dv → Dd.rt ds' dv μ' → D.rt ys' v H')
end
abbrev YSs (X : Cx) (B : Bs) (st : List Stmt) (d : TYD) : Prop := GSs X st (liftY X.K X.mg B d)
theorem _root_.L2.GS.weaken {X : Cx} {st : Stmt} {t t' : TGn} (h : GS X st t) (w : ∀ D ys σ H, t' D ys σ H → t D ys σ H) : GS X st t' := ⟨fun A S ip R n ys s₀ c fs K J gd lv s σ H D g hn k hI ht => h.run A S ip R n ys s₀ c fs K J gd lv s σ H D g hn k hI (w _ _ _ _ ht)⟩
theorem _root_.L2.GSs.weaken {X : Cx} {st : List Stmt} {t t' : TGn} (h : GSs X st t) (w : ∀ D ys σ H, t' D ys σ H → t D ys σ H) : GSs X st t' := ⟨fun A S ip R n ys s₀ c fs K J gd lv s σ H D g hn k hI ht => h.run A S ip R n ys s₀ c fs K J gd lv s σ H D g hn k hI (w _ _ _ _ ht)⟩
section
variable {X : Cx} {B : Bs} {st : Stmt} {rest : List Stmt} {pos yp : Pos}
def DGE.at (E : DGE) (ys : List D) : DEnds := { nx := E.nx ys, rt := fun _ _ => False, bk := E.bk ys, ct := E.ct ys }
@[simp] theorem DGE.at_nx {E : DGE} {ys : List D} {ρ : DEnv} {μ : Sto} : (E.at ys).nx ρ μ = E.nx ys ρ μ := rfl
/-- a statement that hands out nothing and does not return -/
@[simp] def yPlain (t : TSD) : TYD := fun E ys ρ μ => t (E.at ys) ρ μ
@[simp] def yNext : TYD := fun E ys ρ μ => E.nx ys ρ μ
@[simp] def ySeq (t u : TYD) : TYD := fun E ys ρ μ => t { E with nx := fun ys ρ μ => u E ys ρ μ } ys ρ μ
/-- yield e -/
@[simp] def yYield (d : TED) : TYD := fun E ys ρ μ => ys.length < SZ ∧ d ρ μ fun x μ1 => E.nx (ys ++ [x]) ρ μ1
/-- if -/
@[simp] def yIf (tc : TTD) (t u : TYD) : TYD := fun E ys ρ μ => tc ρ μ fun b μ1 => if b = true then t E ys ρ μ1 else u E ys ρ μ1
/-- for -/
@[simp] def forY (g : TGD) (body : TYD) (E : DGE) (inv : Sto → Prop) : List D → List D → DEnv → Sto → Prop
  | [], ys, ρ, μ => inv μ ∧ E.nx ys ρ μ
  | x :: xs, ys, ρ, μ => inv μ ∧ g x ρ fun ρ1 => body { E with nx := forY g body E inv xs, ct := forY g body E inv xs, bk := E.nx } ys ρ1 μ
@[simp] def yFor (src : TSrc) (g : TGD) (body : TYD) : TYD := fun E ys ρ μ => src ρ μ fun items inv μ1 => forY g body E inv items ys ρ μ1
end
end DL

namespace DL
open PySem PySem.Spec PyProof.Rows L2 GW2 GenW

def cutH (h : Heap) (L : Nat) : Heap := { h with objs := h.objs.extract 0 L }
theorem cutH_size {h : Heap} {L : Nat} (hL : L ≤ h.objs.size) : (cutH h L).objs.size = L := by
  show (h.objs.extract 0 L).size = L
  simp; omega
theorem cutH_at {h : Heap} {L b : Nat} : (cutH h L).objs[b]? = if b < L then h.objs[b]? else none := by
  show (h.objs.extract 0 L)[b]? = _
  rw [Array.getElem?_extract]
  by_cases hb : b < L
  · by_cases h2 : b < h.objs.size
    · rw [if_pos hb, if_pos (by omega)]; simp
    · rw [if_pos hb, if_neg (by omega)]; simp; omega
  · rw [if_neg hb, if_neg (by omega)]
theorem cutH_get {h : Heap} {L b : Nat} (hb : b < L) : (cutH h L).get? b = h.get? b := by
  unfold Heap.get?
  rw [cutH_at, if_pos hb]
theorem of_cutH {h : Heap} {L b : Nat} {o : Obj} (e : (cutH h L).get? b = some o) : b < L ∧ h.get? b = some o := by
  have hb : b < L := by
    by_cases hb : b < L
    · exact hb
    · unfold Heap.get? at e
      rw [cutH_at, if_neg hb] at e
      cases e
  exact ⟨hb, by rw [← cutH_get hb]; exact e⟩

/-- what stands around a generator that a for statement walks: outer: the frames that run when it is woken; L: its own frame -/
structure WP where
  prog : Program
  w : World
  K : PySem.W.Frag
  mg : Str → Option Value
  base : Heap
  outer : List Env
  L : Addr
  os : OsState
/-- what its consumer knows when it wakes it -/
structure WSt (g : WP) (F : Hp) (μ : Sto) (H : Hp) (s : Shared) : Prop where
  os : s.os = g.os
  bare : AllBare s.gens
  sz : g.L ≤ s.heap.objs.size
  bs : ∀ b o, g.base.get? b = some o → s.heap.get? b = some o ∧ H b = none
  funs : s.heap.FunFrames g.base g.outer
  frf : ∀ b ∈ frs g.outer, H b = none
  hok : HOk g.prog g.w H s.heap
  okd : Ok g.K g.mg F μ H
/-- what does not change -/
structure WaOk (g : WP) (A : Around) : Prop where
  mod : Mod g.K g.mg g.base
  hd : A.handled = none
  frames : A.frames = some g.outer
  blt : g.base.objs.size ≤ g.L
  frl : ∀ b ∈ frs g.outer, b < g.L
/-- its def -/
structure WF where
  N : List Str
  qual : Str
  scope : Scope
  f : Addr
  cd : Value
abbrev WF.env (z : WF) (g : WP) : Env := envOfC z.qual z.scope g.L z.f z.cd
structure WDef (g : WP) (z : WF) : Prop where
  kind : z.scope.kind = .function
  cells : (z.env g).cells = []
  nofree : ∀ y ∈ z.scope.names, y.2 ≠ .free
  nocell : ∀ y ∈ z.scope.names, y.2 ≠ .cell
/-- its context, woken at s -/
@[reducible] def wcx (g : WP) (z : WF) (A : Around) (s : Shared) (H : Hp) : Cx where
  prog := g.prog
  w := g.w
  K := g.K
  mg := g.mg
  base := g.base
  A := A.deeper (z.env g)
  N := z.N
  s_0 := { s with heap := cutH s.heap g.L }
  H_0 := H
  env := z.env g
  outer := g.outer
  stack := z.env g :: g.outer
  ex := []
  fn := fun _ => true
  calm := true
  pn := []
  xe := fun _ _ => False
/-- the frame's object shows the slots -/
def LocOk (g : WP) (z : WF) (oL : Obj) (σ : L2.St) : Prop :=
  ∃ es ep, oL.data = .dict es ep ∧ StrKeys es ∧ ∀ (i : Nat) (x : Str) (v : V), z.N[i]? = some x → σ[i]? = some (some v) → Vis z.scope x → ∃ u, RelV v u ∧ (z.env g).kindOf x = some .local ∧ nsFind es x = some u
theorem locOk_of {g : WP} {z : WF} {X : Cx} {pins : List (Addr × Obj)} {σ : L2.St} {H : Hp} {s : Shared} (I : Inv X pins σ H s) (hX : X.env = z.env g) (hN : X.N = z.N) (hc : (z.env g).cells = []) : ∃ oL, s.heap.get? g.L = some oL ∧ (∀ v, oL.data ≠ .cell v) ∧ LocOk g z oL σ := by
  obtain ⟨m, ⟨o, es, ep, ho, hd, hk, hf⟩, hl⟩ := I.loc
  rw [hX] at ho
  refine ⟨o, ho, (fun v z => by rw [hd] at z; cases z), es, ep, hd, hk, fun i x v e1 e2 e3 => ?_⟩
  obtain ⟨u, r, l⟩ := hl i x v (by rw [hN]; exact e1) e2 (by rw [hX]; exact e3)
  rw [hX] at l
  rcases l with ⟨l1, l2⟩ | ⟨_, c, e, _⟩
  · exact ⟨u, r, l1, (hf x).trans l2⟩
  · rw [hc] at e; cases e
/-- things that nobody but the generator changes -/
def PinsOk (g : WP) (ps : List (Addr × Obj)) (H : Hp) (s : Shared) : Prop := ∀ p ∈ ps, s.heap.get? p.1 = some p.2 ∧ H p.1 = none ∧ g.L ≤ p.1 ∧ ∀ v, p.2.data ≠ .cell v
theorem wcx_inv {g : WP} {z : WF} {A : Around} {F : Hp} {μ : Sto} {H : Hp} {s : Shared} {oL : Obj} {σ : L2.St} {ip : List (Addr × Obj)} (W : WaOk g A) (hz : WDef g z) (St : WSt g F μ H s) (l : LocOk g z oL σ) (hl : σ.length = z.N.length)
    (hp : PinsOk g ((g.L, oL) :: ip) H s) (hip : ∀ p ∈ ip, p.1 ≠ g.L) : Inv (wcx g z A s H) ip σ H s := by
  have c0 : ∀ x c, (z.env g).cells.lookup x = some c → False := fun x c e => by rw [hz.cells] at e; cases e
  obtain ⟨eL, nL, _, dL⟩ := hp (g.L, oL) List.mem_cons_self
  have fl : ∀ {b}, b ∈ frs g.outer → b < g.L := fun {b} hb => W.frl b hb
  refine ⟨⟨W.mod, hz.kind, rfl, rfl, ?_, fun x y c e => (c0 x c e).elim, fun x hx => ?_, fun x c _ e => (c0 x c e).elim, fun _ => W.hd, Around.frames_deeper W.frames, .inr ⟨rfl, rfl⟩, fun b hb => (by cases hb), fun b o e => ?_, ?_, fun b o _ hb => (by cases hb), fun b hb => (by cases hb), ?_, St.frf⟩,
    rfl, St.bare, ⟨fun b o e _ _ _ => (of_cutH e).2, fun b o e _ _ _ => ⟨o.slots, (of_cutH e).2⟩, fun b o e n _ => n, fun b o e _ => ⟨o, (of_cutH e).2⟩, fun _ _ e => e, fun _ _ _ e => e, fun b ps e => ⟨#[], (by have e' : H b = some (.tbl ps) := e; rw [e']; simp)⟩⟩, ?_, fun x c e => (c0 x c e).elim, nL, fun x c e => (c0 x c e).elim, fun p hp' => ?_, St.hok, hl⟩
  · show (cutH s.heap g.L).objs.size ≤ g.L
    rw [cutH_size St.sz]; exact Nat.le_refl _
  · exfalso
    have hx : z.scope.names.lookup x = some .cell ∨ z.scope.names.lookup x = some .free := hx
    rcases hx with hx | hx
    · exact hz.nocell _ (PySem.mem_of_lookup hx) rfl
    · exact hz.nofree _ (PySem.mem_of_lookup hx) rfl
  · obtain ⟨h1, h2⟩ := St.bs b o e
    refine ⟨?_, h2⟩
    show (cutH s.heap g.L).get? b = some o
    rw [cutH_get (Nat.lt_of_lt_of_le (Heap.lt_size e) W.blt)]
    exact h1
  · show g.base.objs.size ≤ (cutH s.heap g.L).objs.size
    rw [cutH_size St.sz]; exact W.blt
  · show (cutH s.heap g.L).FunFrames g.base g.outer
    have all : ∀ l : List Env, (∀ b ∈ frs l, b < g.L) → s.heap.FunFrames g.base l → (cutH s.heap g.L).FunFrames g.base l := by
      intro l
      induction l with
      | nil => intro _ _; trivial
      | cons env r ih =>
        intro hs hl
        obtain ⟨hk, ⟨L', o, hf, hn, ho, hd⟩, hr⟩ := hl
        have hL : L' < g.L := hs L' (by unfold frs; rw [List.filterMap_cons, hf]; exact List.mem_cons_self)
        refine ⟨hk, ⟨L', o, hf, hn, (by rw [cutH_get hL]; exact ho), hd⟩, ih (fun b hb => hs b ?_) hr⟩
        unfold frs
        rw [List.filterMap_cons, hf]
        exact List.mem_cons_of_mem _ hb
    exact all g.outer W.frl St.funs
  · obtain ⟨es, ep, h1, h2, h3⟩ := l
    refine ⟨fun x => nsFind es x, ⟨oL, es, ep, eL, h1, h2, fun _ => rfl⟩, fun i x v e1 e2 e3 => ?_⟩
    obtain ⟨u, r, k1, k2⟩ := h3 i x v e1 e2 e3
    exact ⟨u, r, .inl ⟨k1, k2⟩⟩
  · have hp2 : p ∈ ip := by
      rcases List.mem_append.mp hp' with q | q
      · cases q
      · exact q
    obtain ⟨h1, h2, h3, h4⟩ := hp p (List.mem_cons_of_mem _ hp2)
    exact ⟨h1, h2, hip p hp2, fun hb => absurd (fl hb) (Nat.not_lt.mpr h3), h4⟩

structure Back (g : WP) (F : Hp) (μ : Sto) (H : Hp) (s : Shared) (F1 : Hp) (μ1 : Sto) (H1 : Hp) (s1 : Shared) : Prop where
  ext : Ext F μ H F1 μ1 H1
  okd : Ok g.K g.mg F1 μ1 H1
  hok : HOk g.prog g.w H1 s1.heap
  un : Un (frs g.outer) [] H H1 (cutH s.heap g.L) s1.heap
  os : s1.os = g.os
  bare : AllBare s1.gens
  same : μ1 = μ
/-- the items that are still to come are handed out one by one; gp: the generator's own object -/
def Out (g : WP) (A : Around) (inv : Sto → Prop) (gp : Addr × Obj) : List D → Hp → Sto → Hp → Shared → End → Shared → Prop
  | [], F, μ, H, s, e, s1 => e = .ret (.ok (.ret .none)) ∧ ∃ F1 μ1 H1, Back g F μ H s F1 μ1 H1 s1
  | x :: r, F, μ, H, s, e, s1 => ∃ v l k c p fs F1 μ1 H1 xv pv, e = .susp v false l k c p fs ∧ fs.any Frame.guarded = false ∧ Back g F μ H s F1 μ1 H1 s1 ∧ RelV xv v ∧ Dt g.K g.mg F1 xv x ∧ gp ∈ pv ∧ PinsOk g pv H1 s1 ∧
    ∀ F2 μ2 H2 s2, WSt g F2 μ2 H2 s2 → FLe F1 F2 → inv μ2 → PinsOk g pv H2 s2 → SegP (model g.prog g.w) A (Out g A inv gp r F2 μ2 H2 s2) c (k (.send .none)) fs s2

/-- what is wanted behind a statement; the list: the items still to come; inv: what the consumer keeps of what may change -/
structure DGW where
  nx : List D → DEnv → Sto → Prop
  bk : List D → DEnv → Sto → Prop := fun _ _ _ => False
  ct : List D → DEnv → Sto → Prop := fun _ _ _ => False
  inv : Sto → Prop
abbrev TWD := DGW → List D → DEnv → Sto → Prop
def WSP (Y : DGW) (fl : Flow) (r : List D) (ρ : DEnv) (μ : Sto) : Prop :=
  match fl with
  | .next => Y.nx r ρ μ
  | .brk => Y.bk r ρ μ
  | .cont => Y.ct r ρ μ
  | .ret _ => False
/-- where its code stands -/
structure WC (g : WP) (z : WF) (A : Around) (gp : Addr × Obj) (ip : List (Addr × Obj)) (c : Code) (fs : List Frame) (gd : Bool → Bool) : Prop where
  over : A.over c fs = A.deeper (z.env g)
  split : splitAtGen fs = none
  guard : fs.any Frame.guarded = false
  gd : gd false = false
  gp : gp ∈ ip
  ip : ∀ p ∈ ip, g.L < p.1
/-- what follows -/
structure WKt (g : WP) (z : WF) (A : Around) (gp : Addr × Obj) (ip : List (Addr × Obj)) (c : Code) (fs : List Frame) (K : Flow → Sem PySem.Fin) (Y : DGW) (Fb : Hp) : Prop where
  ok : ∀ (fl : Flow) (r : List D) (F0 : Hp) (μ0 : Sto) (H0 : Hp) (s0 : Shared) (F : Hp) (ρ : DEnv) (σ : L2.St) (H : Hp) (s : Shared), WSt g F0 μ0 H0 s0 → Inv (wcx g z A s0 H0) ip σ H s → RelB g.K g.mg ⟨F0, μ0, H0⟩ F ρ μ0 σ H → FLe Fb F → WSP Y fl r ρ μ0 →
    SegP (model g.prog g.w) A (Out g A Y.inv gp r F0 μ0 H0 s0) c (K fl) fs s
theorem WKt.mono {g : WP} {z : WF} {A : Around} {gp : Addr × Obj} {ip : List (Addr × Obj)} {c : Code} {fs : List Frame} {K : Flow → Sem PySem.Fin} {Y : DGW} {Fb Fc : Hp} (k : WKt g z A gp ip c fs K Y Fb) (h : FLe Fb Fc) : WKt g z A gp ip c fs K Y Fc :=
  ⟨fun fl r F0 μ0 H0 s0 F ρ σ H s a b d e => k.ok fl r F0 μ0 H0 s0 F ρ σ H s a b d (h.trans e)⟩
structure WSs (g : WP) (z : WF) (A : Around) (gp : Addr × Obj) (st : List Stmt) (d : TWD) : Prop where
  run : ∀ (ip : List (Addr × Obj)) (c : Code) (fs : List Frame) (K : Flow → Sem PySem.Fin) (J : Value → Sem PySem.Fin) (gd : Bool → Bool) (lv : List Value → List Value) (Y : DGW) (r : List D) (F0 : Hp) (μ0 : Sto) (H0 : Hp) (s0 : Shared) (F : Hp) (ρ : DEnv) (σ : L2.St) (H : Hp) (s : Shared),
    WC g z A gp ip c fs gd → WKt g z A gp ip c fs K Y F → WSt g F0 μ0 H0 s0 → Inv (wcx g z A s0 H0) ip σ H s → RelB g.K g.mg ⟨F0, μ0, H0⟩ F ρ μ0 σ H → d Y r ρ μ0 → SegP (model g.prog g.w) A (Out g A Y.inv gp r F0 μ0 H0 s0) c ((execs st (z.env g)).wrap K J gd lv) fs s
section
variable {g : WP} {z : WF} {A : Around} {gp : Addr × Obj} {st : Stmt} {rest : List Stmt} {pos yp : Pos}
@[simp] def wNext : TWD := fun E r ρ μ => E.nx r ρ μ
@[simp] def wSeq (t u : TWD) : TWD := fun E r ρ μ => t { E with nx := fun r ρ μ => u E r ρ μ } r ρ μ
@[simp] def wIf (tc : TTD) (t u : TWD) : TWD := fun E r ρ μ => tc ρ μ fun b μ1 => μ1 = μ ∧ if b = true then t E r ρ μ else u E r ρ μ
/-- no list of the frame's own -/
@[simp] def noOwn : DEnv → Bool
  | [] => true
  | some (.own _) :: _ => false
  | _ :: r => noOwn r
theorem noOwn_at : ∀ {ρ : DEnv}, noOwn ρ = true → ∀ (i : Nat) (xs : List D), ρ[i]? ≠ some (some (.own xs))
  | [], _, i, xs, e => by simp at e
  | none :: r, h, 0, xs, e => by simp at e
  | none :: r, h, i + 1, xs, e => noOwn_at (ρ := r) h i xs (by simpa using e)
  | some (.val d) :: r, h, 0, xs, e => by simp at e
  | some (.val d) :: r, h, i + 1, xs, e => noOwn_at (ρ := r) h i xs (by simpa using e)
  | some (.own ys) :: r, h, _, _, _ => by simp at h
@[simp] def wYield (d : TED) : TWD := fun E r ρ μ => noOwn ρ = true ∧ d ρ μ fun x μ1 => μ1 = μ ∧ ∃ r', r = x :: r' ∧ ∀ μ2, E.inv μ2 → E.nx r' ρ μ2
theorem rel_wake {K : PySem.W.Frag} {mg : Str → Option Value} {B : Bs} {F F2 H H2 : Hp} {ρ : DEnv} {μ μ2 : Sto} {σ : L2.St} (R : RelB K mg B F ρ μ σ H) (hn : noOwn ρ = true) (hF : FLe F F2) (o : Ok K mg F2 μ2 H2) : RelB K mg ⟨F2, μ2, H2⟩ F2 ρ μ2 σ H2 := by
  refine ⟨⟨o, R.rel.len, fun i s e => ?_, fun i j xs ys e => absurd e (noOwn_at hn i xs)⟩, .refl, fun i xs a e => absurd e (noOwn_at hn i xs)⟩
  obtain ⟨v, h1, h2⟩ := R.rel.slot i s e
  cases s with
  | val d => exact ⟨v, h1, Dt.mono hF h2⟩
  | own xs => exact absurd e (noOwn_at hn i xs)
end
end DL

namespace DL
open PySem PySem.Spec PyProof.Rows L2 GW2 GenW
section
variable {g : WP} {z : WF} {A : Around} {gp : Addr × Obj} {pos : Pos}
theorem WC.loop {ip : List (Addr × Obj)} {c c' : Code} {fs : List Frame} {gd : Bool → Bool} {k : Result → Sem PySem.Fin} {l kp : List Value} {p : Pos} (C : WC g z A gp ip c fs gd) (hw : c'.weight = 0) (hu : c'.cUnits = 0) :
    WC g z A gp ip c' (.ret k none (gd false) l c p kp :: fs) id where
  over := (over_loop hw hu).trans C.over
  split := by
    show (splitAtGen fs).map _ = none
    rw [C.split]; rfl
  guard := by
    show (gd false || fs.any Frame.guarded) = false
    rw [C.gd, C.guard]; rfl
  gd := rfl
  gp := C.gp
  ip := C.ip
@[simp] def forW (gt : TGD) (body : TWD) (E : DGW) (inv : Sto → Prop) : List D → List D → DEnv → Sto → Prop
  | [], r, ρ, μ => inv μ ∧ E.nx r ρ μ
  | x :: xs, r, ρ, μ => inv μ ∧ gt x ρ fun ρ1 => body { E with nx := forW gt body E inv xs, ct := forW gt body E inv xs, bk := E.nx } r ρ1 μ
@[simp] def wFor (src : TSrc) (gt : TGD) (body : TWD) : TWD := fun E r ρ μ => src ρ μ fun items inv μ1 => μ1 = μ ∧ forW gt body E inv items r ρ μ
end
end DL

namespace DL
open PySem PySem.Spec PyProof.Rows L2
/-- a generator def's promise over data: the arguments, the store, what is wanted of all that is handed out -/
abbrev DSpG := List D → Sto → (List D → Sto → Prop) → Prop
def liftPG (K : PySem.W.Frag) (mg : Str → Option Value) (S : DSpG) : SpG := fun vs H Q _ => ∃ F μ ds Qd, Ok K mg F μ H ∧ Dts K mg F vs ds ∧ S ds μ Qd ∧
  ∀ F' μ' H' ys dys, Ext F μ H F' μ' H' → Ok K mg F' μ' H' → Dts K mg F' ys dys → Qd dys μ' → Q ys H'
section
variable {P : Program} {w : World} {K : PySem.W.Frag} {mg : Str → Option Value} {base : Heap} {k : Nat} {f : Addr} {fd : FuncData} {ps : List Str} {S : DSpG}
/-- a generator def, by its body over data -/
theorem GFn.ofD {name qual : Str} {st : Stmt} {N : List Str} (D : Fun K name qual st f fd) (Sc : GScope N ps (defScope st)) (len : ∀ ds μ Q, S ds μ Q → ds.length = ps.length) (d : TYD)
    (hd : ∀ ds μ Q, S ds μ Q → d { nx := fun ys _ μ' => Q ys μ', rt := fun _ _ _ => False } [] (startD N.length ds) μ)
    (body : ∀ (cdv : Value) (A : Around) (outer : List Env) (s : Shared) (H : Hp) (E : XK) (pn : List (Addr × Obj)) (B : Bs), Room k (A.deeper (envOfC qual (defScope st) s.heap.objs.size f cdv)) →
      YSs (gcxOf P w K mg base N qual (defScope st) f cdv A outer s H E pn) B (defBody st) d) : GFn P w K mg base (k + 1) f fd ps (liftPG K mg S) := by
  obtain ⟨oc, od, kV, doc, pm, an, cdv, ct, osl, rfl, lk, hcd⟩ := D.ex
  refine gfn_of lk hcd Sc ?_ fun A outer s H vs Q E pn room hsp => ?_
  · rintro vs H Q E ⟨F, μ, ds, Qd, _, h2, h3, _⟩
    exact h2.length.trans (len _ _ _ h3)
  · obtain ⟨F, μ, ds, Qd, h1, h2, h3, h4⟩ := hsp
    refine ⟨_, body cdv A outer s H E pn ⟨F, μ, H⟩ room, ?_⟩
    refine ⟨F, startD N.length ds, μ, [], { nx := fun ys _ μ' => Qd ys μ', rt := fun _ _ _ => False }, start_rel h1 h2, .nil, hd _ _ _ h3, ?_, fun _ _ _ _ _ _ _ _ _ _ z => z.elim, fun _ _ _ _ _ _ _ _ _ _ z => z.elim, fun _ _ _ _ _ _ _ _ _ _ _ z => z.elim⟩
    exact fun F' ρ' μ' σ' H' ys' ds' _ R w q => h4 F' μ' H' ys' ds' R.ext R.rel.ok w q
end
def selG : List (Str × DSpG) → Str → (DSpG → Prop) → Prop
  | [], _, _ => False
  | (d, S) :: r, c, k => if c = d then k S else selG r c k
@[simp] theorem selG_1 {c d : Str} {S : DSpG} {r : List (Str × DSpG)} {k : DSpG → Prop} : selG ((d, S) :: r) c k = if c = d then k S else selG r c k := rfl
@[simp] def dGen (m : Str) (Ss : List (Str × DSpG)) (o : TED) : DEnv → Sto → (List D → Sto → Prop) → Prop := fun ρ μ Q => o ρ μ fun x μ1 => insK (insOf μ1 x) fun c fs => noF fs m ∧ selG Ss c fun S => S [x] μ1 Q
section
variable {X : Cx} {o : Expr} {do' : TED} {m nm : Str} {p pos pos' apos : Pos} {k : Nat} {Ss : List (Str × DSpG)}
/-- list(o.m()), m a generator -/
@[simp] def dListG (m : Str) (Ss : List (Str × DSpG)) (o : TED) : TED := fun ρ μ Q => dGen m Ss o ρ μ fun ys μ1 => Q (.lst ys) μ1
end
end DL

namespace DL
open PySem PySem.Spec PyProof.Rows L2 GW2 GenW
/-- the promise: the arguments, the store; the items, and what the consumer keeps of the store -/
abbrev DSpW := List D → Sto → (List D → (Sto → Prop) → Prop) → Prop
abbrev wpOf (P : Program) (w : World) (K : PySem.W.Frag) (mg : Str → Option Value) (base : Heap) (outer : List Env) (s : Shared) (L : Addr) : WP := ⟨P, w, K, mg, base, outer, L, s.os⟩
/-- a generator that has not begun -/
def WMade (P : Program) (w : World) (K : PySem.W.Frag) (mg : Str → Option Value) (base : Heap) (k : Nat) (outer : List Env) (items : List D) (inv : Sto → Prop) (F : Hp) (H : Hp) (s : Shared) (u : Value) (s' : Shared) : Prop :=
  ∃ (L a : Addr) (gi : Nat) (c : Code) (go oL : Obj), u = .ref a ∧ s.heap.objs.size ≤ L ∧ (∀ h : Heap, h.get? a = some go → h.IsGen a gi) ∧ s'.gens[gi]? = some (.fresh c) ∧ s'.os = s.os ∧ AllBare s'.gens ∧
    (∀ b o, s.heap.get? b = some o → s'.heap.get? b = some o) ∧ PinsOk (wpOf P w K mg base outer s L) [(L, oL), (a, go)] H s' ∧ L ≤ s'.heap.objs.size ∧
    ∀ (A : Around), Room k A → A.frames = some outer → ∀ F2 μ2 H2 s2, WSt (wpOf P w K mg base outer s L) F2 μ2 H2 s2 → FLe F F2 → inv μ2 → PinsOk (wpOf P w K mg base outer s L) [(L, oL), (a, go)] H2 s2 →
      SegP (model P w) A (Out (wpOf P w K mg base outer s L) A inv (a, go) items F2 μ2 H2 s2) c ((model P w).den c) [] s2
structure GFnW (P : Program) (w : World) (K : PySem.W.Frag) (mg : Str → Option Value) (base : Heap) (k : Nat) (f : Addr) (fd : FuncData) (ps : List Str) (S : DSpW) : Prop where
  len : ∀ ds μ Q, S ds μ Q → ds.length = ps.length
  run : ∀ (A : Around) (outer : List Env) (s : Shared) (H : Hp) (args : Args) (us : List Value) (vs : List V) (F : Hp) (μ : Sto) (ds : List D) (Q : List D → (Sto → Prop) → Prop), Room k A → Env0 P w K mg base A outer s H → BindsTo s fd args (ps.zip us) → Vals vs us → Ok K mg F μ H → Dts K mg F vs ds → S ds μ Q →
    codeAny (model P w) A (.call (.ref f) args) (fun r s' => match r with | .ok (.ret u) => ∃ items inv, Q items inv ∧ WMade P w K mg base k outer items inv F H s u s' | _ => False) s
section
variable {P : Program} {w : World} {K : PySem.W.Frag} {mg : Str → Option Value} {base : Heap} {k : Nat} {f : Addr} {fd : FuncData} {ps : List Str} {S : DSpW}
theorem GFnW.of {name qual : Str} {st : Stmt} {N : List Str} (D : Fun K name qual st f fd) (Sc : GScope N ps (defScope st)) (hnc : ∀ y ∈ (defScope st).names, y.2 ≠ .cell) (len : ∀ ds μ Q, S ds μ Q → ds.length = ps.length) (d : TWD)
    (hd : ∀ ds μ Q, S ds μ Q → ∃ items inv, Q items inv ∧ ∀ μ2, inv μ2 → d { nx := fun r _ _ => r = [], inv := inv } items (startD N.length ds) μ2)
    (body : ∀ (cdv : Value) (A : Around) (g : WP) (gp : Addr × Obj), g.prog = P → g.w = w → g.K = K → g.mg = mg → g.base = base → WaOk g A → WDef g ⟨N, qual, defScope st, f, cdv⟩ → Room k (A.deeper (envOfC qual (defScope st) g.L f cdv)) →
      WSs g ⟨N, qual, defScope st, f, cdv⟩ A gp (defBody st) d) : GFnW P w K mg base (k + 1) f fd ps S := by
  obtain ⟨oc, od, kV, doc, pm, an, cdv, ct, osl, rfl, lk, hcd⟩ := D.ex
  refine ⟨len, fun A outer s H args us vs F μ ds Q hr e0 hb r hO hD hsp => ?_⟩
  have hl : vs.length = ps.length := hD.length.trans (len _ _ _ hsp)
  have KX : K.In s.heap := e0.mod.kin.keeps fun b o e => (e0.bs b o e).1
  have lim : s.heap.NoLimit := e0.mod.nolimit.keeps fun b o e => (e0.bs b o e).1
  have hkind : ∀ y ∈ ps.zip us, (defScope st).names.lookup y.1 = some .local ∨ ((defScope st).names.lookup y.1 = some .cell ∧ ((cellsFrom (s.heap.objs.size + 1) (defScope st).names []).lookup y.1).isSome = true) := fun ⟨n, v⟩ hy => by
    rcases Sc.par n (List.of_mem_zip hy).1 with q | q
    · exact .inl q
    · exact .inr ⟨q, PySem.W.cellsFrom_some _ _ _ (.inl q)⟩
  refine codeAny_call_generator hr.depth (KX _ _ lk) rfl Sc.co Sc.gen rfl (PySem.W.codeRec_of KX hcd) (hb _ _ _ _ ?_)
  refine wpAny_newFunctionEnv_cells Sc.kind hkind fun env he s1 x => ?_
  subst he
  have lim1 : s1.heap.NoLimit := lim.keeps x.toInCall.keep
  refine ⟨lim1, ?_⟩
  obtain ⟨h1, tk, es1, hk1⟩ := x.done
  have os1 : s1.os = s.os := by rw [es1]
  have gen1 : s1.gens = s.gens := by rw [es1]
  have lt1 : s.heap.objs.size < s1.heap.objs.size := x.toInCall.ns.lt
  have sz1 : s.heap.objs.size ≤ s1.heap.objs.size := Nat.le_of_lt lt1
  have kp1 : ∀ b o, s.heap.get? b = some o → s1.heap.get? b = some o := x.toInCall.keep
  obtain ⟨items, inv, hQ, hrun⟩ := hd ds μ Q hsp
  have cells0 : ∀ (n : Nat) (l : List (Str × NameKind)), (∀ y ∈ l, y.2 ≠ .cell) → cellsFrom n l [] = [] := fun n l => by
    induction l with
    | nil => intro _; rfl
    | cons y l ih =>
      intro h
      obtain ⟨a, b⟩ := y
      have hb := h (a, b) List.mem_cons_self
      have hl := ih fun z hz => h z (List.mem_cons_of_mem _ hz)
      cases b <;> first | exact hl | exact absurd rfl hb
  have I1 : Inv (gcxOf P w K mg base N qual (defScope st) f cdv A outer s H (fun _ _ _ => False) []) [] (L2.start N vs) H s1 := inv_startG Sc hr.hd e0 hl r x
  have hz : WDef (wpOf P w K mg base outer s s.heap.objs.size) ⟨N, qual, defScope st, f, cdv⟩ := ⟨Sc.kind, cells0 _ _ hnc, Sc.nofree, hnc⟩
  obtain ⟨oL, eL, dL, lL⟩ := locOk_of (g := wpOf P w K mg base outer s s.heap.objs.size) (z := ⟨N, qual, defScope st, f, cdv⟩) I1 rfl rfl hz.cells
  have eL' : s1.heap.get? s.heap.objs.size = some oL := eL
  have frl : ∀ b ∈ frs outer, b < s.heap.objs.size := fun b hb => by
    obtain ⟨_, o, ho, _⟩ := e0.funs.mem hb
    exact Heap.lt_size ho
  have main : ∀ (go : Obj) (nm qn : Value) (tk2 : Nat), go.cls = .type "generator" → go.data = .fields #[.int s1.gens.size 0, nm, qn] → go.slots = #[] → (∀ h : Heap, (h.push go).get? h.objs.size = some go) →
      WMade P w K mg base (k + 1) outer items inv F H s (.ref s1.heap.objs.size) { s1 with gens := s1.gens.push (.fresh (.func (defBody st) (envOfC qual (defScope st) s.heap.objs.size f cdv))), toks := tk2, heap := s1.heap.push go } := by
    intro go nm qn tk2 hgc hgd0 hgs hgp
    have hpushed : (s1.heap.push go).get? s1.heap.objs.size = some go := hgp _
    have hgd : ∀ v, go.data ≠ .cell v := fun v q => by rw [hgd0] at q; cases q
    refine ⟨s.heap.objs.size, s1.heap.objs.size, s1.gens.size, _, go, oL, rfl, Nat.le_refl _, fun h e => ⟨go, nm, qn, e, hgc, hgd0, hgs⟩, Array.getElem?_push_size .., os1, ?_, fun b o e => Heap.get?_push_of_some _ (kp1 b o e), ?_, ?_, ?_⟩
    · exact AllBare.push (by rw [gen1]; exact e0.bare) rfl
    · intro p hp
      rcases List.mem_cons.mp hp with hp | hp
      · rw [hp]; exact ⟨Heap.get?_push_of_some _ eL', I1.free, Nat.le_refl _, dL⟩
      · rw [List.mem_singleton.mp hp]; exact ⟨hpushed, I1.hok.fresh (Nat.le_refl _), sz1, hgd⟩
    · show _ ≤ (s1.heap.push go).objs.size
      rw [Heap.size_push]; omega
    intro Aw hrw hfr F2 μ2 H2 s2 St2 hF hi2 hp
    have W : WaOk (wpOf P w K mg base outer s s.heap.objs.size) Aw := ⟨e0.mod, hrw.hd, hfr, e0.bsz, frl⟩
    have pne : ∀ p ∈ [(s1.heap.objs.size, go)], p.1 ≠ s.heap.objs.size := fun p hp => by rw [List.mem_singleton.mp hp]; exact Nat.ne_of_gt lt1
    have hlen : (L2.start N vs).length = N.length := I1.len
    have I2 := wcx_inv (A := Aw) (ip := [(s1.heap.objs.size, go)]) W hz St2 lL hlen hp pne
    refine sp_func ?_
    have C0 : WC (wpOf P w K mg base outer s s.heap.objs.size) ⟨N, qual, defScope st, f, cdv⟩ Aw (s1.heap.objs.size, go) [(s1.heap.objs.size, go)] (.func (defBody st) (envOfC qual (defScope st) s.heap.objs.size f cdv)) [] id :=
      ⟨over_func, rfl, rfl, rfl, List.mem_singleton.mpr rfl, fun p hp => by rw [List.mem_singleton.mp hp]; exact lt1⟩
    refine (body cdv Aw (wpOf P w K mg base outer s s.heap.objs.size) (s1.heap.objs.size, go) rfl rfl rfl rfl rfl W hz (hrw.deeper _)).run [(s1.heap.objs.size, go)] _ [] _ _ id id { nx := fun r _ _ => r = [], inv := inv } items F2 μ2 H2 s2 F2 (startD N.length ds) (L2.start N vs) H2 s2 C0 ⟨fun fl r F0 μ0 H0 s0 F3 ρ3 σ3 H3 s3 St3 I3 R3 hF3 q3 => ?_⟩ St2 I2
      (start_rel St2.okd (hD.mono hF)) (hrun μ2 hi2)
    cases fl with
    | next =>
      have e3 : r = [] := q3
      subst e3
      exact sp_end (.ok (.ret .none)) ⟨rfl, F3, μ0, H3, R3.ext, R3.rel.ok, I3.hok, I3.base, I3.os.trans St3.os, I3.bare, rfl⟩
    | brk => exact q3.elim
    | cont => exact q3.elim
    | ret u => exact q3.elim
  exact ⟨items, inv, hQ, main _ _ _ _ rfl rfl rfl fun h => Heap.get?_push_size _ rfl⟩
end
def selW : List (Str × DSpW) → Str → (DSpW → Prop) → Prop
  | [], _, _ => False
  | (d, S) :: r, c, k => if c = d then k S else selW r c k
@[simp] theorem selW_1 {c d : Str} {S : DSpW} {r : List (Str × DSpW)} {k : DSpW → Prop} : selW ((d, S) :: r) c k = if c = d then k S else selW r c k := rfl
/-- o.m() as a source of a for statement -/
@[simp] def dWalk (m : Str) (Ss : List (Str × DSpW)) (o : TED) : TSrc := fun ρ μ Q => o ρ μ fun x μ1 => insK (insOf μ1 x) fun c fs => noF fs m ∧ selW Ss c fun S => S [x] μ1 fun items inv => Q items inv μ1
end DL

namespace DL
open PySem PySem.Spec PyProof.Rows L2 GW2 GenW YM

abbrev nog (s : Shared) : Shared := { s with gens := #[] }
section
variable {X : Cx} {pins : List (Addr × Obj)} {σ : L2.St} {H : Hp} {s : Shared}
theorem inv_nog {gb : Array GenState} (I : Inv X pins σ H { s with gens := gb }) : Inv X pins σ H (nog s) := ⟨I.ok, I.os, .empty, I.base, I.loc, I.cell, I.free, I.freeC, I.pin, I.hok, I.len⟩
theorem inv_any {gb : Array GenState} (I : Inv X pins σ H (nog s)) (h : AllBare gb) : Inv X pins σ H { s with gens := gb } := ⟨I.ok, I.os, h, I.base, I.loc, I.cell, I.free, I.freeC, I.pin, I.hok, I.len⟩
theorem inv_dull (I : Inv X pins σ H (nog s)) : Inv X pins σ H (Shared.dull s) := inv_any I (dull_all _)
end
/-- a generator's own object -/
structure GLike (gi : Nat) (o : Obj) : Prop where
  cls : o.cls = .type "generator"
  dat : ∃ nm qn, o.data = .fields #[.int gi 0, nm, qn]
  slots : o.slots = #[] ∨ o.slots = #[some (.int 0 0)]
theorem GLike.noCell {gi : Nat} {o : Obj} (h : GLike gi o) : ∀ v, o.data ≠ .cell v := fun v e => by obtain ⟨_, _, q⟩ := h.dat; rw [q] at e; cases e
/-- other generators that sleep -/
def GPins (gi : Nat) (gv : List (Nat × GenState)) (s : Shared) : Prop := ∀ x ∈ gv, s.gens[x.1]? = some x.2 ∧ isS x.2 = true ∧ gi < x.1
theorem GPins.kp {gi : Nat} {gv : List (Nat × GenState)} {s s' : Shared} (h : GPins gi gv s) (k : Kp s s') : GPins gi gv s' := fun x hx => let ⟨a, b, c⟩ := h x hx; ⟨k.old _ _ a b, b, c⟩
theorem GPins.set {gi : Nat} {gv : List (Nat × GenState)} {s : Shared} {x : GenState} (h : GPins gi gv s) : GPins gi gv (s.setGen gi x) := fun y hy => by
  obtain ⟨a, b, c⟩ := h y hy
  refine ⟨?_, b, c⟩
  show (s.gens.setIfInBounds gi x)[y.1]? = _
  rw [Array.getElem?_setIfInBounds_ne (Nat.ne_of_lt c)]
  exact a
theorem GPins.nil {gi : Nat} {s : Shared} : GPins gi [] s := fun x hx => by cases hx
def Flag (s : Shared) (i : Nat) : Prop := ∃ k l c p fs, s.gens[i]? = some (.suspended k l c p fs true)
/-- from s on, where gv slept within, to s1, where gl sleeps within: who sleeps loudly at s1 slept so at s and is none of gv, or is one of gl; all others sleep on -/
structure Acc (s : Shared) (gv : List (Nat × GenState)) (s1 : Shared) (gl : List (Nat × GenState)) : Prop where
  new : ∀ i, Flag s1 i → (s1.gens[i]? = s.gens[i]? ∧ ∀ x ∈ gv, x.1 ≠ i) ∨ ∃ x ∈ gl, x.1 = i
  old : ∀ i y, s.gens[i]? = some y → isS y = true → (∀ x ∈ gv, x.1 ≠ i) → s1.gens[i]? = some y
  fr : ∀ x ∈ gl, s.gens.size ≤ x.1 ∨ ∃ y ∈ gv, y.1 = x.1
  size : s.gens.size ≤ s1.gens.size
/-- what a loud sleeper sleeps over is pinned -/
def ChE (pins : List (Addr × Obj)) (gs : GenState) : Prop := ∀ k l c p fs, gs = .suspended k l c p fs true → fs.any Frame.guarded = false ∧ ∃ a xs kw o, c = .builtin "proto.yield_from" ⟨.ref a :: xs, kw⟩ ∧ (a, o) ∈ pins ∧ o.genNumber?.isSome = true
def ChOk (pins : List (Addr × Obj)) (gl : List (Nat × GenState)) : Prop := ∀ x ∈ gl, ChE pins x.2
theorem ChE.mono {p q : List (Addr × Obj)} {gs : GenState} (h : ChE p gs) (k : ∀ x ∈ p, x ∈ q) : ChE q gs := fun a b c d e z => by
  obtain ⟨h1, x, xs, kw, o, h2, h3, h4⟩ := h a b c d e z
  exact ⟨h1, x, xs, kw, o, h2, k _ h3, h4⟩
theorem ChOk.mono {p q : List (Addr × Obj)} {gl : List (Nat × GenState)} (h : ChOk p gl) (k : ∀ x ∈ p, x ∈ q) : ChOk q gl := fun x hx => (h x hx).mono k
theorem ChOk.nil {p : List (Addr × Obj)} : ChOk p [] := fun x hx => by cases hx
theorem flag_dim {s s' : Shared} {gb : Array GenState} {i : Nat} (S : Dim s.gens gb s'.gens) (hb : AllBare gb) (h : Flag s' i) : s'.gens[i]? = s.gens[i]? := by
  obtain ⟨k, l, c, p, fs, e⟩ := h
  by_cases hn : ∀ y, s.gens[i]? = some y → isS y = false
  · obtain ⟨q, _⟩ := S.new i hn
    have := hb _ (Array.mem_of_getElem? (q.trans e))
    cases this
  · have : ∃ y, s.gens[i]? = some y ∧ isS y = true := by
      refine Classical.byContradiction fun z => hn fun y hy => ?_
      cases q : isS y with
      | false => rfl
      | true => exact absurd ⟨y, hy, q⟩ z
    obtain ⟨y, hy, q⟩ := this
    rw [(S.old i y hy q).2, hy]
theorem Flag.back {s s' : Shared} {i : Nat} (h : Flag s' i) (e : s'.gens[i]? = s.gens[i]?) : Flag s i := by
  obtain ⟨k, l, c, p, fs, z⟩ := h
  exact ⟨k, l, c, p, fs, e ▸ z⟩
theorem Acc.dim {s0 s s' : Shared} {gv gl : List (Nat × GenState)} {gb : Array GenState} (h : Acc s0 gv s gl) (S : Dim s.gens gb s'.gens) (hb : AllBare gb) : Acc s0 gv s' gl where
  new := fun i hi => by
    have e := flag_dim S hb hi
    rcases h.new i (hi.back e) with ⟨q, q2⟩ | q
    · exact .inl ⟨e.trans q, q2⟩
    · exact .inr q
  old := fun i y e q n => (Kp.ofDim S).old i y (h.old i y e q n) q
  fr := h.fr
  size := Nat.le_trans h.size (Kp.ofDim S).size
theorem Acc.refl {s : Shared} {gl : List (Nat × GenState)} : Acc s gl s gl where
  new := fun i _ => by
    by_cases h : ∃ x ∈ gl, x.1 = i
    · exact .inr h
    · exact .inl ⟨rfl, fun x hx e => h ⟨x, hx, e⟩⟩
  old := fun i y e _ _ => e
  fr := fun x hx => .inr ⟨x, hx, rfl⟩
  size := Nat.le_refl _
theorem Acc.trans {s s1 s2 : Shared} {gv gl gl2 : List (Nat × GenState)} (h : Acc s gv s1 gl) (h2 : Acc s1 gl s2 gl2) : Acc s gv s2 gl2 where
  new := fun i hi => by
    rcases h2.new i hi with ⟨q, q2⟩ | q
    · rcases h.new i (hi.back q) with ⟨z, z2⟩ | ⟨x, hx, z⟩
      · exact .inl ⟨q.trans z, z2⟩
      · exact absurd z (q2 x hx)
    · exact .inr q
  old := fun i y e q n => h2.old i y (h.old i y e q n) q fun x hx ex => by
    rcases h.fr x hx with z | ⟨w, hw, z⟩
    · have := (Array.getElem?_eq_some_iff.mp e).1
      omega
    · exact n w hw (z.trans ex)
  fr := fun x hx => by
    rcases h2.fr x hx with z | ⟨y, hy, z⟩
    · exact .inl (Nat.le_trans h.size z)
    · rcases h.fr y hy with q | ⟨w, hw, q⟩
      · exact .inl (z ▸ q)
      · exact .inr ⟨w, hw, q.trans z⟩
  size := Nat.le_trans h.size h2.size
theorem setGen_ne {s : Shared} {g i : Nat} {x : GenState} (h : i ≠ g) : (s.setGen g x).gens[i]? = s.gens[i]? := by
  show (s.gens.setIfInBounds g x)[i]? = _
  rw [Array.getElem?_setIfInBounds_ne (Ne.symm h)]
/-- one wake of gi1, that sleeps within -/
theorem Acc.turn {s0 s s1 : Shared} {gv0 gv1 gv1' gl : List (Nat × GenState)} {gi1 : Nat} {gs1 x x' : GenState} (h : Acc s0 gv0 s ((gi1, gs1) :: (gv1 ++ gl))) (h1 : Acc (s.setGen gi1 .running) gv1 s1 gv1') : Acc s0 gv0 (s1.setGen gi1 x) ((gi1, x') :: (gv1' ++ gl)) where
  new := fun i hi => by
    by_cases hg : i = gi1
    · exact .inr ⟨_, List.mem_cons_self, hg.symm⟩
    obtain ⟨k, l, c, p, fs, e⟩ := hi
    rw [setGen_ne hg] at e
    rcases h1.new i ⟨k, l, c, p, fs, e⟩ with ⟨q, q2⟩ | ⟨y, hy, q⟩
    · rw [setGen_ne hg] at q
      rcases h.new i ⟨k, l, c, p, fs, q ▸ e⟩ with ⟨z, z2⟩ | ⟨y, hy, z⟩
      · exact .inl ⟨by rw [setGen_ne hg, q, z], z2⟩
      · rcases List.mem_cons.mp hy with hy | hy
        · exact absurd (by rw [← z, hy]) hg
        rcases List.mem_append.mp hy with hy | hy
        · exact absurd z (q2 y hy)
        · exact .inr ⟨y, List.mem_cons_of_mem _ (List.mem_append_right _ hy), z⟩
    · exact .inr ⟨y, List.mem_cons_of_mem _ (List.mem_append_left _ hy), q⟩
  old := fun i y e q n => by
    have hi : i < s0.gens.size := (Array.getElem?_eq_some_iff.mp e).1
    have ne : ∀ z ∈ (gi1, gs1) :: (gv1 ++ gl), z.1 ≠ i := fun z hz ez => by
      rcases h.fr z hz with q | ⟨w, hw, q⟩
      · omega
      · exact n w hw (q.trans ez)
    have hg : i ≠ gi1 := fun z => ne _ List.mem_cons_self z.symm
    rw [setGen_ne hg]
    refine h1.old i y (by rw [setGen_ne hg]; exact h.old i y e q n) q fun z hz => ne z (List.mem_cons_of_mem _ (List.mem_append_left _ hz))
  fr := fun z hz => by
    rcases List.mem_cons.mp hz with hz | hz
    · rw [hz]; exact h.fr (gi1, gs1) List.mem_cons_self
    rcases List.mem_append.mp hz with hz | hz
    · rcases h1.fr z hz with q | ⟨y, hy, q⟩
      · rw [setGen_size] at q
        exact .inl (Nat.le_trans h.size q)
      · rcases h.fr y (List.mem_cons_of_mem _ (List.mem_append_left _ hy)) with q2 | ⟨w, hw, q2⟩
        · exact .inl (q ▸ q2)
        · exact .inr ⟨w, hw, q2.trans q⟩
    · exact h.fr z (List.mem_cons_of_mem _ (List.mem_append_right _ hz))
  size := by
    have := h1.size
    rw [setGen_size] at this ⊢
    exact Nat.le_trans h.size this
/-- .. that is done -/
theorem Acc.less {s0 s : Shared} {gv0 gl : List (Nat × GenState)} {y : Nat × GenState} (h : Acc s0 gv0 s (y :: gl)) (n : ¬ Flag s y.1) : Acc s0 gv0 s gl where
  new := fun i hi => by
    rcases h.new i hi with q | ⟨z, hz, q⟩
    · exact .inl q
    · rcases List.mem_cons.mp hz with hz | hz
      · rw [← q, hz] at hi; exact absurd hi n
      · exact .inr ⟨z, hz, q⟩
  old := h.old
  fr := fun z hz => h.fr z (List.mem_cons_of_mem _ hz)
  size := h.size
theorem Acc.more {s0 s : Shared} {gv0 gl : List (Nat × GenState)} {y : Nat × GenState} (h : Acc s0 gv0 s gl) (n : s0.gens.size ≤ y.1) : Acc s0 gv0 s (y :: gl) where
  new := fun i hi => by
    rcases h.new i hi with q | ⟨z, hz, q⟩
    · exact .inl q
    · exact .inr ⟨z, List.mem_cons_of_mem _ hz, q⟩
  old := h.old
  fr := fun z hz => by
    rcases List.mem_cons.mp hz with hz | hz
    · rw [hz]; exact .inl n
    · exact h.fr z hz
  size := h.size
/-- others within sleep on -/
theorem Acc.others {s s1 : Shared} {gv1 gv1' gl : List (Nat × GenState)} {gi gi1 : Nat} {x : GenState} (h1 : Acc (s.setGen gi1 .running) gv1 s1 gv1') (hg : GPins gi gl s) (dj : ∀ x ∈ gl, x.1 ≠ gi1 ∧ ∀ y ∈ gv1, y.1 ≠ x.1) :
    GPins gi gl (s1.setGen gi1 x) ∧ ∀ x ∈ gl, x.1 ≠ gi1 ∧ ∀ y ∈ gv1', y.1 ≠ x.1 := by
  refine ⟨fun y hy => ?_, fun y hy => ⟨(dj y hy).1, fun z hz e => ?_⟩⟩
  · obtain ⟨a, b, c⟩ := hg y hy
    obtain ⟨d1, d2⟩ := dj y hy
    refine ⟨?_, b, c⟩
    rw [setGen_ne d1]
    exact h1.old _ _ (by rw [setGen_ne d1]; exact a) b d2
  · rcases h1.fr z hz with q | ⟨w, hw, q⟩
    · rw [setGen_size] at q
      have := (Array.getElem?_eq_some_iff.mp (hg y hy).1).1
      omega
    · exact (dj y hy).2 w hw (q.trans e)
theorem not_flag {s : Shared} {g : Nat} : ¬ Flag (s.setGen g .finished) g := fun ⟨k, l, c, p, fs, e⟩ => by
  by_cases h : g < s.gens.size
  · rw [setGen_at h] at e; cases e
  · have : (s.setGen g .finished).gens.size ≤ g := by rw [setGen_size]; omega
    rw [Array.getElem?_eq_none this] at e; cases e
/-- the table amid a run of the generator gi: s0, gv0 at the wake, gl: who sleeps within -/
structure GSt (gi : Nat) (s0 : Shared) (gv0 gl : List (Nat × GenState)) (s : Shared) : Prop where
  size : gi < s.gens.size
  acc : Acc s0 gv0 s gl
  pins : GPins gi gl s
theorem GSt.kp {gi : Nat} {s0 s s' : Shared} {gv0 gl : List (Nat × GenState)} {gb : Array GenState} (h : GSt gi s0 gv0 gl s) (S : Dim s.gens gb s'.gens) (hb : AllBare gb) : GSt gi s0 gv0 gl s' :=
  ⟨Nat.lt_of_lt_of_le h.size (Kp.ofDim S).size, h.acc.dim S hb, h.pins.kp (Kp.ofDim S)⟩
/-- the items that are still to come are handed out one by one; ga, go: the generator's own object, gi: its number -/
def OutM (g : WP) (gi : Nat) (A : Around) (inv : Sto → Prop) (ga : Addr) : List D → List (Nat × GenState) → Obj → Hp → Sto → Hp → Shared → End → Shared → Prop
  | [], gv0, go, F, μ, H, s, e, s1 => e = .ret (.ok (.ret .none)) ∧ gi < s1.gens.size ∧ Acc s gv0 s1 [] ∧ ∃ F1 μ1 H1, Back g F μ H s F1 μ1 H1 (nog s1) ∧ PinsOk g [(ga, go)] H1 s1
  | x :: r, gv0, go, F, μ, H, s, e, s1 => ∃ v fl l k c p fs F1 μ1 H1 xv pv gv, e = .susp v fl l k c p fs ∧ BenE s1 e ∧ Back g F μ H s F1 μ1 H1 (nog s1) ∧ RelV xv v ∧ Dt g.K g.mg F1 xv x ∧ PinsOk g ((ga, go) :: pv) H1 s1 ∧ (∀ p ∈ pv, p.1 ≠ ga) ∧ GPins gi gv s1 ∧ gi < s1.gens.size ∧ Acc s gv0 s1 gv ∧ ChE pv e.genState ∧ ChOk pv gv ∧
    ∀ go' F2 μ2 H2 s2, GLike gi go' → WSt g F2 μ2 H2 (nog s2) → FLe F1 F2 → inv μ2 → PinsOk g ((ga, go') :: pv) H2 s2 → GPins gi gv s2 → gi < s2.gens.size → SegM g.prog g.w A (OutM g gi A inv ga r gv go' F2 μ2 H2 s2) c (k (.send .none)) fs s2
theorem OutM.ben {g : WP} {gi : Nat} {A : Around} {inv : Sto → Prop} {ga : Addr} {items : List D} {gv0 : List (Nat × GenState)} {go : Obj} {F : Hp} {μ : Sto} {H : Hp} {s s1 : Shared} {e : End} (h : OutM g gi A inv ga items gv0 go F μ H s e s1) : BenE s1 e := by
  cases items with
  | nil => exact .inl (by rw [h.1]; rfl)
  | cons x r => obtain ⟨_, _, _, _, _, _, _, _, _, _, _, _, _, _, h, _⟩ := h; exact h

structure WCM (g : WP) (z : WF) (A : Around) (ga : Addr) (ip : List (Addr × Obj)) (gl : List (Nat × GenState)) (c : Code) (fs : List Frame) (gd : Bool → Bool) : Prop where
  over : A.over c fs = A.deeper (z.env g)
  split : splitAtGen fs = none
  guard : fs.any Frame.guarded = false
  gd : gd false = false
  lo : g.L < ga
  ch : ChOk ip gl
  ip : ∀ p ∈ ip, g.L < p.1 ∧ p.1 ≠ ga
structure WKM (g : WP) (z : WF) (gi : Nat) (A : Around) (ga : Addr) (ip : List (Addr × Obj)) (gl : List (Nat × GenState)) (c : Code) (fs : List Frame) (K : Flow → Sem PySem.Fin) (Y : DGW) (Fb : Hp) : Prop where
  ok : ∀ (fl : Flow) (r : List D) (go : Obj) (F0 : Hp) (μ0 : Sto) (H0 : Hp) (s0 : Shared) (gv0 : List (Nat × GenState)) (F : Hp) (ρ : DEnv) (σ : L2.St) (H : Hp) (s : Shared), GLike gi go → WSt g F0 μ0 H0 (nog s0) → Inv (wcx g z A (nog s0) H0) ((ga, go) :: ip) σ H (nog s) → RelB g.K g.mg ⟨F0, μ0, H0⟩ F ρ μ0 σ H → FLe Fb F → GSt gi s0 gv0 gl s → WSP Y fl r ρ μ0 →
    SegM g.prog g.w A (OutM g gi A Y.inv ga r gv0 go F0 μ0 H0 s0) c (K fl) fs s
theorem WKM.mono {g : WP} {z : WF} {gi : Nat} {A : Around} {ga : Addr} {ip : List (Addr × Obj)} {gl : List (Nat × GenState)} {c : Code} {fs : List Frame} {K : Flow → Sem PySem.Fin} {Y : DGW} {Fb Fc : Hp} (k : WKM g z gi A ga ip gl c fs K Y Fb) (h : FLe Fb Fc) : WKM g z gi A ga ip gl c fs K Y Fc :=
  ⟨fun fl r go F0 μ0 H0 s0 gv0 F ρ σ H s a b d e f => k.ok fl r go F0 μ0 H0 s0 gv0 F ρ σ H s a b d e (h.trans f)⟩
structure WMt (g : WP) (z : WF) (gi : Nat) (A : Around) (ga : Addr) (st : Stmt) (d : TWD) : Prop where
  run : ∀ (ip : List (Addr × Obj)) (gl : List (Nat × GenState)) (c : Code) (fs : List Frame) (K : Flow → Sem PySem.Fin) (J : Value → Sem PySem.Fin) (gd : Bool → Bool) (lv : List Value → List Value) (Y : DGW) (r : List D) (go : Obj) (F0 : Hp) (μ0 : Sto) (H0 : Hp) (s0 : Shared) (gv0 : List (Nat × GenState)) (F : Hp) (ρ : DEnv) (σ : L2.St) (H : Hp) (s : Shared),
    WCM g z A ga ip gl c fs gd → WKM g z gi A ga ip gl c fs K Y F → GLike gi go → WSt g F0 μ0 H0 (nog s0) → Inv (wcx g z A (nog s0) H0) ((ga, go) :: ip) σ H (nog s) → RelB g.K g.mg ⟨F0, μ0, H0⟩ F ρ μ0 σ H → GSt gi s0 gv0 gl s → d Y r ρ μ0 →
    SegM g.prog g.w A (OutM g gi A Y.inv ga r gv0 go F0 μ0 H0 s0) c ((exec st (z.env g)).wrap K J gd lv) fs s
structure WMs (g : WP) (z : WF) (gi : Nat) (A : Around) (ga : Addr) (st : List Stmt) (d : TWD) : Prop where
  run : ∀ (ip : List (Addr × Obj)) (gl : List (Nat × GenState)) (c : Code) (fs : List Frame) (K : Flow → Sem PySem.Fin) (J : Value → Sem PySem.Fin) (gd : Bool → Bool) (lv : List Value → List Value) (Y : DGW) (r : List D) (go : Obj) (F0 : Hp) (μ0 : Sto) (H0 : Hp) (s0 : Shared) (gv0 : List (Nat × GenState)) (F : Hp) (ρ : DEnv) (σ : L2.St) (H : Hp) (s : Shared),
    WCM g z A ga ip gl c fs gd → WKM g z gi A ga ip gl c fs K Y F → GLike gi go → WSt g F0 μ0 H0 (nog s0) → Inv (wcx g z A (nog s0) H0) ((ga, go) :: ip) σ H (nog s) → RelB g.K g.mg ⟨F0, μ0, H0⟩ F ρ μ0 σ H → GSt gi s0 gv0 gl s → d Y r ρ μ0 →
    SegM g.prog g.w A (OutM g gi A Y.inv ga r gv0 go F0 μ0 H0 s0) c ((execs st (z.env g)).wrap K J gd lv) fs s
section
variable {g : WP} {z : WF} {gi : Nat} {A : Around} {ga : Addr} {st : Stmt} {rest : List Stmt} {pos yp : Pos}
theorem wm_nil : WMs g z gi A ga [] wNext := ⟨fun ip gl c fs K J gd lv Y r go F0 μ0 H0 s0 gv0 F ρ σ H s C k G St I R hs q => k.ok .next r go F0 μ0 H0 s0 gv0 F ρ σ H s G St I R .rfl' hs q⟩
theorem wm_cons {t u : TWD} (a : WMt g z gi A ga st t) (b : WMs g z gi A ga rest u) : WMs g z gi A ga (st :: rest) (wSeq t u) := by
  refine ⟨fun ip gl c fs K J gd lv Y r go F0 μ0 H0 s0 gv0 F ρ σ H s C k G St I R hs q => ?_⟩
  rw [execs_cons_wrap]
  refine a.run ip gl c fs _ J gd lv { Y with nx := fun r ρ μ => u Y r ρ μ } r go F0 μ0 H0 s0 gv0 F ρ σ H s C ⟨fun fl r go F0 μ0 H0 s0 gv0 F ρ σ H s G St I R hF hs q => ?_⟩ G St I R hs q
  cases fl with
  | next => exact b.run ip gl c fs K J gd lv Y r go F0 μ0 H0 s0 gv0 F ρ σ H s C (k.mono hF) G St I R hs q
  | brk => exact k.ok .brk r go F0 μ0 H0 s0 gv0 F ρ σ H s G St I R hF hs q
  | cont => exact k.ok .cont r go F0 μ0 H0 s0 gv0 F ρ σ H s G St I R hF hs q
  | ret u => exact q.elim
theorem wm_last {t : TWD} (a : WMt g z gi A ga st t) : WMs g z gi A ga [st] t := by
  have h := wm_cons a (wm_nil (g := g) (z := z) (gi := gi) (A := A) (ga := ga))
  exact ⟨fun ip gl c fs K J gd lv Y r go F0 μ0 H0 s0 gv0 F ρ σ H s C k G St I R hs q => h.run ip gl c fs K J gd lv Y r go F0 μ0 H0 s0 gv0 F ρ σ H s C k G St I R hs q⟩
theorem wm_if {e : Expr} {a b : List Stmt} {tc : TTD} {t u : TWD} (hc : ∀ s0 H0, DT (wcx g z A s0 H0) e tc) (ha : WMs g z gi A ga a t) (hb : WMs g z gi A ga b u) : WMt g z gi A ga (.If e a b pos) (wIf tc t u) := by
  refine ⟨fun ip gl c fs K J gd lv Y r go F0 μ0 H0 s0 gv0 F ρ σ H s C k G St I R hs q => ?_⟩
  show SegM _ _ _ _ _ (.at pos fun _ => (isTrue e (z.env g) (eval e (z.env g)) >>= fun x => if x = true then execs a (z.env g) else execs b (z.env g)).wrap K J gd lv) fs s
  refine sm_at (sm_bind_wrap ?_)
  rw [C.over]
  refine (TL.dull ((hc (nog s0) H0).run _ (Shared.dull s) σ H (fun x H1 => ∃ F1, Ext F μ0 H F1 μ0 H1 ∧ Ok g.K g.mg F1 μ0 H1 ∧ if x = true then t Y r ρ μ0 else u Y r ρ μ0) (inv_dull I) ⟨F, ρ, μ0, _, R.rel, q, fun x F' μ' H' e o h => by obtain ⟨z, h⟩ := h; subst z; exact ⟨F', e, o, h⟩⟩)).mono (fun x s' hx => ?_) fun x s' hx => by obtain ⟨_, _, hx⟩ := hx; exact hx.elim
  obtain ⟨gb, S, H1, I1, F1, e1, o1, q1⟩ := hx
  cases x with
  | true =>
    rw [if_pos rfl] at q1
    rw [if_pos rfl]
    exact ha.run ip gl c fs K J gd lv Y r go F0 μ0 H0 s0 gv0 F1 ρ σ H1 s' C (k.mono e1.mono) G St (inv_nog I1) (R.step e1 o1) (hs.kp S I1.bare) q1
  | false =>
    rw [if_neg Bool.false_ne_true] at q1
    rw [if_neg Bool.false_ne_true]
    exact hb.run ip gl c fs K J gd lv Y r go F0 μ0 H0 s0 gv0 F1 ρ σ H1 s' C (k.mono e1.mono) G St (inv_nog I1) (R.step e1 o1) (hs.kp S I1.bare) q1
/-- yield e: behind it, woken by next -/
theorem sm_Yield {P : Program} {w : World} {Φ : End → Shared → Prop} {c : Code} {fs : List Frame} {s : Shared} {env : Env} {e : Expr} {ypos pos : Pos} {K : Flow → Sem PySem.Fin} {H : Value → Sem PySem.Fin} {gd : Bool → Bool} {lv : List Value → List Value} (hfs : splitAtGen fs = none) (hgd : gd false = false)
    (h : TL P w (A.over c fs) (eval e env) (fun v s' => ∀ g l (k : Resume → Sem PySem.Fin) p, g = false → k (.send .none) = K .next → Φ (.susp v g l k c p fs) s') (fun x s' => SegM P w A Φ c (H x) fs s') s)
    (hco : env.scope.isCoroutine = false := by rfl) (hi : interactive env = false := by rfl) : SegM P w A Φ c ((exec (.Expr (.Yield (some e) ypos) pos) env).wrap K H gd lv) fs s := by
  rw [exec_Expr env _ pos hi rfl]
  show SegM P w A Φ c (.at pos fun _ => ((eval e env >>= fun v => (standAt ypos >>= fun _ => yieldOut env v)) >>= fun x => dropValue (.Yield (some e) ypos) pos x).wrap K H gd lv) fs s
  have hy : ∀ v, yieldOut env v = yieldValue v := fun v => by simp only [yieldOut, hco, Bool.false_eq_true, if_false]
  simp only [hy]
  refine sm_at ?_
  rw [Sem.bind_eq_wrap', Sem.bind_eq_wrap', Sem.wrap_wrap, Sem.wrap_wrap]
  refine sm_wrap (h.mono (fun v s' h' => ?_) fun _ _ x => x)
  refine sm_at (sm_yield hfs fun p => h' _ _ _ p ?_ rfl)
  exact hgd
/-- what is the generator's own -/
theorem own_pins {ip : List (Addr × Obj)} {gl : List (Nat × GenState)} {c : Code} {fs : List Frame} {gd : Bool → Bool} {s0 s : Shared} {H0 H : Hp} {σ : L2.St} {go : Obj} (C : WCM g z A ga ip gl c fs gd) (I : Inv (wcx g z A (nog s0) H0) ((ga, go) :: ip) σ H (nog s)) :
    PinsOk g ((ga, go) :: ip) H s := fun q hq => by
  obtain ⟨h1, h2, _, _, h5⟩ := I.pin q (List.mem_append_right _ hq)
  refine ⟨h1, h2, ?_, h5⟩
  rcases List.mem_cons.mp hq with hq | hq
  · rw [hq]; exact Nat.le_of_lt C.lo
  · exact Nat.le_of_lt (C.ip q hq).1
theorem wm_yield {e : Expr} {d : TED} (W : WaOk g A) (hz : WDef g z) (he : ∀ s0 H0, DE (wcx g z A s0 H0) e d) (hco : z.scope.isCoroutine = false := by rfl) (hi : interactive (z.env g) = false := by rfl) : WMt g z gi A ga (.Expr (.Yield (some e) yp) pos) (wYield d) := by
  refine ⟨fun ip gl c fs K J gd lv Y r go F0 μ0 H0 s0 gv0 F ρ σ H s C k G St I R hs q => ?_⟩
  obtain ⟨hno, q⟩ := q
  refine sm_Yield C.split C.gd ?_ hco hi
  rw [C.over]
  refine (TL.dull ((he (nog s0) H0).run _ (Shared.dull s) σ H (fun xv H1 => ∃ F1 dv, Ext F μ0 H F1 μ0 H1 ∧ Ok g.K g.mg F1 μ0 H1 ∧ Dt g.K g.mg F1 xv dv ∧ ∃ r', r = dv :: r' ∧ ∀ μ2, Y.inv μ2 → Y.nx r' ρ μ2) (inv_dull I) ⟨F, ρ, μ0, _, R.rel, q, fun v F' μ' H' dv e o w h => by obtain ⟨z, h⟩ := h; subst z; exact ⟨F', dv, e, o, w, h⟩⟩)).mono (fun v s' hv => ?_) fun x s' hx => by obtain ⟨_, _, hx⟩ := hx; exact hx.elim
  obtain ⟨gb, S, xv, H1, I1', rv, F1, dv, e1, o1, w1, r', hr, hn⟩ := hv
  have hs1 := hs.kp S I1'.bare
  have I1 := inv_nog I1'
  intro gg l kk p hg hk
  subst hg hr
  obtain ⟨oL, eL, dL, lk⟩ := locOk_of (g := g) (z := z) I1 rfl rfl hz.cells
  have pins := own_pins C I1
  refine ⟨v, false, l, kk, c, p, fs, F1, μ0, H1, xv, (g.L, oL) :: ip, gl, rfl, .inl (by simp [End.quiet, C.guard]), ⟨R.ext.trans e1, o1, I1.hok, I1.base, I1.os.trans St.os, I1.bare, rfl⟩, rv, w1, fun q hq => ?_, fun q hq => ?_, hs1.pins, hs1.size, hs1.acc, fun _ _ _ _ _ z => ?_, C.ch.mono fun x hx => List.mem_cons_of_mem _ hx, fun go' F2 μ2 H2 s2 G2 St2 hF hi2 hp hg2 hs2 => ?_⟩
  · rcases List.mem_cons.mp hq with hq | hq
    · exact pins q (by rw [hq]; exact List.mem_cons_self)
    · rcases List.mem_cons.mp hq with hq | hq
      · rw [hq]; exact ⟨eL, I1.free, Nat.le_refl _, dL⟩
      · exact pins q (List.mem_cons_of_mem _ hq)
  · rcases List.mem_cons.mp hq with hq | hq
    · rw [hq]; exact Nat.ne_of_lt C.lo
    · exact (C.ip q hq).2
  · simp [End.genState, C.guard] at z
  · rw [hk]
    have hF2 : FLe F F2 := FLe.trans e1.mono hF
    refine k.ok .next r' go' F2 μ2 H2 s2 gl F2 ρ σ H2 s2 G2 St2 ?_ (rel_wake R hno hF2 St2.okd) hF2 ⟨hs2, .refl, hg2⟩ (hn μ2 hi2)
    refine wcx_inv W hz St2 lk I1.len (fun q hq => ?_) fun q hq => ?_
    · rcases List.mem_cons.mp hq with hq | hq
      · exact hp q (by rw [hq]; exact List.mem_cons_of_mem _ List.mem_cons_self)
      · rcases List.mem_cons.mp hq with hq | hq
        · exact hp q (by rw [hq]; exact List.mem_cons_self)
        · exact hp q (List.mem_cons_of_mem _ (List.mem_cons_of_mem _ hq))
    · rcases List.mem_cons.mp hq with hq | hq
      · rw [hq]; exact Nat.ne_of_gt C.lo
      · exact Nat.ne_of_gt (C.ip q hq).1
end
end DL

namespace DL
open PySem PySem.Spec PyProof.Rows L2 GW2 GenW YM
theorem sm_forLoop {P : Program} {w : World} {A : Around} {Φ : End → Shared → Prop} {fs : List Frame} {s : Shared} {env : Env} {tg : Expr} {it : Value} {body : List Stmt}
    (h : TL P w (A.over (.forLoop tg it body [] env) fs) (pyNext it) (fun r s1 => match r with
        | none => SegM P w A Φ (.forLoop tg it body [] env) (.pure (.again (.block [] env))) fs s1
        | some v => TL P w (A.over (.forLoop tg it body [] env) fs) (letOwnedTupleGo tg it v) (fun _ s2 => TL P w (A.over (.forLoop tg it body [] env) fs) (assign tg env v) (fun _ s3 =>
            SegM P w A Φ (.forLoop tg it body [] env) ((execs body env).wrap (fun f => match f with
              | .next | .cont => .pure (.again (.forLoop tg it body [] env))
              | .brk => .pure (.done .next)
              | .ret v => .pure (.done (.ret v))) (fun x => (do noteFrame x env; theTreesLotGoes x : Sem Unit).bind fun _ => .raise x) id id) fs s3)
            (fun _ _ => False) s2) (fun _ _ => False) s1)
      (fun _ _ => False) s) :
    SegM P w A Φ (.forLoop tg it body [] env) (denote table (.forLoop tg it body [] env)) fs s := by
  show SegM P w A Φ _ ((forTurn tg it body [] env).onRaise (fun x => do noteFrame x env; theTreesLotGoes x)) fs s
  unfold forTurn
  rw [Sem.onRaise_eq_wrap]
  refine sm_bind_wrap (.standAt ?_)
  refine sm_bind_wrap (.onRaise (h.mono (fun r s1 h1 => ?_) fun x s' h' => h'.elim))
  cases r with
  | none => exact h1
  | some v =>
    refine sm_bind_wrap (h1.mono (fun _ s2 h2 => ?_) fun x s' hx => hx.elim)
    refine sm_bind_wrap (h2.mono (fun _ s3 h3 => ?_) fun x s' hx => hx.elim)
    rw [Sem.bind_eq_wrap', Sem.wrap_wrap]
    rw [Sem.wrap_congr (execs body env) _ _ (K' := fun f => match f with
            | .next | .cont => .pure (.again (.forLoop tg it body [] env))
            | .brk => .pure (.done .next)
            | .ret v => .pure (.done (.ret v))) (H' := fun x => (do noteFrame x env; theTreesLotGoes x : Sem Unit).bind fun _ => .raise x)
        (fun f => by cases f <;> rfl) (fun e => by rfl)]
    exact h3
section
variable {g : WP} {z : WF} {gi : Nat} {A : Around} {ga : Addr} {pos : Pos}
theorem WCM.loop {ip : List (Addr × Obj)} {gl : List (Nat × GenState)} {c c' : Code} {fs : List Frame} {gd : Bool → Bool} {k : Result → Sem PySem.Fin} {l kp : List Value} {p : Pos} (C : WCM g z A ga ip gl c fs gd) (hw : c'.weight = 0) (hu : c'.cUnits = 0) :
    WCM g z A ga ip gl c' (.ret k none (gd false) l c p kp :: fs) id where
  over := (over_loop hw hu).trans C.over
  split := by
    show (splitAtGen fs).map _ = none
    rw [C.split]; rfl
  guard := by
    show (gd false || fs.any Frame.guarded) = false
    rw [C.gd, C.guard]; rfl
  gd := rfl
  lo := C.lo
  ip := C.ip
  ch := C.ch
theorem wm_for {tg iter : Expr} {body : List Stmt} {src : TSrc} {ns : List Nat} {gt : TGD} {tb : TWD} (W : WaOk g A) (hz : WDef g z) (hi : ∀ s0 H0, DI (wcx g z A s0 H0) tg iter src) (hg : ∀ s0 H0 B, DG (wcx g z A s0 H0) B tg ns gt) (hb : WMs g z gi A ga body tb)
    (hs : ∀ x, foldedSetIterable iter (z.env g) x = pure x := by intro _; rfl) : WMt g z gi A ga (.For tg iter body [] pos) (wFor src gt tb) := by
  refine ⟨fun ip gl c fs K J gd lv Y r go F0 μ0 H0 s0 gv0 F ρ σ H s C k G St I R hsz q => ?_⟩
  rw [exec_For]
  refine sm_bind_wrap (.standAt ?_)
  refine sm_bind_wrap ?_
  rw [C.over]
  refine (TL.dull ((hi (nog s0) H0).run _ (Shared.dull s) σ H (fun Jt H2 => ∃ F2 items inv, Ext F μ0 H F2 μ0 H2 ∧ Ok g.K g.mg F2 μ0 H2 ∧ ItD g.K g.mg F2 Jt items inv ∧ forW gt tb Y inv items r ρ μ0) (inv_dull I) ⟨F, ρ, μ0, _, R.rel, q, fun Jt F' μ' H' items inv e o it h => by obtain ⟨z, h⟩ := h; subst z; exact ⟨F', items, inv, e, o, it, h⟩⟩)).mono (fun v s1 h1 => ?_) fun x s' hx => by obtain ⟨_, _, hx⟩ := hx; exact hx.elim
  obtain ⟨gb1, S1, h1⟩ := h1
  refine sm_bind_wrap ?_
  refine .eq (hs v) (.pure ?_)
  refine sm_bind_wrap (.standAt ?_)
  refine sm_bind_wrap (.holding ?_)
  rw [C.over]
  refine (TL.dim S1 h1).mono (fun itv s2 h2 => ?_) fun x s' hx => by obtain ⟨_, _, hx⟩ := hx; exact hx.elim
  obtain ⟨gb2, S2, it, fp, tn, Jt, H2, e, I2', T, st2, f2, F2, items, invI, e2, o2, itd, q2⟩ := h2
  have I2 := inv_nog I2'
  subst e
  refine sm_call fun p => ?_
  have Cl := fun (kk : Result → Sem PySem.Fin) => C.loop (k := kk) (c' := .forLoop tg (.ref it) body [] (z.env g)) (l := lv []) (kp := []) (p := p) rfl rfl
  have low : ∀ b ∈ fp, g.L ≤ b ∧ b ≠ g.L := fun b hb => by
    obtain ⟨_, q1, _, q3, _⟩ := f2 b hb
    refine ⟨?_, q1⟩
    rcases q3 with q3 | q3
    · cases q3
    · have h3 : (cutH s0.heap g.L).objs.size ≤ b := q3
      rw [cutH_size St.sz] at h3
      exact h3
  have nga : ∀ b ∈ fp, b ≠ ga := fun b hb e => by
    obtain ⟨_, _, _, _, _, q5⟩ := f2 b hb
    exact q5 (ga, go) (List.mem_append_right _ List.mem_cons_self) e.symm
  have stat : ∀ {F' : Hp} {μ' : Sto} {s0' : Shared} {go' : Obj} {H0' H' : Hp}, WSt g F' μ' H0' (nog s0') → (∀ b ∈ fp, H' b = none) → ∀ b ∈ fp, FpOk (wcx g z A (nog s0') H0') ((ga, go') :: ip) H' b := fun {F' μ' s0' go' H0' H'} St' hn b hb => by
    obtain ⟨_, q1, q2, q3, q4, q5⟩ := f2 b hb
    refine ⟨hn b hb, q1, q2, .inr ?_, q4, fun p hp => ?_⟩
    · show (cutH s0'.heap g.L).objs.size ≤ b
      rw [cutH_size St'.sz]
      exact (low b hb).1
    · rcases List.mem_append.mp hp with hp | hp
      · cases hp
      · rcases List.mem_cons.mp hp with hp | hp
        · rw [hp]; exact Ne.symm (nga b hb)
        · exact q5 p (List.mem_append_right _ (List.mem_cons_of_mem _ hp))
  have loop : ∀ (m i : Nat) (r : List D) (go : Obj) (F0 : Hp) (μ0 : Sto) (H0 : Hp) (s0 : Shared) (gv0 : List (Nat × GenState)) (F3 : Hp) (ρ : DEnv) (σ : L2.St) (H : Hp) (s : Shared), m = items.length - i → i ≤ items.length → GLike gi go → WSt g F0 μ0 H0 (nog s0) → Inv (wcx g z A (nog s0) H0) ((ga, go) :: ip) σ H (nog s) → tn i s.heap → (∀ b ∈ fp, H b = none) →
      FLe F2 F3 → RelB g.K g.mg ⟨F0, μ0, H0⟩ F3 ρ μ0 σ H → GSt gi s0 gv0 gl s → forW gt tb Y invI (items.drop i) r ρ μ0 →
      SegM g.prog g.w A (OutM g gi A Y.inv ga r gv0 go F0 μ0 H0 s0) (.forLoop tg (.ref it) body [] (z.env g)) (denote table (.forLoop tg (.ref it) body [] (z.env g)))
        (.ret (fun r => ((match r with | .ok f => (.pure f : Sem Flow) | .error e => .raise e).onRaise (cameBack (z.env g))).wrap K J gd lv) none (gd false) (lv []) c p [] :: fs) s := by
    intro m
    induction m with
    | zero =>
      intro i r go F0 μ0 H0 s0 gv0 F3 ρ3 σ3 H3 s3 hm hi' G3 St3 I3 st3 fr3 hF3 R3 hz3 q3
      have : i = items.length := by omega
      subst this
      rw [List.drop_length] at q3
      obtain ⟨_, hstop⟩ := itd F3 μ0 H3 hF3 R3.rel.ok q3.1 items.length
      refine sm_forLoop ?_
      rw [(Cl _).over]
      refine (TL.dull (T.done (wcx g z A (nog s0) H0) rfl rfl rfl rfl items.length ((ga, go) :: ip) (Shared.dull s3) σ3 H3 (fun _ _ => False) (inv_dull I3) (stat St3 fr3) st3 (hstop rfl))).mono (fun rr s4 hz' => ?_) fun x s' hx => by obtain ⟨_, _, hx⟩ := hx; exact hx.elim
      obtain ⟨gb4, S4, hr, I4⟩ := hz'
      subst hr
      refine sm_again rfl ?_
      show SegM _ _ _ _ _ (.pure (.done .next)) _ _
      exact sm_leaf (.ok .next) (k.ok .next r go F0 μ0 H0 s0 gv0 F3 ρ3 σ3 H3 s4 G3 St3 (inv_nog I4) R3 (FLe.trans e2.mono hF3) (hz3.kp S4 I4.bare) q3.2)
    | succ m ih =>
      intro i r go F0 μ0 H0 s0 gv0 F3 ρ3 σ3 H3 s3 hm hi' G3 St3 I3 st3 fr3 hF3 R3 hz3 q3
      have hlt : i < items.length := by omega
      have hdrop : items.drop i = items[i] :: items.drop (i + 1) := List.drop_eq_getElem_cons hlt
      rw [hdrop] at q3
      obtain ⟨hgo, _⟩ := itd F3 μ0 H3 hF3 R3.rel.ok q3.1 i
      obtain ⟨g1, g2⟩ := hgo hlt
      refine sm_forLoop ?_
      rw [(Cl _).over]
      refine (TL.dull (T.item (wcx g z A (nog s0) H0) rfl rfl rfl rfl i ((ga, go) :: ip) (Shared.dull s3) σ3 H3 (fun _ _ => False) (inv_dull I3) (stat St3 fr3) st3 g1)).mono (fun rr s4 hz' => ?_) fun x s' hx => by obtain ⟨_, _, hx⟩ := hx; exact hx.elim
      obtain ⟨gb4, S4, u, hr, h4⟩ := hz'
      subst hr
      refine (TL.dim S4 h4).mono (fun _ s5 hz' => ?_) fun x s' hx => by obtain ⟨_, _, hx⟩ := hx; exact hx.elim
      obtain ⟨gb5, S5, x, H5, I5, r5, y5, st5, fr5⟩ := hz'
      have I5' := I5.pinned (stat St3 fr5) (T.obj _ _ st5)
      obtain ⟨F5, d, e5, o5, hx, wx⟩ := g2 x H5 y5
      rw [List.getElem?_eq_getElem hlt] at hx
      cases hx
      refine (TL.dull ((hg (nog s0) H0 ⟨F0, μ0, H0⟩).run _ (Shared.dull s5) σ3 H5 x u (fun σ' H' => ∃ ρ', RelB g.K g.mg ⟨F0, μ0, H0⟩ F5 ρ' μ0 σ' H5 ∧ H' = H5 ∧ tb { Y with nx := forW gt tb Y invI (items.drop (i + 1)), ct := forW gt tb Y invI (items.drop (i + 1)), bk := Y.nx } r ρ' μ0) (inv_dull (inv_nog I5')) r5
        ⟨F5, ρ3, μ0, _, _, R3.step e5 o5, wx, q3.2, fun ρ' σ' R' _ _ h => ⟨ρ', R', rfl, h⟩⟩)).mono (fun _ s6 hz' => ?_) fun x s' hx => by obtain ⟨_, _, hx⟩ := hx; exact hx.elim
      obtain ⟨gb6, S6, σ6, H6, I6', ρ6, R6, e6, q6⟩ := hz'
      have I6 := inv_nog I6'
      subst e6
      have C6 : WCM g z A ga (ip ++ pinsAt fp s5.heap) gl (.forLoop tg (.ref it) body [] (z.env g)) (.ret (fun r => ((match r with | .ok f => (.pure f : Sem Flow) | .error e => .raise e).onRaise (cameBack (z.env g))).wrap K J gd lv) none (gd false) (lv []) c p [] :: fs) id :=
        { Cl (fun r => ((match r with | .ok f => (.pure f : Sem Flow) | .error e => .raise e).onRaise (cameBack (z.env g))).wrap K J gd lv) with
          ch := C.ch.mono fun x hx => List.mem_append_left _ hx
          ip := fun p hp => by
            rcases List.mem_append.mp hp with hp | hp
            · exact C.ip p hp
            · obtain ⟨hb, _⟩ := of_pinsAt hp
              obtain ⟨a1, a2⟩ := low p.1 hb
              exact ⟨Nat.lt_of_le_of_ne a1 (Ne.symm a2), nga p.1 hb⟩ }
      have hF5 : FLe F2 F5 := FLe.trans hF3 e5.mono
      have hz6 : GSt gi s0 gv0 gl s6 := (hz3.kp S5 I5.bare).kp S6 I6'.bare
      refine hb.run (ip ++ pinsAt fp s5.heap) gl _ _ _ _ id id { Y with nx := forW gt tb Y invI (items.drop (i + 1)), ct := forW gt tb Y invI (items.drop (i + 1)), bk := Y.nx } r go F0 μ0 H0 s0 gv0 F5 ρ6 σ6 H6 s6 C6 ⟨fun fl r7 go7 F7 μ7 H7 s7 gv7 Fx ρx σx Hx sx G7 St7 I7 R7 hF7 hz7 q7 => ?_⟩ G3 St3 I6 R6 hz6 q6
      have un : Inv (wcx g z A (nog s7) H7) ((ga, go7) :: ip) σx Hx (nog sx) := Inv.unpinned (pins := (ga, go7) :: ip) (pl := pinsAt fp s5.heap) I7
      have mem : ∀ {y : Addr × Obj}, y ∈ pinsAt fp s5.heap → y ∈ (wcx g z A (nog s7) H7).pn ++ ((ga, go7) :: (ip ++ pinsAt fp s5.heap)) := fun hy => List.mem_append_right _ (List.mem_cons_of_mem _ (List.mem_append_right _ hy))
      have tk : tn (i + 1) sx.heap := T.keep _ _ _ st5 fun b hb' o e => (I7.pin (b, o) (mem (mem_pinsAt hb' e))).1
      have fr : ∀ b ∈ fp, Hx b = none := fun b hb' => by
        obtain ⟨o, e, _⟩ := T.obj _ _ st5 b hb'
        exact (I7.pin (b, o) (mem (mem_pinsAt hb' e))).2.1
      have again : forW gt tb Y invI (items.drop (i + 1)) r7 ρx μ7 → SegM g.prog g.w A (OutM g gi A Y.inv ga r7 gv7 go7 F7 μ7 H7 s7) (.forLoop tg (.ref it) body [] (z.env g)) (.pure (.again (.forLoop tg (.ref it) body [] (z.env g))))
          (.ret (fun r => ((match r with | .ok f => (.pure f : Sem Flow) | .error e => .raise e).onRaise (cameBack (z.env g))).wrap K J gd lv) none (gd false) (lv []) c p [] :: fs) sx := fun h =>
        sm_again rfl (ih (i + 1) r7 go7 F7 μ7 H7 s7 gv7 Fx ρx σx Hx sx (by omega) hlt G7 St7 un tk fr (FLe.trans hF5 hF7) R7 hz7 h)
      cases fl with
      | next => exact again q7
      | cont => exact again q7
      | brk => exact sm_leaf (.ok .next) (k.ok .next r7 go7 F7 μ7 H7 s7 gv7 Fx ρx σx Hx sx G7 St7 un R7 (FLe.trans e2.mono (FLe.trans hF5 hF7)) hz7 q7)
      | ret v => exact q7.elim
  exact loop items.length 0 r go F0 μ0 H0 s0 gv0 F2 ρ σ H2 s2 (by simp) (Nat.zero_le _) G St I2 st2 (fun b hb => (f2 b hb).1) .rfl' (R.step e2 o2) (hsz.kp S2 I2'.bare) (by simpa using q2)
end
end DL

namespace DL
open PySem PySem.Spec PyProof.Rows L2 GW2 GenW YM
section
variable {P : Program} {w : World} {A : Around} {E : Value → Shared → Prop} {s : Shared}
theorem tl_entry {T : String} {name : Str} {id : String} {b : Builtin} {self : Value} {rest : List Value} {Q : Value → Shared → Prop} (h : Slot T name id) (hT : s.TypeIs self T) (hb : entryFor table id = some b)
    (hc : TL P w A.in1 (b ⟨self :: rest, []⟩) (fun fin s' => ∃ v, fin = .done (.ret v) ∧ Q v s') E s) (ha : argsOk id ⟨self :: rest, []⟩ := by rfl) : TL P w A (call (.builtin id) (self :: rest)) Q E s := by
  unfold PySem.call
  refine .runValue (.tree ?_)
  show TL P w A.in1 (do checkBuiltinCall id ⟨self :: rest, []⟩; again (.builtin id ⟨self :: rest, []⟩)) _ _ s
  refine .bind (.of (h.check _ _ _ _ _ _ _ _ hT ha (.pure ⟨plainId_quiet h.plain _, .tree ?_⟩)))
  rw [Around.under_plainId h.plain]
  show TL P w A.in1 (match entryFor table id with | some b => b ⟨self :: rest, []⟩ | none => unsupported ((withoutEnding? id "#data").getD id)) _ _ s
  rw [hb]
  refine hc.mono (fun fin s' ⟨v, e, q⟩ => ?_) fun _ _ x => x
  subst e
  exact q
theorem tl_special {self : Value} {T : String} {name : Str} {id : String} {args : List Value} {kw : List (Str × Value)} {Q : Option Value → Shared → Prop} (hT : s.TypeIs self T) (h : Slot T name id)
    (hc : TL P w A (call (.builtin id) (self :: args) kw) (fun v => Q (some v)) E s) : TL P w A (callSpecial? self name args kw) Q E s := by
  simp only [callSpecial?]
  refine .bind (.of (wpAny_specialOf hT h.lookup ?_))
  simp only [h.bind]
  exact .holding (.bind (.pure (.bind (hc.mono (fun v s' h' => .pure h') fun _ _ h' => h'))))
theorem GLike.typeIs {gi : Nat} {a : Addr} {o : Obj} (G : GLike gi o) (ho : s.heap.get? a = some o) : s.TypeIs (.ref a) "generator" := ⟨o, ho, G.cls⟩
theorem wp_genNumber {M : Model} {gi : Nat} {a : Addr} {o : Obj} {Q : Nat → Shared → Prop} (G : GLike gi o) (ho : s.heap.get? a = some o) (h : Q gi s) : wpAny M A (Builtin.Generator.genNumber (.ref a)) Q E s := by
  obtain ⟨nm, qn, hd⟩ := G.dat
  unfold Builtin.Generator.genNumber
  refine wpAny_bind (wpAny_load ho ?_)
  rcases G.slots with hs | hs
  · rw [hs, hd]
    show wpAny M A (pure ((gi : Int).toNat)) Q E s
    rw [Int.toNat_natCast]; exact wpAny_pure h
  · rw [hs, hd]
    show wpAny M A (pure ((gi : Int).toNat)) Q E s
    rw [Int.toNat_natCast]; exact wpAny_pure h
/-- next, as the special method -/
theorem tl_next {a : Addr} {gi : Nat} {o : Obj} {gs : GenState} {Φ : End → Shared → Prop} {Q : Option Value → Shared → Prop} (hh : A.handled = none)
    (hl : s.heap.NoLimit) (hroom : A.depth < recursionLimit) (ho : s.heap.get? a = some o) (G : GLike gi o) (hgs : s.gens[gi]? = some gs) (hgo : GoesM P w A.in1 Φ gs (s.setGen gi .running)) (hb : ∀ e s₁, Φ e s₁ → BenE s₁ e)
    (hY : ∀ e s₁, Φ e s₁ → (e = .ret (.ok (.ret .none)) ∧ ∀ e' h', StopX e' h' → (∃ a' o', e' = .ref a' ∧ h'.get? a' = some o' ∧ o'.cls = .type "StopIteration") → (∀ b o, s₁.heap.get? b = some o → h'.get? b = some o) → E e' { s₁.setGen gi .finished with heap := h' }) ∨
      ∃ v fl l k c p fs, e = .susp v fl l k c p fs ∧ Q (some v) (s₁.setGen gi e.genState)) : TL P w A (callSpecial? (.ref a) (Str.ofString "__next__")) Q E s := by
  have hT := G.typeIs (s := s) ho
  refine tl_special (name := Str.ofString "__next__") hT slot_gen_next (tl_entry slot_gen_next hT entry_gen_next ?_ (args_gen_next _))
  show TL P w A.in1 (Builtin.Generator.genWake (.ref a) (.send .none)) _ _ s
  unfold Builtin.Generator.genWake
  refine .bind (.holding (.of (wp_genNumber G ho ?_)))
  refine .bind (.of (wpAny_genState hgs ?_))
  cases gs with
  | running => exact hgo.elim
  | finished => exact hgo.elim
  | _ =>
    refine .bind (.of (wpAny_roomToWake hl hroom ?_))
    show TL P w A.in1 (.resume gi (.send .none) [] _) _ _ s
    refine .resume hgs hgo hb fun e s₁ he => ?_
    rcases hY e s₁ he with ⟨rfl, hp⟩ | ⟨v, fl, l, k, c, p, fs, rfl, hp⟩
    · show TL P w A.in1 (newExc (.type "StopIteration") [] >>= _) _ _ _
      refine .of (wpAny_bind ?_)
      simp only [newExc, newTuple]
      refine wpAny_bind (wpAny_newObj_type ?_ (by size_fits))
      refine wpAny_bind (m := firstArgMember _ _) (wpAny_of_eq (a := Value.none) (by first | rfl | (simp only [firstArgMember]; rfl)) ?_)
      refine wpAny_newObj_type ?_ (by size_fits)
      simp only [raiseNew]
      refine wpAny_bind (wpAny_bind (wpAny_handled ?_))
      first | rw [show A.in1.handled = none from hh] | rw [hh]
      refine wpAny_throw ?_
      refine hp _ _ ⟨_, _, _, rfl, Heap.get?_push_size _ rfl, rfl, rfl, ?_⟩ ⟨_, _, rfl, Heap.get?_push_size _ rfl, rfl⟩ fun b o hb => Heap.get?_push_of_some _ (Heap.get?_push_of_some _ hb)
      first
        | rfl
        | (rw [Array.getElem?_append_left (by decide)]; rfl)
        | kernel_rfl
    · exact .pure ⟨v, rfl, hp⟩
end
end DL

namespace DL
open PySem PySem.Spec PyProof.Rows L2 GW2 GenW
section
variable {X : Cx} {pins : List (Addr × Obj)} {σ : L2.St} {H H1 : Hp} {s s1 : Shared} {L : Addr}
/-- the consumer's own things are older than the generator's frame -/
structure Older (X : Cx) (pins : List (Addr × Obj)) (L : Addr) : Prop where
  loc : X.env.locals < L
  cell : ∀ x c, X.env.cells.lookup x = some c → c < L
  pin : ∀ p ∈ X.pn ++ pins, p.1 < L
  fs : ∀ b ∈ X.fs, b < L
  s0 : X.s_0.heap.objs.size ≤ L
theorem Inv.older (I : Inv X pins σ H s) (hL : s.heap.objs.size ≤ L) : Older X pins L where
  loc := Nat.lt_of_lt_of_le I.lt hL
  cell := fun x c e => let ⟨_, q⟩ := I.cell x c e; Nat.lt_of_lt_of_le q.lt hL
  pin := fun p hp => Nat.lt_of_lt_of_le (Heap.lt_size (I.pin p hp).1) hL
  fs := fun b hb => by
    obtain ⟨_, o, ho, _⟩ := I.ok.funs.mem hb
    exact Nat.lt_of_lt_of_le (Heap.lt_size ho) (Nat.le_trans I.sz hL)
  s0 := Nat.le_trans I.sz hL
theorem objOk_ex {P : Program} {w : World} {H : Hp} {h : Heap} {a : Addr} {o : HO} (x : ObjOk P w H h a o) : ∃ u, h.get? a = some u := by
  cases o with
  | lst xs => obtain ⟨_, _, _, _, e⟩ := x; exact ⟨_, e⟩
  | tup xs => obtain ⟨_, _, _, ob, e, _⟩ := x; exact ⟨_, e⟩
  | dK kvs => obtain ⟨_, _, _, _, o, _, _, e, _⟩ := x; exact ⟨_, e⟩
  | dT kvs => obtain ⟨_, _, _, _, o, _, _, e, _⟩ := x; exact ⟨_, e⟩
  | set S n => obtain ⟨o, _, _, _, e, _⟩ := x; exact ⟨_, e⟩
  | ins C dx fs => obtain ⟨_, _, _, e, _⟩ := x; exact ⟨_, e⟩
  | own y => exact x
  | xd fs => obtain ⟨_, ⟨_, _, _, e, _⟩, _⟩ := x; exact ⟨_, e⟩
  | rng lo hi => obtain ⟨_, _, _, e⟩ := x; exact ⟨_, e⟩
  | frz ob u => exact ⟨_, x.1⟩
  | tbl ps => exact ⟨_, x⟩
  | met f y => exact ⟨_, x⟩
  | ext φ => exact x.2.1
/-- behind a wake, the consumer's state -/
theorem back_inv {g : WP} {F F1 : Hp} {μ μ1 : Sto} {s4 : Shared} (I : Inv X pins σ H s) (ol : Older X pins g.L) (hp : g.prog = X.prog) (hw : g.w = X.w) (ho : g.outer = X.stack) (hos : g.os = s.os) (B : Back g F μ H s F1 μ1 H1 s1)
    (k : ∀ b o, s1.heap.get? b = some o → s4.heap.get? b = some o) (os4 : s4.os = s1.os) (bare4 : AllBare s4.gens) : Inv X pins σ H1 s4 := by
  have hok4 : HOk X.prog X.w H1 s4.heap := by
    have := B.hok.kept k
    rw [hp, hw] at this
    exact this
  have un : Un (frs X.stack) [] H H1 (cutH s.heap g.L) s1.heap := by have := B.un; rw [ho] at this; exact this
  obtain ⟨ch, hch⟩ : ∃ ch : List Addr, ch = (List.range s.heap.objs.size).filter fun b => decide (g.L ≤ b) && (H b).isNone := ⟨_, rfl⟩
  have inch : ∀ b, b ∈ ch → g.L ≤ b := fun b hb => by
    rw [hch] at hb
    have := (List.mem_filter.mp hb).2
    simp at this
    exact this.1
  have nch : ∀ b o, s.heap.get? b = some o → H b = none → b ∉ ch → b < g.L := fun b o e n hb => by
    refine Nat.lt_of_not_le fun hL => hb ?_
    rw [hch]
    exact List.mem_filter.mpr ⟨List.mem_range.mpr (Heap.lt_size e), by simp [hL, n]⟩
  refine I.call' (ch := ch) (os4.trans (B.os.trans hos)) ⟨fun b o e n hb hx => ?_, fun b o e n hb hx => ?_, fun b o e n hx => ?_, fun b o e hx => ?_, un.tups, un.frzs, un.tbls⟩ hok4 bare4 fun b hb => ?_
  · have hl := nch b o e n hx
    exact k b o (un.keep b o (by rw [cutH_get hl]; exact e) n hb (by simp))
  · have hl := nch b o e n hx
    obtain ⟨sl, q⟩ := un.slot b o (by rw [cutH_get hl]; exact e) n hb (by simp)
    exact ⟨sl, k _ _ q⟩
  · have hl := nch b o e n hx
    exact un.free b o (by rw [cutH_get hl]; exact e) n (by simp)
  · cases n : H b with
    | none =>
      have hl := nch b o e n hx
      obtain ⟨o', q⟩ := un.there b o (by rw [cutH_get hl]; exact e) (by simp)
      exact ⟨o', k _ _ q⟩
    | some u =>
      cases n1 : H1 b with
      | none => have := B.ext.live b n1; rw [n] at this; cases this
      | some u1 => exact objOk_ex (hok4 b u1 n1)
  · have hL := inch b hb
    refine ⟨.inr (Nat.le_trans ol.s0 hL), fun z => ?_, fun x c e z => ?_, fun p hp z => ?_⟩
    · have := ol.loc; rw [z] at hL; exact absurd this (Nat.not_lt.mpr hL)
    · have := ol.cell x c e; rw [z] at this; exact absurd this (Nat.not_lt.mpr hL)
    · have := ol.pin p hp; rw [z] at this; exact absurd this (Nat.not_lt.mpr hL)
theorem pins_inv {g : WP} {pv : List (Addr × Obj)} (I : Inv X pins σ H s) (ol : Older X pins g.L) (hp : PinsOk g pv H s) : Inv X (pins ++ pv) σ H s := I.pins_of fun p h => by
  rcases List.mem_append.mp h with h | h
  · exact I.pin p (List.mem_append_right _ h)
  · obtain ⟨h1, h2, h3, h4⟩ := hp p h
    refine ⟨h1, h2, fun z => ?_, fun z => ?_, h4⟩
    · have := ol.loc; rw [← z] at this; exact absurd this (Nat.not_lt.mpr h3)
    · exact absurd (ol.fs p.1 z) (Nat.not_lt.mpr h3)
theorem of_pins {g : WP} {pv : List (Addr × Obj)} {H' : Hp} {s' : Shared} {σ' : L2.St} (I : Inv X (pins ++ pv) σ' H' s') (hp : PinsOk g pv H s) : PinsOk g pv H' s' := fun p h => by
  obtain ⟨h1, h2, _⟩ := I.pin p (List.mem_append_right _ (List.mem_append_right _ h))
  obtain ⟨_, _, h3, h4⟩ := hp p h
  exact ⟨h1, h2, h3, h4⟩
end

end DL

namespace DL
open PySem PySem.Spec PyProof.Rows L2 GW2 GenW YM
/-- a builtin's code over the frame that it came from -/
theorem over_one {A : Around} {c c' : Code} {fs : List Frame} {k : Result → Sem PySem.Fin} {g : Bool} {l kp : List Value} {p : Pos} (hw : c'.weight = 0) (hu : c'.cUnits = 1) : A.over c' (.ret k none g l c p kp :: fs) = (A.over c fs).in1 := by
  have hE := Code.envs_of_weight hw
  have hG := Code.guards_of_weight hw
  obtain ⟨hd, d, fr, gs, u⟩ := A
  simp only [Around.over, Around.in1, List.map_cons, Frame.where_, frameCount_cons, envsOf_cons, guardsOf_cons, unitsOf_cons, hw, hu, hE, hG, pushEnvs_eq, pushGuards_eq]
  have e1 : (marksOver (Frame.ret k none g l c p kp :: fs) (hd, hd)).1 = (marksOver fs (hd, hd)).1 := rfl
  rw [e1]
  congr 1
  · omega
  · cases fr <;> simp [List.append_assoc]
  · cases gs <;> simp [List.append_assoc]
  · omega
/-- the object while its delegator sleeps -/
def slept (o : Obj) (n : Int) : Obj := { o with slots := #[some (.int n 0)] }
theorem upd_slots {o : Obj} {n : Int} (h : o.slots = #[] ∨ ∃ m : Int, o.slots = #[some (.int m 0)]) : ({ o with slots := (o.slots ++ Array.replicate (0 + 1 - o.slots.size) none).setIfInBounds 0 (some (.int n 0)) } : Obj) = slept o n := by
  unfold slept
  rcases h with h | ⟨m, h⟩
  · rw [h]; rfl
  · rw [h]; rfl
section
variable {M : Model} {A : Around} {E : Value → Shared → Prop} {s : Shared}
theorem wp_slept {a : Addr} {o : Obj} {Q : Unit → Shared → Prop} (ho : s.heap.get? a = some o) (hc : o.cls = .type "generator") (hs : o.slots = #[] ∨ o.slots = #[some (.int 0 0)])
    (h : Q () { s with heap := s.heap.update a fun o => { o with slots := (o.slots ++ Array.replicate (0 + 1 - o.slots.size) none).setIfInBounds 0 (some (.int 1 0)) } }) : wpAny M A (Builtin.Generator.sleptOver (.ref a) true) Q E s := by
  unfold Builtin.Generator.sleptOver
  refine wpAny_bind (wpAny_load ho ?_)
  rw [hc, if_neg (by decide)]
  unfold setSlotAt
  rw [if_neg (by decide)]
  refine wpAny_updatePart ho ?_
  rcases hs with hs | hs
  · simp only [hs]; exact h
  · simp only [hs]; exact h
theorem wp_woke {a : Addr} {o : Obj} {Q : Unit → Shared → Prop} (ho : s.heap.get? a = some o) (hc : o.cls = .type "generator") (hs : o.slots = #[some (.int 1 0)])
    (h : Q () { s with heap := s.heap.update a fun o => { o with slots := (o.slots ++ Array.replicate (0 + 1 - o.slots.size) none).setIfInBounds 0 (some (.int 0 0)) } }) : wpAny M A (Builtin.Generator.sleptOver (.ref a) false) Q E s := by
  unfold Builtin.Generator.sleptOver
  refine wpAny_bind (wpAny_load ho ?_)
  rw [hc, if_neg (by decide)]
  unfold setSlotAt
  rw [if_neg (by decide)]
  refine wpAny_updatePart ho ?_
  simp only [hs]
  exact h
end
theorem not_freed {gi : Nat} {o : Obj} (G : GLike gi o) (n : Int) : (slept o n).isFreed = false := by
  obtain ⟨nm, qn, hd⟩ := G.dat
  exact Obj.isFreed_of_fields (o := slept o n) hd
theorem number_of {gi : Nat} {o : Obj} {n : Int} (G : GLike gi o) : ((slept o n).genNumber?).isSome = true := by
  obtain ⟨nm, qn, hd⟩ := G.dat
  unfold Obj.genNumber? slept
  simp only [G.cls, hd]
  rfl
theorem upd_at {h : Heap} {a : Addr} {o : Obj} {n : Int} (ho : h.get? a = some o) (hs : o.slots = #[] ∨ ∃ m : Int, o.slots = #[some (.int m 0)]) (hf : (slept o n).isFreed = false) :
    ∃ h', (h.update a fun o => { o with slots := (o.slots ++ Array.replicate (0 + 1 - o.slots.size) none).setIfInBounds 0 (some (.int n 0)) }) = h' ∧ h'.get? a = some (slept o n) ∧ ∀ b o', b ≠ a → h.get? b = some o' → h'.get? b = some o' := by
  refine ⟨_, rfl, ?_, fun b o' hb e => (Heap.get?_update_other _ _ (Ne.symm hb)).trans e⟩
  rw [Heap.get?_update_self _ ho (by rw [upd_slots hs]; exact hf), upd_slots hs]
theorem close_gen : typeLookup (.type "generator") "close" = pure (some (.builtin "generator.close")) := by rw [typeLookup_type, builtinLookup_eq_fast]; kernel_rfl
/-- how an inner generator stands -/
structure Inr (P : Program) (w : World) (g1 : WP) (gi1 : Nat) (A1 : Around) (inv1 : Sto → Prop) (a1 : Addr) (rest : List D) (F H : Hp) (s : Shared) (gs1 : GenState) (go1 : Obj) (pv1 : List (Addr × Obj)) (gv1 : List (Nat × GenState)) : Prop where
  G : GLike gi1 go1
  pins : PinsOk g1 ((a1, go1) :: pv1) H s
  ne : ∀ p ∈ pv1, p.1 ≠ a1
  gens : GPins gi1 gv1 s
  size : gi1 < s.gens.size
  here : s.gens[gi1]? = some gs1
  che : ChE pv1 gs1
  cho : ChOk pv1 gv1
  wake : ∀ go' F2 μ2 H2 s2, GLike gi1 go' → WSt g1 F2 μ2 H2 (nog s2) → FLe F F2 → inv1 μ2 → PinsOk g1 ((a1, go') :: pv1) H2 s2 → GPins gi1 gv1 s2 → gi1 < s2.gens.size → GoesM P w A1 (OutM g1 gi1 A1 inv1 a1 rest gv1 go' F2 μ2 H2 s2) gs1 s2
/-- where the inner one's things lie -/
structure Below1 (g : WP) (ga : Addr) (ip : List (Addr × Obj)) (L1 : Addr) : Prop where
  lo : g.L < L1
  ga : ga < L1
  ip : ∀ p ∈ ip, p.1 < L1
section
variable {g : WP} {z : WF} {gi : Nat} {A : Around} {ga : Addr} {ip : List (Addr × Obj)} {L1 : Addr}
theorem older_wcx {s0 : Shared} {H0 : Hp} {go : Obj} (hz : WDef g z) (W : WaOk g A) (St : ∃ F μ, WSt g F μ H0 (nog s0)) (b : Below1 g ga ip L1) : Older (wcx g z A (nog s0) H0) ((ga, go) :: ip) L1 where
  loc := b.lo
  cell := fun x c e => by
    have : (z.env g).cells.lookup x = some c := e
    rw [hz.cells] at this; cases this
  pin := fun p hp => by
    rcases List.mem_append.mp hp with hp | hp
    · cases hp
    · rcases List.mem_cons.mp hp with hp | hp
      · rw [hp]; exact b.ga
      · exact b.ip p hp
  fs := fun x hx => by
    have := W.frl x hx
    have := b.lo
    exact Nat.lt_trans (W.frl x hx) b.lo
  s0 := by
    obtain ⟨_, _, St⟩ := St
    show (cutH s0.heap g.L).objs.size ≤ L1
    rw [cutH_size St.sz]
    exact Nat.le_of_lt b.lo
abbrev in1of (g : WP) (z : WF) (L1 : Addr) : WP := ⟨g.prog, g.w, g.K, g.mg, g.base, z.env g :: g.outer, L1, g.os⟩
abbrev cYf (a1 : Addr) : Code := .builtin "proto.yield_from" ⟨[.ref a1, .bool false, .none], []⟩
theorem cYf_over {a1 : Addr} {c : Code} {fs : List Frame} {k : Result → Sem PySem.Fin} {gd : Bool} {l kp : List Value} {p : Pos} : A.over (cYf a1) (.ret k none gd l c p kp :: fs) = (A.over c fs).in1 := over_one (plainId_weight plain_yf _) (plainId_units plain_yf _)
theorem den_cYf (X : Cx) (a1 : Addr) : denote table (cYf a1) = Builtin.«proto.yield_from» ⟨[.ref a1, .bool false, .none], []⟩ := den_yf (X := X) (it := .ref a1)
theorem Back.nog0 {g : WP} {F F1 : Hp} {μ μ1 : Sto} {H H1 : Hp} {s s1 : Shared} (B : Back g F μ H s F1 μ1 H1 s1) : Back g F μ H (nog s) F1 μ1 H1 s1 := ⟨B.ext, B.okd, B.hok, B.un, B.os, B.bare, B.same⟩
theorem turn_wcx {h' : Heap} {it : Addr} {s0 s : Shared} {H0 H : Hp} {σ : L2.St} {pins : List (Addr × Obj)} (hz : WDef g z) (hsz : g.L ≤ s0.heap.objs.size) (hpin : ∀ p ∈ (wcx g z A (nog s0) H0).pn ++ pins, p.1 < L1) (k : ∀ b o, b ≠ it → s.heap.get? b = some o → h'.get? b = some o) (hn : H it = none) (hit : L1 < it) (hL : g.L < L1)
    (I : Inv (wcx g z A (nog s0) H0) pins σ H (nog s)) : Inv (wcx g z A (nog s0) H0) pins σ H (nog { s with heap := h' }) := by
  have ge : g.L < it := Nat.lt_trans hL hit
  refine I.turned (s := nog s) (t' := s.toks) (it := it) k hn (Nat.ne_of_gt ge) (.inr ?_) (fun x c e => ?_) fun p hp => Nat.ne_of_lt (Nat.lt_trans (hpin p hp) hit)
  · show (cutH s0.heap g.L).objs.size ≤ it
    rw [cutH_size hsz]
    exact Nat.le_of_lt ge
  · have : (z.env g).cells.lookup x = some c := e
    rw [hz.cells] at this; cases this
theorem inner_st {F0 F : Hp} {μ0 μ : Sto} {H0 H : Hp} {s0 s : Shared} {σ : L2.St} {pins : List (Addr × Obj)} {gi1 : Nat} (St : WSt g F0 μ0 H0 (nog s0)) (I : Inv (wcx g z A (nog s0) H0) pins σ H (nog s)) (o : Ok g.K g.mg F μ H) (h : L1 ≤ s.heap.objs.size) : WSt (in1of g z L1) F μ H (nog (s.setGen gi1 .running)) where
  os := I.os.trans St.os
  bare := AllBare.empty
  sz := h
  bs := I.bs
  funs := I.stack
  frf := I.stkFree
  hok := I.hok
  okd := o
theorem sm_yf {gl : List (Nat × GenState)} {c : Code} {fs : List Frame} {K : Flow → Sem PySem.Fin} {gd : Bool → Bool} {Y : DGW} {gi1 : Nat} {inv1 : Sto → Prop} {a1 : Addr} {K' : Result → Sem PySem.Fin} {ll kp : List Value} {p : Pos} (W : WaOk g A) (hz : WDef g z) (C : WCM g z A ga ip gl c fs gd) (hroom : A.depth + 1 < recursionLimit)
    (B : Below1 g ga ip L1) (ha1 : L1 < a1) (hgi : gi < gi1) (hi1 : ∀ μ, Y.inv μ → inv1 μ) (hK : ∀ fs s Φ, SegM g.prog g.w A Φ c (K .next) fs s → SegM g.prog g.w A Φ c (K' (.ok (.ret .none))) fs s) :
    ∀ (rest r' : List D) (go : Obj) (F0 : Hp) (μ0 : Sto) (H0 : Hp) (s0 : Shared) (gv0 : List (Nat × GenState)) (F : Hp) (ρ : DEnv) (σ : L2.St) (H : Hp) (s : Shared) (gs1 : GenState) (go1 : Obj) (pv1 : List (Addr × Obj)) (gv1 : List (Nat × GenState)),
      WKM g z gi A ga ip gl c fs K Y F → GLike gi go → WSt g F0 μ0 H0 (nog s0) → Inv (wcx g z A (nog s0) H0) ((ga, go) :: ip) σ H (nog s) → RelB g.K g.mg ⟨F0, μ0, H0⟩ F ρ μ0 σ H → noOwn ρ = true → gi < s.gens.size → Acc s0 gv0 s ((gi1, gs1) :: (gv1 ++ gl)) → GPins gi gl s → (∀ x ∈ gl, x.1 ≠ gi1 ∧ ∀ y ∈ gv1, y.1 ≠ x.1) → inv1 μ0 →
      Inr g.prog g.w (in1of g z L1) gi1 (A.deeper (z.env g)).in1.in1 inv1 a1 rest F H s gs1 go1 pv1 gv1 → Y.nx r' ρ μ0 → (∀ μ2, Y.inv μ2 → Y.nx r' ρ μ2) →
      SegM g.prog g.w A (OutM g gi A Y.inv ga (rest ++ r') gv0 go F0 μ0 H0 s0) (cYf a1) (denote table (cYf a1)) (.ret K' none (gd false) ll c p kp :: fs) s := by
  intro rest
  induction rest with
  | nil =>
    intro r' go F0 μ0 H0 s0 gv0 F ρ σ H s gs1 go1 pv1 gv1 k G St I R hno hs hac hgp hdj hi0 N q q2
    have ol := older_wcx (go := go) hz W ⟨_, _, St⟩ B
    have hsz1 : L1 ≤ s.heap.objs.size := Nat.le_of_lt (Nat.lt_trans ha1 (Heap.lt_size (N.pins _ List.mem_cons_self).1))
    have St1 := inner_st (gi1 := gi1) St I R.rel.ok hsz1
    have goes := N.wake go1 F μ0 H (s.setGen gi1 .running) N.G St1 .rfl' hi0 N.pins N.gens.set (by rw [setGen_size]; exact N.size)
    rw [den_cYf (wcx g z A (nog s0) H0)]
    unfold Builtin.«proto.yield_from»
    try dsimp only
    refine sm_bind (.pure ?_)
    try dsimp only
    refine sm_bind (.attempt (.holding ?_))
    rw [if_neg Bool.false_ne_true, if_pos (show (Value.none == Value.none) = true from rfl)]
    refine .bind (.of (wpAny_rule (.bind ?_)))
    rw [cYf_over, C.over]
    refine tl_next (A := (A.deeper (z.env g)).in1) W.hd I.nolimit hroom (N.pins _ List.mem_cons_self).1 N.G N.here goes (fun e s1 he => he.ben) fun e s1 he => ?_
    obtain ⟨rfl, hsz, hac1, F1, μ1, H1, Bk, _⟩ := he
    refine .inl ⟨rfl, fun e' h' hS _ hk => ?_⟩
    have I1 : Inv (wcx g z A (nog s0) H0) ((ga, go) :: ip) σ H1 { nog s1 with heap := h' } := back_inv (g := in1of g z L1) (s := nog (s.setGen gi1 .running)) (s1 := nog s1) (s4 := { nog s1 with heap := h' }) I ol rfl rfl rfl (St.os.symm.trans I.os.symm) Bk.nog0 hk rfl .empty
    have hmu := Bk.same
    subst hmu
    obtain ⟨a', o', vs, rfl, hoa, hcls, hdat, h5⟩ := hS
    dsimp only
    refine sm_bind (.of (wpAny_endsTurn hoa hcls ?_))
    rw [if_pos rfl, if_neg Bool.false_ne_true]
    refine sm_bind (.of (wpAny_rule ?_))
    refine sm_bind (.of (wpAny_field hoa hdat h5 ?_))
    show SegM _ _ _ _ _ (leafOf (.ok (.ret .none))) _ _
    refine sm_leaf (.ok (.ret .none)) (hK _ _ _ ?_)
    have hac2 : Acc s0 gv0 (s1.setGen gi1 .finished) gl := (hac.turn (x := .finished) (x' := .finished) hac1).less not_flag
    have hs2 : GSt gi s0 gv0 gl (s1.setGen gi1 .finished) := ⟨by rw [setGen_size]; omega, hac2, (hac1.others hgp hdj).1⟩
    exact k.ok .next r' go F0 μ1 H0 s0 gv0 F1 ρ σ H1 _ G St I1 (R.step Bk.ext Bk.okd) Bk.ext.mono ⟨hs2.size, ⟨hs2.acc.new, hs2.acc.old, hs2.acc.fr, hs2.acc.size⟩, hs2.pins⟩ q
  | cons x rest ih =>
    intro r' go F0 μ0 H0 s0 gv0 F ρ σ H s gs1 go1 pv1 gv1 k G St I R hno hs hac hgp hdj hi0 N q q2
    have ol := older_wcx (go := go) hz W ⟨_, _, St⟩ B
    have hsz1 : L1 ≤ s.heap.objs.size := Nat.le_of_lt (Nat.lt_trans ha1 (Heap.lt_size (N.pins _ List.mem_cons_self).1))
    have St1 := inner_st (gi1 := gi1) St I R.rel.ok hsz1
    have goes := N.wake go1 F μ0 H (s.setGen gi1 .running) N.G St1 .rfl' hi0 N.pins N.gens.set (by rw [setGen_size]; exact N.size)
    rw [den_cYf (wcx g z A (nog s0) H0)]
    unfold Builtin.«proto.yield_from»
    try dsimp only
    refine sm_bind (.pure ?_)
    try dsimp only
    refine sm_bind (.attempt (.holding ?_))
    rw [if_neg Bool.false_ne_true, if_pos (show (Value.none == Value.none) = true from rfl)]
    refine .bind (.of (wpAny_rule (.bind ?_)))
    rw [cYf_over, C.over]
    refine tl_next (A := (A.deeper (z.env g)).in1) W.hd I.nolimit hroom (N.pins _ List.mem_cons_self).1 N.G N.here goes (fun e s1 he => he.ben) fun e s1 he => ?_
    obtain ⟨v, fl, l, k1, c1, p1, fs1, F1, μ1, H1, xv, pv1', gv1', rfl, hben, Bk, rv, w1, pins1, ne1, gens1, size1, hac1, che1, cho1, next⟩ := he
    refine .inr ⟨v, fl, l, k1, c1, p1, fs1, rfl, ?_⟩
    have hmu := Bk.same
    subst hmu
    have ho1 := (pins1 _ List.mem_cons_self).1
    have hs1 : go1.slots = #[] ∨ ∃ m : Int, go1.slots = #[some (.int m 0)] := N.G.slots.imp id fun h => ⟨0, h⟩
    have I1 : Inv (wcx g z A (nog s0) H0) ((ga, go) :: ip) σ H1 (nog s1) := back_inv (g := in1of g z L1) (s := nog (s.setGen gi1 .running)) (s1 := nog s1) (s4 := nog s1) I ol rfl rfl rfl (St.os.symm.trans I.os.symm) Bk.nog0 (fun b o e => e) rfl .empty
    refine .pure ?_
    dsimp only
    refine sm_bind (.of (wpAny_typeOf (T := "generator") ⟨go1, ho1, N.G.cls⟩ ?_))
    dsimp only
    refine sm_bind (.eq close_gen (.pure ?_))
    refine sm_bind (.pure ?_)
    refine sm_bind (.of (wp_slept ho1 N.G.cls N.G.slots ?_))
    obtain ⟨h3, hh3, at3, oth3⟩ := upd_at (n := 1) ho1 hs1 (not_freed N.G 1)
    rw [show (s1.setGen gi1 (End.susp v fl l k1 c1 p1 fs1).genState).heap = s1.heap from rfl, hh3]
    have aL : a1 ≠ g.L := Nat.ne_of_gt (Nat.lt_trans B.lo ha1)
    have I3 := turn_wcx (s := s1) (h' := h3) (it := a1) hz St.sz ol.pin (fun b o hb e => oth3 b o hb e) (pins1 _ List.mem_cons_self).2.1 ha1 B.lo I1
    have spl : splitAtGen (Frame.ret K' none (gd false) ll c p kp :: fs) = none := by
      show (splitAtGen fs).map _ = none
      rw [C.split]; rfl
    have gua : (Frame.ret K' none (gd false) ll c p kp :: fs).any Frame.guarded = false := by
      show (gd false || fs.any Frame.guarded) = false
      rw [C.gd, C.guard]; rfl
    obtain ⟨oL, eL, dL, lk⟩ := locOk_of (g := g) (z := z) I3 rfl rfl hz.cells
    have po := own_pins (s := { s1 with heap := h3 }) C I3
    have le1 : g.L ≤ L1 := Nat.le_of_lt B.lo
    show SegM _ _ _ _ _ (.yield v true [] _) _ _
    refine sm_yield spl fun p' => ?_
    refine ⟨v, true, [], _, cYf a1, p', _, F1, μ1, H1, xv, (a1, slept go1 1) :: (g.L, oL) :: (pv1' ++ ip), (gi1, (End.susp v fl l k1 c1 p1 fs1).genState) :: (gv1' ++ gl), rfl, .inr ⟨v, [], _, cYf a1, p', _, rfl, gua, a1, _, _, _, rfl, at3, number_of N.G⟩, ⟨R.ext.trans Bk.ext, Bk.okd, I3.hok, I3.base, I3.os.trans St.os, .empty, rfl⟩, rv, w1, fun q hq => ?_, fun q hq => ?_, fun y hy => ?_, ?_, ?_, fun _ _ _ _ _ z => ?_, fun y hy => ?_, fun go' F2 μ2 H2 s4 G4 St4 hF hi4 hp4 hg4 hs4 => ?_⟩
    · -- what the consumer must leave
      rcases List.mem_cons.mp hq with hq | hq
      · exact po q (by rw [hq]; exact List.mem_cons_self)
      rcases List.mem_cons.mp hq with hq | hq
      · rw [hq]
        exact ⟨at3, (pins1 _ List.mem_cons_self).2.1, Nat.le_of_lt (Nat.lt_trans B.lo ha1), fun v => N.G.noCell v⟩
      rcases List.mem_cons.mp hq with hq | hq
      · rw [hq]; exact ⟨eL, I3.free, Nat.le_refl _, dL⟩
      rcases List.mem_append.mp hq with hq | hq
      · obtain ⟨b1, b2, b3, b4⟩ := pins1 q (List.mem_cons_of_mem _ hq)
        exact ⟨oth3 _ _ (ne1 q hq) b1, b2, Nat.le_trans le1 b3, b4⟩
      · exact po q (List.mem_cons_of_mem _ hq)
    · rcases List.mem_cons.mp hq with hq | hq
      · rw [hq]; exact Nat.ne_of_gt (Nat.lt_trans B.ga ha1)
      rcases List.mem_cons.mp hq with hq | hq
      · rw [hq]; exact Nat.ne_of_lt C.lo
      rcases List.mem_append.mp hq with hq | hq
      · have b3 : L1 ≤ q.1 := (pins1 q (List.mem_cons_of_mem _ hq)).2.2.1
        exact Nat.ne_of_gt (Nat.lt_of_lt_of_le B.ga b3)
      · exact (C.ip q hq).2
    · rcases List.mem_cons.mp hy with hy | hy
      · rw [hy]
        exact ⟨setGen_at size1, rfl, hgi⟩
      rcases List.mem_append.mp hy with hy | hy
      · obtain ⟨b1, b2, b3⟩ := gens1.set (x := (End.susp v fl l k1 c1 p1 fs1).genState) y hy
        exact ⟨b1, b2, Nat.lt_trans hgi b3⟩
      · exact (hac1.others (x := (End.susp v fl l k1 c1 p1 fs1).genState) hgp hdj).1 y hy
    · show gi < (s1.setGen gi1 (End.susp v fl l k1 c1 p1 fs1).genState).gens.size
      rw [setGen_size]; omega
    · have h := hac.turn (x := (End.susp v fl l k1 c1 p1 fs1).genState) (x' := (End.susp v fl l k1 c1 p1 fs1).genState) hac1
      exact ⟨h.new, h.old, h.fr, h.size⟩
    · -- what it sleeps over
      have e : (.suspended _ [] (cYf a1) p' _ (true || _) : GenState) = _ := z
      injection e with e1 e2 e3 e4 e5 e6
      subst e3 e5
      exact ⟨gua, a1, _, _, slept go1 1, rfl, List.mem_cons_self, number_of N.G⟩
    · rcases List.mem_cons.mp hy with hy | hy
      · rw [hy]
        exact che1.mono fun x hx => List.mem_cons_of_mem _ (List.mem_cons_of_mem _ (List.mem_append_left _ hx))
      rcases List.mem_append.mp hy with hy | hy
      · exact (cho1 y hy).mono fun x hx => List.mem_cons_of_mem _ (List.mem_cons_of_mem _ (List.mem_append_left _ hx))
      · exact (C.ch y hy).mono fun x hx => List.mem_cons_of_mem _ (List.mem_cons_of_mem _ (List.mem_append_right _ hx))
    · -- woken again
      have ha4 := (hp4 (a1, slept go1 1) (List.mem_cons_of_mem _ List.mem_cons_self)).1
      have G1s : (slept go1 1).slots = #[some (.int 1 0)] := rfl
      have e0 : slept (slept go1 1) 0 = slept go1 0 := rfl
      obtain ⟨h5, hh5, at5, oth5⟩ := upd_at (n := 0) ha4 (.inr ⟨1, G1s⟩) (by rw [e0]; exact not_freed N.G 0)
      rw [e0] at at5
      show SegM _ _ _ _ _ (Builtin.Generator.sleptOver (.ref a1) false >>= fun _ => _) _ _
      refine sm_bind (.of (wp_woke ha4 N.G.cls G1s ?_))
      rw [hh5]
      dsimp only
      refine sm_bind (.eq (by rfl : _ = Pure.pure Value.none) (.pure ?_))
      refine sm_again (plainId_quiet plain_yf _) ?_
      have hF4 : FLe F F2 := FLe.trans Bk.ext.mono hF
      have I4 : Inv (wcx g z A (nog s4) H2) ((ga, go') :: ip) σ H2 (nog s4) := wcx_inv W hz St4 lk I3.len (fun q hq => by
          rcases List.mem_cons.mp hq with hq | hq
          · rw [hq]; exact hp4 _ (by simp)
          rcases List.mem_cons.mp hq with hq | hq
          · rw [hq]; exact hp4 _ (by simp)
          · exact hp4 _ (by simp [hq])) fun q hq => by
          rcases List.mem_cons.mp hq with hq | hq
          · rw [hq]; exact Nat.ne_of_gt C.lo
          · exact Nat.ne_of_gt (C.ip q hq).1
      have hp1 := hp4 (a1, slept go1 1) (List.mem_cons_of_mem _ List.mem_cons_self)
      have I5 := turn_wcx (s := s4) (h' := h5) (it := a1) (L1 := L1) hz St4.sz (older_wcx (go := go') hz W ⟨_, _, St4⟩ B).pin (fun b o hb e => oth5 b o hb e) hp1.2.1 ha1 B.lo I4
      have hgi4 := hg4 (gi1, (End.susp v fl l k1 c1 p1 fs1).genState) List.mem_cons_self
      have dj4 := (hac1.others (x := (End.susp v fl l k1 c1 p1 fs1).genState) hgp hdj).2
      refine ih r' go' F2 μ2 H2 s4 ((gi1, (End.susp v fl l k1 c1 p1 fs1).genState) :: (gv1' ++ gl)) F2 ρ σ H2 { s4 with heap := h5 } (End.susp v fl l k1 c1 p1 fs1).genState (slept go1 0) pv1' gv1' (k.mono hF4) G4 St4 I5 (rel_wake (R.step Bk.ext Bk.okd) hno hF St4.okd) hno hs4 ⟨Acc.refl.new, Acc.refl.old, Acc.refl.fr, Nat.le_refl _⟩ (fun y hy => hg4 y (List.mem_cons_of_mem _ (List.mem_append_right _ hy))) dj4 (hi1 μ2 hi4) ?_ (q2 μ2 hi4) q2
      refine ⟨⟨N.G.cls, N.G.dat, .inr rfl⟩, fun q hq => ?_, ne1, fun y hy => ?_, (Array.getElem?_eq_some_iff.mp hgi4.1).1, hgi4.1, che1, cho1, fun go'' F3 μ3 H3 s5 G5 St5 hF3 hi5 hp5 hg5 hs5 => next go'' F3 μ3 H3 s5 G5 St5 (FLe.trans hF hF3) hi5 hp5 hg5 hs5⟩
      · rcases List.mem_cons.mp hq with hq | hq
        · rw [hq]
          exact ⟨at5, hp1.2.1, Nat.le_of_lt ha1, fun v => N.G.noCell v⟩
        · obtain ⟨b1, b2, b3, b4⟩ := hp4 q (by simp [hq])
          exact ⟨oth5 _ _ (ne1 q hq) b1, b2, (pins1 q (List.mem_cons_of_mem _ hq)).2.2.1, b4⟩
      · obtain ⟨b1, b2, _⟩ := hg4 y (List.mem_cons_of_mem _ (List.mem_append_left _ hy))
        exact ⟨b1, b2, (gens1 y hy).2.2⟩
end
end DL

namespace DL
open PySem PySem.Spec PyProof.Rows L2 GW2 GenW YM
/-- a generator that has not begun, of number gi -/
def MMade (P : Program) (w : World) (K : PySem.W.Frag) (mg : Str → Option Value) (base : Heap) (k : Nat) (outer : List Env) (items : List D) (inv : Sto → Prop) (F : Hp) (H : Hp) (s : Shared) (u : Value) (s' : Shared) : Prop :=
  ∃ (L a : Addr) (gi : Nat) (c : Code) (go oL : Obj), u = .ref a ∧ s.heap.objs.size ≤ L ∧ L < a ∧ gi = s.gens.size ∧ GLike gi go ∧ go.slots = #[] ∧ s'.gens = s.gens.push (.fresh c) ∧ s'.os = s.os ∧
    (∀ b o, s.heap.get? b = some o → s'.heap.get? b = some o) ∧ PinsOk (wpOf P w K mg base outer s L) [(a, go), (L, oL)] H s' ∧
    ∀ (A : Around), Room k A → A.frames = some outer → ∀ go' F2 μ2 H2 s2, GLike gi go' → WSt (wpOf P w K mg base outer s L) F2 μ2 H2 (nog s2) → FLe F F2 → inv μ2 → PinsOk (wpOf P w K mg base outer s L) [(a, go'), (L, oL)] H2 s2 → gi < s2.gens.size →
      SegM P w A (OutM (wpOf P w K mg base outer s L) gi A inv a items [] go' F2 μ2 H2 s2) c (denote table c) [] s2
structure GFnM (P : Program) (w : World) (K : PySem.W.Frag) (mg : Str → Option Value) (base : Heap) (k : Nat) (f : Addr) (fd : FuncData) (ps : List Str) (S : DSpW) : Prop where
  len : ∀ ds μ Q, S ds μ Q → ds.length = ps.length
  run : ∀ (A : Around) (outer : List Env) (s : Shared) (H : Hp) (args : Args) (us : List Value) (vs : List V) (F : Hp) (μ : Sto) (ds : List D) (Q : List D → (Sto → Prop) → Prop), Room k A → Env0 P w K mg base A outer s H → BindsTo s fd args (ps.zip us) → Vals vs us → Ok K mg F μ H → Dts K mg F vs ds → S ds μ Q →
    codeAny (model P w) A (.call (.ref f) args) (fun r s' => match r with | .ok (.ret u) => ∃ items inv, Q items inv ∧ MMade P w K mg base k outer items inv F H s u s' | _ => False) s
section
variable {P : Program} {w : World} {K : PySem.W.Frag} {mg : Str → Option Value} {base : Heap} {k : Nat} {f : Addr} {fd : FuncData} {ps : List Str} {S : DSpW}
theorem GFnM.of {name qual : Str} {st : Stmt} {N : List Str} (D : Fun K name qual st f fd) (Sc : GScope N ps (defScope st)) (hnc : ∀ y ∈ (defScope st).names, y.2 ≠ .cell) (len : ∀ ds μ Q, S ds μ Q → ds.length = ps.length) (d : TWD)
    (hd : ∀ ds μ Q, S ds μ Q → ∃ items inv, Q items inv ∧ ∀ μ2, inv μ2 → d { nx := fun r _ _ => r = [], inv := inv } items (startD N.length ds) μ2)
    (body : ∀ (cdv : Value) (A : Around) (g : WP) (gi : Nat) (ga : Addr), g.prog = P → g.w = w → g.K = K → g.mg = mg → g.base = base → WaOk g A → WDef g ⟨N, qual, defScope st, f, cdv⟩ → Room k (A.deeper (envOfC qual (defScope st) g.L f cdv)) →
      WMs g ⟨N, qual, defScope st, f, cdv⟩ gi A ga (defBody st) d) : GFnM P w K mg base (k + 1) f fd ps S := by
  obtain ⟨oc, od, kV, doc, pm, an, cdv, ct, osl, rfl, lk, hcd⟩ := D.ex
  refine ⟨len, fun A outer s H args us vs F μ ds Q hr e0 hb r hO hD hsp => ?_⟩
  have hl : vs.length = ps.length := hD.length.trans (len _ _ _ hsp)
  have KX : K.In s.heap := e0.mod.kin.keeps fun b o e => (e0.bs b o e).1
  have lim : s.heap.NoLimit := e0.mod.nolimit.keeps fun b o e => (e0.bs b o e).1
  have hkind : ∀ y ∈ ps.zip us, (defScope st).names.lookup y.1 = some .local ∨ ((defScope st).names.lookup y.1 = some .cell ∧ ((cellsFrom (s.heap.objs.size + 1) (defScope st).names []).lookup y.1).isSome = true) := fun ⟨n, v⟩ hy => by
    rcases Sc.par n (List.of_mem_zip hy).1 with q | q
    · exact .inl q
    · exact .inr ⟨q, PySem.W.cellsFrom_some _ _ _ (.inl q)⟩
  refine codeAny_call_generator hr.depth (KX _ _ lk) rfl Sc.co Sc.gen rfl (PySem.W.codeRec_of KX hcd) (hb _ _ _ _ ?_)
  refine wpAny_newFunctionEnv_cells Sc.kind hkind fun env he s1 x => ?_
  subst he
  have lim1 : s1.heap.NoLimit := lim.keeps x.toInCall.keep
  refine ⟨lim1, ?_⟩
  obtain ⟨h1, tk, es1, hk1⟩ := x.done
  have os1 : s1.os = s.os := by rw [es1]
  have gen1 : s1.gens = s.gens := by rw [es1]
  have lt1 : s.heap.objs.size < s1.heap.objs.size := x.toInCall.ns.lt
  have sz1 : s.heap.objs.size ≤ s1.heap.objs.size := Nat.le_of_lt lt1
  have kp1 : ∀ b o, s.heap.get? b = some o → s1.heap.get? b = some o := x.toInCall.keep
  obtain ⟨items, inv, hQ, hrun⟩ := hd ds μ Q hsp
  have cells0 : ∀ (n : Nat) (l : List (Str × NameKind)), (∀ y ∈ l, y.2 ≠ .cell) → cellsFrom n l [] = [] := fun n l => by
    induction l with
    | nil => intro _; rfl
    | cons y l ih =>
      intro h
      obtain ⟨a, b⟩ := y
      have hb := h (a, b) List.mem_cons_self
      have hl := ih fun z hz => h z (List.mem_cons_of_mem _ hz)
      cases b <;> first | exact hl | exact absurd rfl hb
  have I1 : Inv (gcxOf P w K mg base N qual (defScope st) f cdv A outer s H (fun _ _ _ => False) []) [] (L2.start N vs) H s1 := inv_startG Sc hr.hd e0 hl r x
  have hz : WDef (wpOf P w K mg base outer s s.heap.objs.size) ⟨N, qual, defScope st, f, cdv⟩ := ⟨Sc.kind, cells0 _ _ hnc, Sc.nofree, hnc⟩
  obtain ⟨oL, eL, dL, lL⟩ := locOk_of (g := wpOf P w K mg base outer s s.heap.objs.size) (z := ⟨N, qual, defScope st, f, cdv⟩) I1 rfl rfl hz.cells
  have eL' : s1.heap.get? s.heap.objs.size = some oL := eL
  have frl : ∀ b ∈ frs outer, b < s.heap.objs.size := fun b hb => by
    obtain ⟨_, o, ho, _⟩ := e0.funs.mem hb
    exact Heap.lt_size ho
  have main : ∀ (go : Obj) (nm qn : Value) (tk2 : Nat), go.cls = .type "generator" → go.data = .fields #[.int s1.gens.size 0, nm, qn] → go.slots = #[] → (∀ h : Heap, (h.push go).get? h.objs.size = some go) →
      MMade P w K mg base (k + 1) outer items inv F H s (.ref s1.heap.objs.size) { s1 with gens := s1.gens.push (.fresh (.func (defBody st) (envOfC qual (defScope st) s.heap.objs.size f cdv))), toks := tk2, heap := s1.heap.push go } := by
    intro go nm qn tk2 hgc hgd0 hgs hgp
    have hpushed : (s1.heap.push go).get? s1.heap.objs.size = some go := hgp _
    have hgd : ∀ v, go.data ≠ .cell v := fun v q => by rw [hgd0] at q; cases q
    refine ⟨s.heap.objs.size, s1.heap.objs.size, s.gens.size, _, go, oL, rfl, Nat.le_refl _, lt1, rfl, ⟨hgc, ⟨nm, qn, by rw [hgd0, gen1]⟩, .inl hgs⟩, hgs, by rw [← gen1], os1, fun b o e => Heap.get?_push_of_some _ (kp1 b o e), ?_, ?_⟩
    · intro p hp
      rcases List.mem_cons.mp hp with hp | hp
      · rw [hp]; exact ⟨hpushed, I1.hok.fresh (Nat.le_refl _), sz1, hgd⟩
      · rw [List.mem_singleton.mp hp]; exact ⟨Heap.get?_push_of_some _ eL', I1.free, Nat.le_refl _, dL⟩
    intro Aw hrw hfr go' F2 μ2 H2 s2 G2 St2 hF hi2 hp hsz2
    have W : WaOk (wpOf P w K mg base outer s s.heap.objs.size) Aw := ⟨e0.mod, hrw.hd, hfr, e0.bsz, frl⟩
    have hlen : (L2.start N vs).length = N.length := I1.len
    have I2 := wcx_inv (A := Aw) (ip := [(s1.heap.objs.size, go')]) W hz St2 lL hlen (fun p hp' => by
      rcases List.mem_cons.mp hp' with hp' | hp'
      · rw [hp']; exact hp _ (List.mem_cons_of_mem _ List.mem_cons_self)
      · rw [List.mem_singleton.mp hp']; exact hp _ List.mem_cons_self) fun p hp' => by rw [List.mem_singleton.mp hp']; exact Nat.ne_of_gt lt1
    show SegM P w Aw _ _ (.point [] fun _ => ((execs (defBody st) (envOfC qual (defScope st) s.heap.objs.size f cdv)).onRaise (leaving (envOfC qual (defScope st) s.heap.objs.size f cdv))) >>= _) [] s2
    refine sm_point ?_
    rw [Sem.onRaise_eq_wrap, Sem.bind_eq_wrap', Sem.wrap_wrap]
    have C0 : WCM (wpOf P w K mg base outer s s.heap.objs.size) ⟨N, qual, defScope st, f, cdv⟩ Aw s1.heap.objs.size [] [] (.func (defBody st) (envOfC qual (defScope st) s.heap.objs.size f cdv)) [] id :=
      ⟨over_func, rfl, rfl, rfl, lt1, .nil, fun p hp => by cases hp⟩
    refine (body cdv Aw (wpOf P w K mg base outer s s.heap.objs.size) s.gens.size s1.heap.objs.size rfl rfl rfl rfl rfl W hz (hrw.deeper _)).run [] [] _ [] _ _ id id { nx := fun r _ _ => r = [], inv := inv } items go' F2 μ2 H2 s2 [] F2 (startD N.length ds) (L2.start N vs) H2 s2 C0 ⟨fun fl r go3 F0 μ0 H0 s0 gv3 F3 ρ3 σ3 H3 s3 G3 St3 I3 R3 hF3 hsz3 q3 => ?_⟩ G2 St2 I2
      (start_rel St2.okd (hD.mono hF)) ⟨hsz2, .refl, .nil⟩ (hrun μ2 hi2)
    cases fl with
    | next =>
      have e3 : r = [] := q3
      subst e3
      have pin3 := (I3.pin (s1.heap.objs.size, go3) (List.mem_append_right _ List.mem_cons_self))
      exact sm_end (.ok (.ret .none)) ⟨rfl, hsz3.size, hsz3.acc, F3, μ0, H3, ⟨R3.ext, R3.rel.ok, I3.hok, I3.base, I3.os.trans St3.os, .empty, rfl⟩, fun p hp => by
        rw [List.mem_singleton.mp hp]
        exact ⟨pin3.1, pin3.2.1, sz1, G3.noCell⟩⟩
    | brk => exact q3.elim
    | cont => exact q3.elim
    | ret u => exact q3.elim
  exact ⟨items, inv, hQ, main _ _ _ _ rfl rfl rfl fun h => Heap.get?_push_size _ rfl⟩
end
end DL

namespace YM
open PySem PyProof.Rows GenW
open Sem (wp)
theorem runs_hsz {M : Model} {Γ : Ctx} {p : Pos} {t : Sem PySem.Fin} {fs : List Frame} {s s' : Shared} {e : End} (h : Runs M Γ p t fs s e s') : s.heap.objs.size ≤ s'.heap.objs.size := by
  induction h <;> (try simp only [Shared.setGen, Heap.size_push, Heap.size_update] at *) <;> omega
theorem wakes_hsz {M : Model} {Γ : Ctx} {p : Pos} {g : Nat} {r : Resume} {s s' : Shared} {res : GenResult} (h : Wakes M Γ p g r s res s') : s.heap.objs.size ≤ s'.heap.objs.size := by
  unfold Wakes at h
  split at h
  · exact h.elim
  · split at h
    · obtain ⟨e₁, s₁, hr, _, _, rfl⟩ := h
      have := runs_hsz hr
      exact this
    · rw [h.2]; exact Nat.le_refl _
    · rw [h.2]; exact Nat.le_refl _
  · obtain ⟨e₁, s₁, hr, _, _, rfl⟩ := h
    have := runs_hsz hr
    exact this
  · rw [h.2]; exact Nat.le_refl _
  · rw [h.2]; exact Nat.le_refl _
theorem wp_hsz {α : Type} (M : Model) (Γ : Ctx) (n : Nat) (t : Sem α) : ∀ (Q : α → Pos → Shared → Prop) (E : Value → Pos → Shared → Prop) (p : Pos) (s : Shared), n ≤ s.heap.objs.size → wp M Γ t Q E p s →
    wp M Γ t (fun a p' s' => n ≤ s'.heap.objs.size ∧ Q a p' s') (fun e p' s' => n ≤ s'.heap.objs.size ∧ E e p' s') p s := by
  have up : ∀ (s : Shared) (a : Addr) (f : Obj → Obj), n ≤ s.heap.objs.size → n ≤ (s.heap.update a f).objs.size := fun s a f h => by rw [Heap.size_update]; exact h
  have pu : ∀ (s : Shared) (o : Obj), n ≤ s.heap.objs.size → n ≤ (s.heap.push o).objs.size := fun s o h => by rw [Heap.size_push]; omega
  induction t with
  | pure a => intro Q E p s hn h; exact ⟨hn, h⟩
  | raise e => intro Q E p s hn h; exact ⟨hn, h⟩
  | unsupported _ => intro Q E p s _ h; exact h
  | finish _ => intro Q E p s _ h; exact h
  | rule _ k ih => intro Q E p s hn h; exact ih () Q E p s hn h
  | «at» p' k ih => intro Q E p s hn h; exact ih () Q E p' s hn h
  | load a _ k ih => intro Q E p s hn h; obtain ⟨o, ho, h⟩ := h; exact ⟨o, ho, ih o Q E p s hn h⟩
  | update a _ f k ih => intro Q E p s hn h; exact ⟨h.1, ih () Q E p _ (up _ _ _ hn) h.2⟩
  | loadIfAlive a k ih => intro Q E p s hn h; exact ih _ Q E p s hn h
  | point _ k ih => intro Q E p s hn h; exact ih () Q E p s hn h
  | register _ _ => intro Q E p s _ h; exact h
  | alloc o k ih => intro Q E p s hn h; exact ih _ Q E p _ (pu _ _ hn) h
  | fresh k ih => intro Q E p s hn h; exact ih _ Q E p _ hn h
  | ask k ih => intro Q E p s hn h; exact ih _ Q E p s hn h
  | choose src m k ih => intro Q E p s hn h; exact ⟨h.1, ih _ Q E p _ hn h.2⟩
  | os q _ k ih => intro Q E p s hn h; exact ih _ Q E p _ hn h
  | call c hd _ _ k ih => intro Q E p s hn h; obtain ⟨r, s', hr, h⟩ := h; exact ⟨r, s', hr, ih r Q E p s' (Nat.le_trans hn (runs_hsz hr)) h⟩
  | handled own k ih => intro Q E p s hn h; exact ih _ Q E p s hn h
  | genState g k ih => intro Q E p s hn h; obtain ⟨st, hs, h⟩ := h; exact ⟨st, hs, ih _ Q E p s hn h⟩
  | newGen c k ih => intro Q E p s hn h; exact ih _ Q E p _ hn h
  | resume g r _ k ih => intro Q E p s hn h; obtain ⟨res, s', hw, h⟩ := h; exact ⟨res, s', hw, ih res Q E p s' (Nat.le_trans hn (wakes_hsz hw)) h⟩
  | yield _ _ _ _ => intro Q E p s _ h; exact h
  | stack k ih => intro Q E p s hn h; exact ih _ Q E p s hn h
  | fork _ _ => intro Q E p s _ h; exact h
  | thread k ih => intro Q E p s hn h; exact ih _ Q E p s hn h
  | await _ _ _ _ _ => intro Q E p s _ h; exact h
theorem wpAny_hsz {α : Type} {M : Model} {A : Around} {s : Shared} {t : Sem α} {Q : α → Shared → Prop} {E : Value → Shared → Prop}
    (h : wpAny M A t Q E s) : wpAny M A t (fun a s' => Q a s' ∧ s.heap.objs.size ≤ s'.heap.objs.size) E s :=
  wpAny_mono (Q := fun a s' => s.heap.objs.size ≤ s'.heap.objs.size ∧ Q a s') (E := fun e s' => s.heap.objs.size ≤ s'.heap.objs.size ∧ E e s') (fun Γ p hΓ => wp_hsz M Γ s.heap.objs.size t _ _ p s (Nat.le_refl _) (h Γ p hΓ)) (fun _ _ x => ⟨x.2, x.1⟩) fun _ _ x => x.2
end YM

namespace DL
open PySem PySem.Spec PyProof.Rows L2 GW2 GenW YM
/-- the generator def x keeps the promise S -/
structure CalM (P : Program) (w : World) (K : PySem.W.Frag) (mg : Str → Option Value) (base : Heap) (k : Nat) (x : Str) (S : DSpW) : Prop where
  ex : ∃ f fd ps, mg x = some (.ref f) ∧ PySem.W.keepIn K (.ref f) = true ∧ GFnM P w K mg base k f fd ps S ∧ Binds K fd ps []
theorem GFnM.mono {P : Program} {w : World} {K : PySem.W.Frag} {mg : Str → Option Value} {base : Heap} {j k : Nat} {f : Addr} {fd : FuncData} {ps : List Str} {S : DSpW} (F : GFnM P w K mg base j f fd ps S) (h : j ≤ k) : GFnM P w K mg base k f fd ps S where
  len := F.len
  run := fun A outer s H args us vs Fh μ ds Q r e0 hb rv o hD hs => codeAny_mono (F.run A outer s H args us vs Fh μ ds Q (r.mono h) e0 hb rv o hD hs) fun r s' hq => by
    cases r with
    | error e => exact hq
    | ok fl =>
      cases fl with
      | ret u =>
        obtain ⟨items, inv, q, L, a, gi, c, go, oL, h1, h2, h3, h4, h5, h6, h7, h8, h9, h10, h11⟩ := hq
        exact ⟨items, inv, q, L, a, gi, c, go, oL, h1, h2, h3, h4, h5, h6, h7, h8, h9, h10, fun A hr hf => h11 A (hr.mono h) hf⟩
      | _ => exact hq
theorem GFnM.never {P : Program} {w : World} {K : PySem.W.Frag} {mg : Str → Option Value} {base : Heap} {k : Nat} {f : Addr} {fd : FuncData} {ps : List Str} {S : DSpW} (h : ∀ ds μ Q, ¬ S ds μ Q := by intro ds μ Q z; exact z.elim) : GFnM P w K mg base k f fd ps S := ⟨fun ds μ Q z => (h ds μ Q z).elim, fun A outer s H args us vs F μ ds Q _ _ _ _ _ _ z => (h ds μ Q z).elim⟩
section
variable {X : Cx} {k : Nat} {x : Str} {S : DSpW} {e : Expr} {es : List Expr} {t : TAD} {p pos : Pos}
/-- f(e, ..) of a generator def: the generator, over a state s1 -/
theorem mcall {pins : List (Addr × Obj)} {σ : L2.St} {H : Hp} {s : Shared} {F : Hp} {ρ : DEnv} {μ : Sto} {Q : List D → (Sto → Prop) → Sto → Prop} {n : Nat} (c : CalM X.prog X.w X.K X.mg X.base k x S) (room : Room k X.A) (hg : Gl X x) (ha : DA X (e :: es) t) (hn : n ≤ s.gens.size) (I : Inv X pins σ H s) (R : Rel X.K X.mg F ρ μ σ H)
    (hq : t ρ μ fun ds μ1 => S ds μ1 fun items inv => Q items inv μ1) (hdb : (x == ("__debug__" : Str)) = false := by decide)
    (he : starEach (e :: es) X.env = (false, eval e X.env) :: starEach es X.env := by rfl) (hpl : (backTo pos (starEach es X.env)).any (·.1) = false := by rfl) :
    wpAny (model X.prog X.w) X.A (eval (.Call (.Name x p) (e :: es) [] pos) X.env) (fun u s' => ∃ H1 s1 F1 μ1 items inv, Inv X pins σ H1 s1 ∧ n ≤ s1.gens.size ∧ s.heap.objs.size ≤ s1.heap.objs.size ∧ Ext F μ H F1 μ1 H1 ∧ Ok X.K X.mg F1 μ1 H1 ∧ Q items inv μ1 ∧ MMade X.prog X.w X.K X.mg X.base k X.stack items inv F1 H1 s1 u s') X.xe s := by
  obtain ⟨f, fd, ps, hm, hk, g7, g8⟩ := c.ex
  refine wpAny_Call_Name_kw (ld_glob I hg hm ?_ hdb)
  have args := wpAny_gsz hn (Q := fun us s1 => AP X pins σ (fun vs H1 => ∃ F1 μ1 ds, Ext F μ H F1 μ1 H1 ∧ Ok X.K X.mg F1 μ1 H1 ∧ Dts X.K X.mg F1 vs ds ∧ S ds μ1 fun items inv => Q items inv μ1) us s1 ∧ n ≤ s1.gens.size)
    (wpAny_mono (ha.run pos pins s σ H (fun vs H1 => ∃ F1 μ1 ds, Ext F μ H F1 μ1 H1 ∧ Ok X.K X.mg F1 μ1 H1 ∧ Dts X.K X.mg F1 vs ds ∧ S ds μ1 fun items inv => Q items inv μ1) I ⟨F, ρ, μ, _, R, hq, fun vs F1 μ1 H1 ds e1 o1 w1 q1 => ⟨F1, μ1, ds, e1, o1, w1, q1⟩⟩) (fun us s1 hz hsz => ⟨hz, hsz⟩) fun _ _ x _ => x)
  refine PySem.W.callWith_K (h₀ := X.base) I.ok.mod.kin hk (thn (wpAny_hsz args) fun us s1 ⟨⟨⟨vs, H1, I1, r, F1, μ1, ds, e1, o1, w1, q1⟩, hsz⟩, hhz⟩ => ⟨I1.kIn, ?_⟩) he hpl
  have hlen : (us ++ [] : List Value).length = ps.length := by
    rw [List.append_nil, ← r.length, w1.length]; exact g7.len _ _ _ q1
  refine wpAny_call (codeAny_mono (g7.run X.A X.stack s1 H1 ⟨us, []⟩ (us ++ []) vs F1 μ1 ds _ room I1.env0 (g8 s1 us I1.kIn hlen) (by rw [List.append_nil]; exact r) o1 w1 q1) fun r s' hq => ?_)
  cases r with
  | error e => exact hq.elim
  | ok fl =>
    cases fl with
    | ret u =>
      obtain ⟨items, inv, q2, M⟩ := hq
      exact ⟨H1, s1, F1, μ1, items, inv, I1, hsz, hhz, e1, o1, q2, M⟩
    | _ => exact hq.elim
end
theorem smw_bind2 {P : Program} {w : World} {A : Around} {Φ : End → Shared → Prop} {c : Code} {fs : List Frame} {s : Shared} {α β γ : Type} {m : Sem α} {f : α → Sem β} {f2 : β → Sem γ} {K : γ → Sem PySem.Fin} {J : Value → Sem PySem.Fin} {gd : Bool → Bool} {lv : List Value → List Value}
    (h : TL P w (A.over c fs) m (fun a s' => SegM P w A Φ c ((f a).wrap (fun b => (f2 b).wrap K J gd lv) J gd lv) fs s') (fun x s' => SegM P w A Φ c (J x) fs s') s) : SegM P w A Φ c (((m >>= f) >>= f2).wrap K J gd lv) fs s := by
  rw [Sem.bind_eq_wrap' (m >>= f) f2, Sem.wrap_wrap]
  exact sm_bind_wrap h
/-- yield from f(e, ..) -/
@[simp] def wFrom (S : DSpW) (t : TAD) : TWD := fun E r ρ μ => noOwn ρ = true ∧ t ρ μ fun ds μ1 => S ds μ1 fun items inv => μ1 = μ ∧ inv μ ∧ (∀ μ2, E.inv μ2 → inv μ2) ∧ ∃ r', r = items ++ r' ∧ E.nx r' ρ μ ∧ ∀ μ2, E.inv μ2 → E.nx r' ρ μ2
section
variable {g : WP} {z : WF} {gi : Nat} {A : Around} {ga : Addr} {pos pos' yp p : Pos} {k : Nat} {x : Str} {S : DSpW} {e : Expr} {es : List Expr} {t : TAD}
theorem wm_yf (W : WaOk g A) (hz : WDef g z) (c : CalM g.prog g.w g.K g.mg g.base k x S) (room : Room (k + 2) (A.deeper (z.env g))) (hg : ∀ s0 H0, Gl (wcx g z A s0 H0) x) (ha : ∀ s0 H0, DA (wcx g z A s0 H0) (e :: es) t) (hdb : (x == ("__debug__" : Str)) = false := by decide)
    (he : starEach (e :: es) (z.env g) = (false, eval e (z.env g)) :: starEach es (z.env g) := by rfl) (hpl : (backTo pos' (starEach es (z.env g))).any (·.1) = false := by rfl) (hi : interactive (z.env g) = false := by rfl) :
    WMt g z gi A ga (.Expr (.YieldFrom (.Call (.Name x p) (e :: es) [] pos') yp) pos) (wFrom S t) := by
  refine ⟨fun ip gl cc fs K J gd lv Y r go F0 μ0 H0 s0 gv0 F ρ σ H s C kk G St I R hs q => ?_⟩
  obtain ⟨hno, q⟩ := q
  rw [exec_Expr (z.env g) _ pos hi rfl]
  show SegM _ _ _ _ _ (.at pos fun _ => ((eval (.Call (.Name x p) (e :: es) [] pos') (z.env g) >>= fun v => (standAt yp >>= fun _ => yieldFrom (z.env g) v)) >>= fun y => dropValue (.YieldFrom (.Call (.Name x p) (e :: es) [] pos') yp) pos y).wrap K J gd lv) fs s
  refine sm_at (smw_bind2 ?_)
  rw [C.over]
  have hn : s.gens.size ≤ (Shared.dull s).gens.size := by show s.gens.size ≤ (s.gens.map YM.dull).size; rw [Array.size_map]; exact Nat.le_refl _
  refine (TL.dull (mcall (X := wcx g z A (nog s0) H0) (s := Shared.dull s) (Q := fun items inv μ1 => μ1 = μ0 ∧ inv μ0 ∧ (∀ μ2, Y.inv μ2 → inv μ2) ∧ ∃ r', r = items ++ r' ∧ Y.nx r' ρ μ0 ∧ ∀ μ2, Y.inv μ2 → Y.nx r' ρ μ2) c (room.mono (by omega)) (hg _ _) (ha _ _) hn (inv_dull I) R.rel q hdb he hpl)).mono (fun u s' hx => ?_) fun x s' hx => by obtain ⟨_, _, hx⟩ := hx; exact hx.elim
  obtain ⟨gb, Sd, H1, s1, F1, μ1, items, inv1, I1, hsz1, _, e1, o1, ⟨hmu, hi0, hi1, r', hr, q1, q2⟩, M⟩ := hx
  subst hmu hr
  obtain ⟨L1, a1, gi1, cc1, go1, oL1, hu, hL1, hLa, hgi1, G1, hsl, hgen, hos, hkp, pins1, wake⟩ := M
  subst hu
  have hosg : s1.os = g.os := I1.os.trans St.os
  have ew : wpOf g.prog g.w g.K g.mg g.base (z.env g :: g.outer) s1 L1 = in1of g z L1 := by unfold wpOf in1of; rw [hosg]
  have ew' : wpOf (wcx g z A (nog s0) H0).prog (wcx g z A (nog s0) H0).w (wcx g z A (nog s0) H0).K (wcx g z A (nog s0) H0).mg (wcx g z A (nog s0) H0).base (wcx g z A (nog s0) H0).stack s1 L1 = in1of g z L1 := ew
  rw [ew'] at pins1 wake
  have hgb : gb[gi1]? = some (.fresh cc1) := by
    have hgen' : gb = s1.gens.push (.fresh cc1) := hgen
    rw [hgen', hgi1]
    exact Array.getElem?_push_size ..
  have hat : s'.gens[gi1]? = some (.fresh cc1) := (Sd.new gi1 (Sd.isNew hgb rfl)).1 ▸ hgb
  have a1o := pins1 (a1, go1) List.mem_cons_self
  have hgen1 : s'.heap.IsGen a1 gi1 := by
    obtain ⟨nm, qn, hd⟩ := G1.dat
    exact ⟨go1, nm, qn, a1o.1, G1.cls, hd, hsl⟩
  have I2 : Inv (wcx g z A (nog s0) H0) ((ga, go) :: ip) σ H1 (nog s') := (inv_nog (s := s1) I1).call' (s' := nog s') (ch := []) hos (Un.kept hkp) (I1.hok.kept hkp) .empty fun b zz => by simp at zz
  refine sm_at ?_
  show SegM _ _ _ _ _ ((yieldFrom (z.env g) (.ref a1)).wrap (fun b => (dropValue (.YieldFrom (.Call (.Name x p) (e :: es) [] pos') yp) pos b).wrap K J gd lv) J gd lv) fs s'
  unfold yieldFrom
  refine sm_bind_wrap (.of (wpAny_typeOf (T := "generator") ⟨go1, a1o.1, G1.cls⟩ ?_))
  rw [if_neg (by decide)]
  refine sm_bind_wrap (.holding (.of (wpAny_pyIter_gen hgen1 ?_)))
  show SegM _ _ _ _ _ (.call (cYf a1) none (gd false) (lv []) _) fs s'
  refine sm_call fun p => ?_
  have fr : (A.deeper (z.env g)).in1.in1.frames = some (z.env g :: g.outer) := Around.frames_deeper W.frames
  have rm : Room k (A.deeper (z.env g)).in1.in1 := (room.in1 (k := k + 1)).in1
  have lt1 : ∀ {b : Addr} {o : Obj}, (nog s1).heap.get? b = some o → b < L1 := fun e => Nat.lt_of_lt_of_le (Heap.lt_size e) hL1
  have Bl : Below1 g ga ip L1 := by
    refine ⟨Nat.lt_of_lt_of_le I1.lt hL1, lt1 (I1.pin (ga, go) (List.mem_append_right _ List.mem_cons_self)).1, fun q hq => ?_⟩
    exact lt1 (I1.pin q (List.mem_append_right _ (List.mem_cons_of_mem _ hq))).1
  have bare' : AllBare gb := by
    have e : gb = s1.gens.push (.fresh cc1) := hgen
    rw [e]
    intro y hy
    rcases Array.mem_push.mp hy with h | h
    · exact I1.bare y h
    · rw [h]; rfl
  have hge : s.gens.size ≤ gi1 := by omega
  have hs1 := hs.kp Sd bare'
  refine sm_yf (K := K) (L1 := L1) (gi1 := gi1) W hz C ?_ Bl hLa (show gi < gi1 from Nat.lt_of_lt_of_le hs.size hge) hi1 (fun fs s Φ h => ?_) items r' go F0 μ1 H0 s0 gv0 F1 ρ σ H1 s' (.fresh cc1) go1 [(L1, oL1)] [] (kk.mono e1.mono) G St I2 (R.step e1 o1) hno hs1.size (hs1.acc.more (y := (gi1, _)) (Nat.le_trans hs.acc.size hge)) hs1.pins (fun x hx => ⟨fun e => ?_, fun y hy => by cases hy⟩) hi0 ?_ q1 q2
  · have := room.dp
    show (A.deeper (z.env g)).depth < _
    omega
  · show SegM _ _ _ _ _ ((dropValue _ pos Value.none).wrap K J gd lv) _ _
    rw [dropValue_plain (by intro a z; cases z)]
    exact h
  · have := (Array.getElem?_eq_some_iff.mp (hs.pins x hx).1).1
    omega
  · refine ⟨G1, pins1, fun q hq => ?_, .nil, (Array.getElem?_eq_some_iff.mp hat).1, hat, (fun _ _ _ _ _ z => nomatch z), .nil, fun go' F2 μ2 H2 s2 G2 St2 hF hi2 hp2 _ hs2 => wake _ rm fr go' F2 μ2 H2 s2 G2 St2 hF hi2 hp2 hs2⟩
    rw [List.mem_singleton.mp hq]
    exact Nat.ne_of_lt hLa
end
end DL

namespace DL
open PySem PySem.Spec PyProof.Rows L2 GW2 GenW YM
section
variable {P : Program} {w : World} {A : Around} {E : Value → Shared → Prop} {s : Shared}
theorem tl_call {f : Value} {pos : List Value} {kw : List (Str × Value)} {Q : Value → Shared → Prop}
    (hc : TC P w (A.mark none) (.call f ⟨pos, kw⟩) (fun r s' => match r with | .ok (.ret v) => Q v s' | .ok _ => False | .error e => E e s') s) : TL P w A (call f pos kw) Q E s := by
  unfold PySem.call
  exact .runValue hc
theorem tc_builtin {id : String} {args : Args} {b : Builtin} {R : Result → Shared → Prop} (hb : entryFor table id = some b)
    (h : TL P w (A.under (.builtin id args)) (b args) (fun fin s' => match fin with | .done f => R (.ok f) s' | .again c' => c'.quiet = true ∧ TC P w A c' R s') (fun e s' => R (.error e) s') s) : TC P w A (.builtin id args) R s := by
  refine .tree ?_
  show TL P w _ (match entryFor table id with | some b => b args | none => unsupported ((withoutEnding? id "#data").getD id)) _ _ s
  rw [hb]; exact h
/-- next, as a consumer asks for it -/
theorem tl_pyNext {a : Addr} {gi : Nat} {o : Obj} {gs : GenState} {Φ : End → Shared → Prop} {Q : Option Value → Shared → Prop} (hh : A.handled = none)
    (hl : s.heap.NoLimit) (hroom : A.depth < recursionLimit) (ho : s.heap.get? a = some o) (G : GLike gi o) (hgs : s.gens[gi]? = some gs) (hgo : GoesM P w A.in1 Φ gs (s.setGen gi .running)) (hb : ∀ e s₁, Φ e s₁ → BenE s₁ e)
    (hY : ∀ e s₁, Φ e s₁ → (e = .ret (.ok (.ret .none)) ∧ ∀ h', (∀ b o, s₁.heap.get? b = some o → h'.get? b = some o) → Q none { s₁.setGen gi .finished with heap := h' }) ∨
      ∃ v fl l k c p fs, e = .susp v fl l k c p fs ∧ Q (some v) (s₁.setGen gi e.genState)) : TL P w A (pyNext (.ref a)) Q E s := by
  unfold pyNext
  refine .bind (.attempt (tl_next hh hl hroom ho G hgs hgo hb fun e s1 he => ?_))
  rcases hY e s1 he with ⟨rfl, h⟩ | ⟨v, fl, l, k, c, p, fs, rfl, h⟩
  · refine .inl ⟨rfl, fun e' h' _ hz hk => ?_⟩
    obtain ⟨a', o', rfl, e2, e3⟩ := hz
    dsimp only
    refine .bind (.of (wpAny_isInstance (T := "StopIteration") (b := true) ⟨_, e2, e3⟩ isSubtype_stop ?_))
    exact .pure (h h' hk)
  · exact .inr ⟨v, fl, l, k, c, p, fs, rfl, .pure h⟩
end
abbrev wpX (X : Cx) (L : Addr) : WP := ⟨X.prog, X.w, X.K, X.mg, X.base, X.stack, L, X.s_0.os⟩
theorem tl_turn {X : Cx} {pins : List (Addr × Obj)} {σ : L2.St} {H : Hp} {s : Shared} {F : Hp} {μ : Sto} {A : Around} {L1 a1 : Addr} {gi1 : Nat} {inv1 : Sto → Prop} {rest : List D} {gs1 : GenState} {go1 : Obj} {pv1 : List (Addr × Obj)} {gv1 : List (Nat × GenState)} {Q : Option Value → Shared → Prop} {E : Value → Shared → Prop}
    (hh : A.handled = none) (hroom : A.depth < recursionLimit) (ol : Older X pins L1) (I : Inv X pins σ H (nog s)) (o : Ok X.K X.mg F μ H) (hi : inv1 μ) (hL : L1 < a1)
    (N : Inr X.prog X.w (wpX X L1) gi1 A.in1 inv1 a1 rest F H s gs1 go1 pv1 gv1)
    (hq : match rest with
      | [] => ∀ s' F1 H1, Inv X pins σ H1 (nog s') → Ext F μ H F1 μ H1 → Ok X.K X.mg F1 μ H1 → Acc s ((gi1, gs1) :: gv1) s' [] → Q none s'
      | x :: r => ∀ v s' F1 H1 xv gs' go' pv' gv', RelV xv v → Dt X.K X.mg F1 xv x → Inv X pins σ H1 (nog s') → Ext F μ H F1 μ H1 → Ok X.K X.mg F1 μ H1 → Inr X.prog X.w (wpX X L1) gi1 A.in1 inv1 a1 r F1 H1 s' gs' go' pv' gv' → Acc s ((gi1, gs1) :: gv1) s' ((gi1, gs') :: gv') → isS gs' = true → Q (some v) s') :
    TL X.prog X.w A (pyNext (.ref a1)) Q E s := by
  have hsz1 : L1 ≤ s.heap.objs.size := Nat.le_of_lt (Nat.lt_trans hL (Heap.lt_size (N.pins _ List.mem_cons_self).1))
  have St1 : WSt (wpX X L1) F μ H (nog (s.setGen gi1 .running)) := ⟨I.os, AllBare.empty, hsz1, I.bs, I.stack, I.stkFree, I.hok, o⟩
  have goes := N.wake go1 F μ H (s.setGen gi1 .running) N.G St1 .rfl' hi N.pins N.gens.set (by rw [setGen_size]; exact N.size)
  have r0 : Acc s ((gi1, gs1) :: gv1) s ((gi1, gs1) :: (gv1 ++ [])) := by rw [List.append_nil]; exact .refl
  refine tl_pyNext hh I.nolimit hroom (N.pins _ List.mem_cons_self).1 N.G N.here goes (fun e s1 he => he.ben) fun e s1 he => ?_
  cases rest with
  | nil =>
    obtain ⟨rfl, hsz, hac, F1, μ1, H1, Bk, _⟩ := he
    refine .inl ⟨rfl, fun h' hk => ?_⟩
    have hmu := Bk.same
    subst hmu
    have ac := (r0.turn (x := .finished) (x' := .finished) hac).less not_flag
    exact hq _ F1 H1 (back_inv (g := wpX X L1) (s := nog (s.setGen gi1 .running)) (s1 := nog s1) (s4 := { nog s1 with heap := h' }) I ol rfl rfl rfl I.os.symm Bk.nog0 hk rfl .empty) Bk.ext Bk.okd ⟨ac.new, ac.old, ac.fr, ac.size⟩
  | cons x r =>
    obtain ⟨v, fl, l, k1, c1, p1, fs1, F1, μ1, H1, xv, pv1', gv1', rfl, hben, Bk, rv, w1, pins1, ne1, gens1, size1, hac, che1, cho1, next⟩ := he
    refine .inr ⟨v, fl, l, k1, c1, p1, fs1, rfl, ?_⟩
    have hmu := Bk.same
    subst hmu
    refine hq v _ F1 H1 xv (End.susp v fl l k1 c1 p1 fs1).genState go1 pv1' gv1' rv w1 (back_inv (g := wpX X L1) (s := nog (s.setGen gi1 .running)) (s1 := nog s1) (s4 := nog s1) I ol rfl rfl rfl I.os.symm Bk.nog0 (fun b o e => e) rfl .empty) Bk.ext Bk.okd ⟨N.G, pins1, ne1, gens1.set, by rw [setGen_size]; exact size1, setGen_at size1, che1, cho1, next⟩ ?_ rfl
    have ac := r0.turn (x := (End.susp v fl l k1 c1 p1 fs1).genState) (x' := (End.susp v fl l k1 c1 p1 fs1).genState) hac
    rw [List.append_nil] at ac
    exact ac
/-- a list that nobody else knows is written -/
theorem Ok.own {K : PySem.W.Frag} {mg : Str → Option Value} {F : Hp} {μ : Sto} {H : Hp} (o : Ok K mg F μ H) {S : Addr} {u : HO} (hF : F S = none) (hm : μ S = none) : Ok K mg F μ (upd H S u) where
  sub := fun a x e => by
    have : a ≠ S := ne_of_none e hF
    rw [upd_ne this]; exact o.sub a x e
  dis := o.dis
  sto := fun a m e => (o.sto a m e).up (fun _ _ e => e) (upd_ne fun z => by rw [z, hm] at e; cases e)
theorem Ext.own {F0 F : Hp} {μ0 μ : Sto} {H0 H : Hp} (e : Ext F0 μ0 H0 F μ H) {S : Addr} {u : HO} (h : H0 S = none) : Ext F0 μ0 H0 F μ (upd H S u) where
  mono := e.mono
  keep := fun a x q n => by
    obtain ⟨h1, h2, h3⟩ := e.keep a x q n
    exact ⟨by rw [upd_ne (ne_of_none q h)]; exact h1, h2, h3⟩
  live := fun a q => e.live a (upd_live a q)
theorem tc_drain {s00 : Shared} {gv00 : List (Nat × GenState)} {X : Cx} {pins : List (Addr × Obj)} {σ : L2.St} {A : Around} {L1 a1 S : Addr} {gi1 : Nat} {inv1 : Sto → Prop} {F0 H0 : Hp} {μ : Sto} {res : Value} {R : Result → Shared → Prop}
    (hh : A.handled = none) (hroom : A.depth < recursionLimit) (ol : Older X pins L1) (hL : L1 < a1) (hi : inv1 μ) (hS0 : H0 S = none) (hSm : μ S = none) :
    ∀ (rest : List D) (s : Shared) (H F : Hp) (ds : List D) (vs : List V) (gs : GenState) (go : Obj) (pv : List (Addr × Obj)) (gv : List (Nat × GenState)), Inv X pins σ H (nog s) → Ext F0 μ H0 F μ H → Ok X.K X.mg F μ H → H S = some (.lst vs) → F S = none → Dts X.K X.mg F vs ds → ds.length + rest.length ≤ sizeLine →
      Inr X.prog X.w (wpX X L1) gi1 A.in1.in1 inv1 a1 rest F H s gs go pv gv → Acc s00 gv00 s ((gi1, gs) :: gv) →
      (∀ s' F1 H1 vs', Inv X pins σ H1 (nog s') → Ext F0 μ H0 F1 μ H1 → Ok X.K X.mg F1 μ H1 → H1 S = some (.lst vs') → F1 S = none → Dts X.K X.mg F1 vs' (ds ++ rest) → Acc s00 gv00 s' [] → R (.ok (.ret res)) s') →
      TC X.prog X.w A (.builtin "list.extend.loop" ⟨[.ref S, .ref a1, res], []⟩) R s := by
  intro rest
  induction rest with
  | nil =>
    intro s H F ds vs gs go pv gv I e o hS hF hd hz N hac hR
    refine tc_builtin PySem.F.entry_extend_loop ?_
    rw [Around.under_plainId PySem.F.plain_extend_loop _]
    show TL _ _ A.in1 (pyNext (.ref a1) >>= _) _ _ s
    refine .bind (tl_turn (A := A.in1) hh hroom ol I o hi hL N fun s' F1 H1 I1 e1 o1 ac => ?_)
    obtain ⟨h1, h2, _⟩ := e1.keep S _ hS hSm
    refine .pure (hR s' F1 H1 vs I1 (e.trans e1) o1 h1 (h2.trans hF) ?_ (hac.trans ac))
    rw [List.append_nil]
    exact hd.mono e1.mono
  | cons x r ih =>
    intro s H F ds vs gs go pv gv I e o hS hF hd hz N hac hR
    refine tc_builtin PySem.F.entry_extend_loop ?_
    rw [Around.under_plainId PySem.F.plain_extend_loop _]
    show TL _ _ A.in1 (pyNext (.ref a1) >>= _) _ _ s
    refine .bind (tl_turn (A := A.in1) hh hroom ol I o hi hL N fun v s' F1 H1 xv gs' go' pv' gv' rv w1 I1 e1 o1 N1 ac _ => ?_)
    obtain ⟨h1, h2, _⟩ := e1.keep S _ hS hSm
    have hF1 := h2.trans hF
    obtain ⟨hlen, its, n, hv, hl, ho⟩ := I1.lstM h1
    have hdl : vs.length = ds.length := hd.length
    simp only [List.length_cons] at hz
    have hlt : vs.length < sizeLine := by omega
    show TL _ _ _ (updateSeq S (·.push v) >>= _) _ _ _
    refine .bind (.of (wpAny_updateSeq ho rfl ?_ (by rw [List.size_toArray, ← hl]; omega) (by rw [Array.size_push, List.size_toArray, ← hl]; omega)))
    refine .pure ⟨plainId_quiet PySem.F.plain_extend_loop _, ?_⟩
    have I2 : Inv X pins σ (upd H1 S (.lst (vs ++ [xv]))) (nog { s' with heap := s'.heap.update S (Obj.mapSeq (·.push v)) }) :=
      I1.lset (t' := s'.toks) (its := its) (its' := its ++ [v]) (f := (·.push v)) h1 ho (by simp) (hv.append (.cons rv .nil)) (by rw [List.length_append, List.length_singleton]; omega)
    refine ih _ (upd H1 S (.lst (vs ++ [xv]))) F1 (ds ++ [x]) (vs ++ [xv]) gs' go' pv' gv' I2 ((e.trans e1).own hS0) (o1.own hF1 hSm) upd_same hF1 ((hd.mono e1.mono).append (.cons w1 .nil)) (by rw [List.length_append, List.length_singleton]; omega) ?_ (hac.trans ⟨ac.new, ac.old, ac.fr, ac.size⟩) ?_
    · refine ⟨N1.G, fun p hp => ?_, N1.ne, N1.gens, N1.size, N1.here, N1.che, N1.cho, N1.wake⟩
      obtain ⟨b1, b2, b3, b4⟩ := N1.pins p hp
      have hne : p.1 ≠ S := fun z => by rw [z, h1] at b2; cases b2
      exact ⟨(Heap.get?_update_other _ _ (Ne.symm hne)).trans b1, by rw [upd_ne hne]; exact b2, b3, b4⟩
    · rw [List.append_assoc]
      exact hR
end DL

namespace DL
open PySem PySem.Spec PyProof.Rows L2 GW2 GenW YM
section
variable {P : Program} {w : World} {A : Around} {E : Value → Shared → Prop} {s : Shared}
theorem tc_call_builtin {T : String} {name : Str} {id : String} {b : Builtin} {self : Value} {rest : List Value} {R : Result → Shared → Prop} (h : Slot T name id) (hT : s.TypeIs self T) (hb : entryFor table id = some b) (ha : argsOk id ⟨self :: rest, []⟩)
    (hc : TL P w A.in1 (b ⟨self :: rest, []⟩) (fun fin s' => match fin with | .done f => R (.ok f) s' | .again c' => c'.quiet = true ∧ TC P w A c' R s') (fun e s' => R (.error e) s') s) : TC P w A (.call (.builtin id) ⟨self :: rest, []⟩) R s := by
  refine .tree ?_
  show TL P w A.in1 (do checkBuiltinCall id ⟨self :: rest, []⟩; again (.builtin id ⟨self :: rest, []⟩)) _ _ s
  refine .bind (.of (h.check _ _ _ _ _ _ _ _ hT ha (.pure ⟨plainId_quiet h.plain _, tc_builtin hb ?_⟩)))
  rw [Around.under_plainId h.plain]
  exact hc
theorem tl_callType {T newId initId : String} {Bi : Builtin} {args : List Value} {Q Q₁ : Value → Shared → Prop} (ft : TypeCalled T newId initId)
    (hct : checkTypeCall T ⟨args, []⟩ = pure ()) (entryI : entryFor table initId = some Bi)
    (hnew : codeAny (model P w) A.in1 (.call (.builtin newId) ⟨.type T :: args, []⟩) (wants Q₁ E) s)
    (hnext : ∀ obj s₁, Q₁ obj s₁ → s₁.TypeIs obj T ∧ argsOk initId ⟨obj :: args, []⟩ ∧
      TL P w A.in1.in1 (Bi ⟨obj :: args, []⟩)
        (fun fin s' => match fin with | .done f => wants (fun r s₂ => r = .none ∧ Q obj s₂) E (.ok f) s' | .again c' => c'.quiet = true ∧ TC P w A.in1 c' (wants (fun r s₂ => r = .none ∧ Q obj s₂) E) s')
        (fun e s' => wants (fun r s₂ => r = .none ∧ Q obj s₂) E (.error e) s') s₁) :
    TL P w A (call (.type T) args) Q E s := by
  obtain ⟨c, tl, hmro⟩ := ft.mro
  have hmade := ft.made
  have hsub := ft.sub
  refine tl_call (.tree ?_)
  show TL _ _ _ (callAny (.type T) _) _ _ _
  refine .pure ⟨Code.quiet_builtin _ (by decide +kernel), tc_builtin PySem.F.entry_type_call ?_⟩
  rw [Around.under_plain (weight_type_call_type T args []) rfl]
  have h1 := ft.notType
  have h2 := ft.canCreate
  unfold Builtin.«type.__call__»
  dsimp only
  rw [h1]
  simp only [Bool.false_eq_true, if_false]
  simp only [h2, hct, hmro, hmade, pure_bind, Bool.false_eq_true, if_false]
  rw [if_neg (by simp)]
  refine .bind (.holding (tl_call (.of (codeAny_mono hnew fun r s₁ hr => ?_))))
  cases r with
  | error e => exact hr
  | ok fl =>
    cases fl with
    | ret obj =>
      obtain ⟨hT, hok, hsi⟩ := hnext _ _ hr
      refine .bind (.of (wpAny_isInstance hT hsub ?_))
      rw [if_neg (by simp)]
      refine .bind (.holding (tl_special hT ft.init (tl_call (tc_call_builtin ft.init hT entryI hok (hsi.mono (fun fin s' hx => ?_) fun e s' hx => hx)))))
      · cases fin with
        | done f =>
          cases f with
          | ret v =>
            obtain ⟨rfl, q⟩ := hx
            exact .pure q
          | _ => exact hx.elim
        | again c' =>
          refine ⟨hx.1, hx.2.mono fun r s' hr => ?_⟩
          cases r with
          | error e => exact hr
          | ok f =>
            cases f with
            | ret v =>
              obtain ⟨rfl, q⟩ := hr
              exact .pure q
            | _ => exact hr.elim
    | _ => exact hr.elim
end
/-- a new list, while such a generator sleeps -/
theorem Inr.lay {P : Program} {w : World} {g1 : WP} {gi1 : Nat} {A1 : Around} {inv1 : Sto → Prop} {a1 : Addr} {rest : List D} {F H : Hp} {s : Shared} {gs1 : GenState} {go1 : Obj} {pv1 : List (Addr × Obj)} {gv1 : List (Nat × GenState)} {h' : Heap} {u : HO} (N : Inr P w g1 gi1 A1 inv1 a1 rest F H s gs1 go1 pv1 gv1)
    (k : ∀ b o, s.heap.get? b = some o → h'.get? b = some o) : Inr P w g1 gi1 A1 inv1 a1 rest F (upd H s.heap.objs.size u) { s with heap := h' } gs1 go1 pv1 gv1 where
  G := N.G
  pins := fun p hp => by
    obtain ⟨b1, b2, b3, b4⟩ := N.pins p hp
    exact ⟨k _ _ b1, by rw [upd_ne (Nat.ne_of_lt (Heap.lt_size b1))]; exact b2, b3, b4⟩
  ne := N.ne
  gens := N.gens
  size := N.size
  here := N.here
  che := N.che
  cho := N.cho
  wake := N.wake
theorem tl_list_new {s00 : Shared} {gv00 : List (Nat × GenState)} {X : Cx} {pins : List (Addr × Obj)} {σ : L2.St} {H : Hp} {s : Shared} {F : Hp} {μ : Sto} {A : Around} {L1 a1 : Addr} {gi1 : Nat} {inv1 : Sto → Prop} {items : List D} {gs1 : GenState} {go1 : Obj} {pv1 : List (Addr × Obj)} {gv1 : List (Nat × GenState)} {Q' : Value → Shared → Prop} {E : Value → Shared → Prop}
    (hh : A.handled = none) (hroom : A.depth < recursionLimit) (ol : Older X pins L1) (I : Inv X pins σ H (nog s)) (o : Ok X.K X.mg F μ H) (hi : inv1 μ) (hL : L1 < a1) (hz : items.length ≤ sizeLine) (hsl : go1.slots = #[])
    (N : Inr X.prog X.w (wpX X L1) gi1 A.in1.in1.in1 inv1 a1 items F H s gs1 go1 pv1 gv1) (hac : Acc s00 gv00 s ((gi1, gs1) :: gv1))
    (hQ : ∀ S s' F1 H1 vs, Inv X pins σ H1 (nog s') → Ext F μ H F1 μ H1 → Ok X.K X.mg F1 μ H1 → H S = none → F S = none → μ S = none → H1 S = some (.lst vs) → F1 S = none → Dts X.K X.mg F1 vs items → Acc s00 gv00 s' [] → Q' (.ref S) s') : TL X.prog X.w A (call (.type "list") [.ref a1]) Q' E s := by
  have hg1 := (N.pins _ List.mem_cons_self).1
  have hgen : s.heap.IsGen a1 gi1 := by
    obtain ⟨nm, qn, hd⟩ := N.G.dat
    exact ⟨go1, nm, qn, hg1, N.G.cls, hd, hsl⟩
  have hSa : s.heap.objs.size ≠ a1 := Nat.ne_of_gt (Heap.lt_size hg1)
  have hnS : H s.heap.objs.size = none := I.hok.fresh (Nat.le_refl _)
  refine tl_callType (Q₁ := fun obj s₁ => obj = .ref s.heap.objs.size ∧ s₁ = { s with heap := s.heap.push { cls := .type "list", data := .seq #[] } }) PySem.F.called_list (PySem.F.typeCall_list_1 _) PySem.F.entry_list_init
    (code_list_new _ ⟨rfl, rfl⟩) fun obj s₁ h₁ => ?_
  obtain ⟨rfl, rfl⟩ := h₁
  have hS : (s.heap.push { cls := .type "list", data := .seq #[] }).get? s.heap.objs.size = some { cls := .type "list", data := .seq #[] } := Heap.get?_push_size _ rfl
  refine ⟨⟨_, hS, rfl⟩, PySem.F.args_list_init_2 _ _, ?_⟩
  show TL _ _ A.in1.in1 (do let old ← Builtin.List.listItems (.ref s.heap.objs.size); Builtin.List.listUpdate (.ref s.heap.objs.size) (fun _ => #[]); letGo old.toList.reverse; Builtin.List.listExtendWith (.ref s.heap.objs.size) (.ref a1) .none) _ _ _
  refine .bind ?_
  unfold Builtin.List.listItems
  refine .of (wpAny_bind (wpAny_seqItems hS rfl (wpAny_pure ?_)))
  show TL _ _ A.in1.in1 (updateSeq s.heap.objs.size (fun _ => #[]) >>= fun _ => letGo (#[] : Array Value).toList.reverse >>= fun _ => Builtin.List.listExtendWith (.ref s.heap.objs.size) (.ref a1) .none) _ _ _
  refine .bind (.of (wpAny_updateSeq hS rfl ?_))
  have hS2 := Heap.get?_update_self (Obj.mapSeq (fun _ => (#[] : Array Value))) hS rfl
  refine .bind (.of (wpAny_letGo ?_))
  unfold Builtin.List.listExtendWith
  have up : ∀ (h : Heap) (f : Obj → Obj), (∀ b o, s.heap.get? b = some o → h.get? b = some o) → ∀ b o, s.heap.get? b = some o → (h.update s.heap.objs.size f).get? b = some o := fun h f q b o e =>
    (Heap.get?_update_other _ _ (Ne.symm (Nat.ne_of_lt (Heap.lt_size e)))).trans (q b o e)
  have k1 : ∀ b o, s.heap.get? b = some o → (s.heap.push { cls := .type "list", data := .seq #[] }).get? b = some o := fun b o e => Heap.get?_push_of_some _ e
  have k2 := up _ (Obj.mapSeq (fun _ => (#[] : Array Value))) k1
  have gty : ∀ {h : Heap}, (∀ b o, s.heap.get? b = some o → h.get? b = some o) → h.IsGen a1 gi1 := fun {h} q => hgen.keeps q
  refine .bind (.of (wpAny_typeOf (Heap.IsGen.typeIs (s := { s with heap := _ }) (gty k2)) ?_))
  have h1 : Builtin.List.listSameRef (.ref s.heap.objs.size) (.ref a1) = false := by simp [Builtin.List.listSameRef, hSa]
  have h2 : (Value.type "generator" == Value.type "list") = false := by decide
  have h3 : (Value.type "generator" == Value.type "tuple") = false := by decide
  simp only [h1, h2, h3, Bool.or_false, Bool.false_eq_true, if_false]
  refine .bind (.of (wpAny_pyIter_gen (s := { s with heap := _ }) (gty k2) ?_))
  refine .bind (.holding (.of ?_))
  unfold Builtin.List.listLengthHint
  refine wpAny_bind (wpAny_specialOf (Heap.IsGen.typeIs (s := { s with heap := _ }) (gty k2)) PySem.F.gen_no_len ?_)
  show wpAny _ A.in1.in1 (specialOf (Value.ref a1) (Str.ofString "__length_hint__") >>= _) _ _ _
  refine wpAny_bind (wpAny_specialOf (Heap.IsGen.typeIs (s := { s with heap := _ }) (gty k2)) PySem.F.gen_no_hint ?_)
  refine wpAny_pure ?_
  show TL _ _ A.in1.in1 (rule "list.extend.makes-room" >>= fun _ => Builtin.List.listTouch (.ref s.heap.objs.size) >>= fun _ =>
    again (.builtin "list.extend.loop" ⟨[.ref s.heap.objs.size, .ref a1, .none], []⟩)) _ _ _
  refine .bind (.of (wpAny_rule ?_))
  refine .bind (.of ?_)
  show wpAny _ A.in1.in1 (updateSeq s.heap.objs.size (·.push .none) >>= fun _ => updateSeq s.heap.objs.size (·.pop)) _ _ _
  refine wpAny_bind (wpAny_updateSeq hS2 rfl ?_)
  have hS3 := Heap.get?_update_self (Obj.mapSeq (·.push Value.none)) hS2 rfl
  refine wpAny_updateSeq (hz := by seq_fits) hS3 rfl ?_
  have hS4 := Heap.get?_update_self (Obj.mapSeq (·.pop)) hS3 rfl
  have k4 := up _ (Obj.mapSeq (·.pop)) (up _ (Obj.mapSeq (·.push Value.none)) k2)
  refine .pure ⟨plainId_quiet PySem.F.plain_extend_loop _, ?_⟩
  obtain ⟨hFS, hmS⟩ := o.fresh hnS
  have I2 := Inv.laid (t' := s.toks) (o := .lst []) I k4 (Nat.le_refl _) ⟨by decide, [], _, .nil, hS4⟩
  refine tc_drain (A := A.in1) (F0 := F) (H0 := H) hh hroom ol hL hi hnS hmS items _ (upd H s.heap.objs.size (.lst [])) F [] [] gs1 go1 pv1 gv1 I2 (Ext.own .refl hnS) (o.own hFS hmS) upd_same hFS .nil (by simpa using hz) (N.lay k4) ⟨hac.new, hac.old, hac.fr, hac.size⟩ ?_
  intro s' F1 H1 vs' I1 e1 o1 h1 f1 d1 ac
  exact ⟨rfl, hQ _ s' F1 H1 vs' I1 e1 o1 hnS hFS hmS h1 f1 d1 ac⟩
end DL

namespace DL
open PySem PySem.Spec PyProof.Rows L2 GW2 GenW YM
abbrev noE : Value → Shared → Prop := fun _ _ => False
section
variable {P : Program} {w : World}
theorem St1.grows {x y : Shared × Thread} (h : St1 P w x y) : x.1.heap.objs.size ≤ y.1.heap.objs.size := by
  obtain ⟨s, t⟩ := x
  obtain ⟨s', t'⟩ := y
  have hs : stepK (denote table) P w s t = .go s' t' := h.2
  have key : ∀ t, step (denote table) P w s t = .go s' t' → s.heap.objs.size ≤ s'.heap.objs.size := fun t hs => by
    have e := step_heap (denote table) P w s s' t t' hs
    split at e
    · rw [e, Heap.size_update]; exact Nat.le_refl _
    · rw [e, Heap.size_push]; exact Nat.le_succ _
    · rw [e]; exact Nat.le_refl _
  unfold stepK at hs
  split at hs
  · cases hs; exact Nat.le_refl _
  · cases hs; exact Nat.le_refl _
  · exact key _ hs
theorem Sts.grows {x y : Shared × Thread} (h : Sts P w x y) : x.1.heap.objs.size ≤ y.1.heap.objs.size := by
  induction h with
  | refl => exact Nat.le_refl _
  | head a _ ih => exact Nat.le_trans (St1.grows a) ih
theorem tl_grow {α : Type} {A : Around} {t : Sem α} {Q : α → Shared → Prop} {E : Value → Shared → Prop} {s : Shared} (h : TL P w A t Q E s) : TL P w A t (fun a s' => Q a s' ∧ s.heap.objs.size ≤ s'.heap.objs.size) E s := fun Γ st p hf hΓ K H gd lv =>
  (h Γ st p hf hΓ K H gd lv).imp (fun ⟨a, p', s', q, z⟩ => ⟨a, p', s', ⟨q, Sts.grows z⟩, z⟩) id
end
/-- from s to s': new loud sleepers sleep over objects of pl; who slept sleeps on -/
structure Lo (pl : List (Addr × Obj)) (s s' : Shared) : Prop where
  new : ∀ (i : Nat) k l c p fs, s'.gens[i]? = some (GenState.suspended k l c p fs true) → s'.gens[i]? = s.gens[i]? ∨ ChE pl (GenState.suspended k l c p fs true)
  old : ∀ (i : Nat) y, s.gens[i]? = some y → isS y = true → s'.gens[i]? = some y
  size : s.gens.size ≤ s'.gens.size
  fr : ∀ p ∈ pl, s.heap.objs.size ≤ p.1
  hsz : s.heap.objs.size ≤ s'.heap.objs.size
theorem Lo.refl {s : Shared} : Lo [] s s := ⟨fun _ _ _ _ _ _ _ => .inl rfl, fun _ _ e _ => e, Nat.le_refl _, (fun _ h => nomatch h), Nat.le_refl _⟩
theorem Lo.trans {a b : List (Addr × Obj)} {s s1 s2 : Shared} (h : Lo a s s1) (g : Lo b s1 s2) : Lo (a ++ b) s s2 where
  new := fun i k l c p fs e => by
    rcases g.new i k l c p fs e with q | q
    · rcases h.new i k l c p fs (q ▸ e) with z | z
      · exact .inl (q.trans z)
      · exact .inr (z.mono fun x hx => List.mem_append_left _ hx)
    · exact .inr (q.mono fun x hx => List.mem_append_right _ hx)
  old := fun i y e q => g.old i y (h.old i y e q) q
  size := Nat.le_trans h.size g.size
  fr := fun p hp => (List.mem_append.mp hp).elim (h.fr p) fun z => Nat.le_trans h.hsz (g.fr p z)
  hsz := Nat.le_trans h.hsz g.hsz
theorem Lo.ofDim {s s' : Shared} {gb : Array GenState} (S : Dim s.gens gb s'.gens) (hb : AllBare gb) (hz : s.heap.objs.size ≤ s'.heap.objs.size) : Lo [] s s' where
  new := fun i k l c p fs e => .inl (flag_dim S hb ⟨k, l, c, p, fs, e⟩)
  old := (Kp.ofDim S).old
  size := (Kp.ofDim S).size
  fr := fun _ h => by cases h
  hsz := hz
theorem Lo.ofAcc {s s' : Shared} (h : Acc s [] s' []) (hz : s.heap.objs.size ≤ s'.heap.objs.size) : Lo [] s s' where
  new := fun i k l c p fs e => by
    rcases h.new i ⟨k, l, c, p, fs, e⟩ with q | ⟨x, hx, _⟩
    · exact .inl q.1
    · cases hx
  old := fun i y e q => h.old i y e q fun x hx => by cases hx
  size := h.size
  fr := fun _ h => by cases h
  hsz := hz
theorem Lo.acc {s s' : Shared} (h : Lo [] s s') : Acc s [] s' [] where
  new := fun i hi => by
    obtain ⟨k, l, c, p, fs, e⟩ := hi
    rcases h.new i k l c p fs e with q | q
    · exact .inl ⟨q, fun x hx => by cases hx⟩
    · obtain ⟨_, a, xs, kw, o, _, z, _⟩ := q k l c p fs rfl
      cases z
  old := fun i y e q _ => h.old i y e q
  fr := fun x hx => by cases hx
  size := h.size
/-- behind a piece: some more objects are pinned, over which the new loud sleepers sleep -/
def MQ (pins : List (Addr × Obj)) (s : Shared) (R : List (Addr × Obj) → Shared → Prop) (s' : Shared) : Prop := ∃ more, R (pins ++ more) (nog s') ∧ Lo more s s'
theorem MQ.after {pins m1 : List (Addr × Obj)} {s s1 s2 : Shared} {R : List (Addr × Obj) → Shared → Prop} (lo : Lo m1 s s1) (h : MQ (pins ++ m1) s1 R s2) : MQ pins s R s2 := by
  obtain ⟨m2, r, lo2⟩ := h
  exact ⟨m1 ++ m2, by rw [← List.append_assoc]; exact r, lo.trans lo2⟩
theorem MQ.after0 {pins : List (Addr × Obj)} {s s1 s2 : Shared} {R : List (Addr × Obj) → Shared → Prop} (lo : Lo [] s s1) (h : MQ pins s1 R s2) : MQ pins s R s2 := by
  obtain ⟨m2, r, lo2⟩ := h
  exact ⟨m2, r, lo.trans lo2⟩
theorem inv_sub {X : Cx} {pins pins' : List (Addr × Obj)} {σ : L2.St} {H : Hp} {s : Shared} (I : Inv X pins σ H s) (h : ∀ p ∈ pins', p ∈ pins) : Inv X pins' σ H s := I.pins_of fun p hp => I.pin p (List.mem_append_right _ (h p hp))
theorem MQ.imp {pins : List (Addr × Obj)} {s s2 : Shared} {R R' : List (Addr × Obj) → Shared → Prop} (h : MQ pins s R s2) (k : ∀ pn t, R pn t → R' pn t) : MQ pins s R' s2 := by
  obtain ⟨m2, r, lo2⟩ := h
  exact ⟨m2, k _ _ r, lo2⟩
structure MPE (X : Cx) (e : Expr) (t : TE) : Prop where
  run : ∀ (pins : List (Addr × Obj)) (s : Shared) (σ : L2.St) (H : Hp) (Q : VK), Inv X pins σ H (nog s) → t σ H Q → TL X.prog X.w X.A (eval e X.env) (fun u => MQ pins s fun pn t => EP X pn σ Q u t) noE s
structure MPT (X : Cx) (e : Expr) (t : TT) : Prop where
  run : ∀ (pins : List (Addr × Obj)) (s : Shared) (σ : L2.St) (H : Hp) (Q : Bool → Hp → Prop), Inv X pins σ H (nog s) → t σ H Q → TL X.prog X.w X.A (isTrue e X.env (eval e X.env)) (fun b => MQ pins s fun pn t => TP X pn σ Q b t) noE s
structure MPW (X : Cx) (e : Expr) (t : TT) : Prop where
  run : ∀ (whole : Sem Value) (pins : List (Addr × Obj)) (s : Shared) (σ : L2.St) (H : Hp) (Q : Bool → Hp → Prop), Inv X pins σ H (nog s) → t σ H Q → TL X.prog X.w X.A (isTrue e X.env whole) (fun b => MQ pins s fun pn t => TP X pn σ Q b t) noE s
theorem MPW.pt {X : Cx} {e : Expr} {t : TT} (h : MPW X e t) : MPT X e t := ⟨h.run _⟩
structure MPS (X : Cx) (st : Stmt) (t : TS) : Prop where
  run : ∀ (pins : List (Addr × Obj)) (s : Shared) (σ : L2.St) (H : Hp) (D : Ends), Inv X pins σ H (nog s) → t D σ H → TL X.prog X.w X.A (exec st X.env) (fun f => MQ pins s fun pn t => SP X pn D f t) noE s
structure MPSs (X : Cx) (st : List Stmt) (t : TS) : Prop where
  run : ∀ (pins : List (Addr × Obj)) (s : Shared) (σ : L2.St) (H : Hp) (D : Ends), Inv X pins σ H (nog s) → t D σ H → TL X.prog X.w X.A (execs st X.env) (fun f => MQ pins s fun pn t => SP X pn D f t) noE s
section
variable {X : Cx} {pins : List (Addr × Obj)} {σ : L2.St} {gb : Array GenState} {s : Shared}
theorem ep_nog {Q : VK} {u : Value} (h : EP X pins σ Q u { s with gens := gb }) : EP X pins σ Q u (nog s) ∧ AllBare gb := by
  obtain ⟨v, H', I, r, q⟩ := h; exact ⟨⟨v, H', inv_nog I, r, q⟩, I.bare⟩
theorem tp_nog {Q : Bool → Hp → Prop} {b : Bool} (h : TP X pins σ Q b { s with gens := gb }) : TP X pins σ Q b (nog s) ∧ AllBare gb := by
  obtain ⟨H', I, q⟩ := h; exact ⟨⟨H', inv_nog I, q⟩, I.bare⟩
theorem sp_nog {D : Ends} {f : Flow} (h : SP X pins D f { s with gens := gb }) : SP X pins D f (nog s) ∧ AllBare gb := by
  cases f with
  | next => obtain ⟨σ', H', I, q⟩ := h; exact ⟨⟨σ', H', inv_nog I, q⟩, I.bare⟩
  | brk => obtain ⟨σ', H', I, q⟩ := h; exact ⟨⟨σ', H', inv_nog I, q⟩, I.bare⟩
  | cont => obtain ⟨σ', H', I, q⟩ := h; exact ⟨⟨σ', H', inv_nog I, q⟩, I.bare⟩
  | ret u => obtain ⟨v, σ', H', I, r, q⟩ := h; exact ⟨⟨v, σ', H', inv_nog I, r, q⟩, I.bare⟩
/-- a quiet piece -/
theorem tl_q {α : Type} {t : Sem α} {Q : α → Shared → Prop} {Q' : α → Shared → Prop} (hxe : X.xe = fun _ _ => False) (h : wpAny (model X.prog X.w) X.A t Q X.xe (Shared.dull s)) (k : ∀ a s' gb, Dim s.gens gb s'.gens ∧ s.heap.objs.size ≤ s'.heap.objs.size → Q a { s' with gens := gb } → Q' a s') : TL X.prog X.w X.A t Q' noE s := by
  rw [hxe] at h
  exact (tl_grow (TL.dull h)).mono (fun a s' ⟨⟨gb, S, q⟩, z⟩ => k a s' gb ⟨S, z⟩ q) fun e s' ⟨_, _, q⟩ => q
/-- .. whose end is told of the hand layer's state -/
theorem mq_of {s' : Shared} {R : List (Addr × Obj) → Shared → Prop} (S : Dim s.gens gb s'.gens ∧ s.heap.objs.size ≤ s'.heap.objs.size) (h : R pins (nog s') ∧ AllBare gb) : MQ pins s R s' := ⟨[], by rw [List.append_nil]; exact h.1, .ofDim S.1 h.2 S.2⟩
theorem MPE.of {e : Expr} {t : TE} (hxe : X.xe = fun _ _ => False) (h : PE X e t) : MPE X e t := ⟨fun pins s σ H Q I q => tl_q hxe (h.run pins _ σ H Q (inv_dull I) q) fun _ _ _ S z => mq_of (R := fun pn t => EP X pn σ Q _ t) S (ep_nog z)⟩
theorem MPT.of {e : Expr} {t : TT} (hxe : X.xe = fun _ _ => False) (h : PT X e t) : MPT X e t := ⟨fun pins s σ H Q I q => tl_q hxe (h.run pins _ σ H Q (inv_dull I) q) fun _ _ _ S z => mq_of (R := fun pn t => TP X pn σ Q _ t) S (tp_nog z)⟩
theorem MPW.of {e : Expr} {t : TT} (hxe : X.xe = fun _ _ => False) (h : PW X e t) : MPW X e t := ⟨fun wh pins s σ H Q I q => tl_q hxe (h.run wh pins _ σ H Q (inv_dull I) q) fun _ _ _ S z => mq_of (R := fun pn t => TP X pn σ Q _ t) S (tp_nog z)⟩
theorem MPS.of {st : Stmt} {t : TS} (hxe : X.xe = fun _ _ => False) (h : PS X st t) : MPS X st t := ⟨fun pins s σ H D I q => tl_q hxe (h.run pins _ σ H D (inv_dull I) q) fun _ _ _ S z => mq_of (R := fun pn t => SP X pn D _ t) S (sp_nog z)⟩
theorem MPSs.of {st : List Stmt} {t : TS} (hxe : X.xe = fun _ _ => False) (h : PSs X st t) : MPSs X st t := ⟨fun pins s σ H D I q => tl_q hxe (h.run pins _ σ H D (inv_dull I) q) fun _ _ _ S z => mq_of (R := fun pn t => SP X pn D _ t) S (sp_nog z)⟩
theorem MPE.weaken {e : Expr} {t t' : TE} (h : MPE X e t) (w : ∀ σ H Q, t' σ H Q → t σ H Q) : MPE X e t' := ⟨fun pins s σ H Q I q => h.run pins s σ H Q I (w σ H Q q)⟩
theorem MPT.weaken {e : Expr} {t t' : TT} (h : MPT X e t) (w : ∀ σ H Q, t' σ H Q → t σ H Q) : MPT X e t' := ⟨fun pins s σ H Q I q => h.run pins s σ H Q I (w σ H Q q)⟩
theorem MPW.weaken {e : Expr} {t t' : TT} (h : MPW X e t) (w : ∀ σ H Q, t' σ H Q → t σ H Q) : MPW X e t' := ⟨fun wh pins s σ H Q I q => h.run wh pins s σ H Q I (w σ H Q q)⟩
theorem MPS.weaken {st : Stmt} {t t' : TS} (h : MPS X st t) (w : ∀ D σ H, t' D σ H → t D σ H) : MPS X st t' := ⟨fun pins s σ H D I q => h.run pins s σ H D I (w D σ H q)⟩
theorem MPSs.weaken {st : List Stmt} {t t' : TS} (h : MPSs X st t) (w : ∀ D σ H, t' D σ H → t D σ H) : MPSs X st t' := ⟨fun pins s σ H D I q => h.run pins s σ H D I (w D σ H q)⟩
end
section
variable {X : Cx} {a b c e : Expr} {st : Stmt} {rest : List Stmt} {es : List Expr} {pos : Pos}
theorem mpss_nil : MPSs X [] tNext := ⟨fun pins s σ H _ I h => .of (wpAny_execs_nil ⟨[], ⟨σ, H, by rw [List.append_nil]; exact I, h⟩, .refl⟩)⟩
theorem mpss_cons {t u : TS} (h1 : MPS X st t) (h2 : MPSs X rest u) : MPSs X (st :: rest) (tSeq t u) := by
  refine ⟨fun pins s σ H D I h => ?_⟩
  rw [execs_cons]
  refine .bind ((h1.run pins s σ H { D with nx := u D } I h).mono (fun f s1 q => ?_) fun _ _ x => x)
  obtain ⟨m1, q, lo⟩ := q
  cases f with
  | next =>
    obtain ⟨σ', H', I', q⟩ := q
    exact (h2.run _ s1 σ' H' D I' q).mono (fun f s2 z => z.after lo) fun _ _ x => x
  | ret v => exact .pure ⟨m1, q, lo⟩
  | brk => exact .pure ⟨m1, q, lo⟩
  | cont => exact .pure ⟨m1, q, lo⟩
theorem mpss_one {t : TS} (h1 : MPS X st t) : MPSs X [st] t := by
  have h := mpss_cons h1 (mpss_nil (X := X))
  exact ⟨fun pins s σ H D I q => h.run pins s σ H D I q⟩
theorem mps_ret {te : TE} (he : MPE X e te) : MPS X (.Return (some e) pos) (tRet te) := by
  refine ⟨fun pins s σ H D I h => ?_⟩
  rw [exec_Return_some]
  exact .bind (.standAt (.bind ((he.run pins s σ H _ I h).mono (fun v s1 ⟨m1, ⟨x, H1, I1, r1, q1⟩, lo⟩ => .pure ⟨m1, ⟨x, σ, H1, I1, r1, q1⟩, lo⟩) fun _ _ x => x)))
theorem mps_if {p q : List Stmt} {tc : TT} {t u : TS} (hc : MPT X c tc) (ha : MPSs X p t) (hb : MPSs X q u) : MPS X (.If c p q pos) (tIfS tc t u) := by
  refine ⟨fun pins s σ H D I h => ?_⟩
  rw [exec_If]
  refine .bind (.standAt (.bind ((hc.run pins s σ H _ I h).mono (fun d s1 ⟨m1, ⟨H1, I1, q1⟩, lo⟩ => ?_) fun _ _ x => x)))
  cases d with
  | true => exact (ha.run _ s1 σ H1 D I1 q1).mono (fun f s2 z => z.after lo) fun _ _ x => x
  | false => exact (hb.run _ s1 σ H1 D I1 q1).mono (fun f s2 z => z.after lo) fun _ _ x => x
/-- a comparison as a test -/
theorem mpt_cmpR {op : CmpOp} {r : R2} {ta tb : TE} (hxe : X.xe = fun _ _ => False) (ho : OpR X (compareOp op) r) (ha : MPE X a ta) (hb : MPE X b tb) (hm : behindInMarks op b = false) : MPT X (.Compare a [op] [b] pos) (tTest (tOp r ta tb)) := by
  refine ⟨fun pins s σ H Q I h => ?_⟩
  rw [isTrue_Compare1, markedBehindIn_of_false hm]
  refine .bind ((ha.run pins s σ H _ I h).mono (fun v s1 ⟨m1, ⟨x, H1, I1, r1, q1⟩, lo⟩ => ?_) fun _ _ x => x)
  refine .bind (.holding ((hb.run _ s1 σ H1 _ I1 q1).mono (fun u s2 ⟨m2, ⟨y, H2, I2, r2, q2⟩, lo2⟩ => ?_) fun _ _ x => x))
  refine .bind (.standAt (.bind (tl_q hxe (wpAny_operate' (ho _ (Shared.dull s2) σ H2 x y v u _ (inv_dull I2) r1 r2 q2)) fun c s3 gb S q => ?_)))
  obtain ⟨z, H3, I3, r3, k, e, q3⟩ := q
  subst e
  cases r3
  exact .holding (.of (wpAny_truthy_bool (MQ.after lo (MQ.after lo2 (mq_of (R := fun pn t => TP X pn σ Q k t) S ⟨⟨H3, inv_nog I3, q3⟩, I3.bare⟩)))))
end
end DL

namespace DL
open PySem PySem.Spec PyProof.Rows L2 GW2 GenW YM
theorem tc_forLoop {P : Program} {w : World} {A : Around} {R : Result → Shared → Prop} {tg : Expr} {it : Value} {body : List Stmt} {env : Env} (I : Nat → Shared → Prop)
    (turn : ∀ n s, I n s → TL P w A (pyNext it) (fun r s1 => match r with
      | none => R (.ok .next) s1
      | some v => TL P w A (letOwnedTupleGo tg it v) (fun _ s2 => TL P w A (assign tg env v) (fun _ s3 => TL P w A (execs body env) (fun f s4 => match f with
          | .next | .cont => ∃ m, m < n ∧ I m s4
          | .brk => R (.ok .next) s4
          | .ret v => R (.ok (.ret v)) s4) noE s3) noE s2) noE s1) noE s) : ∀ n s, I n s → TC P w A (.forLoop tg it body [] env) R s := by
  intro n
  induction n using Nat.strongRecOn with
  | ind n ih =>
    intro s h
    refine .tree ?_
    rw [Around.under_of_weight rfl]
    show TL P w A ((forTurn tg it body [] env).onRaise (fun x => do noteFrame x env; theTreesLotGoes x)) _ _ s
    refine .onRaise ?_
    unfold forTurn
    refine .bind (.standAt (.bind (.onRaise ((turn n s h).mono (fun r s1 h1 => ?_) fun _ _ x => x.elim))))
    cases r with
    | none =>
      exact .pure ⟨rfl, .of (codeAny_block (wpAny_execs_nil h1))⟩
    | some v =>
      refine .bind (h1.mono (fun _ s2 h2 => ?_) fun _ _ x => x.elim)
      refine .bind (h2.mono (fun _ s3 h3 => ?_) fun _ _ x => x.elim)
      refine .bind (h3.mono (fun f s4 h4 => ?_) fun _ _ x => x.elim)
      cases f with
      | next => obtain ⟨m, hm, hI⟩ := h4; exact .pure ⟨rfl, ih m hm s4 hI⟩
      | cont => obtain ⟨m, hm, hI⟩ := h4; exact .pure ⟨rfl, ih m hm s4 hI⟩
      | brk => exact .pure h4
      | ret v => exact .pure h4
section
variable {X : Cx} {tg iter : Expr} {body : List Stmt} {pos : Pos}
theorem mps_for {wi : TI} {g : TG} {tb : TS} (hxe : X.xe = fun _ _ => False) (hc : X.calm = true) (hi : PI X tg iter wi) (hg : PG X tg g) (hb : MPSs X body tb)
    (hs : ∀ x, foldedSetIterable iter X.env x = pure x := by intro _; rfl) : MPS X (.For tg iter body [] pos) (tFor wi g tb) := by
  refine ⟨fun pins s σ H D I h => ?_⟩
  rw [exec_For]
  have hi' := hi.run pins (Shared.dull s) σ H _ (inv_dull I) h
  have cut : ∀ {e : Value} {s' : Shared}, X.xe e s' → False := fun {e s'} x => by rw [hxe] at x; exact x
  refine .bind (.standAt (.bind ((tl_grow (TL.dull hi')).mono (fun v s1 h1 => ?_) fun e s' ⟨_, _, x⟩ => (cut x).elim)))
  obtain ⟨⟨gb1, S1, h1⟩, g1⟩ := h1
  refine .bind (.eq (hs v) (.pure ?_))
  refine .bind (.standAt (.bind (.holding ((tl_grow (TL.dim S1 h1)).mono (fun itv s2 h2 => ?_) fun e s' ⟨_, _, x⟩ => (cut x).elim))))
  obtain ⟨⟨gb2, S2, it, fp, tn, J, H2, e, I2', T, st2, f2, W, ⟨m0, w0⟩, turn⟩, g2⟩ := h2
  have I2 := inv_nog I2'
  have lo2 : Lo [] s s2 := .ofDim S2 I2'.bare (Nat.le_trans g1 g2)
  subst e
  unfold runOwn
  have fpl : ∀ b ∈ fp, b < s2.heap.objs.size := fun b hb => by
    obtain ⟨o, e, _⟩ := T.obj _ _ st2 b hb
    exact Heap.lt_size e
  have stat : ∀ {H' : Hp} {m : List (Addr × Obj)}, (∀ p ∈ m, s2.heap.objs.size ≤ p.1) → (∀ b ∈ fp, H' b = none) → ∀ b ∈ fp, FpOk X (pins ++ m) H' b := fun hm hn b hb => by
    obtain ⟨_, q1, q2, q3, q4, q5⟩ := f2 b hb
    refine ⟨hn b hb, q1, q2, q3, q4, fun p hp => ?_⟩
    rw [← List.append_assoc] at hp
    rcases List.mem_append.mp hp with hp | hp
    · exact q5 p hp
    · exact Nat.ne_of_gt (Nat.lt_of_lt_of_le (fpl b hb) (hm p hp))
  have loop := tc_forLoop (P := X.prog) (w := X.w) (A := X.A.mark none) (tg := tg) (it := .ref it) (body := body) (env := X.env) (R := fun r s' => match r with | .ok f => MQ pins s2 (fun pn t => SP X pn D f t) s' | .error _ => False) (fun n s' => ∃ i σ' H' m, Inv X (pins ++ m) σ' H' (nog s') ∧ Lo m s2 s' ∧ tn i s'.heap ∧ (∀ b ∈ fp, H' b = none) ∧ W i n σ' H') ?_ m0 s2 ⟨0, σ, H2, [], by rw [List.append_nil]; exact I2, .refl, st2, fun b hb => (f2 b hb).1, w0⟩
  · refine .onRaise (.run (loop.mono fun r s' h => ?_))
    cases r with
    | ok f => exact h.after0 lo2
    | error e => exact h.elim
  show ∀ n s', _ → TL X.prog X.w X.A _ _ _ s'
  rintro n s3 ⟨i, σ3, H3, m, I3, lo3, st3, fr3, w3⟩
  rcases turn i n σ3 H3 w3 with ⟨stop, qn⟩ | ⟨go, N, hN, step⟩
  · refine (tl_grow (TL.dull (T.done X rfl rfl rfl hc i (pins ++ m) (Shared.dull s3) σ3 H3 noE (inv_dull I3) (stat lo3.fr fr3) st3 stop))).mono (fun r s4 hz => ?_) fun e s' ⟨_, _, x⟩ => x.elim
    obtain ⟨⟨gb4, S4, hr, I4⟩, g4⟩ := hz
    subst hr
    exact MQ.after lo3 ⟨[], ⟨σ3, H3, by rw [List.append_nil]; exact inv_nog I4, qn⟩, .ofDim S4 I4.bare g4⟩
  · refine (tl_grow (TL.dull (T.item X rfl rfl rfl hc i (pins ++ m) (Shared.dull s3) σ3 H3 noE (inv_dull I3) (stat lo3.fr fr3) st3 go))).mono (fun r s4 hz => ?_) fun e s' ⟨_, _, x⟩ => x.elim
    obtain ⟨⟨gb4, S4, u, hr, h4⟩, g4⟩ := hz
    subst hr
    refine (tl_grow (TL.dim S4 h4)).mono (fun _ s5 hz => ?_) fun e s' ⟨_, _, x⟩ => x.elim
    obtain ⟨⟨gb5, S5, x, H5, I5, r5, y5, st5, fr5⟩, g5⟩ := hz
    have lo5 : Lo (m ++ []) s2 s5 := lo3.trans (.ofDim S5 I5.bare (Nat.le_trans g4 g5))
    have I5' := (inv_nog I5).pinned (stat lo3.fr fr5) (T.obj _ _ st5)
    refine tl_q (Q' := fun _ s6 => TL X.prog X.w X.A (execs body X.env) _ noE s6) hxe (hg.run _ (Shared.dull s5) σ3 H5 x u _ (inv_dull I5') r5 (step x H5 y5)) fun _ s6 gb6 S6 hz => ?_
    obtain ⟨σ6, H6, I6, q6⟩ := hz
    have lo6 := lo5.trans (Lo.ofDim S6.1 I6.bare S6.2)
    rw [List.append_nil, List.append_nil] at lo6
    refine (hb.run _ s6 σ6 H6 _ (inv_nog I6) q6).mono (fun f s7 q7 => ?_) fun _ _ x => x
    obtain ⟨m7, q7, lo7'⟩ := q7
    have lo7 := lo6.trans lo7'
    have sub : ∀ {σ7 : L2.St} {H7 : Hp}, Inv X (pins ++ m ++ pinsAt fp s5.heap ++ m7) σ7 H7 (nog s7) → Inv X (pins ++ (m ++ m7)) σ7 H7 (nog s7) := fun I7 => inv_sub I7 fun p hp => by
      simp only [List.mem_append] at hp ⊢
      rcases hp with hp | hp | hp
      · exact .inl (.inl (.inl hp))
      · exact .inl (.inl (.inr hp))
      · exact .inr hp
    have again : ∀ {σ7 : L2.St} {H7 : Hp}, Inv X (pins ++ m ++ pinsAt fp s5.heap ++ m7) σ7 H7 (nog s7) → N σ7 H7 → ∃ m, m < n ∧ ∃ i σ' H' m, Inv X (pins ++ m) σ' H' (nog s7) ∧ Lo m s2 s7 ∧ tn i s7.heap ∧ (∀ b ∈ fp, H' b = none) ∧ W i _ σ' H' := fun {σ7 H7} I7 n7 => by
      obtain ⟨m', hm, w7⟩ := hN σ7 H7 n7
      have pin : ∀ b ∈ fp, ∀ o, s5.heap.get? b = some o → s7.heap.get? b = some o ∧ H7 b = none := fun b hb o e => by
        obtain ⟨q1, q2, _⟩ := I7.pin (b, o) (List.mem_append_right _ (List.mem_append_left _ (List.mem_append_right _ (mem_pinsAt hb e))))
        exact ⟨q1, q2⟩
      refine ⟨m', hm, i + 1, σ7, H7, m ++ m7, sub I7, lo7, T.keep _ _ _ st5 fun b hb o e => (pin b hb o e).1, fun b hb => ?_, w7⟩
      obtain ⟨o, e, d⟩ := T.obj _ _ st5 b hb
      exact (pin b hb o e).2
    cases f with
    | next => obtain ⟨σ7, H7, I7, n7⟩ := q7; exact again I7 n7
    | cont => obtain ⟨σ7, H7, I7, n7⟩ := q7; exact again I7 n7
    | brk => obtain ⟨σ7, H7, I7, q7⟩ := q7; exact ⟨m ++ m7, ⟨σ7, H7, sub I7, q7⟩, lo7⟩
    | ret v => obtain ⟨x7, σ7, H7, I7, r7, q7⟩ := q7; exact ⟨m ++ m7, ⟨x7, σ7, H7, sub I7, r7, q7⟩, lo7⟩
end
end DL

namespace DL
open PySem PySem.Spec PyProof.Rows L2 GW2 GenW YM
abbrev MDE (X : Cx) (e : Expr) (d : TED) : Prop := MPE X e (liftE X.K X.mg d)
abbrev MDT (X : Cx) (e : Expr) (d : TTD) : Prop := MPT X e (liftT X.K X.mg d)
abbrev MDPW (X : Cx) (e : Expr) (d : TTD) : Prop := MPW X e (liftT X.K X.mg d)
abbrev MDSt (X : Cx) (B : Bs) (st : Stmt) (d : TSD) : Prop := MPS X st (liftS X.K X.mg B d)
abbrev MDSs (X : Cx) (B : Bs) (st : List Stmt) (d : TSD) : Prop := MPSs X st (liftS X.K X.mg B d)
section
variable {X : Cx} {B : Bs} {a b e : Expr} {st : Stmt} {rest : List Stmt} {es : List Expr} {pos : Pos} {t u : TSD} {d : TED} {ta tb : TTD}
theorem mds_cons (h1 : MDSt X B st t) (h2 : MDSs X B rest u) : MDSs X B (st :: rest) (dSeq t u) := (mpss_cons h1 h2).weaken fun D σ H h => by
  obtain ⟨F, ρ, μ, Dd, R, hd, kn, kb, kc, kr⟩ := h
  exact ⟨F, ρ, μ, { Dd with nx := u Dd }, R, hd, fun F' ρ' μ' σ' H' hF R' q => ⟨F', ρ', μ', Dd, R', q, fun F2 ρ2 μ2 σ2 H2 h2 => kn F2 ρ2 μ2 σ2 H2 (hF.trans h2), fun F2 ρ2 μ2 σ2 H2 h2 => kb F2 ρ2 μ2 σ2 H2 (hF.trans h2), fun F2 ρ2 μ2 σ2 H2 h2 => kc F2 ρ2 μ2 σ2 H2 (hF.trans h2), kr⟩, kb, kc, kr⟩
theorem mds_last (h1 : MDSt X B st t) : MDSs X B [st] t := mpss_one h1
theorem mds_ret (he : MDE X e d) : MDSt X B (.Return (some e) pos) (dRet d) := (mps_ret he).weaken fun D σ H h => by
  obtain ⟨F, ρ, μ, Dd, R, hd, kn, kb, kc, kr⟩ := h
  exact ⟨F, ρ, μ, _, R.rel, hd, fun v F' μ' H' dv e o w q => kr v F' μ' H' dv (R.ext.trans e) o w q⟩
theorem mds_if {c : Expr} {a b : List Stmt} {tc : TTD} (hc : MDT X c tc) (ha : MDSs X B a t) (hb : MDSs X B b u) : MDSt X B (.If c a b pos) (dIfS tc t u) := (mps_if hc ha hb).weaken fun D σ H h => by
  obtain ⟨F, ρ, μ, Dd, R, hd, kn, kb, kc, kr⟩ := h
  refine ⟨F, ρ, μ, _, R.rel, hd, fun b F' μ' H' e o q => ?_⟩
  cases b with
  | true => exact ⟨F', ρ, μ', Dd, R.step e o, q, fun F2 ρ2 μ2 σ2 H2 h2 => kn F2 ρ2 μ2 σ2 H2 (FLe.trans e.mono h2), fun F2 ρ2 μ2 σ2 H2 h2 => kb F2 ρ2 μ2 σ2 H2 (FLe.trans e.mono h2), fun F2 ρ2 μ2 σ2 H2 h2 => kc F2 ρ2 μ2 σ2 H2 (FLe.trans e.mono h2), kr⟩
  | false => exact ⟨F', ρ, μ', Dd, R.step e o, q, fun F2 ρ2 μ2 σ2 H2 h2 => kn F2 ρ2 μ2 σ2 H2 (FLe.trans e.mono h2), fun F2 ρ2 μ2 σ2 H2 h2 => kb F2 ρ2 μ2 σ2 H2 (FLe.trans e.mono h2), fun F2 ρ2 μ2 σ2 H2 h2 => kc F2 ρ2 μ2 σ2 H2 (FLe.trans e.mono h2), kr⟩
theorem MDPW.dt (h : MDPW X e ta) : MDT X e ta := MPW.pt h
abbrev MDW (X : Cx) (e : Expr) (d : TED) : Prop := MPE X e (liftW X.K X.mg d)
theorem mdw {d : TED} (h : MDE X e d) : MDW X e d := h.weaken fun _ _ _ q => lift_W q
/-- a comparison of values as a test -/
theorem mdt_cmp {op : CmpOp} {r : R2} {rd : RD2} {da db : TED} (hxe : X.xe = fun _ _ => False) (ho : OpR X (compareOp op) r) (hs : OpS X.K X.mg r rd) (ha : MDW X a da) (hb : MDW X b db) (hm : behindInMarks op b = false) : MDT X (.Compare a [op] [b] pos) (dB (dOp rd da db)) :=
  (mpt_cmpR hxe ho ha hb hm).weaken fun σ H Q q => by
    obtain ⟨F, ρ, μ, Qd, R, hd, k⟩ := q
    refine lift_op hs ⟨F, ρ, μ, _, R, hd, fun v F' μ' H' dv e o w q => ?_⟩
    obtain ⟨b, rfl, q⟩ := blK_iff q
    cases w
    exact ⟨b, rfl, k b F' μ' H' e o q⟩
end
section
variable {P : Program} {w : World} {A : Around} {E : Value → Shared → Prop} {s : Shared}
theorem tl_spliced_nil {Q : List Value → Shared → Prop} (h : Q [] s) : TL P w A (spliced []) Q E s := .pure h
theorem tl_spliced_cons {x : Sem Value} {rest : List (Bool × Sem Value)} {Q : List Value → Shared → Prop}
    (h : TL P w A x (fun v s1 => TL P w A (spliced rest) (fun vs s2 => Q (v :: vs) s2) E s1) E s) : TL P w A (spliced ((false, x) :: rest)) Q E s := by
  rw [spliced]
  refine .bind (h.mono (fun v s1 h1 => ?_) fun _ _ x => x)
  simp only [Bool.false_eq_true, if_false]
  exact .bind (.pure (.bind (.holding (h1.mono (fun vs s2 h2 => .pure h2) fun _ _ x => x))))
/-- a call of a built-in function or type -/
theorem tl_callWith1 {pos : Pos} {f : Value} {x : Sem Value} {rest : List (Bool × Sem Value)} {Q : Value → Shared → Prop} (hk : keeperOf f = pure .machine) (hp : ((false, x) :: rest).any (·.1) = false)
    (h : TL P w A (spliced ((false, x) :: rest)) (fun vs s1 => TL P w A (call f vs) Q E s1) E s) : TL P w A (callWith pos f [] ((false, x) :: rest) []) Q E s := by
  unfold callWith
  refine .bind (.holding ?_)
  unfold evalArgs
  show TL P w A (spliced ((false, x) :: rest) >>= _) _ E s
  refine .bind (h.mono (fun vs s1 h1 => ?_) fun _ _ x => x)
  refine .holding ?_
  refine .bind (.pure (.bind (.pure (.pure (.bind (.standAt ?_))))))
  simp only [hp, hk, List.any_nil, Bool.or_false]
  refine .bind (.pure ?_)
  exact .bind (h1.mono (fun r s2 hr => .bind (.holding (.of (wpAny_point (TL.pure hr))))) fun _ _ x => x)
end
theorem mds_for {X : Cx} {B : Bs} {pos : Pos} {tg iter : Expr} {body : List Stmt} {src : TSrc} {ns : List Nat} {g : TGD} {tb : TSD} (hxe : X.xe = fun _ _ => False) (hc : X.calm = true) (hi : DI X tg iter src) (hg : DG X B tg ns g) (hb : MDSs X B body tb)
    (hs : ∀ x, foldedSetIterable iter X.env x = pure x := by intro _; rfl) : MDSt X B (.For tg iter body [] pos) (dFor src g tb) := (mps_for hxe hc hi hg hb hs).weaken fun D σ H h => by
  obtain ⟨F, ρ, μ, Dd, R, hd, kn, kb, kc, kr⟩ := h
  refine ⟨F, ρ, μ, _, R.rel, hd, fun J F0 μ0 H0 items inv e0 o0 it q0 => ?_⟩
  refine ⟨fun i m σ1 H1 => ∃ F1 ρ1 μ1, m = items.length - i ∧ i ≤ items.length ∧ (∀ a o, F0 a = some o → F1 a = some o) ∧ RelB X.K X.mg B F1 ρ1 μ1 σ1 H1 ∧ forD g tb Dd inv (items.drop i) ρ1 μ1,
    ⟨items.length, F0, ρ, μ0, by simp, Nat.zero_le _, fun _ _ z => z, R.step e0 o0, by simpa using q0⟩, ?_⟩
  rintro i m σ1 H1 ⟨F1, ρ1, μ1, rfl, hi, hF, R1, q1⟩
  have hinv : inv μ1 := by
    cases hz : items.drop i with
    | nil => rw [hz] at q1; exact q1.1
    | cons x xs => rw [hz] at q1; exact q1.1
  obtain ⟨hgo, hstop⟩ := it F1 μ1 H1 hF R1.rel.ok hinv i
  by_cases hlt : i < items.length
  · obtain ⟨g1, g2⟩ := hgo hlt
    refine .inr ⟨g1, fun σ' H' => ∃ F' ρ' μ', (∀ a o, F0 a = some o → F' a = some o) ∧ RelB X.K X.mg B F' ρ' μ' σ' H' ∧ forD g tb Dd inv (items.drop (i + 1)) ρ' μ', fun σ' H' ⟨F', ρ', μ', a1, a2, a3⟩ => ⟨items.length - (i + 1), by omega, F', ρ', μ', rfl, hlt, a1, a2, a3⟩, fun x H2 hy => ?_⟩
    obtain ⟨F2, d, e2, o2, hx, wx⟩ := g2 x H2 hy
    have hdrop : items.drop i = d :: items.drop (i + 1) := by
      have hd := List.drop_eq_getElem_cons hlt
      rw [List.getElem?_eq_getElem hlt] at hx
      cases hx
      exact hd
    rw [hdrop] at q1
    refine ⟨F2, ρ1, μ1, d, _, R1.step e2 o2, wx, q1.2, fun ρ3 σ3 R3 _ _ q3 => ?_⟩
    have hF2 : FLe F0 F2 := fun a o z => e2.mono a o (hF a o z)
    have hF2' : FLe F F2 := fun a o z => hF2 a o (e0.mono a o z)
    exact ⟨F2, ρ3, μ1, _, R3, q3, fun F4 ρ4 μ4 σ4 H4 h4 R4 q4 => ⟨F4, ρ4, μ4, hF2.trans h4, R4, q4⟩, fun F4 ρ4 μ4 σ4 H4 h4 R4 q4 => kn F4 ρ4 μ4 σ4 H4 (hF2'.trans h4) R4 q4, fun F4 ρ4 μ4 σ4 H4 h4 R4 q4 => ⟨F4, ρ4, μ4, hF2.trans h4, R4, q4⟩, kr⟩
  · have : i = items.length := by omega
    subst this
    refine .inl ⟨hstop rfl, ?_⟩
    rw [List.drop_length] at q1
    exact kn F1 ρ1 μ1 σ1 H1 (fun a o z => hF a o (e0.mono a o z)) R1 q1.2
end DL

namespace DL
open PySem PySem.Spec PyProof.Rows L2 GW2 GenW YM
section
variable {X : Cx} {x nm : Str} {p p1 pos pos' : Pos} {e : Expr} {es : List Expr} {id : String} {r : List V → Hp → VK → Prop}
/-- f(e), f a built-in function -/
theorem mpe_callB1 {te : TE} (hxe : X.xe = fun _ _ => False) (hc : CallR X (.builtin id) r) (hg : Gl X x) (hm : X.mg x = none) (hv : bootBuiltins x = some (.builtin id)) (ha : MPE X e te) (hn : x ≠ "__name__" := by decide) (hdb : (x == ("__debug__" : Str)) = false := by decide)
    (he : starEach [e] X.env = (false, eval e X.env) :: starEach [] X.env := by rfl) : MPE X (.Call (.Name x p) [e] [] pos) (tCB r (tCons te tNil)) := by
  refine ⟨fun pins s σ H Q I h => ?_⟩
  rw [arm_eval_Call_Name']
  refine .bind (tl_q (Q := fun u s1 => u = .builtin id ∧ Inv X pins σ H s1) hxe (ld_blt (inv_dull I) hg hm hv ⟨rfl, inv_dull I⟩ hn hdb) fun u s1 gb S0 ⟨hu, I0⟩ => ?_)
  subst hu
  rw [he]
  show TL _ _ _ (callWith pos (.builtin id) [] ((false, eval e X.env) :: []) []) _ _ _
  refine tl_callWith1 rfl rfl (tl_spliced_cons ((ha.run pins s1 σ H _ (inv_nog I0) h).mono (fun u s2 ⟨m1, ⟨y, H1, I1, r1, q1⟩, lo⟩ => tl_spliced_nil ?_) fun _ _ x => x))
  exact tl_q hxe (hc _ (Shared.dull s2) σ H1 [y] [u] Q (inv_dull I1) (.cons r1 .nil) q1) fun v s3 gb S q => MQ.after0 (.ofDim S0.1 I0.bare S0.2) (MQ.after lo (mq_of (R := fun pn t => EP X pn σ Q v t) S (ep_nog q)))
theorem mde_fnB1 {rd : RDn} {d : TED} (hxe : X.xe = fun _ _ => False) (hc : CallR X (.builtin id) r) (hs : CallS X.K X.mg r rd) (hg : Gl X x) (hm : X.mg x = none) (hv : bootBuiltins x = some (.builtin id)) (ha : MDW X e d) (hn : x ≠ "__name__" := by decide) (hdb : (x == ("__debug__" : Str)) = false := by decide)
    (he : starEach [e] X.env = (false, eval e X.env) :: starEach [] X.env := by rfl) : MDE X (.Call (.Name x p) [e] [] pos) (dFn rd (dCons d dNil)) := (mpe_callB1 hxe hc hg hm hv ha hn hdb he).weaken fun σ H Q q => by
  obtain ⟨F, ρ, μ, Qd, R, hd, k⟩ := q
  refine ⟨F, ρ, μ, _, R, hd, fun v F1 μ1 H1 dv e1 o1 w1 q1 => ?_⟩
  exact hs F1 μ1 H1 [v] [dv] Qd Q o1 (.cons w1 .nil) q1 fun v F2 μ2 H2 dv e2 o2 w2 q2 => k v F2 μ2 H2 dv (e1.trans e2) o2 w2 q2
end
section
variable {X : Cx} {k : Nat} {x nm : Str} {S : DSpW} {e : Expr} {es : List Expr} {t : TAD} {p p1 pos pos' : Pos}
/-- f(e, ..): the generator, ready for its consumer -/
def Made (X : Cx) (k : Nat) (pins : List (Addr × Obj)) (σ : L2.St) (F : Hp) (μ : Sto) (H : Hp) (n : Nat) (s : Shared) (Qd : List D → (Sto → Prop) → Sto → Prop) (u : Value) (s' : Shared) : Prop :=
  ∃ H1 F1 μ1 items inv L1 a1 gi1 c1 go1 oL1, Qd items inv μ1 ∧ u = .ref a1 ∧ Inv X pins σ H1 (nog s') ∧ Ext F μ H F1 μ1 H1 ∧ Ok X.K X.mg F1 μ1 H1 ∧ Older X pins L1 ∧ L1 < a1 ∧ n ≤ gi1 ∧ go1.slots = #[] ∧ Lo [] s s' ∧ s.gens.size ≤ gi1 ∧ s.heap.objs.size ≤ L1 ∧
    ∀ A : Around, Room k A → A.frames = some X.stack → Inr X.prog X.w (wpX X L1) gi1 A inv a1 items F1 H1 s' (.fresh c1) go1 [(L1, oL1)] []
theorem tl_gen {pins : List (Addr × Obj)} {σ : L2.St} {H : Hp} {s : Shared} {F : Hp} {ρ : DEnv} {μ : Sto} {Qd : List D → (Sto → Prop) → Sto → Prop} {n : Nat} (hxe : X.xe = fun _ _ => False) (c : CalM X.prog X.w X.K X.mg X.base k x S) (room : Room k X.A) (hg : Gl X x) (ha : DA X (e :: es) t)
    (I : Inv X pins σ H (nog s)) (R : Rel X.K X.mg F ρ μ σ H) (hn : n = s.gens.size) (hq : t ρ μ fun ds μ1 => S ds μ1 fun items inv => Qd items inv μ1) (hdb : (x == ("__debug__" : Str)) = false := by decide)
    (he : starEach (e :: es) X.env = (false, eval e X.env) :: starEach es X.env := by rfl) (hpl : (backTo pos (starEach es X.env)).any (·.1) = false := by rfl) :
    TL X.prog X.w X.A (eval (.Call (.Name x p) (e :: es) [] pos) X.env) (Made X k pins σ F μ H n s Qd) noE s := by
  have hn' : n ≤ (Shared.dull s).gens.size := by show n ≤ (s.gens.map YM.dull).size; rw [Array.size_map]; exact Nat.le_of_eq hn
  have call := mcall (p := p) (s := Shared.dull s) (Q := Qd) c room hg ha hn' (inv_dull I) R hq hdb he hpl
  rw [hxe] at call
  refine (tl_grow (TL.dull call)).mono (fun u s' hx => ?_) fun e s' ⟨_, _, z⟩ => z
  obtain ⟨⟨gb, Sd, H1, s1, F1, μ1, items, inv1, I1, hsz1, hhz, e1, o1, q, L1, a1, gi1, cc1, go1, oL1, hu, hL1, hLa, hgi1, G1, hsl, hgen, hos, hkp, pins1, wake⟩, gz⟩ := hx
  have hosg : s1.os = X.s_0.os := I1.os
  have ew : wpOf X.prog X.w X.K X.mg X.base X.stack s1 L1 = wpX X L1 := by unfold wpOf wpX; rw [hosg]
  rw [ew] at pins1 wake
  have hgb : gb[gi1]? = some (.fresh cc1) := by
    have hgen' : gb = s1.gens.push (.fresh cc1) := hgen
    rw [hgen', hgi1]
    exact Array.getElem?_push_size ..
  have hat : s'.gens[gi1]? = some (.fresh cc1) := (Sd.new gi1 (Sd.isNew hgb rfl)).1 ▸ hgb
  have I2 : Inv X pins σ H1 (nog s') := (inv_nog (s := s1) I1).call' (s' := nog s') (ch := []) hos (Un.kept hkp) (I1.hok.kept hkp) .empty fun b zz => by simp at zz
  have bare' : AllBare gb := by
    have e : gb = s1.gens.push (.fresh cc1) := hgen
    rw [e]
    intro y hy
    rcases Array.mem_push.mp hy with h | h
    · exact I1.bare y h
    · rw [h]; rfl
  refine ⟨H1, F1, μ1, items, inv1, L1, a1, gi1, cc1, go1, oL1, q, hu, I2, e1, o1, Inv.older I1 hL1, hLa, by omega, hsl, .ofDim Sd bare' gz, by omega, Nat.le_trans hhz hL1, fun A rm fr => ?_⟩
  refine ⟨G1, pins1, fun q hq => ?_, .nil, (Array.getElem?_eq_some_iff.mp hat).1, hat, (fun _ _ _ _ _ z => nomatch z), .nil, fun go' F2 μ2 H2 s2 G2 St2 hF hi2 hp2 _ hs2 => wake A rm fr go' F2 μ2 H2 s2 G2 St2 hF hi2 hp2 hs2⟩
  rw [List.mem_singleton.mp hq]
  exact Nat.ne_of_lt hLa
/-- list(f(e, ..)), f a generator def -/
@[simp] def dListM (S : DSpW) (t : TAD) : TED := fun ρ μ Q => t ρ μ fun ds μ1 => S ds μ1 fun items inv => inv μ1 ∧ items.length ≤ SZ ∧ Q (.lst items) μ1
theorem mde_listM (hxe : X.xe = fun _ _ => False) (hca : X.calm = true) (c : CalM X.prog X.w X.K X.mg X.base k x S) (room : Room (k + 3) X.A) (hg : Gl X x) (ha : DA X (e :: es) t) (hgl : Gl X "list") (hml : X.mg "list" = none) (hdb : (x == ("__debug__" : Str)) = false := by decide)
    (he : starEach (e :: es) X.env = (false, eval e X.env) :: starEach es X.env := by rfl) (hpl : (backTo pos' (starEach es X.env)).any (·.1) = false := by rfl)
    (he' : starEach [.Call (.Name x p1) (e :: es) [] pos'] X.env = (false, eval (.Call (.Name x p1) (e :: es) [] pos') X.env) :: starEach [] X.env := by rfl) :
    MDE X (.Call (.Name "list" p) [.Call (.Name x p1) (e :: es) [] pos'] [] pos) (dListM S t) := by
  refine ⟨fun pins s σ H Q I h => ?_⟩
  obtain ⟨F, ρ, μ, Qd, R, hq, kk⟩ := h
  rw [arm_eval_Call_Name']
  refine .bind (tl_q (Q := fun u s1 => u = .type "list" ∧ Inv X pins σ H s1) hxe (ld_blt (inv_dull I) hgl hml (by decide +kernel) ⟨rfl, inv_dull I⟩ (by decide) (by decide)) fun u s1 gb S0 ⟨hu, I0⟩ => ?_)
  subst hu
  rw [he']
  show TL _ _ _ (callWith pos (.type "list") [] ((false, eval (.Call (.Name x p1) (e :: es) [] pos') X.env) :: []) []) _ _ _
  refine tl_callWith1 rfl rfl (tl_spliced_cons ((tl_gen (p := p1) (n := s1.gens.size) hxe c (room.mono (by omega)) hg ha (inv_nog I0) R rfl hq hdb he hpl).mono (fun u s2 hm => tl_spliced_nil ?_) fun _ _ x => x))
  obtain ⟨H1, F1, μ1, items, inv, L1, a1, gi1, c1, go1, oL1, ⟨hinv, hlen, q⟩, rfl, I1, e1, o1, ol, hLa, _, hsl, lo1, hgi, _, N⟩ := hm
  have fr : X.A.in1.in1.in1.frames = some X.stack := I1.ok.frames
  have hd : X.A.depth < recursionLimit := by have := room.dp; omega
  have lo0 : Lo [] s s1 := .ofDim S0.1 I0.bare S0.2
  have hac : Acc s1 [] s2 [(gi1, .fresh c1)] := lo1.acc.more hgi
  refine (tl_grow (tl_list_new (Q' := fun u s' => Acc s1 [] s' [] ∧ EP X pins σ Q u (nog s')) (I1.ok.hd hca) hd ol I1 o1 hinv hLa (by rw [sizeLine_eq]; exact hlen) hsl (N _ (((room.in1 (k := k + 2)).in1 (k := k + 1)).in1) fr) hac fun Sx s' F2 H2 vs I2 e2 o2 n1 n2 n3 h1 f1 d1 ac => ?_)).mono (fun u s' hz => ?_) fun _ _ x => x
  · have mono : ∀ a o, F2 a = some o → upd F2 Sx (.lst vs) a = some o := fun a o z => by rw [upd_ne (ne_of_none z f1)]; exact z
    refine ⟨ac, .ref Sx, H2, I2, rfl, kk (.ref Sx) (upd F2 Sx (.lst vs)) μ1 H2 (.lst items) (e1.trans ⟨fun a o z => mono a o (e2.mono a o z), fun a o z n => ?_, e2.live⟩) (o2.freeze f1 n3 h1) (.lst upd_same (d1.mono mono)) q⟩
    obtain ⟨g1, g2, g3⟩ := e2.keep a o z n
    exact ⟨g1, by rw [upd_ne (fun y => by rw [y, n1] at z; cases z)]; exact g2, g3⟩
  · obtain ⟨⟨ac, ep⟩, gz⟩ := hz
    exact MQ.after0 lo0 ⟨[], by rw [List.append_nil]; exact ep, .ofAcc ac (Nat.le_trans lo1.hsz gz)⟩
end
end DL

namespace YM
open PySem PyProof.Rows
section
variable {P : Program} {w : World}
theorem moves_yield (pr : Profile) (s : Shared) (v : Value) (g : Bool) (l : List Value) (k : Resume → Sem PySem.Fin) (code : Code) (pos : Pos) (stack : List Frame) : (Config.single s ⟨.yield v g l k, code, pos, stack⟩).moves pr = [.run 0] := by
  simp [Config.moves, Config.single, movesFrom, Thread.moves, Thread.atomic, Thread.rests, Thread.tells]
theorem pick_yield (s : Shared) (v : Value) (g : Bool) (l : List Value) (k : Resume → Sem PySem.Fin) (code : Code) (pos : Pos) (stack : List Frame) (hr : s.heap.life.registered = []) :
    (Config.single s ⟨.yield v g l k, code, pos, stack⟩).pick w = .ok (.run 0, .single s ⟨.yield v g l k, code, pos, stack⟩) := by
  have h1 : (Config.single s ⟨.yield v g l k, code, pos, stack⟩).collect? w.params = none := by
    simp [Config.collect?, Config.single, (nothing_to_collect _ _ _ s _ hr).1]
  have h2 : (Config.single s ⟨.yield v g l k, code, pos, stack⟩).collectable = [] := by
    simp [Config.collectable, Config.single, (nothing_to_collect w.params _ _ s _ hr).2]
  simp only [Config.pick, h1, h2, Config.pickThread, moves_yield]
  cases w.params.lifetimes <;> simp
theorem shows_ben {s : Shared} {c : Code} {fs : List Frame} (hr : s.heap.life.registered = []) (h : Ben s c fs) (g : Bool) : closingShows s fs c g = false := by
  obtain ⟨h1, a, xs, kw, o, rfl, ho, hn⟩ := h
  obtain ⟨n, hn⟩ := Option.isSome_iff_exists.mp hn
  simp [closingShows, h1, delegateShows, ho, hn, hr]
theorem lifeStep_ben (others : List Value) (s : Shared) (v : Value) (l : List Value) (k : Resume → Sem PySem.Fin) (code : Code) (pos : Pos) (stack : List Frame) {fs b rest} (hsp : splitAtGen stack = some (fs, b, rest)) (hb : Ben s code fs) (hz : s.asleep) :
    lifeStep (denote table) P w others s ⟨.yield v true l k, code, pos, stack⟩ = step (denote table) P w s ⟨.yield v true l k, code, pos, stack⟩ := by
  obtain ⟨hr, hc⟩ := hz
  cases hs : Thread.special ⟨.yield v true l k, code, pos, stack⟩ with
  | false => exact lifeStep_eq_step _ _ _ others s _ hs hc
  | true =>
    simp only [lifeStep, hs, if_true]
    simp [collectorTurn?, hsp, shows_ben hr hb, Thread.atItsEnd, stepCounting, hc]
theorem sstep_ok {s s' : Shared} {t t' : Thread} (ok : OkT s t) (hz : s.asleep) (h : step (denote table) P w s t = .go s' t') : sstep (denote table) P w (.single s t) = .go (.single s' t') := by
  rcases ok with hc | ⟨v, l, k, fs, b, rest, hcur, hsp, hb⟩
  · rcases sstep_single (denote table) P w s t hc hz with e | e
    · rw [e, h]; rfl
    · rw [h] at e; cases e
  · obtain ⟨cur, code, pos, stack⟩ := t
    obtain rfl : cur = .yield v true l k := hcur
    have hl := fun others => lifeStep_ben (P := P) (w := w) others s v l k code pos stack hsp hb hz
    simp only [sstep, pick_yield s v true l k code pos stack hz.1, Config.move]
    simp only [Config.run, Config.single]
    simp [hl, others_single, frozenBadly, ThreadState.insideWrite, Thread.finalizes, h]
theorem OkT.same {s s' : Shared} {t t' : Thread} (hs : s'.forget = s.forget) (ht : t'.forget = t.forget) (h : OkT s t) : OkT s' t' := by
  rcases h with hc | ⟨v, l, k, fs, b, rest, hcur, hsp, h1, a, xs, kw, o, hcode, ho, hn⟩
  · left
    rw [← Thread.calm_forget t', ht, Thread.calm_forget]; exact hc
  · right
    have e1 : t'.cur = t.cur := (congrArg Thread.cur ht : t'.forget.cur = t.forget.cur)
    have e2 : t'.code = t.code := (congrArg Thread.code ht : t'.forget.code = t.forget.code)
    have e3 : forgetAll t'.stack = forgetAll t.stack := congrArg Thread.stack ht
    have e4 : s'.heap = s.heap := (Shared.forget_eq hs).1
    have q := splitAtGen_forgetAll t'.stack
    rw [e3, splitAtGen_forgetAll, hsp] at q
    cases q2 : splitAtGen t'.stack with
    | none => rw [q2] at q; cases q
    | some x =>
      rw [q2] at q
      obtain ⟨fs', b', rest'⟩ := x
      have e5 : forgetAll fs = forgetAll fs' := by
        have := Option.some.inj q
        exact congrArg Prod.fst this
      refine ⟨v, l, k, fs', b', rest', e1.trans hcur, rfl, ?_, a, xs, kw, o, e2.trans hcode, by rw [e4]; exact ho, hn⟩
      rw [← any_guarded_forgetAll, ← e5, any_guarded_forgetAll]; exact h1
/-- the scheduler goes along -/
theorem sim {x y : Shared × Thread} (h : Sts P w x y) : ∀ (sR : Shared) (tR : Thread), sR.forget = x.1.forget → tR.forget = x.2.forget → sR.asleep →
    ∃ (n : Nat) (sR' : Shared) (tR' : Thread), sR'.forget = y.1.forget ∧ tR'.forget = y.2.forget ∧ sR'.heap.life = sR.heap.life ∧ ∀ m, schedN (denote table) P w (n + m) (.single sR tR) = schedN (denote table) P w m (.single sR' tR') := by
  induction h with
  | refl x => intro sR tR hs ht hz; exact ⟨0, sR, tR, hs, ht, rfl, fun m => by rw [Nat.zero_add]⟩
  | @head x y z st _ ih =>
    intro sR tR hs ht hz
    obtain ⟨s, t⟩ := x
    obtain ⟨s1, t1⟩ := y
    have hk : stepK (denote table) P w s t = .go s1 t1 := st.2
    have hf := (step_same (denote table) P w hs ht).trans (stepK_forget (denote table) P w s t).symm
    rw [hk] at hf
    cases hst : step (denote table) P w sR tR with
    | halt o s2 => rw [hst] at hf; cases hf
    | go sR1 tR1 =>
      rw [hst] at hf
      simp only [Step.forget] at hf
      injection hf with ha hb
      have hl := step_life (denote table) P w sR sR1 tR tR1 hst
      obtain ⟨n, sR', tR', h1, h2, h3, h4⟩ := ih sR1 tR1 ha hb (Shared.asleep_of_life hl hz)
      refine ⟨n + 1, sR', tR', h1, h2, h3.trans hl, fun m => ?_⟩
      have e : sstep (denote table) P w (.single sR tR) = .go (.single sR1 tR1) := sstep_ok (OkT.same hs ht st.1) hz hst
      rw [Nat.add_right_comm, ← h4 m]
      simp only [schedN, e]
/-- every loud sleeper shows nothing -/
def Clean (s : Shared) : Prop := ∀ (i : Nat) k l c p fs, s.gens[i]? = some (.suspended k l c p fs true) → Ben s c fs
theorem Clean.same {s s' : Shared} (hs : s'.forget = s.forget) (h : Clean s) : Clean s' := by
  obtain ⟨e1, _, _, _, e2⟩ := Shared.forget_eq hs
  intro i k l c p fs e
  have q : (s'.gens.map GenState.forget)[i]? = some (.suspended k l c p (forgetAll fs) true) := by simp [e]
  rw [e2, Array.getElem?_map] at q
  cases q2 : s.gens[i]? with
  | none => rw [q2] at q; cases q
  | some x =>
    rw [q2] at q
    cases x with
    | suspended k' l' c' p' fs' cl' =>
      have := Option.some.inj q
      simp only [GenState.forget_suspended] at this
      injection this with a1 a2 a3 a4 a5 a6
      subst a1 a2 a3 a4 a6
      obtain ⟨h1, a, xs, kw, o, h2, h3, h4⟩ := h i _ _ _ _ _ q2
      refine ⟨?_, a, xs, kw, o, h2, by rw [e1]; exact h3, h4⟩
      rw [← any_guarded_forgetAll, ← a5, any_guarded_forgetAll]; exact h1
    | _ => simp [GenState.forget] at q
theorem clean_end {s : Shared} (h : Clean s) (hr : s.heap.life.registered = []) (all : Bool) : leftWithCleanup (forgetSuspended all s).gens = false := by
  simp only [leftWithCleanup, forgetSuspended, Array.any_map]
  rw [Array.any_eq_false]
  intro i hi
  cases e : s.gens[i] with
  | suspended k l c p fs cl =>
    cases cl with
    | false => simp [e]
    | true =>
      have := shows_ben hr (h i k l c p fs (by rw [Array.getElem?_eq_getElem hi, e])) true
      simp [e, this]
  | _ => simp [e]
theorem end_run {s : Shared} {t : Thread} {r : Result} (hz : s.asleep) (hc : Clean s) (ht : t.stack = []) (hcur : t.cur = leafOf r) : schedN (denote table) P w 1 (.single s t) = .halted (outcomeOf r) (forgetSuspended (w.params.lifetimes == .anyTime) s) := by
  obtain ⟨cur, code, pos, stack⟩ := t
  obtain rfl : stack = [] := ht
  obtain rfl : cur = leafOf r := hcur
  have hl := clean_end hc hz.1 (w.params.lifetimes == .anyTime)
  have calm : Thread.calm ⟨leafOf r, code, pos, []⟩ = true := by cases r <;> rfl
  have ends : Thread.atItsEnd ⟨leafOf r, code, pos, []⟩ = true := by cases r <;> rfl
  have hlife := fun others => lifeStep_calm0 (denote table) P w others s ⟨leafOf r, code, pos, []⟩ calm hz
  simp only [ends, if_true] at hlife
  have st : step (denote table) P w (forgetSuspended (w.params.lifetimes == .anyTime) s) ⟨leafOf r, code, pos, []⟩ = .halt (outcomeOf r) (forgetSuspended (w.params.lifetimes == .anyTime) s) := by
    cases r with
    | ok f => simp [leafOf, step, finish, hl, outcomeOf]
    | error e => simp [leafOf, step, finish, hl, outcomeOf]
  simp only [st] at hlife
  simp only [schedN, sstep, pick_single w s _ calm hz.1, Config.move]
  cases r with
  | ok f =>
    have h0 : lifeStep (denote table) P w [] s ⟨.pure (.done f), code, pos, []⟩ = .halt (outcomeOf (.ok f)) (forgetSuspended (w.params.lifetimes == .anyTime) s) := hlife []
    simp [Config.run, Config.single, h0, others_single, frozenBadly, ThreadState.insideWrite, Thread.finalizes, leafOf]
  | error e =>
    have h0 : lifeStep (denote table) P w [] s ⟨.raise e, code, pos, []⟩ = .halt (outcomeOf (.error e)) (forgetSuspended (w.params.lifetimes == .anyTime) s) := hlife []
    simp [Config.run, Config.single, h0, others_single, frozenBadly, ThreadState.insideWrite, Thread.finalizes, leafOf]
/-- a thread that runs a tree to its end -/
theorem thread_endsM {t : Sem PySem.Fin} {s : Shared} {R : Result → Shared → Prop} (hreg : s.asleep) (h : TL P w callerA t (fun fin s' => ∃ f, fin = .done f ∧ R (.ok f) s' ∧ Clean s') (fun e s' => R (.error e) s' ∧ Clean s') s) :
    ∃ n r s' s'', schedN (denote table) P w n (.single s ⟨t, .builtin "claim.caller" {}, default, []⟩) = .halted (outcomeOf r) s' ∧ s'.heap.life = s.heap.life ∧ s'.heap = s''.heap ∧ s'.os = s''.os ∧ R r s'' := by
  have e : ∀ t : Sem PySem.Fin, t.wrap .pure .raise id id = t := fun t => by
    rw [← Sem.bind_eq_wrap]; exact Sem.bind_pure t
  have run : ∃ r p' s', R r s' ∧ Clean s' ∧ Sts P w (s, ⟨t, .builtin "claim.caller" {}, default, []⟩) (s', ⟨leafOf r, .builtin "claim.caller" {}, p', []⟩) := by
    rcases h ⟨.builtin "claim.caller" {}, none, none, [], none⟩ [] default ⟨rfl, rfl, rfl, rfl⟩ caller_in .pure .raise id id with ⟨fin, p', s', ⟨f, rfl, hR, hC⟩, z⟩ | ⟨x, p', s', ⟨hR, hC⟩, z⟩
    · rw [e] at z; exact ⟨.ok f, p', s', hR, hC, z⟩
    · rw [e] at z; exact ⟨.error x, p', s', hR, hC, z⟩
  obtain ⟨r, p', s'', hR, hC, z⟩ := run
  obtain ⟨n, sR, tR, h1, h2, h3, h4⟩ := sim z s _ rfl rfl hreg
  obtain ⟨eh, _, _, eo, _⟩ := Shared.forget_eq h1
  have hst : tR.stack = [] := by
    have q : forgetAll tR.stack = [] := (congrArg Thread.stack h2 : tR.forget.stack = _)
    cases hh : tR.stack with
    | nil => rfl
    | cons f fs => rw [hh] at q; cases q
  have hcur : tR.cur = leafOf r := (congrArg Thread.cur h2 : tR.forget.cur = _)
  refine ⟨n + 1, r, _, s'', (h4 1).trans (end_run (Shared.asleep_of_life h3 hreg) (Clean.same h1 hC) hst hcur), ?_, ?_, ?_, hR⟩
  · rw [forgetSuspended_heap]; exact h3
  · rw [forgetSuspended_heap]; exact eh
  · exact eo
end
end YM

namespace YM
open PySem PySem.W PySem.Calls PyProof.Rows
theorem callFrom_of_specM {c : ClaimW} {tree : List Value → Sem PySem.Fin} {w : World} {s : Shared} {free : Addr → Prop} {gens : Prop} {kept : Heap → Prop} (hz : s.asleep) (hgens : s.gens = #[])
    (hspec : ∀ args, c.pre args = true → WData.layableAll args = true →
      ∀ ord : List DictEntry → List DictEntry, (∀ l, (ord l).Perm l) →
      ∃ vs s₁, layAllW c.records (classAt s.heap) w.params ord args s = some (vs, s₁) ∧
        TL c.prog w callerA (tree vs) (fun fin s' => ∃ f, fin = .done f ∧ (c.Ends s args vs s₁ (.ok f) s' ∧ s'.os = s.os ∧ kept s'.heap) ∧ Clean s')
          (fun e s' => (c.Ends s args vs s₁ (.error e) s' ∧ s'.os = s.os ∧ kept s'.heap) ∧ Clean s') s₁) :
    c.CallFrom (fun vs => ⟨tree vs, .builtin "claim.caller" {}, default, []⟩) w free gens kept s := by
  intro args hpre hlay ord hord
  obtain ⟨vs, s₁, hlaid, hcode⟩ := hspec args hpre hlay ord hord
  have hal := layAllW_rest _ _ _ hlaid
  obtain ⟨k, r, s', s'', hsched, hlife, eh, eo, hcase, hos, hkp⟩ := thread_endsM (P := c.prog) (w := w) (t := tree vs) (s := s₁)
    (R := fun r s' => c.Ends s args vs s₁ r s' ∧ s'.os = s.os ∧ kept s'.heap)
    (Shared.asleep_of_life hal.2.2.2 hz) hcode
  have hcase := hcase.congr eh
  have hkp : kept s'.heap := by rw [eh]; exact hkp
  rw [← eo] at hos
  have hlife : s'.heap.life = s.heap.life := hlife.trans hal.2.2.2
  refine ⟨vs, s₁, hlaid, k, _, s', hsched, ?_, (fun _ i x hx => by rw [hgens] at hx; simp at hx), hkp, by rw [hlife], Shared.rest_eq hos⟩
  rcases hcase with ⟨v, rfl, d1, d2, d3, d4, d5⟩ | ⟨e, ob, cls, rfl, d1, d2, d3, d4, d5⟩
  · exact .inl ⟨v, rfl, d1, d2, d3, fun b o y _ => d4 b o y, d5⟩
  · exact .inr ⟨e, ob, cls, rfl, d1, d2, d3, d4, fun b o y _ => d5 b o y⟩
theorem open_anyM {r : RowW} {run : Value → List Value → Sem Value} {tree : List Value → Sem PySem.Fin} {q : Program} {loose defs kps : List Str} {writes : Bool} {Xt : Shared → Bool} {XP : (Str → Option Value) → Heap → Prop} {α : Type} {Yf : Shared → α} {Ya : World → α} {YP : World → Heap → Prop} {N : Nat}
    (left : LeftO r.prog q loose Xt Yf Ya N) (hY : ∀ w s, Yf s = Ya w → YP w s.heap) (hYk : ∀ w h h', YP w h → (∀ b o, h.get? b = some o → h'.get? b = some o) → YP w h') (hX : ∀ s, Xt s = true → XP (s.heap.nsMap mainGlobals) s.heap) (hXk : ∀ mg h h', XP mg h → (∀ b o, h.get? b = some o → h'.get? b = some o) → XP mg h')
    (hRf : ∀ s, Xt s = true → RecFacts r.records s.heap) (hwr : (!writes || r.records.isEmpty) = true) (ok : (chainsOk q && opensWell r.prog && (frees r && r.within.isEmpty)) = true) (hb : r.prog.bare) (hw : r.promised)
    (ht : ∀ vs (w : World) (s : Shared) mg f (Q : PySem.Fin → Shared → Prop) (E : Value → Shared → Prop), s.heap.Ns mainGlobals mg → mg r.name = some f → TL r.prog w callerA (run f vs) (fun v s' => Q (.done (.ret v)) s') E s → TL r.prog w callerA (tree vs) Q E s)
    (pin : ∀ w s, s.heap.isNs mainGlobals = true → Ground q loose [] XP w s (s.heap.nsMap mainGlobals) (s.heap.nsMap builtinsNs) s.heap → ∀ n ∈ defs, isTheDefsW r.prog s.heap n)
    (call : ∀ (w : World) (s₀ s₁ : Shared) (mg mb : Str → Option Value), Ground q loose r.records XP w s₀ mg mb s₁.heap → YP w s₁.heap → ∀ (args : List WData) (vs : List Value) (as : List Addr),
      r.claim.pre args = true → WData.layableAll args = true → Laid r.records w s₀ s₁ args vs as → sysModules < s₀.heap.objs.size → ∃ f, mg r.name = some f ∧
        TL r.prog w callerA (run f vs) (fun v s' => GoodWG r.claim (classAt s₀.heap) (ExcName.means s₀.heap) args s₁ (.ok (.ret v)) (DL.nog s') ∧ Clean s')
          (fun e s' => GoodWG r.claim (classAt s₀.heap) (ExcName.means s₀.heap) args s₁ (.error e) (DL.nog s') ∧ Clean s') s₁) : r.claim.HoldsOpenBy (fun vs => ⟨tree vs, .builtin "claim.caller" {}, default, []⟩) defs kps writes := by
  obtain ⟨ok, k5⟩ := Bool.and_eq_true_iff.mp ok
  obtain ⟨hch, o1⟩ := Bool.and_eq_true_iff.mp ok
  obtain ⟨k5, k6⟩ := Bool.and_eq_true_iff.mp k5
  obtain ⟨hsame, hu, ha, hap, hm⟩ := frees_parts k5
  refine ⟨⟨hb, o1, by show r.makers.map _ = []; rw [hm]; rfl⟩, hw.witness, fun w => ⟨(left.behind hX hch w).1, fun s' hs' => ?_⟩⟩
  obtain ⟨s₀, hf, hg0, s, hT, hz, hgens, hg, G00, y⟩ := (left.behind (XP := fun mg h => XP mg h ∧ RecFacts r.records h) (fun s hs => ⟨hX s hs, hRf s hs⟩) hch w).2 s' hs'
  have G0 : Ground q loose [] XP w s (s.heap.nsMap mainGlobals) (s.heap.nsMap builtinsNs) s.heap := ⟨G00.T, G00.B, G00.D, G00.TE, G00.TD, G00.W, G00.X.1, G00.cls, G00.has, G00.apart, G00.once, G00.K⟩
  have RF := G00.X.2
  have hT' := hT
  refine ⟨s₀, hf, hg0, s, hT, pin w s hg G0, RF.1, RF.2.1, ?_⟩
  have hgens : s.gens = #[] := Array.eq_empty_of_size_eq_zero (beq_iff_eq.mp hgens)
  have G : Ground q loose r.records XP w s _ _ s.heap := RF.ground G0
  refine callFrom_of_specM (c := r.claim) hz hgens fun args hpre hlay ord hord => ?_
  obtain ⟨⟨vs, s₁⟩, hlaid⟩ := Option.isSome_iff_exists.mp (layAllW_isSome (P := w.params) (ord := ord) G.has args r.args s (pre_splitW hpre).1)
  have keeps := layAllW_keeps _ _ _ hlaid
  have hal := layAllW_rest _ _ _ hlaid
  obtain ⟨as, hrd, hin, hold⟩ := reads_layAllW hord _ _ _ hlaid hlay s₁.heap (fun _ _ e => e)
  have L : Laid r.records w s s₁ args vs as := ⟨⟨ord, hord, hlaid⟩, hrd, hin, hold, keeps, hal.1.trans hgens, hal.2.2.1⟩
  have G₁ := G.keeps hXk keeps
  obtain ⟨f, hf, h⟩ := call w s s₁ _ _ G₁ (hYk _ _ _ (hY w s y) keeps) args vs as hpre hlay L G.low
  have hi := ident_freeW hu ha hap
  have hwi : r.claim.within = [] := List.isEmpty_iff.mp k6
  exact ⟨vs, s₁, hlaid, ht vs w s₁ _ f _ _ G₁.T.g hf (h.mono (fun v s' g => ⟨_, rfl, have z := g.1.laid (c := r.claim) hsame hwi hi L; ⟨z.1.congr rfl, z.2.1, fun q => ⟨namesKept_of hT' hg kps keeps g.1.2.1.old, noTable hwr q⟩⟩, g.2⟩) fun e s' g => have z := g.1.laid (c := r.claim) hsame hwi hi L; ⟨⟨z.1.congr rfl, z.2.1, fun q => ⟨namesKept_of hT' hg kps keeps g.1.2.1.old, noTable hwr q⟩⟩, g.2⟩)⟩
abbrev WalkOM (q : Program) (loose : List Str) (XP : (Str → Option Value) → Heap → Prop) (YP : World → Heap → Prop) (r : RowW) (d : DefRec) (kwd : List (Str × Expr)) (run : Value → List Value → Sem Value) : Prop :=
  ∀ (w : World) (s₀ s₁ : Shared) (mg mb : Str → Option Value), Ground q loose r.records XP w s₀ mg mb s₁.heap → YP w s₁.heap → ∀ (a : Addr) (o : Obj) (pm cd doc dV kV : Value), s₁.heap.get? a = some o →
    o.data = .func { docDef d.name d.params d.body d.scope pm cd doc with defaults := dV, kwdefaults := kV } → s₁.heap.CodeRec cd d.name → Dflts mg s₁.heap d.params kwd dV kV → mg d.name = some (.ref a) → s₁.gens = #[] →
    ∀ (args : List WData) (vals : List Value) (as : List Addr), r.claim.pre args = true → WData.layableAll args = true → ReadsAllW r.records (classAt s₀.heap) s₁.heap vals args as → WellAll w.params s₁.heap vals args → (∀ a ∈ as, (a == sysModules) = false) →
      TL r.prog w callerA (run (.ref a) vals) (fun v s' => GoodWG r.claim (classAt s₀.heap) (ExcName.means s₀.heap) args s₁ (.ok (.ret v)) (DL.nog s') ∧ Clean s')
        (fun e s' => GoodWG r.claim (classAt s₀.heap) (ExcName.means s₀.heap) args s₁ (.error e) (DL.nog s') ∧ Clean s') s₁
theorem holds_openM {r : OpenRow} {q : Program} {loose : List Str} {Xt : Shared → Bool} {XP : (Str → Option Value) → Heap → Prop} {α : Type} {Yf : Shared → α} {Ya : World → α} {YP : World → Heap → Prop} {d : DefRec} {kwd : List (Str × Expr)} {N : Nat}
    (left : LeftO r.prog q loose Xt Yf Ya N) (hY : ∀ w s, Yf s = Ya w → YP w s.heap) (hYk : ∀ w h h', YP w h → (∀ b o, h.get? b = some o → h'.get? b = some o) → YP w h')
    (hX : ∀ s, Xt s = true → XP (s.heap.nsMap mainGlobals) s.heap) (hXk : ∀ mg h h', XP mg h → (∀ b o, h.get? b = some o → h'.get? b = some o) → XP mg h')
    (hdef : defOf q r.name = some (d, kwd)) (hp : r.prog.theDef r.name = some (d.params, d.body, d.scope)) (hk : kwWritten? d.params.kwonlyargs d.params.kw_defaults = some kwd) (hRf : ∀ s, Xt s = true → RecFacts r.records s.heap) (hwr : (!r.writes || r.records.isEmpty) = true)
    (k1 : r.wellSaid = true) (ok : (chainsOk q && opensWell r.prog && (frees r.toRowW && r.within.isEmpty)) = true) (hb : r.prog.bare) (hw : r.toRowW.promised)
    (call : WalkOM q loose XP YP r.toRowW d kwd fun f vs => PySem.call f vs) : r.Holds := by
  refine ⟨k1, hw, open_anyM (r := r.toRowW) (run := fun f vs => PySem.call f vs) (tree := fun vs => do match ← nsGet mainNs r.name with
      | some f => do ret (← PySem.call f vs)
      | none => unsupported "claim.caller:no-such-global") left hY hYk hX hXk hRf hwr ok hb hw
    (fun vs w s mg f Q E hg hf h => .bind (.of (wpAny_nsGet hg (by rw [hf]; exact .bind (h.mono (fun _ _ x => .pure x) fun _ _ x => x)))))
    (fun w s hg G n hn => ?_) fun w s₀ s₁ mg mb G Y args vs as hpre hlay L low => ?_⟩
  · obtain rfl : n = r.name := by split at hn <;> simp_all
    exact pinned_of_view hg G hdef hp hk
  · obtain ⟨a, o, pm, cd, doc, dV, kV, h1, h2, h3, h4, h5⟩ := G.fn hdef
    exact ⟨.ref a, h1, call w s₀ s₁ mg mb G Y a o pm cd doc dV kV h2 h3 h4 h5 (defOf_name hdef ▸ h1) L.gens args vs as hpre hlay L.reads L.well (L.low low)⟩
end YM

namespace DL
open PySem PySem.Spec PyProof.Rows L2
/-- the heap that shows the script alone, where the module does not own it -/
def Hscr (K : PySem.W.Frag) (a : Addr) (o : Obj) (xs : List V) : Hp := fun b => if b = a ∧ K.lookup a = none then some (.frz o (.lst xs)) else none
theorem Hscr_some {K : PySem.W.Frag} {a b : Addr} {o : Obj} {xs : List V} {u : HO} (h : Hscr K a o xs b = some u) : b = a ∧ K.lookup a = none ∧ u = .frz o (.lst xs) := by
  unfold Hscr at h
  split at h
  · rename_i c
    exact ⟨c.1, c.2, (Option.some.inj h).symm⟩
  · cases h
theorem Hscr_none {K : PySem.W.Frag} {a b : Addr} {o : Obj} {xs : List V} (h : ¬ (b = a ∧ K.lookup a = none)) : Hscr K a o xs b = none := if_neg h
end DL

namespace DL
open PySem PySem.Spec PyProof.Rows L2 GW2 GenW YM
/-- a promise over data, without exceptions -/
abbrev DSpM := List D → Sto → DK → Prop
/-- behind the call: more objects are there, over which new loud sleepers sleep -/
def CEM (K : PySem.W.Frag) (mg : Str → Option Value) (outer : List Env) (P : Program) (w : World) (F : Hp) (μ : Sto) (H : Hp) (s : Shared) (Q : DK) (r : Result) (s' : Shared) : Prop :=
  ∃ u v H' F' μ' dv more, r = .ok (.ret u) ∧ RelV v u ∧ s'.os = s.os ∧ Un (frs outer) [] H H' s.heap s'.heap ∧ HOk P w H' s'.heap ∧ Ext F μ H F' μ' H' ∧ Ok K mg F' μ' H' ∧ Dt K mg F' v dv ∧ Q dv μ' ∧ Lo more s s' ∧
    ∀ p ∈ more, s'.heap.get? p.1 = some p.2 ∧ H' p.1 = none ∧ ∀ v, p.2.data ≠ .cell v
structure FnM (P : Program) (w : World) (K : PySem.W.Frag) (mg : Str → Option Value) (base : Heap) (k : Nat) (f : Addr) (fd : FuncData) (ps : List Str) (S : DSpM) : Prop where
  len : ∀ ds μ Q, S ds μ Q → ds.length = ps.length
  run : ∀ (A : Around) (outer : List Env) (s : Shared) (H : Hp) (args : Args) (us : List Value) (vs : List V) (F : Hp) (μ : Sto) (ds : List D) (Q : DK), Quiet A → Room k A → Env0 P w K mg base A outer (nog s) H → BindsTo (Shared.dull s) fd args (ps.zip us) → Vals vs us → Ok K mg F μ H → Dts K mg F vs ds → S ds μ Q →
    TC P w A (.call (.ref f) args) (CEM K mg outer P w F μ H s Q) s
theorem wp_callFn {prog : Program} {w : World} {A : Around} {s : Shared} {Q : PySem.Fin → Shared → Prop} {E : Value → Shared → Prop} {a : Addr} {args : Args} {o : Obj} {fd : FuncData} {body : List Stmt} (hroom : A.depth < recursionLimit)
    (ho : s.heap.get? a = some o)
    (hd' : o.data = .func fd) (hco : fd.scope.isCoroutine = false) (hgen : fd.scope.isGenerator = false) (hbody : fd.body = .stmts body) (hcd : s.heap.CodeRec fd.code fd.qualname)
    (h : wpAny (model prog w) A.in1 (bindArgs fd args) (fun binds s₁ =>
      wpAny (model prog w) A.in1 (newFunctionEnv fd.scope fd.globals fd.closure binds (fd.qualname ++ ".<locals>.") (some a) fd.code none fd.builtins)
        (fun env s₂ => s₂.heap.NoLimit ∧ Q (.again (.func body env)) s₂) E s₁) E s) :
    wpAny (model prog w) A.in1 (callAny (.ref a) args) Q E s := by
  simp only [callAny]
  refine wpAny_bind (wpAny_load ho ?_)
  obtain ⟨c, oc, vs, tq, hc, hoc, hdc, hq⟩ := hcd
  simp only [hd', callFunction, hco, hgen, hbody, hc]
  rw [hc] at h
  refine wpAny_bind (m := field (.ref c) 1) (wpAny_field hoc hdc hq (wpAny_bind (wpAny_pure ?_)))
  exact wpAny_bind (wpAny_mono h (fun binds s₁ h₁ => wpAny_bind (wpAny_mono h₁ (fun env s₂ h₂ => wpAny_bind (wpAny_enterFrame h₂.1 hroom
    (wpAny_pure h₂.2))) fun _ _ h' => h')) fun _ _ h' => h')
section
variable {P : Program} {w : World} {K : PySem.W.Frag} {mg : Str → Option Value} {base : Heap} {k : Nat} {f : Addr} {fd : FuncData} {ps : List Str} {S : DSpM}
theorem FnM.of {name qual : Str} {st : Stmt} {N : List Str} (D : Fun K name qual st f fd) (Sc : FnScope N ps (defScope st)) (len : ∀ ds μ Q, S ds μ Q → ds.length = ps.length) (d : TSD)
    (hd : ∀ ds μ Q, S ds μ Q → d { nx := fun _ μ' => Q .non μ', rt := Q } (startD N.length ds) μ)
    (body : ∀ (cdv : Value) (A : Around) (outer : List Env) (s : Shared) (H : Hp) (E : XK) (B : Bs), Quiet (A.deeper (envOfC qual (defScope st) s.heap.objs.size f cdv)) → Room k (A.deeper (envOfC qual (defScope st) s.heap.objs.size f cdv)) →
      MDSs (cxOf L2.CX0 P w K mg base N qual (defScope st) f cdv A outer s H E).nox B (defBody st) d) : FnM P w K mg base (k + 1) f fd ps S := by
  obtain ⟨oc, od, kV, doc, pm, an, cdv, ct, osl, rfl, hk, hcode⟩ := D.ex
  refine ⟨len, fun A outer s H args us vs F μ ds Q quiet room env bind rel hO hD hsp => ?_⟩
  have n : vs.length = ps.length := hD.length.trans (len _ _ _ hsp)
  have kin : K.In s.heap := env.mod.kin.keeps (fun b o z => (env.bs b o z).1)
  have free : s.heap.NoLimit := env.mod.nolimit.keeps (fun b o z => (env.bs b o z).1)
  have loc : ∀ y ∈ ps.zip us, (defScope st).names.lookup y.1 = some .local ∨ ((defScope st).names.lookup y.1 = some .cell ∧ ((cellsFrom (s.heap.objs.size + 1) (defScope st).names []).lookup y.1).isSome = true) := by
    intro y hy
    rcases Sc.par y.1 (List.of_mem_zip hy).1 with q | q
    · exact Or.inl q
    · exact Or.inr ⟨q, PySem.W.cellsFrom_some _ _ _ (Or.inl q)⟩
  have env' : Env0 P w K mg base A outer (Shared.dull s) H := ⟨env.frames, env.mod, env.bs, env.bsz, env.funs, env.frf, env.hok, dull_all _⟩
  refine .tree ?_
  show TL P w A.in1 (callAny (.ref f) args) _ _ s
  refine (tl_grow (TL.dull (E := noE) (Q := fun fin s1 => fin = .again (.func (defBody st) (envOfC qual (defScope st) s.heap.objs.size f cdv)) ∧ Inv (cxOf L2.CX0 P w K mg base N qual (defScope st) f cdv A outer (Shared.dull s) H L2.E0).nox [] (L2.start N vs) H s1)
    (wp_callFn room.depth (kin _ _ hk) rfl Sc.co Sc.gen rfl (PySem.W.codeRec_of kin hcode) (bind _ _ _ _ ?_)))).mono (fun fin s1 hz => ?_) fun e s1 ⟨_, _, z⟩ => z.elim
  · refine wpAny_newFunctionEnv_cells Sc.kind loc ?_
    intro env1 he s1 x
    subst he
    have I := inv_start (CX := L2.CX0) (E := L2.E0) Sc room.hd env' n rel x
    exact ⟨free.keeps x.toInCall.keep, rfl, I.wish _⟩
  · obtain ⟨⟨gb, Sd, rfl, I1⟩, gz⟩ := hz
    refine ⟨rfl, .tree ?_⟩
    show TL P w (A.deeper (envOfC qual (defScope st) s.heap.objs.size f cdv)) (do point; match ← (execs (defBody st) (envOfC qual (defScope st) s.heap.objs.size f cdv)).onRaise (leaving (envOfC qual (defScope st) s.heap.objs.size f cdv)) with | .ret v => ret v | _ => ret .none) _ _ s1
    have lo1 : Lo [] s s1 := .ofDim Sd I1.bare gz
    refine .bind (.of (wpAny_point (.bind (.onRaise (((body cdv A outer (Shared.dull s) H L2.E0 ⟨F, μ, H⟩ quiet (room.deeper _)).run [] s1 _ H { nx := fun _ H' => ∃ F' μ', Ext F μ H F' μ' H' ∧ Ok K mg F' μ' H' ∧ Q .non μ', rt := fun v H' => ∃ F' μ' dv, Ext F μ H F' μ' H' ∧ Ok K mg F' μ' H' ∧ Dt K mg F' v dv ∧ Q dv μ' } (inv_nog I1) ?_).mono (fun fl s2 hz => ?_) fun _ _ x => x.elim)))))
    · refine ⟨F, startD N.length ds, μ, { nx := fun _ μ' => Q .non μ', rt := Q }, start_rel hO hD, hd _ _ _ hsp, ?_, fun _ _ _ _ _ _ _ z => z.elim, fun _ _ _ _ _ _ _ z => z.elim, ?_⟩
      · exact fun F' ρ' μ' σ' H' _ R q => ⟨F', μ', R.ext, R.rel.ok, q⟩
      · exact fun v F' μ' H' dv e o w q => ⟨F', μ', dv, e, o, w, q⟩
    · obtain ⟨more, hz, lo2⟩ := hz
      have lo : Lo more s s2 := lo1.trans lo2
      have pins : ∀ {σ' : L2.St} {H' : Hp}, Inv (cxOf L2.CX0 P w K mg base N qual (defScope st) f cdv A outer (Shared.dull s) H L2.E0).nox ([] ++ more) σ' H' (nog s2) → ∀ p ∈ more, s2.heap.get? p.1 = some p.2 ∧ H' p.1 = none ∧ ∀ v, p.2.data ≠ .cell v := fun J p hp => by
        obtain ⟨h1, h2, _, _, h3⟩ := J.pin p (List.mem_append_right _ hp)
        exact ⟨h1, h2, h3⟩
      match fl, hz with
      | .ret u, ⟨v, σ', H', J, rv, F', μ', dv, e, o, wv, q⟩ => exact .pure ⟨u, v, H', F', μ', dv, more, rfl, rv, J.os, J.base, J.hok, e, o, wv, q, lo, pins J⟩
      | .next, ⟨σ', H', J, F', μ', e, o, q⟩ => exact .pure ⟨.none, .non, H', F', μ', .non, more, rfl, rfl, J.os, J.base, J.hok, e, o, .non, q, lo, pins J⟩
      | .brk, ⟨_, _, _, q⟩ => exact q.elim
      | .cont, ⟨_, _, _, q⟩ => exact q.elim
end
theorem clean_of {more : List (Addr × Obj)} {s s' : Shared} (lo : Lo more s s') (hg : s.gens = #[]) (hp : ∀ p ∈ more, s'.heap.get? p.1 = some p.2) : Clean s' := by
  intro i k l c p fs e
  rcases lo.new i k l c p fs e with q | q
  · rw [e, hg] at q; simp at q
  · obtain ⟨h1, a, xs, kw, o, h2, h3, h4⟩ := q k l c p fs rfl
    exact ⟨h1, a, xs, kw, o, h2, hp (a, o) h3, h4⟩
theorem end_gM {l : PySem.W.OpenLaw} {n k : Nat} {q : Program} {loose : List Str} {XP : (Str → Option Value) → Heap → Prop} {YP : World → Heap → Prop} {d : DefRec} {K : Params → PySem.W.Frag} {S : DSpM} {x : Str}
    (hn : l.most = some n) (hn2 : n ≤ sizeLine) (hdf : d.params.defaults = []) (hr : Room k callerA) (hY : ∀ (w : World) (h : Heap), YP w h → (K w.params).In h)
    (F : ∀ (w : World) (mg : Str → Option Value) (fa : Addr) (h : Heap), (K w.params).In h → h.Ns mainGlobals mg → mg d.name = some (.ref fa) →
      ∃ fd : FuncData, (∀ (s : Shared) (u : Value), BindsTo s fd ⟨[u], []⟩ [(x, u)]) ∧ ∀ base : Heap, (K w.params).In base → base.Ns mainGlobals mg → FnM l.prog w (K w.params) mg base k fa fd [x] S)
    (hS : ∀ ns : List Int, ns.length ≤ n → S [.scr ns] (fun _ => none) fun v _ => v = .bl true) : WalkOM q loose XP YP l.row.toRowW d [] (fun f vs => PySem.call f vs) := by
  intro w s0 s1 mg mb G Y fa o pm cd doc dV kV ho hd hcd hD hmg hgens args vals as hpre hlay hrd hwl hlo
  obtain rfl : dV = .none := PySem.W.Dflts.none hD hdf
  obtain rfl : kV = .none := PySem.W.Dflts.noKw hD
  obtain ⟨a, vs, ns, rfl, rfl, hobj, hints, hlen⟩ := Att.script_of hn hpre hwl
  have KX := hY w _ Y
  obtain ⟨fd, bind, FF⟩ := F w mg fa _ KX G.T.g hmg
  generalize K w.params = K at KX FF
  let so : Obj := { cls := .type "list", data := .seq vs.toArray }
  let H : Hp := Hscr K a so (ns.map V.int)
  have rel : Vals (ns.map V.int) vs := vals_ints hints
  have small : (ns.map V.int).length ≤ sizeLine := by
    rw [List.length_map]
    exact Nat.le_trans hlen hn2
  have ok : HOk l.prog w H s1.heap := by
    intro b u hb
    obtain ⟨rfl, _, rfl⟩ := Hscr_some hb
    exact ⟨hobj, small, vs, _, rel, hobj⟩
  have shown : SqL K H a (ns.map V.int) := by
    cases hk : K.lookup a with
    | none => exact Or.inl (Or.inr ⟨so, if_pos ⟨rfl, hk⟩⟩)
    | some ob =>
      have hob := KX a ob hk
      rw [hobj] at hob
      cases hob
      refine Or.inr ⟨_, vs.toArray, _, hk, rfl, rfl, rfl, ?_, by simpa using rel⟩
      rw [List.size_toArray, hints.length]
      exact Nat.le_trans hlen hn2
  have notscr : ∀ {b : Addr} {ob : Obj}, s1.heap.get? b = some ob → (∀ z m, ob.data ≠ .seq z m) → H b = none := by
    intro b ob hb hne
    refine Hscr_none ?_
    rintro ⟨rfl, _⟩
    rw [hobj] at hb
    cases hb
    exact hne _ _ rfl
  have ns' : ∀ {b : Addr} {m : Str → Option Value}, s1.heap.Ns b m → (hidT s1.heap H).Ns b m := by
    rintro b m ⟨ob, es, ep, h1, h2, h3⟩
    exact ⟨ob, es, ep, hidT_get h1 (notscr h1 (fun z m e => by rw [h2] at e; cases e)), h2, h3⟩
  have kin : K.In (hidT s1.heap H) := by
    intro b ob hb
    refine hidT_get (KX b ob hb) (Hscr_none ?_)
    rintro ⟨rfl, hk⟩
    rw [hb] at hk
    cases hk
  obtain ⟨mc, l1, l2⟩ := G.T.nolimit
  have md : Mod K mg (hidT s1.heap H) := ⟨kin, ns' G.T.g, ⟨mb, ns' G.T.b, G.T.builtins⟩, ⟨mc, ns' l1, l2⟩⟩
  have env : Env0 l.prog w K mg (hidT s1.heap H) callerA [] (nog s1) H :=
    { frames := rfl, mod := md, bs := fun _ _ e => of_hidT e, bsz := Nat.le_of_eq (hidT_size _ _), funs := trivial, frf := fun b hb => (List.not_mem_nil hb).elim, hok := ok, bare := .empty }
  have F0 := FF _ kin (ns' G.T.g)
  refine tl_call (TC.mono (F0.run callerA [] s1 H ⟨[.ref a], []⟩ [.ref a] [.ref a] H (fun _ => none) [.scr ns] _ rfl hr env (bind _ (.ref a)) (.cons rfl .nil) ⟨fun _ _ e => e, (fun _ _ e => nomatch e), (fun _ _ e => nomatch e)⟩ (.one (.scr shown)) (hS ns hlen)) ?_)
  rintro r s' ⟨u, v, H', F', μ', dv, more, rfl, rv, hos, un, ok', _, _, hv, hq, lo, hp⟩
  subst hq
  cases hv
  cases rv
  refine ⟨⟨.inl ⟨.bool true, .bool true, [], rfl, fun _ => rfl, .bool true, Att.post_true l _, fun _ => ⟨List.Pairwise.nil, fun _ hm => (nomatch hm)⟩⟩, OldK.of_keep ?_, hos, .empty⟩, clean_of lo hgens fun p h => (hp p h).1⟩
  intro b ob hb
  by_cases hc : H b = none
  · exact un.keep b ob hb hc (fun z => (List.not_mem_nil z).elim) (fun z => (List.not_mem_nil z).elim)
  · obtain ⟨u, hu⟩ := Option.ne_none_iff_exists'.mp hc
    obtain ⟨rfl, _, rfl⟩ := Hscr_some hu
    obtain ⟨e2, _⟩ := ok' _ _ (un.frzs _ _ _ hu)
    rw [hobj] at hb
    cases hb
    exact e2
end DL

namespace DL
open PySem PySem.Spec PyProof.Rows L2 GW2 GenW YM
/-- statements that leave no loud sleeper of their own -/
structure M0Ss (X : Cx) (st : List Stmt) (t : TS) : Prop where
  run : ∀ (pins : List (Addr × Obj)) (s : Shared) (σ : L2.St) (H : Hp) (D : Ends), Inv X pins σ H (nog s) → t D σ H → TL X.prog X.w X.A (execs st X.env) (fun f s' => SP X pins D f (nog s') ∧ Lo [] s s') noE s
theorem M0Ss.of {X : Cx} {st : List Stmt} {t : TS} (hxe : X.xe = fun _ _ => False) (h : PSs X st t) : M0Ss X st t := ⟨fun pins s σ H D I q => tl_q hxe (h.run pins _ σ H D (inv_dull I) q) fun _ _ _ S z => ⟨(sp_nog z).1, .ofDim S.1 (sp_nog z).2 S.2⟩⟩
theorem Lo.accC {s s' : Shared} (h : Lo [] s s') (ch : List (Nat × GenState)) : Acc s ch s' ch where
  new := fun i hi => by
    obtain ⟨k, l, c, p, fs, e⟩ := hi
    by_cases hc : ∃ x ∈ ch, x.1 = i
    · exact .inr hc
    · refine .inl ⟨?_, fun x hx e => hc ⟨x, hx, e⟩⟩
      rcases h.new i k l c p fs e with q | q
      · exact q
      · obtain ⟨_, a, xs, kw, o, _, z, _⟩ := q k l c p fs rfl
        cases z
  old := fun i y e q _ => h.old i y e q
  fr := fun x hx => .inr ⟨x, hx, rfl⟩
  size := h.size
section
variable {X : Cx} {pins : List (Addr × Obj)} {σ' : L2.St} {F F' H H' : Hp} {s s' : Shared} {gi1 : Nat} {A1 : Around} {inv1 : Sto → Prop} {L1 a1 : Addr} {rest : List D} {gs1 : GenState} {go1 : Obj} {pv1 : List (Addr × Obj)} {gv1 : List (Nat × GenState)}
/-- while the generator sleeps, other pieces run -/
theorem Inr.move (N : Inr X.prog X.w (wpX X L1) gi1 A1 inv1 a1 rest F H s gs1 go1 pv1 gv1) (I : Inv X (pins ++ ((a1, go1) :: pv1)) σ' H' (nog s')) (lo : Lo [] s s') (hg : isS gs1 = true) (hF : FLe F F') : Inr X.prog X.w (wpX X L1) gi1 A1 inv1 a1 rest F' H' s' gs1 go1 pv1 gv1 where
  G := N.G
  pins := show PinsOk _ _ H' (nog s') from of_pins (s := nog s) I N.pins
  ne := N.ne
  gens := fun y hy => let ⟨a, b, c⟩ := N.gens y hy; ⟨lo.old _ _ a b, b, c⟩
  size := Nat.lt_of_lt_of_le N.size lo.size
  here := lo.old _ _ N.here hg
  che := N.che
  cho := N.cho
  wake := fun go' F2 μ2 H2 s2 G St hF2 => N.wake go' F2 μ2 H2 s2 G St (hF.trans hF2)
/-- the walk is left: what sleeps loudly sleeps over what is pinned -/
theorem Inr.left {s0 : Shared} (N : Inr X.prog X.w (wpX X L1) gi1 A1 inv1 a1 rest F H s gs1 go1 pv1 gv1) (ac : Acc s0 [] s ((gi1, gs1) :: gv1)) (hz : s0.heap.objs.size ≤ s.heap.objs.size) (hf : ∀ p ∈ pv1, s0.heap.objs.size ≤ p.1) : Lo pv1 s0 s where
  new := fun i k l c p fs e => by
    rcases ac.new i ⟨k, l, c, p, fs, e⟩ with q | ⟨y, hy, q⟩
    · exact .inl q.1
    · right
      rcases List.mem_cons.mp hy with hy | hy
      · rw [hy] at q
        have := N.here
        rw [show gi1 = i from q, e] at this
        rw [Option.some.inj this]
        exact N.che
      · have := (N.gens y hy).1
        rw [q, e] at this
        rw [Option.some.inj this]
        exact N.cho y hy
  old := fun i y e q => ac.old i y e q fun x hx => by cases hx
  size := ac.size
  fr := hf
  hsz := hz
end
/-- a generator as what a for walks -/
@[simp] def dGenM (S : DSpW) (t : TAD) : TSrc := fun ρ μ Q => t ρ μ fun ds μ1 => S ds μ1 fun items inv => Q items inv μ1
theorem mds_forM {X : Cx} {B : Bs} {k : Nat} {x : Str} {S : DSpW} {e : Expr} {es : List Expr} {t : TAD} {tg : Expr} {ns : List Nat} {g : TGD} {body : List Stmt} {tb : TSD} {p pos pos' : Pos} (hxe : X.xe = fun _ _ => False) (hca : X.calm = true) (c : CalM X.prog X.w X.K X.mg X.base k x S) (room : Room (k + 1) X.A) (hg : Gl X x) (ha : DA X (e :: es) t)
    (hgt : DG X B tg ns g) (hb : M0Ss X body (liftS X.K X.mg B tb)) (hdb : (x == ("__debug__" : Str)) = false := by decide)
    (he : starEach (e :: es) X.env = (false, eval e X.env) :: starEach es X.env := by rfl) (hpl : (backTo pos' (starEach es X.env)).any (·.1) = false := by rfl)
    (hs : ∀ y, foldedSetIterable (.Call (.Name x p) (e :: es) [] pos') X.env y = pure y := by intro _; rfl) : MDSt X B (.For tg (.Call (.Name x p) (e :: es) [] pos') body [] pos) (dFor (dGenM S t) g tb) := by
  refine ⟨fun pins s σ H D I h => ?_⟩
  obtain ⟨F, ρ, μ, Dd, R, hd, kn, kb, kc, kr⟩ := h
  rw [exec_For]
  refine .bind (.standAt (.bind ((tl_gen (n := s.gens.size) (Qd := fun items inv μ1 => forD g tb Dd inv items ρ μ1) hxe c (room.mono (by omega)) hg ha I R.rel rfl hd hdb he hpl).mono (fun u s1 hm => ?_) fun _ _ x => x)))
  obtain ⟨H1, F1, μ1, items, inv, L1, a1, gi1, c1, go1, oL1, q, rfl, I1, e1, o1, ol, hLa, _, hsl, lo1, hgi, hL0, N⟩ := hm
  refine .bind (.eq (hs _) (.pure ?_))
  have N0 := N X.A.in1 (room.in1 (k := k)) I1.ok.frames
  have hgen : s1.heap.IsGen a1 gi1 := by
    obtain ⟨nm, qn, hdd⟩ := N0.G.dat
    exact ⟨go1, nm, qn, (N0.pins _ List.mem_cons_self).1, N0.G.cls, hdd, hsl⟩
  refine .bind (.standAt (.bind (.holding (.of (wpAny_pyIter_gen hgen ?_)))))
  unfold runOwn
  have hac : Acc s [] s1 [(gi1, .fresh c1)] := lo1.acc.more hgi
  have loop := tc_forLoop (P := X.prog) (w := X.w) (A := X.A) (tg := tg) (it := .ref a1) (body := body) (env := X.env) (R := fun r s' => match r with | .ok f => MQ pins s (fun pn t => SP X pn D f t) s' | .error _ => False)
    (fun n s' => ∃ rest F3 ρ3 μ3 σ3 H3 gs go pv gv, n = rest.length ∧ Inv X pins σ3 H3 (nog s') ∧ RelB X.K X.mg B F3 ρ3 μ3 σ3 H3 ∧ FLe F F3 ∧ forD g tb Dd inv rest ρ3 μ3 ∧ Inr X.prog X.w (wpX X L1) gi1 X.A.in1 inv a1 rest F3 H3 s' gs go pv gv ∧ Acc s [] s' ((gi1, gs) :: gv) ∧ s.heap.objs.size ≤ s'.heap.objs.size)
    ?_ items.length s1 ⟨items, F1, ρ, μ1, σ, H1, _, _, _, _, rfl, I1, R.step e1 o1, e1.mono, q, N0, hac, lo1.hsz⟩
  · refine .onRaise (.run (loop.mono fun r s' h => ?_))
    cases r with
    | ok f => exact h
    | error e => exact h.elim
  have hd' : X.A.depth < recursionLimit := by have := room.dp; omega
  show ∀ n s', _ → TL X.prog X.w X.A _ _ _ s'
  rintro n s3 ⟨rest, F3, ρ3, μ3, σ3, H3, gs, go, pv, gv, hn, I3, R3, hF3, q3, N3, ac3, hz3⟩
  have hinv : inv μ3 := by cases rest <;> exact q3.1
  cases rest with
  | nil =>
    refine (tl_grow (tl_turn (Q := fun r s4 => r = none ∧ ∃ F4 H4, Inv X pins σ3 H4 (nog s4) ∧ RelB X.K X.mg B F4 ρ3 μ3 σ3 H4 ∧ FLe F3 F4 ∧ Acc s3 ((gi1, gs) :: gv) s4 []) (E := noE) (I3.ok.hd hca) hd' ol I3 R3.rel.ok hinv hLa N3 fun s4 F4 H4 I4 e4 o4 ac4 => ⟨rfl, F4, H4, I4, R3.step e4 o4, e4.mono, ac4⟩)).mono (fun r s4 hz => ?_) fun _ _ x => x
    obtain ⟨⟨rfl, F4, H4, I4, R4, hF4, ac4⟩, g4⟩ := hz
    exact ⟨[], ⟨σ3, H4, by rw [List.append_nil]; exact I4, kn F4 ρ3 μ3 σ3 H4 (hF3.trans hF4) R4 q3.2⟩, .ofAcc (ac3.trans ac4) (Nat.le_trans hz3 g4)⟩
  | cons x rest =>
    refine (tl_grow (tl_turn (Q := fun r s4 => ∃ v, r = some v ∧ ∃ F4 H4 xv gs' go' pv' gv', RelV xv v ∧ Dt X.K X.mg F4 xv x ∧ Inv X pins σ3 H4 (nog s4) ∧ RelB X.K X.mg B F4 ρ3 μ3 σ3 H4 ∧ FLe F3 F4 ∧ Inr X.prog X.w (wpX X L1) gi1 X.A.in1 inv a1 rest F4 H4 s4 gs' go' pv' gv' ∧ Acc s3 ((gi1, gs) :: gv) s4 ((gi1, gs') :: gv') ∧ isS gs' = true) (E := noE) (I3.ok.hd hca) hd' ol I3 R3.rel.ok hinv hLa N3
      fun v s4 F4 H4 xv gs' go' pv' gv' rv wv I4 e4 o4 N4 ac4 iS => ⟨v, rfl, F4, H4, xv, gs', go', pv', gv', rv, wv, I4, R3.step e4 o4, e4.mono, N4, ac4, iS⟩)).mono (fun r s4 hz => ?_) fun _ _ x => x
    obtain ⟨⟨v, rfl, F4, H4, xv, gs', go', pv', gv', rv, wv, I4, R4, hF4, N4, ac4, iS⟩, g4⟩ := hz
    obtain ⟨nm, qn, hdg⟩ := N4.G.dat
    refine .of (go_of (N4.pins _ List.mem_cons_self).1 N4.G.cls hdg (by decide) ?_)
    have I4' : Inv X (pins ++ ((a1, go') :: pv')) σ3 H4 (nog s4) := pins_inv (g := wpX X L1) (s := nog s4) I4 ol N4.pins
    refine tl_q (Q' := fun _ s5 => TL X.prog X.w X.A (execs body X.env) _ noE s5) hxe (hgt.run _ (Shared.dull s4) σ3 H4 xv v (fun σ' H' => H' = H4 ∧ ∃ ρ', RelB X.K X.mg B F4 ρ' μ3 σ' H4 ∧ tb { Dd with nx := forD g tb Dd inv rest, ct := forD g tb Dd inv rest, bk := Dd.nx } ρ' μ3) (inv_dull I4') rv
      ⟨F4, ρ3, μ3, _, _, R4, wv, q3.2, fun ρ' σ' R' _ _ h => ⟨rfl, ρ', R', h⟩⟩) fun _ s5 gb5 S5 hz => ?_
    obtain ⟨σ5, H5, J5, e5, ρ5, R5, q5⟩ := hz
    subst e5
    have lo5 : Lo [] s4 s5 := .ofDim S5.1 J5.bare S5.2
    refine (hb.run _ s5 σ5 H5 { nx := fun σ' H' => ∃ F' ρ' μ', FLe F4 F' ∧ RelB X.K X.mg B F' ρ' μ' σ' H' ∧ forD g tb Dd inv rest ρ' μ', ct := fun σ' H' => ∃ F' ρ' μ', FLe F4 F' ∧ RelB X.K X.mg B F' ρ' μ' σ' H' ∧ forD g tb Dd inv rest ρ' μ', bk := fun σ' H' => (∃ F', FLe F4 F') ∧ D.nx σ' H', rt := D.rt } (inv_nog J5)
      ⟨F4, ρ5, μ3, _, R5, q5, fun F' ρ' μ' σ' H' hF R' q => ⟨F', ρ', μ', hF, R', q⟩, fun F' ρ' μ' σ' H' hF R' q => ⟨⟨F', hF⟩, kn F' ρ' μ' σ' H' ((hF3.trans hF4).trans hF) R' q⟩, fun F' ρ' μ' σ' H' hF R' q => ⟨F', ρ', μ', hF, R', q⟩, kr⟩).mono (fun fl s6 hz => ?_) fun _ _ x => x
    obtain ⟨hsp, lo6⟩ := hz
    have lo46 : Lo [] s4 s6 := lo5.trans lo6
    have ac6 : Acc s [] s6 ((gi1, gs') :: gv') := (ac3.trans ac4).trans (lo46.accC _)
    have hz6 : s.heap.objs.size ≤ s6.heap.objs.size := Nat.le_trans (Nat.le_trans hz3 g4) lo46.hsz
    have sub : ∀ {σ7 : L2.St} {H7 : Hp}, Inv X (pins ++ ((a1, go') :: pv')) σ7 H7 (nog s6) → Inv X pins σ7 H7 (nog s6) := fun I7 => inv_sub I7 fun p hp => List.mem_append_left _ hp
    have sub2 : ∀ {σ7 : L2.St} {H7 : Hp}, Inv X (pins ++ ((a1, go') :: pv')) σ7 H7 (nog s6) → Inv X (pins ++ pv') σ7 H7 (nog s6) := fun I7 => inv_sub I7 fun p hp => by
      rcases List.mem_append.mp hp with hp | hp
      · exact List.mem_append_left _ hp
      · exact List.mem_append_right _ (List.mem_cons_of_mem _ hp)
    have left : ∀ {σ7 : L2.St} {H7 : Hp}, Inv X (pins ++ ((a1, go') :: pv')) σ7 H7 (nog s6) → Lo pv' s s6 := fun I7 =>
      (N4.move (F' := F4) I7 lo46 iS .rfl').left ac6 hz6 fun p hp => Nat.le_trans hL0 (N4.pins p (List.mem_cons_of_mem _ hp)).2.2.1
    have again : ∀ {σ7 : L2.St} {H7 : Hp}, Inv X (pins ++ ((a1, go') :: pv')) σ7 H7 (nog s6) → (∃ F' ρ' μ', FLe F4 F' ∧ RelB X.K X.mg B F' ρ' μ' σ7 H7 ∧ forD g tb Dd inv rest ρ' μ') → ∃ m, m < n ∧ ∃ rest F3 ρ3 μ3 σ3 H3 gs go pv gv, m = rest.length ∧ Inv X pins σ3 H3 (nog s6) ∧ RelB X.K X.mg B F3 ρ3 μ3 σ3 H3 ∧ FLe F F3 ∧ forD g tb Dd inv rest ρ3 μ3 ∧ Inr X.prog X.w (wpX X L1) gi1 X.A.in1 inv a1 rest F3 H3 s6 gs go pv gv ∧ Acc s [] s6 ((gi1, gs) :: gv) ∧ s.heap.objs.size ≤ s6.heap.objs.size := fun {σ7 H7} I7 q7 => by
      obtain ⟨F7, ρ7, μ7, hF7, R7, q7⟩ := q7
      exact ⟨rest.length, by rw [hn, List.length_cons]; omega, rest, F7, ρ7, μ7, σ7, H7, gs', go', pv', gv', rfl, sub I7, R7, (hF3.trans hF4).trans hF7, q7, N4.move I7 lo46 iS hF7, ac6, hz6⟩
    cases fl with
    | next => obtain ⟨σ7, H7, I7, n7⟩ := hsp; exact again I7 n7
    | cont => obtain ⟨σ7, H7, I7, n7⟩ := hsp; exact again I7 n7
    | brk => obtain ⟨σ7, H7, I7, _, q7⟩ := hsp; exact ⟨pv', ⟨σ7, H7, sub2 I7, q7⟩, left I7⟩
    | ret v => obtain ⟨x7, σ7, H7, I7, r7, q7⟩ := hsp; exact ⟨pv', ⟨x7, σ7, H7, sub2 I7, r7, q7⟩, left I7⟩
end DL

namespace DL
open PySem PySem.Spec PyProof.Rows L2 GW2 GenW YM
/-- the def x of the module keeps the promise S -/
structure CalF (P : Program) (w : World) (K : PySem.W.Frag) (mg : Str → Option Value) (base : Heap) (k : Nat) (x : Str) (S : DSpM) : Prop where
  ex : ∃ f fd ps, mg x = some (.ref f) ∧ PySem.W.keepIn K (.ref f) = true ∧ FnM P w K mg base k f fd ps S ∧ Binds K fd ps []
theorem CalF.of {P : Program} {w : World} {K : PySem.W.Frag} {mg : Str → Option Value} {base : Heap} {k : Nat} {x : Str} {S : DSpM} {f : Addr} {fd : FuncData} {ps : List Str} (F : FnM P w K mg base k f fd ps S) (hx : mg x = some (.ref f)) (hk : PySem.W.keepIn K (.ref f) = true) (hb : Binds K fd ps []) : CalF P w K mg base k x S := ⟨f, fd, ps, hx, hk, F, hb⟩
theorem tl_callWithK {P : Program} {w : World} {A : Around} {E : Value → Shared → Prop} {s : Shared} {K : PySem.W.Frag} {pos : Pos} {f : Value} {x : Sem Value} {rest : List (Bool × Sem Value)} {Q : Value → Shared → Prop} (hk : PySem.W.keepIn K f = true) (hp : ((false, x) :: rest).any (·.1) = false)
    (h : TL P w A (spliced ((false, x) :: rest)) (fun vs s1 => K.In s1.heap ∧ TL P w A (call f vs) Q E s1) E s) : TL P w A (callWith pos f [] ((false, x) :: rest) []) Q E s := by
  unfold callWith
  refine .bind (.holding ?_)
  unfold evalArgs
  show TL P w A (spliced ((false, x) :: rest) >>= _) _ E s
  refine .bind (h.mono (fun vs s1 h1 => ?_) fun _ _ x => x)
  refine .holding ?_
  refine .bind (.pure (.bind (.pure (.pure (.bind (.standAt ?_))))))
  obtain ⟨k, hk', L⟩ := PySem.W.keeps_K (M := model P w) hk _ h1.1
  simp only [hp, List.any_nil, Bool.or_false]
  refine .bind (.of (L.here ?_))
  have tail : ∀ {t : Sem Value}, TL P w A t Q E s1 → TL P w A (t >>= fun r => holding [r] point >>= fun _ => pure r) Q E s1 :=
    fun ht => .bind (ht.mono (fun r s2 hr => .bind (.holding (.of (wpAny_point (TL.pure hr))))) fun _ _ x => x)
  have marked : ∀ mk : Value, TL P w A (callMarked mk f ([] ++ vs) []) Q E s1 := fun mk => by unfold callMarked; exact .keep h1.2
  rcases hk' with rfl | rfl | rfl <;> dsimp only <;> first | exact tail h1.2 | (split <;> first | exact tail h1.2 | exact tail (marked _))
/-- f(e, ..) -/
@[simp] def dCallM (S : DSpM) (t : TAD) : TED := fun ρ μ Q => t ρ μ fun ds μ1 => S ds μ1 Q
theorem mde_call {X : Cx} {k : Nat} {x : Str} {S : DSpM} {e : Expr} {es : List Expr} {t : TAD} {p pos : Pos} (hxe : X.xe = fun _ _ => False) (c : CalF X.prog X.w X.K X.mg X.base k x S) (quiet : Quiet X.A) (room : Room k X.A) (hg : Gl X x) (ha : DA X (e :: es) t) (hdb : (x == ("__debug__" : Str)) = false := by decide)
    (he : starEach (e :: es) X.env = (false, eval e X.env) :: starEach es X.env := by rfl) (hpl : (backTo pos (starEach es X.env)).any (·.1) = false := by rfl) : MDE X (.Call (.Name x p) (e :: es) [] pos) (dCallM S t) := by
  obtain ⟨f, fd, ps, hm, hk, F, hb⟩ := c.ex
  refine ⟨fun pins s σ H Q I h => ?_⟩
  obtain ⟨F0, ρ, μ, Qd, R, hq, kk⟩ := h
  rw [arm_eval_Call_Name']
  refine .bind (tl_q (Q := fun u s1 => u = .ref f ∧ Inv X pins σ H s1) hxe (ld_glob (inv_dull I) hg hm ⟨rfl, inv_dull I⟩ hdb) fun u s1 gb S0 ⟨hu, I0⟩ => ?_)
  subst hu
  have lo0 : Lo [] s s1 := .ofDim S0.1 I0.bare S0.2
  have args := ha.run pos pins (Shared.dull s1) σ H (fun vs H1 => ∃ F1 μ1 ds, Ext F0 μ H F1 μ1 H1 ∧ Ok X.K X.mg F1 μ1 H1 ∧ Dts X.K X.mg F1 vs ds ∧ S ds μ1 Qd) (inv_dull (inv_nog I0)) ⟨F0, ρ, μ, _, R, hq, fun vs F1 μ1 H1 ds e1 o1 w1 q1 => ⟨F1, μ1, ds, e1, o1, w1, q1⟩⟩
  rw [he] at args ⊢
  refine tl_callWithK hk (by show (false || (backTo pos (starEach es X.env)).any (·.1)) = false; rw [hpl]; rfl) (tl_q hxe args fun us s2 gb S2 hz => ?_)
  obtain ⟨vs, H1, I1, r, F1, μ1, ds, e1, o1, w1, q1⟩ := hz
  have I2 := inv_nog I1
  have lo2 : Lo [] s1 s2 := .ofDim S2.1 I1.bare S2.2
  refine ⟨I2.kIn, ?_⟩
  have hlen : (us ++ [] : List Value).length = ps.length := by
    rw [List.append_nil, ← r.length, w1.length]; exact F.len _ _ _ q1
  have bind : BindsTo (Shared.dull s2) fd ⟨us, []⟩ (ps.zip us) := by
    have b := hb (Shared.dull s2) us I2.kIn hlen
    rw [List.append_nil] at b
    exact b
  refine tl_call (TC.mono (F.run X.A X.stack s2 H1 ⟨us, []⟩ us vs F1 μ1 ds Qd quiet room I2.env0 bind r o1 w1 q1) ?_)
  rintro r' s' ⟨u, v, H', F', μ', dv, more, rfl, rv, hos, un, ok', e3, o3, wv, hq', lo, hp⟩
  have I3 : Inv X pins σ H' (nog s') := I2.call' (s' := nog s') (ch := []) hos un ok' .empty fun b zz => by simp at zz
  have I4 : Inv X (pins ++ more) σ H' (nog s') := I3.pins_of fun p hp' => by
    rcases List.mem_append.mp hp' with hp' | hp'
    · exact I3.pin p (List.mem_append_right _ hp')
    · obtain ⟨h1, h2, h3⟩ := hp p hp'
      have hf := lo.fr p hp'
      refine ⟨h1, h2, fun z => ?_, I2.nofs hf, h3⟩
      have := I2.lt
      rw [z] at hf
      exact absurd this (Nat.not_lt.mpr hf)
  exact MQ.after0 lo0 (MQ.after0 lo2 ⟨more, ⟨v, H', I4, rv, kk v F' μ' H' dv (e1.trans e3) o3 wv hq'⟩, lo⟩)
end DL

namespace DL
open PySem PySem.Spec PyProof.Rows L2
/-- the place behind the last one -/
def nxt (q : List Nat) : Nat := match q.getLast? with
  | some x => x + 1
  | none => 0
@[simp] theorem nxt_nil : nxt [] = 0 := rfl
@[simp] theorem nxt_snoc (q : List Nat) (x : Nat) : nxt (q ++ [x]) = x + 1 := by simp [nxt]
/-- the picks with k places -/
def lev (one other : List Nat) : Nat → List (List Nat)
  | 0 => [[]]
  | k + 1 => ((lev one other k).filter fun q => decide (q.length < other.length)).flatMap fun q => (spots one (nxt q) (other.getD q.length 0)).map fun s => q ++ [s]
def fnd (one other : List Nat) (k : Nat) : List (List Nat) := (List.range k).flatMap (lev one other)
theorem fnd_succ (one other : List Nat) (k : Nat) : fnd one other (k + 1) = fnd one other k ++ lev one other k := by
  unfold fnd
  rw [List.range_succ, List.flatMap_append]
  simp
theorem spots_mem {one : List Nat} {b c k : Nat} (h1 : b ≤ k) (h2 : k < one.length) (h3 : one.getD k 0 = c) : k ∈ spots one b c := by
  unfold spots
  rw [List.mem_filter, List.mem_map]
  exact ⟨⟨k - b, by simp; omega, by omega⟩, by rw [h3]; simp⟩
theorem spots_len (one : List Nat) (b c : Nat) : (spots one b c).length ≤ one.length := by
  unfold spots
  refine Nat.le_trans (List.length_filter_le _ _) ?_
  simp
theorem take_snoc {other : List Nat} {k : Nat} (h : k < other.length) : other.take (k + 1) = other.take k ++ [other.getD k 0] := by
  rw [List.take_succ, List.getElem?_eq_getElem h, List.getD_eq_getElem?_getD, List.getElem?_eq_getElem h]; rfl
theorem lev_ok {one other : List Nat} : ∀ {k : Nat} {q : List Nat}, q ∈ lev one other k → q.length = k ∧ k ≤ other.length ∧ PrePk one (other.take k) q (nxt q)
  | 0, q, h => by
    have : q = [] := by simpa [lev] using h
    subst this
    exact ⟨rfl, Nat.zero_le _, PrePk.nil one⟩
  | k + 1, q, h => by
    unfold lev at h
    obtain ⟨p, hp, hq⟩ := List.mem_flatMap.mp h
    obtain ⟨hp1, hp2⟩ := List.mem_filter.mp hp
    obtain ⟨s, hs, rfl⟩ := List.mem_map.mp hq
    obtain ⟨e1, e2, e3⟩ := lev_ok hp1
    have hlt : k < other.length := by rw [← e1]; simpa using hp2
    rw [e1] at hs
    refine ⟨by simp [e1], hlt, ?_⟩
    rw [take_snoc hlt, nxt_snoc]
    exact e3.snoc hs
theorem lev_pk {one other : List Nat} {k : Nat} {q : List Nat} (h : q ∈ lev one other k) : PkOk one other q := by
  obtain ⟨_, _, e3⟩ := lev_ok h
  have := e3.ok (r := other.drop k)
  rwa [List.take_append_drop] at this
theorem pk_lev {one other q : List Nat} (h : PkOk one other q) : ∀ {k : Nat}, k ≤ q.length → q.take k ∈ lev one other k
  | 0, _ => by simp [lev]
  | k + 1, hk => by
    obtain ⟨h1, h2, h3, h4⟩ := id h
    have ih := pk_lev h (k := k) (by omega)
    have hk' : k < q.length := hk
    have e : q.take (k + 1) = q.take k ++ [q[k]] := by rw [List.take_succ, List.getElem?_eq_getElem hk']; rfl
    have hl : (q.take k).length = k := by rw [List.length_take]; omega
    unfold lev
    refine List.mem_flatMap.mpr ⟨q.take k, List.mem_filter.mpr ⟨ih, by rw [hl]; simp; omega⟩, List.mem_map.mpr ⟨q[k], ?_, e.symm⟩⟩
    rw [hl]
    refine spots_mem ?_ (h2 _ (List.getElem_mem hk')) (h4 k _ (List.getElem?_eq_getElem hk'))
    cases k with
    | zero => simp
    | succ j =>
      have e2 : q.take (j + 1) = q.take j ++ [q[j]] := by rw [List.take_succ, List.getElem?_eq_getElem (by omega)]; rfl
      rw [e2, nxt_snoc]
      exact List.pairwise_iff_getElem.mp h1 j (j + 1) (by omega) hk' (by omega)
theorem flat_len {α β : Type} {f : α → List β} {m : Nat} : ∀ (l : List α), (∀ x ∈ l, (f x).length ≤ m) → (l.flatMap f).length ≤ l.length * m
  | [], _ => by simp
  | x :: l, h => by
    have h1 := h x (by simp)
    have h2 := flat_len l fun y hy => h y (by simp [hy])
    rw [List.flatMap_cons, List.length_append, List.length_cons, Nat.add_mul]
    omega
theorem lev_len (one other : List Nat) : ∀ k, (lev one other k).length ≤ one.length ^ k
  | 0 => by simp [lev]
  | k + 1 => by
    have ih := lev_len one other k
    unfold lev
    refine Nat.le_trans (flat_len (m := one.length) _ fun q _ => by rw [List.length_map]; exact spots_len _ _ _) ?_
    rw [Nat.pow_succ]
    exact Nat.mul_le_mul_right _ (Nat.le_trans (List.length_filter_le _ _) ih)
theorem fnd_mem {one other : List Nat} {k : Nat} {q : List Nat} (h : q ∈ fnd one other k) : PkOk one other q := by
  obtain ⟨j, _, hj⟩ := List.mem_flatMap.mp h
  exact lev_pk hj
theorem mem_fnd {one other : List Nat} {k : Nat} {q : List Nat} (he : lev one other k = []) (h : PkOk one other q) : q ∈ fnd one other (k + 1) := by
  have hlt : q.length < k := by
    apply Decidable.byContradiction
    intro hge
    have := pk_lev h (k := k) (by omega)
    rw [he] at this
    cases this
  refine List.mem_flatMap.mpr ⟨q.length, by simp; omega, ?_⟩
  have := pk_lev h (k := q.length) (Nat.le_refl _)
  rwa [List.take_length] at this
/-- all picks, in some order -/
def Every (one other : List Nat) (L : List (List Nat)) : Prop := ∃ k, k ≤ other.length + 1 ∧ lev one other k = [] ∧ L.Perm (fnd one other (k + 1))
theorem Every.pk {one other : List Nat} {L : List (List Nat)} (h : Every one other L) : ∀ q, q ∈ L ↔ PkOk one other q := fun q => by
  obtain ⟨k, _, he, hp⟩ := h
  rw [hp.mem_iff]
  exact ⟨fnd_mem, mem_fnd he⟩
end DL

namespace DL
open PySem PySem.Spec PyProof.Rows L2
/-- the picks that begin with q and go on from b on -/
def pkb (one other : List Nat) : Nat → List Nat → Nat → List (List Nat)
  | 0, _, _ => []
  | n + 1, q, b => q :: (if q.length < other.length then (spots one b (other.getD q.length 0)).flatMap fun s => pkb one other n (q ++ [s]) (s + 1) else [])
def spm_picks_behind (n : Nat) : DSpW := fun ds μ Q => ∃ (one other q : List Nat) (b : Nat), ds = [.str one, .str other, tupD q, .int b] ∧ one.length - b < n ∧ b ≤ one.length ∧ one.length ≤ 60 ∧ other.length ≤ 60 ∧ q.length ≤ 60 ∧ Q ((pkb one other n q b).map tupD) (fun _ => True)
def bw_picks_behind (S : DSpW) : TWD :=
  (wSeq (wYield (dVar 2))
  (wIf (dB (dOp rdLt (dFn rdLen (dCons (dLook 2) dNil)) (dFn rdLen (dCons (dLook 1) dNil))))
  (wFor (dRng2 (dCons (dVar 3) (dCons (dFn rdLen (dCons (dLook 0) dNil)) dNil))) (dName 4)
  (wIf (dB (dOp rdEq (dOp rdIx (dLook 0) (dLook 4)) (dOp rdIx (dLook 1) (dFn rdLen (dCons (dLook 2) dNil)))))
  (wFrom S (dCons (dVar 0) (dCons (dVar 1) (dCons (dTup (dStar (dLook 2) (dCons (dVar 4) dNil))) (dCons (dOp rdAdd (dLook 4) (dC (.int 1))) dNil)))))
  wNext))
  wNext))
theorem lenm_picks_behind (n : Nat) : ∀ ds μ Q, spm_picks_behind n ds μ Q → ds.length = 4 := by
  rintro ds μ Q ⟨one, other, q, b, rfl, _⟩; rfl
theorem spm0_picks_behind : ∀ ds μ Q, ¬ spm_picks_behind 0 ds μ Q := by
  rintro ds μ Q ⟨one, other, q, b, rfl, h, _⟩; exact absurd h (Nat.not_lt_zero _)
theorem rngD_cons (b k : Nat) : rngD (b : Nat) (k + 1) = .int (b : Nat) :: rngD ((b + 1 : Nat) : Int) k := by
  unfold rngD
  rw [List.range_succ_eq_map, List.map_cons, List.map_map]
  congr 1
  simp
  intro a _
  omega
theorem okm_picks_behind (n : Nat) : ∀ ds μ Q, spm_picks_behind (n + 1) ds μ Q → ∃ items inv, Q items inv ∧ ∀ μ2, inv μ2 → bw_picks_behind (spm_picks_behind n) { nx := fun r _ _ => r = [], inv := inv } items (startD 5 ds) μ2 := by
  rintro ds μ Q ⟨one, other, q, b, rfl, hb, hbl, h1, h2, h3, hq⟩
  refine ⟨_, _, hq, fun μ2 _ => ?_⟩
  unfold bw_picks_behind
  simp [-forW, -List.getD_eq_getElem?_getD, pkb, noOwn]
  intro μ2
  refine ⟨by omega, ?_⟩
  split
  case isFalse h => intro h'; exact absurd h' h
  case isTrue hlt =>
  refine ⟨by omega, by unfold rngOk; omega, by unfold rngOk; omega, ?_⟩
  have eg : other.getD q.length 0 = other[q.length] := by rw [List.getD_eq_getElem?_getD, List.getElem?_eq_getElem hlt]; rfl
  rw [eg]
  have key : ∀ (m c : Nat) (x4 : Option DS) (μ2 : Sto), c + m = one.length → b ≤ c → x4 = none ∨ (∃ d, x4 = some (.val d)) →
      forW (dName 4) (wIf (dB (dOp rdEq (dOp rdIx (dLook 0) (dLook 4)) (dOp rdIx (dLook 1) (dFn rdLen (dCons (dLook 2) dNil)))))
        (wFrom (spm_picks_behind n) (dCons (dVar 0) (dCons (dVar 1) (dCons (dTup (dStar (dLook 2) (dCons (dVar 4) dNil))) (dCons (dOp rdAdd (dLook 4) (dC (D.int 1))) dNil))))) wNext)
        { nx := fun r x x_1 => r = [], inv := fun x => True } still (rngD (c : Nat) m) (((spots one c other[q.length]).flatMap fun s => pkb one other n (q ++ [s]) (s + 1)).map tupD)
        [some (DS.val (D.str one)), some (DS.val (D.str other)), some (DS.val (tupD q)), some (DS.val (D.int b)), x4] μ2 := by
    intro m
    induction m with
    | zero =>
      intro c x4 μ2 hc _ _
      rw [spots_end _ (by omega)]
      exact ⟨trivial, rfl⟩
    | succ m ih =>
      intro c x4 μ2 hc hbc _
      have hlt1 : c < one.length := by omega
      rw [rngD_cons]
      refine ⟨trivial, ?_⟩
      simp [-forW, -List.getD_eq_getElem?_getD, noOwn]
      refine ⟨by omega, one[c], by rw [atI_nat, List.getElem?_eq_getElem hlt1], by omega, other[q.length], by rw [atI_nat, List.getElem?_eq_getElem hlt], ?_⟩
      rw [spots_step _ hlt1]
      by_cases e : one[c] = other[q.length]
      · rw [if_pos e, if_pos (by rw [e])]
        have go : ∀ μ2, _ := fun μ2 => ih (c + 1) (some (.val (.int (c : Nat)))) μ2 (by omega) (by omega) (.inr ⟨_, rfl⟩)
        refine ⟨by omega, one, other, q ++ [c], c + 1, by simp [tupD, nats], by omega, by omega, h1, h2, by rw [List.length_append, List.length_singleton]; omega, trivial, fun _ => trivial, _, by rw [List.flatMap_cons, List.map_append], go μ2, go⟩
      · rw [if_neg e, if_neg (by intro z; exact e z)]
        exact ih (c + 1) _ μ2 (by omega) (by omega) (.inr ⟨_, rfl⟩)
  exact key (one.length - b) b none μ2 (by omega) (Nat.le_refl _) (.inl rfl)
theorem pkb_fuel (one other : List Nat) : ∀ (n m : Nat) (q : List Nat) (b : Nat), one.length - b < n → one.length - b < m → pkb one other n q b = pkb one other m q b
  | 0, _, _, _, h, _ => absurd h (Nat.not_lt_zero _)
  | _ + 1, 0, _, _, _, h => absurd h (Nat.not_lt_zero _)
  | n + 1, m + 1, q, b, h1, h2 => by
    unfold pkb
    congr 1
    split
    · rw [List.flatMap_def, List.flatMap_def]
      congr 1
      refine List.map_congr_left fun s hs => ?_
      obtain ⟨a1, a2, _⟩ := mem_spots hs
      exact pkb_fuel one other n m _ _ (by omega) (by omega)
    · rfl
/-- all picks, in ascending order -/
def picksA (one other : List Nat) : List (List Nat) := pkb one other (one.length + 1) [] 0
def bw_each_pickN (N : Nat) : TWD :=
  (wFrom (spm_picks_behind N) (dCons (dVar 0) (dCons (dVar 1) (dCons (dTup dNil) (dCons (dC (.int 0)) dNil)))))
def spm_each_pickN (N : Nat) : DSpW := fun ds μ Q => ∃ one other : List Nat, ds = [.str one, .str other] ∧ one.length < N ∧ one.length ≤ 60 ∧ other.length ≤ 60 ∧ Q ((picksA one other).map tupD) (fun _ => True)
theorem lenm_each_pickN (N : Nat) : ∀ ds μ Q, spm_each_pickN N ds μ Q → ds.length = 2 := by
  rintro ds μ Q ⟨one, other, rfl, _⟩; rfl
theorem okm_each_pickN (N : Nat) : ∀ ds μ Q, spm_each_pickN N ds μ Q → ∃ items inv, Q items inv ∧ ∀ μ2, inv μ2 → bw_each_pickN N { nx := fun r _ _ => r = [], inv := inv } items (startD 2 ds) μ2 := by
  rintro ds μ Q ⟨one, other, rfl, hN, h1, h2, hq⟩
  refine ⟨_, _, hq, fun μ2 _ => ?_⟩
  unfold bw_each_pickN
  simp [noOwn]
  refine ⟨one, other, [], 0, rfl, by omega, by omega, h1, h2, by simp, trivial, fun _ => trivial, ?_⟩
  unfold picksA
  rw [pkb_fuel one other N (one.length + 1) [] 0 (by omega) (by omega)]
end DL

namespace DL
open PySem PySem.Spec PyProof.Rows L2
end DL

namespace DL
open PySem PySem.Spec PyProof.Rows L2
section
variable {n m : Nat} {ws ps : List (List Nat)} {μ : Sto} {Q : DK} {E : DXK}
end
end DL

namespace DL
open PySem PySem.Spec PyProof.Rows L2
theorem PkOk.isPick {one other q : List Nat} (h : PkOk one other q) : isPick one other q = true := by
  obtain ⟨h1, h2, h3, h4⟩ := h
  refine (isPick_iff _ _ _).mpr ⟨h2, h1, h3, ?_⟩
  refine List.ext_getElem? fun i => ?_
  rw [List.getElem?_map]
  by_cases hi : i < q.length
  · rw [List.getElem?_take_of_lt hi, List.getElem?_eq_getElem hi]
    have := h4 i q[i] (List.getElem?_eq_getElem hi)
    rw [Option.map_some, this, List.getD_eq_getElem?_getD, List.getElem?_eq_getElem (by omega)]; rfl
  · rw [List.getElem?_eq_none (by omega), List.getElem?_eq_none (by simp; omega)]; rfl
theorem subAt (one : List Nat) : ∀ (l : List Nat) (b : Nat), (∀ p ∈ l, b ≤ p ∧ p < one.length) → l.Pairwise (· < ·) → (l.map fun p => one.getD p 0).Sublist (one.drop b)
  | [], b, _, _ => by simp
  | x :: l, b, h, hp => by
    obtain ⟨h1, h2⟩ := h x (by simp)
    have ih := subAt one l (x + 1) (fun p hp2 => ⟨List.rel_of_pairwise_cons hp hp2, (h p (by simp [hp2])).2⟩) hp.of_cons
    have h3 : (one.drop x).Sublist (one.drop b) := by
      rw [show x = b + (x - b) by omega, ← List.drop_drop]; exact List.drop_sublist _ _
    refine List.Sublist.trans ?_ h3
    rw [List.drop_eq_getElem_cons h2]
    have e : one.getD x 0 = one[x] := by rw [List.getD_eq_getElem?_getD, List.getElem?_eq_getElem h2]; rfl
    simp only [List.map_cons, e]
    exact List.Sublist.cons₂ _ ih
theorem PkOk.le {one other q : List Nat} (h : PkOk one other q) : q.length ≤ (fp one other 0).length := by
  obtain ⟨h1, h2, h3, h4⟩ := (isPick_iff _ _ _).mp h.isPick
  refine (fp_iff one other _ h3).mpr ?_
  rw [← h4]
  simpa using subAt one q 0 (fun p hp => ⟨Nat.zero_le _, h1 p hp⟩) h2
theorem PksG.le : ∀ {ws ps : List (List Nat)}, PksG ws ps → lens ps ≤ lens (pcks ws)
  | [], _, h => h.elim
  | [_], [], _ => Nat.le_refl _
  | [_], _ :: _, h => h.elim
  | _ :: _ :: _, [], h => h.elim
  | w :: v :: ws, q :: ps, h => by
    have h1 := h.1.le
    have h2 := PksG.le (ws := v :: ws) (ps := ps) h.2
    have e : ∀ (a : List Nat) (l : List (List Nat)), lens (a :: l) = a.length + lens l := fun a l => by simp [lens]
    show lens (q :: ps) ≤ lens (fp w v 0 :: pcks (v :: ws))
    rw [e, e]
    omega
/-- is each pick one of the sheet before it? -/
def arePks (ws ps : List (List Nat)) : Bool := ((prs ws).zip ps).all fun z => isPick z.1.1 z.1.2 z.2
theorem PksG.are : ∀ {ws ps : List (List Nat)}, PksG ws ps → arePks ws ps = true
  | [], _, h => h.elim
  | [_], [], _ => rfl
  | [_], _ :: _, h => h.elim
  | _ :: _ :: _, [], h => h.elim
  | w :: v :: ws, q :: ps, h => by
    have h2 := PksG.are (ws := v :: ws) (ps := ps) h.2
    unfold arePks at h2 ⊢
    rw [prs_cons, List.zip_cons_cons, List.all_cons, h2, h.1.isPick]; rfl
/-- a drawn history is the one of its sheets and picks -/
theorem Deed.of {n g : Nat} {h : List HI} (hd : Deed n g h) (h0 : 0 < n) : ∃ ws ps, Shts n g ws ∧ ws.length = n ∧ PksG ws ps ∧ h = hisOf ws ps := by
  obtain ⟨a, b, c⟩ := hd.sheets h0 (s := h.foldl stp (st0 n)) rfl
  exact ⟨_, _, a, fold_len h _ (by simp), b, c.symm⟩
section
variable {n m : Nat} {ws ps : List (List Nat)} {μ : Sto} {Q : DK} {E : DXK}
end
end DL

namespace DL
open PySem PySem.Spec PyProof.Rows L2
theorem allA_pre {one other : List Nat} : ∀ {p : Nat}, p ≤ one.length → ∀ {q : List Nat}, q ∈ allA one other p → q.length ≤ other.length ∧ PrePk one (other.take q.length) q p
  | 0, _, q, h => by
    have : q = [] := by simpa [allA] using h
    subst this
    exact ⟨Nat.zero_le _, PrePk.nil one⟩
  | p + 1, hp, q, h => by
    rw [allA, List.mem_append] at h
    rcases h with h | h
    · obtain ⟨h0, h1, h2, h3, h4, h5⟩ := allA_pre (by omega) h
      exact ⟨h0, h1, fun x hx => by have := h2 x hx; omega, hp, h4, h5⟩
    · obtain ⟨r, hr, rfl⟩ := List.mem_map.mp h
      obtain ⟨hr1, hr2⟩ := List.mem_filter.mp hr
      obtain ⟨h0, h1⟩ := allA_pre (by omega) hr1
      have hk := of_decide_eq_true hr2
      have hlt : r.length < other.length := (List.getElem?_eq_some_iff.mp hk).1
      have hg : one.getD p 0 = other.getD r.length 0 := by rw [List.getD_eq_getElem?_getD (l := other), hk]; rfl
      have hs : p ∈ spots one p (other.getD r.length 0) := by
        unfold spots
        rw [List.mem_filter, List.mem_map]
        exact ⟨⟨0, by simp; omega, by omega⟩, by rw [hg]; simp⟩
      have := h1.snoc hs
      have et : other.take (r.length + 1) = other.take r.length ++ [other.getD r.length 0] := by
        rw [List.take_succ, List.getElem?_eq_getElem hlt, List.getD_eq_getElem?_getD, List.getElem?_eq_getElem hlt]; rfl
      rw [← et] at this
      exact ⟨by simp; omega, by rw [List.length_append]; exact this⟩
theorem allA_pk {one other q : List Nat} (h : q ∈ allA one other one.length) : PkOk one other q := by
  have := (allA_pre (Nat.le_refl _) h).2.ok (r := other.drop q.length)
  rwa [List.take_append_drop] at this
theorem pk_allA {one other : List Nat} : ∀ {p : Nat}, p ≤ one.length → ∀ {q : List Nat}, PkOk one other q → (∀ x ∈ q, x < p) → q ∈ allA one other p
  | 0, _, q, _, h => by
    cases q with
    | nil => simp [allA]
    | cons x q => have := h x (by simp); omega
  | p + 1, hp, q, hq, h => by
    rw [allA, List.mem_append]
    by_cases hm : ∀ x ∈ q, x < p
    · exact .inl (pk_allA (by omega) hq hm)
    · right
      obtain ⟨h1, h2, h3, h4⟩ := hq
      rcases List.eq_nil_or_concat q with rfl | ⟨r, y, rfl⟩
      · simp at hm
      · rw [List.concat_eq_append] at *
        rw [List.pairwise_append] at h1
        obtain ⟨p1, p2, p3⟩ := h1
        have hy : y = p := by
          have hyp := h y (by simp)
          apply Decidable.byContradiction
          intro hne
          refine hm fun x hx => ?_
          rcases List.mem_append.mp hx with hx | hx
          · have := p3 x hx y (by simp); omega
          · have : x = y := by simpa using hx
            omega
        subst hy
        have hrl : r.length < other.length := by simp at h3; omega
        refine List.mem_map.mpr ⟨r, List.mem_filter.mpr ⟨pk_allA (by omega) ⟨p1, fun x hx => h2 x (by simp [hx]), by omega, fun i x hx => h4 i x (by rw [List.getElem?_append_left (List.getElem?_eq_some_iff.mp hx).1]; exact hx)⟩ fun x hx => p3 x hx y (by simp), ?_⟩, rfl⟩
        have := h4 r.length y (by simp)
        rw [List.getD_eq_getElem?_getD (l := other), List.getElem?_eq_getElem hrl] at this
        rw [List.getElem?_eq_getElem hrl, this]
        simp
theorem allA_mem {one other q : List Nat} : q ∈ allA one other one.length ↔ PkOk one other q := ⟨allA_pk, fun h => pk_allA (Nat.le_refl _) h h.2.1⟩
/-- places from b on for the letters r -/
def Fr (one : List Nat) : Nat → List Nat → List Nat → Prop
  | _, _, [] => True
  | _, [], _ :: _ => False
  | b, c :: r, x :: q => b ≤ x ∧ x < one.length ∧ one.getD x 0 = c ∧ Fr one (x + 1) r q
theorem PkOk.fr {one other q : List Nat} (h : PkOk one other q) : Fr one 0 other q := by
  obtain ⟨h1, h2, h3, h4⟩ := h
  have key : ∀ (q r : List Nat) (b : Nat), q.Pairwise (· < ·) → (∀ x ∈ q, b ≤ x ∧ x < one.length) → q.length ≤ r.length → (∀ i x, q[i]? = some x → one.getD x 0 = r.getD i 0) → Fr one b r q := by
    intro q
    induction q with
    | nil => intro r b _ _ _ _; cases r <;> trivial
    | cons x q ih =>
      intro r b hp hb hl hg
      cases r with
      | nil => simp at hl
      | cons c r =>
        rw [List.pairwise_cons] at hp
        refine ⟨(hb x (by simp)).1, (hb x (by simp)).2, ?_, ih r (x + 1) hp.2 (fun y hy => ⟨hp.1 y hy, (hb y (by simp [hy])).2⟩) (by simpa using hl) fun i y hy => ?_⟩
        · have := hg 0 x rfl
          simpa using this
        · have := hg (i + 1) y (by simpa using hy)
          simpa using this
  exact key q other 0 h1 (fun x hx => ⟨Nat.zero_le _, h2 x hx⟩) h3 h4
end DL

namespace DL
open PySem PySem.Spec PyProof.Rows L2
theorem lx_tot : ∀ a b : List Int, HT.lexLt a b = false → HT.lexLt b a = false → a = b
  | [], [], _, _ => rfl
  | [], _ :: _, h, _ => by cases h
  | _ :: _, [], _, h => by cases h
  | x :: xs, y :: ys, h1, h2 => by
    rw [HT.lexLt_cons] at h1 h2
    by_cases e : x = y
    · subst e
      rw [if_pos rfl] at h1 h2
      rw [lx_tot xs ys h1 h2]
    · rw [if_neg e] at h1
      rw [if_neg (Ne.symm e)] at h2
      simp at h1 h2
      omega
theorem intL_inj : ∀ {a b : List Nat}, intL a = intL b → a = b
  | [], [], _ => rfl
  | [], _ :: _, h => by cases h
  | _ :: _, [], h => by cases h
  | x :: a, y :: b, h => by
    have h : (x : Int) :: intL a = (y : Int) :: intL b := h
    injection h with h1 h2
    rw [intL_inj h2, Int.ofNat.inj h1]
theorem lx_irr : ∀ a : List Int, HT.lexLt a a = false
  | [] => rfl
  | x :: a => by rw [HT.lexLt_cons, if_pos rfl]; exact lx_irr a
theorem lx_pre : ∀ (q : List Nat) (x : Nat) (r : List Nat), HT.lexLt (intL q) (intL (q ++ x :: r)) = true
  | [], _, _ => rfl
  | y :: q, x, r => by
    show HT.lexLt ((y : Int) :: intL q) ((y : Int) :: intL (q ++ x :: r)) = true
    rw [HT.lexLt_cons, if_pos rfl]; exact lx_pre q x r
theorem lx_br {s t : Nat} (h : s < t) : ∀ (q a b : List Nat), HT.lexLt (intL (q ++ s :: a)) (intL (q ++ t :: b)) = true
  | [], a, b => by
    show HT.lexLt ((s : Int) :: intL a) ((t : Int) :: intL b) = true
    rw [HT.lexLt_cons, if_neg (by omega)]; simp; omega
  | y :: q, a, b => by
    show HT.lexLt ((y : Int) :: intL (q ++ s :: a)) ((y : Int) :: intL (q ++ t :: b)) = true
    rw [HT.lexLt_cons, if_pos rfl]; exact lx_br h q a b
theorem spots_asc (one : List Nat) (b c : Nat) : (spots one b c).Pairwise (· < ·) := by
  unfold spots
  refine List.Pairwise.filter _ ?_
  rw [List.pairwise_map]
  exact List.pairwise_lt_range.imp fun h => by omega
theorem pkb_pre (one other : List Nat) : ∀ (n : Nat) (q : List Nat) (b : Nat), ∀ p ∈ pkb one other n q b, ∃ r, p = q ++ r
  | 0, _, _, p, h => by cases h
  | n + 1, q, b, p, h => by
    unfold pkb at h
    rcases List.mem_cons.mp h with h | h
    · exact ⟨[], by rw [h, List.append_nil]⟩
    · split at h
      · obtain ⟨s, _, hp⟩ := List.mem_flatMap.mp h
        obtain ⟨r, e⟩ := pkb_pre one other n _ _ p hp
        exact ⟨s :: r, by rw [e, List.append_assoc]; rfl⟩
      · cases h
theorem pkb_asc (one other : List Nat) : ∀ (n : Nat) (q : List Nat) (b : Nat), (pkb one other n q b).Pairwise fun p p' => HT.lexLt (intL p) (intL p') = true
  | 0, _, _ => .nil
  | n + 1, q, b => by
    unfold pkb
    rw [List.pairwise_cons]
    split
    · refine ⟨fun p hp => ?_, ?_⟩
      · obtain ⟨s, _, hp⟩ := List.mem_flatMap.mp hp
        obtain ⟨r, e⟩ := pkb_pre one other n _ _ p hp
        rw [e, List.append_assoc]
        exact lx_pre q s r
      · rw [List.pairwise_flatMap]
        refine ⟨fun s _ => pkb_asc one other n _ _, (spots_asc one b _).imp fun {s t} h x hx y hy => ?_⟩
        obtain ⟨r, e⟩ := pkb_pre one other n _ _ x hx
        obtain ⟨r', e'⟩ := pkb_pre one other n _ _ y hy
        rw [e, e', List.append_assoc, List.append_assoc]
        exact lx_br h q r r'
    · exact ⟨fun p hp => by (cases hp), .nil⟩
theorem pkb_ok (one other : List Nat) : ∀ (n : Nat) (q : List Nat) (b : Nat), PrePk one (other.take q.length) q b → q.length ≤ other.length → ∀ p ∈ pkb one other n q b, PkOk one other p
  | 0, _, _, _, _, p, h => by cases h
  | n + 1, q, b, hq, hl, p, h => by
    unfold pkb at h
    rcases List.mem_cons.mp h with h | h
    · have := hq.ok (r := other.drop q.length)
      rw [List.take_append_drop] at this
      rw [h]; exact this
    · split at h
      · rename_i hlt
        obtain ⟨s, hs, hp⟩ := List.mem_flatMap.mp h
        have := hq.snoc hs
        have et : other.take (q.length + 1) = other.take q.length ++ [other.getD q.length 0] := by
          rw [List.take_succ, List.getElem?_eq_getElem hlt, List.getD_eq_getElem?_getD, List.getElem?_eq_getElem hlt]; rfl
        rw [← et] at this
        exact pkb_ok one other n _ _ (by rw [List.length_append]; exact this) (by rw [List.length_append, List.length_singleton]; omega) p hp
      · cases h
theorem pkb_has (one other : List Nat) : ∀ (r : List Nat) (n : Nat) (q : List Nat) (b : Nat), Fr one b (other.drop q.length) r → one.length - b < n → q ++ r ∈ pkb one other n q b
  | [], 0, _, _, _, h => absurd h (Nat.not_lt_zero _)
  | [], n + 1, q, b, _, _ => by rw [List.append_nil]; unfold pkb; exact List.mem_cons_self
  | _ :: _, 0, _, _, _, h => absurd h (Nat.not_lt_zero _)
  | x :: r, n + 1, q, b, hf, hn => by
    cases ho : other.drop q.length with
    | nil => rw [ho] at hf; exact hf.elim
    | cons c rest =>
      rw [ho] at hf
      obtain ⟨f1, f2, f3, f4⟩ := hf
      have hlt : q.length < other.length := by
        apply Decidable.byContradiction
        intro h
        rw [List.drop_eq_nil_of_le (by omega)] at ho
        cases ho
      rw [List.drop_eq_getElem_cons hlt] at ho
      injection ho with h1 h2
      have eg : other.getD q.length 0 = c := by rw [List.getD_eq_getElem?_getD, List.getElem?_eq_getElem hlt]; exact h1
      unfold pkb
      rw [if_pos hlt, eg]
      refine List.mem_cons_of_mem _ (List.mem_flatMap.mpr ⟨x, ?_, ?_⟩)
      · unfold spots
        rw [List.mem_filter, List.mem_map]
        exact ⟨⟨x - b, by simp; omega, by omega⟩, by rw [f3]; simp⟩
      · have := pkb_has one other r n (q ++ [x]) (x + 1) (by rw [List.length_append, List.length_singleton, h2]; exact f4) (by omega)
        rwa [List.append_assoc] at this
theorem picksA_iff {one other p : List Nat} : p ∈ picksA one other ↔ PkOk one other p :=
  ⟨fun h => pkb_ok one other _ [] 0 (PrePk.nil one) (Nat.zero_le _) p h, fun h => pkb_has one other p (one.length + 1) [] 0 h.fr (by omega)⟩
theorem picksA_asc (one other : List Nat) : (picksA one other).Pairwise fun p p' => HT.lexLt (intL p) (intL p') = true := pkb_asc one other _ _ _
theorem picksA_nodup (one other : List Nat) : (picksA one other).Nodup := (picksA_asc one other).imp fun {a b} h e => by
  subst e
  rw [lx_irr] at h
  cases h
theorem allA_nodup (one other : List Nat) : ∀ p, (allA one other p).Nodup
  | 0 => by simp [allA]
  | p + 1 => by
    rw [allA, List.nodup_append]
    refine ⟨allA_nodup one other p, ?_, fun a ha b hb e => ?_⟩
    · refine List.pairwise_map.mpr (((allA_nodup one other p).filter _).imp fun {a b} h e => h ?_)
      exact List.append_cancel_right e
    · obtain ⟨r, _, rfl⟩ := List.mem_map.mp hb
      have := (allA_small one other p a ha).2 p (by rw [e]; simp)
      omega
theorem nd_ext {α : Type} [DecidableEq α] : ∀ (l l' : List α), l.Nodup → l'.Nodup → (∀ x, x ∈ l ↔ x ∈ l') → l.Perm l'
  | [], l', _, _, h => by
    cases l' with
    | nil => exact .refl _
    | cons a l' => have := (h a).mpr List.mem_cons_self; cases this
  | a :: l, l', nd, nd', h => by
    have ha := (h a).mp List.mem_cons_self
    have nd := List.nodup_cons.mp nd
    refine (List.Perm.cons a (nd_ext l (l'.erase a) nd.2 (nd'.erase a) fun x => ?_)).trans (List.perm_cons_erase ha).symm
    rw [nd'.mem_erase_iff, ← h x, List.mem_cons]
    constructor
    · intro hx
      exact ⟨fun e => nd.1 (e ▸ hx), .inr hx⟩
    · rintro ⟨h1, h2⟩
      exact h2.resolve_left h1
theorem sorted_picks {one other : List Nat} {L : List (List Nat)} (hp : L.Perm (allA one other one.length)) (hs : L.Pairwise fun p q => HT.lexLt (intL q) (intL p) = false) : L = picksA one other := by
  refine List.Perm.eq_of_pairwise (le := fun p q => HT.lexLt (intL q) (intL p) = false) (fun a b _ _ h1 h2 => intL_inj (lx_tot _ _ h2 h1)) hs ((picksA_asc one other).imp fun {a b} h => NtL.lex_asym _ _ h) (hp.trans ?_)
  exact nd_ext _ _ (allA_nodup one other _) (picksA_nodup one other) fun x => by rw [allA_mem, picksA_iff]
theorem sum_filt (P : List Nat → Bool) (p : Nat) : ∀ l : List (List Nat), (((l.filter P).map fun q => q ++ [p]).map List.length).sum ≤ (l.map List.length).sum + l.length
  | [] => by simp
  | q :: l => by
    have ih := sum_filt P p l
    rw [List.filter_cons]
    split
    · rw [List.map_cons, List.map_cons, List.sum_cons, List.map_cons, List.sum_cons, List.length_append, List.length_singleton, List.length_cons]; omega
    · rw [List.map_cons, List.sum_cons, List.length_cons]; omega
theorem allA_sum (one other : List Nat) : ∀ p, 2 * ((allA one other p).map List.length).sum ≤ p * 2 ^ p
  | 0 => by simp [allA]
  | p + 1 => by
    have ih := allA_sum one other p
    have hl := allA_len one other p
    have h := sum_filt (fun q : List Nat => decide (other[q.length]? = some (one.getD p 0))) p (allA one other p)
    rw [allA, List.map_append, List.sum_append, Nat.pow_succ, Nat.add_mul, Nat.one_mul, ← Nat.mul_assoc]
    omega
theorem picksA_perm (one other : List Nat) : (allA one other one.length).Perm (picksA one other) := nd_ext _ _ (allA_nodup one other _) (picksA_nodup one other) fun x => by rw [allA_mem, picksA_iff]
theorem wSs_tups : ∀ L : List (List Nat), D.wSs (L.map tupD) = 61 * (L.map List.length).sum + L.length
  | [] => rfl
  | q :: L => by
    have h1 : ∀ q : List Nat, D.wSs (nats q) = 61 * q.length := by
      intro q
      induction q with
      | nil => rfl
      | cons x q ih =>
        show (60 + 1) + D.wSs (nats q) = 61 * (q.length + 1)
        rw [ih]; omega
    show D.wSs (nats q) + 1 + D.wSs (L.map tupD) = _
    rw [h1, wSs_tups L, List.map_cons, List.sum_cons, List.length_cons]; omega
end DL

namespace DL
open PySem PySem.Spec PyProof.Rows L2
theorem fnd_341 {one other : List Nat} (h1 : one.length ≤ 4) (h2 : other.length ≤ 4) : ∀ {k : Nat}, k ≤ 6 → (fnd one other k).length ≤ 341 := by
  have b : ∀ j c, 4 ^ j ≤ c → (lev one other j).length ≤ c := fun j c hc => Nat.le_trans (lev_len one other j) (Nat.le_trans (Nat.pow_le_pow_left h1 j) hc)
  have l0 := b 0 1 (by decide)
  have l1 := b 1 4 (by decide)
  have l2 := b 2 16 (by decide)
  have l3 := b 3 64 (by decide)
  have l4 := b 4 256 (by decide)
  have l5 : (lev one other 5).length = 0 := by
    cases h : lev one other 5 with
    | nil => rfl
    | cons q r =>
      have := (lev_ok (one := one) (other := other) (k := 5) (q := q) (by rw [h]; simp)).2.1
      omega
  have f0 : (fnd one other 0).length = 0 := rfl
  have f1 : (fnd one other 1).length = (fnd one other 0).length + (lev one other 0).length := by rw [fnd_succ, List.length_append]
  have f2 : (fnd one other 2).length = (fnd one other 1).length + (lev one other 1).length := by rw [fnd_succ, List.length_append]
  have f3 : (fnd one other 3).length = (fnd one other 2).length + (lev one other 2).length := by rw [fnd_succ, List.length_append]
  have f4 : (fnd one other 4).length = (fnd one other 3).length + (lev one other 3).length := by rw [fnd_succ, List.length_append]
  have f5 : (fnd one other 5).length = (fnd one other 4).length + (lev one other 4).length := by rw [fnd_succ, List.length_append]
  have f6 : (fnd one other 6).length = (fnd one other 5).length + (lev one other 5).length := by rw [fnd_succ, List.length_append]
  intro k hk
  have : k = 0 ∨ k = 1 ∨ k = 2 ∨ k = 3 ∨ k = 4 ∨ k = 5 ∨ k = 6 := by omega
  rcases this with rfl | rfl | rfl | rfl | rfl | rfl | rfl <;> omega
theorem Every.len {one other : List Nat} {L : List (List Nat)} (h : Every one other L) (h1 : one.length ≤ 4) (h2 : other.length ≤ 4) : L.length ≤ 341 := by
  obtain ⟨k, hk, _, hp⟩ := h
  rw [hp.length_eq]
  exact fnd_341 h1 h2 (by omega)
/-- each choice with one item more -/
def ext2 (F : List (List (List Nat))) (L : List (List Nat)) : List (List (List Nat)) := F.flatMap fun b => L.map fun p => b ++ [p]
def chs (Ls : List (List (List Nat))) : List (List (List Nat)) := Ls.foldl ext2 [[]]
theorem ext2_len (F : List (List (List Nat))) (L : List (List Nat)) : (ext2 F L).length = F.length * L.length := by
  unfold ext2
  induction F with
  | nil => simp
  | cons b F ih => rw [List.flatMap_cons, List.length_append, ih, List.length_map, List.length_cons, Nat.add_mul]; omega
theorem foldl_mem : ∀ (Ls : List (List (List Nat))) (F : List (List (List Nat))) (ps : List (List Nat)), ps ∈ Ls.foldl ext2 F ↔ ∃ b ∈ F, ∃ r, ps = b ++ r ∧ r.length = Ls.length ∧ ∀ z ∈ Ls.zip r, z.2 ∈ z.1
  | [], F, ps => by
    rw [List.foldl_nil]
    constructor
    · intro h; exact ⟨ps, h, [], by simp, rfl, by simp⟩
    · rintro ⟨b, hb, r, rfl, hr, _⟩
      have : r = [] := List.length_eq_zero_iff.mp hr
      subst this
      simpa using hb
  | L :: Ls, F, ps => by
    rw [List.foldl_cons, foldl_mem Ls]
    constructor
    · rintro ⟨b, hb, r, rfl, hr, hz⟩
      obtain ⟨b', hb', hq⟩ := List.mem_flatMap.mp hb
      obtain ⟨p, hp, rfl⟩ := List.mem_map.mp hq
      refine ⟨b', hb', p :: r, by simp, by simp [hr], fun z hz' => ?_⟩
      rw [List.zip_cons_cons] at hz'
      rcases List.mem_cons.mp hz' with rfl | hz'
      · exact hp
      · exact hz z hz'
    · rintro ⟨b, hb, r, rfl, hr, hz⟩
      cases r with
      | nil => simp at hr
      | cons p r =>
        refine ⟨b ++ [p], List.mem_flatMap.mpr ⟨b, hb, List.mem_map.mpr ⟨p, hz (L, p) (by rw [List.zip_cons_cons]; simp), rfl⟩⟩, r, by simp, by simpa using hr, fun z hz' => hz z (by rw [List.zip_cons_cons]; exact List.mem_cons_of_mem _ hz')⟩
/-- for each pair of sheets a list of all its picks -/
def EvL (ws : List (List Nat)) (Ls : List (List (List Nat))) : Prop := Ls.length = (prs ws).length ∧ ∀ z ∈ (prs ws).zip Ls, Every z.1.1 z.1.2 z.2 ∧ z.2.Pairwise (fun p q => HT.lexLt (intL q) (intL p) = false)
theorem PksG.zip : ∀ {ws ps : List (List Nat)}, PksG ws ps → ∀ z ∈ (prs ws).zip ps, PkOk z.1.1 z.1.2 z.2
  | [], _, h => h.elim
  | [_], [], _ => by simp [prs]
  | [_], _ :: _, h => h.elim
  | _ :: _ :: _, [], h => h.elim
  | w :: v :: ws, q :: ps, h => fun z hz => by
    rw [prs_cons, List.zip_cons_cons] at hz
    rcases List.mem_cons.mp hz with rfl | hz
    · exact h.1
    · exact PksG.zip (ws := v :: ws) (ps := ps) h.2 z hz
theorem zip3 : ∀ {α β γ : Type} (P : List α) (Ls : List β) (r : List γ) {R : α → β → Prop} {S : β → γ → Prop}, Ls.length = P.length → (∀ z ∈ P.zip Ls, R z.1 z.2) → (∀ z ∈ Ls.zip r, S z.1 z.2) → ∀ z ∈ P.zip r, ∃ L, R z.1 L ∧ S L z.2
  | _, _, _, [], _, _, _, _, _, _, _ => by simp
  | _, _, _, _ :: _, [], _, _, _, h, _, _ => by simp at h
  | _, _, _, _ :: _, _ :: _, [], _, _, _, _, _ => by simp
  | _, _, _, a :: P, L :: Ls, c :: r, R, S, h, h1, h2 => fun z hz => by
    rw [List.zip_cons_cons] at hz
    rcases List.mem_cons.mp hz with rfl | hz
    · exact ⟨L, h1 (a, L) (by simp), h2 (L, c) (by simp)⟩
    · exact zip3 P Ls r (by simpa using h) (fun z hz => h1 z (by rw [List.zip_cons_cons]; exact List.mem_cons_of_mem _ hz)) (fun z hz => h2 z (by rw [List.zip_cons_cons]; exact List.mem_cons_of_mem _ hz)) z hz
/-- the choices are all picks of the sheets -/
theorem EvL.mem {ws : List (List Nat)} {Ls : List (List (List Nat))} (h : EvL ws Ls) (h0 : 0 < ws.length) (ps : List (List Nat)) : ps ∈ chs Ls ↔ PksG ws ps := by
  have pl := prs_len ws
  unfold chs
  rw [foldl_mem]
  constructor
  · rintro ⟨b, hb, r, rfl, hr, hz⟩
    have : b = [] := by simpa using hb
    subst this
    rw [List.nil_append]
    refine PksG_of ws r (by rw [hr, h.1]; omega) fun z hz' => ?_
    obtain ⟨L, h1, h2⟩ := zip3 (prs ws) Ls r (R := fun p L => Every p.1 p.2 L) (S := fun L q => q ∈ L) h.1 (fun z hz => (h.2 z hz).1) (fun z hz2 => hz z hz2) z hz'
    exact (h1.pk _).mp h2
  · intro hG
    refine ⟨[], by simp, ps, rfl, by rw [h.1]; have := hG.len; omega, fun z hz' => ?_⟩
    have hz1 := hG.zip
    have sw : ∀ {α β : Type} (a : List α) (b : List β) (z : α × β), z ∈ a.zip b → (z.2, z.1) ∈ b.zip a := fun a b z hz => by
      obtain ⟨i, hi⟩ := List.getElem?_of_mem hz
      rw [List.getElem?_zip_eq_some] at hi
      exact List.mem_of_getElem? (i := i) (List.getElem?_zip_eq_some.mpr ⟨hi.2, hi.1⟩)
    obtain ⟨p, h1, h2⟩ := zip3 Ls (prs ws) ps (R := fun L p => Every p.1 p.2 L) (S := fun p q => PkOk p.1 p.2 q) h.1.symm (fun z hz => (h.2 (z.2, z.1) (sw _ _ z hz)).1) (fun z hz2 => hz1 z hz2) z hz'
    exact (h1.pk _).mpr h2
theorem foldl_len : ∀ (Ls : List (List (List Nat))) (F : List (List (List Nat))), (∀ L ∈ Ls, L.length ≤ 341) → (Ls.foldl ext2 F).length ≤ F.length * 341 ^ Ls.length
  | [], F, _ => by simp
  | L :: Ls, F, h => by
    rw [List.foldl_cons]
    refine Nat.le_trans (foldl_len Ls _ fun M hM => h M (by simp [hM])) ?_
    rw [ext2_len, List.length_cons, Nat.pow_succ, Nat.mul_assoc, Nat.mul_comm (341 ^ Ls.length)]
    exact Nat.mul_le_mul_left _ (Nat.mul_le_mul_right _ (h L (by simp)))
theorem EvL.len {ws : List (List Nat)} {Ls : List (List (List Nat))} (h : EvL ws Ls) (h1 : ws.length ≤ 3) (h2 : ∀ w ∈ ws, w.length ≤ 4) : (chs Ls).length ≤ 116281 := by
  have pl := prs_len ws
  have hL := h.1
  have := foldl_len Ls [[]] fun L hLm => by
    obtain ⟨i, hi⟩ := List.getElem?_of_mem hLm
    have hil := (List.getElem?_eq_some_iff.mp hi).1
    have hp : (prs ws)[i]? = some (prs ws)[i] := List.getElem?_eq_getElem (by omega)
    have hz := h.2 _ (List.mem_of_getElem? (List.getElem?_zip_eq_some.mpr (show (prs ws)[i]? = some ((prs ws)[i], L).1 ∧ Ls[i]? = some ((prs ws)[i], L).2 from ⟨hp, hi⟩)))
    obtain ⟨m1, m2⟩ := prs_mem (List.mem_of_getElem? hp)
    exact hz.1.len (h2 _ m1) (h2 _ m2)
  rw [List.length_singleton, Nat.one_mul] at this
  exact Nat.le_trans this (Nat.le_trans (Nat.pow_le_pow_right (by decide) (show Ls.length ≤ 2 by omega)) (by decide))
end DL

namespace DL
open PySem PySem.Spec PyProof.Rows L2 GW2 GenW YM
/-- as MPE, no new pins -/
structure M0PE (X : Cx) (e : Expr) (t : TE) : Prop where
  run : ∀ (pins : List (Addr × Obj)) (s : Shared) (σ : L2.St) (H : Hp) (Q : VK), Inv X pins σ H (nog s) → t σ H Q → TL X.prog X.w X.A (eval e X.env) (fun u s' => EP X pins σ Q u (nog s') ∧ Lo [] s s') noE s
section
variable {X : Cx} {e : Expr} {t t' : TE}
theorem M0PE.of (hxe : X.xe = fun _ _ => False) (h : PE X e t) : M0PE X e t := ⟨fun pins s σ H Q I q => tl_q hxe (h.run pins _ σ H Q (inv_dull I) q) fun _ _ _ S z => ⟨(ep_nog z).1, .ofDim S.1 (ep_nog z).2 S.2⟩⟩
theorem M0PE.weaken (h : M0PE X e t) (w : ∀ σ H Q, t' σ H Q → t σ H Q) : M0PE X e t' := ⟨fun pins s σ H Q I q => h.run pins s σ H Q I (w σ H Q q)⟩
end
section
variable {X : Cx} {x nm : Str} {p p1 pos pos' : Pos} {e : Expr} {es : List Expr} {id : String} {r : List V → Hp → VK → Prop}
theorem m0e_callB1 {te : TE} (hxe : X.xe = fun _ _ => False) (hc : CallR X (.builtin id) r) (hg : Gl X x) (hm : X.mg x = none) (hv : bootBuiltins x = some (.builtin id)) (ha : M0PE X e te) (hn : x ≠ "__name__" := by decide) (hdb : (x == ("__debug__" : Str)) = false := by decide)
    (he : starEach [e] X.env = (false, eval e X.env) :: starEach [] X.env := by rfl) : M0PE X (.Call (.Name x p) [e] [] pos) (tCB r (tCons te tNil)) := by
  refine ⟨fun pins s σ H Q I h => ?_⟩
  rw [arm_eval_Call_Name']
  refine .bind (tl_q (Q := fun u s1 => u = .builtin id ∧ Inv X pins σ H s1) hxe (ld_blt (inv_dull I) hg hm hv ⟨rfl, inv_dull I⟩ hn hdb) fun u s1 gb S0 ⟨hu, I0⟩ => ?_)
  subst hu
  rw [he]
  show TL _ _ _ (callWith pos (.builtin id) [] ((false, eval e X.env) :: []) []) _ _ _
  refine tl_callWith1 rfl rfl (tl_spliced_cons ((ha.run pins s1 σ H _ (inv_nog I0) h).mono (fun u s2 ⟨⟨y, H1, I1, r1, q1⟩, lo⟩ => tl_spliced_nil ?_) fun _ _ x => x))
  exact tl_q hxe (hc _ (Shared.dull s2) σ H1 [y] [u] Q (inv_dull I1) (.cons r1 .nil) q1) fun v s3 gb S q => ⟨(ep_nog q).1, (Lo.trans (a := []) (b := []) (.ofDim S0.1 I0.bare S0.2) (Lo.trans (a := []) (b := []) lo (.ofDim S.1 (ep_nog q).2 S.2)))⟩
abbrev M0E (X : Cx) (e : Expr) (d : TED) : Prop := M0PE X e (liftE X.K X.mg d)
theorem m0e_fnB1 {rd : RDn} {d : TED} (hxe : X.xe = fun _ _ => False) (hc : CallR X (.builtin id) r) (hs : CallS X.K X.mg r rd) (hg : Gl X x) (hm : X.mg x = none) (hv : bootBuiltins x = some (.builtin id)) (ha : M0E X e d) (hn : x ≠ "__name__" := by decide) (hdb : (x == ("__debug__" : Str)) = false := by decide)
    (he : starEach [e] X.env = (false, eval e X.env) :: starEach [] X.env := by rfl) : M0E X (.Call (.Name x p) [e] [] pos) (dFn rd (dCons d dNil)) := (m0e_callB1 hxe hc hg hm hv (ha.weaken fun _ _ _ q => lift_W q) hn hdb he).weaken fun σ H Q q => by
  obtain ⟨F, ρ, μ, Qd, R, hd, k⟩ := q
  refine ⟨F, ρ, μ, _, R, hd, fun v F1 μ1 H1 dv e1 o1 w1 q1 => ?_⟩
  exact hs F1 μ1 H1 [v] [dv] Qd Q o1 (.cons w1 .nil) q1 fun v F2 μ2 H2 dv e2 o2 w2 q2 => k v F2 μ2 H2 dv (e1.trans e2) o2 w2 q2
end
section
variable {X : Cx} {k : Nat} {x nm : Str} {S : DSpW} {e : Expr} {es : List Expr} {t : TAD} {p p1 pos pos' : Pos}
theorem m0e_listM (hxe : X.xe = fun _ _ => False) (hca : X.calm = true) (c : CalM X.prog X.w X.K X.mg X.base k x S) (room : Room (k + 3) X.A) (hg : Gl X x) (ha : DA X (e :: es) t) (hgl : Gl X "list") (hml : X.mg "list" = none) (hdb : (x == ("__debug__" : Str)) = false := by decide)
    (he : starEach (e :: es) X.env = (false, eval e X.env) :: starEach es X.env := by rfl) (hpl : (backTo pos' (starEach es X.env)).any (·.1) = false := by rfl)
    (he' : starEach [.Call (.Name x p1) (e :: es) [] pos'] X.env = (false, eval (.Call (.Name x p1) (e :: es) [] pos') X.env) :: starEach [] X.env := by rfl) :
    M0E X (.Call (.Name "list" p) [.Call (.Name x p1) (e :: es) [] pos'] [] pos) (dListM S t) := by
  refine ⟨fun pins s σ H Q I h => ?_⟩
  obtain ⟨F, ρ, μ, Qd, R, hq, kk⟩ := h
  rw [arm_eval_Call_Name']
  refine .bind (tl_q (Q := fun u s1 => u = .type "list" ∧ Inv X pins σ H s1) hxe (ld_blt (inv_dull I) hgl hml (by decide +kernel) ⟨rfl, inv_dull I⟩ (by decide) (by decide)) fun u s1 gb S0 ⟨hu, I0⟩ => ?_)
  subst hu
  rw [he']
  show TL _ _ _ (callWith pos (.type "list") [] ((false, eval (.Call (.Name x p1) (e :: es) [] pos') X.env) :: []) []) _ _ _
  refine tl_callWith1 rfl rfl (tl_spliced_cons ((tl_gen (p := p1) (n := s1.gens.size) hxe c (room.mono (by omega)) hg ha (inv_nog I0) R rfl hq hdb he hpl).mono (fun u s2 hm => tl_spliced_nil ?_) fun _ _ x => x))
  obtain ⟨H1, F1, μ1, items, inv, L1, a1, gi1, c1, go1, oL1, ⟨hinv, hlen, q⟩, rfl, I1, e1, o1, ol, hLa, _, hsl, lo1, hgi, _, N⟩ := hm
  have fr : X.A.in1.in1.in1.frames = some X.stack := I1.ok.frames
  have hd : X.A.depth < recursionLimit := by have := room.dp; omega
  have lo0 : Lo [] s s1 := .ofDim S0.1 I0.bare S0.2
  have hac : Acc s1 [] s2 [(gi1, .fresh c1)] := lo1.acc.more hgi
  refine (tl_grow (tl_list_new (Q' := fun u s' => Acc s1 [] s' [] ∧ EP X pins σ Q u (nog s')) (I1.ok.hd hca) hd ol I1 o1 hinv hLa (by rw [sizeLine_eq]; exact hlen) hsl (N _ (((room.in1 (k := k + 2)).in1 (k := k + 1)).in1) fr) hac fun Sx s' F2 H2 vs I2 e2 o2 n1 n2 n3 h1 f1 d1 ac => ?_)).mono (fun u s' hz => ?_) fun _ _ x => x
  · have mono : ∀ a o, F2 a = some o → upd F2 Sx (.lst vs) a = some o := fun a o z => by rw [upd_ne (ne_of_none z f1)]; exact z
    refine ⟨ac, .ref Sx, H2, I2, rfl, kk (.ref Sx) (upd F2 Sx (.lst vs)) μ1 H2 (.lst items) (e1.trans ⟨fun a o z => mono a o (e2.mono a o z), fun a o z n => ?_, e2.live⟩) (o2.freeze f1 n3 h1) (.lst upd_same (d1.mono mono)) q⟩
    obtain ⟨g1, g2, g3⟩ := e2.keep a o z n
    exact ⟨g1, by rw [upd_ne (fun y => by rw [y, n1] at z; cases z)]; exact g2, g3⟩
  · obtain ⟨⟨ac, ep⟩, gz⟩ := hz
    exact ⟨ep, Lo.trans (a := []) (b := []) lo0 (.ofAcc ac (Nat.le_trans lo1.hsz gz))⟩
end
structure M0PA (X : Cx) (es : List Expr) (t : TA) : Prop where
  run : ∀ (pos : Pos) (pins : List (Addr × Obj)) (s : Shared) (σ : L2.St) (H : Hp) (Q : List V → Hp → Prop), Inv X pins σ H (nog s) → t σ H Q → TL X.prog X.w X.A (spliced (backTo pos (starEach es X.env))) (fun us s' => AP X pins σ Q us (nog s') ∧ Lo [] s s') noE s
section
variable {X : Cx} {e o : Expr} {es : List Expr} {te to : TE} {t : TA} {pos apos cpos : Pos} {T id : String} {name : Str} {r : V → List V → Hp → VK → Prop}
theorem m0a_nil : M0PA X [] tNil := ⟨fun _ _ _ _ H Q I h => tl_spliced_nil ⟨⟨[], H, I, .nil, h⟩, .refl⟩⟩
theorem m0a_cons (ha : M0PE X e te) (hr : M0PA X es t) (hs : starEach (e :: es) X.env = (false, eval e X.env) :: starEach es X.env := by rfl) : M0PA X (e :: es) (tCons te t) := by
  refine ⟨fun pos pins s σ H Q I h => ?_⟩
  rw [hs]
  show TL _ _ _ (spliced ((false, eval e X.env) :: backTo pos (starEach es X.env))) _ _ s
  refine tl_spliced_cons ((ha.run pins s σ H _ I h).mono (fun u s1 ⟨⟨x, H1, I1, r1, q1⟩, lo⟩ => ?_) fun _ _ x => x)
  exact (hr.run pos pins s1 σ H1 _ I1 q1).mono (fun us s2 ⟨⟨xs, H2, I2, r2, q2⟩, lo2⟩ => ⟨⟨x :: xs, H2, I2, .cons r1 r2, q2⟩, Lo.trans (a := []) (b := []) lo lo2⟩) fun _ _ x => x
theorem tl_callWithF {P : Program} {w : World} {A : Around} {E : Value → Shared → Prop} {s : Shared} {pos : Pos} {f : Value} {first : List Value} {x : Sem Value} {rest : List (Bool × Sem Value)} {Q : Value → Shared → Prop} (hk : keeperOf f = pure .machine) (hp : ((false, x) :: rest).any (·.1) = false)
    (h : TL P w A (spliced ((false, x) :: rest)) (fun vs s1 => TL P w A (call f (first ++ vs)) Q E s1) E s) : TL P w A (callWith pos f first ((false, x) :: rest) []) Q E s := by
  unfold callWith
  refine .bind (.holding ?_)
  unfold evalArgs
  show TL P w A (spliced ((false, x) :: rest) >>= _) _ E s
  refine .bind (h.mono (fun vs s1 h1 => ?_) fun _ _ x => x)
  refine .holding ?_
  refine .bind (.pure (.bind (.pure (.pure (.bind (.standAt ?_))))))
  simp only [hp, hk, List.any_nil, Bool.or_false]
  refine .bind (.pure ?_)
  exact .bind (h1.mono (fun r s2 hr => .bind (.holding (.of (wpAny_point (TL.pure hr))))) fun _ _ x => x)
theorem m0e_bm (hxe : X.xe = fun _ _ => False) (pa : PlainAttrs T) (slot : Slot T name id) (hty : typeOf (.builtin id) = pure (.type "method_descriptor")) (hm : MtR X id r) (ho : PE X o to) (ha : M0PA X (e :: es) t)
    (hbase : attributeBase o name X.env (eval o X.env) = eval o X.env := by rfl)
    (hfew : ((backTo cpos (starEach (e :: es) X.env)).all (fun x => !x.1) && (backToKw cpos (keywordEach [] X.env)).all (fun x => x.1.isSome)
      && decide ((e :: es).length + ([] : List Keyword).length + (if ([] : List Keyword).isEmpty then 0 else 1) < 30)) = true := by rfl)
    (hline : (apos.endLine == cpos.line) = true := by rfl) (hs : starEach (e :: es) X.env = (false, eval e X.env) :: starEach es X.env := by rfl) (hplain : (backTo cpos (starEach es X.env)).any (·.1) = false := by rfl) :
    M0PE X (.Call (.Attribute o name apos) (e :: es) [] cpos) (tBM X.K T r to t) := by
  refine ⟨fun pins s σ H Q I h => ?_⟩
  rw [arm_eval_Call, hbase]
  refine .bind (tl_q (Q := EP X pins σ _) hxe (ho.run pins (Shared.dull s) σ H _ (inv_dull I) h) fun v s1 gb S0 z0 => ?_)
  have lo0 : Lo [] s s1 := .ofDim S0.1 (ep_nog z0).2 S0.2
  obtain ⟨x, H1, I1, r1, ty, q1⟩ := (ep_nog z0).1
  obtain ⟨h1, h2⟩ := tyV_is I1 r1 ty
  have hA := ha.run cpos pins s1 σ H1 _ I1 q1
  have hform : methodCallForm ((e :: es).length + ([] : List Keyword).length) (backTo cpos (starEach (e :: es) X.env)) (backToKw cpos (keywordEach [] X.env)) = true := hfew
  have hpos : methodCallPos true o X.env apos cpos = pure cpos := by unfold methodCallPos; simp [hline]
  refine .bind (.standAt ?_)
  unfold methodCall
  rw [hform]
  refine .bind (.holding (.of (getMethod_builtin h1 pa slot hty h2 ?_)))
  refine .bind (.eq hpos (.pure ?_))
  rw [hs] at hA ⊢
  refine tl_callWithF rfl (by show (false || (backTo cpos (starEach es X.env)).any (·.1)) = false; rw [hplain] <;> rfl) (hA.mono (fun us s2 ⟨⟨vs, H2, I2, r2, q2⟩, lo2⟩ => ?_) fun _ _ x => x)
  exact tl_q hxe (hm pins (Shared.dull s2) σ H2 x vs v us Q (inv_dull I2) r1 r2 q2) fun u s3 gb S q => ⟨(ep_nog q).1, Lo.trans (a := []) (b := []) lo0 (Lo.trans (a := []) (b := []) lo2 (.ofDim S.1 (ep_nog q).2 S.2))⟩
end
structure M0S (X : Cx) (st : Stmt) (t : TS) : Prop where
  run : ∀ (pins : List (Addr × Obj)) (s : Shared) (σ : L2.St) (H : Hp) (D : Ends), Inv X pins σ H (nog s) → t D σ H → TL X.prog X.w X.A (exec st X.env) (fun f s' => SP X pins D f (nog s') ∧ Lo [] s s') noE s
section
variable {X : Cx} {B : Bs} {e : Expr} {st : Stmt} {rest : List Stmt} {es : List Expr} {te : TE} {t u : TS} {pos : Pos}
theorem M0S.of (hxe : X.xe = fun _ _ => False) (h : PS X st t) : M0S X st t := ⟨fun pins s σ H D I q => tl_q hxe (h.run pins _ σ H D (inv_dull I) q) fun _ _ _ S z => ⟨(sp_nog z).1, .ofDim S.1 (sp_nog z).2 S.2⟩⟩
theorem M0S.weaken {t' : TS} (h : M0S X st t) (w : ∀ D σ H, t' D σ H → t D σ H) : M0S X st t' := ⟨fun pins s σ H D I q => h.run pins s σ H D I (w D σ H q)⟩
theorem M0Ss.weaken {sts : List Stmt} {t' : TS} (h : M0Ss X sts t) (w : ∀ D σ H, t' D σ H → t D σ H) : M0Ss X sts t' := ⟨fun pins s σ H D I q => h.run pins s σ H D I (w D σ H q)⟩
theorem m0ss_cons (h1 : M0S X st t) (h2 : M0Ss X rest u) : M0Ss X (st :: rest) (tSeq t u) := by
  refine ⟨fun pins s σ H D I h => ?_⟩
  rw [execs_cons]
  refine .bind ((h1.run pins s σ H { D with nx := u D } I h).mono (fun f s1 q => ?_) fun _ _ x => x)
  obtain ⟨q, lo⟩ := q
  cases f with
  | next =>
    obtain ⟨σ', H', I', q⟩ := q
    exact (h2.run _ s1 σ' H' D I' q).mono (fun f s2 z => ⟨z.1, Lo.trans (a := []) (b := []) lo z.2⟩) fun _ _ x => x
  | ret v => exact .pure ⟨q, lo⟩
  | brk => exact .pure ⟨q, lo⟩
  | cont => exact .pure ⟨q, lo⟩
theorem m0ss_one (h1 : M0S X st t) : M0Ss X [st] t := by
  refine ⟨fun pins s σ H D I h => ?_⟩
  rw [execs_cons]
  refine .bind ((h1.run pins s σ H D I h).mono (fun f s1 q => ?_) fun _ _ x => x)
  cases f with
  | next => exact .pure q
  | ret v => exact .pure q
  | brk => exact .pure q
  | cont => exact .pure q
theorem m0s_expr (hxe : X.xe = fun _ _ => False) (he : M0PE X e te) (hi : interactive X.env = false := by rfl) (hs : swapsWith e none pos.line X.env = pure false := by rfl) : M0S X (.Expr e pos) (tDrop te) := by
  refine ⟨fun pins s σ H D I h => ?_⟩
  rw [exec_Expr X.env e pos hi hs]
  refine .bind (.standAt (.bind ((he.run pins s σ H _ I h).mono (fun v s1 ⟨⟨x, H1, I1, r1, q1⟩, lo⟩ => ?_) fun _ _ x => x)))
  exact .of (wpAny_dropValue ⟨⟨σ, H1, I1, q1⟩, lo⟩)
end
abbrev M0St (X : Cx) (B : Bs) (st : Stmt) (d : TSD) : Prop := M0S X st (liftS X.K X.mg B d)
abbrev M0DSs (X : Cx) (B : Bs) (st : List Stmt) (d : TSD) : Prop := M0Ss X st (liftS X.K X.mg B d)
section
variable {X : Cx} {B : Bs} {e : Expr} {st : Stmt} {rest : List Stmt} {es : List Expr} {d da : TED} {t u : TSD} {ta : TAD} {pos : Pos}
theorem m0_cons (h1 : M0St X B st t) (h2 : M0DSs X B rest u) : M0DSs X B (st :: rest) (dSeq t u) := (m0ss_cons h1 h2).weaken fun D σ H h => by
  obtain ⟨F, ρ, μ, Dd, R, hd, kn, kb, kc, kr⟩ := h
  exact ⟨F, ρ, μ, { Dd with nx := u Dd }, R, hd, fun F' ρ' μ' σ' H' hF R' q => ⟨F', ρ', μ', Dd, R', q, fun F2 ρ2 μ2 σ2 H2 h2 => kn F2 ρ2 μ2 σ2 H2 (hF.trans h2), fun F2 ρ2 μ2 σ2 H2 h2 => kb F2 ρ2 μ2 σ2 H2 (hF.trans h2), fun F2 ρ2 μ2 σ2 H2 h2 => kc F2 ρ2 μ2 σ2 H2 (hF.trans h2), kr⟩, kb, kc, kr⟩
theorem m0_last (h1 : M0St X B st t) : M0DSs X B [st] t := m0ss_one h1
abbrev M0A (X : Cx) (es : List Expr) (d : TAD) : Prop := M0PA X es (liftA X.K X.mg d)
theorem M0PA.weaken {t t' : TA} (h : M0PA X es t) (w : ∀ σ H Q, t' σ H Q → t σ H Q) : M0PA X es t' := ⟨fun pos pins s σ H Q I q => h.run pos pins s σ H Q I (w σ H Q q)⟩
theorem m0da_nil : M0A X [] dNil := m0a_nil.weaken fun σ H Q q => by
  obtain ⟨F, ρ, μ, Qd, R, hd, k⟩ := q
  exact k [] F μ H [] .refl R.ok .nil hd
theorem m0da_cons (h : M0E X e da) (hr : M0A X es ta) (hs : starEach (e :: es) X.env = (false, eval e X.env) :: starEach es X.env := by rfl) : M0A X (e :: es) (dCons da ta) := (m0a_cons h hr hs).weaken fun σ H Q q => by
  obtain ⟨F, ρ, μ, Qd, R, hd, k⟩ := q
  refine ⟨F, ρ, μ, _, R, hd, fun v F1 μ1 H1 dv e1 o1 w1 q1 => ?_⟩
  exact ⟨F1, ρ, μ1, _, R.ext e1 o1, q1, fun vs F2 μ2 H2 ds e2 o2 w2 q2 => k (v :: vs) F2 μ2 H2 (dv :: ds) (e1.trans e2) o2 (.cons (w1.mono e2.mono) w2) q2⟩
theorem m0_app {i : Nat} {x : Str} {p apos cpos : Pos} (h : ∀ t, M0PA X [e] t → M0S X (.Expr (.Call (.Attribute (.Name x p) "append" apos) [e] [] cpos) pos) (tDrop (tBM X.K "list" rAppend (tVar i) t)))
    (he : M0E X e d) (hs : starEach [e] X.env = (false, eval e X.env) :: starEach [] X.env := by rfl) : M0St X B (.Expr (.Call (.Attribute (.Name x p) "append" apos) [e] [] cpos) pos) (dApp i d) := (h _ (m0a_cons he m0a_nil hs)).weaken fun D σ H h => by
  obtain ⟨F, ρ, μ, Dd, R, ⟨xs, hx, hd⟩, kn, kb, kc, kr⟩ := h
  obtain ⟨q, vs, hs, hf, hm, hh, hds, hb⟩ := R.ownAt hx
  refine ⟨.ref q, hs, .inl ⟨rfl, _, .inl (.inl hh)⟩, F, ρ, μ, _, R.rel, hd, fun v F' μ' H' dv e o w hq => ?_⟩
  obtain ⟨h1, h2, h3⟩ := e.keep q _ hh hm
  refine ⟨q, vs, v, rfl, rfl, h1, by rw [hds.length, sizeLine_eq]; exact hq.1, ?_⟩
  exact kn F' _ μ' σ _ e.mono ((R.step e o).writeOwn hx hs (h2.trans hf) h3 h1 hb ((hds.mono e.mono).append (.one w))) hq.2
end
section
variable {X : Cx} {es : List Expr} {t : TA} {ta : TAD} {pos : Pos}
theorem m0e_tupZ {x1} (hxe : X.xe = fun _ _ => False) (h : M0PA X es t) : M0PE X (.Tuple es x1 pos) (tTupZ t) := by
  refine ⟨fun pins s σ H Q I hq => ?_⟩
  rw [arm_eval_Tuple]
  refine .bind (.standAt (.bind ((h.run pos pins s σ H _ I hq).mono (fun us s1 ⟨⟨xs, H1, I1, r, z, q⟩, lo⟩ => ?_) fun _ _ x => x)))
  exact tl_q (Q := EP X pins σ Q) hxe (wpAny_newTuple (fin_tup (inv_dull I1) z r q) (by rw [← r.length]; exact z)) fun u s2 gb S zz => ⟨(ep_nog zz).1, Lo.trans (a := []) (b := []) lo (.ofDim S.1 (ep_nog zz).2 S.2)⟩
theorem m0de_tup {x1} (hxe : X.xe = fun _ _ => False) (h : M0A X es ta) : M0E X (.Tuple es x1 pos) (dTup ta) := (m0e_tupZ hxe h).weaken fun σ H Q q => by
  obtain ⟨F, ρ, μ, Qd, R, hd, k⟩ := q
  refine ⟨F, ρ, μ, _, R, hd, fun vs F1 μ1 H1 ds e1 o1 w1 q1 => ⟨by rw [w1.length, sizeLine_eq]; exact q1.1, fun p ob hp hob => ?_⟩⟩
  obtain ⟨g1, g2, g3⟩ := newTup o1 w1 hp hob
  exact k _ _ _ _ _ (e1.trans g1) g2 g3 q1.2
end
end DL

namespace DL
open PySem PySem.Spec PyProof.Rows L2 GW2 GenW YM
section
variable {X : Cx} {a b e : Expr} {pos : Pos}
theorem mpe_cmpR {op : CmpOp} {r : R2} {ta tb : TE} (hxe : X.xe = fun _ _ => False) (ho : OpR X (compareOp op) r) (ha : MPE X a ta) (hb : MPE X b tb) (hm : behindInMarks op b = false) : MPE X (.Compare a [op] [b] pos) (tOp r ta tb) := by
  refine ⟨fun pins s σ H Q I h => ?_⟩
  rw [eval_Compare1, markedBehindIn_of_false hm]
  refine .bind ((ha.run pins s σ H _ I h).mono (fun v s1 ⟨m1, ⟨x, H1, I1, r1, q1⟩, lo⟩ => ?_) fun _ _ x => x)
  refine .bind (.holding ((hb.run _ s1 σ H1 _ I1 q1).mono (fun u s2 ⟨m2, ⟨y, H2, I2, r2, q2⟩, lo2⟩ => ?_) fun _ _ x => x))
  exact .bind (.standAt (tl_q hxe (wpAny_operate' (ho _ (Shared.dull s2) σ H2 x y v u _ (inv_dull I2) r1 r2 q2)) fun c s3 gb S q => MQ.after lo (MQ.after lo2 (mq_of (R := fun pn t => EP X pn σ Q c t) S (ep_nog q)))))
theorem mde_cmp {op : CmpOp} {r : R2} {rd : RD2} {da db : TED} (hxe : X.xe = fun _ _ => False) (ho : OpR X (compareOp op) r) (hs : OpS X.K X.mg r rd) (ha : MDW X a da) (hb : MDW X b db) (hm : behindInMarks op b = false) : MDE X (.Compare a [op] [b] pos) (dOp rd da db) :=
  (mpe_cmpR hxe ho ha hb hm).weaken fun _ _ _ q => lift_op hs q
end
end DL

namespace DL
open PySem PySem.Spec PyProof.Rows L2 GW2 GenW YM
section
variable {P : Program} {w : World} {A : Around} {E : Value → Shared → Prop} {s : Shared} {R : Result → Shared → Prop}
theorem tc_compLoop {elt target iter : Expr} {scope : Scope} {pos : Pos} {it acc : Value} {env : Env} (I : Nat → Shared → Prop)
    (turn : ∀ n s, I n s → TL P w A (pyNext it) (fun r s1 => match r with
      | none => R (.ok .next) s1
      | some v => TL P w A (letOwnedTupleGo target it v) (fun _ s2 => TL P w A (assign target env v) (fun _ s3 => TL P w A (eval elt env) (fun x s4 =>
          TL P w A (call (.builtin "list.append") [acc, x]) (fun _ s5 => ∃ m, m < n ∧ I m s5) noE s4) noE s3) noE s2) noE s1) noE s) :
    ∀ n s, I n s → TC P w A (.compLoop (.ListComp elt [⟨target, iter, [], 0⟩] scope pos) 0 it acc env) R s := by
  intro n
  induction n using Nat.strongRecOn with
  | ind n ih =>
    intro s h
    refine .tree ?_
    rw [Around.under_of_weight rfl]
    show TL P w A ((compTurn (.ListComp elt [⟨target, iter, [], 0⟩] scope pos) 0 it acc env).onRaise (fun x => do noteFrame x env; theTreesLotGoes x)) _ _ s
    refine .onRaise ?_
    rw [compTurn_list1]
    refine .bind (.standAt (.bind ((turn n s h).mono (fun r s1 h1 => ?_) fun _ _ x => x.elim)))
    cases r with
    | none => exact .pure h1
    | some v =>
      refine .bind (h1.mono (fun _ s2 h2 => ?_) fun _ _ x => x.elim)
      refine .bind (h2.mono (fun _ s3 h3 => ?_) fun _ _ x => x.elim)
      refine .bind (.bind (h3.mono (fun x s4 h4 => ?_) fun _ _ x => x.elim))
      refine .bind (h4.mono (fun _ s5 h5 => ?_) fun _ _ x => x.elim)
      obtain ⟨m, hm, hI⟩ := h5
      exact .pure (.pure ⟨rfl, ih m hm s5 hI⟩)
theorem tc_compStart {elt target iter : Expr} {scope : Scope} {pos : Pos} {it acc : Value} {env : Env} (h0 : TC P w A (.compLoop (.ListComp elt [⟨target, iter, [], 0⟩] scope pos) 0 it acc env) R s)
    (h : TL P w A (pyIter it) (fun it' s' => TC P w A (.compLoop (.ListComp elt [⟨target, iter, [], 0⟩] scope pos) 0 it' acc env) R s') noE s) :
    TC P w A (.compStart (.ListComp elt [⟨target, iter, [], 0⟩] scope pos) 0 it acc env) R s := by
  refine .tree ?_
  rw [Around.under_of_weight rfl]
  show TL P w A ((compStart (.ListComp elt [⟨target, iter, [], 0⟩] scope pos) 0 it acc env).onRaise (fun x => do noteFrame x env; standAt theWindowsPlace)) _ _ s
  refine .onRaise ?_
  unfold compStart
  show TL P w A (ask >>= _) _ _ s
  refine .bind (.of (wpAny_askSetting ?_))
  split
  · first
      | exact .bind (.pure (.pure ⟨rfl, h0⟩))
      | exact .pure ⟨rfl, h0⟩
  · first
      | exact .bind (.of (wpAny_rule (.bind (.standAt (.bind (h.mono (fun it' s' h' => .pure ⟨rfl, h'⟩) fun _ _ x => x.elim))))))
      | (refine .bind (.of (wpAny_rule ?_)); show TL _ _ _ (standAt iter.pos >>= _) _ _ s; exact .bind (.standAt (.bind (h.mono (fun it' s' h' => .pure ⟨rfl, h'⟩) fun _ _ x => x.elim))))
end
/-- the names of a comprehension's block -/
def nsAny (C : Addr) : Heap → Prop := fun h => ∃ m, h.Ns C m
theorem nsAny_ok {P : Program} {w : World} {H : Hp} {h : Heap} {C : Addr} {m : Str → Option Value} (q : h.Ns C m) : ObjOk P w H h C (.ext (nsAny C)) := by
  refine ⟨⟨m, q⟩, ?_, fun h1 h2 p k => ?_⟩
  · obtain ⟨o, _, _, e, _⟩ := q; exact ⟨o, e⟩
  · obtain ⟨m', o, es, ep, e, r⟩ := p; exact ⟨m', o, es, ep, k _ e, r⟩
theorem upd_id {H : Hp} {C : Addr} {u : HO} (h : H C = some u) : upd H C u = H := by
  funext b; unfold upd; split
  · rename_i e; rw [e, h]
  · rfl
/-- while such a generator sleeps, its things are kept -/
theorem Inr.over {P : Program} {w : World} {g1 : WP} {gi1 : Nat} {A1 : Around} {inv1 : Sto → Prop} {a1 : Addr} {rest : List D} {F H H' : Hp} {s : Shared} {gs1 : GenState} {go1 : Obj} {pv1 : List (Addr × Obj)} {gv1 : List (Nat × GenState)} {h' : Heap} {tk : Nat} (N : Inr P w g1 gi1 A1 inv1 a1 rest F H s gs1 go1 pv1 gv1)
    (k : ∀ b o, s.heap.get? b = some o → H b = none → h'.get? b = some o ∧ H' b = none) : Inr P w g1 gi1 A1 inv1 a1 rest F H' { s with heap := h', toks := tk } gs1 go1 pv1 gv1 := by
  refine ⟨N.G, fun p hp => ?_, N.ne, N.gens, N.size, N.here, N.che, N.cho, N.wake⟩
  obtain ⟨b1, b2, b3, b4⟩ := N.pins p hp
  obtain ⟨c1, c2⟩ := k _ _ b1 b2
  exact ⟨c1, c2, b3, b4⟩
/-- the block of [y for y in ..] has no cells and captures nothing -/
def lcB (scope : Scope) (y : Str) : Bool := scope.kind == .function && scope.names.all (fun z => z.2 != .free && z.2 != .cell && (z.2 != .local || scope.names.lookup z.1 == some .local)) && scope.names.lookup y == some .local
section
variable {X : Cx} {k : Nat} {x y : Str} {S : DSpW} {e : Expr} {es : List Expr} {t : TAD} {p yp yp2 pos pos' : Pos} {scope : Scope}
theorem mde_lcM (hxe : X.xe = fun _ _ => False) (hca : X.calm = true) (c : CalM X.prog X.w X.K X.mg X.base k x S) (room : Room (k + 1) X.A) (hg : Gl X x) (ha : DA X (e :: es) t) (hsc : lcB scope y = true)
    (hyd : (y == ("__debug__" : Str)) = false := by decide) (hdb : (x == ("__debug__" : Str)) = false := by decide)
    (he : starEach (e :: es) X.env = (false, eval e X.env) :: starEach es X.env := by rfl) (hpl : (backTo pos' (starEach es X.env)).any (·.1) = false := by rfl)
    (hs : ∀ v, foldedSetIterable (.Call (.Name x p) (e :: es) [] pos') X.env v = pure v := by intro _; rfl) :
    MDE X (.ListComp (.Name y yp2) [⟨.Name y yp, .Call (.Name x p) (e :: es) [] pos', [], 0⟩] scope pos) (dListM S t) := by
  obtain ⟨hkind, hfree, hcell, hnames, hy⟩ : scope.kind = .function ∧ (∀ z ∈ scope.names, z.2 ≠ .free) ∧ (∀ z ∈ scope.names, z.2 ≠ .cell) ∧ (∀ z ∈ scope.names, z.2 = .local → scope.names.lookup z.1 = some .local) ∧ scope.names.lookup y = some .local := by
    unfold lcB at hsc
    simp only [Bool.and_eq_true, List.all_eq_true, beq_iff_eq, bne_iff_ne, Bool.or_eq_true] at hsc
    exact ⟨hsc.1.1, fun z hz => (hsc.1.2 z hz).1.1, fun z hz => (hsc.1.2 z hz).1.2, fun z hz e => (hsc.1.2 z hz).2.resolve_left fun n => n e, hsc.2⟩
  refine ⟨fun pins s σ H Q I h => ?_⟩
  obtain ⟨F, ρ, μ, Qd, R, hq, kk⟩ := h
  rw [eval_ListComp]
  unfold comprehension
  rw [closureFor_none hfree]
  refine .bind ((tl_gen (n := s.gens.size) hxe c (room.mono (by omega)) hg ha I R rfl hq hdb he hpl).mono (fun u s1 hm => ?_) fun _ _ x => x)
  obtain ⟨H1, F1, μ1, items, inv, L1, a1, gi1, c1, go1, oL1, ⟨hinv, hlen, q⟩, rfl, I1, e1, o1, ol, hLa, _, hsl, lo1, hgi, hL0, N⟩ := hm
  have N0 := N X.A.in1 (room.in1 (k := k)) I1.ok.frames
  have hgen : s1.heap.IsGen a1 gi1 := by
    obtain ⟨nm, qn, hdd⟩ := N0.G.dat
    exact ⟨go1, nm, qn, (N0.pins _ List.mem_cons_self).1, N0.G.cls, hdd, hsl⟩
  refine .bind (.standAt (.bind (.eq (hs _) (.pure ?_))))
  refine .bind (.holding (.of (wpAny_pyIter_gen hgen ?_)))
  show TL _ _ _ (newList [] >>= _) _ _ _
  refine .bind (.of (wpAny_newObj_type ?_ (by show 0 ≤ sizeLine; decide)))
  refine .bind (.pure (.bind (.of (wpAny_newFunctionEnv hcell (by intro y hy; simp at hy) (fun h3 hns3 hsb3 => ?_) hkind))))
  dsimp only at hns3 hsb3 ⊢
  have hD0 : (s1.heap.push { cls := .type "list", dict := none, data := .seq ([] : List Value).toArray }).get? s1.heap.objs.size = some { cls := .type "list", dict := none, data := .seq ([] : List Value).toArray } := Heap.get?_push_size _ rfl
  have hk1 : ∀ b o, s1.heap.get? b = some o → (s1.heap.push { cls := .type "list", dict := none, data := .seq ([] : List Value).toArray }).get? b = some o := fun b o e => Heap.get?_push_of_some _ e
  have hCD : (s1.heap.push { cls := .type "list", dict := none, data := .seq ([] : List Value).toArray }).objs.size = s1.heap.objs.size + 1 := Heap.size_push ..
  have hk2 : ∀ b o, (s1.heap.push { cls := .type "list", dict := none, data := .seq ([] : List Value).toArray }).get? b = some o → h3.get? b = some o := fun b o e => (hsb3.2 b (Nat.ne_of_lt (Heap.lt_size e))).trans (Heap.get?_push_of_some _ e)
  have I2 : Inv X pins σ (upd H1 s1.heap.objs.size (.lst [])) { nog s1 with heap := s1.heap.push { cls := .type "list", dict := none, data := .seq ([] : List Value).toArray } } := I1.laid (t' := s1.toks) hk1 (Nat.le_refl _) ⟨Nat.zero_le _, [], 0, .nil, hD0⟩
  have I3 := I2.laid (t' := s1.toks + 0) hk2 (Nat.le_refl _) (nsAny_ok hns3)
  have hD1 : H1 s1.heap.objs.size = none := I1.hok.fresh (Nat.le_refl _)
  generalize hh2 : s1.heap.push { cls := .type "list", dict := none, data := .seq ([] : List Value).toArray } = h2 at hns3 hsb3 hD0 hk1 hCD hk2 I2 I3 ⊢
  have hC1 : H1 h2.objs.size = none := I1.hok.fresh (by show s1.heap.objs.size ≤ _; omega)
  obtain ⟨hFD, hmD⟩ := o1.fresh hD1
  obtain ⟨hFC, hmC⟩ := o1.fresh hC1
  have hne : h2.objs.size ≠ s1.heap.objs.size := by omega
  generalize hC : h2.objs.size = C at hns3 hsb3 I3 hC1 hFC hmC hne ⊢
  have hszD : ∀ b o, s1.heap.get? b = some o → b ≠ s1.heap.objs.size ∧ b ≠ C := fun b o e => ⟨Nat.ne_of_lt (Heap.lt_size e), Nat.ne_of_lt (Nat.lt_of_lt_of_le (Heap.lt_size e) (by rw [← hC, hCD]; exact Nat.le_succ _))⟩
  generalize hD : s1.heap.objs.size = D at hD0 I2 I3 hD1 hFD hmD hne hszD ⊢
  have I3' : Inv X pins σ (upd (upd H1 D (.lst [])) C (.ext (nsAny C))) (nog { s1 with heap := h3, toks := s1.toks + 0 }) := I3
  have N3 : Inr X.prog X.w (wpX X L1) gi1 X.A.in1 inv a1 items F1 (upd (upd H1 D (.lst [])) C (.ext (nsAny C))) { s1 with heap := h3, toks := s1.toks + 0 } (.fresh c1) go1 [(L1, oL1)] [] := N0.over fun b o e n => by
    obtain ⟨n1, n2⟩ := hszD b o e
    exact ⟨hk2 _ _ (hk1 _ _ e), by rw [upd_ne n2, upd_ne n1]; exact n⟩
  have hac : Acc s [] s1 [(gi1, .fresh c1)] := lo1.acc.more hgi
  have hd' : X.A.depth < recursionLimit := by have := room.dp; omega
  have hkl : (relabel scope X.env).names.lookup y = some .local := lookup_relabel_local hy
  -- the turns
  have turns := tc_compLoop (P := X.prog) (w := X.w) (A := X.A) (elt := .Name y yp2) (target := .Name y yp) (iter := .Call (.Name x p) (e :: es) [] pos') (scope := scope) (pos := pos) (it := .ref a1) (acc := .ref D) (env := compEnvC scope [] C X.env)
    (R := fun r s' => match r with | .ok _ => (∃ vs H' F', Inv X pins σ H' (nog s') ∧ Ext F1 μ1 H1 F' μ1 H' ∧ Ok X.K X.mg F' μ1 H' ∧ H' D = some (.lst vs) ∧ F' D = none ∧ H' C = some (.ext (nsAny C)) ∧ Dts X.K X.mg F' vs items ∧ Lo [] s s') | .error _ => False)
    (fun n s' => ∃ rest ds vs H' F' gs go pv gv, n = rest.length ∧ items = ds ++ rest ∧ Inv X pins σ H' (nog s') ∧ Ext F1 μ1 H1 F' μ1 H' ∧ Ok X.K X.mg F' μ1 H' ∧ H' D = some (.lst vs) ∧ F' D = none ∧ H' C = some (.ext (nsAny C)) ∧ F' C = none ∧ Dts X.K X.mg F' vs ds ∧
      Inr X.prog X.w (wpX X L1) gi1 X.A.in1 inv a1 rest F' H' s' gs go pv gv ∧ Acc s [] s' ((gi1, gs) :: gv) ∧ s.heap.objs.size ≤ s'.heap.objs.size) (by
    rintro n s3 ⟨rest, ds, vs, H3, F3, gs, go, pv, gv, hn, hit, J3, e3, o3, hD3, hFD3, hC3, hFC3, d3, M3, ac3, hz3⟩
    cases rest with
    | nil =>
      refine (tl_grow (tl_turn (Q := fun r s4 => r = none ∧ ∃ F4 H4, Inv X pins σ H4 (nog s4) ∧ Ext F3 μ1 H3 F4 μ1 H4 ∧ Ok X.K X.mg F4 μ1 H4 ∧ Acc s3 ((gi1, gs) :: gv) s4 []) (E := noE) (J3.ok.hd hca) hd' ol J3 o3 hinv hLa M3 fun s4 F4 H4 I4 e4 o4 ac4 => ⟨rfl, F4, H4, I4, e4, o4, ac4⟩)).mono (fun r s4 hz => ?_) fun _ _ x => x
      obtain ⟨⟨rfl, F4, H4, I4, e4, o4, ac4⟩, g4⟩ := hz
      obtain ⟨u1, u2, _⟩ := e4.keep D _ hD3 hmD
      obtain ⟨u3, u4, _⟩ := e4.keep C _ hC3 hmC
      refine ⟨vs, H4, F4, I4, e3.trans e4, o4, u1, u2.trans hFD3, u3, ?_, .ofAcc (ac3.trans ac4) (Nat.le_trans hz3 g4)⟩
      rw [hit, List.append_nil]
      exact d3.mono e4.mono
    | cons x0 rest =>
      refine (tl_grow (tl_turn (Q := fun r s4 => ∃ v, r = some v ∧ ∃ F4 H4 xv gs' go' pv' gv', RelV xv v ∧ Dt X.K X.mg F4 xv x0 ∧ Inv X pins σ H4 (nog s4) ∧ Ext F3 μ1 H3 F4 μ1 H4 ∧ Ok X.K X.mg F4 μ1 H4 ∧ Inr X.prog X.w (wpX X L1) gi1 X.A.in1 inv a1 rest F4 H4 s4 gs' go' pv' gv' ∧ Acc s3 ((gi1, gs) :: gv) s4 ((gi1, gs') :: gv')) (E := noE) (J3.ok.hd hca) hd' ol J3 o3 hinv hLa M3
        fun v s4 F4 H4 xv gs' go' pv' gv' rv wv I4 e4 o4 N4 ac4 iS => ⟨v, rfl, F4, H4, xv, gs', go', pv', gv', rv, wv, I4, e4, o4, N4, ac4⟩)).mono (fun r s4 hz => ?_) fun _ _ x => x
      obtain ⟨⟨v, rfl, F4, H4, xv, gs', go', pv', gv', rv, wv, I4, e4, o4, N4, ac4⟩, g4⟩ := hz
      obtain ⟨u1, u2, _⟩ := e4.keep D _ hD3 hmD
      obtain ⟨u3, u4, _⟩ := e4.keep C _ hC3 hmC
      have hF4D := u2.trans hFD3
      have hF4C := u4.trans hFC3
      obtain ⟨nm, qn, hdg⟩ := N4.G.dat
      refine .of (go_of (N4.pins _ List.mem_cons_self).1 N4.G.cls hdg (by decide) ?_)
      obtain ⟨⟨m4, ns4⟩, _, _⟩ := I4.hok C _ u3
      refine .of (wpAny_assign_Name (wpAny_storeName_local (env := compEnvC scope [] C X.env) (m := m4) hkl ns4 (fun h5 ns5 sb5 => ?_) (by show ((scope.kind == .class) || ((scope.kind == .module) && _)) = false; rw [hkind]; rfl)))
      have I5 : Inv X pins σ H4 (nog { s4 with heap := h5, toks := s4.toks + 1 }) := by
        have := I4.write (x := C) (e := C) (o := .ext (nsAny C)) (h' := h5) (t' := s4.toks + 1) (by rw [u3]; trivial) (.inl rfl) (fun b u hb q => (sb5.2 b hb).trans q) (by obtain ⟨o, _, _, q, _⟩ := ns5; exact ⟨o, q⟩) (nsAny_ok ns5)
        rw [upd_id u3] at this
        exact this
      have N5 : Inr X.prog X.w (wpX X L1) gi1 X.A.in1 inv a1 rest F4 H4 { s4 with heap := h5, toks := s4.toks + 1 } gs' go' pv' gv' := N4.over fun b o q n => ⟨(sb5.2 b fun z => by have z : b = C := z; rw [z, u3] at n; cases n).trans q, n⟩
      refine .of (wpAny_Name (wpAny_loadName_local (env := compEnvC scope [] C X.env) (v := v) hkind hkl ns5 (by simp) ?_) hyd)
      obtain ⟨hvz, its, nn, ri, ho⟩ := I5.hok D _ u1
      have hl := ri.length
      have hdl : vs.length = ds.length := d3.length
      have hSZ : SZ = 16777216 := rfl
      have hz : ds.length + rest.length + 1 ≤ SZ := by rw [hit, List.length_append, List.length_cons] at hlen; omega
      refine .of (append_at (its := its.toArray) (hsz := by rw [List.size_toArray, sizeLine_eq]; omega) ho fun h6 sb6 ho6 => ?_)
      refine ⟨rest.length, by rw [hn, List.length_cons]; omega, rest, ds ++ [x0], vs ++ [xv], upd H4 D (.lst (vs ++ [xv])), F4, gs', go', pv', gv', rfl, by rw [hit, List.append_assoc]; rfl, ?_, (e3.trans e4).own hD1, o4.own hF4D hmD, upd_same, hF4D, by rw [upd_ne hne]; exact u3, hF4C, (d3.mono e4.mono).append (.cons wv .nil), ?_, ?_, ?_⟩
      · refine I5.write (x := D) (e := D) (t' := s4.toks + 1) (by rw [u1]; trivial) (.inl rfl) (fun b u hb q => (sb6.2 b hb).trans q) ⟨_, ho6⟩ ⟨by rw [List.length_append, List.length_singleton, sizeLine_eq]; omega, its ++ [v], nn + 1, ri.append (.cons rv .nil), ?_⟩
        rw [ho6]; simp
      · exact N5.over fun b o q n => ⟨(sb6.2 b fun z => by rw [z, u1] at n; cases n).trans q, by rw [upd_ne fun z => by rw [z, u1] at n; cases n]; exact n⟩
      · have := ac3.trans ac4
        exact ⟨this.new, this.old, this.fr, this.size⟩
      · have s5 : h5.objs.size = s4.heap.objs.size := sb5.1
        have s6 : h6.objs.size = h5.objs.size := sb6.1
        show s.heap.objs.size ≤ h6.objs.size
        omega)
  have hgen4 : h3.IsGen a1 gi1 := hgen.keeps fun b o e => hk2 _ _ (hk1 _ _ e)
  have loop := turns items.length { s1 with heap := h3, toks := s1.toks + 0 } ⟨items, [], [], _, F1, _, _, _, _, rfl, rfl, I3', (Ext.own (Ext.own .refl hD1) hC1), ((o1.own hFD hmD).own hFC hmC), by rw [upd_ne (Ne.symm hne)]; exact upd_same, hFD, upd_same, hFC, .nil, N3, ⟨hac.new, hac.old, hac.fr, hac.size⟩, by
    refine Nat.le_trans lo1.hsz ?_
    have s3 := hsb3.1
    rw [Heap.size_push] at s3
    show s1.heap.objs.size ≤ h3.objs.size
    omega⟩
  have start := tc_compStart (target := .Name y yp) (it := .ref a1) loop (.of (wpAny_pyIter_gen (s := { s1 with heap := h3, toks := s1.toks + 0 }) hgen4 loop))
  refine .holding (.bind (.attempt (.holding (.run (TC.mono start fun r s' hr => ?_)))))
  cases r with
  | error e => exact hr.elim
  | ok f =>
    obtain ⟨vs, H4, F4, I4, e4, o4, u1, f1, u3, d4, lo4⟩ := hr
    obtain ⟨⟨m4, ns4⟩, _, _⟩ := I4.hok C _ u3
    have hv : ∀ z ∈ (scope.names.filter fun z => (z.2 == .local || z.2 == .cell) && z.1 != (".0" : Str)).reverse, z.2 = .local → (compEnvC scope [] C X.env).kindOf z.1 = some .local := fun z hz hl => lookup_relabel_local (hnames z (List.mem_filter.mp (List.mem_reverse.mp hz)).1 hl)
    refine .bind (.holding (.of (wpAny_comp_letGo (cenv := compEnvC scope [] C X.env) hkind _ s' m4 hv ns4 fun h7 m7 ns7 sb7 => .pure ?_)))
    have I7 : Inv X pins σ H4 (nog { s' with heap := h7 }) := by
      have := I4.write (x := C) (e := C) (o := .ext (nsAny C)) (h' := h7) (t' := s'.toks) (by rw [u3]; trivial) (.inl rfl) (fun b u hb q => (sb7.2 b hb).trans q) (by obtain ⟨o, _, _, q, _⟩ := ns7; exact ⟨o, q⟩) (nsAny_ok ns7)
      rw [upd_id u3] at this
      exact this
    have mono : ∀ a o, F4 a = some o → upd F4 D (.lst vs) a = some o := fun a o z => by rw [upd_ne (ne_of_none z f1)]; exact z
    refine ⟨[], ?_, ⟨lo4.new, lo4.old, lo4.size, lo4.fr, ?_⟩⟩
    · rw [List.append_nil]
      refine ⟨.ref D, H4, I7, rfl, kk (.ref D) (upd F4 D (.lst vs)) μ1 H4 (.lst items) (e1.trans ⟨fun a o z => mono a o (e4.mono a o z), fun a o z n => ?_, e4.live⟩) (o4.freeze f1 hmD u1) (.lst upd_same (d4.mono mono)) q⟩
      obtain ⟨g1, g2, g3⟩ := e4.keep a o z n
      exact ⟨g1, by rw [upd_ne (fun y => by rw [y, hD1] at z; cases z)]; exact g2, g3⟩
    · have s7 : h7.objs.size = s'.heap.objs.size := sb7.1
      have := lo4.hsz
      show s.heap.objs.size ≤ h7.objs.size
      omega
end
end DL

namespace DL
open PySem PySem.Spec PyProof.Rows L2
def spm_each_pick : DSpW := spm_each_pickN 10
def bw_each_pick : TWD := bw_each_pickN 10
theorem lenm_each_pick : ∀ ds μ Q, spm_each_pick ds μ Q → ds.length = 2 := lenm_each_pickN 10
theorem okm_each_pick : ∀ ds μ Q, spm_each_pick ds μ Q → ∃ items inv, Q items inv ∧ ∀ μ2, inv μ2 → bw_each_pick { nx := fun r _ _ => r = [], inv := inv } items (startD 2 ds) μ2 := okm_each_pickN 10
def sp_lawS_all : DSp := fun ds μ Q _ => ∃ one other : List Nat, ds = [.str one, .str other] ∧ one.length ≤ 10 ∧ other.length ≤ 30 ∧ Q (.lst ((picksA one other).map tupD)) μ
def pairD (one other p : List Nat) : D := .tup [tupD p, .int ((picksA one other).length : Nat)]
def sp_law_begun : DSpM := fun ds μ Q => ∃ (one other : List Nat) (m : Nat), ds = [.str one, .str other, .int m] ∧ m ≤ 1000 ∧ one.length ≤ 9 ∧ other.length ≤ 60 ∧ Q (.lst (((picksA one other).take m).map (pairD one other))) μ
def sp_law : DSpM := fun ds μ Q => ∃ ns : List Int, ds = [.scr ns] ∧ ns.length ≤ 63 ∧ ∀ μ', Q (.bl true) μ'
def b_lawS_all_2l : TSD :=
  (dSetR 2 (dVal (dOp rdAdd (dLook 2) (dF (dLc [4] (dEach (dVar 2)) (dName 4) (dB (dOp rdEq (dSl (dLook 1) (dPart (dFn rdLen (dCons (dLook 4) dNil))) (dPart (dOp rdAdd (dFn rdLen (dCons (dLook 4) dNil)) (dC (.int 1))))) (dOp rdIx (dLook 0) (dLook 3)))) (dOp rdAdd (dLook 4) (dTup (dCons (dVar 3) dNil))))))))
def b_lawS_all_3 : TSD :=
  (dRet (dF (dSortF (dCons (dLook 2) dNil))))
def b_lawS_all_2 : TSD :=
  (dSeq (dFor (dRng1 (dCons (dFn rdLen (dCons (dLook 0) dNil)) dNil)) (dName 3)
  b_lawS_all_2l)
  b_lawS_all_3)
/-- _law_all(_law_one, _law_other); slots 0:_law_one 1:_law_other 2:_law_found 3:_law_place 4:_law_some -/
def b_lawS_all : TSD :=
  (dSeq (dSetR 2 (dVal (dLst (dCons (dTup dNil) dNil))))
  b_lawS_all_2)
def b_law_begun_2l_2 : TSD :=
  (dApp 3 (dTup (dCons (dVar 4) (dCons (dFn rdLen (dCons (dListM spm_each_pick (dCons (dVar 0) (dCons (dVar 1) dNil))) dNil)) dNil))))
def b_law_begun_2l : TSD :=
  (dSeq (dIfS (dB (dOp rdEq (dFn rdLen (dCons (dLook 3) dNil)) (dLook 2)))
  dBreak
  dNext)
  b_law_begun_2l_2)
def b_law_begun_3 : TSD :=
  (dRet (dLook 3))
def b_law_begun_2 : TSD :=
  (dSeq (dFor (dGenM spm_each_pick (dCons (dVar 0) (dCons (dVar 1) dNil))) (dName 4)
  b_law_begun_2l)
  b_law_begun_3)
/-- _law_begun(_law_one, _law_other, _law_many); slots 0:_law_one 1:_law_other 2:_law_many 3:_law_found 4:_law_pick -/
def b_law_begun : TSD :=
  (dSeq (dSetR 3 (dOwn (dLstF dNil)))
  b_law_begun_2)
def b_law_2l_6 : TSD :=
  (dIfS (dB (dOp rdNe (dFn rdRepr (dCons (dListM spm_each_pick (dCons (dVar 3) (dCons (dVar 4) dNil))) dNil)) (dFn rdRepr (dCons (dLook 5) dNil))))
  (dRet (dC (.bl false)))
  dNext)
def b_law_2l_5 : TSD :=
  (dSeq (dIfS (dB (dOp rdNe (dFn rdRepr (dCons (dCallM sp_law_begun (dCons (dVar 3) (dCons (dVar 4) (dCons (dVar 6) dNil)))) dNil)) (dFn rdRepr (dCons (dF (dLc [7] (dEach (dSl (dLook 5) dNoPart (dPart (dVar 6)))) (dName 7) dYes (dTup (dCons (dVar 7) (dCons (dFn rdLen (dCons (dLook 5) dNil)) dNil))))) dNil))))
  (dRet (dC (.bl false)))
  dNext)
  b_law_2l_6)
def b_law_2l_4 : TSD :=
  (dSeq (dSetR 6 (dVal (dCall sp_law_take (dCons (dVar 1) (dCons (dC (.int 4)) dNil)) noD)))
  b_law_2l_5)
def b_law_2l_3 : TSD :=
  (dSeq (dIfS (dB (dOp rdNe (dFn rdRepr (dCons (dListM spm_each_pick (dCons (dVar 3) (dCons (dVar 4) dNil))) dNil)) (dFn rdRepr (dCons (dLook 5) dNil))))
  (dRet (dC (.bl false)))
  dNext)
  b_law_2l_4)
def b_law_2l_2 : TSD :=
  (dSeq (dSetR 5 (dVal (dCall sp_lawS_all (dCons (dVar 3) (dCons (dVar 4) dNil)) noD)))
  b_law_2l_3)
def b_law_2l : TSD :=
  (dSeq (dAsg (dCall sp_law_two (dCons (dVar 1) (dCons (dOp rdIx (dLst (dCons (dC (.int 9)) (dCons (dC (.int 5)) (dCons (dC (.int 7)) dNil)))) (dOp rdMod (dLook 2) (dC (.int 3)))) dNil)) noD) (dUnl 2 (gdCons (dName 3) (gdCons (dName 4) gdNil))))
  b_law_2l_2)
def b_law_3 : TSD :=
  (dRet (dOp rdEq (dListM spm_each_pick (dCons (dC (.str [])) (dCons (dC (.str [97, 98])) dNil))) (dLst (dCons (dTup dNil) dNil))))
def b_law_2 : TSD :=
  (dSeq (dFor (dRng1 (dCons (dC (.int 6)) dNil)) (dName 2)
  b_law_2l)
  b_law_3)
/-- law(_law_script); slots 0:_law_script 1:_law_jar_here 2:_law_turn 3:_law_one 4:_law_other 5:_law_due 6:_law_many 7:_law_pick -/
def b_law : TSD :=
  (dSeq (dSetR 1 (dVal (dCall sp_law_jar (dCons (dVar 0) dNil) noD)))
  b_law_2)
theorem len_law : ∀ ds μ Q, sp_law ds μ Q → ds.length = 1 := by
  rintro ds μ Q ⟨ns, rfl, _⟩; rfl
theorem len_law_begun : ∀ ds μ Q, sp_law_begun ds μ Q → ds.length = 3 := by
  rintro ds μ Q ⟨a, b, m, rfl, _⟩; rfl
theorem len_lawS_all : ∀ ds μ Q E, sp_lawS_all ds μ Q E → ds.length = 2 := by
  rintro ds μ Q E ⟨a, b, rfl, _⟩; rfl
theorem picksA_le (one other : List Nat) : (picksA one other).length ≤ 2 ^ one.length := by
  rw [← (picksA_perm one other).length_eq]; exact allA_len one other _
theorem ok_lawS_all : ∀ ds μ Q E, sp_lawS_all ds μ Q E → b_lawS_all { nx := fun _ μ' => Q .non μ', rt := Q } (startD 5 ds) μ := by
  rintro ds μ Q E ⟨one, other, rfl, h1, h2, q⟩
  unfold b_lawS_all
  simp
  unfold b_lawS_all_2
  simp [rngOk, -forD]
  refine ⟨by omega, by omega, ?_⟩
  refine forD_rng (fun i ρ μ' => μ' = μ ∧ ∃ x3, ρ = [some (.val (.str one)), some (.val (.str other)), some (.val (.lst ((allA one other i).map tupD))), x3, none]) ?_ ?_ ⟨rfl, none, by simp [allA]⟩
  · rintro i ρ μ' nx hi ⟨rfl, x3, rfl⟩ hn
    have hlen := allA_len one other i
    have hle : (allA one other i).length ≤ 1024 := Nat.le_trans hlen (Nat.le_trans (Nat.pow_le_pow_right (by decide) (show i ≤ 10 by omega)) (by decide))
    have hg : one.getD i 0 = one[i] := by rw [List.getD_eq_getElem?_getD, List.getElem?_eq_getElem hi]; rfl
    have hf := List.length_filter_le (fun q : List Nat => decide (other[q.length]? = some (one.getD i 0))) (allA one other i)
    unfold b_lawS_all_2l
    simp [-lcD]
    refine lcD_listF (allA one other i) (fun q => decide (other[q.length]? = some (one.getD i 0))) tupD (fun q => tupD (q ++ [i])) trivial (by show _ ≤ 16777216; omega) (fun p hp kk nn y1 y2 => ?_) ?_
    · have hpl := (allA_small one other i p hp).1
      simp
      rw [cut_one]
      refine ⟨by omega, by omega, one[i], by rw [atI_nat, List.getElem?_eq_getElem hi], ?_⟩
      rw [hg] at y1 y2
      split
      · rename_i h
        have := (take1 other p.length one[i]).mp h
        have y1 := y1 (by simpa using this)
        have e9 : nats p ++ [D.int (i : Nat)] = nats (p ++ [i]) := by simp
        first | (refine ⟨by omega, ?_⟩; rw [e9]; exact y1) | (rw [e9]; exact y1)
      · rename_i h
        exact y2 (by simp; exact fun z => h ((take1 other p.length one[i]).mpr z))
    have e9 : (((allA one other i).filter fun q => decide (other[q.length]? = some (one.getD i 0))).map fun q => tupD (q ++ [i])) = (((allA one other i).filter fun q => decide (other[q.length]? = some (one.getD i 0))).map fun q => q ++ [i]).map tupD := by rw [List.map_map]; rfl
    rw [e9, ← List.map_append]
    refine ⟨by rw [List.length_map, List.length_map]; omega, hn _ _ ⟨rfl, some (.val (.int i)), rfl⟩⟩
  · rintro ρ μ' ⟨rfl, x3, rfl⟩
    unfold b_lawS_all_3
    simp
    obtain ⟨r, hr⟩ := allA_head one other one.length
    refine ⟨r, by rw [hr]; rfl, fun L hL hs => ?_⟩
    rw [sorted_picks (one := one) (other := other) (by rw [hr]; exact hL) hs]
    exact q
theorem ok_law_begun : ∀ ds μ Q, sp_law_begun ds μ Q → b_law_begun { nx := fun _ μ' => Q .non μ', rt := Q } (startD 5 ds) μ := by
  rintro ds μ Q ⟨one, other, m, rfl, hm, h1, h2, hq⟩
  unfold b_law_begun
  simp
  unfold b_law_begun_2
  simp [-forD]
  refine ⟨one, other, rfl, by omega, by omega, h2, ?_⟩
  show forD _ _ _ _ _ _ _
  have hcount : (picksA one other).length ≤ 512 := Nat.le_trans (picksA_le one other) (Nat.le_trans (Nat.pow_le_pow_right (by decide) h1) (by decide))
  have key : ∀ (rest : List (List Nat)) (k : Nat) (x4 : Option DS), k ≤ m → picksA one other = (picksA one other).take k ++ rest → k ≤ (picksA one other).length →
      forD (dName 4) b_law_begun_2l { nx := b_law_begun_3 { nx := fun x μ' => Q D.non μ', rt := Q }, rt := Q } (fun _ => True) (rest.map tupD) [some (DS.val (D.str one)), some (DS.val (D.str other)), some (DS.val (D.int ↑m)), some (DS.own (((picksA one other).take k).map (pairD one other))), x4] μ := by
    intro rest
    induction rest with
    | nil =>
      intro k x4 hk he hkl
      refine ⟨trivial, ?_⟩
      unfold b_law_begun_3
      simp [-List.map_take]
      have e : (picksA one other).take m = (picksA one other).take k := by
        rw [List.append_nil] at he
        rw [← he]
        refine List.take_of_length_le ?_
        have := congrArg List.length he
        rw [List.length_take] at this
        omega
      rw [← e]
      exact hq
    | cons p rest ih =>
      intro k x4 hk he hkl
      refine ⟨trivial, ?_⟩
      have hlt : k < (picksA one other).length := by
        have := congrArg List.length he
        rw [List.length_append, List.length_take, List.length_cons] at this
        omega
      have ep : (picksA one other)[k] = p := by
        have : (picksA one other)[k]? = some p := by rw [he, List.getElem?_append_right (by rw [List.length_take]; omega), List.length_take, Nat.min_eq_left (by omega), Nat.sub_self]; rfl
        rw [List.getElem?_eq_getElem hlt] at this
        exact Option.some.inj this
      have et : (picksA one other).take (k + 1) = (picksA one other).take k ++ [p] := by rw [List.take_succ, List.getElem?_eq_getElem hlt, ep]; rfl
      have nx : ∀ x4, k + 1 ≤ m → forD (dName 4) b_law_begun_2l { nx := b_law_begun_3 { nx := fun x μ' => Q D.non μ', rt := Q }, rt := Q } (fun _ => True) (rest.map tupD) [some (DS.val (D.str one)), some (DS.val (D.str other)), some (DS.val (D.int ↑m)), some (DS.own (((picksA one other).take (k + 1)).map (pairD one other))), x4] μ := fun x4 h =>
        ih (k + 1) x4 h (by rw [et, List.append_assoc]; exact he) (by omega)
      rw [et, List.map_append] at nx
      generalize hE : forD (dName 4) b_law_begun_2l { nx := b_law_begun_3 { nx := fun x μ' => Q D.non μ', rt := Q }, rt := Q } (fun _ => True) (rest.map tupD) = nxf at nx ⊢
      unfold b_law_begun_2l
      simp [-forD, -List.map_take]
      rw [Nat.min_eq_left hkl]
      split
      · rename_i h
        have hkm : m = k := by omega
        unfold b_law_begun_3
        simp [-List.map_take]
        rw [hkm] at hq
        exact hq
      · unfold b_law_begun_2l_2
        simp [-forD, -List.map_take]
        refine ⟨one, other, rfl, by omega, by omega, h2, ?_⟩
        refine ⟨trivial, by rw [List.length_map]; omega, by omega, ?_⟩
        rw [List.length_map]
        exact nx _ (by omega)
  have := key (picksA one other) 0 none (by omega) (by simp) (Nat.zero_le _)
  simpa using this
theorem rep_all14 {one other : List Nat} (h1 : one.length ≤ 9) : repOk (.lst ((picksA one other).map tupD)) := by
  have hp := picksA_perm one other
  have hsum := allA_sum one other one.length
  have hlen := allA_len one other one.length
  have e1 : ((allA one other one.length).map List.length).sum = ((picksA one other).map List.length).sum := (hp.map List.length).sum_nat
  have e2 := hp.length_eq
  have b1 : one.length * 2 ^ one.length ≤ 9 * 2 ^ 9 := Nat.mul_le_mul h1 (Nat.pow_le_pow_right (by decide) h1)
  have b2 : 2 ^ one.length ≤ 2 ^ 9 := Nat.pow_le_pow_right (by decide) h1
  have hs : ∀ x ∈ (picksA one other).map tupD, Shw 549 1 x := fun x hx => by
    obtain ⟨p, hp', rfl⟩ := List.mem_map.mp hx
    obtain ⟨a, b⟩ := allA_small one other one.length p (hp.mem_iff.mpr hp')
    exact (shw_tup (w := 60) (k := 0) (n := 9) (shw_nats (fun x hx => by have := b x hx; omega) (by omega)) (by unfold nats; rw [List.length_map]; omega)).mono (by omega) (by omega)
  refine repOkS ((sms_iff _).mpr fun x hx => (hs x hx).sm) ?_ ?_
  · show D.wSs _ ≤ _
    rw [wSs_tups, ← e1, ← e2]
    omega
  · show D.dps _ + 1 ≤ 50
    have := dps_le (k := 1) _ fun x hx => (hs x hx).dp
    omega
theorem ok_law : ∀ ds μ Q, sp_law ds μ Q → b_law { nx := fun _ μ' => Q .non μ', rt := Q } (startD 8 ds) μ := by
  rintro ds μ Q ⟨ns, rfl, hn, q⟩
  unfold b_law
  simp
  refine ⟨ns, rfl, hn, fun j c μ1 hJ _ _ _ => ?_⟩
  unfold b_law_2
  simp [rngOk, -forD]
  refine forD_rng (fun i ρ μ' => (∃ x2 x3 x4 x5 x6 x7, ρ = [some (.val (.scr ns)), some (.val (.ref j)), x2, x3, x4, x5, x6, x7]) ∧ Jar j c (150 * i) μ') ?_ ?_ ⟨⟨_, _, _, _, _, _, rfl⟩, hJ⟩
  · rintro i ρ μ2 nx hi ⟨⟨x2, x3, x4, x5, x6, x7, rfl⟩, hJ2⟩ hnx
    obtain ⟨m, hm, hm9⟩ : ∃ m : Nat, atI [D.int 9, D.int 5, D.int 7] (((i : Nat) : Int) % 3) = some (.int (m : Nat)) ∧ m ≤ 9 := by
      have : i = 0 ∨ i = 1 ∨ i = 2 ∨ i = 3 ∨ i = 4 ∨ i = 5 := by omega
      rcases this with rfl | rfl | rfl | rfl | rfl | rfl
      · exact ⟨9, rfl, by omega⟩
      · exact ⟨5, rfl, by omega⟩
      · exact ⟨7, rfl, by omega⟩
      · exact ⟨9, rfl, by omega⟩
      · exact ⟨5, rfl, by omega⟩
      · exact ⟨7, rfl, by omega⟩
    unfold b_law_2l
    simp
    refine ⟨_, hm, ?_⟩
    refine two_ok (b := 150 * i) (m := m) ⟨hJ2, .refl⟩ (by omega) (by omega) fun one other μ3 l1 k1 l2 k2 s3 => ?_
    simp
    unfold b_law_2l_2
    simp
    refine ⟨one, other, rfl, by omega, by omega, ?_⟩
    have hrep := rep_all14 (one := one) (other := other) (by omega)
    have hcount : (picksA one other).length ≤ 512 := Nat.le_trans (picksA_le one other) (Nat.le_trans (Nat.pow_le_pow_right (by decide) (show one.length ≤ 9 by omega)) (by decide))
    unfold b_law_2l_3
    simp
    refine ⟨one, other, rfl, by omega, by omega, by omega, trivial, by rw [List.length_map]; omega, hrep, hrep, ?_⟩
    rw [if_pos rfl]
    unfold b_law_2l_4
    simp
    refine take_ok (m := 4) s3 (by omega) (by omega) (by omega) fun many μ5 hmany s5 => ?_
    unfold b_law_2l_5
    simp [-lcD, -List.map_take]
    refine ⟨one, other, many, rfl, by omega, by omega, by omega, ?_⟩
    have hrep2 : repOk (.lst (((picksA one other).take many).map (pairD one other))) := by
      refine (shw_lst (w := 2 * (549 + 1)) (k := 2) (n := 4) (fun x hx => ?_) (by rw [List.length_map, List.length_take]; omega)).rep (by omega) (by omega)
      obtain ⟨p, hp', rfl⟩ := List.mem_map.mp hx
      obtain ⟨a, b⟩ := allA_small one other one.length p ((picksA_perm one other).mem_iff.mpr (List.mem_of_mem_take hp'))
      refine shw_tup (w := 549) (k := 1) (n := 2) (fun x hx => ?_) (by simp)
      rcases List.mem_cons.mp hx with rfl | hx
      · exact (shw_tup (w := 60) (k := 0) (n := 9) (shw_nats (fun x hx => by have := b x hx; omega) (by omega)) (by unfold nats; rw [List.length_map]; omega)).mono (by omega) (by omega)
      · rw [List.mem_singleton.mp hx]
        exact (shw_nat (by omega)).mono (by omega) (by omega)
    refine ⟨hrep2, ?_⟩
    have ecut : cut ((picksA one other).map tupD) none (some ((many : Nat) : Int)) = ((picksA one other).take many).map tupD := by
      unfold cut
      rw [HT.sIx_none, List.drop_zero, Nat.sub_zero, HT.sIx_nat, List.map_take]
      by_cases h : many ≤ ((picksA one other).map tupD).length
      · rw [Nat.min_eq_left h]
      · rw [Nat.min_eq_right (by omega), List.take_of_length_le (Nat.le_refl _), List.take_of_length_le (by omega)]
    rw [ecut]
    refine lcD_list ((picksA one other).take many) tupD (pairD one other) trivial (by rw [List.length_take]; show _ ≤ 16777216; omega) (fun p hp kk hk => ?_) ?_
    · simp
      exact hk
    · refine ⟨hrep2, ?_⟩
      rw [if_pos rfl]
      unfold b_law_2l_6
      simp
      refine ⟨one, other, rfl, by omega, by omega, by omega, trivial, by rw [List.length_map]; omega, hrep, hrep, ?_⟩
      rw [if_pos rfl]
      exact hnx _ _ ⟨⟨_, _, _, _, _, _, rfl⟩, s5.1.le (by omega)⟩
  · rintro ρ μ' ⟨⟨x2, x3, x4, x5, x6, x7, rfl⟩, hJ2⟩
    unfold b_law_3
    simp
    refine ⟨[], [97, 98], rfl, by simp, by simp, by simp, trivial, ?_, ?_, ?_⟩
    · rw [show picksA [] [97, 98] = [[]] from rfl]; decide
    · rw [show picksA [] [97, 98] = [[]] from rfl]
      exact okEq_of (by exact ⟨trivial, trivial⟩) (by exact ⟨trivial, trivial⟩) (by decide) (by decide)
    · rw [show picksA [] [97, 98] = [[]] from rfl]
      exact q _
end DL

namespace DL
open PySem PySem.Spec PyProof.Rows L2
theorem end_law : ∀ ns : List Int, ns.length ≤ 63 → sp_law [.scr ns] (fun _ => none) fun v _ => v = .bl true := fun ns h => ⟨ns, rfl, h, fun _ => rfl⟩
def topS (i : Nat) : Stmt := PySem.Challenge.pw_carbonpad_k14_picks_listed.main.body.getD i (.Pass ⟨0, 0, 0, 0⟩)
section
variable {P : Program} {w : World} {K : PySem.W.Frag} {mg : Str → Option Value} {base : Heap}
abbrev s_picks_behind : Stmt := topS 1
theorem sc_picks_behind : GScope ["one", "other", "begun", "begin", "place"] ["one", "other", "begun", "begin"] (defScope s_picks_behind) := ⟨rfl, rfl, rfl, by decide +kernel, rfl, by decide +kernel, by decide +kernel⟩
theorem calm_picks_behind {f : Addr} {fd : FuncData} (F : Fun K "picks_behind" "picks_behind" s_picks_behind f fd) (hG : mg "picks_behind" = some (.ref f)) (hk : PySem.W.keepIn K (.ref f) = true) (hb : Binds K fd ["one", "other", "begun", "begin"] []) (m_len : mg "len" = none) (m_range : mg "range" = none) : ∀ n : Nat, CalM P w K mg base (3 * n) "picks_behind" (spm_picks_behind n) := by
  intro n
  induction n with
  | zero => exact ⟨f, fd, ["one", "other", "begun", "begin"], hG, hk, GFnM.never spm0_picks_behind, hb⟩
  | succ n ih =>
    refine ⟨f, fd, ["one", "other", "begun", "begin"], hG, hk, ?_, hb⟩
    refine GFnM.of (k := 3 * n + 2) F sc_picks_behind (by decide +kernel) (lenm_picks_behind _) (bw_picks_behind (spm_picks_behind n)) (okm_picks_behind n) fun cdv A g gi ga e1 e2 e3 e4 e5 W hz room => ?_
    have nd := sc_picks_behind.nd
    subst e1 e2 e3 e4 e5
    exact (wm_cons (wm_yield W hz (fun s0 H0 => (de_var (pv 2))))
  (wm_last (wm_if (fun s0 H0 => (dt_cmp op_ltA ops_lt (dw (de_fnB call_lenA cs_len (by rfl) m_len (by decide +kernel) (daw_cons (dw_var (pv 2)) daw_nil))) (dw (de_fnB call_lenA cs_len (by rfl) m_len (by decide +kernel) (daw_cons (dw_var (pv 1)) daw_nil))) (nomark _))) (wm_last (wm_for W hz (fun s0 H0 => (di_rng2 (by rfl) m_range (da_cons (de_var (pv 3)) (da_cons (de_fnB call_lenA cs_len (by rfl) m_len (by decide +kernel) (daw_cons (dw_var (pv 0)) daw_nil)) da_nil)))) (fun s0 H0 B => (dg_name (pg_name (i := 4) nd rfl (by first | exact Or.inl rfl | exact Or.inr rfl))))
  (wm_last (wm_if (fun s0 H0 => (dt_cmp (op_eqA room.units) ops_eq (dw (de_ix (dw_var (pv 0)) (dw_var (pv 4)) (fun _ _ => rfl))) (dw (de_ix (dw_var (pv 1)) (dw (de_fnB call_lenA cs_len (by rfl) m_len (by decide +kernel) (daw_cons (dw_var (pv 2)) daw_nil))) (fun _ _ => rfl))) (nomark _))) (wm_last (wm_yf W hz ih room (fun s0 H0 => by rfl) (fun s0 H0 => (da_cons (de_var (pv 0)) (da_cons (de_var (pv 1)) (da_cons (de_tup (da_star (dw_var (pv 2)) (da_cons (de_var (pv 4)) da_nil))) (da_cons (de_op op_addA ops_add (dw_var (pv 4)) (dw de_int)) da_nil))))))) wm_nil)))) wm_nil)))
abbrev s_each_pick : Stmt := topS 2
theorem sc_each_pick : GScope ["one", "other"] ["one", "other"] (defScope s_each_pick) := ⟨rfl, rfl, rfl, by decide +kernel, rfl, by decide +kernel, by decide +kernel⟩
theorem fnm_each_pick {f : Addr} {fd : FuncData} (F : Fun K "each_pick" "each_pick" s_each_pick f fd) (c_picks_behind : CalM P w K mg base 30 "picks_behind" (spm_picks_behind 10)) : GFnM P w K mg base 33 f fd ["one", "other"] spm_each_pick := by
  refine GFnM.of (k := 32) F sc_each_pick (by decide +kernel) lenm_each_pick bw_each_pick okm_each_pick fun cdv A g gi ga e1 e2 e3 e4 e5 W hz room => ?_
  have nd := sc_each_pick.nd
  subst e1 e2 e3 e4 e5
  exact (wm_last (wm_yf W hz c_picks_behind (room.mono (by decide)) (fun s0 H0 => by rfl) (fun s0 H0 => (da_cons (de_var (pv 0)) (da_cons (de_var (pv 1)) (da_cons (de_tup da_nil) (da_cons de_int da_nil)))))))
abbrev s_law_jar : Stmt := topS 4
theorem sc_law_jar : FnScope ["_law_script", "_law_cell"] ["_law_script"] (defScope s_law_jar) := ⟨rfl, rfl, rfl, by decide +kernel, rfl, by decide +kernel, by decide +kernel⟩
theorem fn_law_jar {f : Addr} {fd : FuncData} (F : Fun K "_law_jar" "_law_jar" s_law_jar f fd) (m_abs : mg "abs" = none) : FnG P w K mg base L2.CX0 1 f fd ["_law_script"] (liftP K mg sp_law_jar) := by
  refine FnG.ofD (k := 0) F sc_law_jar len_law_jar b_law_jar ok_law_jar fun cdv A outer s H E B quiet room => ?_
  have nd := sc_law_jar.nd
  exact (ds_last (ds_ret (de_M (df_lst (da_cons (de_M (df_lc (own := [("_law_cell", 1)]) (ns := [1]) rfl nd (di_each (de_slice (dw_var (pv 0)) do_none (do_some de_int))) (blkOk_by (by kernel_rfl)) (by decide) (fun _ _ _ _ _ _ => (dg_name (pg_name (i := 1) nd rfl (by first | exact Or.inl rfl | exact Or.inr rfl)))) (fun _ _ _ _ _ => dts_nil) (fun _ _ _ _ _ => (de_fnB call_abs cs_abs (by rfl) m_abs (by decide +kernel) (daw_cons (dw_var (pv 1)) daw_nil))))) (da_cons de_int da_nil))))))
abbrev s_law_take : Stmt := topS 5
theorem sc_law_take : FnScope ["_law_jar_here", "_law_many", "_law_cells", "_law_great", "_law_digit", "_law_cell", "_law_mixed", "_law_k"] ["_law_jar_here", "_law_many"] (defScope s_law_take) := ⟨rfl, rfl, rfl, by decide +kernel, rfl, by decide +kernel, by decide +kernel⟩
theorem fn_law_take {f : Addr} {fd : FuncData} (F : Fun K "_law_take" "_law_take" s_law_take f fd) (m_enumerate : mg "enumerate" = none) (m_len : mg "len" = none) : FnG P w K mg base L2.CX0 1 f fd ["_law_jar_here", "_law_many"] (liftP K mg sp_law_take) := by
  refine FnG.ofD (k := 0) F sc_law_take len_law_take b_law_take ok_law_take fun cdv A outer s H E B quiet room => ?_
  have nd := sc_law_take.nd
  exact (ds_cons (ds_setR (fun _ h => ps_set (i := 2) nd rfl (by first | exact Or.inl rfl | exact Or.inr rfl) h) (dr_E (de_ix (dw_var (pv 0)) (dw de_int) (fun _ _ => rfl))))
  (ds_cons (ds_putM (de_op op_addA ops_add (dw (de_ix (dw_var (pv 0)) (dw de_int) (fun _ _ => rfl))) (dw de_int)) (de_var (pv 0)) (dw de_int))
  (ds_cons (ds_setLc (i := 3) (own := [("_law_k", 7), ("_law_cell", 5)]) (ns := [7, 5]) rfl nd rfl rfl (sw_true rfl rfl rfl (by decide +kernel)) (di_enum (by rfl) m_enumerate (da_cons (de_var (pv 2)) da_nil)) (blkOk_by (by kernel_rfl)) (by decide) (fun _ _ _ _ _ _ => (dg_tup rfl (dgs_cons (dg_name (pg_name (i := 7) nd rfl (by first | exact Or.inl rfl | exact Or.inr rfl))) (dgs_cons (dg_name (pg_name (i := 5) nd rfl (by first | exact Or.inl rfl | exact Or.inr rfl))) dgs_nil)))) (fun _ _ _ _ _ => (dts_one (dt_cmp op_ge ops_ge (dw_var (pv 5)) (dw (de_op op_pow ops_pow (dw de_int) (dw de_int))) (nomark _)))) (fun _ _ _ _ _ => (de_var (pv 7))) (hr := fun _ _ _ _ _ q => lr_val q))
  (ds_cons (ds_if (dt_cmp (op_neA room.units) ops_ne (dw_var (pv 3)) (dw (de_lst da_nil)) (nomark _))
  (ds_cons (ds_setR (fun _ h => ps_set (i := 4) nd rfl (by first | exact Or.inl rfl | exact Or.inr rfl) h) (dr_E (de_op op_mod ops_mod (dw (de_ix (dw_var (pv 2)) (dw (de_ix (dw_var (pv 3)) (dw de_int) (fun _ _ => rfl))) (fun _ _ => rfl))) (dw_var (pv 1)))))
  (ds_cons (ds_putM (de_op op_divA ops_div (dw (de_ix (dw_var (pv 2)) (dw (de_ix (dw_var (pv 3)) (dw de_int) (fun _ _ => rfl))) (fun _ _ => rfl))) (dw_var (pv 1))) (de_var (pv 2)) (dw (de_ix (dw_var (pv 3)) (dw de_int) (fun _ _ => rfl))))
  (ds_last (ds_retName (pv 4)))))
  ds_nil)
  (ds_cons (ds_setR (fun _ h => ps_set (i := 5) nd rfl (by first | exact Or.inl rfl | exact Or.inr rfl) h) (dr_E (de_ix (dw (de_op op_addA ops_add (dw_var (pv 2)) (dw (de_lst (da_cons de_int da_nil))))) (dw (de_op op_mod ops_mod (dw (de_ix (dw_var (pv 0)) (dw de_int) (fun _ _ => rfl))) (dw (de_op op_addA ops_add (dw (de_fnB call_lenA cs_len (by rfl) m_len (by decide +kernel) (daw_cons (dw_var (pv 2)) daw_nil))) (dw de_int))))) (fun _ _ => rfl))))
  (ds_cons (ds_setR (fun _ h => ps_set (i := 6) nd rfl (by first | exact Or.inl rfl | exact Or.inr rfl) h) (dr_E (de_op op_mod ops_mod (dw (de_op op_pow ops_pow (dw (de_op op_addA ops_add (dw (de_op op_addA ops_add (dw (de_op op_mod ops_mod (dw_var (pv 5)) (dw de_int))) (dw (de_op op_mulA ops_mul (dw de_int) (dw (de_ix (dw_var (pv 0)) (dw de_int) (fun _ _ => rfl))))))) (dw de_int))) (dw de_int))) (dw de_int))))
  (ds_cons (ds_setR (fun _ h => ps_set (i := 6) nd rfl (by first | exact Or.inl rfl | exact Or.inr rfl) h) (dr_E (de_op op_mod ops_mod (dw (de_op op_pow ops_pow (dw (de_op op_addA ops_add (dw_var (pv 6)) (dw (de_op op_mulA ops_mul (dw (de_op op_mulA ops_mul (dw de_int) (dw (de_ix (dw_var (pv 0)) (dw de_int) (fun _ _ => rfl))))) (dw (de_ix (dw_var (pv 0)) (dw de_int) (fun _ _ => rfl))))))) (dw de_int))) (dw de_int))))
  (ds_last (ds_ret (de_op op_mod ops_mod (dw (de_op op_divA ops_div (dw_var (pv 6)) (dw de_int))) (dw_var (pv 1))))))))))))
abbrev s_law_any : Stmt := topS 6
theorem sc_law_any : FnScope ["_law_jar_here", "_law_items"] ["_law_jar_here", "_law_items"] (defScope s_law_any) := ⟨rfl, rfl, rfl, by decide +kernel, rfl, by decide +kernel, by decide +kernel⟩
theorem fn_law_any {f : Addr} {fd : FuncData} (F : Fun K "_law_any" "_law_any" s_law_any f fd) (m_len : mg "len" = none) (c_law_take : Cal P w K mg base L2.CX0 1 "_law_take" sp_law_take) : FnG P w K mg base L2.CX0 2 f fd ["_law_jar_here", "_law_items"] (liftP K mg sp_law_any) := by
  refine FnG.ofD (k := 1) F sc_law_any len_law_any b_law_any ok_law_any fun cdv A outer s H E B quiet room => ?_
  have nd := sc_law_any.nd
  exact (ds_last (ds_ret (de_ix (dw_var (pv 1)) (dw (de_call c_law_take quiet (room.mono (by decide)) (by rfl) (da_cons (de_var (pv 0)) (da_cons (de_fnB call_lenA cs_len (by rfl) m_len (by decide +kernel) (daw_cons (dw_var (pv 1)) daw_nil)) da_nil)))) (fun _ _ => rfl))))
abbrev s_law_drawn : Stmt := topS 7
theorem sc_law_drawn : FnScope ["_law_jar_here", "_law_most", "_law_names", "_law_size", "_law_found", "_law_part", "_law_k"] ["_law_jar_here", "_law_most"] (defScope s_law_drawn) := ⟨rfl, rfl, rfl, by decide +kernel, rfl, by decide +kernel, by decide +kernel⟩
theorem fn_law_drawn {f : Addr} {fd : FuncData} (F : Fun K "_law_drawn" "_law_drawn" s_law_drawn f fd) (m_range : mg "range" = none) (c_law_any : Cal P w K mg base L2.CX0 2 "_law_any" sp_law_any) (c_law_take : Cal P w K mg base L2.CX0 1 "_law_take" sp_law_take) : FnG P w K mg base L2.CX0 3 f fd ["_law_jar_here", "_law_most"] (liftP K mg sp_law_drawn) := by
  refine FnG.ofD (k := 2) F sc_law_drawn len_law_drawn b_law_drawn ok_law_drawn fun cdv A outer s H E B quiet room => ?_
  have nd := sc_law_drawn.nd
  exact (ds_cons (ds_setR (fun _ h => ps_set (i := 2) nd rfl (by first | exact Or.inl rfl | exact Or.inr rfl) h) (dr_E (de_call c_law_any quiet (room.mono (by decide)) (by rfl) (da_cons (de_var (pv 0)) (da_cons (de_lst (da_cons (de_str [97]) (da_cons (de_str [97, 98]) (da_cons (de_str [97, 98, 99]) (da_cons (de_str [97, 97, 98]) (da_cons (de_str [97, 98, 99, 100, 101, 102, 103, 104, 105, 106, 107, 108, 109, 110, 111, 112, 113, 114, 115, 116, 117, 118, 119, 120, 121, 122]) da_nil)))))) da_nil)))))
  (ds_cons (ds_setR (fun _ h => ps_set (i := 3) nd rfl (by first | exact Or.inl rfl | exact Or.inr rfl) h) (dr_E (de_call c_law_take quiet (room.mono (by decide)) (by rfl) (da_cons (de_var (pv 0)) (da_cons (de_op op_addA ops_add (dw_var (pv 1)) (dw de_int)) da_nil)))))
  (ds_cons (ds_setR (fun _ h => ps_set (i := 4) nd rfl (by first | exact Or.inl rfl | exact Or.inr rfl) h) (dr_E (de_mt PySem.F.plainAttrs_str PySem.F.slot_str_join PySem.F.type_str_join mt_join ms_join (dw (de_str [])) (daw_cons (dw (de_F (df_lc (own := [("_law_k", 6)]) (ns := [6]) rfl nd (di_rng1 (by rfl) m_range (da_cons (de_var (pv 3)) da_nil)) (blkOk_by (by kernel_rfl)) (by decide) (fun _ _ _ _ _ _ => (dg_name (pg_name (i := 6) nd rfl (by first | exact Or.inl rfl | exact Or.inr rfl)))) (fun _ _ _ _ _ => dts_nil) (fun _ _ _ _ _ => (de_call c_law_any quiet (room.mono (by decide)) (by rfl) (da_cons (de_var (pv 0)) (da_cons (de_var (pv 2)) da_nil))))))) daw_nil))))
  (ds_cons (ds_if (DPW.dt (dpw_and (dt_cmp op_gt ops_gt (dw_var (pv 3)) (dw de_int) (nomark _)) (dpw_and1 (dt_cmp (op_eqA room.units) ops_eq (dw (de_call c_law_take quiet (room.mono (by decide)) (by rfl) (da_cons (de_var (pv 0)) (da_cons de_int da_nil)))) (dw de_int) (nomark _)))))
  (ds_cons (ds_setR (fun _ h => ps_set (i := 5) nd rfl (by first | exact Or.inl rfl | exact Or.inr rfl) h) (dr_E (de_op op_addA ops_add (dw de_int) (dw (de_call c_law_take quiet (room.mono (by decide)) (by rfl) (da_cons (de_var (pv 0)) (da_cons (de_var (pv 3)) da_nil)))))))
  (ds_last (ds_setR (fun _ h => ps_set (i := 4) nd rfl (by first | exact Or.inl rfl | exact Or.inr rfl) h) (dr_E (de_slice (dw (de_op op_mulA ops_mul (dw (de_slice (dw_var (pv 4)) do_none (do_some (de_var (pv 5))))) (dw_var (pv 3)))) do_none (do_some (de_var (pv 3))))))))
  ds_nil)
  (ds_last (ds_retName (pv 4)))))))
abbrev s_law_mate : Stmt := topS 8
theorem sc_law_mate : FnScope ["_law_jar_here", "_law_word", "_law_most", "_law_way", "_law_kept", "_law_fresh", "_law_letter"] ["_law_jar_here", "_law_word", "_law_most"] (defScope s_law_mate) := ⟨rfl, rfl, rfl, by decide +kernel, rfl, by decide +kernel, by decide +kernel⟩
theorem fn_law_mate {f : Addr} {fd : FuncData} (F : Fun K "_law_mate" "_law_mate" s_law_mate f fd) (c_law_drawn : Cal P w K mg base L2.CX0 3 "_law_drawn" sp_law_drawn) (c_law_take : Cal P w K mg base L2.CX0 1 "_law_take" sp_law_take) : FnG P w K mg base L2.CX0 4 f fd ["_law_jar_here", "_law_word", "_law_most"] (liftP K mg sp_law_mate) := by
  refine FnG.ofD (k := 3) F sc_law_mate len_law_mate b_law_mate ok_law_mate fun cdv A outer s H E B quiet room => ?_
  have nd := sc_law_mate.nd
  exact (ds_cons (ds_setR (fun _ h => ps_set (i := 3) nd rfl (by first | exact Or.inl rfl | exact Or.inr rfl) h) (dr_E (de_call c_law_take quiet (room.mono (by decide)) (by rfl) (da_cons (de_var (pv 0)) (da_cons de_int da_nil)))))
  (ds_cons (ds_setR (fun _ h => ps_set (i := 4) nd rfl (by first | exact Or.inl rfl | exact Or.inr rfl) h) (dr_E (de_mt PySem.F.plainAttrs_str PySem.F.slot_str_join PySem.F.type_str_join mt_join ms_join (dw (de_str [])) (daw_cons (dw (de_F (df_lc (own := [("_law_letter", 6)]) (ns := [6]) rfl nd (di_each (de_var (pv 1))) (blkOk_by (by kernel_rfl)) (by decide) (fun _ _ _ _ _ _ => (dg_name (pg_name (i := 6) nd rfl (by first | exact Or.inl rfl | exact Or.inr rfl)))) (fun _ _ _ _ _ => (dts_one (dt_cmp op_gt ops_gt (dw (de_call c_law_take quiet (room.mono (by decide)) (by rfl) (da_cons (de_var (pv 0)) (da_cons de_int da_nil)))) (dw de_int) (nomark _)))) (fun _ _ _ _ _ => (de_var (pv 6)))))) daw_nil))))
  (ds_cons (ds_setR (fun _ h => ps_set (i := 5) nd rfl (by first | exact Or.inl rfl | exact Or.inr rfl) h) (dr_E (de_call c_law_drawn quiet (room.mono (by decide)) (by rfl) (da_cons (de_var (pv 0)) (da_cons (de_var (pv 2)) da_nil)))))
  (ds_last (ds_ret (de_slice (dw (de_ix (dw (de_lst (da_cons (de_op op_addA ops_add (dw_var (pv 4)) (dw_var (pv 5))) (da_cons (de_rev (dw_var (pv 1))) (da_cons (de_var (pv 4)) (da_cons (de_op op_addA ops_add (dw_var (pv 1)) (dw_var (pv 5))) (da_cons (de_var (pv 5)) da_nil))))))) (dw_var (pv 3)) (fun _ _ => rfl))) do_none (do_some (de_var (pv 2)))))))))
abbrev s_law_two : Stmt := topS 9
theorem sc_law_two : FnScope ["_law_jar_here", "_law_most", "_law_one"] ["_law_jar_here", "_law_most"] (defScope s_law_two) := ⟨rfl, rfl, rfl, by decide +kernel, rfl, by decide +kernel, by decide +kernel⟩
theorem fn_law_two {f : Addr} {fd : FuncData} (F : Fun K "_law_two" "_law_two" s_law_two f fd) (c_law_drawn : Cal P w K mg base L2.CX0 3 "_law_drawn" sp_law_drawn) (c_law_mate : Cal P w K mg base L2.CX0 4 "_law_mate" sp_law_mate) : FnG P w K mg base L2.CX0 5 f fd ["_law_jar_here", "_law_most"] (liftP K mg sp_law_two) := by
  refine FnG.ofD (k := 4) F sc_law_two len_law_two b_law_two ok_law_two fun cdv A outer s H E B quiet room => ?_
  have nd := sc_law_two.nd
  exact (ds_cons (ds_setR (fun _ h => ps_set (i := 2) nd rfl (by first | exact Or.inl rfl | exact Or.inr rfl) h) (dr_E (de_call c_law_drawn quiet (room.mono (by decide)) (by rfl) (da_cons (de_var (pv 0)) (da_cons (de_var (pv 1)) da_nil)))))
  (ds_last (ds_ret (de_lst (da_cons (de_var (pv 2)) (da_cons (de_call c_law_mate quiet (room.mono (by decide)) (by rfl) (da_cons (de_var (pv 0)) (da_cons (de_var (pv 2)) (da_cons (de_var (pv 1)) da_nil)))) da_nil))))))
abbrev s_lawS_all : Stmt := topS 10
theorem sc_lawS_all : FnScope ["_law_one", "_law_other", "_law_found", "_law_place", "_law_some"] ["_law_one", "_law_other"] (defScope s_lawS_all) := ⟨rfl, rfl, rfl, by decide +kernel, rfl, by decide +kernel, by decide +kernel⟩
theorem fn_lawS_all {f : Addr} {fd : FuncData} (F : Fun K "_law_all" "_law_all" s_lawS_all f fd) (m_len : mg "len" = none) (m_range : mg "range" = none) (m_sorted : mg "sorted" = none) : FnG P w K mg base L2.CX0 1 f fd ["_law_one", "_law_other"] (liftP K mg sp_lawS_all) := by
  refine FnG.ofD (k := 0) F sc_lawS_all len_lawS_all b_lawS_all ok_lawS_all fun cdv A outer s H E B quiet room => ?_
  have nd := sc_lawS_all.nd
  exact (ds_cons (ds_setR (fun _ h => ps_set (i := 2) nd rfl (by first | exact Or.inl rfl | exact Or.inr rfl) h) (dr_E (de_lst (da_cons (de_tup da_nil) da_nil))))
  (ds_cons (ds_for PassesOwn.never rfl (di_rng1 (by rfl) m_range (da_cons (de_fnB call_lenA cs_len (by rfl) m_len (by decide +kernel) (daw_cons (dw_var (pv 0)) daw_nil)) da_nil)) (dg_name (pg_name (i := 3) nd rfl (by first | exact Or.inl rfl | exact Or.inr rfl)))
  (ds_last (ds_setR (fun _ h => ps_set (i := 2) nd rfl (by first | exact Or.inl rfl | exact Or.inr rfl) h) (dr_E (de_op op_addA ops_add (dw_var (pv 2)) (dw (de_F (df_lc (own := [("_law_some", 4)]) (ns := [4]) rfl nd (di_each (de_var (pv 2))) (blkOk_by (by kernel_rfl)) (by decide) (fun _ _ _ _ _ _ => (dg_name (pg_name (i := 4) nd rfl (by first | exact Or.inl rfl | exact Or.inr rfl)))) (fun _ _ _ _ _ => (dts_one (dt_cmp (op_eqA room.units) ops_eq (dw (de_slice (dw_var (pv 1)) (do_some (de_fnB call_lenA cs_len (by rfl) m_len (by decide +kernel) (daw_cons (dw_var (pv 4)) daw_nil))) (do_some (de_op op_addA ops_add (dw (de_fnB call_lenA cs_len (by rfl) m_len (by decide +kernel) (daw_cons (dw_var (pv 4)) daw_nil))) (dw de_int))))) (dw (de_ix (dw_var (pv 0)) (dw_var (pv 3)) (fun _ _ => rfl))) (nomark _)))) (fun _ _ _ _ _ => (de_op op_addA ops_add (dw_var (pv 4)) (dw (de_tup (da_cons (de_var (pv 3)) da_nil)))))))))))))
  (ds_last (ds_ret (de_F (df_sortU room.units (by rfl) m_sorted (daw_cons (dw_var (pv 2)) daw_nil)))))))
abbrev s_law_begun : Stmt := topS 11
theorem sc_law_begun : FnScope ["_law_one", "_law_other", "_law_many", "_law_found", "_law_pick"] ["_law_one", "_law_other", "_law_many"] (defScope s_law_begun) := ⟨rfl, rfl, rfl, by decide +kernel, rfl, by decide +kernel, by decide +kernel⟩
theorem fn_law_begun {f : Addr} {fd : FuncData} (F : Fun K "_law_begun" "_law_begun" s_law_begun f fd) (m_len : mg "len" = none) (m_list : mg "list" = none) (c_each_pick : CalM P w K mg base 33 "each_pick" spm_each_pick) : FnM P w K mg base 37 f fd ["_law_one", "_law_other", "_law_many"] sp_law_begun := by
  refine FnM.of (k := 36) F sc_law_begun len_law_begun b_law_begun ok_law_begun fun cdv A outer s H E B quiet room => ?_
  have nd := sc_law_begun.nd
  exact (mds_cons (MPS.of rfl (ds_setR (fun _ h => ps_set (i := 3) nd rfl (by first | exact Or.inl rfl | exact Or.inr rfl) h) (dr_F (df_lst da_nil))))
  (mds_cons (mds_forM rfl rfl c_each_pick (room.mono (by decide)) (by rfl) (da_cons (de_var (pv 0)) (da_cons (de_var (pv 1)) da_nil)) (dg_name (pg_name (i := 4) nd rfl (by first | exact Or.inl rfl | exact Or.inr rfl)))
  (m0_cons (M0S.of rfl (ds_if (dt_cmp (op_eqA room.units) ops_eq (dw (de_fnB call_lenA cs_len (by rfl) m_len (by decide +kernel) (daw_cons (dw_var (pv 3)) daw_nil))) (dw_var (pv 2)) (nomark _))
  (ds_last ds_break)
  ds_nil))
  (m0_last (m0_app (fun _ h => m0s_expr rfl (m0e_bm rfl PySem.F.plainAttrs_list PySem.F.slot_list_append PySem.F.type_list_append mt_append (pv 3) h)) (m0de_tup rfl (m0da_cons (M0PE.of rfl (de_var (pv 4))) (m0da_cons (m0e_fnB1 rfl call_lenA cs_len (by rfl) m_len (by decide +kernel) (m0e_listM rfl rfl c_each_pick (room.mono (by decide)) (by rfl) (da_cons (de_var (pv 0)) (da_cons (de_var (pv 1)) da_nil)) (by rfl) m_list)) m0da_nil)))))))
  (MPSs.of rfl (ds_last (ds_retName (pv 3))))))
abbrev s_law : Stmt := topS 12
theorem sc_law : FnScope ["_law_script", "_law_jar_here", "_law_turn", "_law_one", "_law_other", "_law_due", "_law_many", "_law_pick"] ["_law_script"] (defScope s_law) := ⟨rfl, rfl, rfl, by decide +kernel, rfl, by decide +kernel, by decide +kernel⟩
theorem fn_law {f : Addr} {fd : FuncData} (F : Fun K "law" "law" s_law f fd) (m_len : mg "len" = none) (m_list : mg "list" = none) (m_range : mg "range" = none) (m_repr : mg "repr" = none) (c_lawS_all : Cal P w K mg base L2.CX0 1 "_law_all" sp_lawS_all) (c_law_jar : Cal P w K mg base L2.CX0 1 "_law_jar" sp_law_jar) (c_law_take : Cal P w K mg base L2.CX0 1 "_law_take" sp_law_take) (c_law_two : Cal P w K mg base L2.CX0 5 "_law_two" sp_law_two) (c_law_begun : CalF P w K mg base 37 "_law_begun" sp_law_begun) (c_each_pick : CalM P w K mg base 33 "each_pick" spm_each_pick) : FnM P w K mg base 38 f fd ["_law_script"] sp_law := by
  refine FnM.of (k := 37) F sc_law len_law b_law ok_law fun cdv A outer s H E B quiet room => ?_
  have nd := sc_law.nd
  exact (mds_cons (MPS.of rfl (ds_setR (fun _ h => ps_set (i := 1) nd rfl (by first | exact Or.inl rfl | exact Or.inr rfl) h) (dr_E (de_call c_law_jar quiet (room.mono (by decide)) (by rfl) (da_cons (de_var (pv 0)) da_nil)))))
  (mds_cons (mds_for rfl rfl (di_rng1 (by rfl) m_range (da_cons de_int da_nil)) (dg_name (pg_name (i := 2) nd rfl (by first | exact Or.inl rfl | exact Or.inr rfl)))
  (mds_cons (MPS.of rfl (ds_asg (de_call c_law_two quiet (room.mono (by decide)) (by rfl) (da_cons (de_var (pv 1)) (da_cons (de_ix (dw (de_lst (da_cons de_int (da_cons de_int (da_cons de_int da_nil))))) (dw (de_op op_mod ops_mod (dw_var (pv 2)) (dw de_int))) (fun _ _ => rfl)) da_nil))) (dg_unl rfl (dgs_cons (dg_name (pg_name (i := 3) nd rfl (by first | exact Or.inl rfl | exact Or.inr rfl))) (dgs_cons (dg_name (pg_name (i := 4) nd rfl (by first | exact Or.inl rfl | exact Or.inr rfl))) dgs_nil)))))
  (mds_cons (MPS.of rfl (ds_setR (fun _ h => ps_set (i := 5) nd rfl (by first | exact Or.inl rfl | exact Or.inr rfl) h) (dr_E (de_call c_lawS_all quiet (room.mono (by decide)) (by rfl) (da_cons (de_var (pv 3)) (da_cons (de_var (pv 4)) da_nil))))))
  (mds_cons (mds_if (mdt_cmp rfl (op_neA room.units) ops_ne (mdw (mde_fnB1 rfl (call_reprA quiet room.units) cs_repr (by rfl) m_repr (by decide +kernel) (mdw (mde_listM rfl rfl c_each_pick (room.mono (by decide)) (by rfl) (da_cons (de_var (pv 3)) (da_cons (de_var (pv 4)) da_nil)) (by rfl) m_list)))) (MPE.of rfl (dw (de_fnB (call_reprA quiet room.units) cs_repr (by rfl) m_repr (by decide +kernel) (daw_cons (dw_var (pv 5)) daw_nil)))) (nomark _))
  (MPSs.of rfl (ds_last (ds_ret de_bl)))
  (MPSs.of rfl ds_nil))
  (mds_cons (MPS.of rfl (ds_setR (fun _ h => ps_set (i := 6) nd rfl (by first | exact Or.inl rfl | exact Or.inr rfl) h) (dr_E (de_call c_law_take quiet (room.mono (by decide)) (by rfl) (da_cons (de_var (pv 1)) (da_cons de_int da_nil))))))
  (mds_cons (mds_if (mdt_cmp rfl (op_neA room.units) ops_ne (mdw (mde_fnB1 rfl (call_reprA quiet room.units) cs_repr (by rfl) m_repr (by decide +kernel) (mdw (mde_call rfl c_law_begun quiet (room.mono (by decide)) (by rfl) (da_cons (de_var (pv 3)) (da_cons (de_var (pv 4)) (da_cons (de_var (pv 6)) da_nil))))))) (MPE.of rfl (dw (de_fnB (call_reprA quiet room.units) cs_repr (by rfl) m_repr (by decide +kernel) (daw_cons (dw (de_F (df_lc (own := [("_law_pick", 7)]) (ns := [7]) rfl nd (di_each (de_slice (dw_var (pv 5)) do_none (do_some (de_var (pv 6))))) (blkOk_by (by kernel_rfl)) (by decide) (fun _ _ _ _ _ _ => (dg_name (pg_name (i := 7) nd rfl (by first | exact Or.inl rfl | exact Or.inr rfl)))) (fun _ _ _ _ _ => dts_nil) (fun _ _ _ _ _ => (de_tup (da_cons (de_var (pv 7)) (da_cons (de_fnB call_lenA cs_len (by rfl) m_len (by decide +kernel) (daw_cons (dw_var (pv 5)) daw_nil)) da_nil))))))) daw_nil)))) (nomark _))
  (MPSs.of rfl (ds_last (ds_ret de_bl)))
  (MPSs.of rfl ds_nil))
  (mds_last (mds_if (mdt_cmp rfl (op_neA room.units) ops_ne (mdw (mde_fnB1 rfl (call_reprA quiet room.units) cs_repr (by rfl) m_repr (by decide +kernel) (mdw (mde_lcM rfl rfl c_each_pick (room.mono (by decide)) (by rfl) (da_cons (de_var (pv 3)) (da_cons (de_var (pv 4)) da_nil)) (by kernel_rfl))))) (MPE.of rfl (dw (de_fnB (call_reprA quiet room.units) cs_repr (by rfl) m_repr (by decide +kernel) (daw_cons (dw_var (pv 5)) daw_nil)))) (nomark _))
  (MPSs.of rfl (ds_last (ds_ret de_bl)))
  (MPSs.of rfl ds_nil)))))))))
  (mds_last (mds_ret (mde_cmp rfl (op_eqA room.units) ops_eq (mdw (mde_listM rfl rfl c_each_pick (room.mono (by decide)) (by rfl) (da_cons (de_str []) (da_cons (de_str [97, 98]) da_nil)) (by rfl) m_list)) (MPE.of rfl (dw (de_lst (da_cons (de_tup da_nil) da_nil)))) (nomark _))))))
end
theorem all_mk {P : Program} {w : World} {K : PySem.W.Frag} {h : Heap} {mg : Str → Option Value} {fa : Addr} (X : K.In h) (G : h.Ns mainGlobals mg) (hfa : mg "law" = some (.ref fa))
    {f0 : Addr} {od0 an0 : Option Addr} {sl0 : Array (Option Value)} {oc0 kV0 dc0 pm0 cd0 ct0 : Value}
    {f1 : Addr} {od1 an1 : Option Addr} {sl1 : Array (Option Value)} {oc1 kV1 dc1 pm1 cd1 ct1 : Value}
    {f2 : Addr} {od2 an2 : Option Addr} {sl2 : Array (Option Value)} {oc2 kV2 dc2 pm2 cd2 ct2 : Value}
    {f3 : Addr} {od3 an3 : Option Addr} {sl3 : Array (Option Value)} {oc3 kV3 dc3 pm3 cd3 ct3 : Value}
    {f4 : Addr} {od4 an4 : Option Addr} {sl4 : Array (Option Value)} {oc4 kV4 dc4 pm4 cd4 ct4 : Value}
    {f5 : Addr} {od5 an5 : Option Addr} {sl5 : Array (Option Value)} {oc5 kV5 dc5 pm5 cd5 ct5 : Value}
    {f6 : Addr} {od6 an6 : Option Addr} {sl6 : Array (Option Value)} {oc6 kV6 dc6 pm6 cd6 ct6 : Value}
    {f7 : Addr} {od7 an7 : Option Addr} {sl7 : Array (Option Value)} {oc7 kV7 dc7 pm7 cd7 ct7 : Value}
    {f8 : Addr} {od8 an8 : Option Addr} {sl8 : Array (Option Value)} {oc8 kV8 dc8 pm8 cd8 ct8 : Value}
    {f9 : Addr} {od9 an9 : Option Addr} {sl9 : Array (Option Value)} {oc9 kV9 dc9 pm9 cd9 ct9 : Value}
    {f10 : Addr} {od10 an10 : Option Addr} {sl10 : Array (Option Value)} {oc10 kV10 dc10 pm10 cd10 ct10 : Value}
    (a0 : PySem.W.nsIn K mainGlobals "picks_behind" = some (some (.ref f0))) (l0 : K.lookup f0 = some ⟨oc0, od0, .func (PySem.W.fnOf "picks_behind" "picks_behind" (defArgs s_picks_behind) (defBody s_picks_behind) (defScope s_picks_behind) .none kV0 dc0 pm0 an0 cd0 ct0), sl0⟩) (c0 : PySem.W.codeIn K cd0 "picks_behind" = true) (k0 : PySem.W.keepIn K (.ref f0) = true)
    (a1 : PySem.W.nsIn K mainGlobals "each_pick" = some (some (.ref f1))) (l1 : K.lookup f1 = some ⟨oc1, od1, .func (PySem.W.fnOf "each_pick" "each_pick" (defArgs s_each_pick) (defBody s_each_pick) (defScope s_each_pick) .none kV1 dc1 pm1 an1 cd1 ct1), sl1⟩) (c1 : PySem.W.codeIn K cd1 "each_pick" = true) (k1 : PySem.W.keepIn K (.ref f1) = true)
    (a2 : PySem.W.nsIn K mainGlobals "_law_jar" = some (some (.ref f2))) (l2 : K.lookup f2 = some ⟨oc2, od2, .func (PySem.W.fnOf "_law_jar" "_law_jar" (defArgs s_law_jar) (defBody s_law_jar) (defScope s_law_jar) .none kV2 dc2 pm2 an2 cd2 ct2), sl2⟩) (c2 : PySem.W.codeIn K cd2 "_law_jar" = true) (k2 : PySem.W.keepIn K (.ref f2) = true)
    (a3 : PySem.W.nsIn K mainGlobals "_law_take" = some (some (.ref f3))) (l3 : K.lookup f3 = some ⟨oc3, od3, .func (PySem.W.fnOf "_law_take" "_law_take" (defArgs s_law_take) (defBody s_law_take) (defScope s_law_take) .none kV3 dc3 pm3 an3 cd3 ct3), sl3⟩) (c3 : PySem.W.codeIn K cd3 "_law_take" = true) (k3 : PySem.W.keepIn K (.ref f3) = true)
    (a4 : PySem.W.nsIn K mainGlobals "_law_any" = some (some (.ref f4))) (l4 : K.lookup f4 = some ⟨oc4, od4, .func (PySem.W.fnOf "_law_any" "_law_any" (defArgs s_law_any) (defBody s_law_any) (defScope s_law_any) .none kV4 dc4 pm4 an4 cd4 ct4), sl4⟩) (c4 : PySem.W.codeIn K cd4 "_law_any" = true) (k4 : PySem.W.keepIn K (.ref f4) = true)
    (a5 : PySem.W.nsIn K mainGlobals "_law_drawn" = some (some (.ref f5))) (l5 : K.lookup f5 = some ⟨oc5, od5, .func (PySem.W.fnOf "_law_drawn" "_law_drawn" (defArgs s_law_drawn) (defBody s_law_drawn) (defScope s_law_drawn) .none kV5 dc5 pm5 an5 cd5 ct5), sl5⟩) (c5 : PySem.W.codeIn K cd5 "_law_drawn" = true) (k5 : PySem.W.keepIn K (.ref f5) = true)
    (a6 : PySem.W.nsIn K mainGlobals "_law_mate" = some (some (.ref f6))) (l6 : K.lookup f6 = some ⟨oc6, od6, .func (PySem.W.fnOf "_law_mate" "_law_mate" (defArgs s_law_mate) (defBody s_law_mate) (defScope s_law_mate) .none kV6 dc6 pm6 an6 cd6 ct6), sl6⟩) (c6 : PySem.W.codeIn K cd6 "_law_mate" = true) (k6 : PySem.W.keepIn K (.ref f6) = true)
    (a7 : PySem.W.nsIn K mainGlobals "_law_two" = some (some (.ref f7))) (l7 : K.lookup f7 = some ⟨oc7, od7, .func (PySem.W.fnOf "_law_two" "_law_two" (defArgs s_law_two) (defBody s_law_two) (defScope s_law_two) .none kV7 dc7 pm7 an7 cd7 ct7), sl7⟩) (c7 : PySem.W.codeIn K cd7 "_law_two" = true) (k7 : PySem.W.keepIn K (.ref f7) = true)
    (a8 : PySem.W.nsIn K mainGlobals "_law_all" = some (some (.ref f8))) (l8 : K.lookup f8 = some ⟨oc8, od8, .func (PySem.W.fnOf "_law_all" "_law_all" (defArgs s_lawS_all) (defBody s_lawS_all) (defScope s_lawS_all) .none kV8 dc8 pm8 an8 cd8 ct8), sl8⟩) (c8 : PySem.W.codeIn K cd8 "_law_all" = true) (k8 : PySem.W.keepIn K (.ref f8) = true)
    (a9 : PySem.W.nsIn K mainGlobals "_law_begun" = some (some (.ref f9))) (l9 : K.lookup f9 = some ⟨oc9, od9, .func (PySem.W.fnOf "_law_begun" "_law_begun" (defArgs s_law_begun) (defBody s_law_begun) (defScope s_law_begun) .none kV9 dc9 pm9 an9 cd9 ct9), sl9⟩) (c9 : PySem.W.codeIn K cd9 "_law_begun" = true) (k9 : PySem.W.keepIn K (.ref f9) = true)
    (a10 : PySem.W.nsIn K mainGlobals "law" = some (some (.ref f10))) (l10 : K.lookup f10 = some ⟨oc10, od10, .func (PySem.W.fnOf "law" "law" (defArgs s_law) (defBody s_law) (defScope s_law) .none kV10 dc10 pm10 an10 cd10 ct10), sl10⟩) (c10 : PySem.W.codeIn K cd10 "law" = true) (k10 : PySem.W.keepIn K (.ref f10) = true)
    (z_abs : PySem.W.nsIn K mainGlobals "abs" = some none)
    (z_enumerate : PySem.W.nsIn K mainGlobals "enumerate" = some none)
    (z_len : PySem.W.nsIn K mainGlobals "len" = some none)
    (z_list : PySem.W.nsIn K mainGlobals "list" = some none)
    (z_range : PySem.W.nsIn K mainGlobals "range" = some none)
    (z_repr : PySem.W.nsIn K mainGlobals "repr" = some none)
    (z_sorted : PySem.W.nsIn K mainGlobals "sorted" = some none) :
    ∃ fd : FuncData, (∀ (s : Shared) (v : Value), BindsTo s fd ⟨[v], []⟩ [("_law_script", v)]) ∧ ∀ base : Heap, K.In base → base.Ns mainGlobals mg → FnM P w K mg base 38 fa fd ["_law_script"] sp_law := by
  have e := hfa.symm.trans (PySem.W.mg_of X G a10)
  cases e
  have F0 := fun_mk (st := s_picks_behind) l0 c0 k0
  have G0 := PySem.W.mg_of X G a0
  have F1 := fun_mk (st := s_each_pick) l1 c1 k1
  have G1 := PySem.W.mg_of X G a1
  have F2 := fun_mk (st := s_law_jar) l2 c2 k2
  have G2 := PySem.W.mg_of X G a2
  have F3 := fun_mk (st := s_law_take) l3 c3 k3
  have G3 := PySem.W.mg_of X G a3
  have F4 := fun_mk (st := s_law_any) l4 c4 k4
  have G4 := PySem.W.mg_of X G a4
  have F5 := fun_mk (st := s_law_drawn) l5 c5 k5
  have G5 := PySem.W.mg_of X G a5
  have F6 := fun_mk (st := s_law_mate) l6 c6 k6
  have G6 := PySem.W.mg_of X G a6
  have F7 := fun_mk (st := s_law_two) l7 c7 k7
  have G7 := PySem.W.mg_of X G a7
  have F8 := fun_mk (st := s_lawS_all) l8 c8 k8
  have G8 := PySem.W.mg_of X G a8
  have F9 := fun_mk (st := s_law_begun) l9 c9 k9
  have G9 := PySem.W.mg_of X G a9
  have F10 := fun_mk (st := s_law) l10 c10 k10
  have m_abs := PySem.W.mg_none_of X G z_abs
  have m_enumerate := PySem.W.mg_none_of X G z_enumerate
  have m_len := PySem.W.mg_none_of X G z_len
  have m_list := PySem.W.mg_none_of X G z_list
  have m_range := PySem.W.mg_none_of X G z_range
  have m_repr := PySem.W.mg_none_of X G z_repr
  have m_sorted := PySem.W.mg_none_of X G z_sorted
  refine ⟨PySem.W.fnOf "law" "law" (defArgs s_law) (defBody s_law) (defScope s_law) .none kV10 dc10 pm10 an10 cd10 ct10, fun s v => .of_eq rfl, fun base _ _ => ?_⟩
  have b0 := F0.binds (ps := ["one", "other", "begun", "begin"]) fun _ _ _ _ _ _ us hl => match us, hl with | [_, _, _, _], _ => rfl
  have c_picks_behind : CalM P w K mg base 30 "picks_behind" (spm_picks_behind 10) := calm_picks_behind F0 G0 k0 b0 m_len m_range 10
  have b1 := F1.binds (ps := ["one", "other"]) fun _ _ _ _ _ _ us hl => match us, hl with | [_, _], _ => rfl
  have c_each_pick : CalM P w K mg base 33 "each_pick" spm_each_pick := ⟨_, _, _, G1, k1, fnm_each_pick F1 c_picks_behind, b1⟩
  have b2 := F2.binds (ps := ["_law_script"]) fun _ _ _ _ _ _ us hl => match us, hl with | [_], _ => rfl
  have c_law_jar : Cal P w K mg base L2.CX0 1 "_law_jar" sp_law_jar := Cal.of (fn_law_jar F2 m_abs) G2 k2 b2
  have b3 := F3.binds (ps := ["_law_jar_here", "_law_many"]) fun _ _ _ _ _ _ us hl => match us, hl with | [_, _], _ => rfl
  have c_law_take : Cal P w K mg base L2.CX0 1 "_law_take" sp_law_take := Cal.of (fn_law_take F3 m_enumerate m_len) G3 k3 b3
  have b4 := F4.binds (ps := ["_law_jar_here", "_law_items"]) fun _ _ _ _ _ _ us hl => match us, hl with | [_, _], _ => rfl
  have c_law_any : Cal P w K mg base L2.CX0 2 "_law_any" sp_law_any := Cal.of (fn_law_any F4 m_len c_law_take) G4 k4 b4
  have b5 := F5.binds (ps := ["_law_jar_here", "_law_most"]) fun _ _ _ _ _ _ us hl => match us, hl with | [_, _], _ => rfl
  have c_law_drawn : Cal P w K mg base L2.CX0 3 "_law_drawn" sp_law_drawn := Cal.of (fn_law_drawn F5 m_range c_law_any c_law_take) G5 k5 b5
  have b6 := F6.binds (ps := ["_law_jar_here", "_law_word", "_law_most"]) fun _ _ _ _ _ _ us hl => match us, hl with | [_, _, _], _ => rfl
  have c_law_mate : Cal P w K mg base L2.CX0 4 "_law_mate" sp_law_mate := Cal.of (fn_law_mate F6 c_law_drawn c_law_take) G6 k6 b6
  have b7 := F7.binds (ps := ["_law_jar_here", "_law_most"]) fun _ _ _ _ _ _ us hl => match us, hl with | [_, _], _ => rfl
  have c_law_two : Cal P w K mg base L2.CX0 5 "_law_two" sp_law_two := Cal.of (fn_law_two F7 c_law_drawn c_law_mate) G7 k7 b7
  have b8 := F8.binds (ps := ["_law_one", "_law_other"]) fun _ _ _ _ _ _ us hl => match us, hl with | [_, _], _ => rfl
  have c_lawS_all : Cal P w K mg base L2.CX0 1 "_law_all" sp_lawS_all := Cal.of (fn_lawS_all F8 m_len m_range m_sorted) G8 k8 b8
  have b9 := F9.binds (ps := ["_law_one", "_law_other", "_law_many"]) fun _ _ _ _ _ _ us hl => match us, hl with | [_, _, _], _ => rfl
  have c_law_begun : CalF P w K mg base 37 "_law_begun" sp_law_begun := CalF.of (fn_law_begun F9 m_len m_list c_each_pick) G9 k9 b9
  exact fn_law F10 m_len m_list m_range m_repr c_lawS_all c_law_jar c_law_take c_law_two c_law_begun c_each_pick
end DL
namespace HDR
open PySem PySem.W PySem.Calls PyProof.Rows HeadRun
theorem hd_k (k1 : PySem.Challenge.rw_carbonpad_k14_picks_listed.row.wellSaid = true) (hw : PySem.Challenge.rw_carbonpad_k14_picks_listed.row.toRowW.promised) (call : YM.WalkOM hvw hloose (XL hvw []) (Hook.says (kHook (by first | exact hmk.heap_1 | exact hmk.heap_1_1 : Params → Frag) hasL hek)) PySem.Challenge.rw_carbonpad_k14_picks_listed.row.toRowW hdL [] fun f vs => PySem.call f vs) : PySem.Challenge.rw_carbonpad_k14_picks_listed.row.Holds :=
  YM.holds_openM (q := hvw) (loose := hloose) (Xt := hXt) (XP := XL hvw []) (YP := Hook.says (kHook (by first | exact hmk.heap_1 | exact hmk.heap_1_1 : Params → Frag) hasL hek)) (d := hdL) (kwd := []) hleft (Hook.of (kHook (by first | exact hmk.heap_1 | exact hmk.heap_1_1 : Params → Frag) hasL hek)) (Hook.keeps (kHook (by first | exact hmk.heap_1 | exact hmk.heap_1_1 : Params → Frag) hasL hek)) (fun s e => xl_of s (Bool.and_eq_true_iff.mp e).1) XL.keeps (by kernel_rfl) (by kernel_rfl) (by kernel_rfl) (fun s e => recFacts_of (Bool.and_eq_true_iff.mp e).2) (by rfl) k1 (by decide +kernel) ⟨rfl, rfl, rfl, rfl, rfl, by decide +kernel⟩ hw call
end HDR
open PySem PySem.W PyProof.Rows
set_option maxHeartbeats 0 in
theorem PySem.Challenge.cw_carbonpad_k14_picks_listed_holds : PySem.Challenge.rw_carbonpad_k14_picks_listed.Holds := by
  w_on; o_law
  refine HDR.hd_k (by assumption) ?hw ?call
  (case hw => w_witness2)
  case call =>
  k_fill
  refine DL.end_gM (l := PySem.Challenge.rw_carbonpad_k14_picks_listed) (n := 63) (k := 38) (x := "_law_script") (S := DL.sp_law) rfl (by decide) rfl ⟨rfl, by decide, by decide⟩ (fun w h Y => PySem.W.kIn_of Y) ?F DL.end_law
  case F =>
    intro w mg fa h KX G hmg
    refine' DL.all_mk KX G hmg ?a0 ?l0 ?c0 ?k0 ?a1 ?l1 ?c1 ?k1 ?a2 ?l2 ?c2 ?k2 ?a3 ?l3 ?c3 ?k3 ?a4 ?l4 ?c4 ?k4 ?a5 ?l5 ?c5 ?k5 ?a6 ?l6 ?c6 ?k6 ?a7 ?l7 ?c7 ?k7 ?a8 ?l8 ?c8 ?k8 ?a9 ?l9 ?c9 ?k9 ?a10 ?l10 ?c10 ?k10 ?z_abs ?z_enumerate ?z_len ?z_list ?z_range ?z_repr ?z_sorted
    (case a0 => k_is); (case l0 => k_is); (case c0 => k_is); (case k0 => k_is)
    (case a1 => k_is); (case l1 => k_is); (case c1 => k_is); (case k1 => k_is)
    (case a2 => k_is); (case l2 => k_is); (case c2 => k_is); (case k2 => k_is)
    (case a3 => k_is); (case l3 => k_is); (case c3 => k_is); (case k3 => k_is)
    (case a4 => k_is); (case l4 => k_is); (case c4 => k_is); (case k4 => k_is)
    (case a5 => k_is); (case l5 => k_is); (case c5 => k_is); (case k5 => k_is)
    (case a6 => k_is); (case l6 => k_is); (case c6 => k_is); (case k6 => k_is)
    (case a7 => k_is); (case l7 => k_is); (case c7 => k_is); (case k7 => k_is)
    (case a8 => k_is); (case l8 => k_is); (case c8 => k_is); (case k8 => k_is)
    (case a9 => k_is); (case l9 => k_is); (case c9 => k_is); (case k9 => k_is)
    (case a10 => k_is); (case l10 => k_is); (case c10 => k_is); (case k10 => k_is)
    (case z_abs => k_is); (case z_enumerate => k_is); (case z_len => k_is); (case z_list => k_is)
    (case z_range => k_is); (case z_repr => k_is); (case z_sorted => k_is)

