import PyProof.Rows.All
import Wide.All
import OpenK.AllK
import Wide.FinOn
import HandS.ForMost
import HandS.TupAny
import HandS.TupMul
import HandS.Exc
import HandS.ExcCtx
import KE.KeyNested
import HandS.Lambda
import HandS.Wide
import HandS.StrMore
import HandS.Style
import HandS.Flow
import PyProof.StrBlock2
import PyProof.ReprRoads
import HandS.NoneIn
import HandS.Deep
import PyProof.StrLawsFrom
import PyProof.Rows.StrRev
import HandS.IsInst
import HandS.Zip
import PyProof.EnumMake
import PyProof.Draws
import HandS.Star
import KE.GoesEnum
import KE.KDictZip
import HandS.DictTup
import HandS.NamedTupSort
import HandS.SortInts
import HandS.SetFor
import PyProof.P3In
import HandS.ExcIs
import HandS.ExcOwn
import HandS.ExcField
import HandS.Small
import KE.KExcInit
import KE.KExcIs
import KE.KExcLine
import HandS.Strs
import HandS.WideBits
import HandS.Replace
import HandS.ReplaceList
import PyProof.Rows.StrBetween
import HandS.Conv
import PyProof.CallStr
import PyProof.Rows.IntBool
import KE.DatumOrd
import HandS.Property
import KE.KOpsOwn
import KE.KCallOwn
import PyProof.Conv_bool
import PyProof.InstNe
import PyProof.StrLaws
import HandS.FStr
import PyProof.StrLawsChain
import PyProof.StrLawsTight
import PyProof.Rows.StrFacts2
import KE.IntTextLaws
import HandS.ReplaceLit
import HandS.Text
import PyProof.Rows.StrStrike
import PyProof.Rows.StrCountLaw
import PySem.Challenge.RW_carbonpad_k07_whole_letters_counted
set_option Elab.async false
set_option linter.all false
set_option maxRecDepth 100000
set_option maxHeartbeats 1000000
namespace DL
open PySem PySem.Spec PyProof.Rows L2
/-- a tuple at p that nobody knows: it has no dict -/
def newT (H : Hp) (Q : VK) (vs : List V) : Prop := ∀ (p : Addr) (ob : Obj), H p = none → ob.dict = none → Q (.ref p) (upd H p (.frz ob (.tup vs)))
section
variable {X : Cx}
/-- the object just pushed -/
theorem fin_tup {pins : List (Addr × Obj)} {σ : L2.St} {H : Hp} {s : Shared} {Q : VK} {vs : List V} {its : List Value} (I : Inv X pins σ H s) (hz : vs.length ≤ sizeLine) (r : Vals vs its) (q : newT H Q vs) :
    EP X pins σ Q (.ref s.heap.objs.size) { s with heap := s.heap.push { cls := .type "tuple", data := .seq its.toArray } } :=
  ⟨.ref s.heap.objs.size, _, I.laid (t' := s.toks) (o := .frz { cls := .type "tuple", data := .seq its.toArray } (.tup vs)) (fun b ob q => Heap.get?_push_of_some _ q) (Nat.le_refl _) ⟨Heap.get?_push_size _ rfl, hz, its, r, IsTup.new _ _⟩, rfl, q _ _ (I.hok.fresh (Nat.le_refl _)) rfl⟩
/-- a display -/
def tTupZ (t : TA) : TE := fun σ H Q => t σ H fun xs H1 => xs.length ≤ sizeLine ∧ newT H1 Q xs
theorem pe_tupZ {es : List Expr} {t : TA} {x1 : Nat} {pos : Pos} (h : PA X es t) : PE X (.Tuple es x1 pos) (tTupZ t) := by
  refine ⟨fun pins s σ H Q I hq => ?_⟩
  refine wpAny_Tuple_spliced (thn (h.run pos pins s σ H _ I hq) fun us s1 ⟨xs, H1, I1, r, z, q⟩ => ⟨by rw [← r.length]; exact z, ?_⟩)
  exact fin_tup I1 z r q
/-- tuple(x) -/
def rTupZ (K : PySem.W.Frag) : List V → Hp → VK → Prop := fun xs H Q => ∃ p ys, xs = [.ref p] ∧ ((SqL K H p ys ∧ newT H Q ys) ∨ (SqT K H p ys ∧ Q (.ref p) H))
theorem call_tupZ : CallR X (.type "tuple") (rTupZ X.K) := by
  intro pins s σ H xs us Q I r h
  obtain ⟨p, ys, rfl, h⟩ := h
  obtain ⟨u, rfl, rx⟩ := vals1 r
  cases rx
  rcases h with ⟨hq, q⟩ | ⟨hq, q⟩
  · obtain ⟨its, r', pl, hz⟩ := I.list hq
    have hlen := r'.length
    refine call_tuple_list pl.isList (fun h' kp => ?_) (by simp only [List.size_toArray] <;> omega)
    have I1 : Inv X pins σ H { s with heap := h' } := I.kept (t' := s.toks) kp
    exact fin_tup I1 hz r' q
  · obtain ⟨its, r', pl, hz⟩ := I.tuple hq
    exact call_tuple_same pl ⟨.ref p, H, I, rfl, q⟩
/-- x + y -/
def rCatZ (K : PySem.W.Frag) : R2 := fun x y H Q => ∃ a b xs ys, x = .ref a ∧ y = .ref b ∧ SqT K H a xs ∧ SqT K H b ys ∧ xs.length + ys.length ≤ sizeLine ∧
  (xs = [] → Q (.ref b) H) ∧ (xs ≠ [] → ys = [] → Q (.ref a) H) ∧ (xs ≠ [] → ys ≠ [] → newT H Q (xs ++ ys))
theorem op_catZ : OpR X (binaryOp .Add) (rCatZ X.K) := by
  intro pins s σ H x y v u Q I rx ry h
  obtain ⟨a, b, xs, ys, rfl, rfl, ha, hb, hz, q0, q1, q2⟩ := h
  cases rx
  cases ry
  obtain ⟨its, r1, p1, _⟩ := I.tuple ha
  obtain ⟨its2, r2, p2, _⟩ := I.tuple hb
  by_cases hx : xs = []
  · subst hx
    cases r1
    exact cat_tup0 p1 p2 ⟨.ref b, H, I, rfl, q0 rfl⟩
  · refine HT.cat_tup p1 p2 (fun z => hx (r1.nil_iff.mp z)) (fun z => ⟨.ref a, H, I, rfl, q1 hx (r2.nil_iff.mp z)⟩) (fun z => ?_) (by rw [← r1.length, ← r2.length]; exact hz)
    exact fin_tup I (by rw [List.length_append]; exact hz) (r1.append r2) (q2 hx fun w => z (r2.nil_iff.mpr w))
/-- x[i:j] -/
def rSlZ (K : PySem.W.Frag) : V → Option Int → Option Int → Hp → VK → Prop := fun x lo hi H Q => ∃ a xs, x = .ref a ∧ SqT K H a xs ∧
  (HT.sIx xs.length 0 lo = 0 ∧ HT.sIx xs.length xs.length hi = xs.length → Q (.ref a) H) ∧ (¬ (HT.sIx xs.length 0 lo = 0 ∧ HT.sIx xs.length xs.length hi = xs.length) → newT H Q (cutV xs lo hi))
theorem sl_tupZ : SlR X (rSlZ X.K) := by
  intro pins s σ H x v vl vu lo hi sl Q I rx hs pl pu h
  obtain ⟨a, xs, rfl, hx, q1, q2⟩ := h
  cases rx
  obtain ⟨its, r, ht, hz⟩ := I.tuple hx
  have hlen : its.toArray.size = xs.length := by rw [List.size_toArray]; exact r.length.symm
  refine ⟨"tuple", _, PyProof.Rows.slot_tuple_getitem.lookup, ht.typeIs, ?_⟩
  by_cases hw : HT.sIx xs.length 0 lo = 0 ∧ HT.sIx xs.length xs.length hi = xs.length
  · exact getItem_tuple_whole ht hs pl pu (by rw [hlen]; exact hw) ⟨.ref a, H, I, rfl, q1 hw⟩
  · refine HT.getItem_tuple_cut ht hs pl pu (by rw [hlen]; exact hw) ?_ (by rw [hlen]; exact hz)
    rw [hlen]
    exact fin_tup I (Nat.le_trans (cutV_length xs lo hi) hz) ((r.drop (HT.sIx xs.length 0 lo)).take (HT.sIx xs.length xs.length hi - HT.sIx xs.length 0 lo)) (q2 hw)
/-- x * k, x not empty, 2 <= k -/
def rRepZ (K : PySem.W.Frag) : R2 := fun x y H Q => ∃ l k xs, x = .ref l ∧ y = .int k ∧ SqT K H l xs ∧ xs ≠ [] ∧ 2 ≤ k ∧ k ≤ 1000 ∧ xs.length ≤ 1000 ∧ newT H Q (List.replicate k.toNat xs).flatten
theorem op_repZ : OpR X (binaryOp .Mult) (rRepZ X.K) := by
  intro pins s σ H x y v u Q I rx ry h
  obtain ⟨l, k, xs, rfl, rfl, hT, hne, h1, h2, hz, q⟩ := h
  cases rx
  obtain ⟨t, rfl⟩ := ry
  obtain ⟨its, r, ⟨⟨cls, dd, data, sl⟩, ho, hc, n, hd⟩, hs⟩ := I.tuple hT
  simp only at hc hd
  subst hc hd
  have el : its.length = xs.length := r.length.symm
  have ne : its ≠ [] := fun e => hne (List.eq_nil_of_length_eq_zero (by rw [← el, e]; rfl))
  have em : its.toArray.isEmpty = false := by cases its with | nil => exact absurd rfl ne | cons a b => rfl
  have es : its.toArray.size = xs.length := by rw [List.size_toArray, el]
  have hm : ((its.toArray.size : Nat) : Int) * k ≤ 1000000 := by
    rw [es]
    have a1 : ((xs.length : Nat) : Int) * k ≤ 1000 * k := Int.mul_le_mul_of_nonneg_right (by omega) (by omega)
    omega
  have a1 : k.toNat * xs.length ≤ 1000 * 1000 := Nat.mul_le_mul (by omega) hz
  have fl : (List.replicate k.toNat its).flatten.length ≤ sizeLine := by rw [PyProof.Rows.lm_len_rep_flat, el, sizeLine_eq]; omega
  have d0 : (decide (k < -(2 ^ 63)) || decide (k ≥ 2 ^ 63)) = false := by rw [decide_eq_false (by omega), decide_eq_false (by omega)] <;> rfl
  have d1 : (its.toArray.isEmpty || k == 1) = false := by rw [em, Bool.false_or]; exact beq_eq_false_iff_ne.mpr (by omega)
  have d2 : (decide (k ≤ 0) || its.toArray.isEmpty) = false := by rw [em, Bool.or_false]; exact decide_eq_false (by omega)
  have d4 : Builtin.Tuple.tupleTooMany (((its.toArray.size : Nat) : Int) * k) = false := by unfold Builtin.Tuple.tupleTooMany; rw [sizeLine_eq]; exact decide_eq_false (by omega)
  refine wpAny_binaryOp_repeat_ref (T := "tuple") (U := "int") (by decide) ⟨_, ho, rfl⟩ (fun s' => typeIs_int s' k t) noFill_tuple_mul F.fills_int_mul F.slot_int_rmul repeat_tuple F.slot_int_index.lookup
    (call_meets F.slot_int_rmul (typeIs_int s k t) F.entry_int_rmul (F.args_int_rmul_2 _ _) (int_rmul_tuple k t l its.toArray n dd sl)
      ⟨ho, rfl, ⟨_, ho, rfl⟩, call_meets F.slot_tuple_mul ⟨_, ho, rfl⟩ F.entry_tuple_mul (F.args_tuple_mul_2 _ _) (tuple_mulW l its.toArray n dd sl k t d0 d1 d2 (by omega) d4 (by rw [size_rep, List.size_toArray]; exact fl)) ⟨ho, ?_⟩⟩)
  rw [size_rep]
  exact fin_tup I (by rw [PyProof.Rows.lm_len_rep_flat, sizeLine_eq]; omega) (r.rep k.toNat) q
end
end DL

namespace DL
open PySem PySem.Spec PyProof.Rows L2

/-- a text by its signs -/
abbrev S (l : List Nat) : Str := ⟨l.toArray⟩
/-- data as a tree; ref: an object that changes; obj: an own instance that does not; exn: an exception that was caught; gl: a def or a class of the module; scr: the script -/
inductive D where
  | non | bl (b : Bool) | int (i : Int) | str (x : List Nat) | tup (xs : List D) | lst (xs : List D)
  | dct (kvs : List (Key × D)) | scr (ns : List Int) | ref (a : Addr) | ty (n : String) | gl (x : Str) | pr (a b : D) | obj (c : Str) (fs : List (Str × D)) | exn (c : Str) (fs : List (Str × D)) | tkt (n : Nat) (xs : List D)
/-- a tuple that is known to have no dict -/
def PlT (F : Hp) (a : Addr) (vs : List V) : Prop := ∃ ob : Obj, ob.dict = none ∧ F a = some (.frz ob (.tup vs))
/-- .. whose texts have tokens below n -/
def TkT (F : Hp) (a : Addr) (n : Nat) (vs : List V) : Prop := ∃ (ob : Obj) (us : Array Value) (m : Nat), ob.dict = none ∧ ob.data = .seq us m ∧ (∀ x t, Value.str x t ∈ us → 0 < t ∧ t < n) ∧ F a = some (.frz ob (.tup vs))
/-- an object that changes -/
inductive MO where
  | lst (xs : List D) | ins (c : Str) (fs : List (Str × D)) | dct (kvs : List (Key × D)) | dtt (kvs : List (List Key × D)) | dnn (kvs : List (NestedKey × D)) | tbl (q : Str) | xd (fs : List (Str × D)) | exz (c : Str) (fs : List (Str × D)) | clo (q : Str) (params : Arguments) (body : Expr) (scope : Scope) (cells : List (Str × Addr))
abbrev Sto := Addr → Option MO
def sset (μ : Sto) (a : Addr) (o : MO) : Sto := fun b => if b = a then some o else μ b
theorem sset_same {μ : Sto} {a : Addr} {o : MO} : sset μ a o a = some o := if_pos rfl
theorem sset_ne {μ : Sto} {a b : Addr} {o : MO} (h : b ≠ a) : sset μ a o b = μ b := if_neg h
/-- what a slot holds: a value; a list of the frame's own, which nobody else knows -/
inductive DS where
  | val (d : D) | own (xs : List D)
abbrev DEnv := List (Option DS)

mutual
inductive Dt (K : PySem.W.Frag) (mg : Str → Option Value) (F : Hp) : V → D → Prop
  | non : Dt K mg F .non .non
  | bl (b : Bool) : Dt K mg F (.bl b) (.bl b)
  | int (i : Int) : Dt K mg F (.int i) (.int i)
  | str (x : List Nat) : Dt K mg F (.str (S x)) (.str x)
  | tup {a : Addr} {vs : List V} {ds : List D} : PlT F a vs → Dts K mg F vs ds → Dt K mg F (.ref a) (.tup ds)
  | lst {a : Addr} {vs : List V} {ds : List D} : F a = some (.lst vs) → Dts K mg F vs ds → Dt K mg F (.ref a) (.lst ds)
  | dct {a : Addr} {vs : List (Key × V)} {ds : List (Key × D)} : F a = some (.dK vs) → Dks K mg F vs ds → Dt K mg F (.ref a) (.dct ds)
  | scr {a : Addr} {ns : List Int} : SqL K F a (ns.map V.int) → Dt K mg F (.ref a) (.scr ns)
  | ref (a : Addr) : Dt K mg F (.ref a) (.ref a)
  | ty (n : String) : Dt K mg F (.ty n) (.ty n)
  | gl {x : Str} {a : Addr} : mg x = some (.ref a) → Dt K mg F (.ref a) (.gl x)
  | pr {a : Addr} {v w : V} {d e : D} : F a = some (.tup [v, w]) → Dt K mg F v d → Dt K mg F w e → Dt K mg F (.ref a) (.pr d e)
  | obj {a C dx : Addr} {c : Str} {vfs : List (Str × V)} {fs : List (Str × D)} : mg c = some (.ref C) → F a = some (.ins C dx vfs) → vfs.map (·.1) = fs.map (·.1) → Dts K mg F (vfs.map (·.2)) (fs.map (·.2)) → Dt K mg F (.ref a) (.obj c fs)
  | exn0 {a C : Addr} {c : Str} {oe : Obj} : mg c = some (.ref C) → F a = some (.frz oe (.own 0)) → Zc (.ref C) none oe → (∃ vs, oe.data = .fields vs) → Dt K mg F (.ref a) (.exn c [])
  | exn1 {a C dx : Addr} {c : Str} {oe : Obj} {vfs : List (Str × V)} {fs : List (Str × D)} : mg c = some (.ref C) → F a = some (.frz oe (.own 0)) → Zc (.ref C) (some dx) oe → (∃ vs, oe.data = .fields vs) → F dx = some (.xd vfs) → vfs.map (·.1) = fs.map (·.1) → Dts K mg F (vfs.map (·.2)) (fs.map (·.2)) → Dt K mg F (.ref a) (.exn c fs)
  | tkt {a : Addr} {n : Nat} {vs : List V} {ds : List D} : TkT F a n vs → Dts K mg F vs ds → Dt K mg F (.ref a) (.tkt n ds)
inductive Dts (K : PySem.W.Frag) (mg : Str → Option Value) (F : Hp) : List V → List D → Prop
  | nil : Dts K mg F [] []
  | cons {v : V} {vs : List V} {d : D} {ds : List D} : Dt K mg F v d → Dts K mg F vs ds → Dts K mg F (v :: vs) (d :: ds)
inductive Dks (K : PySem.W.Frag) (mg : Str → Option Value) (F : Hp) : List (Key × V) → List (Key × D) → Prop
  | nil : Dks K mg F [] []
  | cons {k : Key} {v : V} {vs : List (Key × V)} {d : D} {ds : List (Key × D)} : Dt K mg F v d → Dks K mg F vs ds → Dks K mg F ((k, v) :: vs) ((k, d) :: ds)
end

section
variable {K : PySem.W.Frag} {mg : Str → Option Value} {F F' H H' : Hp}
theorem SqT.mono' {a : Addr} {vs : List V} (hF : ∀ a o, F a = some o → F' a = some o) (h : SqT K F a vs) : SqT K F' a vs := by
  rcases h with (h | ⟨o, h⟩) | h
  · exact .inl (.inl (hF _ _ h))
  · exact .inl (.inr ⟨o, hF _ _ h⟩)
  · exact .inr h
theorem PlT.mono {a : Addr} {vs : List V} (hF : ∀ a o, F a = some o → F' a = some o) (h : PlT F a vs) : PlT F' a vs := let ⟨ob, h1, h2⟩ := h; ⟨ob, h1, hF _ _ h2⟩
theorem TkT.mono {a : Addr} {n : Nat} {vs : List V} (hF : ∀ a o, F a = some o → F' a = some o) (h : TkT F a n vs) : TkT F' a n vs := let ⟨ob, us, m, h1, h2, h3, h4⟩ := h; ⟨ob, us, m, h1, h2, h3, hF _ _ h4⟩
theorem PlT.sq {a : Addr} {vs : List V} (h : PlT F a vs) : SqT K F a vs := let ⟨ob, _, h2⟩ := h; .inl (.inr ⟨ob, h2⟩)
theorem SqL.mono' {a : Addr} {vs : List V} (hF : ∀ a o, F a = some o → F' a = some o) (h : SqL K F a vs) : SqL K F' a vs := by
  rcases h with (h | ⟨o, h⟩) | h
  · exact .inl (.inl (hF _ _ h))
  · exact .inl (.inr ⟨o, hF _ _ h⟩)
  · exact .inr h
mutual
theorem Dt.mono (hF : ∀ a o, F a = some o → F' a = some o) : ∀ {v : V} {d : D}, Dt K mg F v d → Dt K mg F' v d
  | _, _, .non => .non
  | _, _, .bl b => .bl b
  | _, _, .int i => .int i
  | _, _, .str x => .str x
  | _, _, .tup h r => .tup (h.mono hF) (Dts.mono hF r)
  | _, _, .lst h r => .lst (hF _ _ h) (Dts.mono hF r)
  | _, _, .dct h r => .dct (hF _ _ h) (Dks.mono hF r)
  | _, _, .scr h => .scr (SqL.mono' hF h)
  | _, _, .ref a => .ref a
  | _, _, .ty n => .ty n
  | _, _, .gl h => .gl h
  | _, _, .pr h a b => .pr (hF _ _ h) (Dt.mono hF a) (Dt.mono hF b)
  | _, _, .obj h1 h2 h3 h4 => .obj h1 (hF _ _ h2) h3 (Dts.mono hF h4)
  | _, _, .exn0 h1 h2 h3 h4 => .exn0 h1 (hF _ _ h2) h3 h4
  | _, _, .exn1 h1 h2 h3 h4 h5 h6 h7 => .exn1 h1 (hF _ _ h2) h3 h4 (hF _ _ h5) h6 (Dts.mono hF h7)
  | _, _, .tkt h r => .tkt (h.mono hF) (Dts.mono hF r)
theorem Dts.mono (hF : ∀ a o, F a = some o → F' a = some o) : ∀ {vs : List V} {ds : List D}, Dts K mg F vs ds → Dts K mg F' vs ds
  | _, _, .nil => .nil
  | _, _, .cons h r => .cons (Dt.mono hF h) (Dts.mono hF r)
theorem Dks.mono (hF : ∀ a o, F a = some o → F' a = some o) : ∀ {vs : List (Key × V)} {ds : List (Key × D)}, Dks K mg F vs ds → Dks K mg F' vs ds
  | _, _, .nil => .nil
  | _, _, .cons h r => .cons (Dt.mono hF h) (Dks.mono hF r)
end
theorem Dts.length : ∀ {vs : List V} {ds : List D}, Dts K mg F vs ds → vs.length = ds.length
  | _, _, .nil => rfl
  | _, _, .cons _ r => congrArg (· + 1) r.length
theorem Dts.get : ∀ {vs : List V} {ds : List D} {i : Nat} {d : D}, Dts K mg F vs ds → ds[i]? = some d → ∃ v, vs[i]? = some v ∧ Dt K mg F v d
  | _, _, _, _, .nil, e => by simp at e
  | _, _, 0, _, .cons r _, e => by simp at e; subst e; exact ⟨_, rfl, r⟩
  | _, _, i + 1, d, .cons _ t, e => by
    obtain ⟨u, h1, h2⟩ := Dts.get (i := i) (d := d) t (by simpa using e)
    exact ⟨u, by simpa using h1, h2⟩
theorem Dts.getV : ∀ {vs : List V} {ds : List D} {i : Nat} {v : V}, Dts K mg F vs ds → vs[i]? = some v → ∃ d, ds[i]? = some d ∧ Dt K mg F v d
  | _, _, _, _, .nil, e => by simp at e
  | _, _, 0, _, .cons r _, e => by simp at e; subst e; exact ⟨_, rfl, r⟩
  | _, _, i + 1, v, .cons _ t, e => by
    obtain ⟨u, h1, h2⟩ := Dts.getV (i := i) (v := v) t (by simpa using e)
    exact ⟨u, by simpa using h1, h2⟩
theorem Dts.append : ∀ {vs ws : List V} {ds es : List D}, Dts K mg F vs ds → Dts K mg F ws es → Dts K mg F (vs ++ ws) (ds ++ es)
  | _, _, _, _, .nil, s => s
  | _, _, _, _, .cons r t, s => .cons r (Dts.append t s)
theorem Dts.take : ∀ {vs : List V} {ds : List D} (n : Nat), Dts K mg F vs ds → Dts K mg F (vs.take n) (ds.take n)
  | _, _, 0, _ => .nil
  | _, _, _ + 1, .nil => .nil
  | _, _, n + 1, .cons r t => .cons r (Dts.take n t)
theorem Dts.drop : ∀ {vs : List V} {ds : List D} (n : Nat), Dts K mg F vs ds → Dts K mg F (vs.drop n) (ds.drop n)
  | _, _, 0, r => r
  | _, _, _ + 1, .nil => .nil
  | _, _, n + 1, .cons _ t => Dts.drop n t
theorem Dts.set {v : V} {d : D} (r : Dt K mg F v d) : ∀ {vs : List V} {ds : List D} (i : Nat), Dts K mg F vs ds → Dts K mg F (vs.set i v) (ds.set i d)
  | _, _, _, .nil => .nil
  | _, _, 0, .cons _ t => .cons r t
  | _, _, i + 1, .cons q t => .cons q (Dts.set r i t)
theorem Dts.revAux : ∀ {vs : List V} {ds : List D} {ws : List V} {es : List D}, Dts K mg F vs ds → Dts K mg F ws es → Dts K mg F (vs.reverseAux ws) (ds.reverseAux es)
  | _, _, _, _, .nil, s => s
  | v :: vs, d :: ds, ws, es, .cons a b, s => Dts.revAux (vs := vs) (ds := ds) (ws := v :: ws) (es := d :: es) b (.cons a s)
theorem Dts.reverse {vs : List V} {ds : List D} (r : Dts K mg F vs ds) : Dts K mg F vs.reverse ds.reverse := Dts.revAux r .nil
theorem Dts.one {v : V} {d : D} (h : Dt K mg F v d) : Dts K mg F [v] [d] := .cons h .nil
theorem Dts.ints : ∀ {vs : List V} {ns : List Int}, Dts K mg F vs (ns.map D.int) → vs = ns.map V.int
  | _, [], .nil => rfl
  | _, n :: ns, .cons h r => by
    cases h
    rw [List.map_cons, ← Dts.ints r]
theorem Dts.ofInts : ∀ (ns : List Int), Dts K mg F (ns.map V.int) (ns.map D.int)
  | [] => .nil
  | n :: ns => .cons (.int n) (Dts.ofInts ns)
theorem Dts.bls : ∀ {vs : List V} {ns : List Bool}, Dts K mg F vs (ns.map D.bl) → vs = ns.map V.bl
  | _, [], .nil => rfl
  | _, n :: ns, .cons h r => by
    cases h
    rw [List.map_cons, ← Dts.bls r]
theorem Dks.append : ∀ {vs ws : List (Key × V)} {ds es : List (Key × D)}, Dks K mg F vs ds → Dks K mg F ws es → Dks K mg F (vs ++ ws) (ds ++ es)
  | _, _, _, _, .nil, s => s
  | _, _, _, _, .cons r t, s => .cons r (Dks.append t s)
theorem Dks.keys : ∀ {vs : List (Key × V)} {ds : List (Key × D)}, Dks K mg F vs ds → vs.map (·.1) = ds.map (·.1)
  | _, _, .nil => rfl
  | _, _, .cons (k := k) _ r => by rw [List.map_cons, List.map_cons, Dks.keys r]
end

mutual
/-- the value v is the key k: whole numbers, tuples of the store that never change -/
def nkAt (H : Hp) : NestedKey → V → Prop
  | .num i, v => v = .int i
  | .tup ks, v => ∃ a ob vs, v = .ref a ∧ H a = some (.frz ob (.tup vs)) ∧ nksAt H ks vs
  | .none, _ => False
  | .text _, _ => False
def nksAt (H : Hp) : List NestedKey → List V → Prop
  | [], vs => vs = []
  | k :: ks, vs => ∃ v r, vs = v :: r ∧ nkAt H k v ∧ nksAt H ks r
end
mutual
theorem nkAt_mono {H H' : Hp} (h : ∀ a o, H a = some o → H' a = some o) : ∀ (k : NestedKey) (v : V), nkAt H k v → nkAt H' k v
  | .num i, v, x => x
  | .tup ks, v, x => by
    rw [nkAt] at x ⊢
    obtain ⟨a, ob, vs, e, y, z⟩ := x
    exact ⟨a, ob, vs, e, h _ _ y, nksAt_mono h ks vs z⟩
  | .none, _, x => x
  | .text _, _, x => x
theorem nksAt_mono {H H' : Hp} (h : ∀ a o, H a = some o → H' a = some o) : ∀ (ks : List NestedKey) (vs : List V), nksAt H ks vs → nksAt H' ks vs
  | [], vs, x => x
  | k :: ks, vs, x => by
    rw [nksAt] at x ⊢
    obtain ⟨v, r, e, y, z⟩ := x
    exact ⟨v, r, e, nkAt_mono h k v y, nksAt_mono h ks r z⟩
end
/-- the dict at a, by its one object -/
def dnnO (a : Addr) (vs : List (NestedKey × Addr × V)) : HO := .ext fun h => ∃ (o : Obj) (es : Array DictEntry) (ep : Nat) (xs : List (NestedKey × Addr × Value)), h.get? a = some o ∧ o.ExactDict ∧ o.data = .dict es ep ∧
  Paired (fun p q => p.1 = q.1 ∧ p.2.1 = q.2.1 ∧ RelV p.2.2 q.2.2) vs xs ∧ (∀ w : World, es.toList = xs.map fun x => ⟨x.1.hash w, .ref x.2.1, x.2.2⟩) ∧ (xs.map (·.1)).Nodup
section
variable (K : PySem.W.Frag) (mg : Str → Option Value)
def MOk (F H : Hp) (a : Addr) : MO → Prop
  | .lst xs => ∃ vs, H a = some (.lst vs) ∧ Dts K mg F vs xs
  | .ins c fs => ∃ C dx vfs, mg c = some (.ref C) ∧ H a = some (.ins C dx vfs) ∧ vfs.map (·.1) = fs.map (·.1) ∧ Dts K mg F (vfs.map (·.2)) (fs.map (·.2))
  | .dct kvs => ∃ vs, H a = some (.dK vs) ∧ Dks K mg F vs kvs
  | .dtt kvs => ∃ vs, H a = some (.dT vs) ∧ vs.map (·.1) = kvs.map (·.1) ∧ Dts K mg F (vs.map (·.2)) (kvs.map (·.2))
  | .dnn kvs => ∃ vs : List (NestedKey × Addr × V), H a = some (dnnO a vs) ∧ vs.map (·.1) = kvs.map (·.1) ∧ Dts K mg F (vs.map (·.2.2)) (kvs.map (·.2)) ∧ ∀ x ∈ vs, x.1.depth ≤ 8 ∧ nkAt F x.1 (.ref x.2.1)
  | .tbl q => ∃ ps, H a = some (.tbl ps) ∧ TriplesOk ps.toList ∧ ∀ (pos : Pos) (cv : Value), codeAmong pos ps.toList = some cv → ∃ c, cv = .ref c ∧ F c = some (LamX.CodeO c q)
  | .xd fs => ∃ vfs, H a = some (.xd vfs) ∧ vfs.map (·.1) = fs.map (·.1) ∧ Dts K mg F (vfs.map (·.2)) (fs.map (·.2))
  | .exz c fs => ∃ C od oe ws, mg c = some (.ref C) ∧ H a = some (.frz oe (.own 0)) ∧ L2N.Zn (.ref C) od oe ∧ oe.data = .fields ws ∧ ((od = none ∧ fs = []) ∨ ∃ dx vfs, od = some dx ∧ F dx = some (.xd vfs) ∧ vfs.map (·.1) = fs.map (·.1) ∧ Dts K mg F (vfs.map (·.2)) (fs.map (·.2)))
  | .clo q params body scope cells => ∃ pm c' ctv, H a = some (.frz (PySem.W.kla_obj "<lambda>" q params body scope cells pm c' ctv) (.own 0)) ∧ F c' = some (LamX.CodeO c' q)
/-- F: what never changes any more; μ: what may change -/
structure Ok (F : Hp) (μ : Sto) (H : Hp) : Prop where
  sub : ∀ a o, F a = some o → H a = some o
  dis : ∀ a m, μ a = some m → F a = none
  sto : ∀ a m, μ a = some m → MOk K mg F H a m
/-- behind a step: what never changes stands, what nobody else knows stands -/
structure Ext (F : Hp) (μ : Sto) (H : Hp) (F' : Hp) (μ' : Sto) (H' : Hp) : Prop where
  mono : ∀ a o, F a = some o → F' a = some o
  keep : ∀ a o, H a = some o → μ a = none → H' a = some o ∧ F' a = F a ∧ μ' a = none
  live : ∀ a, H' a = none → H a = none
def SOk (F : Hp) (μ : Sto) (H : Hp) (v : V) : DS → Prop
  | .val d => Dt K mg F v d
  | .own xs => ∃ a vs, v = .ref a ∧ F a = none ∧ μ a = none ∧ H a = some (.lst vs) ∧ Dts K mg F vs xs
structure Rel (F : Hp) (ρ : DEnv) (μ : Sto) (σ : L2.St) (H : Hp) : Prop where
  ok : Ok K mg F μ H
  len : ρ.length = σ.length
  slot : ∀ (i : Nat) (s : DS), ρ[i]? = some (some s) → ∃ v, σ[i]? = some (some v) ∧ SOk K mg F μ H v s
  apart : ∀ (i j : Nat) (xs ys : List D), ρ[i]? = some (some (DS.own xs)) → ρ[j]? = some (some (DS.own ys)) → σ[i]? = σ[j]? → i = j
end

section
variable {K : PySem.W.Frag} {mg : Str → Option Value} {F F' F'' H H' H'' : Hp} {μ μ' μ'' : Sto} {ρ : DEnv} {σ : L2.St}
theorem Ext.refl : Ext F μ H F μ H := ⟨fun _ _ e => e, fun _ _ e n => ⟨e, rfl, n⟩, fun _ e => e⟩
theorem Ext.trans (a : Ext F μ H F' μ' H') (b : Ext F' μ' H' F'' μ'' H'') : Ext F μ H F'' μ'' H'' :=
  ⟨fun x o e => b.mono x o (a.mono x o e), fun x o e n => by
    obtain ⟨h1, h2, h3⟩ := a.keep x o e n
    obtain ⟨g1, g2, g3⟩ := b.keep x o h1 h3
    exact ⟨g1, g2.trans h2, g3⟩, fun x e => a.live x (b.live x e)⟩
theorem upd_live {H : Hp} {p : Addr} {u : HO} : ∀ a, upd H p u a = none → H a = none := fun a e => by
  by_cases h : a = p
  · subst h; rw [upd_same] at e; cases e
  · rw [upd_ne h] at e; exact e
theorem SOk.ext {v : V} {s : DS} (e : Ext F μ H F' μ' H') (h : SOk K mg F μ H v s) : SOk K mg F' μ' H' v s := by
  cases s with
  | val d => exact Dt.mono e.mono h
  | own xs =>
    obtain ⟨a, vs, rfl, f, m, hh, d⟩ := h
    obtain ⟨h1, h2, h3⟩ := e.keep a _ hh m
    exact ⟨a, vs, rfl, h2.trans f, h3, h1, d.mono e.mono⟩
theorem Rel.ext (r : Rel K mg F ρ μ σ H) (e : Ext F μ H F' μ' H') (o : Ok K mg F' μ' H') : Rel K mg F' ρ μ' σ H' :=
  ⟨o, r.len, fun i s h => by
    obtain ⟨v, h1, h2⟩ := r.slot i s h
    exact ⟨v, h1, h2.ext e⟩, r.apart⟩
theorem Ok.fresh (o : Ok K mg F μ H) {p : Addr} (h : H p = none) : F p = none ∧ μ p = none := by
  constructor
  · cases e : F p with
    | none => rfl
    | some x =>
      have q := o.sub p x e
      rw [h] at q
      cases q
  · cases e : μ p with
    | none => rfl
    | some m =>
      have q := o.sto p m e
      cases m with
      | lst xs => obtain ⟨vs, h1, _⟩ := q; rw [h] at h1; cases h1
      | ins c fs => obtain ⟨_, _, _, _, h1, _⟩ := q; rw [h] at h1; cases h1
      | dct kvs => obtain ⟨vs, h1, _⟩ := q; rw [h] at h1; cases h1
      | dtt kvs => obtain ⟨vs, h1, _⟩ := q; rw [h] at h1; cases h1
      | dnn kvs => obtain ⟨vs, h1, _⟩ := q; rw [h] at h1; cases h1
      | tbl n => obtain ⟨ps, h1, _⟩ := q; rw [h] at h1; cases h1
      | xd fs => obtain ⟨vs, h1, _⟩ := q; rw [h] at h1; cases h1
      | exz c fs => obtain ⟨_, _, _, _, _, h1, _⟩ := q; rw [h] at h1; cases h1
      | clo q ps b sc cs => obtain ⟨_, _, _, h1, _⟩ := q; rw [h] at h1; cases h1
theorem MOk.up {a : Addr} {m : MO} (h : MOk K mg F H a m) (hF : ∀ a o, F a = some o → F' a = some o) (hH : H' a = H a) : MOk K mg F' H' a m := by
  cases m with
  | lst xs => obtain ⟨vs, h1, h2⟩ := h; exact ⟨vs, hH.trans h1, h2.mono hF⟩
  | ins c fs => obtain ⟨C, dx, vfs, h0, h1, h2, h3⟩ := h; exact ⟨C, dx, vfs, h0, hH.trans h1, h2, h3.mono hF⟩
  | dct kvs => obtain ⟨vs, h1, h2⟩ := h; exact ⟨vs, hH.trans h1, h2.mono hF⟩
  | dtt kvs => obtain ⟨vs, h1, h2, h3⟩ := h; exact ⟨vs, hH.trans h1, h2, h3.mono hF⟩
  | tbl q => obtain ⟨ps, h1, h2, h3⟩ := h; exact ⟨ps, hH.trans h1, h2, fun pos cv e => let ⟨c, e1, e2⟩ := h3 pos cv e; ⟨c, e1, hF _ _ e2⟩⟩
  | dnn kvs => obtain ⟨vs, h1, h2, h3, h4⟩ := h; exact ⟨vs, hH.trans h1, h2, h3.mono hF, fun x hx => ⟨(h4 x hx).1, nkAt_mono hF _ _ (h4 x hx).2⟩⟩
  | xd fs => obtain ⟨vs, h1, h2, h3⟩ := h; exact ⟨vs, hH.trans h1, h2, h3.mono hF⟩
  | clo q ps b sc cs => obtain ⟨pm, c', ctv, h1, h2⟩ := h; exact ⟨pm, c', ctv, hH.trans h1, hF _ _ h2⟩
  | exz c fs =>
    obtain ⟨C, od, oe, ws, h1, h2, h3, h4, h5⟩ := h
    refine ⟨C, od, oe, ws, h1, hH.trans h2, h3, h4, ?_⟩
    rcases h5 with h5 | ⟨dx, vfs, k1, k2, k3, k4⟩
    · exact .inl h5
    · exact .inr ⟨dx, vfs, k1, hF _ _ k2, k3, k4.mono hF⟩
/-- a new object that never changes -/
theorem Ok.lay (o : Ok K mg F μ H) {p : Addr} (h : H p = none) (u : HO) : Ok K mg (upd F p u) μ (upd H p u) ∧ Ext F μ H (upd F p u) μ (upd H p u) := by
  obtain ⟨hf, hm⟩ := o.fresh h
  have mono : ∀ a x, F a = some x → upd F p u a = some x := fun a x e => by rw [upd_ne (ne_of_none e hf)]; exact e
  refine ⟨⟨fun a x e => ?_, fun a m e => ?_, fun a m e => ?_⟩, ⟨mono, fun a x e n => ?_, upd_live⟩⟩
  · by_cases ha : a = p
    · subst ha; rw [upd_same] at e ⊢; exact e
    · rw [upd_ne ha] at e ⊢; exact o.sub a x e
  · by_cases ha : a = p
    · subst ha; rw [hm] at e; cases e
    · rw [upd_ne ha]; exact o.dis a m e
  · have ha : a ≠ p := fun q => by subst q; rw [hm] at e; cases e
    exact (o.sto a m e).up mono (upd_ne ha)
  · have ha := ne_of_none e h
    rw [upd_ne ha, upd_ne ha]
    exact ⟨e, rfl, n⟩
/-- an object that changes is changed -/
theorem Ok.write (o : Ok K mg F μ H) {p : Addr} {m0 : MO} (h : μ p = some m0) (u : HO) (m : MO) (hm : MOk K mg F (upd H p u) p m) : Ok K mg F (sset μ p m) (upd H p u) ∧ Ext F μ H F (sset μ p m) (upd H p u) := by
  have hf := o.dis p m0 h
  refine ⟨⟨fun a x e => ?_, fun a m' e => ?_, fun a m' e => ?_⟩, ⟨fun _ _ e => e, fun a x e n => ?_, upd_live⟩⟩
  · rw [upd_ne (ne_of_none e hf)]; exact o.sub a x e
  · by_cases ha : a = p
    · subst ha; exact hf
    · rw [sset_ne ha] at e; exact o.dis a m' e
  · by_cases ha : a = p
    · subst ha; rw [sset_same] at e; cases e; exact hm
    · rw [sset_ne ha] at e; exact (o.sto a m' e).up (fun _ _ e => e) (upd_ne ha)
  · have ha : a ≠ p := fun q => by subst q; rw [n] at h; cases h
    rw [upd_ne ha, sset_ne ha]
    exact ⟨e, rfl, n⟩
/-- a new object that nobody knows: the heap alone grows -/
theorem Ok.layN (o : Ok K mg F μ H) {p : Addr} (h : H p = none) (u : HO) : Ok K mg F μ (upd H p u) ∧ Ext F μ H F μ (upd H p u) := by
  obtain ⟨hf, hn⟩ := o.fresh h
  refine ⟨⟨fun a x e => ?_, o.dis, fun a m' e => ?_⟩, ⟨fun _ _ e => e, fun a x e n => ?_, upd_live⟩⟩
  · rw [upd_ne (ne_of_none e hf)]; exact o.sub a x e
  · have ha : a ≠ p := fun q => by subst q; rw [hn] at e; cases e
    exact (o.sto a m' e).up (fun _ _ e => e) (upd_ne ha)
  · rw [upd_ne (ne_of_none e h)]
    exact ⟨e, rfl, n⟩
/-- an object that nobody else knows is changed -/
theorem Ok.writeN (o : Ok K mg F μ H) {p : Addr} (hf : F p = none) (hn : μ p = none) (u : HO) : Ok K mg F μ (upd H p u) := by
  refine ⟨fun a x e => ?_, o.dis, fun a m' e => ?_⟩
  · rw [upd_ne (ne_of_none e hf)]; exact o.sub a x e
  · have ha : a ≠ p := fun q => by subst q; rw [hn] at e; cases e
    exact (o.sto a m' e).up (fun _ _ e => e) (upd_ne ha)
/-- .. and from then on it never changes -/
theorem Ok.freeze (o : Ok K mg F μ H) {p : Addr} {u : HO} (hf : F p = none) (hn : μ p = none) (hh : H p = some u) : Ok K mg (upd F p u) μ H := by
  have mono : ∀ a x, F a = some x → upd F p u a = some x := fun a x e => by rw [upd_ne (ne_of_none e hf)]; exact e
  refine ⟨fun a x e => ?_, fun a m e => ?_, fun a m e => ?_⟩
  · by_cases ha : a = p
    · subst ha; rw [upd_same] at e; rw [hh]; exact e
    · rw [upd_ne ha] at e; exact o.sub a x e
  · have ha : a ≠ p := fun q => by subst q; rw [hn] at e; cases e
    rw [upd_ne ha]; exact o.dis a m e
  · exact (o.sto a m e).up mono rfl
end

abbrev DK := D → Sto → Prop
/-- an expression's reading over data -/
abbrev TED := DEnv → Sto → DK → Prop
abbrev TTD := DEnv → Sto → (Bool → Sto → Prop) → Prop
abbrev TAD := DEnv → Sto → (List D → Sto → Prop) → Prop
structure DEnds where
  nx : DEnv → Sto → Prop
  rt : DK
  bk : DEnv → Sto → Prop := fun _ _ => False
  ct : DEnv → Sto → Prop := fun _ _ => False
abbrev TSD := DEnds → DEnv → Sto → Prop
section
variable (K : PySem.W.Frag) (mg : Str → Option Value)
def liftE (d : TED) : TE := fun σ H Q => ∃ F ρ μ Qd, Rel K mg F ρ μ σ H ∧ d ρ μ Qd ∧ ∀ v F' μ' H' dv, Ext F μ H F' μ' H' → Ok K mg F' μ' H' → Dt K mg F' v dv → Qd dv μ' → Q v H'
/-- a value that is only looked at: as a value, or a list of the frame's own -/
def Wk (F : Hp) (μ : Sto) (H : Hp) (v : V) (d : D) : Prop := Dt K mg F v d ∨ ∃ a vs xs, v = .ref a ∧ d = .lst xs ∧ F a = none ∧ μ a = none ∧ H a = some (.lst vs) ∧ Dts K mg F vs xs
def liftW (d : TED) : TE := fun σ H Q => ∃ F ρ μ Qd, Rel K mg F ρ μ σ H ∧ d ρ μ Qd ∧ ∀ v F' μ' H' dv, Ext F μ H F' μ' H' → Ok K mg F' μ' H' → Wk K mg F' μ' H' v dv → Qd dv μ' → Q v H'
/-- a new list that nobody knows -/
abbrev TFD := DEnv → Sto → (List D → Sto → Prop) → Prop
def liftF (d : TFD) : TE := fun σ H Q => ∃ F ρ μ Qd, Rel K mg F ρ μ σ H ∧ d ρ μ Qd ∧ ∀ p vs F' μ' H' ds, Ext F μ H F' μ' H' → Ok K mg F' μ' H' → H p = none → F' p = none → μ' p = none → H' p = some (.lst vs) → Dts K mg F' vs ds → Qd ds μ' → Q (.ref p) H'
def liftT (d : TTD) : TT := fun σ H Q => ∃ F ρ μ Qd, Rel K mg F ρ μ σ H ∧ d ρ μ Qd ∧ ∀ b F' μ' H', Ext F μ H F' μ' H' → Ok K mg F' μ' H' → Qd b μ' → Q b H'
def liftA (d : TAD) : TA := fun σ H Q => ∃ F ρ μ Qd, Rel K mg F ρ μ σ H ∧ d ρ μ Qd ∧ ∀ vs F' μ' H' ds, Ext F μ H F' μ' H' → Ok K mg F' μ' H' → Dts K mg F' vs ds → Qd ds μ' → Q vs H'
/-- .. whose values are only looked at -/
inductive Wks (F : Hp) (μ : Sto) (H : Hp) : List V → List D → Prop
  | nil : Wks F μ H [] []
  | cons {v : V} {vs : List V} {d : D} {ds : List D} : Wk K mg F μ H v d → Wks F μ H vs ds → Wks F μ H (v :: vs) (d :: ds)
def liftAW (d : TAD) : TA := fun σ H Q => ∃ F ρ μ Qd, Rel K mg F ρ μ σ H ∧ d ρ μ Qd ∧ ∀ vs F' μ' H' ds, Ext F μ H F' μ' H' → Ok K mg F' μ' H' → Wks K mg F' μ' H' vs ds → Qd ds μ' → Q vs H'
def FLe (F F' : Hp) : Prop := ∀ a o, F a = some o → F' a = some o
/-- the state at the def's entry -/
structure Bs where
  F : Hp
  μ : Sto
  H : Hp
/-- .. and a state within the def -/
structure RelB (B : Bs) (F : Hp) (ρ : DEnv) (μ : Sto) (σ : L2.St) (H : Hp) : Prop where
  rel : Rel K mg F ρ μ σ H
  ext : Ext B.F B.μ B.H F μ H
  new : ∀ (i : Nat) (xs : List D) (a : Addr), ρ[i]? = some (some (DS.own xs)) → σ[i]? = some (some (.ref a)) → B.H a = none
def liftS (B : Bs) (d : TSD) : TS := fun D σ H => ∃ F ρ μ Dd, RelB K mg B F ρ μ σ H ∧ d Dd ρ μ ∧
  (∀ F' ρ' μ' σ' H', FLe F F' → RelB K mg B F' ρ' μ' σ' H' → Dd.nx ρ' μ' → D.nx σ' H') ∧
  (∀ F' ρ' μ' σ' H', FLe F F' → RelB K mg B F' ρ' μ' σ' H' → Dd.bk ρ' μ' → D.bk σ' H') ∧
  (∀ F' ρ' μ' σ' H', FLe F F' → RelB K mg B F' ρ' μ' σ' H' → Dd.ct ρ' μ' → D.ct σ' H') ∧
  (∀ v F' μ' H' dv, Ext B.F B.μ B.H F' μ' H' → Ok K mg F' μ' H' → Dt K mg F' v dv → Dd.rt dv μ' → D.rt v H')
end
theorem FLe.rfl' {F : Hp} : FLe F F := fun _ _ e => e
theorem FLe.trans {F F' F'' : Hp} (h : FLe F F') (g : FLe F' F'') : FLe F F'' := fun a o e => g a o (h a o e)
theorem _root_.L2.PE.weaken {X : Cx} {e : Expr} {t t' : TE} (h : PE X e t) (w : ∀ σ H Q, t' σ H Q → t σ H Q) : PE X e t' := ⟨fun pins s σ H Q I q => h.run pins s σ H Q I (w σ H Q q)⟩
theorem _root_.L2.PT.weaken {X : Cx} {e : Expr} {t t' : TT} (h : PT X e t) (w : ∀ σ H Q, t' σ H Q → t σ H Q) : PT X e t' := ⟨fun pins s σ H Q I q => h.run pins s σ H Q I (w σ H Q q)⟩
theorem _root_.L2.PW.weaken {X : Cx} {e : Expr} {t t' : TT} (h : PW X e t) (w : ∀ σ H Q, t' σ H Q → t σ H Q) : PW X e t' := ⟨fun wh pins s σ H Q I q => h.run wh pins s σ H Q I (w σ H Q q)⟩
theorem _root_.L2.PA.weaken {X : Cx} {e : List Expr} {t t' : TA} (h : PA X e t) (w : ∀ σ H Q, t' σ H Q → t σ H Q) : PA X e t' := ⟨fun pos pins s σ H Q I q => h.run pos pins s σ H Q I (w σ H Q q)⟩
theorem _root_.L2.PS.weaken {X : Cx} {e : Stmt} {t t' : TS} (h : PS X e t) (w : ∀ D σ H, t' D σ H → t D σ H) : PS X e t' := ⟨fun pins s σ H D I q => h.run pins s σ H D I (w D σ H q)⟩
theorem _root_.L2.PSs.weaken {X : Cx} {e : List Stmt} {t t' : TS} (h : PSs X e t) (w : ∀ D σ H, t' D σ H → t D σ H) : PSs X e t' := ⟨fun pins s σ H D I q => h.run pins s σ H D I (w D σ H q)⟩

abbrev DE (X : Cx) (e : Expr) (d : TED) : Prop := PE X e (liftE X.K X.mg d)
abbrev DW (X : Cx) (e : Expr) (d : TED) : Prop := PE X e (liftW X.K X.mg d)
abbrev DF (X : Cx) (e : Expr) (d : TFD) : Prop := PE X e (liftF X.K X.mg d)
abbrev DT (X : Cx) (e : Expr) (d : TTD) : Prop := PT X e (liftT X.K X.mg d)
abbrev DPW (X : Cx) (e : Expr) (d : TTD) : Prop := PW X e (liftT X.K X.mg d)
abbrev DA (X : Cx) (es : List Expr) (d : TAD) : Prop := PA X es (liftA X.K X.mg d)
abbrev DAW (X : Cx) (es : List Expr) (d : TAD) : Prop := PA X es (liftAW X.K X.mg d)
abbrev DSt (X : Cx) (B : Bs) (st : Stmt) (d : TSD) : Prop := PS X st (liftS X.K X.mg B d)
abbrev DSs (X : Cx) (B : Bs) (st : List Stmt) (d : TSD) : Prop := PSs X st (liftS X.K X.mg B d)
end DL

namespace DL
open PySem PySem.Spec PyProof.Rows L2

section
variable {K : PySem.W.Frag} {mg : Str → Option Value} {F F' H H' : Hp} {μ μ' : Sto} {x : V}
theorem Wk.ext {d : D} (e : Ext F μ H F' μ' H') (h : Wk K mg F μ H x d) : Wk K mg F' μ' H' x d := by
  rcases h with h | ⟨a, vs, xs, rfl, rfl, f, m, hh, r⟩
  · exact .inl (h.mono e.mono)
  · obtain ⟨h1, h2, h3⟩ := e.keep a _ hh m
    exact .inr ⟨a, vs, xs, rfl, rfl, h2.trans f, h3, h1, r.mono e.mono⟩
theorem Wk.int {i : Int} (h : Wk K mg F μ H x (.int i)) : x = .int i := by
  rcases h with h | ⟨_, _, _, _, e, _⟩
  · cases h; rfl
  · cases e
theorem Wk.bl {i : Bool} (h : Wk K mg F μ H x (.bl i)) : x = .bl i := by
  rcases h with h | ⟨_, _, _, _, e, _⟩
  · cases h; rfl
  · cases e
theorem Wk.non (h : Wk K mg F μ H x .non) : x = .non := by
  rcases h with h | ⟨_, _, _, _, e, _⟩
  · cases h; rfl
  · cases e
theorem Wk.str {s : List Nat} (h : Wk K mg F μ H x (.str s)) : x = .str (S s) := by
  rcases h with h | ⟨_, _, _, _, e, _⟩
  · cases h; rfl
  · cases e
theorem Wk.ref {a : Addr} (h : Wk K mg F μ H x (.ref a)) : x = .ref a := by
  rcases h with h | ⟨_, _, _, _, e, _⟩
  · cases h; rfl
  · cases e
theorem Wk.ty {n : String} (h : Wk K mg F μ H x (.ty n)) : x = .ty n := by
  rcases h with h | ⟨_, _, _, _, e, _⟩
  · cases h; rfl
  · cases e
theorem SqT.sub (o : Ok K mg F μ H) {a : Addr} {vs : List V} (h : SqT K F a vs) : SqT K H a vs := SqT.mono' o.sub h
theorem Wk.tup (o : Ok K mg F μ H) {ds : List D} (h : Wk K mg F μ H x (.tup ds)) : ∃ a vs, x = .ref a ∧ SqT K H a vs ∧ PlT F a vs ∧ Dts K mg F vs ds := by
  rcases h with h | ⟨_, _, _, _, e, _⟩
  · cases h with
    | tup q r => exact ⟨_, _, rfl, SqT.sub o q.sq, q, r⟩
  · cases e
theorem Wk.lst (o : Ok K mg F μ H) {ds : List D} (h : Wk K mg F μ H x (.lst ds)) : ∃ a vs, x = .ref a ∧ H a = some (.lst vs) ∧ Dts K mg F vs ds := by
  rcases h with h | ⟨a, vs, xs, rfl, e, f, m, hh, r⟩
  · cases h with
    | lst q r => exact ⟨_, _, rfl, o.sub _ _ q, r⟩
  · cases e
    exact ⟨a, vs, rfl, hh, r⟩
theorem Wk.scr (o : Ok K mg F μ H) {ns : List Int} (h : Wk K mg F μ H x (.scr ns)) : ∃ a, x = .ref a ∧ SqL K H a (ns.map V.int) := by
  rcases h with h | ⟨a, vs, xs, rfl, e, f, m, hh, r⟩
  · cases h with
    | scr q => exact ⟨_, rfl, SqL.mono' o.sub q⟩
  · cases e
theorem Wk.dct (o : Ok K mg F μ H) {ds : List (Key × D)} (h : Wk K mg F μ H x (.dct ds)) : ∃ a vs, x = .ref a ∧ H a = some (.dK vs) ∧ Dks K mg F vs ds := by
  rcases h with h | ⟨a, vs, xs, rfl, e, f, m, hh, r⟩
  · cases h with
    | dct q r => exact ⟨_, _, rfl, o.sub _ _ q, r⟩
  · cases e
/-- a new tuple -/
theorem newTup (o : Ok K mg F μ H) {vs : List V} {ds : List D} (r : Dts K mg F vs ds) {p : Addr} {ob : Obj} (hp : H p = none) (ho : ob.dict = none) :
    Ext F μ H (upd F p (.frz ob (.tup vs))) μ (upd H p (.frz ob (.tup vs))) ∧ Ok K mg (upd F p (.frz ob (.tup vs))) μ (upd H p (.frz ob (.tup vs))) ∧ Dt K mg (upd F p (.frz ob (.tup vs))) (.ref p) (.tup ds) := by
  obtain ⟨h1, h2⟩ := o.lay hp (.frz ob (.tup vs))
  exact ⟨h2, h1, .tup ⟨ob, ho, upd_same⟩ (r.mono h2.mono)⟩
/-- a pair that is only unpacked -/
theorem newPr (o : Ok K mg F μ H) {v w : V} {d e : D} (r : Dt K mg F v d) (r2 : Dt K mg F w e) {p : Addr} (hp : H p = none) : Ext F μ H (upd F p (.tup [v, w])) μ (upd H p (.tup [v, w])) ∧ Ok K mg (upd F p (.tup [v, w])) μ (upd H p (.tup [v, w])) ∧ Dt K mg (upd F p (.tup [v, w])) (.ref p) (.pr d e) := by
  obtain ⟨h1, h2⟩ := o.lay hp (.tup [v, w])
  exact ⟨h2, h1, .pr upd_same (r.mono h2.mono) (r2.mono h2.mono)⟩
/-- a new list that never changes -/
theorem newLst (o : Ok K mg F μ H) {vs : List V} {ds : List D} (r : Dts K mg F vs ds) {p : Addr} (hp : H p = none) : Ext F μ H (upd F p (.lst vs)) μ (upd H p (.lst vs)) ∧ Ok K mg (upd F p (.lst vs)) μ (upd H p (.lst vs)) ∧ Dt K mg (upd F p (.lst vs)) (.ref p) (.lst ds) := by
  obtain ⟨h1, h2⟩ := o.lay hp (.lst vs)
  exact ⟨h2, h1, .lst upd_same (r.mono h2.mono)⟩
end

mutual
def D.py : D → PyData
  | .non => .none | .bl b => .bool b | .int i => .int i | .str x => .str (S x)
  | .tup xs => .tuple (D.pys xs) | .lst xs => .list (D.pys xs) | .scr ns => .list (ns.map .int)
  | _ => .none
def D.pys : List D → List PyData
  | [] => []
  | x :: xs => x.py :: D.pys xs
end
mutual
/-- data without dicts, objects -/
def D.flat : D → Bool
  | .non => true | .bl _ => true | .int _ => true | .str _ => true
  | .tup xs => D.flats xs | .lst xs => D.flats xs
  | _ => false
def D.flats : List D → Bool
  | [] => true
  | x :: xs => x.flat && D.flats xs
end
section
variable {K : PySem.W.Frag} {mg : Str → Option Value} {F H : Hp} {μ : Sto}
mutual
theorem Dt.dp (hF : ∀ a o, F a = some o → H a = some o) : ∀ {v : V} {d : D}, Dt K mg F v d → d.flat = true → Dp K H v d.py
  | _, _, .non, _ => .non
  | _, _, .bl b, _ => .bl b
  | _, _, .int i, _ => .int i
  | _, _, .str x, _ => .str (S x)
  | _, _, .tup h r, q => .tup (SqT.mono' hF h.sq) (Dts.dp hF r q)
  | _, _, .lst h r, q => .lst (.inl (.inl (hF _ _ h))) (Dts.dp hF r q)
  | _, _, .dct _ _, q => nomatch q
  | _, _, .scr _, q => nomatch q
  | _, _, .ref _, q => nomatch q
  | _, _, .ty _, q => nomatch q
  | _, _, .gl _, q => nomatch q
  | _, _, .pr _ _ _, q => nomatch q
  | _, _, .obj _ _ _ _, q => nomatch q
  | _, _, .exn0 _ _ _ _, q => nomatch q
  | _, _, .exn1 _ _ _ _ _ _ _, q => nomatch q
  | _, _, .tkt _ _, q => nomatch q
theorem Dts.dp (hF : ∀ a o, F a = some o → H a = some o) : ∀ {vs : List V} {ds : List D}, Dts K mg F vs ds → D.flats ds = true → DpAll K H vs (D.pys ds)
  | _, _, .nil, _ => .nil
  | _, _, .cons h r, q => .cons (Dt.dp hF h (Bool.and_eq_true_iff.mp q).1) (Dts.dp hF r (Bool.and_eq_true_iff.mp q).2)
end
theorem Wk.dp (o : Ok K mg F μ H) {v : V} {d : D} (h : Wk K mg F μ H v d) (q : d.flat = true) : Dp K H v d.py := by
  rcases h with h | ⟨a, vs, xs, rfl, rfl, f, m, hh, r⟩
  · exact Dt.dp o.sub h q
  · exact .lst (.inl (.inl hh)) (Dts.dp o.sub r q)
end

abbrev RD2 := D → D → Sto → DK → Prop
def OpS (K : PySem.W.Frag) (mg : Str → Option Value) (r : R2) (rd : RD2) : Prop :=
  ∀ (F : Hp) (μ : Sto) (H : Hp) (x y : V) (dx dy : D) (Qd : DK) (Q : VK), Ok K mg F μ H → Wk K mg F μ H x dx → Wk K mg F μ H y dy → rd dx dy μ Qd →
    (∀ v F' μ' H' dv, Ext F μ H F' μ' H' → Ok K mg F' μ' H' → Dt K mg F' v dv → Qd dv μ' → Q v H') → r x y H Q
@[simp] def dOp (rd : RD2) (a b : TED) : TED := fun ρ μ Q => a ρ μ fun x μ1 => b ρ μ1 fun y μ2 => rd x y μ2 Q
section
variable {X : Cx} {a b c e : Expr} {da db dc : TED} {pos : Pos} {K : PySem.W.Frag} {mg : Str → Option Value}
theorem lift_op {r : R2} {rd : RD2} (hs : OpS K mg r rd) {σ : L2.St} {H : Hp} {Q : VK} (h : liftE K mg (dOp rd da db) σ H Q) : tOp r (liftW K mg da) (liftW K mg db) σ H Q := by
  obtain ⟨F, ρ, μ, Qd, R, hd, k⟩ := h
  refine ⟨F, ρ, μ, _, R, hd, fun v F1 μ1 H1 dv e1 o1 w1 q1 => ?_⟩
  refine ⟨F1, ρ, μ1, _, R.ext e1 o1, q1, fun u F2 μ2 H2 du e2 o2 w2 q2 => ?_⟩
  exact hs F2 μ2 H2 v u dv du _ _ o2 (w1.ext e2) w2 q2 fun z F3 μ3 H3 dz e3 o3 w3 q3 => k z F3 μ3 H3 dz (e1.trans (e2.trans e3)) o3 w3 q3
theorem lift_W {d : TED} {σ : L2.St} {H : Hp} {Q : VK} (h : liftW K mg d σ H Q) : liftE K mg d σ H Q := by
  obtain ⟨F, ρ, μ, Qd, R, hd, k⟩ := h
  exact ⟨F, ρ, μ, Qd, R, hd, fun v F' μ' H' dv e o w q => k v F' μ' H' dv e o (.inl w) q⟩
theorem dw {d : TED} (h : DE X e d) : DW X e d := h.weaken fun _ _ _ q => lift_W q
theorem de_op {op : Operator} {r : R2} {rd : RD2} (ho : OpR X (binaryOp op) r) (hs : OpS X.K X.mg r rd) (ha : DW X a da) (hb : DW X b db) : DE X (.BinOp a op b pos) (dOp rd da db) :=
  (pe_op ho ha hb).weaken fun _ _ _ q => lift_op hs q
theorem de_cmp {op : CmpOp} {r : R2} {rd : RD2} (ho : OpR X (compareOp op) r) (hs : OpS X.K X.mg r rd) (ha : DW X a da) (hb : DW X b db) (hm : behindInMarks op b = false) : DE X (.Compare a [op] [b] pos) (dOp rd da db) :=
  (pe_cmpR ho ha hb hm).weaken fun _ _ _ q => lift_op hs q
/-- a test that is a value -/
def blK : D → (Bool → Prop) → Prop
  | .bl b, K => K b
  | _, _ => False
@[simp] theorem blK_1 : blK  (.bl b0) K0 = (K0 b0) := rfl
theorem blK_iff {x : D} {K : Bool → Prop} (h : blK x K) : ∃ b, x = .bl b ∧ K b := by
  cases x <;> first | exact h.elim | exact ⟨_, rfl, h⟩
@[simp] def dB (d : TED) : TTD := fun ρ μ Q => d ρ μ fun x μ1 => blK x fun b => Q b μ1
theorem dt_cmp {op : CmpOp} {r : R2} {rd : RD2} (ho : OpR X (compareOp op) r) (hs : OpS X.K X.mg r rd) (ha : DW X a da) (hb : DW X b db) (hm : behindInMarks op b = false) : DT X (.Compare a [op] [b] pos) (dB (dOp rd da db)) :=
  (pt_cmpR ho ha hb hm).weaken fun σ H Q q => by
    obtain ⟨F, ρ, μ, Qd, R, hd, k⟩ := q
    refine lift_op hs ⟨F, ρ, μ, _, R, hd, fun v F' μ' H' dv e o w q => ?_⟩
    obtain ⟨b, rfl, q⟩ := blK_iff q
    cases w
    exact ⟨b, rfl, k b F' μ' H' e o q⟩
theorem dt_val (h : DE X e da) (he : ∀ whole, isTrue e X.env whole = (do let v ← whole; standAt e.pos; holding [v] (truthy v)) := by intro _; rfl) : DT X e (dB da) :=
  (pt_val h he).weaken fun σ H Q q => by
    obtain ⟨F, ρ, μ, Qd, R, hd, k⟩ := q
    refine ⟨F, ρ, μ, _, R, hd, fun v F' μ' H' dv e o w q => ?_⟩
    obtain ⟨b, rfl, q⟩ := blK_iff q
    cases w
    exact ⟨b, rfl, k b F' μ' H' e o q⟩

@[simp] def dVar (i : Nat) : TED := fun ρ μ Q => ∃ d, ρ[i]? = some (some (.val d)) ∧ Q d μ
/-- .. only looked at -/
@[simp] def dLook (i : Nat) : TED := fun ρ μ Q => match ρ[i]? with | some (some (.val d)) => Q d μ | some (some (.own xs)) => Q (.lst xs) μ | _ => False
@[simp] def dC (d : D) : TED := fun _ μ Q => Q d μ
theorem de_var {i : Nat} {x : Str} (h : PE X (.Name x pos) (tVar i)) : DE X (.Name x pos) (dVar i) := h.weaken fun σ H Q q => by
  obtain ⟨F, ρ, μ, Qd, R, ⟨d, hd, q⟩, k⟩ := q
  obtain ⟨v, h1, h2⟩ := R.slot i _ hd
  exact ⟨v, h1, k v F μ H d .refl R.ok h2 q⟩
theorem dw_var {i : Nat} {x : Str} (h : PE X (.Name x pos) (tVar i)) : DW X (.Name x pos) (dLook i) := h.weaken fun σ H Q q => by
  obtain ⟨F, ρ, μ, Qd, R, q, k⟩ := q
  cases e : ρ[i]? with
  | none => simp [dLook, e] at q
  | some o =>
    cases o with
    | none => simp [dLook, e] at q
    | some s =>
      obtain ⟨v, h1, h2⟩ := R.slot i _ e
      cases s with
      | val d => exact ⟨v, h1, k v F μ H d .refl R.ok (.inl h2) (by simpa [dLook, e] using q)⟩
      | own xs =>
        obtain ⟨a, vs, rfl, f, m, hh, r⟩ := h2
        exact ⟨_, h1, k _ F μ H (.lst xs) .refl R.ok (.inr ⟨a, vs, xs, rfl, rfl, f, m, hh, r⟩) (by simpa [dLook, e] using q)⟩
theorem de_c {v : V} {d : D} (h : PE X e (tC v)) (hd : ∀ F, Dt X.K X.mg F v d) : DE X e (dC d) := h.weaken fun σ H Q q => by
  obtain ⟨F, ρ, μ, Qd, R, q, k⟩ := q
  exact k v F μ H d .refl R.ok (hd F) q
theorem de_int {i j pos} : DE X (.Constant (.int i) j pos) (dC (.int i)) := de_c pe_int fun _ => .int i
theorem de_bl {b j pos} : DE X (.Constant (.bool b) j pos) (dC (.bl b)) := de_c pe_bl fun _ => .bl b
theorem de_non {j pos} : DE X (.Constant .none j pos) (dC .non) := de_c pe_non fun _ => .non
theorem de_str {x : Str} {j pos} (s : List Nat) (h : x = S s := by decide +kernel) : DE X (.Constant (.str x) j pos) (dC (.str s)) := de_c pe_str fun _ => by subst h; exact .str s
theorem de_glob {x : Str} {v : V} {u : Value} {d : D} (hg : Gl X x) (hm : X.mg x = some u) (r : RelV v u) (hd : ∀ F, Dt X.K X.mg F v d) (hdb : (x == ("__debug__" : Str)) = false := by decide) : DE X (.Name x pos) (dC d) := de_c (pe_glob hg hm r hdb) hd

@[simp] def dNot (t : TTD) : TTD := fun ρ μ Q => t ρ μ fun b μ1 => Q (!b) μ1
@[simp] def dAnd (t u : TTD) : TTD := fun ρ μ Q => t ρ μ fun b μ1 => if b = true then u ρ μ1 Q else Q false μ1
@[simp] def dOr (t u : TTD) : TTD := fun ρ μ Q => t ρ μ fun b μ1 => if b = true then Q true μ1 else u ρ μ1 Q
@[simp] def dIf (t : TTD) (a b : TED) : TED := fun ρ μ Q => t ρ μ fun c μ1 => if c = true then a ρ μ1 Q else b ρ μ1 Q
variable {ta tb : TTD} {rest : List Expr}
theorem dt_not (h : DT X a ta) : DT X (.UnaryOp .Not a pos) (dNot ta) := (pt_not h).weaken fun σ H Q q => by
  obtain ⟨F, ρ, μ, Qd, R, hd, k⟩ := q
  exact ⟨F, ρ, μ, _, R, hd, fun b F' μ' H' e o q => k (!b) F' μ' H' e o q⟩
theorem dpw_and1 (ha : DT X a ta) : DPW X (.BoolOp .And [a] pos) ta := pw_and1 ha
theorem dpw_or1 (ha : DT X a ta) : DPW X (.BoolOp .Or [a] pos) ta := pw_or1 ha
theorem dpw_and (ha : DT X a ta) (hb : DPW X (.BoolOp .And (b :: rest) pos) tb) : DPW X (.BoolOp .And (a :: b :: rest) pos) (dAnd ta tb) := (pw_and ha hb).weaken fun σ H Q q => by
  obtain ⟨F, ρ, μ, Qd, R, hd, k⟩ := q
  refine ⟨F, ρ, μ, _, R, hd, fun b F1 μ1 H1 e1 o1 q1 => ?_⟩
  cases b with
  | true => exact ⟨F1, ρ, μ1, _, R.ext e1 o1, q1, fun c F2 μ2 H2 e2 o2 q2 => k c F2 μ2 H2 (e1.trans e2) o2 q2⟩
  | false => exact k false F1 μ1 H1 e1 o1 q1
theorem dpw_or (ha : DT X a ta) (hb : DPW X (.BoolOp .Or (b :: rest) pos) tb) : DPW X (.BoolOp .Or (a :: b :: rest) pos) (dOr ta tb) := (pw_or ha hb).weaken fun σ H Q q => by
  obtain ⟨F, ρ, μ, Qd, R, hd, k⟩ := q
  refine ⟨F, ρ, μ, _, R, hd, fun b F1 μ1 H1 e1 o1 q1 => ?_⟩
  cases b with
  | false => exact ⟨F1, ρ, μ1, _, R.ext e1 o1, q1, fun c F2 μ2 H2 e2 o2 q2 => k c F2 μ2 H2 (e1.trans e2) o2 q2⟩
  | true => exact k true F1 μ1 H1 e1 o1 q1
theorem DPW.dt (h : DPW X e ta) : DT X e ta := PW.pt h
/-- .. as values, all but the last True or False -/
@[simp] def dAndV (a b : TED) : TED := fun ρ μ Q => a ρ μ fun x μ1 => blK x fun c => if c = true then b ρ μ1 Q else Q (.bl false) μ1
@[simp] def dOrV (a b : TED) : TED := fun ρ μ Q => a ρ μ fun x μ1 => blK x fun c => if c = true then Q (.bl true) μ1 else b ρ μ1 Q
@[simp] def dNotV (a : TED) : TED := fun ρ μ Q => a ρ μ fun x μ1 => blK x fun c => Q (.bl (!c)) μ1
theorem de_one {op} (h : DE X a da) : DE X (.BoolOp op [a] pos) da := pe_one h
theorem de_and (ha : DE X a da) (hb : DE X (.BoolOp .And (b :: rest) pos) db) : DE X (.BoolOp .And (a :: b :: rest) pos) (dAndV da db) := (pe_and ha hb).weaken fun σ H Q q => by
  obtain ⟨F, ρ, μ, Qd, R, hd, k⟩ := q
  refine ⟨F, ρ, μ, _, R, hd, fun v F1 μ1 H1 dv e1 o1 w1 q1 => ?_⟩
  obtain ⟨c, rfl, q1⟩ := blK_iff q1
  cases w1
  refine ⟨c, rfl, ?_⟩
  cases c with
  | true => exact ⟨F1, ρ, μ1, _, R.ext e1 o1, q1, fun c F2 μ2 H2 d2 e2 o2 w2 q2 => k c F2 μ2 H2 d2 (e1.trans e2) o2 w2 q2⟩
  | false => exact k _ F1 μ1 H1 _ e1 o1 (.bl false) q1
theorem de_not (ha : DE X a da) : DE X (.UnaryOp .Not a pos) (dNotV da) := (pe_not ha).weaken fun σ H Q q => by
  obtain ⟨F, ρ, μ, Qd, R, hd, k⟩ := q
  refine ⟨F, ρ, μ, _, R, hd, fun v F1 μ1 H1 dv e1 o1 w1 q1 => ?_⟩
  obtain ⟨c, rfl, q1⟩ := blK_iff q1
  cases w1
  exact ⟨c, rfl, k _ F1 μ1 H1 _ e1 o1 (.bl _) q1⟩
@[simp] def dNeg (a : TED) : TED := fun ρ μ Q => a ρ μ fun x μ1 => ∃ i, x = .int i ∧ Q (.int (-i)) μ1
@[simp] def dChain (r r' : RD2) (a b c : TED) : TED := fun ρ μ Q => a ρ μ fun x μ1 => b ρ μ1 fun y μ2 => r x y μ2 fun z μ3 => blK z fun k => (if k = true then c ρ μ3 fun w μ4 => r' y w μ4 Q else Q (.bl false) μ3)
theorem lift_chain {r r' : R2} {rd rd' : RD2} (hs : OpS K mg r rd) (hs' : OpS K mg r' rd') {σ : L2.St} {H : Hp} {Q : VK} (h : liftE K mg (dChain rd rd' da db dc) σ H Q) : tChain r r' (liftW K mg da) (liftW K mg db) (liftW K mg dc) σ H Q := by
  obtain ⟨F, ρ, μ, Qd, R, hd, k⟩ := h
  refine ⟨F, ρ, μ, _, R, hd, fun v F1 μ1 H1 dv e1 o1 w1 q1 => ?_⟩
  refine ⟨F1, ρ, μ1, _, R.ext e1 o1, q1, fun u F2 μ2 H2 du e2 o2 w2 q2 => ?_⟩
  refine hs F2 μ2 H2 v u dv du _ _ o2 (w1.ext e2) w2 q2 fun z F3 μ3 H3 dz e3 o3 w3 q3 => ?_
  obtain ⟨b, rfl, q3⟩ := blK_iff q3
  cases w3
  refine ⟨b, rfl, ?_⟩
  cases b with
  | false => exact k _ F3 μ3 H3 _ (e1.trans (e2.trans e3)) o3 (.bl false) q3
  | true =>
    refine ⟨F3, ρ, μ3, _, R.ext (e1.trans (e2.trans e3)) o3, q3, fun t F4 μ4 H4 dt e4 o4 w4 q4 => ?_⟩
    exact hs' F4 μ4 H4 u t du dt _ _ o4 ((w2.ext e3).ext e4) w4 q4 fun z F5 μ5 H5 dz e5 o5 w5 q5 => k z F5 μ5 H5 dz (e1.trans (e2.trans (e3.trans (e4.trans e5)))) o5 w5 q5
theorem de_chain {op op' : CmpOp} {r r' : R2} {rd rd' : RD2} (ho : OpR X (compareOp op) r) (hs : OpS X.K X.mg r rd) (ho' : OpR X (compareOp op') r') (hs' : OpS X.K X.mg r' rd') (ha : DW X a da) (hb : DW X b db) (hc : DW X c dc)
    (hm : lastMarks [op, op'] [b, c] = false := by with_unfolding_all rfl) : DE X (.Compare a [op, op'] [b, c] pos) (dChain rd rd' da db dc) :=
  (pe_chain ho ho' ha hb hc hm).weaken fun _ _ _ q => lift_chain hs hs' q
end
end DL

namespace DL
open PySem PySem.Spec PyProof.Rows L2

theorem S_len (l : List Nat) : (S l).length = l.length := by show l.toArray.size = l.length; simp
theorem S_app (l r : List Nat) : S l ++ S r = S (l ++ r) := by
  show (⟨l.toArray ++ r.toArray⟩ : Str) = ⟨(l ++ r).toArray⟩
  simp
theorem S_list (l : List Nat) : (S l).cps.toList = l := by simp
theorem S_inj {l r : List Nat} : S l = S r ↔ l = r := by
  constructor
  · intro h
    have := congrArg (fun z : Str => z.cps.toList) h
    simpa using this
  · intro h; rw [h]
/-- two whole numbers under a condition -/
def rdI (C : Int → Int → Prop) (g : Int → Int → D) : RD2
  | .int i, .int j, μ, Q => C i j ∧ Q (g i j) μ
  | _, _, _, _ => False
@[simp] theorem rdI_1 (C : Int → Int → Prop) (g : Int → Int → D) {i j : Int} {μ : Sto} {Q : DK} : rdI C g (.int i) (.int j) μ Q = (C i j ∧ Q (g i j) μ) := rfl
def mulOk (i j : Int) : Prop := (-18446744073709551616 < i ∧ i < 18446744073709551616) ∨ (-18446744073709551616 < j ∧ j < 18446744073709551616) ∨ i.natAbs.log2 + j.natAbs.log2 < 1000000
def powOk (i j : Int) : Prop := 0 ≤ j ∧ j ≤ 1000000 ∧ i.natAbs < 18446744073709551616
def divOk (j : Int) : Prop := 0 < j ∧ (j < 1073741824 ∨ j.natAbs.log2 < 9000)
@[simp] abbrev SZ : Nat := 16777216
def repl {α : Type} (n : Nat) (l : List α) : List α := (List.replicate n l).flatten
def rdAdd : RD2
  | .int i, .int j, μ, Q => Q (.int (i + j)) μ
  | .str s, .str t, μ, Q => s.length + t.length ≤ SZ ∧ Q (.str (s ++ t)) μ
  | .tup s, .tup t, μ, Q => s.length + t.length ≤ SZ ∧ Q (.tup (s ++ t)) μ
  | .lst s, .lst t, μ, Q => s.length + t.length ≤ SZ ∧ Q (.lst (s ++ t)) μ
  | .int i, .bl k, μ, Q => Q (.int (i + b2i k)) μ
  | .ref a, .lst t, μ, Q => ∃ s, μ a = some (.lst s) ∧ s.length + t.length ≤ SZ ∧ Q (.lst (s ++ t)) μ
  | _, _, _, _ => False
@[simp] theorem rdAdd_1 : rdAdd  (.int i0) (.int j0) μ0 Q0 = (Q0 (.int (i0 + j0)) μ0) := rfl
@[simp] theorem rdAdd_2 : rdAdd  (.str s0) (.str t0) μ0 Q0 = (s0.length + t0.length ≤ SZ ∧ Q0 (.str (s0 ++ t0)) μ0) := rfl
@[simp] theorem rdAdd_3 : rdAdd  (.tup s0) (.tup t0) μ0 Q0 = (s0.length + t0.length ≤ SZ ∧ Q0 (.tup (s0 ++ t0)) μ0) := rfl
@[simp] theorem rdAdd_4 : rdAdd  (.lst s0) (.lst t0) μ0 Q0 = (s0.length + t0.length ≤ SZ ∧ Q0 (.lst (s0 ++ t0)) μ0) := rfl
@[simp] theorem rdAdd_5 : rdAdd  (.int i0) (.bl k0) μ0 Q0 = (Q0 (.int (i0 + b2i k0)) μ0) := rfl
@[simp] theorem rdAdd_6 : rdAdd  (.ref a0) (.lst t0) μ0 Q0 = (∃ s, μ0 a0 = some (.lst s) ∧ s.length + t0.length ≤ SZ ∧ Q0 (.lst (s ++ t0)) μ0) := rfl
def rdSub : RD2 := rdI (fun _ _ => True) fun i j => .int (i - j)
def rdMul : RD2
  | .int i, .int j, μ, Q => mulOk i j ∧ Q (.int (i * j)) μ
  | .str s, .int n, μ, Q => n ≤ 1000000 ∧ -1000000 ≤ n ∧ s.length * n.toNat ≤ SZ ∧ Q (.str (repl n.toNat s)) μ
  | .tup s, .int n, μ, Q => -1000 ≤ n ∧ n ≤ 1000 ∧ s.length ≤ 1000 ∧ Q (.tup (repl n.toNat s)) μ
  | .lst s, .int n, μ, Q => n ≤ 1000000 ∧ -1000000 ≤ n ∧ s.length * n.toNat ≤ SZ ∧ Q (.lst (repl n.toNat s)) μ
  | _, _, _, _ => False
@[simp] theorem rdMul_1 : rdMul  (.int i0) (.int j0) μ0 Q0 = (mulOk i0 j0 ∧ Q0 (.int (i0 * j0)) μ0) := rfl
@[simp] theorem rdMul_2 : rdMul  (.str s0) (.int n0) μ0 Q0 = (n0 ≤ 1000000 ∧ -1000000 ≤ n0 ∧ s0.length * n0.toNat ≤ SZ ∧ Q0 (.str (repl n0.toNat s0)) μ0) := rfl
@[simp] theorem rdMul_3 : rdMul  (.tup s0) (.int n0) μ0 Q0 = (-1000 ≤ n0 ∧ n0 ≤ 1000 ∧ s0.length ≤ 1000 ∧ Q0 (.tup (repl n0.toNat s0)) μ0) := rfl
@[simp] theorem rdMul_4 : rdMul  (.lst s0) (.int n0) μ0 Q0 = (n0 ≤ 1000000 ∧ -1000000 ≤ n0 ∧ s0.length * n0.toNat ≤ SZ ∧ Q0 (.lst (repl n0.toNat s0)) μ0) := rfl
def rdMod : RD2 := rdI (fun _ j => 0 < j) fun i j => .int (i % j)
def rdDiv : RD2 := rdI (fun _ j => divOk j) fun i j => .int (i / j)
def rdPow : RD2 := rdI powOk fun i j => .int (i ^ j.toNat)
def rdShl : RD2 := rdI powOk fun i j => .int (i * 2 ^ j.toNat)
def rdShr : RD2 := rdI (fun _ j => 0 ≤ j) fun i j => .int (i / 2 ^ j.toNat)
def rdAnd : RD2 := rdI (fun _ _ => True) fun i j => .int (Builtin.bitAnd i j)
def rdLt : RD2
  | .int i, .int j, μ, Q => Q (.bl (decide (i < j))) μ
  | .str s, .str t, μ, Q => Q (.bl (decide (s < t))) μ
  | _, _, _, _ => False
@[simp] theorem rdLt_1 : rdLt  (.int i0) (.int j0) μ0 Q0 = (Q0 (.bl (decide (i0 < j0))) μ0) := rfl
@[simp] theorem rdLt_2 : rdLt  (.str s0) (.str t0) μ0 Q0 = (Q0 (.bl (decide (s0 < t0))) μ0) := rfl
def rdLe : RD2 := rdI (fun _ _ => True) fun i j => .bl (decide (i ≤ j))
def rdGt : RD2 := rdI (fun _ _ => True) fun i j => .bl (decide (j < i))
def rdGe : RD2 := rdI (fun _ _ => True) fun i j => .bl (decide (j ≤ i))
@[simp] theorem rdSub_i {i j : Int} {μ : Sto} {Q : DK} : rdSub (.int i) (.int j) μ Q = (Q (.int (i - j)) μ) := by simp [rdSub]
@[simp] theorem rdMod_i {i j : Int} {μ : Sto} {Q : DK} : rdMod (.int i) (.int j) μ Q = (0 < j ∧ Q (.int (i % j)) μ) := by simp [rdMod]
@[simp] theorem rdDiv_i {i j : Int} {μ : Sto} {Q : DK} : rdDiv (.int i) (.int j) μ Q = (divOk j ∧ Q (.int (i / j)) μ) := by simp [rdDiv]
@[simp] theorem rdPow_i {i j : Int} {μ : Sto} {Q : DK} : rdPow (.int i) (.int j) μ Q = (powOk i j ∧ Q (.int (i ^ j.toNat)) μ) := by simp [rdPow]
@[simp] theorem rdShl_i {i j : Int} {μ : Sto} {Q : DK} : rdShl (.int i) (.int j) μ Q = (powOk i j ∧ Q (.int (i * 2 ^ j.toNat)) μ) := by simp [rdShl]
@[simp] theorem rdShr_i {i j : Int} {μ : Sto} {Q : DK} : rdShr (.int i) (.int j) μ Q = (0 ≤ j ∧ Q (.int (i / 2 ^ j.toNat)) μ) := by simp [rdShr]
@[simp] theorem rdAnd_i {i j : Int} {μ : Sto} {Q : DK} : rdAnd (.int i) (.int j) μ Q = (Q (.int (Builtin.bitAnd i j)) μ) := by simp [rdAnd]
@[simp] theorem rdLe_i {i j : Int} {μ : Sto} {Q : DK} : rdLe (.int i) (.int j) μ Q = (Q (.bl (decide (i ≤ j))) μ) := by simp [rdLe]
@[simp] theorem rdGt_i {i j : Int} {μ : Sto} {Q : DK} : rdGt (.int i) (.int j) μ Q = (Q (.bl (decide (j < i))) μ) := by simp [rdGt]
@[simp] theorem rdGe_i {i j : Int} {μ : Sto} {Q : DK} : rdGe (.int i) (.int j) μ Q = (Q (.bl (decide (j ≤ i))) μ) := by simp [rdGe]
/-- are two data equal -/
def D.eqv (x y : D) : Bool := PyData.eqv x.py y.py
def scD : D → D → Bool
  | .int _, .int _ => true
  | .str _, .str _ => true
  | _, _ => false
def okEq (x y : D) : Prop := scD x y = true ∨ (x.flat = true ∧ y.flat = true ∧ SeqAt.shaped x.py = true ∧ SeqAt.shaped y.py = true)
@[simp] def rdEq : RD2 := fun x y μ Q => okEq x y ∧ Q (.bl (D.eqv x y)) μ
@[simp] def rdNe : RD2 := fun x y μ Q => okEq x y ∧ Q (.bl (!D.eqv x y)) μ
@[simp] def isNonD : D → Bool
  | .non => true
  | _ => false
def rdIs : RD2
  | x, .non, μ, Q => Q (.bl (isNonD x)) μ
  | _, _, _, _ => False
@[simp] theorem rdIs_1 : rdIs  x0 (.non) μ0 Q0 = (Q0 (.bl (isNonD x0)) μ0) := rfl
def rdIsNot : RD2
  | x, .non, μ, Q => Q (.bl (!isNonD x)) μ
  | _, _, _, _ => False
@[simp] theorem rdIsNot_1 : rdIsNot  x0 (.non) μ0 Q0 = (Q0 (.bl (!isNonD x0)) μ0) := rfl

section
variable {K : PySem.W.Frag} {mg : Str → Option Value}
theorem ops_I {C : Int → Int → Prop} {C' : Int → Int → Prop} {g : Int → Int → V} {g' : Int → Int → D} (hC : ∀ i j, C' i j → C i j) (hg : ∀ i j F, Dt K mg F (g i j) (g' i j)) : OpS K mg (rI C g) (rdI C' g') := by
  intro F μ H x y dx dy Qd Q o wx wy h k
  cases dx <;> cases dy <;> first | exact h.elim | skip
  obtain ⟨h1, h2⟩ := h
  exact ⟨_, _, wx.int, wy.int, hC _ _ h1, k _ F μ H _ .refl o (hg _ _ F) h2⟩
theorem ops_I0 {C' : Int → Int → Prop} {g : Int → Int → V} {g' : Int → Int → D} (hg : ∀ i j F, Dt K mg F (g i j) (g' i j)) : OpS K mg (rI0 g) (rdI C' g') := by
  intro F μ H x y dx dy Qd Q o wx wy h k
  cases dx <;> cases dy <;> first | exact h.elim | skip
  obtain ⟨h1, h2⟩ := h
  exact ⟨_, _, wx.int, wy.int, k _ F μ H _ .refl o (hg _ _ F) h2⟩
/-- one value, the heap as it stands -/
theorem fin0 {F : Hp} {μ : Sto} {H : Hp} {Qd : DK} {Q : VK} (o : Ok K mg F μ H) (k : ∀ v F' μ' H' dv, Ext F μ H F' μ' H' → Ok K mg F' μ' H' → Dt K mg F' v dv → Qd dv μ' → Q v H') {v : V} {d : D} (h : Dt K mg F v d) (q : Qd d μ) : Q v H :=
  k v F μ H d .refl o h q
def rAddA (K : PySem.W.Frag) : R2 := fun x y H Q => (rI0 (fun i j => .int (i + j)) x y H Q ∨ (∃ i j, x = .str i ∧ y = .str j ∧ i.length + j.length ≤ sizeLine ∧ Q (.str (i ++ j)) H)) ∨ ((rCatZ K x y H Q ∨ rCat x y H Q) ∨ (∃ i k, x = .int i ∧ y = .bl k ∧ Q (.int (i + b2i k)) H))
theorem op_addA {X : Cx} : OpR X (binaryOp .Add) (rAddA X.K) := .or (.or op_add op_add_str) (.or (.or op_catZ op_cat) op_add_ib)
theorem ops_add : OpS K mg (rAddA K) rdAdd := by
  intro F μ H x y dx dy Qd Q o wx wy h k
  cases dx <;> cases dy <;> first | exact h.elim | skip
  · exact .inr (.inr ⟨_, _, wx.int, wy.bl, fin0 o k (.int _) h⟩)
  · exact .inl (.inl ⟨_, _, wx.int, wy.int, fin0 o k (.int _) h⟩)
  · obtain ⟨h1, h2⟩ := h
    refine .inl (.inr ⟨_, _, wx.str, wy.str, ?_, ?_⟩)
    · rw [S_len, S_len, sizeLine_eq]; exact h1
    · rw [S_app]; exact fin0 o k (.str _) h2
  · obtain ⟨h1, h2⟩ := h
    obtain ⟨a, vs, rfl, ha, _, ra⟩ := wx.tup o
    obtain ⟨b, ws, rfl, hb, _, rb⟩ := wy.tup o
    refine .inr (.inl (.inl ⟨a, b, vs, ws, rfl, rfl, ha, hb, ?_, fun e => ?_, fun e1 e2 => ?_, fun e1 e2 p ob hp hob => ?_⟩))
    · rw [ra.length, rb.length, sizeLine_eq]; exact h1
    · subst e; cases ra
      rcases wy with wy | ⟨_, _, _, _, q, _⟩
      · exact fin0 o k wy h2
      · cases q
    · subst e2; cases rb
      rw [List.append_nil] at h2
      rcases wx with wx | ⟨_, _, _, _, q, _⟩
      · exact fin0 o k wx h2
      · cases q
    · obtain ⟨g1, g2, g3⟩ := newTup o (ra.append rb) hp hob
      exact k _ _ _ _ _ g1 g2 g3 h2
  · obtain ⟨h1, h2⟩ := h
    obtain ⟨a, vs, rfl, ha, ra⟩ := wx.lst o
    obtain ⟨b, ws, rfl, hb, rb⟩ := wy.lst o
    refine .inr (.inl (.inr ⟨a, b, vs, ws, rfl, rfl, ha, hb, ?_, fun p hp => ?_⟩))
    · rw [ra.length, rb.length, sizeLine_eq]; exact h1
    · obtain ⟨g1, g2, g3⟩ := newLst o (ra.append rb) hp
      exact k _ _ _ _ _ g1 g2 g3 h2
  · obtain ⟨us, h0, h1, h2⟩ := h
    cases wx.ref
    obtain ⟨vs, ha, ra⟩ := o.sto _ _ h0
    obtain ⟨b, ws, rfl, hb, rb⟩ := wy.lst o
    refine .inr (.inl (.inr ⟨_, b, vs, ws, rfl, rfl, ha, hb, ?_, fun p hp => ?_⟩))
    · rw [ra.length, rb.length, sizeLine_eq]; exact h1
    · obtain ⟨g1, g2, g3⟩ := newLst o (ra.append rb) hp
      exact k _ _ _ _ _ g1 g2 g3 h2
theorem ops_sub : OpS K mg (rI0 fun i j => .int (i - j)) rdSub := ops_I0 fun _ _ _ => .int _
theorem ops_mod : OpS K mg (rI (fun _ j => 0 < j) fun i j => .int (i % j)) rdMod := ops_I (fun _ _ h => h) fun _ _ _ => .int _
theorem ops_pow : OpS K mg (rI CPow fun i j => .int (i ^ j.toNat)) rdPow := ops_I (fun _ _ h => h) fun _ _ _ => .int _
def rDivA : R2 := fun x y H Q => rI CDiv (fun i j => .int (i / j)) x y H Q ∨ rI CDivW (fun i j => .int (i / j)) x y H Q
theorem op_divA {X : Cx} : OpR X (binaryOp .FloorDiv) rDivA := .or op_fdiv op_fdivW
theorem ops_div : OpS K mg rDivA rdDiv := by
  intro F μ H x y dx dy Qd Q o wx wy h k
  cases dx <;> cases dy <;> first | exact h.elim | skip
  obtain ⟨⟨h0, h1 | h1⟩, h2⟩ := h
  · exact .inl ⟨_, _, wx.int, wy.int, ⟨h0, h1⟩, fin0 o k (.int _) h2⟩
  · exact .inr ⟨_, _, wx.int, wy.int, ⟨h0, h1⟩, fin0 o k (.int _) h2⟩
/-- text * int -/
def rRepS : R2 := fun x y H Q => ∃ s n, x = .str s ∧ y = .int n ∧ PySem.MulOk s n ∧ Q (.str (PySem.Txt.mul s n)) H
theorem op_repS {X : Cx} : OpR X (binaryOp .Mult) rRepS := by
  intro pins s σ H x y v u Q I rx ry h
  obtain ⟨z, n, rfl, rfl, hm, q⟩ := h
  obtain ⟨t, rfl⟩ := rx
  obtain ⟨t', rfl⟩ := ry
  exact PySem.SB.mul hm fun t' k => ⟨.str _, H, I.tok _, ⟨_, rfl⟩, q⟩
theorem repl_one {α : Type} (l : List α) : repl 1 l = l := by simp [repl]
theorem flat_const {α : Type} (l : List α) : ∀ n : Nat, (List.replicate (n + 1) l).flatten = l ++ (List.replicate n l).flatten := fun n => by rw [List.replicate_succ, List.flatten_cons]
end
end DL

namespace DL
open PySem PySem.Spec PyProof.Rows L2
section
variable {K : PySem.W.Frag} {mg : Str → Option Value}

theorem foldl_arr (l : List Nat) : ∀ (n : Nat) (acc : List Nat), (List.replicate n l.toArray).foldl (· ++ ·) acc.toArray = (acc ++ repl n l).toArray := by
  intro n
  induction n with
  | zero => intro acc; simp [repl]
  | succ n ih =>
    intro acc
    rw [List.replicate_succ, List.foldl_cons, List.append_toArray, ih]
    simp [repl, List.replicate_succ]
theorem repl_len {α : Type} (n : Nat) (l : List α) : (repl n l).length = n * l.length := by
  simp [repl, List.length_flatten]
theorem S_mul (l : List Nat) (n : Int) : PySem.Txt.mul (S l) n = S (repl n.toNat l) := by
  unfold PySem.Txt.mul
  by_cases h : n < 1
  · rw [if_pos h, show n.toNat = 0 by omega]
    rfl
  · rw [if_neg h]
    by_cases c : (n == 1 || (S l).length == 0) = true
    · rw [if_pos c]
      rcases Bool.or_eq_true_iff.mp c with c | c
      · have e : n = 1 := by simpa using c
        subst e
        show S l = S (repl 1 l)
        rw [repl_one]
      · have e : l = [] := by
          rw [S_len] at c
          exact List.eq_nil_of_length_eq_zero (by simpa using c)
        subst e
        simp [repl]
    · rw [if_neg c]
      have := foldl_arr l n.toNat []
      rw [List.nil_append] at this
      show (⟨List.foldl (fun x1 x2 => x1 ++ x2) #[] (List.replicate n.toNat l.toArray)⟩ : Str) = ⟨(repl n.toNat l).toArray⟩
      rw [← this]
theorem mulOk_S {l : List Nat} {n : Int} (h1 : n ≤ 1000000) (h2 : -1000000 ≤ n) (h3 : l.length * n.toNat ≤ SZ) : PySem.MulOk (S l) n := by
  refine ⟨?_, fun a b => ?_, fun a b => ?_⟩
  · rw [decide_eq_false (by omega), decide_eq_false (by omega)]; rfl
  · rw [S_len]
    intro c
    have h4 : (l.length : Int) * n ≤ SZ := by
      have : ((l.length * n.toNat : Nat) : Int) ≤ (SZ : Nat) := by exact_mod_cast h3
      rw [Int.natCast_mul, Int.toNat_of_nonneg (by omega)] at this
      exact this
    have h5 : (9223372036854775807 : Int) / n < l.length := c
    have h6 : (9223372036854775807 : Int) < l.length * n := by
      have := Int.lt_mul_of_ediv_lt (show (0 : Int) < n by omega) h5
      omega
    have : ((SZ : Nat) : Int) = 16777216 := rfl
    omega
  · rw [S_len]
    show Builtin.Str.tooLong _ = false
    unfold Builtin.Str.tooLong
    rw [sizeLine_eq]
    exact decide_eq_false (Nat.not_lt.mpr h3)
theorem tmul_same (l : Addr) (its : Array Value) (n : Nat) (dd : Option Addr) (sl : Array (Option Value)) (x : Int) (u : Tok) (c0 : (decide (x < -(2 ^ 63)) || decide (x ≥ 2 ^ 63)) = false) (c1 : (its.isEmpty || x == 1) = true) :
    Meets (Builtin.«tuple.__mul__» ⟨[.ref l, .int x u], []⟩) (fun _ R s => s.heap.get? l = some { cls := .type "tuple", dict := dd, data := .seq its n, slots := sl } ∧ R (.ok (.ret (Value.ref l))) s) :=
  .of_wp fun prog w A R s h => by
    obtain ⟨hp, g, d, tk, os⟩ := s
    obtain ⟨hl, h⟩ := h
    have f1 := AutoSeq1.idx_int
    wp_walk using wpAny_loadPart' hl
    repeat (first
      | (refine wpAny_ite_false (decide_eq_false (by rw [c0]; exact Bool.false_ne_true)) ?_; wp_walk using wpAny_loadPart' hl)
      | (refine wpAny_ite_true (decide_eq_true (by rw [c1])) ?_; wp_walk using wpAny_loadPart' hl))
    exact ⟨_, rfl, h⟩
theorem tmul_none (l : Addr) (its : Array Value) (n : Nat) (dd : Option Addr) (sl : Array (Option Value)) (x : Int) (u : Tok) (c0 : (decide (x < -(2 ^ 63)) || decide (x ≥ 2 ^ 63)) = false) (c1 : (its.isEmpty || x == 1) = false) (c2 : (decide (x ≤ 0) || its.isEmpty) = true) :
    Meets (Builtin.«tuple.__mul__» ⟨[.ref l, .int x u], []⟩) (fun _ R s => s.heap.get? l = some { cls := .type "tuple", dict := dd, data := .seq its n, slots := sl } ∧
      R (.ok (.ret (Value.ref s.heap.objs.size))) { s with heap := s.heap.push { cls := Value.type "tuple", data := Data.seq #[] }, toks := s.toks }) :=
  .of_wp fun prog w A R s h => by
    obtain ⟨hp, g, d, tk, os⟩ := s
    obtain ⟨hl, h⟩ := h
    have f1 := AutoSeq1.idx_int
    wp_walk using wpAny_loadPart' hl
    repeat (first
      | (refine wpAny_ite_false (decide_eq_false (by rw [c0]; exact Bool.false_ne_true)) ?_; wp_walk using wpAny_loadPart' hl)
      | (refine wpAny_ite_false (decide_eq_false (by rw [c1]; exact Bool.false_ne_true)) ?_; wp_walk using wpAny_loadPart' hl)
      | (refine wpAny_ite_true (decide_eq_true (by rw [c2])) ?_; wp_walk using wpAny_loadPart' hl))
    exact ⟨_, rfl, h⟩
def rRepT1 (K : PySem.W.Frag) : R2 := fun x y H Q => ∃ l k xs, x = .ref l ∧ y = .int k ∧ SqT K H l xs ∧ -1000 ≤ k ∧ k ≤ 1000 ∧ (k ≤ 1 ∨ xs = []) ∧ ((k = 1 ∨ xs = []) → Q (.ref l) H) ∧ (k ≤ 0 → xs ≠ [] → newT H Q [])
theorem op_repT1 {X : Cx} : OpR X (binaryOp .Mult) (rRepT1 X.K) := by
  intro pins s σ H x y v u Q I rx ry h
  obtain ⟨l, k, xs, rfl, rfl, hT, h1, h2, h3, qa, qb⟩ := h
  cases rx
  obtain ⟨t, rfl⟩ := ry
  obtain ⟨its, r, ⟨⟨cls, dd, data, sl⟩, ho, hc, n, hd⟩, hs⟩ := I.tuple hT
  simp only at hc hd
  subst hc hd
  have hle : its.length = xs.length := r.length.symm
  have c0 : (decide (k < -(2 ^ 63)) || decide (k ≥ 2 ^ 63)) = false := by
    rw [decide_eq_false (by omega), decide_eq_false (by omega)] <;> rfl
  have go : ∀ {RR : (Result → Shared → Prop) → Shared → Prop}, Meets (Builtin.«tuple.__mul__» ⟨[.ref l, .int k t], []⟩) (fun _ R s => s.heap.get? l = some { cls := .type "tuple", dict := dd, data := .seq its.toArray n, slots := sl } ∧ RR R s) →
      (∀ R : Result → Shared → Prop, (∀ v' s', EP X pins σ Q v' s' → R (.ok (.ret v')) s') → RR R s) → wpAny (model X.prog X.w) X.A (binaryOp .Mult (.ref l) (.int k t)) (EP X pins σ Q) X.xe s := fun {RR} hm hr =>
    wpAny_binaryOp_repeat_ref (T := "tuple") (U := "int") (by decide) ⟨_, ho, rfl⟩ (fun s' => typeIs_int s' k t) noFill_tuple_mul F.fills_int_mul F.slot_int_rmul repeat_tuple F.slot_int_index.lookup
      (call_meets F.slot_int_rmul (typeIs_int s k t) F.entry_int_rmul (F.args_int_rmul_2 _ _) (int_rmul_tuple k t l its.toArray n dd sl)
        ⟨ho, rfl, ⟨_, ho, rfl⟩, call_meets F.slot_tuple_mul ⟨_, ho, rfl⟩ F.entry_tuple_mul (F.args_tuple_mul_2 _ _) hm ⟨ho, hr _ fun v' s' z => z⟩⟩)
  by_cases hk : k = 1 ∨ xs = []
  · have c1 : (its.toArray.isEmpty || k == 1) = true := by
      rcases hk with hk | hk
      · subst hk; simp
      · subst hk
        have : its = [] := List.eq_nil_of_length_eq_zero hle
        subst this; rfl
    exact go (tmul_same l its.toArray n dd sl k t c0 c1) fun R hR => hR _ _ ⟨.ref l, H, I, rfl, qa hk⟩
  · have hn : its ≠ [] := fun e => hk (.inr (List.eq_nil_of_length_eq_zero (by rw [← hle, e]; rfl)))
    have hi : its.toArray.isEmpty = false := by
      cases its with
      | nil => exact absurd rfl hn
      | cons a b => rfl
    have hk0 : k ≤ 0 := by
      have : k ≠ 1 := fun e => hk (.inl e)
      rcases h3 with h3 | h3
      · omega
      · exact absurd (.inr h3) hk
    have c1 : (its.toArray.isEmpty || k == 1) = false := by
      rw [hi, Bool.false_or]
      exact beq_eq_false_iff_ne.mpr (by omega)
    have c2 : (decide (k ≤ 0) || its.toArray.isEmpty) = true := by rw [decide_eq_true hk0]; rfl
    exact go (tmul_none l its.toArray n dd sl k t c0 c1 c2) fun R hR => hR _ _ (fin_tup (its := []) I (Nat.zero_le _) .nil (qb hk0 fun e => hk (.inr e)))
def rMulA (K : PySem.W.Frag) : R2 := fun x y H Q => (rI CMul (fun i j => .int (i * j)) x y H Q ∨ rI CMulW (fun i j => .int (i * j)) x y H Q) ∨ ((rRepS x y H Q ∨ (rRepZ K x y H Q ∨ rRepT1 K x y H Q)) ∨ rRep x y H Q)
theorem op_mulA {X : Cx} : OpR X (binaryOp .Mult) (rMulA X.K) := .or (.or op_mul op_mulW) (.or (.or op_repS (.or op_repZ op_repT1)) op_rep)
theorem Dts.repl {F : Hp} {vs : List V} {ds : List D} (r : Dts K mg F vs ds) : ∀ n, Dts K mg F (List.replicate n vs).flatten (List.replicate n ds).flatten
  | 0 => .nil
  | n + 1 => by
    rw [flat_const, flat_const]
    exact r.append (Dts.repl r n)
theorem ops_mul : OpS K mg (rMulA K) rdMul := by
  intro F μ H x y dx dy Qd Q o wx wy h k
  cases dx <;> cases dy <;> first | exact h.elim | skip
  · obtain ⟨h1 | h1 | h1, h2⟩ := h
    · exact .inl (.inl ⟨_, _, wx.int, wy.int, .inl h1, fin0 o k (.int _) h2⟩)
    · exact .inl (.inl ⟨_, _, wx.int, wy.int, .inr h1, fin0 o k (.int _) h2⟩)
    · exact .inl (.inr ⟨_, _, wx.int, wy.int, h1, fin0 o k (.int _) h2⟩)
  · obtain ⟨h1, h2, h3, h4⟩ := h
    refine .inr (.inl (.inl ⟨_, _, wx.str, wy.int, mulOk_S h1 h2 h3, ?_⟩))
    rw [S_mul]
    exact fin0 o k (.str _) h4
  · rename_i sx nx
    obtain ⟨h1, h2, h4, h5⟩ := h
    obtain ⟨a, vs, rfl, ha, hf, ra⟩ := wx.tup o
    have wd : Dt K mg F (.ref a) (.tup sx) := .tup hf ra
    by_cases hs : nx ≤ 1 ∨ sx = []
    · have e0 : vs = [] ↔ sx = [] := by
        constructor
        · intro e; subst e; cases ra; rfl
        · intro e; subst e; cases ra; rfl
      refine .inr (.inl (.inr (.inr ⟨a, _, vs, rfl, wy.int, ha, h1, h2, hs.imp id e0.mpr, fun hk => ?_, fun hk hne p ob hp hob => ?_⟩)))
      · have : repl nx.toNat sx = sx := by
          rcases hk with hk | hk
          · subst hk; exact repl_one sx
          · rw [e0.mp hk]; simp [repl]
        rw [this] at h5
        exact fin0 o k wd h5
      · rw [show nx.toNat = 0 by omega] at h5
        obtain ⟨g1, g2, g3⟩ := newTup o (vs := []) (ds := []) .nil hp hob
        exact k _ _ _ _ _ g1 g2 g3 h5
    · refine .inr (.inl (.inr (.inl ⟨a, _, vs, rfl, wy.int, ha, fun e => hs ?_, by omega, by omega, by rw [ra.length]; exact h4, fun p ob hp hob => ?_⟩)))
      · subst e; cases ra; exact .inr rfl
      · obtain ⟨g1, g2, g3⟩ := newTup o (ra.repl _) hp hob
        exact k _ _ _ _ _ g1 g2 g3 h5
  · obtain ⟨h1, h2, h3, h5⟩ := h
    obtain ⟨a, vs, rfl, ha, ra⟩ := wx.lst o
    refine .inr (.inr ⟨a, _, vs, rfl, wy.int, ha, by omega, by omega, by rw [ra.length, sizeLine_eq]; exact h3, fun p hp => ?_⟩)
    obtain ⟨g1, g2, g3⟩ := newLst o (ra.repl _) hp
    exact k _ _ _ _ _ g1 g2 g3 h5

def rLtA : R2 := fun x y H Q => rI0 (fun i j => .bl (decide (i < j))) x y H Q ∨ ∃ i j, x = .str i ∧ y = .str j ∧ Q (.bl (decide (i.cps.toList < j.cps.toList))) H
theorem op_ltA {X : Cx} : OpR X (compareOp .Lt) rLtA := .or op_lt op_lt_str
theorem ops_lt : OpS K mg rLtA rdLt := by
  intro F μ H x y dx dy Qd Q o wx wy h k
  cases dx <;> cases dy <;> first | exact h.elim | skip
  · exact .inl ⟨_, _, wx.int, wy.int, fin0 o k (.bl _) h⟩
  · refine .inr ⟨_, _, wx.str, wy.str, ?_⟩
    rw [S_list, S_list]
    exact fin0 o k (.bl _) h
theorem ops_le : OpS K mg (rI0 fun i j => .bl (decide (i ≤ j))) rdLe := ops_I0 fun _ _ _ => .bl _
theorem ops_gt : OpS K mg (rI0 fun i j => .bl (decide (j < i))) rdGt := ops_I0 fun _ _ _ => .bl _
theorem ops_ge : OpS K mg (rI0 fun i j => .bl (decide (j ≤ i))) rdGe := ops_I0 fun _ _ _ => .bl _
abbrev r2Or (r r' : R2) : R2 := fun x y H Q => r x y H Q ∨ r' x y H Q
theorem op_eqA {X : Cx} (hu : X.A.units + 64 < cLine) : OpR X (compareOp .Eq) (r2Or (rEqD X.K) rEq) := .or (op_eqD hu) op_eq
theorem op_neA {X : Cx} (hu : X.A.units + 64 < cLine) : OpR X (compareOp .NotEq) (r2Or (rNeD X.K) rNe) := .or (op_neD hu) op_ne
theorem sc_dec {K : PySem.W.Frag} {mg : Str → Option Value} {F H : Hp} {μ : Sto} {x y : V} {dx dy : D} (wx : Wk K mg F μ H x dx) (wy : Wk K mg F μ H y dy) (h : scD dx dy = true) : scal x y = true ∧ decide (x = y) = D.eqv dx dy := by
  cases dx <;> cases dy <;> first | exact (Bool.false_ne_true h).elim | skip
  · rw [wx.int, wy.int]; exact ⟨rfl, dec_int⟩
  · rw [wx.str, wy.str]; exact ⟨rfl, dec_str⟩
theorem ops_eq : OpS K mg (r2Or (rEqD K) rEq) rdEq := by
  intro F μ H x y dx dy Qd Q o wx wy h k
  obtain ⟨h | ⟨f1, f2, s1, s2⟩, q⟩ := h
  · obtain ⟨g1, g2⟩ := sc_dec wx wy h
    exact .inr ⟨g1, by rw [g2]; exact fin0 o k (.bl _) q⟩
  · exact .inl ⟨_, _, wx.dp o f1, wy.dp o f2, s1, s2, fin0 o k (.bl _) q⟩
theorem ops_ne : OpS K mg (r2Or (rNeD K) rNe) rdNe := by
  intro F μ H x y dx dy Qd Q o wx wy h k
  obtain ⟨h | ⟨f1, f2, s1, s2⟩, q⟩ := h
  · obtain ⟨g1, g2⟩ := sc_dec wx wy h
    exact .inr ⟨g1, by rw [g2]; exact fin0 o k (.bl _) q⟩
  · exact .inl ⟨_, _, wx.dp o f1, wy.dp o f2, s1, s2, fin0 o k (.bl _) q⟩
theorem Wk.isN {F H : Hp} {μ : Sto} {x : V} {d : D} (h : Wk K mg F μ H x d) : decide (x = .non) = isNonD d := by
  rcases h with h | ⟨a, vs, xs, rfl, rfl, _⟩
  · cases h <;> rfl
  · rfl
theorem ops_is : OpS K mg (fun x y H Q => y = .non ∧ Q (.bl (decide (x = .non))) H) rdIs := by
  intro F μ H x y dx dy Qd Q o wx wy h k
  cases dy <;> first | exact h.elim | skip
  refine ⟨wy.non, ?_⟩
  rw [wx.isN]
  exact fin0 o k (.bl _) h
theorem ops_isnot : OpS K mg (fun x y H Q => y = .non ∧ Q (.bl (!decide (x = .non))) H) rdIsNot := by
  intro F μ H x y dx dy Qd Q o wx wy h k
  cases dy <;> first | exact h.elim | skip
  refine ⟨wy.non, ?_⟩
  rw [wx.isN]
  exact fin0 o k (.bl _) h

/-- None, a bool, a whole number, a text -/
def D.sc : D → Bool
  | .non => true | .bl _ => true | .int _ => true | .str _ => true
  | _ => false
theorem Dt.sc {F : Hp} {v : V} {d : D} (h : Dt K mg F v d) (q : d.sc = true) : L2.flatV v = true := by
  cases h <;> first | rfl | cases q
theorem Dts.sc {F : Hp} : ∀ {vs : List V} {ds : List D}, Dts K mg F vs ds → ds.all D.sc = true → vs.all L2.flatV = true
  | _, _, .nil, _ => rfl
  | _, _, .cons h r, q => by
    rw [List.all_cons, Bool.and_eq_true_iff] at q ⊢
    exact ⟨h.sc q.1, Dts.sc r q.2⟩
theorem Dt.eqv {F F' : Hp} {v w : V} {d e : D} (h : Dt K mg F v d) (g : Dt K mg F' w e) (q : d.sc = true) (p : e.sc = true) : L2.eqV v w = D.eqv d e := by
  cases h <;> first | cases q | skip
  all_goals cases g <;> first | cases p | skip
  all_goals rfl
theorem Dts.any {F F' : Hp} {w : V} {e : D} (g : Dt K mg F' w e) (p : e.sc = true) : ∀ {vs : List V} {ds : List D}, Dts K mg F vs ds → ds.all D.sc = true → L2.inV w vs = ds.any fun z => D.eqv z e
  | _, _, .nil, _ => rfl
  | _, _, .cons h r, q => by
    rw [List.all_cons, Bool.and_eq_true_iff] at q
    have := Dts.any g p r q.2
    unfold L2.inV at this ⊢
    rw [List.any_cons, List.any_cons, this, h.eqv g q.1 p]
def rInA (K : PySem.W.Frag) (neg : Bool) : R2 := fun x y H Q => (∃ (c : Nat) (z : Str), x = .str ⟨#[c]⟩ ∧ y = .str z ∧ Q (.bl (if neg then !decide (c ∈ z.cps.toList) else decide (c ∈ z.cps.toList))) H) ∨ L2.rIn K neg x y H Q
theorem op_inA {X : Cx} : OpR X (compareOp .In) (rInA X.K false) := .or op_in_sign op_in_seq
/-- in: a sign in a text; a scalar in a list or tuple of scalars -/
@[simp] def inL (neg : Bool) (x : D) (ds : List D) (μ : Sto) (Q : DK) : Prop := x.sc = true ∧ ds.all D.sc = true ∧ Q (.bl (if neg then !(ds.any fun z => D.eqv z x) else ds.any fun z => D.eqv z x)) μ
def inS (neg : Bool) : D → List Nat → Sto → DK → Prop
  | .str [c], s, μ, Q => Q (.bl (if neg then !decide (c ∈ s) else decide (c ∈ s))) μ
  | _, _, _, _ => False
@[simp] theorem inS_1 (neg : Bool) {c : Nat} {s : List Nat} {μ : Sto} {Q : DK} : inS neg (.str [c]) s μ Q = (Q (.bl (if neg then !decide (c ∈ s) else decide (c ∈ s))) μ) := rfl
def rdInN (neg : Bool) : RD2
  | x, .str s, μ, Q => inS neg x s μ Q
  | x, .lst ds, μ, Q => inL neg x ds μ Q
  | x, .tup ds, μ, Q => inL neg x ds μ Q
  | _, _, _, _ => False
@[simp] theorem rdInN_1 (neg : Bool) {x : D} {s : List Nat} {μ : Sto} {Q : DK} : rdInN neg x (.str s) μ Q = inS neg x s μ Q := rfl
@[simp] theorem rdInN_2 (neg : Bool) {x : D} {s : List D} {μ : Sto} {Q : DK} : rdInN neg x (.lst s) μ Q = inL neg x s μ Q := rfl
@[simp] theorem rdInN_3 (neg : Bool) {x : D} {s : List D} {μ : Sto} {Q : DK} : rdInN neg x (.tup s) μ Q = inL neg x s μ Q := rfl
abbrev rdIn : RD2 := rdInN false
theorem Wk.val {F H : Hp} {μ : Sto} {x : V} {d : D} (h : Wk K mg F μ H x d) (q : d.sc = true) : Dt K mg F x d := by
  rcases h with h | ⟨a, vs, xs, rfl, rfl, _⟩
  · exact h
  · cases q
theorem ops_in (neg : Bool) : OpS K mg (rInA K neg) (rdInN neg) := by
  intro F μ H x y dx dy Qd Q o wx wy h k
  cases dy <;> first | exact h.elim | skip
  · have h' : inS neg dx _ μ Qd := h
    unfold inS at h'
    split at h'
    · refine .inl ⟨_, S _, wx.str, wy.str, ?_⟩
      rw [S_list]
      exact fin0 o k (.bl _) h'
    · exact h'.elim
  · obtain ⟨h1, h2, h3⟩ := h
    obtain ⟨a, vs, rfl, ha, _, ra⟩ := wy.tup o
    refine .inr ⟨a, vs, rfl, .inr ha, (wx.val h1).sc h1, ra.sc h2, ?_⟩
    rw [ra.any (wx.val h1) h1 h2]
    exact fin0 o k (.bl _) h3
  · obtain ⟨h1, h2, h3⟩ := h
    obtain ⟨a, vs, rfl, ha, ra⟩ := wy.lst o
    refine .inr ⟨a, vs, rfl, .inl (.inl (.inl ha)), (wx.val h1).sc h1, ra.sc h2, ?_⟩
    rw [ra.any (wx.val h1) h1 h2]
    exact fin0 o k (.bl _) h3

/-- x[i] -/
def rdIx : RD2
  | .lst ds, .int i, μ, Q => ∃ d, atI ds i = some d ∧ Q d μ
  | .tup ds, .int i, μ, Q => ∃ d, atI ds i = some d ∧ Q d μ
  | .str s, .int i, μ, Q => s.length ≤ SZ ∧ ∃ c, atI s i = some c ∧ Q (.str [c]) μ
  | .scr ns, .int i, μ, Q => ∃ n, atI ns i = some n ∧ Q (.int n) μ
  | .ref a, .int i, μ, Q => ∃ ds d, μ a = some (.lst ds) ∧ atI ds i = some d ∧ Q d μ
  | _, _, _, _ => False
@[simp] theorem rdIx_1 : rdIx  (.lst ds0) (.int i0) μ0 Q0 = (∃ d, atI ds0 i0 = some d ∧ Q0 d μ0) := rfl
@[simp] theorem rdIx_2 : rdIx  (.tup ds0) (.int i0) μ0 Q0 = (∃ d, atI ds0 i0 = some d ∧ Q0 d μ0) := rfl
@[simp] theorem rdIx_3 : rdIx  (.str s0) (.int i0) μ0 Q0 = (s0.length ≤ SZ ∧ ∃ c, atI s0 i0 = some c ∧ Q0 (.str [c]) μ0) := rfl
@[simp] theorem rdIx_4 : rdIx  (.scr ns0) (.int i0) μ0 Q0 = (∃ n, atI ns0 i0 = some n ∧ Q0 (.int n) μ0) := rfl
@[simp] theorem rdIx_5 : rdIx  (.ref a0) (.int i0) μ0 Q0 = (∃ ds d, μ0 a0 = some (.lst ds) ∧ atI ds i0 = some d ∧ Q0 d μ0) := rfl
theorem Dts.atI {F : Hp} {vs : List V} {ds : List D} {i : Int} {d : D} (r : Dts K mg F vs ds) (h : L2.atI ds i = some d) : ∃ v, L2.atI vs i = some v ∧ Dt K mg F v d := by
  unfold L2.atI at h ⊢
  rw [r.length]
  cases e : ixN ds.length i with
  | none => rw [e] at h; cases h
  | some j =>
    rw [e] at h
    exact r.get h
theorem atI_map {α β : Type} {f : α → β} {xs : List α} {i : Int} {x : α} (h : L2.atI xs i = some x) : L2.atI (xs.map f) i = some (f x) := by
  unfold L2.atI at h ⊢
  rw [List.length_map]
  cases e : ixN xs.length i with
  | none => rw [e] at h; cases h
  | some j =>
    rw [e] at h
    have h' : xs[j]? = some x := h
    show (xs.map f)[j]? = _
    rw [List.getElem?_map, h']
    rfl
theorem ops_ix : OpS K mg (rIx K) rdIx := by
  intro F μ H x y dx dy Qd Q o wx wy h k
  cases dx <;> cases dy <;> first | exact h.elim | skip
  · obtain ⟨h0, c, h1, h2⟩ := h
    refine .inr (.inr ⟨_, _, c, wx.str, wy.int, by rw [S_len, sizeLine_eq]; exact h0, by rw [S_list]; exact h1, fin0 o k (.str [c]) h2⟩)
  · obtain ⟨d, h1, h2⟩ := h
    obtain ⟨a, vs, rfl, ha, _, ra⟩ := wx.tup o
    obtain ⟨v, g1, g2⟩ := ra.atI h1
    exact .inr (.inl ⟨a, vs, _, v, rfl, wy.int, ha, g1, fin0 o k g2 h2⟩)
  · obtain ⟨d, h1, h2⟩ := h
    obtain ⟨a, vs, rfl, ha, ra⟩ := wx.lst o
    obtain ⟨v, g1, g2⟩ := ra.atI h1
    exact .inl ⟨a, vs, _, v, rfl, wy.int, .inl (.inl ha), g1, fin0 o k g2 h2⟩
  · obtain ⟨n, h1, h2⟩ := h
    obtain ⟨a, rfl, ha⟩ := wx.scr o
    exact .inl ⟨a, _, _, _, rfl, wy.int, ha, atI_map h1, fin0 o k (.int _) h2⟩
  · obtain ⟨ds, d, h0, h1, h2⟩ := h
    cases wx.ref
    obtain ⟨vs, ha, ra⟩ := o.sto _ _ h0
    obtain ⟨v, g1, g2⟩ := ra.atI h1
    exact .inl ⟨_, vs, _, v, rfl, wy.int, .inl (.inl ha), g1, fin0 o k g2 h2⟩
end
section
variable {X : Cx} {a b e : Expr} {da db : TED} {pos : Pos}
theorem de_ix (ha : DW X a da) (hb : DW X b db) (hs : PlainIx b) : DE X (.Subscript a b pos) (dOp rdIx da db) := (pe_ix ix_seq ha hb hs).weaken fun _ _ _ q => lift_op ops_ix q

abbrev TOD := DEnv → Sto → (Option Int → Sto → Prop) → Prop
def liftO (K : PySem.W.Frag) (mg : Str → Option Value) (d : TOD) : TO := fun σ H Q => ∃ F ρ μ Qd, Rel K mg F ρ μ σ H ∧ d ρ μ Qd ∧ ∀ b F' μ' H', Ext F μ H F' μ' H' → Ok K mg F' μ' H' → Qd b μ' → Q b H'
structure DO (X : Cx) (e : Option Expr) (d : TOD) : Prop where
  po : ∃ t, PO X e t ∧ ∀ σ H Q, liftO X.K X.mg d σ H Q → t σ H Q
@[simp] def dNoPart : TOD := fun _ μ Q => Q none μ
@[simp] def dPart (d : TED) : TOD := fun ρ μ Q => d ρ μ fun x μ1 => ∃ i, x = .int i ∧ Q (some i) μ1
theorem do_none : DO X none dNoPart := ⟨_, po_none, fun σ H Q q => by
  obtain ⟨F, ρ, μ, Qd, R, hd, k⟩ := q
  exact k none F μ H .refl R.ok hd⟩
theorem do_some (h : DE X e da) : DO X (some e) (dPart da) := ⟨_, po_some h, fun σ H Q q => by
  obtain ⟨F, ρ, μ, Qd, R, hd, k⟩ := q
  refine ⟨F, ρ, μ, _, R, hd, fun v F1 μ1 H1 dv e1 o1 w1 q1 => ?_⟩
  obtain ⟨i, rfl, q1⟩ := q1
  cases w1
  exact ⟨i, rfl, k _ F1 μ1 H1 e1 o1 q1⟩⟩
def cut {α : Type} (l : List α) (lo hi : Option Int) : List α := (l.drop (HT.sIx l.length 0 lo)).take (HT.sIx l.length l.length hi - HT.sIx l.length 0 lo)
def rdSl : D → Option Int → Option Int → Sto → DK → Prop
  | .str s, lo, hi, μ, Q => s.length ≤ SZ ∧ Q (.str (cut s lo hi)) μ
  | .tup ds, lo, hi, μ, Q => Q (.tup (cut ds lo hi)) μ
  | .lst ds, lo, hi, μ, Q => Q (.lst (cut ds lo hi)) μ
  | .scr ns, lo, hi, μ, Q => Q (.lst ((cut ns lo hi).map D.int)) μ
  | _, _, _, _, _ => False
@[simp] theorem rdSl_1 : rdSl  (.str s0) lo0 hi0 μ0 Q0 = (s0.length ≤ SZ ∧ Q0 (.str (cut s0 lo0 hi0)) μ0) := rfl
@[simp] theorem rdSl_2 : rdSl  (.tup ds0) lo0 hi0 μ0 Q0 = (Q0 (.tup (cut ds0 lo0 hi0)) μ0) := rfl
@[simp] theorem rdSl_3 : rdSl  (.lst ds0) lo0 hi0 μ0 Q0 = (Q0 (.lst (cut ds0 lo0 hi0)) μ0) := rfl
@[simp] theorem rdSl_4 : rdSl  (.scr ns0) lo0 hi0 μ0 Q0 = (Q0 (.lst ((cut ns0 lo0 hi0).map D.int)) μ0) := rfl
@[simp] def dSl (a : TED) (lo hi : TOD) : TED := fun ρ μ Q => a ρ μ fun x μ1 => lo ρ μ1 fun l μ2 => hi ρ μ2 fun u μ3 => rdSl x l u μ3 Q
theorem cutS_S (s : List Nat) (l u : Option Int) : cutS (S s) l u = S (cut s l u) := by unfold cutS cut; rw [S_list, S_len]
theorem cutV_cut (vs : List V) (lo hi : Option Int) : cutV vs lo hi = cut vs lo hi := rfl
theorem Dts.cut {K : PySem.W.Frag} {mg : Str → Option Value} {F : Hp} {vs : List V} {ds : List D} (r : Dts K mg F vs ds) (lo hi : Option Int) : Dts K mg F (cut vs lo hi) (cut ds lo hi) := by
  unfold DL.cut
  rw [r.length]
  exact (r.drop _).take _
theorem cut_map {α β : Type} (f : α → β) (l : List α) (lo hi : Option Int) : cut (l.map f) lo hi = (cut l lo hi).map f := by
  unfold cut
  rw [List.length_map, List.map_take, List.map_drop]
theorem cut_all {α : Type} {l : List α} {lo hi : Option Int} (h : HT.sIx l.length 0 lo = 0 ∧ HT.sIx l.length l.length hi = l.length) : cut l lo hi = l := by
  unfold cut
  rw [h.1, h.2]
  simp
def rSlAll (K : PySem.W.Frag) : V → Option Int → Option Int → Hp → VK → Prop := fun x lo hi H Q => (rSlS x lo hi H Q ∨ rSlZ K x lo hi H Q) ∨ rSlL K x lo hi H Q
theorem sl_all {X : Cx} : SlR X (rSlAll X.K) := .or (.or sl_str sl_tupZ) sl_list
variable {lo hi : Option Expr} {dl dh : TOD} {p2 : Pos}
theorem de_slice (ha : DW X a da) (hl : DO X lo dl) (hh : DO X hi dh) : DE X (.Subscript a (.Slice lo hi none p2) pos) (dSl da dl dh) := by
  obtain ⟨tl, pl, sl⟩ := hl
  obtain ⟨th, ph, sh⟩ := hh
  refine (pe_slice sl_all ha pl ph).weaken fun σ H Q q => ?_
  obtain ⟨F, ρ, μ, Qd, R, hd, k⟩ := q
  refine ⟨F, ρ, μ, _, R, hd, fun v F1 μ1 H1 dv e1 o1 w1 q1 => ?_⟩
  refine sl _ _ _ ⟨F1, ρ, μ1, _, R.ext e1 o1, q1, fun l F2 μ2 H2 e2 o2 q2 => ?_⟩
  refine sh _ _ _ ⟨F2, ρ, μ2, _, R.ext (e1.trans e2) o2, q2, fun u F3 μ3 H3 e3 o3 q3 => ?_⟩
  have w3 := (w1.ext e2).ext e3
  have k3 : ∀ z F' μ' H' dz, Ext F3 μ3 H3 F' μ' H' → Ok X.K X.mg F' μ' H' → Dt X.K X.mg F' z dz → Qd dz μ' → Q z H' := fun z F' μ' H' dz e o w q => k z F' μ' H' dz (e1.trans (e2.trans (e3.trans e))) o w q
  cases dv <;> first | exact q3.elim | skip
  · obtain ⟨h1, h2⟩ := q3
    refine .inl (.inl ⟨_, w3.str, by rw [S_len, sizeLine_eq]; exact h1, ?_⟩)
    rw [cutS_S]
    exact fin0 o3 k3 (.str _) h2
  · have q3' : Qd (.tup (cut _ l u)) μ3 := q3
    obtain ⟨a, vs, rfl, ha, hf, ra⟩ := w3.tup o3
    refine .inl (.inr ⟨a, vs, rfl, ha, fun c => ?_, fun c p ob hp hob => ?_⟩)
    · rw [ra.length] at c
      rw [cut_all c] at q3'
      rcases w3 with w3 | ⟨_, _, _, _, z, _⟩
      · exact fin0 o3 k3 w3 q3'
      · cases z
    · obtain ⟨g1, g2, g3⟩ := newTup o3 (ra.cut l u) hp hob
      exact k3 _ _ _ _ _ g1 g2 g3 q3'
  · have q3' : Qd (.lst (cut _ l u)) μ3 := q3
    obtain ⟨a, vs, rfl, ha, ra⟩ := w3.lst o3
    refine .inr ⟨a, vs, rfl, .inl (.inl ha), fun p hp => ?_⟩
    obtain ⟨g1, g2, g3⟩ := newLst o3 (ra.cut l u) hp
    exact k3 _ _ _ _ _ g1 g2 g3 q3'
  · obtain ⟨a, rfl, ha⟩ := w3.scr o3
    refine .inr ⟨a, _, rfl, ha, fun p hp => ?_⟩
    rw [cutV_cut, cut_map]
    obtain ⟨g1, g2, g3⟩ := newLst o3 (Dts.ofInts (K := X.K) (mg := X.mg) (F := F3) (cut _ l u)) hp
    exact k3 _ _ _ _ _ g1 g2 g3 q3

@[simp] def dNil : TAD := fun _ μ Q => Q [] μ
@[simp] def dCons (a : TED) (t : TAD) : TAD := fun ρ μ Q => a ρ μ fun x μ1 => t ρ μ1 fun xs μ2 => Q (x :: xs) μ2
variable {es : List Expr} {t : TAD}
theorem da_nil : DA X [] dNil := pa_nil.weaken fun σ H Q q => by
  obtain ⟨F, ρ, μ, Qd, R, hd, k⟩ := q
  exact k [] F μ H [] .refl R.ok .nil hd
theorem da_cons (h : DE X e da) (hr : DA X es t) (hs : starEach (e :: es) X.env = (false, eval e X.env) :: starEach es X.env := by rfl) : DA X (e :: es) (dCons da t) := (pa_cons h hr hs).weaken fun σ H Q q => by
  obtain ⟨F, ρ, μ, Qd, R, hd, k⟩ := q
  refine ⟨F, ρ, μ, _, R, hd, fun v F1 μ1 H1 dv e1 o1 w1 q1 => ?_⟩
  exact ⟨F1, ρ, μ1, _, R.ext e1 o1, q1, fun vs F2 μ2 H2 ds e2 o2 w2 q2 => k (v :: vs) F2 μ2 H2 (dv :: ds) (e1.trans e2) o2 (.cons (w1.mono e2.mono) w2) q2⟩
/-- the values only looked at -/
theorem daw_nil : DAW X [] dNil := pa_nil.weaken fun σ H Q q => by
  obtain ⟨F, ρ, μ, Qd, R, hd, k⟩ := q
  exact k [] F μ H [] .refl R.ok .nil hd
theorem Wks.ext {K : PySem.W.Frag} {mg : Str → Option Value} {F F' H H' : Hp} {μ μ' : Sto} (e : Ext F μ H F' μ' H') : ∀ {vs : List V} {ds : List D}, Wks K mg F μ H vs ds → Wks K mg F' μ' H' vs ds
  | _, _, .nil => .nil
  | _, _, .cons h r => .cons (h.ext e) (Wks.ext e r)
theorem daw_cons (h : DW X e da) (hr : DAW X es t) (hs : starEach (e :: es) X.env = (false, eval e X.env) :: starEach es X.env := by rfl) : DAW X (e :: es) (dCons da t) := (pa_cons h hr hs).weaken fun σ H Q q => by
  obtain ⟨F, ρ, μ, Qd, R, hd, k⟩ := q
  refine ⟨F, ρ, μ, _, R, hd, fun v F1 μ1 H1 dv e1 o1 w1 q1 => ?_⟩
  exact ⟨F1, ρ, μ1, _, R.ext e1 o1, q1, fun vs F2 μ2 H2 ds e2 o2 w2 q2 => k (v :: vs) F2 μ2 H2 (dv :: ds) (e1.trans e2) o2 (.cons (w1.ext e2) w2) q2⟩
@[simp] def dTup (t : TAD) : TED := fun ρ μ Q => t ρ μ fun xs μ1 => xs.length ≤ SZ ∧ Q (.tup xs) μ1
@[simp] def dLst (t : TAD) : TED := fun ρ μ Q => t ρ μ fun xs μ1 => xs.length ≤ SZ ∧ Q (.lst xs) μ1
@[simp] def dLstF (t : TAD) : TFD := fun ρ μ Q => t ρ μ fun xs μ1 => xs.length ≤ SZ ∧ Q xs μ1
theorem de_tup {x1} (h : DA X es t) : DE X (.Tuple es x1 pos) (dTup t) := (pe_tupZ h).weaken fun σ H Q q => by
  obtain ⟨F, ρ, μ, Qd, R, hd, k⟩ := q
  refine ⟨F, ρ, μ, _, R, hd, fun vs F1 μ1 H1 ds e1 o1 w1 q1 => ⟨by rw [w1.length, sizeLine_eq]; exact q1.1, fun p ob hp hob => ?_⟩⟩
  obtain ⟨g1, g2, g3⟩ := newTup o1 w1 hp hob
  exact k _ _ _ _ _ (e1.trans g1) g2 g3 q1.2
theorem de_lst (h : DA X es t) : DE X (.List es pos) (dLst t) := (pe_lst h).weaken fun σ H Q q => by
  obtain ⟨F, ρ, μ, Qd, R, hd, k⟩ := q
  refine ⟨F, ρ, μ, _, R, hd, fun vs F1 μ1 H1 ds e1 o1 w1 q1 => ⟨by rw [w1.length, sizeLine_eq]; exact q1.1, fun p hp => ?_⟩⟩
  obtain ⟨g1, g2, g3⟩ := newLst o1 w1 hp
  exact k _ _ _ _ _ (e1.trans g1) g2 g3 q1.2
theorem df_lst (h : DA X es t) : DF X (.List es pos) (dLstF t) := (pe_lst h).weaken fun σ H Q q => by
  obtain ⟨F, ρ, μ, Qd, R, hd, k⟩ := q
  refine ⟨F, ρ, μ, _, R, hd, fun vs F1 μ1 H1 ds e1 o1 w1 q1 => ⟨by rw [w1.length, sizeLine_eq]; exact q1.1, fun p hp => ?_⟩⟩
  obtain ⟨g1, g2⟩ := o1.layN hp (.lst vs)
  obtain ⟨f1, f2⟩ := o1.fresh hp
  have hp0 : H p = none := e1.live p hp
  exact k _ _ _ _ _ _ (e1.trans g2) g1 hp0 f1 f2 upd_same w1 q1.2
end
end DL

namespace DL
open PySem PySem.Spec PyProof.Rows L2
section
variable {K : PySem.W.Frag} {mg : Str → Option Value} {B : Bs} {F F' H H' : Hp} {μ μ' : Sto} {ρ : DEnv} {σ : L2.St}
theorem RelB.step (r : RelB K mg B F ρ μ σ H) (e : Ext F μ H F' μ' H') (o : Ok K mg F' μ' H') : RelB K mg B F' ρ μ' σ H' :=
  ⟨r.rel.ext e o, r.ext.trans e, r.new⟩
theorem RelB.set (r : RelB K mg B F ρ μ σ H) {i : Nat} {v : V} {d : D} (h : Dt K mg F v d) : RelB K mg B F (ρ.set i (some (.val d))) μ (σ.set i (some v)) H := by
  refine ⟨⟨r.rel.ok, by rw [List.length_set, List.length_set]; exact r.rel.len, fun j s e => ?_, fun j l xs ys e1 e2 e3 => ?_⟩, r.ext, fun j xs a e1 e2 => ?_⟩
  · by_cases hj : i = j
    · subst hj
      have hl : i < ρ.length := by
        have := (List.getElem?_eq_some_iff.mp e).1
        rwa [List.length_set] at this
      rw [List.getElem?_set_self hl] at e
      cases e
      exact ⟨v, List.getElem?_set_self (by rw [← r.rel.len]; exact hl), h⟩
    · rw [List.getElem?_set_ne hj] at e
      rw [List.getElem?_set_ne hj]
      exact r.rel.slot j s e
  · have n1 : i ≠ j := fun q => by
      subst q
      rw [List.getElem?_set_self (by have := (List.getElem?_eq_some_iff.mp e1).1; rwa [List.length_set] at this)] at e1
      cases e1
    have n2 : i ≠ l := fun q => by
      subst q
      rw [List.getElem?_set_self (by have := (List.getElem?_eq_some_iff.mp e2).1; rwa [List.length_set] at this)] at e2
      cases e2
    rw [List.getElem?_set_ne n1] at e1 e3
    rw [List.getElem?_set_ne n2] at e2 e3
    exact r.rel.apart j l xs ys e1 e2 e3
  · have n1 : i ≠ j := fun q => by
      subst q
      rw [List.getElem?_set_self (by have := (List.getElem?_eq_some_iff.mp e1).1; rwa [List.length_set] at this)] at e1
      cases e1
    rw [List.getElem?_set_ne n1] at e1 e2
    exact r.new j xs a e1 e2
/-- a slot takes a list that nobody knows -/
theorem RelB.setOwn (r : RelB K mg B F ρ μ σ H) {i : Nat} {p : Addr} {vs : List V} {ds : List D} (hf : F p = none) (hm : μ p = none) (hh : H p = some (.lst vs)) (h : Dts K mg F vs ds) (hb : B.H p = none)
    (hn : ∀ (j : Nat) (xs : List D), i ≠ j → ρ[j]? = some (some (DS.own xs)) → σ[j]? ≠ some (some (.ref p))) : RelB K mg B F (ρ.set i (some (.own ds))) μ (σ.set i (some (.ref p))) H := by
  have len : ∀ {j : Nat} {s : Option DS}, (ρ.set i (some (.own ds)))[j]? = some s → j < ρ.length := fun {j s} e => by
    have := (List.getElem?_eq_some_iff.mp e).1
    rwa [List.length_set] at this
  refine ⟨⟨r.rel.ok, by rw [List.length_set, List.length_set]; exact r.rel.len, fun j s e => ?_, fun j l xs ys e1 e2 e3 => ?_⟩, r.ext, fun j xs a e1 e2 => ?_⟩
  · by_cases hj : i = j
    · subst hj
      have hl := len e
      rw [List.getElem?_set_self hl] at e
      cases e
      exact ⟨_, List.getElem?_set_self (by rw [← r.rel.len]; exact hl), p, vs, rfl, hf, hm, hh, h⟩
    · rw [List.getElem?_set_ne hj] at e
      rw [List.getElem?_set_ne hj]
      exact r.rel.slot j s e
  · by_cases n1 : i = j
    · by_cases n2 : i = l
      · exact n1.symm.trans n2
      · subst n1
        rw [List.getElem?_set_ne n2] at e2 e3
        rw [List.getElem?_set_self (by rw [← r.rel.len]; exact len e1)] at e3
        exact absurd e3.symm (hn l ys n2 e2)
    · by_cases n2 : i = l
      · subst n2
        rw [List.getElem?_set_ne n1] at e1 e3
        rw [List.getElem?_set_self (by rw [← r.rel.len]; exact len e2)] at e3
        exact absurd e3 (hn j xs n1 e1)
      · rw [List.getElem?_set_ne n1] at e1 e3
        rw [List.getElem?_set_ne n2] at e2 e3
        exact r.rel.apart j l xs ys e1 e2 e3
  · by_cases n1 : i = j
    · subst n1
      rw [List.getElem?_set_self (by rw [← r.rel.len]; exact len e1)] at e2
      cases e2
      exact hb
    · rw [List.getElem?_set_ne n1] at e1 e2
      exact r.new j xs a e1 e2
theorem RelB.ownAt (r : RelB K mg B F ρ μ σ H) {i : Nat} {xs : List D} (h : ρ[i]? = some (some (.own xs))) : ∃ p vs, σ[i]? = some (some (.ref p)) ∧ F p = none ∧ μ p = none ∧ H p = some (.lst vs) ∧ Dts K mg F vs xs ∧ B.H p = none := by
  obtain ⟨v, h1, a, vs, rfl, hf, hm, hh, hd⟩ := r.rel.slot i _ h
  exact ⟨a, vs, h1, hf, hm, hh, hd, r.new i xs a h h1⟩
/-- a list of the frame's own is changed -/
theorem RelB.writeOwn (r : RelB K mg B F ρ μ σ H) {i : Nat} {xs ys : List D} {p : Addr} {vs ws : List V} (h : ρ[i]? = some (some (.own xs))) (hs : σ[i]? = some (some (.ref p))) (hf : F p = none) (hm : μ p = none) (hh : H p = some (.lst vs)) (hb : B.H p = none)
    (hd : Dts K mg F ws ys) : RelB K mg B F (ρ.set i (some (.own ys))) μ σ (upd H p (.lst ws)) := by
  have hi : i < ρ.length := (List.getElem?_eq_some_iff.mp h).1
  have other : ∀ (j : Nat) (zs : List D), i ≠ j → ρ[j]? = some (some (DS.own zs)) → σ[j]? ≠ some (some (.ref p)) := fun j zs hj e q => hj (r.rel.apart i j xs zs h e (hs.trans q.symm))
  have ok' := r.rel.ok.writeN hf hm (.lst ws)
  have r' : RelB K mg B F (ρ.set i none) μ σ (upd H p (.lst ws)) := by
    have nn : ∀ {j : Nat} {s : DS}, (ρ.set i none)[j]? = some (some s) → i ≠ j ∧ ρ[j]? = some (some s) := fun {j s} e => by
      by_cases hj : i = j
      · subst hj; rw [List.getElem?_set_self hi] at e; cases e
      · rw [List.getElem?_set_ne hj] at e; exact ⟨hj, e⟩
    refine ⟨⟨ok', by rw [List.length_set]; exact r.rel.len, fun j s e => ?_, fun j l as bs e1 e2 e3 => r.rel.apart j l as bs (nn e1).2 (nn e2).2 e3⟩, ⟨r.ext.mono, fun a o e n => ?_, fun a e => r.ext.live a (upd_live a e)⟩, fun j zs a e1 e2 => r.new j zs a (nn e1).2 e2⟩
    · obtain ⟨hj, e⟩ := nn e
      obtain ⟨v, h1, h2⟩ := r.rel.slot j s e
      refine ⟨v, h1, ?_⟩
      cases s with
      | val d => exact h2
      | own zs =>
        obtain ⟨a, us, rfl, g1, g2, g3, g4⟩ := h2
        have ha : a ≠ p := fun q => other j zs hj e (by rw [h1, q])
        exact ⟨a, us, rfl, g1, g2, by rw [upd_ne ha]; exact g3, g4⟩
    · obtain ⟨g1, g2, g3⟩ := r.ext.keep a o e n
      have ha : a ≠ p := fun q => by subst q; rw [hb] at e; cases e
      exact ⟨by rw [upd_ne ha]; exact g1, g2, g3⟩
  have := r'.setOwn (i := i) (p := p) (ds := ys) hf hm upd_same hd hb (fun j zs hj e => other j zs hj (by rw [List.getElem?_set_ne hj] at e; exact e))
  rw [List.set_set] at this
  have e2 : σ.set i (some (.ref p)) = σ := by
    apply List.ext_getElem?
    intro j
    by_cases hj : i = j
    · subst hj
      rw [List.getElem?_set_self (by rw [← r.rel.len]; exact hi), hs]
    · rw [List.getElem?_set_ne hj]
  rw [e2] at this
  exact this
/-- a list of the frame's own never changes any more -/
theorem RelB.freeze (r : RelB K mg B F ρ μ σ H) {i : Nat} {xs : List D} (h : ρ[i]? = some (some (.own xs))) : ∃ F', FLe F F' ∧ RelB K mg B F' (ρ.set i (some (.val (.lst xs)))) μ σ H ∧ (∃ v, σ[i]? = some (some v) ∧ Dt K mg F' v (.lst xs)) := by
  obtain ⟨p, vs, hs, hf, hm, hh, hd, hb⟩ := r.ownAt h
  have hi : i < ρ.length := (List.getElem?_eq_some_iff.mp h).1
  have ok' := r.rel.ok.freeze hf hm hh
  have mono : ∀ a x, F a = some x → upd F p (.lst vs) a = some x := fun a x e => by rw [upd_ne (ne_of_none e hf)]; exact e
  have dl : Dt K mg (upd F p (.lst vs)) (.ref p) (.lst xs) := .lst upd_same (hd.mono mono)
  refine ⟨upd F p (.lst vs), mono, ?_, _, hs, dl⟩
  have nn : ∀ {j : Nat} {s : DS}, (ρ.set i (some (.val (.lst xs))))[j]? = some (some s) → (i = j ∧ s = .val (.lst xs)) ∨ (i ≠ j ∧ ρ[j]? = some (some s)) := fun {j s} e => by
    by_cases hj : i = j
    · subst hj; rw [List.getElem?_set_self hi] at e; cases e; exact .inl ⟨rfl, rfl⟩
    · rw [List.getElem?_set_ne hj] at e; exact .inr ⟨hj, e⟩
  refine ⟨⟨ok', by rw [List.length_set]; exact r.rel.len, fun j s e => ?_, fun j l as bs e1 e2 e3 => ?_⟩, ⟨fun a x e => mono a x (r.ext.mono a x e), fun a x e n => ?_, r.ext.live⟩, fun j zs a e1 e2 => ?_⟩
  · rcases nn e with ⟨rfl, rfl⟩ | ⟨hj, e⟩
    · exact ⟨_, hs, dl⟩
    · obtain ⟨v, h1, h2⟩ := r.rel.slot j s e
      refine ⟨v, h1, ?_⟩
      cases s with
      | val d => exact Dt.mono mono h2
      | own zs =>
        obtain ⟨a, us, rfl, g1, g2, g3, g4⟩ := h2
        have ha : a ≠ p := fun q => hj (r.rel.apart i j xs zs h e (by rw [hs, h1, q]))
        exact ⟨a, us, rfl, by rw [upd_ne ha]; exact g1, g2, g3, g4.mono mono⟩
  · rcases nn e1 with ⟨_, q⟩ | ⟨_, e1⟩
    · cases q
    · rcases nn e2 with ⟨_, q⟩ | ⟨_, e2⟩
      · cases q
      · exact r.rel.apart j l as bs e1 e2 e3
  · obtain ⟨g1, g2, g3⟩ := r.ext.keep a x e n
    have ha : a ≠ p := fun q => by subst q; rw [hb] at e; cases e
    exact ⟨g1, by rw [upd_ne ha]; exact g2, g3⟩
  · rcases nn e1 with ⟨_, q⟩ | ⟨_, e1⟩
    · cases q
    · exact r.new j zs a e1 e2
end

section
variable {X : Cx} {B : Bs} {st : Stmt} {rest : List Stmt} {t u : TSD} {e : Expr} {d : TED} {pos : Pos}
@[simp] def dNext : TSD := fun D ρ μ => D.nx ρ μ
@[simp] def dSeq (t u : TSD) : TSD := fun D ρ μ => t { D with nx := u D } ρ μ
theorem ds_nil : DSs X B [] dNext := pss_nil.weaken fun D σ H h => by
  obtain ⟨F, ρ, μ, Dd, R, hd, kn, _⟩ := h
  exact kn F ρ μ σ H .rfl' R hd
theorem ds_cons (h1 : DSt X B st t) (h2 : DSs X B rest u) : DSs X B (st :: rest) (dSeq t u) := (pss_cons h1 h2).weaken fun D σ H h => by
  obtain ⟨F, ρ, μ, Dd, R, hd, kn, kb, kc, kr⟩ := h
  exact ⟨F, ρ, μ, { Dd with nx := u Dd }, R, hd, fun F' ρ' μ' σ' H' hF R' q => ⟨F', ρ', μ', Dd, R', q, fun F2 ρ2 μ2 σ2 H2 h2 => kn F2 ρ2 μ2 σ2 H2 (hF.trans h2), fun F2 ρ2 μ2 σ2 H2 h2 => kb F2 ρ2 μ2 σ2 H2 (hF.trans h2), fun F2 ρ2 μ2 σ2 H2 h2 => kc F2 ρ2 μ2 σ2 H2 (hF.trans h2), kr⟩, kb, kc, kr⟩
theorem ds_last (h1 : DSt X B st t) : DSs X B [st] t := pss_one h1
@[simp] def dBreak : TSD := fun D ρ μ => D.bk ρ μ
@[simp] def dCont : TSD := fun D ρ μ => D.ct ρ μ
/-- ghost: a list of the frame's own never changes any more -/
@[simp] def dFreeze (i : Nat) (t : TSD) : TSD := fun D ρ μ => ∃ xs, ρ[i]? = some (some (.own xs)) ∧ t D (ρ.set i (some (.val (.lst xs)))) μ
@[simp] def dDrop (d : TED) : TSD := fun D ρ μ => d ρ μ fun _ μ1 => D.nx ρ μ1
theorem ds_expr (he : DE X e d) (hs : swapsWith e none pos.line X.env = pure false := by rfl) : DSt X B (.Expr e pos) (dDrop d) := (ps_expr he hs).weaken fun D σ H h => by
  obtain ⟨F, ρ, μ, Dd, R, hd, kn, kb, kc, kr⟩ := h
  exact ⟨F, ρ, μ, _, R.rel, hd, fun v F' μ' H' dv e o w q => kn F' ρ μ' σ H' e.mono (R.step e o) q⟩
@[simp] def dRet (d : TED) : TSD := fun D ρ μ => d ρ μ D.rt
theorem ds_ret (he : DE X e d) : DSt X B (.Return (some e) pos) (dRet d) := (ps_ret he).weaken fun D σ H h => by
  obtain ⟨F, ρ, μ, Dd, R, hd, kn, kb, kc, kr⟩ := h
  exact ⟨F, ρ, μ, _, R.rel, hd, fun v F' μ' H' dv e o w q => kr v F' μ' H' dv (R.ext.trans e) o w q⟩
/-- return x, x perhaps a list of the frame's own -/
theorem ds_retName {i : Nat} {x : Str} {p : Pos} (h : PE X (.Name x p) (tVar i)) : DSt X B (.Return (some (.Name x p)) pos) (dRet (dLook i)) := (ps_ret h).weaken fun D σ H h => by
  obtain ⟨F, ρ, μ, Dd, R, hd, kn, kb, kc, kr⟩ := h
  have hd' : dLook i ρ μ Dd.rt := hd
  cases e : ρ[i]? with
  | none => simp [dLook, e] at hd'
  | some o =>
    cases o with
    | none => simp [dLook, e] at hd'
    | some s =>
      cases s with
      | val d =>
        obtain ⟨v, h1, h2⟩ := R.rel.slot i _ e
        exact ⟨v, h1, kr v F μ H d R.ext R.rel.ok h2 (by simpa [dLook, e] using hd')⟩
      | own xs =>
        obtain ⟨F', _, R', v, h1, h2⟩ := R.freeze e
        exact ⟨v, h1, kr v F' μ H _ R'.ext R'.rel.ok h2 (by simpa [dLook, e] using hd')⟩
@[simp] def dIfS (c : TTD) (t u : TSD) : TSD := fun D ρ μ => c ρ μ fun b μ1 => if b = true then t D ρ μ1 else u D ρ μ1
theorem ds_if {c : Expr} {a b : List Stmt} {tc : TTD} (hc : DT X c tc) (ha : DSs X B a t) (hb : DSs X B b u) : DSt X B (.If c a b pos) (dIfS tc t u) := (ps_if hc ha hb).weaken fun D σ H h => by
  obtain ⟨F, ρ, μ, Dd, R, hd, kn, kb, kc, kr⟩ := h
  refine ⟨F, ρ, μ, _, R.rel, hd, fun b F' μ' H' e o q => ?_⟩
  cases b with
  | true => exact ⟨F', ρ, μ', Dd, R.step e o, q, fun F2 ρ2 μ2 σ2 H2 h2 => kn F2 ρ2 μ2 σ2 H2 (FLe.trans e.mono h2), fun F2 ρ2 μ2 σ2 H2 h2 => kb F2 ρ2 μ2 σ2 H2 (FLe.trans e.mono h2), fun F2 ρ2 μ2 σ2 H2 h2 => kc F2 ρ2 μ2 σ2 H2 (FLe.trans e.mono h2), kr⟩
  | false => exact ⟨F', ρ, μ', Dd, R.step e o, q, fun F2 ρ2 μ2 σ2 H2 h2 => kn F2 ρ2 μ2 σ2 H2 (FLe.trans e.mono h2), fun F2 ρ2 μ2 σ2 H2 h2 => kb F2 ρ2 μ2 σ2 H2 (FLe.trans e.mono h2), fun F2 ρ2 μ2 σ2 H2 h2 => kc F2 ρ2 μ2 σ2 H2 (FLe.trans e.mono h2), kr⟩

abbrev TGD := D → DEnv → (DEnv → Prop) → Prop
abbrev TGDs := List D → DEnv → (DEnv → Prop) → Prop
/-- ns: the slots that it may store to -/
def liftG (K : PySem.W.Frag) (mg : Str → Option Value) (B : Bs) (ns : List Nat) (g : TGD) : TG := fun v σ H Q => ∃ F ρ μ dv Qd, RelB K mg B F ρ μ σ H ∧ Dt K mg F v dv ∧ g dv ρ Qd ∧
  ∀ ρ' σ', RelB K mg B F ρ' μ σ' H → σ'.length = σ.length → (∀ j, j ∉ ns → σ'[j]? = σ[j]?) → Qd ρ' → Q σ' H
def liftGs (K : PySem.W.Frag) (mg : Str → Option Value) (B : Bs) (ns : List Nat) (g : TGDs) : TGs := fun vs σ H Q => ∃ F ρ μ ds Qd, RelB K mg B F ρ μ σ H ∧ Dts K mg F vs ds ∧ g ds ρ Qd ∧
  ∀ ρ' σ', RelB K mg B F ρ' μ σ' H → σ'.length = σ.length → (∀ j, j ∉ ns → σ'[j]? = σ[j]?) → Qd ρ' → Q σ' H
abbrev DG (X : Cx) (B : Bs) (tg : Expr) (ns : List Nat) (g : TGD) : Prop := PG X tg (liftG X.K X.mg B ns g)
abbrev DGs (X : Cx) (B : Bs) (ts : List Expr) (ns : List Nat) (g : TGDs) : Prop := PGs X ts (liftGs X.K X.mg B ns g)
theorem _root_.L2.PG.weaken {X : Cx} {e : Expr} {t t' : TG} (h : PG X e t) (w : ∀ v σ H Q, t' v σ H Q → t v σ H Q) : PG X e t' := ⟨fun pins s σ H v u Q I r q => h.run pins s σ H v u Q I r (w v σ H Q q)⟩
theorem _root_.L2.PGs.weaken {X : Cx} {e : List Expr} {t t' : TGs} (h : PGs X e t) (w : ∀ v σ H Q, t' v σ H Q → t v σ H Q) : PGs X e t' := ⟨fun pins s σ H v u Q I r q => h.run pins s σ H v u Q I r (w v σ H Q q)⟩
@[simp] def dName (i : Nat) : TGD := fun d ρ Q => Q (ρ.set i (some (.val d)))
theorem dg_name {i : Nat} {x : Str} (h : PG X (.Name x pos) (gName i)) : DG X B (.Name x pos) [i] (dName i) := h.weaken fun v σ H Q q => by
  obtain ⟨F, ρ, μ, dv, Qd, R, w, hd, k⟩ := q
  exact k _ _ (R.set w) (by rw [List.length_set]) (fun j hj => List.getElem?_set_ne fun z => hj (by simp [z])) hd
@[simp] def gdNil : TGDs
  | [], ρ, Q => Q ρ
  | _ :: _, _, _ => False
@[simp] def gdCons (g : TGD) (gs : TGDs) : TGDs
  | d :: r, ρ, Q => g d ρ fun ρ1 => gs r ρ1 Q
  | [], _, _ => False
theorem dgs_nil : DGs X B [] [] gdNil := pgs_nil.weaken fun vs σ H Q q => by
  obtain ⟨F, ρ, μ, ds, Qd, R, w, hd, k⟩ := q
  cases w with
  | nil => exact ⟨rfl, k ρ σ R rfl (fun _ _ => rfl) hd⟩
  | cons => exact hd.elim
theorem dgs_cons {es : List Expr} {n1 n2 : List Nat} {g : TGD} {gs : TGDs} (h1 : DG X B e n1 g) (h2 : DGs X B es n2 gs) (hs : (assignEach (e :: es) X.env).map (·.2) = assign e X.env :: (assignEach es X.env).map (·.2) := by rfl) :
    DGs X B (e :: es) (n1 ++ n2) (gdCons g gs) := (pgs_cons h1 h2 hs).weaken fun vs σ H Q q => by
  obtain ⟨F, ρ, μ, ds, Qd, R, w, hd, k⟩ := q
  cases w with
  | nil => exact hd.elim
  | cons wv ws =>
    refine ⟨_, _, rfl, F, ρ, μ, _, _, R, wv, hd, fun ρ1 σ1 R1 l1 f1 q1 => ?_⟩
    exact ⟨F, ρ1, μ, _, Qd, R1, ws, q1, fun ρ2 σ2 R2 l2 f2 q2 => k ρ2 σ2 R2 (l2.trans l1) (fun j hj => by
      rw [List.mem_append, not_or] at hj
      rw [f2 j hj.2, f1 j hj.1]) q2⟩
/-- (a, b, ..) = a tuple, a list of that length -/
@[simp] def dUnp (n : Nat) (gs : TGDs) : TGD
  | .tup ds, ρ, Q => ds.length = n ∧ gs ds ρ Q
  | .pr a b, ρ, Q => n = 2 ∧ gs [a, b] ρ Q
  | _, _, _ => False
@[simp] def dUnl (n : Nat) (gs : TGDs) : TGD
  | .lst ds, ρ, Q => ds.length = n ∧ gs ds ρ Q
  | _, _, _ => False
theorem dg_tup {es : List Expr} {k : Nat} {ns : List Nat} {gs : TGDs} {n : Nat} (hc : X.calm = true) (h : DGs X B es ns gs)
    (hn : (assignEach es X.env).length = n := by rfl) (hst : (assignEach es X.env).findIdx? (·.1) = none := by rfl) : DG X B (.Tuple es k pos) ns (dUnp n gs) := (pg_tup hc h hn hst).weaken fun v σ H Q q => by
  obtain ⟨F, ρ, μ, dv, Qd, R, w, hd, k⟩ := q
  cases dv <;> first | exact hd.elim | skip
  · obtain ⟨h1, h2⟩ := hd
    obtain ⟨a, vs, rfl, ha, hf, ra⟩ := Wk.tup R.rel.ok (μ := μ) (.inl w)
    exact ⟨a, vs, rfl, ha, ra.length.trans h1, F, ρ, μ, _, Qd, R, ra, h2, k⟩
  · obtain ⟨h1, h2⟩ := hd
    cases w with
    | pr hf r r2 => exact ⟨_, _, rfl, .inl (.inl (R.rel.ok.sub _ _ hf)), h1.symm, F, ρ, μ, _, Qd, R, .cons r (.cons r2 .nil), h2, k⟩
@[simp] def dAsg (d : TED) (g : TGD) : TSD := fun D ρ μ => d ρ μ fun x μ1 => g x ρ fun ρ1 => D.nx ρ1 μ1
theorem ds_asg {tg : Expr} {ns : List Nat} {g : TGD} (he : DE X e d) (hg : DG X B tg ns g) (hs : swapsWithSole [tg] e pos.line X.env = pure false := by rfl) (hw : swappedStores [tg] e X.env = pure none := by rfl)
    (h1 : (assignEach [tg] X.env).map (·.2) = [assign tg X.env] := by rfl) : DSt X B (.Assign [tg] e pos) (dAsg d g) := (ps_asg he hg hs hw h1).weaken fun D σ H h => by
  obtain ⟨F, ρ, μ, Dd, R, hd, kn, kb, kc, kr⟩ := h
  refine ⟨F, ρ, μ, _, R.rel, hd, fun v F' μ' H' dv e o w q => ?_⟩
  exact ⟨F', ρ, μ', dv, _, R.step e o, w, q, fun ρ1 σ1 R1 _ _ q1 => kn F' ρ1 μ' σ1 H' e.mono R1 q1⟩
@[simp] def dSet (i : Nat) (d : TED) : TSD := fun D ρ μ => d ρ μ fun x μ1 => D.nx (ρ.set i (some (.val x))) μ1
/-- x = a new list, x's own -/
@[simp] def dSetF (i : Nat) (d : TFD) : TSD := fun D ρ μ => d ρ μ fun xs μ1 => D.nx (ρ.set i (some (.own xs))) μ1
/-- x op= e -/
@[simp] def dAug (i : Nat) (r : RD2) (d : TED) : TSD := fun D ρ μ => ∃ x, ρ[i]? = some (some (.val x)) ∧ d ρ μ fun y μ1 => r x y μ1 fun z μ2 => D.nx (ρ.set i (some (.val z))) μ2
@[simp] def dApp (i : Nat) (d : TED) : TSD := fun E ρ μ => ∃ xs, ρ[i]? = some (some (.own xs)) ∧ d ρ μ fun y μ1 => xs.length < SZ ∧ E.nx (ρ.set i (some (.own (xs ++ [y])))) μ1
theorem ds_app {i : Nat} {x : Str} {p apos cpos : Pos} (h : ∀ t, PA X [e] t → PS X (.Expr (.Call (.Attribute (.Name x p) "append" apos) [e] [] cpos) pos) (tDrop (tBM X.K "list" rAppend (tVar i) t)))
    (he : DE X e d) (hs : starEach [e] X.env = (false, eval e X.env) :: starEach [] X.env := by rfl) : DSt X B (.Expr (.Call (.Attribute (.Name x p) "append" apos) [e] [] cpos) pos) (dApp i d) := (h _ (pa_cons he pa_nil hs)).weaken fun D σ H h => by
  obtain ⟨F, ρ, μ, Dd, R, ⟨xs, hx, hd⟩, kn, kb, kc, kr⟩ := h
  obtain ⟨q, vs, hs, hf, hm, hh, hds, hb⟩ := R.ownAt hx
  refine ⟨.ref q, hs, .inl ⟨rfl, _, .inl (.inl hh)⟩, F, ρ, μ, _, R.rel, hd, fun v F' μ' H' dv e o w hq => ?_⟩
  obtain ⟨h1, h2, h3⟩ := e.keep q _ hh hm
  refine ⟨q, vs, v, rfl, rfl, h1, by rw [hds.length, sizeLine_eq]; exact hq.1, ?_⟩
  exact kn F' _ μ' σ _ e.mono ((R.step e o).writeOwn hx hs (h2.trans hf) h3 h1 hb ((hds.mono e.mono).append (.one w))) hq.2
/-- x.extend(e) -/
@[simp] def dExt (i : Nat) (d : TED) : TSD := fun E ρ μ => ∃ xs, ρ[i]? = some (some (.own xs)) ∧ d ρ μ fun y μ1 => ∃ ys, y = .lst ys ∧ xs.length + ys.length ≤ SZ ∧ E.nx (ρ.set i (some (.own (xs ++ ys)))) μ1
/-- what a loop walks: the items, and what must stay true of what may change -/
abbrev TSrc := DEnv → Sto → (List D → (Sto → Prop) → Sto → Prop) → Prop
abbrev still : Sto → Prop := fun _ => True
/-- the iterator J yields the items -/
def ItD (K : PySem.W.Frag) (mg : Str → Option Value) (F : Hp) (J : It) (items : List D) (inv : Sto → Prop) : Prop :=
  ∀ (F1 : Hp) (μ1 : Sto) (H1 : Hp), (∀ a o, F a = some o → F1 a = some o) → Ok K mg F1 μ1 H1 → inv μ1 → ∀ i : Nat,
    (i < items.length → J.go i H1 ∧ ∀ x H2, J.yld i H1 x H2 → ∃ F2 d, Ext F1 μ1 H1 F2 μ1 H2 ∧ Ok K mg F2 μ1 H2 ∧ items[i]? = some d ∧ Dt K mg F2 x d) ∧
    (i = items.length → J.stop i H1)
def liftI (K : PySem.W.Frag) (mg : Str → Option Value) (d : TSrc) : TI := fun σ H R => ∃ F ρ μ Qd, Rel K mg F ρ μ σ H ∧ d ρ μ Qd ∧ ∀ J F' μ' H' items inv, Ext F μ H F' μ' H' → Ok K mg F' μ' H' → ItD K mg F' J items inv → Qd items inv μ' → R J H'
abbrev DI (X : Cx) (tg e : Expr) (d : TSrc) : Prop := PI X tg e (liftI X.K X.mg d)
theorem _root_.L2.PI.weaken {X : Cx} {tg e : Expr} {t t' : TI} (h : PI X tg e t) (w : ∀ σ H Q, t' σ H Q → t σ H Q) : PI X tg e t' := ⟨fun pins s σ H Q I q => h.run pins s σ H Q I (w σ H Q q)⟩
@[simp] def forD (g : TGD) (body : TSD) (E : DEnds) (inv : Sto → Prop) : List D → DEnv → Sto → Prop
  | [], ρ, μ => inv μ ∧ E.nx ρ μ
  | x :: xs, ρ, μ => inv μ ∧ g x ρ fun ρ1 => body { E with nx := forD g body E inv xs, ct := forD g body E inv xs, bk := E.nx } ρ1 μ
@[simp] def dFor (src : TSrc) (g : TGD) (body : TSD) : TSD := fun E ρ μ => src ρ μ fun items inv μ1 => forD g body E inv items ρ μ1
theorem ds_for {tg iter : Expr} {body : List Stmt} {src : TSrc} {ns : List Nat} {g : TGD} {tb : TSD} (hp : PassesOwn (model X.prog X.w) X.A X.env X.xe) (hc : X.calm = true) (hi : DI X tg iter src) (hg : DG X B tg ns g) (hb : DSs X B body tb)
    (hs : ∀ x, foldedSetIterable iter X.env x = pure x := by intro _; rfl) : DSt X B (.For tg iter body [] pos) (dFor src g tb) := (ps_for hp hc hi hg hb hs).weaken fun D σ H h => by
  obtain ⟨F, ρ, μ, Dd, R, hd, kn, kb, kc, kr⟩ := h
  refine ⟨F, ρ, μ, _, R.rel, hd, fun J F0 μ0 H0 items inv e0 o0 it q0 => ?_⟩
  refine ⟨fun i m σ1 H1 => ∃ F1 ρ1 μ1, m = items.length - i ∧ i ≤ items.length ∧ (∀ a o, F0 a = some o → F1 a = some o) ∧ RelB X.K X.mg B F1 ρ1 μ1 σ1 H1 ∧ forD g tb Dd inv (items.drop i) ρ1 μ1,
    ⟨items.length, F0, ρ, μ0, by simp, Nat.zero_le _, fun _ _ z => z, R.step e0 o0, by simpa using q0⟩, ?_⟩
  rintro i m σ1 H1 ⟨F1, ρ1, μ1, rfl, hi, hF, R1, q1⟩
  have hinv : inv μ1 := by
    cases hz : items.drop i with
    | nil => rw [hz] at q1; exact q1.1
    | cons x xs => rw [hz] at q1; exact q1.1
  obtain ⟨hgo, hstop⟩ := it F1 μ1 H1 hF R1.rel.ok hinv i
  by_cases hlt : i < items.length
  · obtain ⟨g1, g2⟩ := hgo hlt
    refine .inr ⟨g1, fun σ' H' => ∃ F' ρ' μ', (∀ a o, F0 a = some o → F' a = some o) ∧ RelB X.K X.mg B F' ρ' μ' σ' H' ∧ forD g tb Dd inv (items.drop (i + 1)) ρ' μ', fun σ' H' ⟨F', ρ', μ', a1, a2, a3⟩ => ⟨items.length - (i + 1), by omega, F', ρ', μ', rfl, hlt, a1, a2, a3⟩, fun x H2 hy => ?_⟩
    obtain ⟨F2, d, e2, o2, hx, wx⟩ := g2 x H2 hy
    have hdrop : items.drop i = d :: items.drop (i + 1) := by
      have hd := List.drop_eq_getElem_cons hlt
      rw [List.getElem?_eq_getElem hlt] at hx
      cases hx
      exact hd
    rw [hdrop] at q1
    refine ⟨F2, ρ1, μ1, d, _, R1.step e2 o2, wx, q1.2, fun ρ3 σ3 R3 _ _ q3 => ?_⟩
    have hF2 : FLe F0 F2 := fun a o z => e2.mono a o (hF a o z)
    have hF2' : FLe F F2 := fun a o z => hF2 a o (e0.mono a o z)
    exact ⟨F2, ρ3, μ1, _, R3, q3, fun F4 ρ4 μ4 σ4 H4 h4 R4 q4 => ⟨F4, ρ4, μ4, hF2.trans h4, R4, q4⟩, fun F4 ρ4 μ4 σ4 H4 h4 R4 q4 => kn F4 ρ4 μ4 σ4 H4 (hF2'.trans h4) R4 q4, fun F4 ρ4 μ4 σ4 H4 h4 R4 q4 => ⟨F4, ρ4, μ4, hF2.trans h4, R4, q4⟩, kr⟩
  · have : i = items.length := by omega
    subst this
    refine .inl ⟨hstop rfl, ?_⟩
    rw [List.drop_length] at q1
    exact kn F1 ρ1 μ1 σ1 H1 (fun a o z => hF a o (e0.mono a o z)) R1 q1.2
end
end DL

namespace DL
open PySem PySem.Spec PyProof.Rows L2
section
variable {K : PySem.W.Frag} {mg : Str → Option Value} {F : Hp}
theorem itd_list {a : Addr} {vs : List V} {ds : List D} (h : F a = some (.lst vs)) (r : Dts K mg F vs ds) : ItD K mg F (Itl K a) ds still := by
  intro F1 μ1 H1 hF o1 _ i
  have ha : SqL K H1 a vs := .inl (.inl (o1.sub _ _ (hF _ _ h)))
  refine ⟨fun hi => ⟨⟨vs, vs[i]'(by rw [r.length]; exact hi), ha, List.getElem?_eq_getElem _⟩, fun x H2 hy => ?_⟩, fun e => ⟨vs, ha, by rw [r.length, e]; exact Nat.le_refl _⟩⟩
  obtain ⟨rfl, hx⟩ := hy
  obtain ⟨d, hd, w⟩ := r.getV (hx vs ha)
  exact ⟨F1, d, .refl, o1, hd, w.mono hF⟩
/-- a list that changes, as long as it does not -/
theorem itd_ref (a : Addr) (ds : List D) : ItD K mg F (Itl K a) ds (fun μ => μ a = some (.lst ds)) := by
  intro F1 μ1 H1 hF o1 hi i
  obtain ⟨vs, h, r⟩ := o1.sto _ _ hi
  have ha : SqL K H1 a vs := .inl (.inl h)
  refine ⟨fun hi => ⟨⟨vs, vs[i]'(by rw [r.length]; exact hi), ha, List.getElem?_eq_getElem _⟩, fun x H2 hy => ?_⟩, fun e => ⟨vs, ha, by rw [r.length, e]; exact Nat.le_refl _⟩⟩
  obtain ⟨rfl, hx⟩ := hy
  obtain ⟨d, hd, w⟩ := r.getV (hx vs ha)
  exact ⟨F1, d, .refl, o1, hd, w⟩
theorem itd_scr {a : Addr} {ns : List Int} (h : SqL K F a (ns.map V.int)) : ItD K mg F (Itl K a) (ns.map D.int) still := by
  intro F1 μ1 H1 hF o1 _ i
  have ha : SqL K H1 a (ns.map V.int) := SqL.mono' (fun b u z => o1.sub _ _ (hF _ _ z)) h
  refine ⟨fun hi => ⟨⟨_, (ns.map V.int)[i]'(by simpa using hi), ha, List.getElem?_eq_getElem _⟩, fun x H2 hy => ?_⟩, fun e => ⟨_, ha, by simp [e]⟩⟩
  obtain ⟨rfl, hx⟩ := hy
  obtain ⟨d, hd, w⟩ := (Dts.ofInts (K := K) (mg := mg) (F := F1) ns).getV (hx _ ha)
  exact ⟨F1, d, .refl, o1, hd, w⟩
theorem itd_tup {a : Addr} {vs : List V} {ds : List D} (h : SqT K F a vs) (r : Dts K mg F vs ds) : ItD K mg F (Itt K a) ds still := by
  intro F1 μ1 H1 hF o1 _ i
  have ha : SqT K H1 a vs := SqT.mono' (fun b u z => o1.sub _ _ (hF _ _ z)) h
  refine ⟨fun hi => ⟨⟨vs, vs[i]'(by rw [r.length]; exact hi), ha, List.getElem?_eq_getElem _⟩, fun x H2 hy => ?_⟩, fun e => ⟨vs, ha, by rw [r.length, e]; exact Nat.le_refl _⟩⟩
  obtain ⟨rfl, hx⟩ := hy
  obtain ⟨d, hd, w⟩ := r.getV (hx vs ha)
  exact ⟨F1, d, .refl, o1, hd, w.mono hF⟩
def rngD (lo : Int) (n : Nat) : List D := (List.range n).map fun i => .int (lo + (i : Nat))
theorem itd_rng (lo : Int) (n : Nat) : ItD K mg F (Itr lo n) (rngD lo n) still := by
  intro F1 μ1 H1 hF o1 _ i
  unfold rngD
  refine ⟨fun hi => ⟨by show i < n; simpa using hi, fun x H2 hy => ?_⟩, fun e => by
    have e' : i = n := by simpa using e
    exact Nat.le_of_eq e'.symm⟩
  obtain ⟨rfl, rfl⟩ := hy
  have hi' : i < n := by simpa using hi
  refine ⟨F1, .int (lo + i), .refl, o1, ?_, .int _⟩
  rw [List.getElem?_map, List.getElem?_range hi']
  rfl
def strD (s : List Nat) : List D := s.map fun c => .str [c]
theorem itd_str (s : List Nat) : ItD K mg F (Its (S s)) (strD s) still := by
  intro F1 μ1 H1 hF o1 _ i
  have hs : (S s).cps.size = s.length := S_len s
  unfold strD
  refine ⟨fun hi => ⟨?_, fun x H2 hy => ?_⟩, fun e => ?_⟩
  · show i < (S s).cps.size
    rw [hs]; simpa using hi
  · obtain ⟨rfl, c, hc, rfl⟩ := hy
    refine ⟨F1, .str [c], .refl, o1, ?_, .str [c]⟩
    have hc' : s[i]? = some c := by simpa using hc
    rw [List.getElem?_map, hc']
    rfl
  · show (S s).cps.size ≤ i
    rw [hs]; simp at e; omega
end
section
variable {X : Cx} {tg : Expr} {e : Expr} {es : List Expr} {d : TED} {t : TAD} {p pos : Pos}
/-- the items of a list, a tuple, a text, the script -/
@[simp] def dEach (d : TED) : TSrc := fun ρ μ Q => d ρ μ fun x μ1 => match x with
  | .lst xs => Q xs still μ1
  | .tup xs => Q xs still μ1
  | .str s => Q (strD s) still μ1
  | .scr ns => Q (ns.map D.int) still μ1
  | .ref a => ∃ xs, μ1 a = some (.lst xs) ∧ Q xs (fun μ => μ a = some (.lst xs)) μ1
  | _ => False
def iAny (K : PySem.W.Frag) (te : TE) : TI := fun σ H R => te σ H fun x H1 => (∃ a, x = .ref a ∧ (∃ xs, SqL K H1 a xs) ∧ R (Itl K a) H1) ∨ (∃ a, x = .ref a ∧ (∃ xs, SqT K H1 a xs) ∧ R (Itt K a) H1) ∨ (∃ z, x = .str z ∧ R (Its z) H1)
theorem pi_any {l : Expr} {tl : TE} (hl : PE X l tl) : PI X tg l (iAny X.K tl) := by
  refine ⟨fun pins s σ H R I h => ?_⟩
  refine thn (hl.run pins s σ H _ I h) fun v s1 ⟨x, H1, I1, r1, q1⟩ => ?_
  rcases q1 with ⟨a, rfl, ⟨xs, hq⟩, q⟩ | ⟨a, rfl, ⟨xs, hq⟩, q⟩ | ⟨z, rfl, q⟩
  · cases r1
    obtain ⟨its, _, pl, _⟩ := I1.list hq
    exact wpAny_pyIter_list pl.isList (pi_one (tk := s1.toks) I1 _ (turn_list a _) ⟨_, Heap.get?_push_size _ rfl, rfl, rfl⟩ q)
  · cases r1
    obtain ⟨its, _, tp, _⟩ := I1.tuple hq
    exact wpAny_pyIter_tuple tp (pi_one (tk := s1.toks) I1 _ (turn_tuple a _) ⟨_, Heap.get?_push_size _ rfl, rfl, rfl⟩ q)
  · obtain ⟨t, rfl⟩ := r1
    cases ha : z.cps.all (· < 128)
    · exact wpAny_pyIter_wide ha (pi_one (tk := s1.toks) I1 _ (turn_str _ z t "str_iterator" (.inr rfl)) ⟨_, Heap.get?_push_size _ rfl, rfl, rfl⟩ q)
    · exact wpAny_pyIter_ascii ha (pi_one (tk := s1.toks) I1 _ (turn_str _ z t "str_ascii_iterator" (.inl rfl)) ⟨_, Heap.get?_push_size _ rfl, rfl, rfl⟩ q)
theorem di_each (h : DE X e d) : DI X tg e (dEach d) := (pi_any h).weaken fun σ H R q => by
  obtain ⟨F, ρ, μ, Qd, Rl, hd, k⟩ := q
  refine ⟨F, ρ, μ, _, Rl, hd, fun v F' μ' H' dv e o w q => ?_⟩
  cases dv <;> first | exact q.elim | skip
  · cases w
    exact .inr (.inr ⟨_, rfl, k _ F' μ' H' _ _ e o (itd_str _) q⟩)
  · cases w with
    | tup h r => exact .inr (.inl ⟨_, rfl, ⟨_, SqT.sub o h.sq⟩, k _ F' μ' H' _ _ e o (itd_tup h.sq r) q⟩)
  · cases w with
    | lst h r => exact .inl ⟨_, rfl, ⟨_, .inl (.inl (o.sub _ _ h))⟩, k _ F' μ' H' _ _ e o (itd_list h r) q⟩
  · cases w with
    | scr h => exact .inl ⟨_, rfl, ⟨_, SqL.mono' o.sub h⟩, k _ F' μ' H' _ _ e o (itd_scr h) q⟩
  · cases w
    obtain ⟨xs, hx, q⟩ := q
    obtain ⟨vs, ha, r⟩ := o.sto _ _ hx
    exact .inl ⟨_, rfl, ⟨_, .inl (.inl ha)⟩, k _ F' μ' H' _ _ e o (itd_ref _ _) q⟩
def rngOk (i : Int) : Prop := -4611686018427387904 ≤ i ∧ i < 4611686018427387904
@[simp] def dRng1 (t : TAD) : TSrc := fun ρ μ Q => t ρ μ fun xs μ1 => match xs with
  | [.int j] => rngOk j ∧ Q (rngD 0 j.toNat) still μ1
  | _ => False
@[simp] def dRng2 (t : TAD) : TSrc := fun ρ μ Q => t ρ μ fun xs μ1 => match xs with
  | [.int i, .int j] => rngOk i ∧ rngOk j ∧ Q (rngD i (j - i).toNat) still μ1
  | _ => False
theorem di_rng1 (hg : Gl X "range") (hm : X.mg "range" = none) (h : DA X [e] t) (hs : starEach [e] X.env = [(false, eval e X.env)] := by rfl) : DI X tg (.Call (.Name "range" p) [e] [] pos) (dRng1 t) := (pi_range1 hg hm h hs).weaken fun σ H R q => by
  obtain ⟨F, ρ, μ, Qd, Rl, hd, k⟩ := q
  refine ⟨F, ρ, μ, _, Rl, hd, fun vs F' μ' H' ds e o w q => ?_⟩
  split at q
  · cases w with
    | cons h r =>
      cases r
      cases h
      exact ⟨_, rfl, q.1.1, q.1.2, k _ F' μ' H' _ _ e o (itd_rng _ _) q.2⟩
  · exact q.elim
def enumD (k : Nat) : List D → List D
  | [] => []
  | x :: xs => .pr (.int k) x :: enumD (k + 1) xs
theorem enumD_get (xs : List D) : ∀ (k i : Nat), (enumD k xs)[i]? = xs[i]?.map fun x => .pr (.int ((k + i : Nat) : Int)) x := by
  induction xs with
  | nil => intro k i; simp [enumD]
  | cons x xs ih =>
    intro k i
    cases i with
    | zero => simp [enumD]
    | succ i =>
      rw [enumD, List.getElem?_cons_succ, ih, List.getElem?_cons_succ, show k + 1 + i = k + (i + 1) by omega]
theorem enumD_len (xs : List D) : ∀ k, (enumD k xs).length = xs.length := by
  induction xs with
  | nil => intro k; rfl
  | cons x xs ih => intro k; rw [enumD, List.length_cons, ih, List.length_cons]
/-- enumerate of a list -/
@[simp] def dEnum (t : TAD) : TSrc := fun ρ μ Q => t ρ μ fun xs μ1 => match xs with
  | [.lst ds] => Q (enumD 0 ds) still μ1
  | [.ref a] => ∃ ds, μ1 a = some (.lst ds) ∧ Q (enumD 0 ds) (fun μ => μ a = some (.lst ds)) μ1
  | _ => False
/-- by what holds ahead of each turn, and a number that falls -/
def dWhile (c : TTD) (body : TSD) : TSD := fun E ρ μ => ∃ W : Nat → DEnv → Sto → Prop, (∃ m, W m ρ μ) ∧ ∀ m ρ μ, W m ρ μ →
  c ρ μ fun b μ1 => if b = true then ∃ N : DEnv → Sto → Prop, (∀ ρ' μ', N ρ' μ' → ∃ m', m' < m ∧ W m' ρ' μ') ∧ body { E with nx := N, ct := N, bk := E.nx } ρ μ1 else E.nx ρ μ1
theorem ds_while {B : Bs} {c : Expr} {body : List Stmt} {tc : TTD} {tb : TSD} (hp : PassesOwn (model X.prog X.w) X.A X.env X.xe) (hc : DT X c tc) (hb : DSs X B body tb) : DSt X B (.While c body [] pos) (dWhile tc tb) := (ps_while hp hc hb).weaken fun D σ H h => by
  obtain ⟨F, ρ, μ, Dd, R, ⟨W, ⟨m0, w0⟩, turn⟩, kn, kb, kc, kr⟩ := h
  refine ⟨fun m σ1 H1 => ∃ F1 ρ1 μ1, FLe F F1 ∧ RelB X.K X.mg B F1 ρ1 μ1 σ1 H1 ∧ W m ρ1 μ1, ⟨m0, F, ρ, μ, .rfl', R, w0⟩, ?_⟩
  rintro m σ1 H1 ⟨F1, ρ1, μ1, hF, R1, q1⟩
  refine ⟨F1, ρ1, μ1, _, R1.rel, turn m ρ1 μ1 q1, fun b F2 μ2 H2 e2 o2 q2 => ?_⟩
  cases b with
  | true =>
    obtain ⟨N, hN, q2⟩ := q2
    have hF2 : FLe F F2 := hF.trans e2.mono
    refine ⟨fun σ' H' => ∃ F' ρ' μ', FLe F F' ∧ RelB X.K X.mg B F' ρ' μ' σ' H' ∧ N ρ' μ', fun σ' H' ⟨F', ρ', μ', a1, a2, a3⟩ => ?_, ?_⟩
    · obtain ⟨m', hm, w'⟩ := hN ρ' μ' a3
      exact ⟨m', hm, F', ρ', μ', a1, a2, w'⟩
    · exact ⟨F2, ρ1, μ2, _, R1.step e2 o2, q2, fun F4 ρ4 μ4 σ4 H4 h4 R4 q4 => ⟨F4, ρ4, μ4, hF2.trans h4, R4, q4⟩, fun F4 ρ4 μ4 σ4 H4 h4 R4 q4 => kn F4 ρ4 μ4 σ4 H4 (hF2.trans h4) R4 q4, fun F4 ρ4 μ4 σ4 H4 h4 R4 q4 => ⟨F4, ρ4, μ4, hF2.trans h4, R4, q4⟩, kr⟩
  | false => exact kn F2 ρ1 μ2 σ1 H2 (hF.trans e2.mono) (R1.step e2 o2) q2

@[simp] def wipeD (ρ : DEnv) : List Nat → DEnv
  | [] => ρ
  | v :: vs => (wipeD ρ vs).set v none
theorem wipeD_length (ρ : DEnv) : ∀ vs, (wipeD ρ vs).length = ρ.length
  | [] => rfl
  | v :: vs => by unfold wipeD; rw [List.length_set, wipeD_length ρ vs]
theorem set_none_some {α : Type} {l : List (Option α)} {v i : Nat} {x : α} (h : (l.set v none)[i]? = some (some x)) : v ≠ i ∧ l[i]? = some (some x) := by
  by_cases hv : v = i
  · subst hv
    have hl : v < l.length := by
      have := (List.getElem?_eq_some_iff.mp h).1
      rwa [List.length_set] at this
    rw [List.getElem?_set_self hl] at h
    cases h
  · rw [List.getElem?_set_ne hv] at h
    exact ⟨hv, h⟩
theorem wipeD_some {ρ : DEnv} {i : Nat} {x : DS} : ∀ {vs : List Nat}, (wipeD ρ vs)[i]? = some (some x) → ρ[i]? = some (some x) ∧ i ∉ vs
  | [], h => ⟨h, by simp⟩
  | v :: vs, h => by
    obtain ⟨h1, h2⟩ := set_none_some h
    obtain ⟨h3, h4⟩ := wipeD_some (vs := vs) h2
    refine ⟨h3, ?_⟩
    rw [List.mem_cons, not_or]
    exact ⟨fun q => h1 q.symm, h4⟩
theorem wipe_get {σ : L2.St} {i : Nat} : ∀ {vs : List Nat}, i ∉ vs → (wipe σ vs)[i]? = σ[i]?
  | [], _ => rfl
  | v :: vs, h => by
    rw [List.mem_cons, not_or] at h
    show ((wipe σ vs).set v none)[i]? = _
    rw [List.getElem?_set_ne (fun q => h.1 q.symm), wipe_get h.2]
theorem RelB.wipe {K : PySem.W.Frag} {mg : Str → Option Value} {B : Bs} {F H : Hp} {ρ : DEnv} {μ : Sto} {σ : L2.St} (r : RelB K mg B F ρ μ σ H) (vs : List Nat) : RelB K mg B F (wipeD ρ vs) μ (L2.wipe σ vs) H := by
  refine ⟨⟨r.rel.ok, by rw [wipeD_length, wipe_length]; exact r.rel.len, fun i s e => ?_, fun i j xs ys e1 e2 e3 => ?_⟩, r.ext, fun i xs a e1 e2 => ?_⟩
  · obtain ⟨e, n⟩ := wipeD_some e
    obtain ⟨v, h1, h2⟩ := r.rel.slot i s e
    exact ⟨v, by rw [wipe_get n]; exact h1, h2⟩
  · obtain ⟨e1, n1⟩ := wipeD_some e1
    obtain ⟨e2, n2⟩ := wipeD_some e2
    rw [wipe_get n1, wipe_get n2] at e3
    exact r.rel.apart i j xs ys e1 e2 e3
  · obtain ⟨e1, n1⟩ := wipeD_some e1
    rw [wipe_get n1] at e2
    exact r.new i xs a e1 e2
theorem wipe_eq {σ σ' : L2.St} {vs : List Nat} (hl : σ'.length = σ.length) (h : ∀ j, j ∉ vs → σ'[j]? = σ[j]?) : wipe σ' vs = wipe σ vs := by
  have inn : ∀ (τ : L2.St) (us : List Nat) (j : Nat), j ∈ us → j < τ.length → (wipe τ us)[j]? = some none := by
    intro τ us
    induction us with
    | nil => intro j h; cases h
    | cons u us ih =>
      intro j hj hl
      show ((wipe τ us).set u none)[j]? = _
      by_cases hu : u = j
      · subst hu
        exact List.getElem?_set_self (by rw [wipe_length]; exact hl)
      · rw [List.getElem?_set_ne hu]
        rcases List.mem_cons.mp hj with z | z
        · exact absurd z.symm hu
        · exact ih j z hl
  apply List.ext_getElem?
  intro j
  by_cases hj : j ∈ vs
  · by_cases hjl : j < σ.length
    · rw [inn σ vs j hj hjl, inn σ' vs j hj (by rw [hl]; exact hjl)]
    · rw [List.getElem?_eq_none (by rw [wipe_length]; omega), List.getElem?_eq_none (by rw [wipe_length]; omega)]
  · rw [wipe_get hj, wipe_get hj, h j hj]
structure DTs (X : Cx) (ifs : List Expr) (d : TTD) : Prop where
  run : PTs X ifs (liftT X.K X.mg d)
@[simp] def dYes : TTD := fun _ μ Q => Q true μ
theorem dts_nil : DTs X [] dYes := ⟨⟨fun pins s σ H Q I h => pts_nil.run pins s σ H Q I (by
  obtain ⟨F, ρ, μ, Qd, R, hd, k⟩ := h
  exact k true F μ H .refl R.ok hd)⟩⟩
theorem dts_one {c : Expr} {tc : TTD} (h : DT X c tc) : DTs X [c] tc := ⟨pts_one h⟩
/-- acc: what is made so far -/
@[simp] def lcD (vs : List Nat) (g : TGD) (c : TTD) (el : TED) (ρ : DEnv) (inv : Sto → Prop) (Q : List D → Sto → Prop) : List D → List D → Sto → Prop
  | [], acc, μ => inv μ ∧ Q acc μ
  | x :: xs, acc, μ => inv μ ∧ g x (wipeD ρ vs) fun ρ1 => c ρ1 μ fun b μ1 => if b = true then el ρ1 μ1 fun y μ2 => acc.length < SZ ∧ lcD vs g c el ρ inv Q xs (acc ++ [y]) μ2 else lcD vs g c el ρ inv Q xs acc μ1
@[simp] def dLc (vs : List Nat) (src : TSrc) (g : TGD) (c : TTD) (el : TED) : TFD := fun ρ μ Q => src ρ μ fun items inv μ1 => lcD vs g c el ρ inv Q items [] μ1
/-- a new list is a value -/
@[simp] def dF (d : TFD) : TED := fun ρ μ Q => d ρ μ fun xs μ1 => Q (.lst xs) μ1
theorem de_F {d : TFD} (h : DF X e d) : DE X e (dF d) := h.weaken fun σ H Q q => by
  obtain ⟨F, ρ, μ, Qd, R, hd, k⟩ := q
  refine ⟨F, ρ, μ, _, R, hd, fun p vs F' μ' H' ds e o hn hf hm hh w q => ?_⟩
  have mono : FLe F' (upd F' p (.lst vs)) := fun a x z => by rw [upd_ne (ne_of_none z hf)]; exact z
  refine k _ (upd F' p (.lst vs)) μ' H' _ ⟨fun a x z => mono a x (e.mono a x z), fun a x z n => ?_, e.live⟩ (o.freeze hf hm hh) (.lst upd_same (w.mono mono)) q
  obtain ⟨g1, g2, g3⟩ := e.keep a x z n
  have ha : a ≠ p := fun q => by subst q; rw [hn] at z; cases z
  exact ⟨g1, by rw [upd_ne ha]; exact g2, g3⟩
/-- the comprehension's reading over data gives the hand layer's -/
theorem lc_weak {K : PySem.W.Frag} {mg : Str → Option Value} {vs0 ns : List Nat} {src : TSrc} {g : TGD} {c : TTD} {el : TED} (hns : ∀ j ∈ ns, j ∈ vs0) {σ : L2.St} {H : Hp} {Q : VK} (q : liftF K mg (dLc vs0 src g c el) σ H Q) :
    tLc (liftI K mg src) (fun v σ H Q => ∃ B, liftG K mg B ns g v σ H Q) (liftT K mg c) (liftE K mg el) vs0 σ H Q := by
  obtain ⟨F, ρ, μ, Qd, R, hd, k⟩ := q
  refine ⟨F, ρ, μ, _, R, hd, fun J F0 μ0 H0 items inv e0 o0 it q0 L hL => ?_⟩
  obtain ⟨o1, e1⟩ := o0.layN hL (.lst [])
  obtain ⟨fL, mL⟩ := o0.fresh hL
  have B0 : ∀ {F' : Hp} {μ' : Sto} {H' : Hp}, Ext (fun _ => none) (fun _ => none) (fun _ => none) F' μ' H' := fun {F' μ' H'} => ⟨(fun a o z => nomatch z), (fun a o z => nomatch z), fun _ _ => rfl⟩
  have R0 : RelB K mg ⟨fun _ => none, fun _ => none, fun _ => none⟩ F0 ρ μ0 σ H0 := ⟨R.ext e0 o0, B0, fun _ _ _ _ _ => rfl⟩
  · refine ⟨fun i m H1 => ∃ F1 μ1 acc vs, m = items.length - i ∧ i ≤ items.length ∧ FLe F0 F1 ∧ Ext F0 μ0 H0 F1 μ1 H1 ∧ Ok K mg F1 μ1 H1 ∧ F1 L = none ∧ μ1 L = none ∧ H1 L = some (.lst vs) ∧ Dts K mg F1 vs acc ∧ lcD vs0 g c el ρ inv Qd (items.drop i) acc μ1,
      ⟨items.length, F0, μ0, [], [], by simp, Nat.zero_le _, .rfl', e1, o1, fL, mL, upd_same, .nil, by simpa using q0⟩, ?_⟩
    rintro i m H1 ⟨F1, μ1, acc, vs, rfl, hi', hF, x1, ok1, f1, m1, h1, w1, q1⟩
    have hinv : inv μ1 := by
      cases hz : items.drop i with
      | nil => rw [hz] at q1; exact q1.1
      | cons x xs => rw [hz] at q1; exact q1.1
    obtain ⟨hgo, hstop⟩ := it F1 μ1 H1 hF ok1 hinv i
    by_cases hlt : i < items.length
    · obtain ⟨g1, g2⟩ := hgo hlt
      refine .inr ⟨g1, fun H' => ∃ F' μ' acc vs, FLe F0 F' ∧ Ext F0 μ0 H0 F' μ' H' ∧ Ok K mg F' μ' H' ∧ F' L = none ∧ μ' L = none ∧ H' L = some (.lst vs) ∧ Dts K mg F' vs acc ∧ lcD vs0 g c el ρ inv Qd (items.drop (i + 1)) acc μ',
        fun H' ⟨F', μ', acc, vs, b1, b2, b3, b4, b5, b6, b7, b8⟩ => ⟨items.length - (i + 1), by omega, F', μ', acc, vs, rfl, hlt, b1, b2, b3, b4, b5, b6, b7, b8⟩, fun x H2 hy => ?_⟩
      obtain ⟨F2, d, e2, o2, hx, wx⟩ := g2 x H2 hy
      have hdrop : items.drop i = d :: items.drop (i + 1) := by
        have hd := List.drop_eq_getElem_cons hlt
        rw [List.getElem?_eq_getElem hlt] at hx
        cases hx
        exact hd
      rw [hdrop] at q1
      have e02 := x1.trans e2
      have Rw : RelB K mg ⟨fun _ => none, fun _ => none, fun _ => none⟩ F2 (wipeD ρ vs0) μ1 (wipe σ vs0) H2 := (R0.step e02 o2).wipe _
      refine ⟨⟨fun _ => none, fun _ => none, fun _ => none⟩, F2, _, μ1, d, _, Rw, wx, q1.2, fun ρ3 σ3 R3 l3 f3 q3 => ⟨?_, ?_⟩⟩
      · have z := wipe_eq (σ := wipe σ vs0) (σ' := σ3) (vs := vs0) l3 fun j hj => f3 j fun hn => hj (hns j hn)
        rw [z]
        exact wipe_eq (wipe_length _ _) fun j hj => wipe_get hj
      · obtain ⟨hL2, fL2, mL2⟩ := e2.keep L _ h1 m1
        refine ⟨F2, ρ3, μ1, _, R3.rel, q3, fun b F4 μ4 H4 e4 o4 q4 => ?_⟩
        obtain ⟨hL4, fL4, mL4⟩ := e4.keep L _ hL2 m1
        cases b with
        | false =>
          exact ⟨F4, μ4, acc, vs, (hF.trans e2.mono).trans e4.mono, e02.trans e4, o4, fL4.trans (fL2.trans f1), mL4, hL4, w1.mono (FLe.trans e2.mono e4.mono), q4⟩
        | true =>
          refine ⟨F4, ρ3, μ4, _, R3.rel.ext e4 o4, q4, fun y F5 μ5 H5 dy e5 o5 w5 q5 => ?_⟩
          obtain ⟨hL5, fL5, mL5⟩ := e5.keep L _ hL4 mL4
          have fn : F5 L = none := fL5.trans (fL4.trans (fL2.trans f1))
          refine ⟨vs, hL5, by rw [w1.length, sizeLine_eq]; exact q5.1, F5, μ5, _, _, ((hF.trans e2.mono).trans e4.mono).trans e5.mono, ?_, o5.writeN fn mL5 _, fn, mL5, upd_same, (w1.mono ((FLe.trans e2.mono e4.mono).trans e5.mono)).append (.one w5), q5.2⟩
          have ee := e02.trans (e4.trans e5)
          refine ⟨ee.mono, fun a o z n => ?_, fun a z => ee.live a (upd_live a z)⟩
          obtain ⟨b1, b2, b3⟩ := ee.keep a o z n
          have ha : a ≠ L := fun q => by subst q; rw [hL] at z; cases z
          exact ⟨by rw [upd_ne ha]; exact b1, b2, b3⟩
    · have : i = items.length := by omega
      subst this
      refine .inl ⟨hstop rfl, ?_⟩
      rw [List.drop_length] at q1
      exact k L vs F1 μ1 H1 acc (e0.trans x1) ok1 (e0.live L hL) f1 m1 h1 w1 q1.2

section
variable {elt iter : Expr} {ifs : List Expr} {scope : Scope} {own : List (Str × Nat)} {ns : List Nat} {src : TSrc} {g : TGD} {c : TTD} {el : TED}
theorem df_lc (hc : X.calm = true) (hN : X.N.Nodup) (hi : DI X tg iter src) (ok : BlkOk X.N X.env.scope scope own)
    (hns : ∀ j ∈ ns, j ∈ own.map (·.2))
    (hg : ∀ (s : Shared) (H : Hp) (C : Addr) (cl : List (Str × Addr)) (fp : List Addr) (B : Bs), DG (X.blk s H scope (compEnvC scope cl C X.env) fp) B tg ns g) (ht : ∀ (s : Shared) (H : Hp) (C : Addr) (cl : List (Str × Addr)) (fp : List Addr), DTs (X.blk s H scope (compEnvC scope cl C X.env) fp) ifs c)
    (he : ∀ (s : Shared) (H : Hp) (C : Addr) (cl : List (Str × Addr)) (fp : List Addr), DE (X.blk s H scope (compEnvC scope cl C X.env) fp) elt el) (hs : ∀ x, foldedSetIterable iter X.env x = pure x := by intro _; rfl) :
    DF X (.ListComp elt [⟨tg, iter, ifs, 0⟩] scope pos) (dLc (own.map (·.2)) src g c el) :=
  (pe_lc (g := fun v σ H Q => ∃ B, liftG X.K X.mg B ns g v σ H Q) (tt := liftT X.K X.mg c) (te := liftE X.K X.mg el) hc hN hi ok (fun s H C cl fp => ⟨fun pins s' σ H' v u Q I r ⟨B, q⟩ => (hg s H C cl fp B).run pins s' σ H' v u Q I r q⟩)
    (fun s H C cl fp => (ht s H C cl fp).run) he hs).weaken fun _ _ _ q => lc_weak hns q
/-- a result: a value, or a new list that nobody knows -/
abbrev TRD := DEnv → Sto → (DS → Sto → Prop) → Prop
@[simp] def dVal (d : TED) : TRD := fun ρ μ Q => d ρ μ fun x μ1 => Q (.val x) μ1
@[simp] def dOwn (d : TFD) : TRD := fun ρ μ Q => d ρ μ fun xs μ1 => Q (.own xs) μ1
/-- .. as it lies in the heap; it is not known ahead -/
def ROk (K : PySem.W.Frag) (mg : Str → Option Value) (H F' : Hp) (μ' : Sto) (H' : Hp) (v : V) : DS → Prop
  | .val d => Dt K mg F' v d
  | .own xs => ∃ p vs, v = .ref p ∧ H p = none ∧ F' p = none ∧ μ' p = none ∧ H' p = some (.lst vs) ∧ Dts K mg F' vs xs
def liftR (K : PySem.W.Frag) (mg : Str → Option Value) (d : TRD) : TE := fun σ H Q => ∃ F ρ μ Qd, Rel K mg F ρ μ σ H ∧ d ρ μ Qd ∧ ∀ v F' μ' H' s, Ext F μ H F' μ' H' → Ok K mg F' μ' H' → ROk K mg H F' μ' H' v s → Qd s μ' → Q v H'
abbrev DR (X : Cx) (e : Expr) (d : TRD) : Prop := PE X e (liftR X.K X.mg d)
theorem dr_E {d : TED} (h : DE X e d) : DR X e (dVal d) := h.weaken fun σ H Q q => by
  obtain ⟨F, ρ, μ, Qd, R, hd, k⟩ := q
  exact ⟨F, ρ, μ, _, R, hd, fun v F' μ' H' dv e o w q => k v F' μ' H' (.val dv) e o w q⟩
theorem dr_F {d : TFD} (h : DF X e d) : DR X e (dOwn d) := h.weaken fun σ H Q q => by
  obtain ⟨F, ρ, μ, Qd, R, hd, k⟩ := q
  exact ⟨F, ρ, μ, _, R, hd, fun p vs F' μ' H' ds e o h1 h2 h3 h4 h5 q => k _ F' μ' H' (.own ds) e o ⟨p, vs, rfl, h1, h2, h3, h4, h5⟩ q⟩
/-- a result is stored -/
theorem RelB.setR {K : PySem.W.Frag} {mg : Str → Option Value} {B : Bs} {F F' H H' : Hp} {μ μ' : Sto} {ρ : DEnv} {σ : L2.St} {i : Nat} {v : V} {s : DS} (R : RelB K mg B F ρ μ σ H) (R' : RelB K mg B F' ρ μ' σ H') (h : ROk K mg H F' μ' H' v s) :
    RelB K mg B F' (ρ.set i (some s)) μ' (σ.set i (some v)) H' := by
  cases s with
  | val d => exact R'.set h
  | own xs =>
    obtain ⟨p, vs, rfl, h1, h2, h3, h4, h5⟩ := h
    refine R'.setOwn h2 h3 h4 h5 (R.ext.live p h1) fun j ys hj e1 e2 => ?_
    obtain ⟨v, g1, a, us, rfl, g2, g3, g4, g5⟩ := R.rel.slot j _ e1
    rw [g1] at e2
    cases e2
    rw [h1] at g4
    cases g4
@[simp] def dSetR (i : Nat) (d : TRD) : TSD := fun E ρ μ => d ρ μ fun s μ1 => E.nx (ρ.set i (some s)) μ1
theorem ds_setR {B : Bs} {i : Nat} {x : Str} {d : TRD} (h : ∀ te, PE X e te → PS X (.Assign [.Name x p] e pos) (tAsg te (gName i))) (he : DR X e d) : DSt X B (.Assign [.Name x p] e pos) (dSetR i d) := (h _ he).weaken fun D σ H h => by
  obtain ⟨F, ρ, μ, Dd, R, hd, kn, kb, kc, kr⟩ := h
  exact ⟨F, ρ, μ, _, R.rel, hd, fun v F' μ' H' s e o w q => kn F' _ μ' _ H' e.mono (R.setR (R.step e o) w) q⟩
/-- x = [..], on one line, x no cell -/
theorem ds_setLc {B : Bs} {i : Nat} {y : Str} {py spos : Pos} (hc : X.calm = true) (hN : X.N.Nodup) (hy : X.N[i]? = some y) (hyl : X.env.scope.names.lookup y = some .local)
    (hsw : swapsWith (.ListComp elt [⟨tg, iter, ifs, 0⟩] scope pos) (some (.Name y py)) spos.line X.env = pure true) (hi : DI X tg iter src) (ok : BlkOk X.N X.env.scope scope own) (hns : ∀ j ∈ ns, j ∈ own.map (·.2))
    (hg : ∀ (s : Shared) (H : Hp) (C : Addr) (cl : List (Str × Addr)) (fp : List Addr) (B : Bs), DG (X.blk s H scope (compEnvC scope cl C X.env) fp) B tg ns g) (ht : ∀ (s : Shared) (H : Hp) (C : Addr) (cl : List (Str × Addr)) (fp : List Addr), DTs (X.blk s H scope (compEnvC scope cl C X.env) fp) ifs c)
    (he : ∀ (s : Shared) (H : Hp) (C : Addr) (cl : List (Str × Addr)) (fp : List Addr), DE (X.blk s H scope (compEnvC scope cl C X.env) fp) elt el) (hs : ∀ x, foldedSetIterable iter X.env x = pure x := by intro _; rfl)
    {rd : TRD} (hr : ∀ K mg σ H Q, liftR K mg rd σ H Q → liftF K mg (dLc (own.map (·.2)) src g c el) σ H Q) :
    DSt X B (.Assign [.Name y py] (.ListComp elt [⟨tg, iter, ifs, 0⟩] scope pos) spos) (dSetR i rd) :=
  (ps_setLc (g := fun v σ H Q => ∃ B, liftG X.K X.mg B ns g v σ H Q) (tt := liftT X.K X.mg c) (te := liftE X.K X.mg el) hc hN hy hyl hsw hi ok (fun s H C cl fp => ⟨fun pins s' σ H' v u Q I r ⟨B, q⟩ => (hg s H C cl fp B).run pins s' σ H' v u Q I r q⟩)
    (fun s H C cl fp => (ht s H C cl fp).run) he hs).weaken fun D σ H h => by
  obtain ⟨F, ρ, μ, Dd, R, hd, kn, kb, kc, kr⟩ := h
  refine lc_weak hns (hr _ _ _ _ _ ⟨F, ρ, μ, _, R.rel, hd, fun v F' μ' H' s e o w q => ?_⟩)
  exact kn F' _ μ' _ H' e.mono (R.setR (R.step e o) w) q
theorem lr_val {K : PySem.W.Frag} {mg : Str → Option Value} {d : TFD} {σ : L2.St} {H : Hp} {Q : VK} (q : liftR K mg (dVal (dF d)) σ H Q) : liftF K mg d σ H Q := by
  obtain ⟨F, ρ, μ, Qd, R, hd, k⟩ := q
  refine ⟨F, ρ, μ, _, R, hd, fun p vs F' μ' H' ds e o hn hf hm hh w q => ?_⟩
  have mono : FLe F' (upd F' p (.lst vs)) := fun a x z => by rw [upd_ne (ne_of_none z hf)]; exact z
  refine k _ (upd F' p (.lst vs)) μ' H' (.val (.lst ds)) ⟨fun a x z => mono a x (e.mono a x z), fun a x z n => ?_, e.live⟩ (o.freeze hf hm hh) (.lst upd_same (w.mono mono)) q
  obtain ⟨g1, g2, g3⟩ := e.keep a x z n
  have ha : a ≠ p := fun q => by subst q; rw [hn] at z; cases z
  exact ⟨g1, by rw [upd_ne ha]; exact g2, g3⟩
/-- x, y = a, b -/
@[simp] def dPar2 (i j : Nat) (a b : TRD) : TSD := fun E ρ μ => a ρ μ fun s μ1 => b ρ μ1 fun t μ2 => E.nx ((ρ.set i (some s)).set j (some t)) μ2
theorem ROk.ext {K : PySem.W.Frag} {mg : Str → Option Value} {H F H1 F2 H2 : Hp} {μ μ2 : Sto} {v : V} {s : DS} (h : ROk K mg H F μ H1 v s) (e : Ext F μ H1 F2 μ2 H2) : ROk K mg H F2 μ2 H2 v s := by
  cases s with
  | val d => exact Dt.mono e.mono h
  | own xs =>
    obtain ⟨p, vs, rfl, h1, h2, h3, h4, h5⟩ := h
    obtain ⟨g1, g2, g3⟩ := e.keep p _ h4 h3
    exact ⟨p, vs, rfl, h1, g2.trans h2, g3, g1, h5.mono e.mono⟩
/-- two results are stored, one behind the other -/
theorem RelB.setR2 {K : PySem.W.Frag} {mg : Str → Option Value} {B : Bs} {F F1 F2 H H1 H2 : Hp} {μ μ1 μ2 : Sto} {ρ ρ' : DEnv} {σ σ' : L2.St} {i : Nat} {v : V} {s : DS} (R : RelB K mg B F ρ μ σ H) (e1 : Ext F μ H F1 μ1 H1) (R' : RelB K mg B F2 ρ' μ2 σ' H2) (h : ROk K mg H1 F2 μ2 H2 v s)
    (old : ∀ (j : Nat) (xs : List D) (p : Addr), ρ'[j]? = some (some (DS.own xs)) → σ'[j]? = some (some (.ref p)) → H1 p ≠ none) :
    RelB K mg B F2 (ρ'.set i (some s)) μ2 (σ'.set i (some v)) H2 := by
  cases s with
  | val d => exact R'.set h
  | own xs =>
    obtain ⟨p, vs, rfl, h1, h2, h3, h4, h5⟩ := h
    exact R'.setOwn h2 h3 h4 h5 (R.ext.live p (e1.live p h1)) fun j ys hj q1 q2 => old j ys p q1 q2 h1
theorem ds_par2 {B : Bs} {i j : Nat} {x y : Str} {a b : Expr} {da db : TRD} {px py pt : Pos} {kt k2 pt2} (hij : i ≠ j)
    (h : ∀ ta, PA X [a, b] ta → PS X (.Assign [.Tuple [.Name x px, .Name y py] kt pt] (.Tuple [a, b] k2 pt2) pos) (tPar i j ta)) (ha : DR X a da) (hb : DR X b db)
    (hs : starEach [a, b] X.env = (false, eval a X.env) :: starEach [b] X.env := by rfl) (hs2 : starEach [b] X.env = (false, eval b X.env) :: starEach [] X.env := by rfl) :
    DSt X B (.Assign [.Tuple [.Name x px, .Name y py] kt pt] (.Tuple [a, b] k2 pt2) pos) (dPar2 i j da db) := (h _ (pa_cons ha (pa_cons hb pa_nil hs2) hs)).weaken fun E σ H h => by
  obtain ⟨F, ρ, μ, Dd, R, hd, kn, kb, kc, kr⟩ := h
  refine ⟨F, ρ, μ, _, R.rel, hd, fun v F1 μ1 H1 s e1 o1 w1 q1 => ?_⟩
  refine ⟨F1, ρ, μ1, _, R.rel.ext e1 o1, q1, fun u F2 μ2 H2 t e2 o2 w2 q2 => ⟨v, u, rfl, ?_⟩⟩
  have e12 := e1.trans e2
  have R2 := R.step e12 o2
  have R3 := R.setR (i := i) R2 (w1.ext e2)
  refine kn F2 _ μ2 _ H2 e12.mono (R.setR2 e1 R3 w2 fun l xs p z1 z2 => ?_) q2
  by_cases hl : i = l
  · subst hl
    have hi : i < ρ.length := by
      have := (List.getElem?_eq_some_iff.mp z1).1
      rwa [List.length_set] at this
    rw [List.getElem?_set_self hi] at z1
    cases z1
    obtain ⟨p', vs, rfl, g1, g2, g3, g4, g5⟩ := w1
    rw [List.getElem?_set_self (by rw [← R.rel.len]; exact hi)] at z2
    cases z2
    rw [g4]
    exact fun z => nomatch z
  · rw [List.getElem?_set_ne hl] at z1 z2
    obtain ⟨p', vs, g1, g2, g3, g4, _⟩ := R.ownAt z1
    rw [g1] at z2
    cases z2
    rw [(e1.keep p _ g4 g3).1]
    exact fun z => nomatch z
end
end
end DL

namespace DL
open PySem PySem.Spec PyProof.Rows L2

/-- no repr of a list, tuple or dict runs around -/
abbrev Quiet (A : Around) : Prop := A.guards = some []
/-- a def's promise, where no repr runs around -/
structure FnG (P : Program) (w : World) (K : PySem.W.Frag) (mg : Str → Option Value) (base : Heap) (CX : CXT) (k : Nat) (f : Addr) (fd : FuncData) (ps : List Str) (sp : Sp) : Prop where
  len : ∀ vs H Q E, sp vs H Q E → vs.length = ps.length
  run : ∀ (A : Around) (outer : List Env) (s : Shared) (H : Hp) (args : Args) (us : List Value) (vs : List V) (Q : VK) (E : XK), Quiet A → Room k A → Env0 P w K mg base A outer s H →
    BindsTo s fd args (ps.zip us) → Vals vs us → sp vs H Q E → codeAny (model P w) A (.call (.ref f) args) (CR CX outer P w H s Q E) s
section
variable {P : Program} {w : World} {K : PySem.W.Frag} {mg : Str → Option Value} {base : Heap} {CX : CXT} {j k : Nat} {f : Addr} {fd : FuncData} {ps : List Str} {sp : Sp}
theorem FnG.mono (F : FnG P w K mg base CX j f fd ps sp) (h : j ≤ k) : FnG P w K mg base CX k f fd ps sp where
  len := F.len
  run := fun A outer s H args us vs Q E g r => F.run A outer s H args us vs Q E g (r.mono h)
theorem FnG.of {name qual : Str} {st : Stmt} {N : List Str} (D : Fun K name qual st f fd) (S : FnScope N ps (defScope st)) (len : ∀ vs H Q E, sp vs H Q E → vs.length = ps.length)
    (body : ∀ (cdv : Value) (A : Around) (outer : List Env) (s : Shared) (H : Hp) (vs : List V) (Q : VK) (E : XK), Quiet (A.deeper (envOfC qual (defScope st) s.heap.objs.size f cdv)) → Room k (A.deeper (envOfC qual (defScope st) s.heap.objs.size f cdv)) →
      sp vs H Q E → ∃ t, PSs (cxOf CX P w K mg base N qual (defScope st) f cdv A outer s H E) (defBody st) t ∧ t { nx := fun _ H' => Q .non H', rt := Q } (L2.start N vs) H) :
    FnG P w K mg base CX (k + 1) f fd ps sp := by
  obtain ⟨oc, od, kV, doc, pm, an, cdv, ct, osl, rfl, hk, hcode⟩ := D.ex
  refine ⟨len, ?_⟩
  intro A outer s H args us vs Q E quiet room env bind rel hsp
  have n := len _ _ _ _ hsp
  have kin : K.In s.heap := env.mod.kin.keeps (fun b o z => (env.bs b o z).1)
  have free : s.heap.NoLimit := env.mod.nolimit.keeps (fun b o z => (env.bs b o z).1)
  refine codeAny_call_function room.depth (kin _ _ hk) rfl S.co S.gen rfl (PySem.W.codeRec_of kin hcode) (bind _ _ _ _ ?_)
  have loc : ∀ y ∈ ps.zip us, (defScope st).names.lookup y.1 = some .local ∨ ((defScope st).names.lookup y.1 = some .cell ∧ ((cellsFrom (s.heap.objs.size + 1) (defScope st).names []).lookup y.1).isSome = true) := by
    intro y hy
    rcases S.par y.1 (List.of_mem_zip hy).1 with q | q
    · exact Or.inl q
    · exact Or.inr ⟨q, PySem.W.cellsFrom_some _ _ _ (Or.inl q)⟩
  refine wpAny_newFunctionEnv_cells S.kind loc ?_
  intro env' he s1 x
  subst he
  refine ⟨free.keeps x.toInCall.keep, codeAny_func ?_⟩
  obtain ⟨t, ht, hq⟩ := body cdv A outer s H vs Q E quiet (room.deeper _) hsp
  have I := inv_start (CX := CX) (E := E) S room.hd env n rel x
  refine wpAny_mono (ht.run [] s1 _ H _ I hq) ?_ (fun _ _ z => z)
  intro fl s' hs
  match fl, hs with
  | .ret u, ⟨v, σ', H', J, rv, q⟩ => exact ⟨v, H', J.os, J.bare, J.base, J.hok, rv, q⟩
  | .next, ⟨σ', H', J, q⟩ => exact ⟨V.non, H', J.os, J.bare, J.base, J.hok, rfl, q⟩
  | .brk, ⟨_, _, _, q⟩ => exact q.elim
  | .cont, ⟨_, _, _, q⟩ => exact q.elim
end

/-- an exception over data: its class, its fields -/
abbrev DXK := Str → List (Str × D) → Sto → Prop
abbrev DSp := List D → Sto → DK → DXK → Prop
/-- an exception of a class of the module, as the hand layer tells it -/
def XD (K : PySem.W.Frag) (mg : Str → Option Value) (H0 : Hp) (F : Hp) (μ : Sto) (H : Hp) (cv : Value) (od : Option Addr) (c : Str) (fs : List (Str × D)) : Prop :=
  ∃ C, cv = .ref C ∧ mg c = some (.ref C) ∧ ((od = none ∧ fs = []) ∨ ∃ d vfs, od = some d ∧ fs ≠ [] ∧ H0 d = none ∧ F d = none ∧ μ d = none ∧ H d = some (.xd vfs) ∧ vfs.map (·.1) = fs.map (·.1) ∧ Dts K mg F (vfs.map (·.2)) (fs.map (·.2)))
def liftP (K : PySem.W.Frag) (mg : Str → Option Value) (S : DSp) : Sp := fun vs H Q E => ∃ F μ ds Qd Ed, Ok K mg F μ H ∧ Dts K mg F vs ds ∧ S ds μ Qd Ed ∧
  (∀ v F' μ' H' dv, Ext F μ H F' μ' H' → Ok K mg F' μ' H' → Dt K mg F' v dv → Qd dv μ' → Q v H') ∧
  (∀ cv od F' μ' H' c fs, Ext F μ H F' μ' H' → Ok K mg F' μ' H' → XD K mg H F' μ' H' cv od c fs → Ed c fs μ' → E cv od H')
abbrev noD : DXK := fun _ _ _ => False
/-- a call by position, where no repr runs around -/
def FR (P : Program) (w : World) (K : PySem.W.Frag) (mg : Str → Option Value) (base : Heap) (CX : CXT) (k : Nat) (f : Addr) (sp : Sp) : Prop :=
  ∀ (A : Around) (outer : List Env) (s : Shared) (H : Hp) (us : List Value) (vs : List V) (Q : VK) (E : XK), Quiet A → Room k A → Env0 P w K mg base A outer s H → Vals vs us → sp vs H Q E → codeAny (model P w) A (.call (.ref f) ⟨us, []⟩) (CR CX outer P w H s Q E) s
theorem FnG.toR {P : Program} {w : World} {K : PySem.W.Frag} {mg : Str → Option Value} {base : Heap} {CX : CXT} {k : Nat} {f : Addr} {fd : FuncData} {ps : List Str} {sp : Sp} (F : FnG P w K mg base CX k f fd ps sp) (hb : Binds K fd ps []) : FR P w K mg base CX k f sp := by
  intro A outer s H us vs Q E quiet room env r h
  have kin : K.In s.heap := env.mod.kin.keeps (fun b o z => (env.bs b o z).1)
  have n : (us ++ []).length = ps.length := by rw [List.append_nil, ← r.length]; exact F.len _ _ _ _ h
  have b := hb s us kin n
  rw [List.append_nil] at b
  exact F.run A outer s H ⟨us, []⟩ us vs Q E quiet room env b r h
/-- the def x of the module keeps the promise S, by at most level k -/
structure Cal (P : Program) (w : World) (K : PySem.W.Frag) (mg : Str → Option Value) (base : Heap) (CX : CXT) (k : Nat) (x : Str) (S : DSp) : Prop where
  ex : ∃ f, FR P w K mg base CX k f (liftP K mg S) ∧ mg x = some (.ref f) ∧ PySem.W.keepIn K (.ref f) = true
theorem Cal.mono {P : Program} {w : World} {K : PySem.W.Frag} {mg : Str → Option Value} {base : Heap} {CX : CXT} {j k : Nat} {x : Str} {S : DSp} (c : Cal P w K mg base CX j x S) (h : j ≤ k) : Cal P w K mg base CX k x S := by
  obtain ⟨f, F, r⟩ := c.ex
  exact ⟨f, fun A outer s H us vs Q E q rm => F A outer s H us vs Q E q (rm.mono h), r⟩
theorem Cal.imp {P : Program} {w : World} {K : PySem.W.Frag} {mg : Str → Option Value} {base : Heap} {CX : CXT} {k : Nat} {x : Str} {S S' : DSp} (c : Cal P w K mg base CX k x S) (h : ∀ ds μ Q E, S' ds μ Q E → S ds μ Q E) : Cal P w K mg base CX k x S' := by
  obtain ⟨f, F, r⟩ := c.ex
  have go : ∀ vs H Q E, liftP K mg S' vs H Q E → liftP K mg S vs H Q E := fun vs H Q E ⟨F, μ, ds, Qd, Ed, h1, h2, h3, h4⟩ => ⟨F, μ, ds, Qd, Ed, h1, h2, h _ _ _ _ h3, h4⟩
  exact ⟨f, fun A outer s H us vs Q E q rm e v z => F A outer s H us vs Q E q rm e v (go _ _ _ _ z), r⟩
/-- the slots at the entry -/
@[simp] def startD (n : Nat) (ds : List D) : DEnv := ds.map (fun d => some (.val d)) ++ List.replicate (n - ds.length) none
theorem start_rel {K : PySem.W.Frag} {mg : Str → Option Value} {F H : Hp} {μ : Sto} {vs : List V} {ds : List D} {N : List Str} (o : Ok K mg F μ H) (r : Dts K mg F vs ds) : RelB K mg ⟨F, μ, H⟩ F (startD N.length ds) μ (L2.start N vs) H := by
  have noOwn : ∀ (i : Nat) (xs : List D), (startD N.length ds)[i]? ≠ some (some (DS.own xs)) := fun i xs e => by
    unfold startD at e
    by_cases hi : i < ds.length
    · rw [List.getElem?_append_left (by simpa using hi), List.getElem?_map] at e
      cases z : ds[i]? with
      | none => rw [z] at e; cases e
      | some d => rw [z] at e; cases e
    · rw [List.getElem?_append_right (by simpa using hi), List.getElem?_replicate] at e
      split at e <;> cases e
  refine ⟨⟨o, ?_, fun i s e => ?_, fun i j xs ys e1 _ _ => absurd e1 (noOwn i xs)⟩, .refl, fun i xs a e _ => absurd e (noOwn i xs)⟩
  · unfold startD L2.start
    rw [List.length_append, List.length_append, List.length_map, List.length_map, List.length_replicate, List.length_replicate, r.length]
  · unfold startD at e
    by_cases hi : i < ds.length
    · rw [List.getElem?_append_left (by simpa using hi), List.getElem?_map] at e
      cases z : ds[i]? with
      | none => rw [z] at e; cases e
      | some d =>
        rw [z] at e; cases e
        obtain ⟨v, h1, h2⟩ := r.get z
        refine ⟨v, ?_, h2⟩
        unfold L2.start
        rw [List.getElem?_append_left (by rw [List.length_map, r.length]; exact hi), List.getElem?_map, h1]
        rfl
    · rw [List.getElem?_append_right (by simpa using hi), List.getElem?_replicate] at e
      split at e <;> cases e
section
variable {P : Program} {w : World} {K : PySem.W.Frag} {mg : Str → Option Value} {base : Heap} {k n : Nat} {f : Addr} {fd : FuncData} {ps : List Str} {S : DSp}
/-- a def that raises nothing, by its body over data -/
theorem FnG.ofD {name qual : Str} {st : Stmt} {N : List Str} (D : Fun K name qual st f fd) (Sc : FnScope N ps (defScope st)) (len : ∀ ds μ Q E, S ds μ Q E → ds.length = ps.length) (d : TSD)
    (hd : ∀ ds μ Q E, S ds μ Q E → d { nx := fun _ μ' => Q .non μ', rt := Q } (startD N.length ds) μ)
    (body : ∀ (cdv : Value) (A : Around) (outer : List Env) (s : Shared) (H : Hp) (E : XK) (B : Bs), Quiet (A.deeper (envOfC qual (defScope st) s.heap.objs.size f cdv)) → Room k (A.deeper (envOfC qual (defScope st) s.heap.objs.size f cdv)) →
      DSs (cxOf L2.CX0 P w K mg base N qual (defScope st) f cdv A outer s H E).nox B (defBody st) d) : FnG P w K mg base L2.CX0 (k + 1) f fd ps (liftP K mg S) := by
  refine FnG.of D Sc ?_ ?_
  · rintro vs H Q E ⟨F, μ, ds, Qd, Ed, _, h2, h3, _⟩
    exact h2.length.trans (len _ _ _ _ h3)
  · rintro cdv A outer s H vs Q E quiet room ⟨F, μ, ds, Qd, Ed, h1, h2, h3, h4, h5⟩
    refine ⟨_, PSs.nox (body cdv A outer s H E ⟨F, μ, H⟩ quiet room), ?_⟩
    refine ⟨F, startD N.length ds, μ, { nx := fun _ μ' => Qd .non μ', rt := Qd }, start_rel h1 h2, hd _ _ _ _ h3, ?_, fun _ _ _ _ _ _ _ z => z.elim, fun _ _ _ _ _ _ _ z => z.elim, ?_⟩
    · exact fun F' ρ' μ' σ' H' _ R q => h4 .non F' μ' H' .non R.ext R.rel.ok .non q
    · exact h4
theorem Cal.of {x : Str} (F : FnG P w K mg base L2.CX0 k f fd ps (liftP K mg S)) (hx : mg x = some (.ref f)) (hk : PySem.W.keepIn K (.ref f) = true) (hb : Binds K fd ps []) : Cal P w K mg base L2.CX0 k x S := ⟨f, F.toR hb, hx, hk⟩
end
section
variable {X : Cx} {k : Nat} {x : Str} {S : DSp} {e : Expr} {es : List Expr} {t : TAD} {p pos : Pos} {CX : CXT}
@[simp] def dCall (S : DSp) (t : TAD) (E : DXK) : TED := fun ρ μ Q => t ρ μ fun ds μ1 => S ds μ1 Q E
/-- the callee runs -/
theorem run_g {f : Addr} {sp : Sp} {E : XK} {pins : List (Addr × Obj)} {σ : L2.St} {H : Hp} {s : Shared} {Q : VK} {us : List Value} {vs : List V} (F : FR X.prog X.w X.K X.mg X.base CX k f sp) (quiet : Quiet X.A) (room : Room k X.A)
    (hx : Passes CX X E) (I : Inv X pins σ H s) (r : Vals vs us) (h : sp vs H Q E) : wpAny (model X.prog X.w) X.A (call (.ref f) us) (EP X pins σ Q) X.xe s := by
  refine wpAny_call (codeAny_mono (F X.A X.stack s H us vs Q E quiet room I.env0 r h) ?_)
  intro z s' hz
  match z, hz with
  | .error e, hz => exact hx pins σ H s e s' I hz
  | .ok (.ret u), hz => exact I.after hz
theorem de_call (c : Cal X.prog X.w X.K X.mg X.base L2.CX0 k x S) (quiet : Quiet X.A) (room : Room k X.A) (hg : Gl X x) (ha : DA X (e :: es) t) (hdb : (x == ("__debug__" : Str)) = false := by decide)
    (he : starEach (e :: es) X.env = (false, eval e X.env) :: starEach es X.env := by rfl) (hpl : (backTo pos (starEach es X.env)).any (·.1) = false := by rfl) : DE X (.Call (.Name x p) (e :: es) [] pos) (dCall S t noD) := by
  obtain ⟨f, F, hm, hk⟩ := c.ex
  refine ⟨fun pins s σ H Q I h => ?_⟩
  obtain ⟨F0, ρ, μ, Qd, R, hd, kk⟩ := h
  refine wpAny_Call_Name_kw (ld_glob I hg hm ?_ hdb)
  refine PySem.W.callWith_K (h₀ := X.base) I.ok.mod.kin hk (thn (ha.run pos pins s σ H (fun vs H1 => liftP X.K X.mg S vs H1 Q L2.E0) I ⟨F0, ρ, μ, _, R, hd, fun vs F1 μ1 H1 ds e1 o1 w1 q1 => ?_⟩) fun us s1 ⟨vs, H1, I1, r, q⟩ => ⟨I1.kIn, ?_⟩) he hpl
  · exact ⟨F1, μ1, ds, Qd, noD, o1, w1, q1, fun v F' μ' H' dv e o w q => kk v F' μ' H' dv (e1.trans e) o w q, fun _ _ _ _ _ _ _ _ _ _ z => z.elim⟩
  · exact run_g F quiet room L2.pass0 I1 r q
end
end DL

namespace DL
open PySem PySem.Spec PyProof.Rows L2
abbrev RDn := List D → Sto → DK → Prop
def CallS (K : PySem.W.Frag) (mg : Str → Option Value) (r : List V → Hp → VK → Prop) (rd : RDn) : Prop :=
  ∀ (F : Hp) (μ : Sto) (H : Hp) (vs : List V) (ds : List D) (Qd : DK) (Q : VK), Ok K mg F μ H → Wks K mg F μ H vs ds → rd ds μ Qd →
    (∀ v F' μ' H' dv, Ext F μ H F' μ' H' → Ok K mg F' μ' H' → Dt K mg F' v dv → Qd dv μ' → Q v H') → r vs H Q
@[simp] def dFn (rd : RDn) (t : TAD) : TED := fun ρ μ Q => t ρ μ fun ds μ1 => rd ds μ1 Q
section
variable {X : Cx} {x : Str} {p pos : Pos} {e : Expr} {es : List Expr} {t : TAD} {id T : String} {r : List V → Hp → VK → Prop} {rd : RDn}
theorem lift_fn {K : PySem.W.Frag} {mg : Str → Option Value} (hs : CallS K mg r rd) {σ : L2.St} {H : Hp} {Q : VK} (h : liftE K mg (dFn rd t) σ H Q) : tCB r (liftAW K mg t) σ H Q := by
  obtain ⟨F, ρ, μ, Qd, R, hd, k⟩ := h
  exact ⟨F, ρ, μ, _, R, hd, fun vs F1 μ1 H1 ds e1 o1 w1 q1 => hs F1 μ1 H1 vs ds Qd Q o1 w1 q1 fun v F2 μ2 H2 dv e2 o2 w2 q2 => k v F2 μ2 H2 dv (e1.trans e2) o2 w2 q2⟩
theorem de_fnB (hc : CallR X (.builtin id) r) (hs : CallS X.K X.mg r rd) (hg : Gl X x) (hm : X.mg x = none) (hv : bootBuiltins x = some (.builtin id)) (ha : DAW X (e :: es) t) (hn : x ≠ "__name__" := by decide) (hdb : (x == ("__debug__" : Str)) = false := by decide)
    (he : starEach (e :: es) X.env = (false, eval e X.env) :: starEach es X.env := by rfl) (hpl : (backTo pos (starEach es X.env)).any (·.1) = false := by rfl) : DE X (.Call (.Name x p) (e :: es) [] pos) (dFn rd t) :=
  (pe_callB hc hg hm hv ha hn hdb he hpl).weaken fun _ _ _ q => lift_fn hs q
theorem de_fnT (hc : CallR X (.type T) r) (hs : CallS X.K X.mg r rd) (hg : Gl X x) (hm : X.mg x = none) (hv : bootBuiltins x = some (.type T)) (ha : DAW X (e :: es) t) (hn : x ≠ "__name__" := by decide) (hdb : (x == ("__debug__" : Str)) = false := by decide)
    (he : starEach (e :: es) X.env = (false, eval e X.env) :: starEach es X.env := by rfl) (hpl : (backTo pos (starEach es X.env)).any (·.1) = false := by rfl) : DE X (.Call (.Name x p) (e :: es) [] pos) (dFn rd t) :=
  (pe_callTy hc hg hm hv ha hn hdb he hpl).weaken fun _ _ _ q => lift_fn hs q
end
section
variable {K : PySem.W.Frag} {mg : Str → Option Value} {F H : Hp} {μ : Sto}
theorem Wks.one {vs : List V} {d : D} (h : Wks K mg F μ H vs [d]) : ∃ v, vs = [v] ∧ Wk K mg F μ H v d := by
  cases h with
  | cons a b => cases b; exact ⟨_, rfl, a⟩
theorem Wks.two {vs : List V} {d e : D} (h : Wks K mg F μ H vs [d, e]) : ∃ v w, vs = [v, w] ∧ Wk K mg F μ H v d ∧ Wk K mg F μ H w e := by
  cases h with
  | cons a b =>
    obtain ⟨w, rfl, c⟩ := b.one
    exact ⟨_, _, rfl, a, c⟩
def refLst (μ : Sto) (a : Addr) : Option (List D) := match μ a with
  | some (.lst xs) => some xs
  | _ => none
theorem refLst_some {a : Addr} {xs : List D} (h : refLst μ a = some xs) : μ a = some (.lst xs) := by
  unfold refLst at h
  split at h
  · rename_i ys hy
    cases h
    exact hy
  · cases h
/-- a list that is read: as a value, the frame's own, the script, one that changes -/
@[simp] def lstOf (μ : Sto) : D → Option (List D)
  | .lst xs => some xs
  | .scr ns => some (ns.map D.int)
  | .ref a => refLst μ a
  | _ => none
/-- .. or a tuple -/
@[simp] def seqOf (μ : Sto) : D → Option (List D)
  | .tup xs => some xs
  | d => lstOf μ d
theorem Wk.list (o : Ok K mg F μ H) {v : V} {d : D} {xs : List D} (h : Wk K mg F μ H v d) (q : lstOf μ d = some xs) : ∃ a vs, v = .ref a ∧ SqL K H a vs ∧ Dts K mg F vs xs := by
  cases d <;> first | cases q; done | skip
  · cases q
    obtain ⟨a, vs, rfl, ha, r⟩ := h.lst o
    exact ⟨a, vs, rfl, .inl (.inl ha), r⟩
  · cases q
    obtain ⟨a, rfl, ha⟩ := h.scr o
    exact ⟨a, _, rfl, ha, Dts.ofInts _⟩
  · have q' := refLst_some q
    cases h.ref
    obtain ⟨vs, ha, r⟩ := o.sto _ _ q'
    exact ⟨_, vs, rfl, .inl (.inl ha), r⟩
theorem Wk.seq (o : Ok K mg F μ H) {v : V} {d : D} {xs : List D} (h : Wk K mg F μ H v d) (q : seqOf μ d = some xs) : ∃ a vs, v = .ref a ∧ (SqL K H a vs ∨ SqT K H a vs) ∧ Dts K mg F vs xs := by
  have other : ∀ q' : lstOf μ d = some xs, ∃ a vs, v = .ref a ∧ (SqL K H a vs ∨ SqT K H a vs) ∧ Dts K mg F vs xs := fun q' => by
    obtain ⟨a, vs, e, ha, r⟩ := h.list o q'
    exact ⟨a, vs, e, .inl ha, r⟩
  cases d with
  | tup ys =>
    cases q
    obtain ⟨a, vs, rfl, ha, _, r⟩ := h.tup o
    exact ⟨a, vs, rfl, .inr ha, r⟩
  | _ => exact other q

def rdLen : RDn
  | [.str s], μ, Q => s.length ≤ SZ ∧ Q (.int s.length) μ
  | [d], μ, Q => ∃ xs, seqOf μ d = some xs ∧ Q (.int xs.length) μ
  | _, _, _ => False
@[simp] theorem rdLen_1 : rdLen  [.str s0] μ0 Q0 = (s0.length ≤ SZ ∧ Q0 (.int s0.length) μ0) := rfl
@[simp] theorem rdLen_2 : rdLen  [.tup zs0] μ0 Q0 = (∃ xs, seqOf μ0 (.tup zs0) = some xs ∧ Q0 (.int xs.length) μ0) := rfl
@[simp] theorem rdLen_3 : rdLen  [.lst zs0] μ0 Q0 = (∃ xs, seqOf μ0 (.lst zs0) = some xs ∧ Q0 (.int xs.length) μ0) := rfl
@[simp] theorem rdLen_4 : rdLen  [.scr zs0] μ0 Q0 = (∃ xs, seqOf μ0 (.scr zs0) = some xs ∧ Q0 (.int xs.length) μ0) := rfl
@[simp] theorem rdLen_5 : rdLen  [.ref za0] μ0 Q0 = (∃ xs, seqOf μ0 (.ref za0) = some xs ∧ Q0 (.int xs.length) μ0) := rfl
def rLenA (K : PySem.W.Frag) : List V → Hp → VK → Prop := fun xs H Q => (∃ p ys, xs = [.ref p] ∧ (SqL K H p ys ∨ SqT K H p ys) ∧ Q (.int ys.length) H) ∨ (∃ z, xs = [.str z] ∧ z.length ≤ sizeLine ∧ Q (.int z.length) H)
theorem call_lenA {X : Cx} : CallR X (.builtin "len") (rLenA X.K) := .or call_len_seq call_len_str
theorem cs_len : CallS K mg (rLenA K) rdLen := by
  intro F μ H vs ds Qd Q o w h k
  unfold rdLen at h
  split at h
  · obtain ⟨v, rfl, wk⟩ := w.one
    refine .inr ⟨_, by rw [wk.str], by rw [S_len, sizeLine_eq]; exact h.1, ?_⟩
    rw [S_len]
    exact fin0 o k (.int _) h.2
  · obtain ⟨v, rfl, wk⟩ := w.one
    obtain ⟨xs, hx, h⟩ := h
    obtain ⟨a, us, rfl, ha, r⟩ := wk.seq o hx
    refine .inl ⟨a, us, rfl, ha, ?_⟩
    rw [r.length]
    exact fin0 o k (.int _) h
  · exact h.elim
def rdAbs : RDn
  | [.int i], μ, Q => Q (.int (if i < 0 then -i else i)) μ
  | _, _, _ => False
@[simp] theorem rdAbs_1 : rdAbs  [.int i0] μ0 Q0 = (Q0 (.int (if i0 < 0 then -i0 else i0)) μ0) := rfl
theorem cs_abs : CallS K mg (fun xs H Q => ∃ i, xs = [.int i] ∧ Q (.int (if i < 0 then -i else i)) H) rdAbs := by
  intro F μ H vs ds Qd Q o w h k
  unfold rdAbs at h
  split at h
  · obtain ⟨v, rfl, wk⟩ := w.one
    exact ⟨_, by rw [wk.int], fin0 o k (.int _) h⟩
  · exact h.elim
def rdInt : RDn
  | [.int i], μ, Q => Q (.int i) μ
  | [.bl k], μ, Q => Q (.int (if k then 1 else 0)) μ
  | _, _, _ => False
@[simp] theorem rdInt_1 : rdInt  [.int i0] μ0 Q0 = (Q0 (.int i0) μ0) := rfl
@[simp] theorem rdInt_2 : rdInt  [.bl k0] μ0 Q0 = (Q0 (.int (if k0 then 1 else 0)) μ0) := rfl
theorem cs_int : CallS K mg (fun xs H Q => (∃ i, xs = [.int i] ∧ Q (.int i) H) ∨ ∃ k, xs = [.bl k] ∧ Q (.int (if k then 1 else 0)) H) rdInt := by
  intro F μ H vs ds Qd Q o w h k
  unfold rdInt at h
  split at h
  · obtain ⟨v, rfl, wk⟩ := w.one
    exact .inl ⟨_, by rw [wk.int], fin0 o k (.int _) h⟩
  · obtain ⟨v, rfl, wk⟩ := w.one
    exact .inr ⟨_, by rw [wk.bl], fin0 o k (.int _) h⟩
  · exact h.elim
def rdTuple : RDn
  | [.tup xs], μ, Q => Q (.tup xs) μ
  | [d], μ, Q => ∃ xs, lstOf μ d = some xs ∧ Q (.tup xs) μ
  | _, _, _ => False
@[simp] theorem rdTuple_1 : rdTuple  [.tup xs0] μ0 Q0 = (Q0 (.tup xs0) μ0) := rfl
@[simp] theorem rdTuple_2 : rdTuple  [.lst zs0] μ0 Q0 = (∃ xs, lstOf μ0 (.lst zs0) = some xs ∧ Q0 (.tup xs) μ0) := rfl
@[simp] theorem rdTuple_3 : rdTuple  [.scr zs0] μ0 Q0 = (∃ xs, lstOf μ0 (.scr zs0) = some xs ∧ Q0 (.tup xs) μ0) := rfl
@[simp] theorem rdTuple_4 : rdTuple  [.ref za0] μ0 Q0 = (∃ xs, lstOf μ0 (.ref za0) = some xs ∧ Q0 (.tup xs) μ0) := rfl
theorem cs_tuple : CallS K mg (rTupZ K) rdTuple := by
  intro F μ H vs ds Qd Q o w h k
  unfold rdTuple at h
  split at h
  · obtain ⟨v, rfl, wk⟩ := w.one
    obtain ⟨a, us, rfl, ha, hf, r⟩ := wk.tup o
    exact ⟨a, us, rfl, .inr ⟨ha, fin0 o k (.tup hf r) h⟩⟩
  · obtain ⟨v, rfl, wk⟩ := w.one
    obtain ⟨xs, hx, h⟩ := h
    obtain ⟨a, us, rfl, ha, r⟩ := wk.list o hx
    refine ⟨a, us, rfl, .inl ⟨ha, fun l ob hl hob => ?_⟩⟩
    obtain ⟨g1, g2, g3⟩ := newTup o r hl hob
    exact k _ _ _ _ _ g1 g2 g3 h
  · exact h.elim
def rdList : RDn
  | [d], μ, Q => ∃ xs, seqOf μ d = some xs ∧ Q (.lst xs) μ
  | _, _, _ => False
@[simp] theorem rdList_1 : rdList  [.tup zs0] μ0 Q0 = (∃ xs, seqOf μ0 (.tup zs0) = some xs ∧ Q0 (.lst xs) μ0) := rfl
@[simp] theorem rdList_2 : rdList  [.lst zs0] μ0 Q0 = (∃ xs, seqOf μ0 (.lst zs0) = some xs ∧ Q0 (.lst xs) μ0) := rfl
@[simp] theorem rdList_3 : rdList  [.scr zs0] μ0 Q0 = (∃ xs, seqOf μ0 (.scr zs0) = some xs ∧ Q0 (.lst xs) μ0) := rfl
@[simp] theorem rdList_4 : rdList  [.ref za0] μ0 Q0 = (∃ xs, seqOf μ0 (.ref za0) = some xs ∧ Q0 (.lst xs) μ0) := rfl
theorem cs_list : CallS K mg (fun xs H Q => ∃ p ys, xs = [.ref p] ∧ (SqL K H p ys ∨ SqT K H p ys) ∧ ∀ l, H l = none → Q (.ref l) (upd H l (.lst ys))) rdList := by
  intro F μ H vs ds Qd Q o w h k
  unfold rdList at h
  split at h
  · obtain ⟨v, rfl, wk⟩ := w.one
    obtain ⟨xs, hx, h⟩ := h
    obtain ⟨a, us, rfl, ha, r⟩ := wk.seq o hx
    refine ⟨a, us, rfl, ha, fun l hl => ?_⟩
    obtain ⟨g1, g2, g3⟩ := newLst o r hl
    exact k _ _ _ _ _ g1 g2 g3 h
  · exact h.elim
def rdStr : RDn
  | [.int i], μ, Q => i.natAbs.log2 < 1920 ∧ Q (.str (toString i : Str).cps.toList) μ
  | _, _, _ => False
@[simp] theorem rdStr_1 : rdStr  [.int i0] μ0 Q0 = (i0.natAbs.log2 < 1920 ∧ Q0 (.str (toString i0 : Str).cps.toList) μ0) := rfl
def rdSum : RDn
  | [d], μ, Q => ∃ ns : List Int, lstOf μ d = some (ns.map D.int) ∧ Q (.int ns.sum) μ
  | _, _, _ => False
@[simp] theorem rdSum_1 : rdSum  [.lst zs0] μ0 Q0 = (∃ ns : List Int, lstOf μ0 (.lst zs0) = some (ns.map D.int) ∧ Q0 (.int ns.sum) μ0) := rfl
@[simp] theorem rdSum_2 : rdSum  [.scr zs0] μ0 Q0 = (∃ ns : List Int, lstOf μ0 (.scr zs0) = some (ns.map D.int) ∧ Q0 (.int ns.sum) μ0) := rfl
@[simp] theorem rdSum_3 : rdSum  [.ref za0] μ0 Q0 = (∃ ns : List Int, lstOf μ0 (.ref za0) = some (ns.map D.int) ∧ Q0 (.int ns.sum) μ0) := rfl
theorem cs_sum : CallS K mg (rSum K) rdSum := by
  intro F μ H vs ds Qd Q o w h k
  unfold rdSum at h
  split at h
  · obtain ⟨v, rfl, wk⟩ := w.one
    obtain ⟨ns, hx, h⟩ := h
    obtain ⟨a, us, rfl, ha, r⟩ := wk.list o hx
    rw [r.ints] at ha
    exact ⟨a, ns, rfl, ha, fin0 o k (.int _) h⟩
  · exact h.elim
def rdAll : RDn
  | [d], μ, Q => ∃ bs : List Bool, lstOf μ d = some (bs.map D.bl) ∧ Q (.bl (bs.all id)) μ
  | _, _, _ => False
@[simp] theorem rdAll_1 : rdAll  [.lst zs0] μ0 Q0 = (∃ bs : List Bool, lstOf μ0 (.lst zs0) = some (bs.map D.bl) ∧ Q0 (.bl (bs.all id)) μ0) := rfl
@[simp] theorem rdAll_2 : rdAll  [.scr zs0] μ0 Q0 = (∃ bs : List Bool, lstOf μ0 (.scr zs0) = some (bs.map D.bl) ∧ Q0 (.bl (bs.all id)) μ0) := rfl
@[simp] theorem rdAll_3 : rdAll  [.ref za0] μ0 Q0 = (∃ bs : List Bool, lstOf μ0 (.ref za0) = some (bs.map D.bl) ∧ Q0 (.bl (bs.all id)) μ0) := rfl
theorem cs_all : CallS K mg (rAll K) rdAll := by
  intro F μ H vs ds Qd Q o w h k
  unfold rdAll at h
  split at h
  · obtain ⟨v, rfl, wk⟩ := w.one
    obtain ⟨ns, hx, h⟩ := h
    obtain ⟨a, us, rfl, ha, r⟩ := wk.list o hx
    rw [r.bls] at ha
    exact ⟨a, ns, rfl, ha, fin0 o k (.bl _) h⟩
  · exact h.elim
def rdAny : RDn
  | [d], μ, Q => ∃ bs : List Bool, lstOf μ d = some (bs.map D.bl) ∧ Q (.bl (bs.any id)) μ
  | _, _, _ => False
@[simp] theorem rdAny_1 : rdAny  [.lst zs0] μ0 Q0 = (∃ bs : List Bool, lstOf μ0 (.lst zs0) = some (bs.map D.bl) ∧ Q0 (.bl (bs.any id)) μ0) := rfl
@[simp] theorem rdAny_2 : rdAny  [.scr zs0] μ0 Q0 = (∃ bs : List Bool, lstOf μ0 (.scr zs0) = some (bs.map D.bl) ∧ Q0 (.bl (bs.any id)) μ0) := rfl
@[simp] theorem rdAny_3 : rdAny  [.ref za0] μ0 Q0 = (∃ bs : List Bool, lstOf μ0 (.ref za0) = some (bs.map D.bl) ∧ Q0 (.bl (bs.any id)) μ0) := rfl
def rdMax : RDn
  | [d], μ, Q => ∃ ns : List Int, lstOf μ d = some (ns.map D.int) ∧ 0 < ns.length ∧ ∀ m, m ∈ ns → (∀ y, y ∈ ns → y ≤ m) → Q (.int m) μ
  | [.int i, .int j], μ, Q => Q (.int (if j > i then j else i)) μ
  | _, _, _ => False
@[simp] theorem rdMax_1 : rdMax  [.lst zs0] μ0 Q0 = (∃ ns : List Int, lstOf μ0 (.lst zs0) = some (ns.map D.int) ∧ 0 < ns.length ∧ ∀ m, m ∈ ns → (∀ y, y ∈ ns → y ≤ m) → Q0 (.int m) μ0) := rfl
@[simp] theorem rdMax_2 : rdMax  [.scr zs0] μ0 Q0 = (∃ ns : List Int, lstOf μ0 (.scr zs0) = some (ns.map D.int) ∧ 0 < ns.length ∧ ∀ m, m ∈ ns → (∀ y, y ∈ ns → y ≤ m) → Q0 (.int m) μ0) := rfl
@[simp] theorem rdMax_3 : rdMax  [.ref za0] μ0 Q0 = (∃ ns : List Int, lstOf μ0 (.ref za0) = some (ns.map D.int) ∧ 0 < ns.length ∧ ∀ m, m ∈ ns → (∀ y, y ∈ ns → y ≤ m) → Q0 (.int m) μ0) := rfl
@[simp] theorem rdMax_4 : rdMax  [.int i0, .int j0] μ0 Q0 = (Q0 (.int (if j0 > i0 then j0 else i0)) μ0) := rfl
def rdMin : RDn
  | [d], μ, Q => ∃ ns : List Int, lstOf μ d = some (ns.map D.int) ∧ 0 < ns.length ∧ ∀ m, m ∈ ns → (∀ y, y ∈ ns → m ≤ y) → Q (.int m) μ
  | [.int i, .int j], μ, Q => Q (.int (if j < i then j else i)) μ
  | _, _, _ => False
@[simp] theorem rdMin_1 : rdMin  [.lst zs0] μ0 Q0 = (∃ ns : List Int, lstOf μ0 (.lst zs0) = some (ns.map D.int) ∧ 0 < ns.length ∧ ∀ m, m ∈ ns → (∀ y, y ∈ ns → m ≤ y) → Q0 (.int m) μ0) := rfl
@[simp] theorem rdMin_2 : rdMin  [.scr zs0] μ0 Q0 = (∃ ns : List Int, lstOf μ0 (.scr zs0) = some (ns.map D.int) ∧ 0 < ns.length ∧ ∀ m, m ∈ ns → (∀ y, y ∈ ns → m ≤ y) → Q0 (.int m) μ0) := rfl
@[simp] theorem rdMin_3 : rdMin  [.ref za0] μ0 Q0 = (∃ ns : List Int, lstOf μ0 (.ref za0) = some (ns.map D.int) ∧ 0 < ns.length ∧ ∀ m, m ∈ ns → (∀ y, y ∈ ns → m ≤ y) → Q0 (.int m) μ0) := rfl
@[simp] theorem rdMin_4 : rdMin  [.int i0, .int j0] μ0 Q0 = (Q0 (.int (if j0 < i0 then j0 else i0)) μ0) := rfl
end

mutual
/-- may be written out by repr -/
def D.shows : D → Bool
  | .non => true | .bl _ => true | .int i => decide (i.natAbs.log2 < 1920) | .str _ => true
  | .tup xs => D.showsAll xs | .lst xs => D.showsAll xs
  | _ => false
def D.showsAll : List D → Bool
  | [] => true
  | x :: xs => x.shows && D.showsAll xs
end
mutual
theorem D.shows_flat : ∀ d : D, d.shows = true → d.flat = true ∧ d.py.showable = true ∧ d.py.hasDict = false
  | .non, _ => ⟨rfl, rfl, rfl⟩
  | .bl _, _ => ⟨rfl, rfl, rfl⟩
  | .int _, h => ⟨rfl, h, rfl⟩
  | .str _, _ => ⟨rfl, rfl, rfl⟩
  | .tup xs, h => D.showsAll_flat xs h
  | .lst xs, h => D.showsAll_flat xs h
  | .dct _, h => nomatch h
  | .scr _, h => nomatch h
  | .ref _, h => nomatch h
  | .ty _, h => nomatch h
  | .gl _, h => nomatch h
theorem D.showsAll_flat : ∀ ds : List D, D.showsAll ds = true → D.flats ds = true ∧ PyData.showableAll (D.pys ds) = true ∧ PyData.hasDictAll (D.pys ds) = false
  | [], _ => ⟨rfl, rfl, rfl⟩
  | x :: xs, h => by
    have h' := Bool.and_eq_true_iff.mp h
    obtain ⟨a1, a2, a3⟩ := D.shows_flat x h'.1
    obtain ⟨b1, b2, b3⟩ := D.showsAll_flat xs h'.2
    refine ⟨?_, ?_, ?_⟩
    · show (x.flat && D.flats xs) = true
      rw [a1, b1]; rfl
    · show (x.py.showable && PyData.showableAll (D.pys xs)) = true
      rw [a2, b2]; rfl
    · show (x.py.hasDict || PyData.hasDictAll (D.pys xs)) = false
      rw [a3, b3]; rfl
end
/-- the text of repr -/
def D.rep (d : D) : List Nat := d.py.shown.cps.toList
def repOk (d : D) : Prop := d.shows = true ∧ d.py.depth ≤ 50 ∧ d.rep.length ≤ SZ
def rdRepr : RDn
  | [d], μ, Q => repOk d ∧ Q (.str d.rep) μ
  | _, _, _ => False
@[simp] theorem rdRepr_1 {d : D} {μ : Sto} {Q : DK} : rdRepr [d] μ Q = (repOk d ∧ Q (.str d.rep) μ) := rfl
abbrev RDm := D → List D → Sto → DK → Prop
def MtS (K : PySem.W.Frag) (mg : Str → Option Value) (r : V → List V → Hp → VK → Prop) (rd : RDm) : Prop :=
  ∀ (F : Hp) (μ : Sto) (H : Hp) (v : V) (vs : List V) (d : D) (ds : List D) (Qd : DK) (Q : VK), Ok K mg F μ H → Wk K mg F μ H v d → Wks K mg F μ H vs ds → rd d ds μ Qd →
    (∀ v F' μ' H' dv, Ext F μ H F' μ' H' → Ok K mg F' μ' H' → Dt K mg F' v dv → Qd dv μ' → Q v H') → r v vs H Q
/-- of which built-in type the receiver is -/
@[simp] def tyD (μ : Sto) (T : String) (d : D) : Prop := match d with
  | .str _ => T = "str"
  | .int _ => T = "int"
  | d => T = "list" ∧ ∃ xs, lstOf μ d = some xs
@[simp] def dMt (T : String) (rd : RDm) (o : TED) (t : TAD) : TED := fun ρ μ Q => o ρ μ fun x μ1 => tyD μ1 T x ∧ t ρ μ1 fun ds μ2 => rd x ds μ2 Q
theorem Wk.ty' {K : PySem.W.Frag} {mg : Str → Option Value} {F H : Hp} {μ : Sto} (o : Ok K mg F μ H) {T : String} {v : V} {d : D} (w : Wk K mg F μ H v d) (h : tyD μ T d) : tyV K T v H := by
  have other : (T = "list" ∧ ∃ xs, lstOf μ d = some xs) → tyV K T v H := fun ⟨e, xs, hx⟩ => by
    obtain ⟨a, vs, rfl, ha, r⟩ := w.list o hx
    exact .inl ⟨e, vs, ha⟩
  cases d with
  | str s => rw [w.str]; exact h
  | int i => rw [w.int]; exact h
  | _ => exact other h
section
variable {X : Cx} {o e : Expr} {es : List Expr} {d : TED} {t : TAD} {name : Str} {apos cpos : Pos} {T id : String} {r : V → List V → Hp → VK → Prop} {rd : RDm}
theorem de_mt (pa : PlainAttrs T) (slot : Slot T name id) (hty : typeOf (.builtin id) = pure (.type "method_descriptor")) (hm : MtR X id r) (hs : MtS X.K X.mg r rd) (ho : DW X o d) (ha : DAW X (e :: es) t)
    (hbase : attributeBase o name X.env (eval o X.env) = eval o X.env := by rfl)
    (hfew : ((backTo cpos (starEach (e :: es) X.env)).all (fun x => !x.1) && (backToKw cpos (keywordEach [] X.env)).all (fun x => x.1.isSome) && decide ((e :: es).length + ([] : List Keyword).length + (if ([] : List Keyword).isEmpty then 0 else 1) < 30)) = true := by rfl)
    (hline : (apos.endLine == cpos.line) = true := by rfl) (hst : starEach (e :: es) X.env = (false, eval e X.env) :: starEach es X.env := by rfl) (hplain : (backTo cpos (starEach es X.env)).any (·.1) = false := by rfl) :
    DE X (.Call (.Attribute o name apos) (e :: es) [] cpos) (dMt T rd d t) := (pe_bm pa slot hty hm ho ha hbase hfew hline hst hplain).weaken fun σ H Q q => by
  obtain ⟨F, ρ, μ, Qd, R, hd, k⟩ := q
  refine ⟨F, ρ, μ, _, R, hd, fun v F1 μ1 H1 dv e1 o1 w1 q1 => ⟨w1.ty' o1 q1.1, F1, ρ, μ1, _, R.ext e1 o1, q1.2, fun vs F2 μ2 H2 ds e2 o2 w2 q2 => ?_⟩⟩
  exact hs F2 μ2 H2 v vs dv ds Qd Q o2 (w1.ext e2) w2 q2 fun z F3 μ3 H3 dz e3 o3 w3 q3 => k z F3 μ3 H3 dz (e1.trans (e2.trans e3)) o3 w3 q3
end
/-- the texts joined -/
def joinL (sep : List Nat) : List (List Nat) → List Nat
  | [] => []
  | x :: r => x ++ (r.map fun y => sep ++ y).flatten
def rdJoin : RDm
  | .str sep, [d], μ, Q => ∃ parts : List (List Nat), seqOf μ d = some (parts.map D.str) ∧ (parts.map List.length).sum + parts.length * sep.length ≤ SZ ∧ Q (.str (joinL sep parts)) μ
  | _, _, _, _ => False
@[simp] theorem rdJoin_1 : rdJoin  (.str sep0) [.tup zs0] μ0 Q0 = (∃ parts : List (List Nat), seqOf μ0 (.tup zs0) = some (parts.map D.str) ∧ (parts.map List.length).sum + parts.length * sep0.length ≤ SZ ∧ Q0 (.str (joinL sep0 parts)) μ0) := rfl
@[simp] theorem rdJoin_2 : rdJoin  (.str sep0) [.lst zs0] μ0 Q0 = (∃ parts : List (List Nat), seqOf μ0 (.lst zs0) = some (parts.map D.str) ∧ (parts.map List.length).sum + parts.length * sep0.length ≤ SZ ∧ Q0 (.str (joinL sep0 parts)) μ0) := rfl
@[simp] theorem rdJoin_3 : rdJoin  (.str sep0) [.scr zs0] μ0 Q0 = (∃ parts : List (List Nat), seqOf μ0 (.scr zs0) = some (parts.map D.str) ∧ (parts.map List.length).sum + parts.length * sep0.length ≤ SZ ∧ Q0 (.str (joinL sep0 parts)) μ0) := rfl
@[simp] theorem rdJoin_4 : rdJoin  (.str sep0) [.ref za0] μ0 Q0 = (∃ parts : List (List Nat), seqOf μ0 (.ref za0) = some (parts.map D.str) ∧ (parts.map List.length).sum + parts.length * sep0.length ≤ SZ ∧ Q0 (.str (joinL sep0 parts)) μ0) := rfl
/-- the first place of a sign from a place on, or -1 -/
def findI (s : List Nat) (c : Nat) (b : Nat) : Int := match (s.drop b).findIdx? (· == c) with
  | some k => ((b + k : Nat) : Int)
  | none => -1
def rdFind : RDm
  | .str s, [.str [c], .int i], μ, Q => 0 ≤ i ∧ Q (.int (findI s c i.toNat)) μ
  | _, _, _, _ => False
@[simp] theorem rdFind_1 : rdFind  (.str s0) [.str [c0], .int i0] μ0 Q0 = (0 ≤ i0 ∧ Q0 (.int (findI s0 c0 i0.toNat)) μ0) := rfl
end DL

namespace DL
open PySem PySem.Spec PyProof.Rows L2
section
variable {X : Cx} {B : Bs} {e o i : Expr} {es : List Expr} {d do' di : TED} {t : TAD} {p pos : Pos}
/-- a new list as one that changes -/
@[simp] def dM (d : TFD) : TED := fun ρ μ Q => d ρ μ fun xs μ1 => ∀ p, μ1 p = none → Q (.ref p) (sset μ1 p (.lst xs))
theorem de_M {d : TFD} (h : DF X e d) : DE X e (dM d) := h.weaken fun σ H Q q => by
  obtain ⟨F, ρ, μ, Qd, R, hd, k⟩ := q
  refine ⟨F, ρ, μ, _, R, hd, fun p vs F' μ' H' ds e o hn hf hm hh w q => ?_⟩
  refine k _ F' (sset μ' p (.lst ds)) H' _ ⟨e.mono, fun a x z n => ?_, e.live⟩ ⟨o.sub, fun a m z => ?_, fun a m z => ?_⟩ (.ref p) (q p hm)
  · obtain ⟨g1, g2, g3⟩ := e.keep a x z n
    have ha : a ≠ p := fun q => by subst q; rw [hn] at z; cases z
    exact ⟨g1, g2, by rw [sset_ne ha]; exact g3⟩
  · by_cases ha : a = p
    · subst ha; exact hf
    · rw [sset_ne ha] at z; exact o.dis a m z
  · by_cases ha : a = p
    · subst ha; rw [sset_same] at z; cases z; exact ⟨vs, hh, w⟩
    · rw [sset_ne ha] at z; exact o.sto a m z
section
variable {name : Str} {apos cpos : Pos} {T id : String} {r : V → List V → Hp → VK → Prop} {rd : RDm}
end
def rdApp : RDm
  | .ref a, [y], μ, Q => ∃ xs, μ a = some (.lst xs) ∧ xs.length < SZ ∧ Q .non (sset μ a (.lst (xs ++ [y])))
  | _, _, _, _ => False
@[simp] theorem rdApp_1 : rdApp  (.ref a0) [y0] μ0 Q0 = (∃ xs, μ0 a0 = some (.lst xs) ∧ xs.length < SZ ∧ Q0 .non (sset μ0 a0 (.lst (xs ++ [y0])))) := rfl
/-- pop() -/
def rdPop0 : RDm
  | .ref a, [], μ, Q => ∃ xs y, μ a = some (.lst xs) ∧ xs[xs.length - 1]? = some y ∧ Q y (sset μ a (.lst xs.dropLast))
  | _, _, _, _ => False
@[simp] theorem rdPop0_1 : rdPop0  (.ref a0) [] μ0 Q0 = (∃ xs y, μ0 a0 = some (.lst xs) ∧ xs[xs.length - 1]? = some y ∧ Q0 y (sset μ0 a0 (.lst xs.dropLast))) := rfl
/-- pop(i) -/
def rdPopAt : RDm
  | .ref a, [.int i], μ, Q => ∃ xs j y, μ a = some (.lst xs) ∧ -9223372036854775808 ≤ i ∧ i < 9223372036854775808 ∧ seqIndex? i xs.length = some j ∧ xs[j]? = some y ∧ Q y (sset μ a (.lst (xs.eraseIdx j)))
  | _, _, _, _ => False
@[simp] theorem rdPopAt_1 : rdPopAt  (.ref a0) [.int i0] μ0 Q0 = (∃ xs j y, μ0 a0 = some (.lst xs) ∧ -9223372036854775808 ≤ i0 ∧ i0 < 9223372036854775808 ∧ seqIndex? i0 xs.length = some j ∧ xs[j]? = some y ∧ Q0 y (sset μ0 a0 (.lst (xs.eraseIdx j)))) := rfl
theorem Dts.eraseIdx {K : PySem.W.Frag} {mg : Str → Option Value} {F : Hp} : ∀ {vs : List V} {ds : List D} (n : Nat), Dts K mg F vs ds → Dts K mg F (vs.eraseIdx n) (ds.eraseIdx n)
  | _, _, _, .nil => .nil
  | _, _, 0, .cons _ t => t
  | _, _, n + 1, .cons q t => .cons q (Dts.eraseIdx n t)
theorem Dts.dropLast {K : PySem.W.Frag} {mg : Str → Option Value} {F : Hp} {vs : List V} {ds : List D} (h : Dts K mg F vs ds) : Dts K mg F vs.dropLast ds.dropLast := by
  rw [List.dropLast_eq_take, List.dropLast_eq_take, h.length]
  exact h.take _
theorem mts_popAt {K : PySem.W.Frag} {mg : Str → Option Value} : MtS K mg rPopAt rdPopAt := by
  intro F μ H v vs d ds Qd Q o w ws h k
  unfold rdPopAt at h
  split at h
  · obtain ⟨u, rfl, wk⟩ := ws.one
    obtain ⟨xs, j, y, hx, h1, h2, h3, hy, q⟩ := h
    cases w.ref
    obtain ⟨us, ha, ru⟩ := o.sto _ _ hx
    obtain ⟨v, hv, wv⟩ := ru.get hy
    obtain ⟨g1, g2⟩ := o.write hx (.lst (us.eraseIdx j)) (.lst (xs.eraseIdx j)) ⟨_, upd_same, ru.eraseIdx j⟩
    exact ⟨_, us, _, j, v, rfl, by rw [wk.int], ha, h1, h2, by rw [ru.length]; exact h3, hv, k _ _ _ _ _ g2 g1 (wv.mono g2.mono) q⟩
  · exact h.elim

/-- o a list that changes -/
@[simp] def dPutM (d o i : TED) : TSD := fun E ρ μ => d ρ μ fun y μ1 => o ρ μ1 fun x μ2 => i ρ μ2 fun k μ3 => ∃ a xs n j, x = .ref a ∧ k = .int n ∧ μ3 a = some (.lst xs) ∧ ixN xs.length n = some j ∧ E.nx ρ (sset μ3 a (.lst (xs.set j y)))
theorem ds_putM {spos : Pos} (he : DE X e d) (ho : DE X o do') (hi : DW X i di)
    (ha : ∀ v, assign (.Subscript o i spos) X.env v = (do
      let ov ← holding [v] (eval o X.env)
      let iv ← holding [v, ov] (eval i X.env)
      standAt spos
      holding [v, ov, iv] (setItem ov iv v)
      release [v, ov, iv] []) := by intro _; rfl)
    (hs : swapsWithSole [.Subscript o i spos] e pos.line X.env = pure false := by rfl) (hw : swappedStores [.Subscript o i spos] e X.env = pure none := by rfl) (h1 : (assignEach [.Subscript o i spos] X.env).map (·.2) = [assign (.Subscript o i spos) X.env] := by rfl) :
    DSt X B (.Assign [.Subscript o i spos] e pos) (dPutM d do' di) := (ps_asg he (pg_sub ho hi set_list ha) hs hw h1).weaken fun E σ H h => by
  obtain ⟨F, ρ, μ, Dd, R, hd, kn, kb, kc, kr⟩ := h
  refine ⟨F, ρ, μ, _, R.rel, hd, fun v F1 μ1 H1 dv e1 o1 w1 q1 => ?_⟩
  refine ⟨F1, ρ, μ1, _, R.rel.ext e1 o1, q1, fun u F2 μ2 H2 du e2 o2 w2 q2 => ?_⟩
  refine ⟨F2, ρ, μ2, _, R.rel.ext (e1.trans e2) o2, q2, fun z F3 μ3 H3 dz e3 o3 w3 q3 => ?_⟩
  obtain ⟨a, xs, n, j, rfl, rfl, hx, hj, q⟩ := q3
  cases w2
  obtain ⟨us, hus, ru⟩ := o3.sto _ _ hx
  have e13 := e1.trans (e2.trans e3)
  obtain ⟨g1, g2⟩ := o3.write hx (.lst (us.set j v)) (.lst (xs.set j dv)) ⟨_, upd_same, ru.set ((w1.mono e2.mono).mono e3.mono) j⟩
  exact ⟨a, us, n, j, rfl, w3.int, hus, by rw [ru.length]; exact hj, kn F3 ρ _ σ _ (e13.trans g2).mono (R.step (e13.trans g2) g1) q⟩
/-- o a name of a list of the frame's own -/
@[simp] def dPut (sl : Nat) (d i : TED) : TSD := fun E ρ μ => ∃ xs, ρ[sl]? = some (some (.own xs)) ∧ d ρ μ fun y μ1 => i ρ μ1 fun k μ2 => ∃ n j, k = .int n ∧ ixN xs.length n = some j ∧ E.nx (ρ.set sl (some (.own (xs.set j y)))) μ2
end
end DL

namespace DL
open PySem PySem.Spec PyProof.Rows L2
section
variable {X : Cx} {e : Expr} {d : TED} {t : TAD} {p pos : Pos}
@[simp] def dRev (d : TED) : TED := fun ρ μ Q => d ρ μ fun x μ1 => match x with
  | .str s => s.length ≤ SZ ∧ Q (.str s.reverse) μ1
  | _ => False
@[simp] def dRevL (d : TED) : TED := fun ρ μ Q => d ρ μ fun x μ1 => ∃ xs, lstOf μ1 x = some xs ∧ Q (.lst xs.reverse) μ1
end
end DL

namespace DL
open PySem PySem.Spec PyProof.Rows L2
theorem forD_inv {g : TGD} {body : TSD} {E : DEnds} {inv : Sto → Prop} (P : List D → DEnv → Sto → Prop) (hi : ∀ xs ρ μ, P xs ρ μ → inv μ)
    (step : ∀ x xs ρ μ (n : DEnv → Sto → Prop), P (x :: xs) ρ μ → (∀ ρ' μ', P xs ρ' μ' → n ρ' μ') → g x ρ fun ρ1 => body { E with nx := n, ct := n, bk := E.nx } ρ1 μ) (done : ∀ ρ μ, P [] ρ μ → E.nx ρ μ) :
    ∀ items ρ μ, P items ρ μ → forD g body E inv items ρ μ := by
  intro items
  induction items with
  | nil => intro ρ μ h; exact ⟨hi _ _ _ h, done ρ μ h⟩
  | cons x xs ih => intro ρ μ h; exact ⟨hi _ _ _ h, step x xs ρ μ _ h ih⟩
/-- over a range from 0 -/
theorem forD_rng {g : TGD} {body : TSD} {E : DEnds} {n : Nat} (P : Nat → DEnv → Sto → Prop)
    (step : ∀ (i : Nat) ρ μ (k : DEnv → Sto → Prop), i < n → P i ρ μ → (∀ ρ' μ', P (i + 1) ρ' μ' → k ρ' μ') → g (.int i) ρ fun ρ1 => body { E with nx := k, ct := k, bk := E.nx } ρ1 μ) (done : ∀ ρ μ, P n ρ μ → E.nx ρ μ)
    {ρ : DEnv} {μ : Sto} (h0 : P 0 ρ μ) : forD g body E still (rngD 0 n) ρ μ := by
  refine forD_inv (fun xs ρ μ => ∃ i, i ≤ n ∧ xs = (rngD 0 n).drop i ∧ P i ρ μ) (fun _ _ _ _ => trivial) ?_ ?_ _ _ _ ⟨0, Nat.zero_le _, rfl, h0⟩
  · rintro x xs ρ μ k ⟨i, hi, e, hP⟩ hk
    have hl : (rngD 0 n).length = n := by simp [rngD]
    have hlt : i < n := by
      apply Decidable.byContradiction
      intro hc
      rw [List.drop_eq_nil_of_le (by omega)] at e
      cases e
    have hd := List.drop_eq_getElem_cons (l := rngD 0 n) (i := i) (by omega)
    rw [← e] at hd
    have hx : x = .int i := by
      rw [(List.cons.inj hd).1]
      simp [rngD]
    subst hx
    exact step i ρ μ k hlt hP fun ρ' μ' h => hk ρ' μ' ⟨i + 1, hlt, (List.cons.inj hd).2, h⟩
  · rintro ρ μ ⟨i, hi, e, hP⟩
    have hl : (rngD 0 n).length = n := by simp [rngD]
    have : i = n := by
      apply Decidable.byContradiction
      intro hc
      have hd := List.drop_eq_getElem_cons (l := rngD 0 n) (i := i) (by omega)
      rw [← e] at hd
      cases hd
    subst this
    exact done ρ μ hP
theorem dWhile_inv {c : TTD} {body : TSD} {E : DEnds} (P : Nat → DEnv → Sto → Prop)
    (step : ∀ m ρ μ (n : DEnv → Sto → Prop), P m ρ μ → (∀ m', m' < m → ∀ ρ' μ', P m' ρ' μ' → n ρ' μ') → c ρ μ fun b μ1 => if b = true then ∃ N : DEnv → Sto → Prop, (∀ ρ' μ', N ρ' μ' → ∃ m', m' < m ∧ P m' ρ' μ') ∧ body { E with nx := N, ct := N, bk := E.nx } ρ μ1 else E.nx ρ μ1)
    {ρ : DEnv} {μ : Sto} (m : Nat) (h : P m ρ μ) : dWhile c body E ρ μ := ⟨P, ⟨m, h⟩, fun m ρ μ hp => step m ρ μ (fun _ _ => True) hp fun _ _ _ _ _ => trivial⟩
theorem lcD_inv {vs : List Nat} {g : TGD} {c : TTD} {el : TED} {ρ : DEnv} {inv : Sto → Prop} {Q : List D → Sto → Prop} (P : List D → List D → Sto → Prop) (hi : ∀ xs acc μ, P xs acc μ → inv μ)
    (step : ∀ x xs acc μ (n : List D → Sto → Prop), P (x :: xs) acc μ → (∀ acc' μ', P xs acc' μ' → n acc' μ') → g x (wipeD ρ vs) fun ρ1 => c ρ1 μ fun b μ1 => if b = true then el ρ1 μ1 fun y μ2 => acc.length < SZ ∧ n (acc ++ [y]) μ2 else n acc μ1)
    (done : ∀ acc μ, P [] acc μ → Q acc μ) : ∀ items acc μ, P items acc μ → lcD vs g c el ρ inv Q items acc μ := by
  intro items
  induction items with
  | nil => intro acc μ h; exact ⟨hi _ _ _ h, done acc μ h⟩
  | cons x xs ih => intro acc μ h; exact ⟨hi _ _ _ h, step x xs acc μ (fun a m => lcD vs g c el ρ inv Q xs a m) h ih⟩
end DL

namespace DL
open PySem PySem.Spec PyProof.Rows L2
mutual
/-- data of which repr and == speak -/
def D.ic : D → Prop
  | .non => True
  | .bl _ => True
  | .int i => i.natAbs < 2 ^ 300
  | .str s => ∀ c ∈ s, c < 1114112
  | .tup xs => D.ics xs
  | .lst xs => D.ics xs
  | .dct _ => False | .scr _ => False | .ref _ => False | .ty _ => False | .gl _ => False | .pr _ _ => False | .obj _ _ => False | .exn _ _ => False | .tkt _ _ => False
def D.ics : List D → Prop
  | [] => True
  | x :: xs => x.ic ∧ D.ics xs
end
mutual
def D.wt : D → Nat
  | .int _ => 300
  | .str s => s.length
  | .tup xs => D.wts xs
  | .lst xs => D.wts xs
  | .non => 0 | .bl _ => 0 | .dct _ => 0 | .scr _ => 0 | .ref _ => 0 | .ty _ => 0 | .gl _ => 0 | .pr _ _ => 0 | .obj _ _ => 0 | .exn _ _ => 0 | .tkt _ _ => 0
def D.wts : List D → Nat
  | [] => 0
  | x :: xs => x.wt + 1 + D.wts xs
end
mutual
def D.dp : D → Nat
  | .tup xs => D.dps xs + 1
  | .lst xs => D.dps xs + 1
  | .int _ => 0 | .str _ => 0 | .non => 0 | .bl _ => 0 | .dct _ => 0 | .scr _ => 0 | .ref _ => 0 | .ty _ => 0 | .gl _ => 0 | .pr _ _ => 0 | .obj _ _ => 0 | .exn _ _ => 0 | .tkt _ _ => 0
def D.dps : List D → Nat
  | [] => 0
  | x :: xs => max x.dp (D.dps xs)
end
theorem log_lt {n k : Nat} (hk : 0 < k) (h : n < 2 ^ k) : n.log2 < k := by
  by_cases h0 : n = 0
  · subst h0; simpa using hk
  · exact (Nat.log2_lt h0).mpr h
theorem S_all {s : List Nat} (h : ∀ c ∈ s, c < 1114112) : (S s).cps.all (· < 0x110000) = true := by
  show s.toArray.all _ = true
  rw [List.all_toArray, List.all_eq_true]
  intro c hc
  simpa using h c hc
mutual
theorem D.ic_all : ∀ d : D, d.ic → d.shows = true ∧ d.py.canLay0 = true ∧ d.py.intsShort 302 = true ∧ d.py.weight ≤ d.wt ∧ d.py.depth = d.dp
  | .non, _ => ⟨rfl, rfl, rfl, Nat.le_refl _, rfl⟩
  | .bl _, _ => ⟨rfl, rfl, rfl, Nat.le_refl _, rfl⟩
  | .int i, h => by
    have hl := log_lt (by decide) h
    refine ⟨?_, rfl, ?_, ?_, rfl⟩
    · show decide _ = true
      simp only [decide_eq_true_eq]
      omega
    · show decide _ = true
      simp only [decide_eq_true_eq]
      have := int_text_length_le (a := i) (k := 300) (by decide) hl
      have e : (PyData.shown (.int i)).length = (toString i).length := by
        show (Str.ofString (toString i)).length = _
        rw [PySem.ofString_length]
      rw [e]
      omega
    · show (if i == 0 then 0 else _) ≤ 300
      split <;> omega
  | .str s, h => by
    refine ⟨rfl, S_all h, rfl, ?_, rfl⟩
    show s.toArray.size ≤ s.length
    simp
  | .tup xs, h => by
    obtain ⟨a, b, c, e, f⟩ := D.ics_all xs h
    exact ⟨a, b, c, e, by show _ + 1 = _ + 1; rw [f]⟩
  | .lst xs, h => by
    obtain ⟨a, b, c, e, f⟩ := D.ics_all xs h
    exact ⟨a, b, c, e, by show _ + 1 = _ + 1; rw [f]⟩
  | .dct _, h => h.elim
  | .scr _, h => h.elim
  | .ref _, h => h.elim
  | .ty _, h => h.elim
  | .gl _, h => h.elim
  | .pr _ _, h => h.elim
  | .obj _ _, h => h.elim
  | .exn _ _, h => h.elim
  | .tkt _ _, h => h.elim
theorem D.ics_all : ∀ ds : List D, D.ics ds → D.showsAll ds = true ∧ PyData.canLayAll0 (D.pys ds) = true ∧ PyData.intsShortAll 302 (D.pys ds) = true ∧ PyData.weightAll (D.pys ds) ≤ D.wts ds ∧ PyData.depthAll (D.pys ds) = D.dps ds
  | [], _ => ⟨rfl, rfl, rfl, Nat.le_refl _, rfl⟩
  | x :: xs, h => by
    obtain ⟨a, b, c, e, f⟩ := D.ic_all x h.1
    obtain ⟨a', b', c', e', f'⟩ := D.ics_all xs h.2
    refine ⟨?_, ?_, ?_, ?_, ?_⟩
    · show (x.shows && D.showsAll xs) = true
      rw [a, a']; rfl
    · show (x.py.canLay0 && PyData.canLayAll0 (D.pys xs)) = true
      rw [b, b']; rfl
    · show (x.py.intsShort 302 && PyData.intsShortAll 302 (D.pys xs)) = true
      rw [c, c']; rfl
    · show x.py.weight + 1 + PyData.weightAll (D.pys xs) ≤ x.wt + 1 + D.wts xs
      omega
    · show max x.py.depth (PyData.depthAll (D.pys xs)) = max x.dp (D.dps xs)
      rw [f, f']
end
theorem okEq_of {x y : D} (hx : x.ic) (hy : y.ic) (dx : x.dp ≤ 50) (dy : y.dp ≤ 50) : okEq x y := by
  have sh : ∀ d : D, d.ic → d.dp ≤ 50 → d.flat = true ∧ SeqAt.shaped d.py = true := fun d h hd => by
    obtain ⟨a, b, c, e, f⟩ := D.ic_all d h
    refine ⟨(D.shows_flat d a).1, ?_⟩
    unfold SeqAt.shaped
    rw [b]
    simp only [Bool.true_and, decide_eq_true_eq]
    omega
  exact .inr ⟨(sh x hx dx).1, (sh y hy dy).1, (sh x hx dx).2, (sh y hy dy).2⟩
@[simp] theorem okEq_int (i j : Int) : okEq (.int i) (.int j) := .inl rfl
@[simp] theorem okEq_str (s t : List Nat) : okEq (.str s) (.str t) := .inl rfl
@[simp] theorem okEq_bl (a b : Bool) : okEq (.bl a) (.bl b) := okEq_of trivial trivial (Nat.zero_le _) (Nat.zero_le _)
theorem ics_iff : ∀ xs : List D, D.ics xs ↔ ∀ x ∈ xs, x.ic
  | [] => by simp [D.ics]
  | x :: xs => by simp [D.ics, ics_iff xs]
theorem dps_le {k : Nat} : ∀ xs : List D, (∀ x ∈ xs, x.dp ≤ k) → D.dps xs ≤ k
  | [], _ => by simp [D.dps]
  | x :: xs, h => by
    have h1 := h x (by simp)
    have h2 := dps_le xs fun y hy => h y (by simp [hy])
    simp only [D.dps]
    omega
@[simp] theorem eqv_int (i j : Int) : D.eqv (.int i) (.int j) = decide (i = j) := by
  show (i == j) = _
  by_cases h : i = j <;> simp [h]
@[simp] theorem eqv_str (s t : List Nat) : D.eqv (.str s) (.str t) = decide (s = t) := by
  show (S s == S t) = _
  by_cases h : s = t
  · simp [h]
  · have : S s ≠ S t := fun e => h (S_inj.mp e)
    simp [h, this]
@[simp] theorem eqv_bl (a b : Bool) : D.eqv (.bl a) (.bl b) = (a == b) := rfl
@[simp] theorem eqv_non : D.eqv .non .non = true := rfl
def D.eqvs : List D → List D → Bool
  | [], [] => true
  | x :: xs, y :: ys => D.eqv x y && D.eqvs xs ys
  | _, _ => false
theorem eqvs_py : ∀ xs ys : List D, PyData.eqvAll (D.pys xs) (D.pys ys) = D.eqvs xs ys
  | [], [] => rfl
  | x :: xs, [] => rfl
  | [], y :: ys => rfl
  | x :: xs, y :: ys => by
    show (PyData.eqv x.py y.py && PyData.eqvAll (D.pys xs) (D.pys ys)) = _
    rw [eqvs_py xs ys]; rfl
@[simp] theorem eqv_lst (xs ys : List D) : D.eqv (.lst xs) (.lst ys) = D.eqvs xs ys := eqvs_py xs ys
@[simp] theorem eqv_tup (xs ys : List D) : D.eqv (.tup xs) (.tup ys) = D.eqvs xs ys := eqvs_py xs ys
@[simp] theorem eqvs_nil : D.eqvs [] [] = true := rfl
@[simp] theorem eqvs_cons (x y : D) (xs ys : List D) : D.eqvs (x :: xs) (y :: ys) = (D.eqv x y && D.eqvs xs ys) := rfl
theorem eqvs_nil_r (xs : List D) : D.eqvs xs [] = decide (xs = []) := by cases xs <;> rfl
abbrev nats (l : List Nat) : List D := l.map fun (n : Nat) => D.int n
theorem ints_flat : ∀ l : List Int, D.flats (l.map D.int) = true ∧ PyData.canLayAll0 (D.pys (l.map D.int)) = true ∧ PyData.depthAll (D.pys (l.map D.int)) = 0
  | [] => ⟨rfl, rfl, rfl⟩
  | x :: l => by
    obtain ⟨a, b, c⟩ := ints_flat l
    refine ⟨a, b, ?_⟩
    show max 0 (PyData.depthAll (D.pys (l.map D.int))) = 0
    rw [c]; rfl
/-- lists of whole numbers of any size may be compared -/
theorem okEq_ints (l r : List Int) : okEq (.lst (l.map D.int)) (.lst (r.map D.int)) := by
  have sh : ∀ l : List Int, SeqAt.shaped (D.lst (l.map D.int)).py = true := fun l => by
    obtain ⟨a, b, c⟩ := ints_flat l
    show (PyData.canLayAll0 (D.pys (l.map D.int)) && decide (PyData.depthAll (D.pys (l.map D.int)) + 1 ≤ 64)) = true
    rw [b, c]; rfl
  exact .inr ⟨(ints_flat l).1, (ints_flat r).1, sh l, sh r⟩
@[simp] theorem ixN_nat {n i : Nat} (h : i < n) : ixN n (i : Int) = some i := by
  unfold ixN
  rw [if_pos (by omega), if_pos (by omega)]
  rfl
theorem atI_nat {α : Type} (xs : List α) (i : Nat) : atI xs (i : Int) = xs[i]? := by
  unfold L2.atI
  by_cases h : i < xs.length
  · rw [ixN_nat h]; rfl
  · have : ixN xs.length (i : Int) = none := by
      unfold ixN
      rw [if_pos (by omega), if_neg (by omega)]
    rw [this, List.getElem?_eq_none (by omega)]
    rfl
theorem atI_of {α : Type} {xs : List α} {i : Int} (h0 : 0 ≤ i) (h1 : i < xs.length) : ∃ x, atI xs i = some x ∧ x ∈ xs := by
  obtain ⟨n, rfl⟩ := Int.eq_ofNat_of_zero_le h0
  rw [atI_nat]
  have hn : n < xs.length := by omega
  exact ⟨xs[n], List.getElem?_eq_getElem hn, List.getElem_mem hn⟩
@[simp] theorem atI_0 {α : Type} (x : α) (xs : List α) : atI (x :: xs) 0 = some x := atI_nat (x :: xs) 0
@[simp] theorem atI_1 {α : Type} (x y : α) (xs : List α) : atI (x :: y :: xs) 1 = some y := atI_nat (x :: y :: xs) 1
@[simp] theorem atI_2 {α : Type} (x y z : α) (xs : List α) : atI (x :: y :: z :: xs) 2 = some z := atI_nat (x :: y :: z :: xs) 2
@[simp] theorem ixN_0 (n : Nat) : ixN (n + 1) 0 = some 0 := ixN_nat (n := n + 1) (i := 0) (by omega)
@[simp] theorem ixN_1 (n : Nat) : ixN (n + 2) 1 = some 1 := ixN_nat (n := n + 2) (i := 1) (by omega)
@[simp] theorem ixN_2 (n : Nat) : ixN (n + 3) 2 = some 2 := ixN_nat (n := n + 3) (i := 2) (by omega)
theorem cut_take {α : Type} (l : List α) (n : Nat) : cut l none (some (n : Int)) = l.take n := by
  unfold cut
  rw [HT.sIx_nat, HT.sIx_none, List.drop_zero, Nat.sub_zero]
  by_cases h : n ≤ l.length
  · rw [Nat.min_eq_left h]
  · rw [Nat.min_eq_right (by omega), List.take_of_length_le (Nat.le_refl _), List.take_of_length_le (by omega)]
theorem cut_drop {α : Type} (l : List α) (n : Nat) : cut l (some (n : Int)) none = l.drop n := by
  unfold cut
  rw [HT.sIx_nat, HT.sIx_none]
  by_cases h : n ≤ l.length
  · rw [Nat.min_eq_left h, List.take_of_length_le (by simp)]
  · rw [Nat.min_eq_right (by omega), List.drop_eq_nil_of_le (by omega), List.drop_eq_nil_of_le (by omega)]
    simp
end DL

namespace DL
open PySem PySem.Spec PyProof.Rows L2
/-- the jar at j, its cells at c, at most b draws so far -/
def Jar (j c : Addr) (b : Nat) (μ : Sto) : Prop := ∃ (n : Nat) (cells : List Nat), n ≤ b ∧ j ≠ c ∧ μ j = some (.lst [.ref c, .int n]) ∧ μ c = some (.lst (cells.map fun x : Nat => D.int x)) ∧ cells.length ≤ 63
/-- nothing else has changed -/
def Same (j c : Addr) (μ μ' : Sto) : Prop := ∀ a, a ≠ j → a ≠ c → μ' a = μ a
theorem Jar.le {j c : Addr} {b b' : Nat} {μ : Sto} (h : Jar j c b μ) (le : b ≤ b') : Jar j c b' μ := by
  obtain ⟨n, cells, hn, r⟩ := h
  exact ⟨n, cells, Nat.le_trans hn le, r⟩
theorem Same.refl {j c : Addr} {μ : Sto} : Same j c μ μ := fun _ _ _ => rfl
theorem Same.trans {j c : Addr} {μ μ1 μ2 : Sto} (h : Same j c μ μ1) (g : Same j c μ1 μ2) : Same j c μ μ2 := fun a x y => (g a x y).trans (h a x y)
/-- since μ0: a jar of at most b draws, nothing else changed -/
def St (j c : Addr) (μ0 : Sto) (b : Nat) (μ : Sto) : Prop := Jar j c b μ ∧ Same j c μ0 μ
theorem St.le {j c : Addr} {b b' : Nat} {μ0 μ : Sto} (h : St j c μ0 b μ) (le : b ≤ b') : St j c μ0 b' μ := ⟨h.1.le le, h.2⟩
/-- a word of small letters -/
def Low (s : List Nat) : Prop := ∀ c ∈ s, 97 ≤ c ∧ c ≤ 122
theorem Low.append {s t : List Nat} (h : Low s) (g : Low t) : Low (s ++ t) := fun c hc => (List.mem_append.mp hc).elim (h c) (g c)
theorem Low.take {s : List Nat} (h : Low s) (n : Nat) : Low (s.take n) := fun c hc => h c (List.mem_of_mem_take hc)
theorem Low.reverse {s : List Nat} (h : Low s) : Low s.reverse := fun c hc => h c (List.mem_reverse.mp hc)
theorem Low.repl {s : List Nat} (h : Low s) (n : Nat) : Low (repl n s) := fun c hc => by
  unfold DL.repl at hc
  obtain ⟨l, hl, hc⟩ := List.mem_flatten.mp hc
  rw [(List.mem_replicate.mp hl).2] at hc
  exact h c hc
theorem Low.lt {s : List Nat} (h : Low s) : ∀ c ∈ s, c < 1114112 := fun c hc => by have := h c hc; omega
end DL

namespace DL
open PySem PySem.Spec PyProof.Rows L2
end DL

namespace DL
open PySem PySem.Spec PyProof.Rows L2
/-- the first pick, from a place on: places -/
def fp (one : List Nat) : List Nat → Nat → List Nat
  | [], _ => []
  | c :: r, b => match (one.drop b).findIdx? (· == c) with
    | some k => (b + k) :: fp one r (b + k + 1)
    | none => []

end DL

namespace DL
open PySem PySem.Spec PyProof.Rows L2
end DL

namespace DL
open PySem PySem.Spec PyProof.Rows L2
abbrev typs : List String := ["NoneType", "bool", "int", "str", "list", "tuple", "dict"]
def isiB (t T : String) : Bool := decide (t = T) || (decide (t = "bool") && decide (T = "int"))
theorem isi_kit : ∀ t ∈ typs, ∀ T ∈ typs, kitB t T = some (isiB t T) := by decide +kernel
@[simp] def isiD : D → String → Bool
  | .non, T => decide (T = "NoneType")
  | .bl _, T => decide (T = "bool") || decide (T = "int")
  | .int _, T => decide (T = "int")
  | .str _, T => decide (T = "str")
  | .tup _, T => decide (T = "tuple")
  | .lst _, T => decide (T = "list")
  | .scr _, T => decide (T = "list")
  | .dct _, T => decide (T = "dict")
  | _, _ => false
@[simp] def isiOk : D → Bool
  | .non | .bl _ | .int _ | .str _ | .tup _ | .lst _ | .scr _ | .dct _ => true
  | _ => false
def rdIsi : RDn
  | [d, .ty T], μ, Q => isiOk d = true ∧ T ∈ typs ∧ Q (.bl (isiD d T)) μ
  | _, _, _ => False
@[simp] theorem rdIsi_1 : rdIsi  [d0, .ty T0] μ0 Q0 = (isiOk d0 = true ∧ T0 ∈ typs ∧ Q0 (.bl (isiD d0 T0)) μ0) := rfl
section
variable {K : PySem.W.Frag} {mg : Str → Option Value} {F H : Hp} {μ : Sto}
theorem sqT_tyx {a : Addr} {vs : List V} (h : SqT K H a vs) : TyX K H (.ref a) (.type "tuple") := by
  rcases h with (h | ⟨o, h⟩) | ⟨o, z, n, h1, h2, _⟩
  · exact .base (.tup h)
  · exact .fTuple h
  · exact .kTuple h1 h2
theorem sqL_tyx {a : Addr} {vs : List V} (h : SqL K H a vs) : TyX K H (.ref a) (.type "list") := by
  rcases h with (h | ⟨o, h⟩) | ⟨o, z, n, h1, h2, _⟩
  · exact .base (.lst h)
  · exact .base (.frz h)
  · exact .kList h1 h2
theorem cs_isi : CallS K mg (rIsi K) rdIsi := by
  intro F μ H vs ds Qd Q o w h k
  unfold rdIsi at h
  split at h
  · rename_i d T
    obtain ⟨u, v, rfl, wk, wt⟩ := w.two
    obtain ⟨h1, h2, q⟩ := h
    have ev : v = .ty T := by
      rcases wt with wt | ⟨a, vs, xs, _, e, _⟩
      · cases wt; rfl
      · cases e
    subst ev
    have fin : ∀ (t : String), t ∈ typs → TyX K H u (.type t) → isiD d T = isiB t T → _ := fun t ht tx e => (⟨u, .ty T, .type t, .type T, isiB t T, rfl, .ty T, tx, kit_ty (isi_kit t ht T h2), fin0 o k (.bl _) (e ▸ q)⟩ : rIsi K [u, .ty T] H Q)
    cases d <;> first | exact (Bool.false_ne_true h1).elim | skip
    · cases wk.non; exact fin "NoneType" (by decide) (.base .non) (by simp [isiB, eq_comm])
    · cases wk.bl; exact fin "bool" (by decide) (.base (.bl _)) (by simp [isiB, eq_comm])
    · cases wk.int; exact fin "int" (by decide) (.base (.int _)) (by simp [isiB, eq_comm])
    · cases wk.str; exact fin "str" (by decide) (.base (.str _)) (by simp [isiB, eq_comm])
    · obtain ⟨a, vs, rfl, ha, _⟩ := wk.tup o; exact fin "tuple" (by decide) (sqT_tyx ha) (by simp [isiB, eq_comm])
    · obtain ⟨a, vs, rfl, ha, _⟩ := wk.lst o; exact fin "list" (by decide) (.base (.lst ha)) (by simp [isiB, eq_comm])
    · obtain ⟨a, vs, rfl, ha, _⟩ := wk.dct o; exact fin "dict" (by decide) (.base (.dK ha)) (by simp [isiB, eq_comm])
    · obtain ⟨a, rfl, ha⟩ := wk.scr o; exact fin "list" (by decide) (sqL_tyx ha) (by simp [isiB, eq_comm])
  · exact h.elim
end
section
variable {X : Cx} {x : Str} {T : String} {pos p : Pos} {e e2 : Expr} {t : TAD}
/-- the name of a built-in type -/
theorem de_tyN (hg : Gl X x) (hm : X.mg x = none) (hv : bootBuiltins x = some (.type T)) (hn : x ≠ "__name__" := by decide) (hd : (x == ("__debug__" : Str)) = false := by decide) : DE X (.Name x pos) (dC (.ty T)) :=
  de_c (pe_bltn (v := .ty T) hg hm hv rfl hn hd) fun _ => .ty T
def zipD (xs ys : List D) : List D := (xs.zip ys).map fun p => .pr p.1 p.2
@[simp] def dZip (t : TAD) : TSrc := fun ρ μ Q => t ρ μ fun xs μ1 => match xs with
  | [.tup xs, .tup ys] => Q (zipD xs ys) still μ1
  | [.lst xs, .lst ys] => Q (zipD xs ys) still μ1
  | _ => False
@[simp] def dNever : TSD := fun _ _ _ => False
end
section
variable {K : PySem.W.Frag} {mg : Str → Option Value}
def rdIsB : RD2
  | .bl a, .bl b, μ, Q => Q (.bl (decide (a = b))) μ
  | _, _, _, _ => False
@[simp] theorem rdIsB_1 : rdIsB  (.bl a0) (.bl b0) μ0 Q0 = (Q0 (.bl (decide (a0 = b0))) μ0) := rfl
def rdNotB : RD2
  | .bl a, .bl b, μ, Q => Q (.bl (!decide (a = b))) μ
  | _, _, _, _ => False
@[simp] theorem rdNotB_1 : rdNotB  (.bl a0) (.bl b0) μ0 Q0 = (Q0 (.bl (!decide (a0 = b0))) μ0) := rfl
end
section
variable {X : Cx} {B : Bs} {pos : Pos}
/-- x, y, z = a, b, c: values -/
@[simp] def dPar3 (i j l : Nat) (t : TAD) : TSD := fun E ρ μ => t ρ μ fun xs μ1 => match xs with
  | [x, y, z] => E.nx (((ρ.set i (some (.val x))).set j (some (.val y))).set l (some (.val z))) μ1
  | _ => False
end
end DL

namespace DL
open PySem PySem.Spec PyProof.Rows L2
def btw (v : D) (lo hi : Int) : Bool := match v with
  | .int i => decide (lo ≤ i) && decide (i ≤ hi)
  | _ => false
def sp_is_between : DSp := fun ds μ Q _ => ∃ (v : D) (lo hi : Int), ds = [v, .int lo, .int hi] ∧ isiOk v = true ∧ Q (.bl (btw v lo hi)) μ
/-- is_between(value, low, high); slots 0:value 1:low 2:high -/
def b_is_between : TSD :=
  (dRet (dAndV (dFn rdIsi (dCons (dLook 0) (dCons (dC (.ty "int")) dNil))) (dAndV (dNotV (dFn rdIsi (dCons (dLook 0) (dCons (dC (.ty "bool")) dNil)))) (dChain rdLe rdLe (dLook 1) (dLook 0) (dLook 2)))))
theorem len_is_between : ∀ ds μ Q E, sp_is_between ds μ Q E → ds.length = 3 := by
  rintro ds μ Q E ⟨v, lo, hi, rfl, _⟩; rfl
theorem ok_is_between : ∀ ds μ Q E, sp_is_between ds μ Q E → b_is_between { nx := fun _ μ' => Q .non μ', rt := Q } (startD 3 ds) μ := by
  rintro ds μ Q E ⟨v, lo, hi, rfl, hv, q⟩
  unfold b_is_between
  cases v <;> first | exact (Bool.false_ne_true hv).elim | skip
  case int i =>
    simp
    have q : Q (.bl (decide (lo ≤ i) && decide (i ≤ hi))) μ := q
    split
    · rename_i h; rw [decide_eq_true h] at q; simpa using q
    · rename_i h; rw [decide_eq_false h] at q; simpa using q
  all_goals
    unfold btw at q
    simp
    exact q
/-- the letters of one at the places l, one behind the other -/
def inc (l : List Nat) : Bool := (l.zip (l.drop 1)).all fun p => decide (p.1 < p.2)
end DL

namespace DL
open PySem PySem.Spec PyProof.Rows L2
@[simp] theorem inc_nil : inc [] = true := rfl
@[simp] theorem inc_one (x : Nat) : inc [x] = true := rfl
end DL

namespace DL
open PySem PySem.Spec PyProof.Rows L2
/-- enumerate of a text -/
@[simp] def dEnumS (t : TAD) : TSrc := fun ρ μ Q => t ρ μ fun xs μ1 => match xs with
  | [.str s] => Q (enumD 0 (strD s)) still μ1
  | _ => False
section
variable {K : PySem.W.Frag} {mg : Str → Option Value}
def rdNeR : RD2
  | .ref a, .lst ys, μ, Q => ∃ xs, μ a = some (.lst xs) ∧ okEq (.lst xs) (.lst ys) ∧ Q (.bl (!D.eqv (.lst xs) (.lst ys))) μ
  | _, _, _, _ => False
@[simp] theorem rdNeR_1 : rdNeR  (.ref a0) (.lst ys0) μ0 Q0 = (∃ xs, μ0 a0 = some (.lst xs) ∧ okEq (.lst xs) (.lst ys0) ∧ Q0 (.bl (!D.eqv (.lst xs) (.lst ys0))) μ0) := rfl
theorem ops_neR : OpS K mg (r2Or (rNeD K) rNe) rdNeR := by
  intro F μ H x y dx dy Qd Q o wx wy h k
  cases dx <;> first | exact h.elim | skip
  cases dy <;> first | exact h.elim | skip
  rename_i a ys
  obtain ⟨xs, hx, ok, q⟩ := h
  cases wx.ref
  obtain ⟨vs, ha, ra⟩ := o.sto _ _ hx
  rcases ok with ok | ⟨f1, f2, s1, s2⟩
  · exact (Bool.false_ne_true ok).elim
  · exact .inl ⟨_, _, .lst (.inl (.inl ha)) (Dts.dp o.sub ra f1), wy.dp o f2, s1, s2, fin0 o k (.bl _) q⟩
end
end DL

namespace DL
open PySem PySem.Spec PyProof.Rows L2
theorem Dts.split {K : PySem.W.Frag} {mg : Str → Option Value} {F : Hp} {vs : List V} {ds : List D} (n : Nat) (r : Dts K mg F vs ds) : vs = vs.take n ++ vs.drop n ∧ Dts K mg F (vs.take n) (ds.take n) ∧ Dts K mg F (vs.drop n) (ds.drop n) := ⟨(List.take_append_drop n vs).symm, r.take n, r.drop n⟩
section
variable {P : Program} {w : World} {K : PySem.W.Frag} {mg : Str → Option Value} {base : Heap} {k : Nat} {f : Addr} {ps : List Str} {S : DSp}
end
/-- each item gives one, nothing changes -/
theorem lcD_list {α : Type} {vs : List Nat} {g : TGD} {el : TED} {ρ : DEnv} {Q : List D → Sto → Prop} {μ : Sto} {inv : Sto → Prop} (l : List α) (i r : α → D) (hi : inv μ) (hl : l.length ≤ SZ)
    (step : ∀ a ∈ l, ∀ k : D → Sto → Prop, k (r a) μ → g (i a) (wipeD ρ vs) fun ρ1 => el ρ1 μ k) (done : Q (l.map r) μ) : lcD vs g dYes el ρ inv Q (l.map i) [] μ := by
  refine lcD_inv (fun xs acc μ' => μ' = μ ∧ ∃ pre post, l = pre ++ post ∧ xs = post.map i ∧ acc = pre.map r) (fun _ _ _ h => h.1 ▸ hi) ?_ ?_ (l.map i) [] μ ⟨rfl, [], l, rfl, rfl, rfl⟩
  · rintro x xs acc μ' n ⟨rfl, pre, post, e, hx, rfl⟩ hn
    cases post with
    | nil => cases hx
    | cons a post =>
      rw [List.map_cons] at hx
      cases hx
      have := step a (by rw [e]; simp) (fun y m => (pre.map r).length < SZ ∧ n (pre.map r ++ [y]) m) ⟨by rw [e] at hl; simp at hl ⊢; omega, hn _ _ ⟨rfl, pre ++ [a], post, by simp [e], rfl, by simp⟩⟩
      simpa using this
  · rintro acc μ' ⟨rfl, pre, post, e, hx, rfl⟩
    cases post with
    | nil => rw [List.append_nil] at e; subst e; exact done
    | cons a post => cases hx
/-- each item that fits gives one, nothing changes -/
theorem lcD_listF {α : Type} {vs : List Nat} {g : TGD} {c : TTD} {el : TED} {ρ : DEnv} {Q : List D → Sto → Prop} {μ : Sto} {inv : Sto → Prop} (l : List α) (p : α → Bool) (i r : α → D) (hi : inv μ) (hl : l.length ≤ SZ)
    (step : ∀ a ∈ l, ∀ (k : D → Sto → Prop) (n : Sto → Prop), (p a = true → k (r a) μ) → (p a = false → n μ) → g (i a) (wipeD ρ vs) fun ρ1 => c ρ1 μ fun b μ1 => if b = true then el ρ1 μ1 k else n μ1)
    (done : Q ((l.filter p).map r) μ) : lcD vs g c el ρ inv Q (l.map i) [] μ := by
  refine lcD_inv (fun xs acc μ' => μ' = μ ∧ ∃ pre post, l = pre ++ post ∧ xs = post.map i ∧ acc = (pre.filter p).map r) (fun _ _ _ h => h.1 ▸ hi) ?_ ?_ (l.map i) [] μ ⟨rfl, [], l, rfl, rfl, rfl⟩
  · rintro x xs acc μ' n ⟨rfl, pre, post, e, hx, rfl⟩ hn
    cases post with
    | nil => cases hx
    | cons a post =>
      rw [List.map_cons] at hx
      cases hx
      refine step a (by rw [e]; simp) _ (fun m => n _ m) (fun hp => ⟨?_, hn _ _ ⟨rfl, pre ++ [a], post, by simp [e], rfl, by simp [hp]⟩⟩) fun hp => hn _ _ ⟨rfl, pre ++ [a], post, by simp [e], rfl, by simp [hp]⟩
      have := List.length_filter_le p pre
      rw [e] at hl
      simp at hl ⊢
      omega
  · rintro acc μ' ⟨rfl, pre, post, e, hx, rfl⟩
    cases post with
    | nil => rw [List.append_nil] at e; subst e; exact done
    | cons a post => cases hx
/-- a loop over a list of anything -/
theorem forD_list {α : Type} {g : TGD} {body : TSD} {E : DEnds} {inv : Sto → Prop} (i : α → D) (P : List α → DEnv → Sto → Prop) (hi : ∀ l ρ μ, P l ρ μ → inv μ)
    (step : ∀ a l ρ μ (n : DEnv → Sto → Prop), P (a :: l) ρ μ → (∀ ρ' μ', P l ρ' μ' → n ρ' μ') → g (i a) ρ fun ρ1 => body { E with nx := n, ct := n, bk := E.nx } ρ1 μ)
    (done : ∀ ρ μ, P [] ρ μ → E.nx ρ μ) : ∀ (l : List α) ρ μ, P l ρ μ → forD g body E inv (l.map i) ρ μ := by
  intro l
  induction l with
  | nil => intro ρ μ h; exact ⟨hi _ _ _ h, done ρ μ h⟩
  | cons a l ih => intro ρ μ h; exact ⟨hi _ _ _ h, step a l ρ μ _ h ih⟩
end DL

namespace DL
open PySem PySem.Spec PyProof.Rows L2
theorem meets_enum1 {v : Value} {o : Obj} {Hh : Heap → Prop} (B : Begins v o Hh) :
    Meets (Builtin.«enumerate.__new__» ⟨[.type "enumerate", v], []⟩) (fun _ R s => Hh s.heap ∧
      R (.ok (.ret (.ref (s.heap.push o).objs.size))) { s with heap := (s.heap.push o).push { cls := .type "enumerate", data := .fields #[.none, .bool false, .ref s.heap.objs.size, rawInt 0, .none, .none] } }) :=
  .of_wp fun prog w A R s hh => by
    obtain ⟨hp, g, d, tk, os⟩ := s
    obtain ⟨h1, hh⟩ := hh
    have subE := sub_enumerate
    have beg : ∀ {A' : Around} {E : Value → Shared → Prop} {Q : Value → Shared → Prop}, Q (.ref hp.objs.size) ⟨hp.push o, g, d, tk, os⟩ → wpAny (model prog w) A' (pyIter v) Q E ⟨hp, g, d, tk, os⟩ := fun q => B.iter prog w _ _ ⟨hp, g, d, tk, os⟩ _ h1 q
    wp_walk using beg
    refine wpAny_stack_any fun st => wpAny_pure ?_
    split
    · rename_i c _ _ _ _ _
      cases (c == Value.type "enumerate") <;> (wp_walk using beg; exact ⟨_, rfl, hh⟩)
    · wp_walk using beg; exact ⟨_, rfl, hh⟩
theorem call_enum1 {prog : Program} {w : World} {A : Around} {E : Value → Shared → Prop} {s : Shared} {v : Value} {o : Obj} {Hh : Heap → Prop} {Q : Value → Shared → Prop} (B : Begins v o Hh) (h1 : Hh s.heap)
    (h : ∀ h', IsEnum h' (s.heap.objs.size + 1) s.heap.objs.size 0 .none → h'.get? s.heap.objs.size = some o → h'.objs.size = s.heap.objs.size + 2 →
      (∀ b o, s.heap.get? b = some o → h'.get? b = some o) → Q (.ref (s.heap.objs.size + 1)) { s with heap := h' }) : wpAny (model prog w) A (call (.type "enumerate") [v]) Q E s := by
  refine callType_new F.called_enumerate (by decide) (F.typeCall_enumerate_1 _) (F.newCall_enumerate_1 _) (fun obj => F.args_object_init_2 obj _) F.entry_enumerate_new (meets_enum1 B) ⟨h1, ?_⟩
  have z1 : (s.heap.push o).objs.size = s.heap.objs.size + 1 := Heap.size_push ..
  show _ ∧ _
  rw [z1]
  have en : IsEnum ((s.heap.push o).push { cls := .type "enumerate", data := .fields #[.none, .bool false, .ref s.heap.objs.size, rawInt 0, .none, .none] }) (s.heap.objs.size + 1) s.heap.objs.size 0 .none := by
    have z2 := Heap.get?_push_size (s.heap.push o) (o := { cls := .type "enumerate", data := .fields #[.none, .bool false, .ref s.heap.objs.size, rawInt 0, .none, .none] }) rfl
    rw [z1] at z2
    exact z2
  exact ⟨⟨_, en, rfl⟩, h _ en (Heap.get?_push_of_some _ (Heap.get?_push_size _ B.free)) (by rw [Heap.size_push, z1]) fun b o x => Heap.get?_push_of_some _ (Heap.get?_push_of_some _ x)⟩
/-- the tuple at a, each item in a new pair -/
def IteT (K : PySem.W.Frag) (a : Addr) : It :=
  ⟨fun i H => ∃ (xs : List V) (x : V), SqT K H a xs ∧ xs[i]? = some x, fun i H v H' => ∃ T x, v = .ref T ∧ H T = none ∧ H' = upd H T (.tup [.int (i : Nat), x]) ∧ ∀ xs, SqT K H a xs → xs[i]? = some x, fun i H => ∃ xs : List V, SqT K H a xs ∧ xs.length = i⟩
theorem turn_enumT {P : Program} {w : World} {K : PySem.W.Frag} {elts : List Expr} {kk : Nat} {tpos : Pos} (a e it : Addr) :
    Turn P w K (.Tuple elts kk tpos) (IteT K a) [e, it] e (fun i h => (∃ old, IsEnum h e it ((i : Nat) : Int) old) ∧ h.IsTupleIter it a i ∧ e ≠ it ∧ a ≠ e ∧ a ≠ it) where
  mem := by simp
  obj := fun i h st b hb => by
    obtain ⟨⟨old, he⟩, ⟨o, ho, hc, hd⟩, _⟩ := st
    have e' : b = e ∨ b = it := by simpa using hb
    rcases e' with rfl | rfl
    · exact ⟨_, he, fun v q => nomatch q⟩
    · exact ⟨o, ho, fun v q => by rw [hd] at q; cases q⟩
  keep := fun i h h' st k => let ⟨⟨old, he⟩, hi, hne⟩ := st; ⟨⟨old, k e (by simp) _ he⟩, hi.at fun o q => k it (by simp) o q, hne⟩
  item := by
    intro X hP hw hK hc i pins s σ H E I hf st hg
    subst hP hw hK
    obtain ⟨⟨old, he⟩, hit, hne, hae, hai⟩ := st
    obtain ⟨xs, x, hq, hx⟩ := hg
    obtain ⟨its, rv, p, hz⟩ := I.tuple hq
    obtain ⟨u, hu, ru⟩ := rv.get hx
    have hel : e < s.heap.objs.size := Heap.lt_size he
    have hil : it < s.heap.objs.size := by obtain ⟨_, q, _⟩ := hit; exact Heap.lt_size q
    have Dr := Draws.tuple (prog := X.prog) (w := X.w) (A := X.A.in1) (show X.A.in1.handled = none from I.ok.hd hc) it a hai its.toArray
    have hlt : i < its.toArray.size := by
      have := (List.getElem?_eq_some_iff.mp hu).1
      rw [List.size_toArray]; exact this
    refine wpAny_pyNext_enum_itemD Dr he ⟨hit, p⟩ hlt hne (by simp [hne, hae.symm]) fun u' h' tk hu' ho hst' hT hsz hk => ?_
    have : u' = u := by
      have h1 : its.toArray[i]? = some u' := hu'
      rw [List.getElem?_toArray, hu] at h1
      exact (Option.some.inj h1).symm
    subst this
    obtain ⟨hit', _⟩ := hst'
    refine ⟨_, rfl, wpAny_letOwnedTupleGo_enum (s := { s with heap := h', toks := tk + 1 }) ho fun h'' he' sb => ?_⟩
    have hT2 : h''.get? s.heap.objs.size = some { cls := .type "tuple", data := .seq #[.int i tk, u'] } := (sb.2 _ (Nat.ne_of_gt hel)).trans hT
    have new : ObjOk X.prog X.w (upd H s.heap.objs.size (.tup [.int (i : Nat), x])) h'' s.heap.objs.size (.tup [.int (i : Nat), x]) :=
      ⟨by show 2 ≤ sizeLine; decide, [.int i tk, u'], .cons ⟨_, rfl⟩ (.cons ru .nil), ⟨_, hT2, rfl, _, rfl⟩⟩
    have I1 : Inv X pins σ (upd H s.heap.objs.size (.tup [.int (i : Nat), x])) { s with heap := h'', toks := tk + 1 } :=
      I.turnedNew (ch := [e, it]) (fun b ob hb q => (sb.2 b (fun z => hb (by simp [z]))).trans (hk b ob (fun z => hb (by simp [z])) (fun z => hb (by simp [z])) q)) hf (Nat.le_refl _) new
    refine ⟨.ref s.heap.objs.size, _, I1, rfl, ⟨_, x, rfl, I.hok.fresh (Nat.le_refl _), rfl, fun ys hy => by rw [I.tuple_inj hy hq]; exact hx⟩, ⟨⟨u', ?_⟩, hit'.at fun o q => (sb.2 it (Ne.symm hne)).trans q, hne, hae, hai⟩, fun b hb => ?_⟩
    · have e1 : ((i + 1 : Nat) : Int) = (i : Int) + 1 := by omega
      rw [e1]; exact he'
    · have hb' : b < s.heap.objs.size := by
        have e' : b = e ∨ b = it := by simpa using hb
        rcases e' with rfl | rfl
        · exact hel
        · exact hil
      rw [upd_ne (Nat.ne_of_lt hb')]
      exact (hf b hb).1
  done := by
    intro X hP hw hK hc i pins s σ H E I hf st hg
    subst hP hw hK
    obtain ⟨⟨old, he⟩, hit, hne, hae, hai⟩ := st
    obtain ⟨xs, hq, hx⟩ := hg
    obtain ⟨its, rv, p, hz⟩ := I.tuple hq
    obtain ⟨f0, f1, f2, f3, f4, f5⟩ := hf it (by simp)
    have hl := rv.length
    have Dr := Draws.tuple (prog := X.prog) (w := X.w) (A := X.A.in1) (show X.A.in1.handled = none from I.ok.hd hc) it a hai its.toArray
    have hi : i = its.toArray.size := by rw [List.size_toArray]; omega
    subst hi
    exact wpAny_pyNext_enum_endD Dr he ⟨hit, p⟩ fun h' eb => ⟨rfl, I.turned (t' := s.toks) (fun b o hb q => eb b o hb q) f0 f1 f3 f4 f5⟩
  self := fun A i s Q E st h => let ⟨⟨_, he⟩, _⟩ := st; wpAny_pyIter_enum he h
def iEnumT (K : PySem.W.Frag) (ta : TA) : TI := fun σ H R => ta σ H fun vs H1 => ∃ a xs, vs = [.ref a] ∧ SqT K H1 a xs ∧ R (IteT K a) H1
theorem pi_enumT {X : Cx} {e : Expr} {ta : TA} {p pos tpos : Pos} {elts : List Expr} {kk : Nat} (hg : Gl X "enumerate") (hm : X.mg "enumerate" = none) (ha : PA X [e] ta) (hs : starEach [e] X.env = [(false, eval e X.env)] := by rfl) :
    PI X (.Tuple elts kk tpos) (.Call (.Name "enumerate" p) [e] [] pos) (iEnumT X.K ta) := by
  refine ⟨fun pins s σ H R I h => ?_⟩
  refine Call_ (ld_blt I hg hm boot_enumerate (PyProof.Rows.callWith_type1 (thn (ha.run pos pins s σ H _ I h) fun us s1 ⟨vs, H1, I1, r1, q1⟩ => ?_) hs rfl))
  obtain ⟨a, xs, ex, hq, q⟩ := q1
  subst ex
  cases r1 with
  | cons r rr =>
    cases rr
    cases r
    obtain ⟨its, rv, tp, hz⟩ := I1.tuple hq
    have alt : a < s1.heap.objs.size := by obtain ⟨o, ho, _⟩ := tp; exact Heap.lt_size ho
    refine call_enum1 (begins_tuple a its.toArray) tp fun h' he hit hsz hk => wpAny_pyIter_enum he ?_
    have I2 : Inv X pins σ H1 { s1 with heap := h' } := I1.kept (t' := s1.toks) hk
    refine ⟨s1.heap.objs.size + 1, [s1.heap.objs.size + 1, s1.heap.objs.size], _, _, H1, rfl, I2, turn_enumT a (s1.heap.objs.size + 1) s1.heap.objs.size, ⟨⟨.none, he⟩, ⟨_, hit, rfl, rfl⟩, Nat.succ_ne_self _, Nat.ne_of_lt (Nat.lt_succ_of_lt alt), Nat.ne_of_lt alt⟩, fun b hb => ?_, q⟩
    have e' : b = s1.heap.objs.size + 1 ∨ b = s1.heap.objs.size := by simpa using hb
    have hle : s1.heap.objs.size ≤ b := by
      rcases e' with z | z
      · rw [z]; exact Nat.le_add_right _ _
      · rw [z]; exact Nat.le_refl _
    exact I1.fpOk hle (I1.hok.fresh hle)
/-- enumerate of a tuple -/
@[simp] def dEnumT (t : TAD) : TSrc := fun ρ μ Q => t ρ μ fun xs μ1 => match xs with
  | [.tup s] => Q (enumD 0 s) still μ1
  | _ => False
theorem itd_enumT {K : PySem.W.Frag} {mg : Str → Option Value} {F : Hp} {a : Addr} {vs : List V} {ds : List D} (h : SqT K F a vs) (r : Dts K mg F vs ds) : ItD K mg F (IteT K a) (enumD 0 ds) still := by
  intro F1 μ1 H1 hF o1 _ i
  have ha : SqT K H1 a vs := SqT.mono' (fun c o z => o1.sub _ _ (hF _ _ z)) h
  have hl := r.length
  rw [enumD_len]
  refine ⟨fun hi => ⟨⟨vs, vs[i]'(by omega), ha, List.getElem?_eq_getElem _⟩, fun x H2 hy => ?_⟩, fun e => ⟨vs, ha, by omega⟩⟩
  obtain ⟨T, y, rfl, hT, rfl, hx⟩ := hy
  obtain ⟨d, hd, w⟩ := r.getV (hx vs ha)
  obtain ⟨g1, g2, g3⟩ := newPr o1 (v := .int (i : Nat)) (d := .int (i : Nat)) (.int _) (w.mono hF) hT
  refine ⟨_, _, g1, g2, ?_, g3⟩
  rw [enumD_get, hd]
  simp
theorem di_enumT {X : Cx} {e : Expr} {t : TAD} {p pos tpos : Pos} {elts : List Expr} {kk : Nat} (hg : Gl X "enumerate") (hm : X.mg "enumerate" = none) (h : DA X [e] t) (hs : starEach [e] X.env = [(false, eval e X.env)] := by rfl) :
    DI X (.Tuple elts kk tpos) (.Call (.Name "enumerate" p) [e] [] pos) (dEnumT t) := (pi_enumT hg hm h hs).weaken fun σ H R q => by
  obtain ⟨F, ρ, μ, Qd, Rl, hd, k⟩ := q
  refine ⟨F, ρ, μ, _, Rl, hd, fun vs F' μ' H' ds e o w q => ?_⟩
  split at q
  · cases w with
    | cons h r =>
      cases r
      cases h with
      | tup h r => exact ⟨_, _, rfl, SqT.mono' o.sub h.sq, k _ F' μ' H' _ _ e o (itd_enumT h.sq r) q⟩
  · exact q.elim
theorem de_globS {X : Cx} {x : Str} {y : Str} {t : Tok} {pos : Pos} (s : List Nat) (hg : Gl X x) (hm : X.mg x = some (.str y t)) (h : y = S s := by decide +kernel) (hdb : (x == ("__debug__" : Str)) = false := by decide) : DE X (.Name x pos) (dC (.str s)) :=
  de_glob (v := .str y) hg hm ⟨_, rfl⟩ (fun F => by subst h; exact .str s) hdb
theorem de_globI {X : Cx} {x : Str} {i : Int} {t : Tok} {pos : Pos} (hg : Gl X x) (hm : X.mg x = some (.int i t)) (hdb : (x == ("__debug__" : Str)) = false := by decide) : DE X (.Name x pos) (dC (.int i)) :=
  de_glob (v := .int i) hg hm ⟨_, rfl⟩ (fun F => .int i) hdb
end DL

namespace DL
open PySem PySem.Spec PyProof.Rows L2
/-- the deck at j, its great cells at c, at most b draws without them so far -/
def Deck (j c : Addr) (b : Nat) (μ : Sto) : Prop := ∃ (n : Nat) (cells great : List Nat), n ≤ b ∧ j ≠ c ∧ cells ≠ [] ∧ cells.length ≤ 64 ∧ μ j = some (.lst [.ref c, .lst (nats cells), .int n]) ∧ μ c = some (.lst (nats great)) ∧ great.length ≤ 63
def StD (j c : Addr) (μ0 : Sto) (b : Nat) (μ : Sto) : Prop := Deck j c b μ ∧ Same j c μ0 μ
theorem Deck.le {j c : Addr} {b b' : Nat} {μ : Sto} (h : Deck j c b μ) (le : b ≤ b') : Deck j c b' μ := by
  obtain ⟨n, m, cells, hn, r⟩ := h
  exact ⟨n, m, cells, Nat.le_trans hn le, r⟩
theorem StD.le {j c : Addr} {b b' : Nat} {μ0 μ : Sto} (h : StD j c μ0 b μ) (le : b ≤ b') : StD j c μ0 b' μ := ⟨h.1.le le, h.2⟩
def drawSpD (k : Nat) (pre : List D → (D → Prop) → Prop) : DSp := fun ds μ Q _ => ∃ j c b r, ds = .ref j :: r ∧ Deck j c b μ ∧ b + k ≤ 1000000 ∧ ∃ R, pre r R ∧ ∀ d μ', R d → Deck j c (b + k) μ' → Same j c μ μ' → Q d μ'
theorem drawD_ok {k : Nat} {pre : List D → (D → Prop) → Prop} {j c : Addr} {b : Nat} {μ0 μ : Sto} {r : List D} {R : D → Prop} {Q : DK} {E : DXK} (h : StD j c μ0 b μ) (hb : b + k ≤ 1000000) (hp : pre r R)
    (q : ∀ d μ', R d → StD j c μ0 (b + k) μ' → Q d μ') : drawSpD k pre (.ref j :: r) μ Q E := ⟨j, c, b, r, rfl, h.1, hb, R, hp, fun d μ' h1 h2 h3 => q d μ' h1 ⟨h2, h.2.trans h3⟩⟩
def sp_law_deck : DSp := fun ds μ Q _ => ∃ ns : List Int, ds = [.scr ns] ∧ ns.length ≤ 63 ∧ ∀ j c μ', Deck j c 0 μ' → μ j = none → μ c = none → Same j c μ μ' → Q (.ref j) μ'
def b_law_deck_2 : TSD :=
  (dRet (dM (dLstF (dCons (dM (dLc [2] (dEach (dVar 1)) (dName 2) (dB (dOp rdGe (dLook 2) (dOp rdPow (dC (.int 10)) (dC (.int 18))))) (dVar 2))) (dCons (dOp rdAdd (dLook 1) (dLst (dCons (dOp rdAdd (dFn rdLen (dCons (dLook 1) dNil)) (dC (.int 7))) dNil))) (dCons (dC (.int 0)) dNil))))))
/-- _law_deck(_law_script); slots 0:_law_script 1:_law_cells 2:_law_cell -/
def b_law_deck : TSD :=
  (dSeq (dSetR 1 (dVal (dF (dLc [2] (dEach (dVar 0)) (dName 2) dYes (dFn rdAbs (dCons (dLook 2) dNil))))))
  b_law_deck_2)
theorem len_law_deck : ∀ ds μ Q E, sp_law_deck ds μ Q E → ds.length = 1 := by
  rintro ds μ Q E ⟨ns, rfl, _⟩; rfl
theorem okEq_nats (l : List Nat) : okEq (.lst (nats l)) (.lst []) := by
  have := okEq_ints (l.map fun x : Nat => (x : Int)) []
  rw [List.map_map] at this
  exact this
theorem ok_law_deck : ∀ ds μ Q E, sp_law_deck ds μ Q E → b_law_deck { nx := fun _ μ' => Q .non μ', rt := Q } (startD 3 ds) μ := by
  rintro ds μ Q E ⟨ns, rfl, hn, q⟩
  unfold b_law_deck
  simp
  refine lcD_list ns D.int (fun i => .int (i.natAbs : Nat)) trivial (by simp; omega) ?_ ?_
  · intro i hi k hk
    have : (if i < 0 then -i else i) = (i.natAbs : Int) := by split <;> omega
    simpa [this] using hk
  unfold b_law_deck_2
  simp
  rw [show (List.map (fun i : Int => D.int (i.natAbs : Int)) ns) = nats (ns.map (·.natAbs)) by simp]
  refine lcD_listF (ns.map (·.natAbs)) (fun n : Nat => decide ((1000000000000000000 : Int) ≤ (n : Int))) (inv := still) _ (fun n => .int (n : Nat)) trivial (by simp; omega) ?_ ?_
  · intro a ha k n h1 h2
    simp [powOk]
    split
    · rename_i hc; exact h1 (decide_eq_true hc)
    · rename_i hc; exact h2 (decide_eq_false hc)
  intro p hp
  refine ⟨by omega, fun p1 hp1 => ?_⟩
  have hne : p1 ≠ p := fun e => by subst e; rw [sset_same] at hp1; cases hp1
  refine q p1 p _ ⟨0, ns.map (·.natAbs) ++ [ns.length + 7], (ns.map (·.natAbs)).filter fun n : Nat => decide ((1000000000000000000 : Int) ≤ (n : Int)), Nat.le_refl _, hne, by simp, by simp; omega, ?_, ?_, ?_⟩ (by rw [sset_ne hne] at hp1; exact hp1) hp fun a h1 h2 => by rw [sset_ne h1, sset_ne h2]
  · rw [sset_same]; simp
  · rw [sset_ne hne.symm, sset_same]
  · exact Nat.le_trans (List.length_filter_le _ _) (by simp; exact hn)
def sp_law_draw : DSp := drawSpD 1 fun r R => ∃ m : Nat, r = [.int m] ∧ 0 < m ∧ m < 100000000000000 ∧ R = fun d => ∃ x : Nat, x < m ∧ d = .int x
theorem draw1_ok {j c : Addr} {b m : Nat} {μ0 μ : Sto} {Q : DK} {E : DXK} (h : StD j c μ0 b μ) (hb : b + 1 ≤ 1000000) (m0 : 0 < m) (m1 : m < 100000000000000) (q : ∀ (x : Nat) μ', x < m → StD j c μ0 (b + 1) μ' → Q (.int x) μ') :
    sp_law_draw [.ref j, .int m] μ Q E := drawD_ok h hb ⟨m, rfl, m0, m1, rfl⟩ fun d μ' ⟨x, hx, e⟩ h2 => e ▸ q x μ' hx h2
def b_law_draw_1l_2t_2 : TSD :=
  (dRet (dOp rdMod (dLook 2) (dLook 1)))
def b_law_draw_1l_2t : TSD :=
  (dSeq (dPutM (dOp rdDiv (dLook 2) (dLook 1)) (dOp rdIx (dLook 0) (dC (.int 0))) (dC (.int 0)))
  b_law_draw_1l_2t_2)
def b_law_draw_1l_3 : TSD :=
  (dDrop (dMt "list" rdPopAt (dOp rdIx (dLook 0) (dC (.int 0))) (dCons (dC (.int 0)) dNil)))
def b_law_draw_1l_2 : TSD :=
  (dSeq (dIfS (dB (dOp rdGt (dLook 2) (dC (.int 0))))
  b_law_draw_1l_2t
  dNext)
  b_law_draw_1l_3)
def b_law_draw_1l : TSD :=
  (dSeq (dSetR 2 (dVal (dOp rdIx (dOp rdIx (dLook 0) (dC (.int 0))) (dC (.int 0)))))
  b_law_draw_1l_2)
def b_law_draw_6 : TSD :=
  (dRet (dOp rdMod (dOp rdDiv (dOp rdMod (dOp rdMul (dLook 4) (dLook 4)) (dC (.int 2147483563))) (dC (.int 16))) (dLook 1)))
def b_law_draw_5 : TSD :=
  (dSeq (dSetR 4 (dVal (dOp rdMod (dOp rdAdd (dLook 4) (dOp rdMul (dOp rdMul (dC (.int 48271)) (dOp rdIx (dLook 0) (dC (.int 2)))) (dOp rdIx (dLook 0) (dC (.int 2))))) (dC (.int 2147483587)))))
  b_law_draw_6)
def b_law_draw_4 : TSD :=
  (dSeq (dSetR 4 (dVal (dOp rdAdd (dOp rdMul (dLook 3) (dOp rdAdd (dC (.int 69621)) (dOp rdMul (dC (.int 2)) (dOp rdIx (dLook 0) (dC (.int 2)))))) (dC (.int 30011)))))
  b_law_draw_5)
def b_law_draw_3 : TSD :=
  (dSeq (dSetR 3 (dVal (dOp rdMod (dOp rdIx (dOp rdIx (dLook 0) (dC (.int 1))) (dOp rdMod (dOp rdIx (dLook 0) (dC (.int 2))) (dFn rdLen (dCons (dOp rdIx (dLook 0) (dC (.int 1))) dNil)))) (dC (.int 2147483629)))))
  b_law_draw_4)
def b_law_draw_2 : TSD :=
  (dSeq (dPutM (dOp rdAdd (dOp rdIx (dLook 0) (dC (.int 2))) (dC (.int 1))) (dVar 0) (dC (.int 2)))
  b_law_draw_3)
/-- _law_draw(_law_deck_here, _law_below); slots 0:_law_deck_here 1:_law_below 2:_law_rest 3:_law_cell 4:_law_mixed -/
def b_law_draw : TSD :=
  (dSeq (dWhile (dB (dOp rdNeR (dOp rdIx (dLook 0) (dC (.int 0))) (dLst dNil)))
  b_law_draw_1l)
  b_law_draw_2)
theorem len_law_draw : ∀ ds μ Q E, sp_law_draw ds μ Q E → ds.length = 2 := by
  rintro ds μ Q E ⟨j, c, b, r, rfl, _, _, R, ⟨m, rfl, _⟩, _⟩; rfl
theorem ok_law_draw : ∀ ds μ Q E, sp_law_draw ds μ Q E → b_law_draw { nx := fun _ μ' => Q .non μ', rt := Q } (startD 5 ds) μ := by
  rintro ds μ Q E ⟨j, c, b, r, rfl, ⟨n, cells, great, hn, hjc, hce, hcl, hj, hc, hl⟩, hb, R, ⟨m, rfl, m0, m1, rfl⟩, q⟩
  unfold b_law_draw
  rw [dSeq]
  refine dWhile_inv (fun k ρ μ' => ∃ gs x2, k = gs.length ∧ ρ = [some (.val (.ref j)), some (.val (.int m)), x2, none, none] ∧ μ' j = some (.lst [.ref c, .lst (nats cells), .int n]) ∧ μ' c = some (.lst (nats gs)) ∧ gs.length ≤ 63 ∧ Same j c μ μ') ?_ great.length ⟨great, none, rfl, rfl, hj, hc, hl, .refl⟩
  rintro k ρ μ1 nn ⟨gs, x2, rfl, rfl, hj1, hc1, hl1, s1⟩ hnn
  simp [hj1, hc1]
  refine ⟨okEq_nats gs, ?_⟩
  rw [eqvs_nil_r]
  cases gs with
  | nil =>
    rw [if_pos (by rfl)]
    unfold b_law_draw_2
    simp [hj1]
    have hj2 : sset μ1 j (MO.lst [D.ref c, D.lst (nats cells), D.int (↑n + 1)]) j = some (.lst [D.ref c, D.lst (nats cells), D.int ((n + 1 : Nat) : Int)]) := sset_same
    have hc2 : sset μ1 j (MO.lst [D.ref c, D.lst (nats cells), D.int (↑n + 1)]) c = some (.lst []) := by rw [sset_ne hjc.symm]; exact hc1
    have s2 : Same j c μ (sset μ1 j (MO.lst [D.ref c, D.lst (nats cells), D.int (↑n + 1)])) := fun a h1 h2 => (sset_ne h1).trans (s1 a h1 h2)
    generalize sset μ1 j (MO.lst [D.ref c, D.lst (nats cells), D.int (↑n + 1)]) = μ2 at hj2 hc2 s2
    have fin : ∀ v : Int, Q (D.int (v % (m : Int))) μ2 := fun v => by
      have h1 := Int.emod_nonneg v (b := (m : Int)) (by omega)
      have h2 := Int.emod_lt_of_pos v (b := (m : Int)) (by omega)
      exact q _ _ ⟨(v % (m : Int)).toNat, by omega, by congr 1; omega⟩ ⟨n + 1, cells, [], by omega, hjc, hce, hcl, hj2, hc2, by simp⟩ s2
    have hcp : 0 < cells.length := List.length_pos_iff.mpr hce
    obtain ⟨N, hN⟩ : ∃ N : Int, ((n + 1 : Nat) : Int) = N := ⟨_, rfl⟩
    rw [hN] at hj2
    obtain ⟨y, hy1, hy2⟩ := atI_of (xs := nats cells) (i := N % (cells.length : Int)) (Int.emod_nonneg _ (by omega)) (by simpa using Int.emod_lt_of_pos _ (by omega))
    obtain ⟨z, hz, rfl⟩ := List.mem_map.mp hy2
    unfold b_law_draw_3
    simp [hj2]
    refine ⟨by omega, _, hy1, ?_⟩
    simp
    have b1 := Int.emod_nonneg (z : Int) (b := 2147483629) (by omega)
    have b2 := Int.emod_lt_of_pos (z : Int) (b := 2147483629) (by omega)
    generalize (z : Int) % 2147483629 = zz at b1 b2 ⊢
    unfold b_law_draw_4
    simp only [dSeq, dSetR, dVal, dOp, dLook, dC, hj2, List.getElem?_cons_succ, List.getElem?_cons_zero, rdIx_5]
    refine ⟨_, _, rfl, atI_2 _ _ _ _, ?_⟩
    rw [rdMul_1]
    refine ⟨.inl ⟨by omega, by omega⟩, ?_⟩
    rw [rdAdd_1, rdMul_1]
    refine ⟨.inl ⟨by omega, by omega⟩, ?_⟩
    rw [rdAdd_1]
    generalize zz * (69621 + 2 * N) + 30011 = yy
    unfold b_law_draw_5
    simp only [dSeq, dSetR, dVal, dOp, dLook, dC, hj2, List.getElem?_cons_succ, List.getElem?_cons_zero, rdIx_5, List.set_cons_succ, List.set_cons_zero]
    refine ⟨_, _, rfl, atI_2 _ _ _ _, ?_⟩
    rw [rdMul_1]
    refine ⟨.inl ⟨by omega, by omega⟩, _, _, hj2, atI_2 _ _ _ _, ?_⟩
    rw [rdMul_1]
    refine ⟨.inr (.inl ⟨by omega, by omega⟩), ?_⟩
    rw [rdAdd_1, rdMod_i]
    refine ⟨by omega, ?_⟩
    generalize yy + 48271 * N * N = y
    unfold b_law_draw_6
    have b3 := Int.emod_nonneg y (b := 2147483587) (by omega)
    have b4 := Int.emod_lt_of_pos y (b := 2147483587) (by omega)
    simp [mulOk, divOk, m0]
    exact ⟨by omega, fin _⟩
  | cons x gs' =>
    rw [if_neg (by simp)]
    refine ⟨fun ρ' μ' => ∃ y, ρ' = [some (DS.val (D.ref j)), some (DS.val (D.int ↑m)), y, none, none] ∧ μ' j = some (MO.lst [D.ref c, D.lst (nats cells), D.int ↑n]) ∧ μ' c = some (MO.lst (nats gs')) ∧ Same j c μ μ', ?_, ?_⟩
    · rintro ρ' μ' ⟨y, rfl, h1, h2, h3⟩
      simp at hl1
      exact ⟨_, Nat.lt_succ_self _, gs', rfl, ⟨_, rfl⟩, h1, h2, by omega, h3⟩
    unfold b_law_draw_1l
    simp [hj1, hc1]
    unfold b_law_draw_1l_2
    simp
    by_cases hx : 0 < x
    · rw [if_pos hx]
      unfold b_law_draw_1l_2t b_law_draw_1l_2t_2
      simp [hj1, hc1, divOk, m0]
      refine ⟨.inr (log_lt (k := 9000) (by decide) (Nat.lt_of_lt_of_le (Nat.lt_trans m1 (by decide : 100000000000000 < 2 ^ 50)) (Nat.pow_le_pow_right (by decide) (by decide)))), ?_⟩
      refine q _ _ ⟨x % m, Nat.mod_lt _ m0, rfl⟩ ⟨n, cells, (x / m) :: gs', by omega, hjc, hce, hcl, by rw [sset_ne hjc]; exact hj1, by rw [sset_same]; simp, by simpa using hl1⟩ fun a h1 h2 => by rw [sset_ne h2]; exact s1 a h1 h2
    · rw [if_neg hx]
      have hx0 : x = 0 := by omega
      subst hx0
      unfold b_law_draw_1l_3
      simp [hj1, hc1]
      refine ⟨⟨_, by unfold refLst; rw [hc1]⟩, 0, ?_, ⟨_, rfl⟩, by rw [sset_ne hjc]; exact hj1, by rw [sset_same]; rfl, fun a h1 h2 => by rw [sset_ne h2]; exact s1 a h1 h2⟩
      unfold seqIndex?
      simp
end DL

namespace DL
open PySem PySem.Spec PyProof.Rows L2
/-- a stroke: letter, force; or a tear -/
abbrev HI := Option (Nat × Nat)
def itemD : HI → D
  | none => .non
  | some (c, f) => .tup [.str [c], .int (f : Nat)]
abbrev histD (h : List HI) : D := .tup (h.map itemD)
/-- right for so many sheets that are left -/
def okH : Nat → List HI → Prop
  | l, [] => l = 1
  | l, none :: r => 2 ≤ l ∧ okH (l - 1) r
  | l, some (c, f) :: r => (97 ≤ c ∧ c ≤ 122) ∧ 1 ≤ f ∧ f ≤ l ∧ okH l r
/-- the same, but ends with any number of sheets left -/
def okB : Nat → List HI → Nat → Prop
  | l, [], e => l = e
  | l, none :: r, e => 2 ≤ l ∧ okB (l - 1) r e
  | l, some (c, f) :: r, e => (97 ≤ c ∧ c ≤ 122) ∧ 1 ≤ f ∧ f ≤ l ∧ okB l r e
theorem okB_app : ∀ {l m e : Nat} {h g : List HI}, okB l h m → okB m g e → okB l (h ++ g) e
  | _, _, _, [], _, a, b => by cases (show _ = _ from a); exact b
  | l, m, e, none :: r, g, a, b => ⟨a.1, okB_app a.2 b⟩
  | l, m, e, some (c, f) :: r, g, a, b => ⟨a.1, a.2.1, a.2.2.1, okB_app a.2.2.2 b⟩
theorem okB_tears : ∀ k l, k < l → okB l (List.replicate k none) (l - k)
  | 0, l, _ => rfl
  | k + 1, l, h => ⟨by omega, by have := okB_tears k (l - 1) (by omega); rwa [show l - 1 - k = l - (k + 1) by omega] at this⟩
theorem okB_one : ∀ {l : Nat} {h : List HI}, okB l h 1 ↔ okH l h
  | l, [] => Iff.rfl
  | l, none :: r => by have := @okB_one (l - 1) r; simp [okB, okH, this]
  | l, some (c, f) :: r => by have := @okB_one l r; simp [okB, okH, this]
end DL

namespace DL
open PySem PySem.Spec PyProof.Rows L2
/-- its letters are a, b, c, z -/
def hABC (h : List HI) : Prop := ∀ c f, some (c, f) ∈ h → c = 97 ∨ c = 98 ∨ c = 99 ∨ c = 122
theorem hABC_none {h : List HI} (g : hABC h) (k : Nat) : hABC (h ++ List.replicate k none) := fun c f hc => by
  rcases List.mem_append.mp hc with hc | hc
  · exact g c f hc
  · cases (List.mem_replicate.mp hc).2
theorem hABC_n1 {h : List HI} (g : hABC h) : hABC (h ++ [none]) := hABC_none g 1
end DL

namespace DL
open PySem PySem.Spec PyProof.Rows L2
end DL

namespace DL
open PySem PySem.Spec PyProof.Rows L2
theorem zipIdx_enumD (f : List Nat → D) : ∀ (l : List (List Nat)) (k : Nat), enumD k (l.map f) = (l.zipIdx k).map fun p => .pr (.int (p.2 : Nat)) (f p.1)
  | [], _ => rfl
  | x :: l, k => by
    show _ :: enumD (k + 1) (l.map f) = _
    rw [zipIdx_enumD f l (k + 1)]
    rfl
/-- the words after a stroke -/
def wstroke (ws : List (List Nat)) (t c f : Nat) : List (List Nat) := ws.zipIdx.map fun p => if t ≤ p.2 ∧ p.2 < t + f then p.1 ++ [c] else p.1
theorem wstroke_get (ws : List (List Nat)) (t c f i : Nat) : (wstroke ws t c f)[i]? = (ws[i]?).map fun w => if t ≤ i ∧ i < t + f then w ++ [c] else w := by
  simp only [wstroke, List.getElem?_map, List.getElem?_zipIdx]
  cases ws[i]? <;> simp
abbrev wsD (ws : List (List Nat)) : D := .tup (ws.map D.str)
def WOk (ws : List (List Nat)) (m : Nat) : Prop := ∀ w ∈ ws, w.length ≤ m
def sp_with_stroke : DSp := fun ds μ Q _ => ∃ (ws : List (List Nat)) (t c f m : Nat), ds = [wsD ws, .int t, .tup [.str [c], .int f]] ∧ WOk ws m ∧ m ≤ 100000 ∧ ws.length ≤ 1000 ∧ Q (wsD (wstroke ws t c f)) μ
def b_with_stroke_2 : TSD :=
  (dRet (dFn rdTuple (dCons (dF (dLc [5, 6] (dEnumT (dCons (dVar 0) dNil)) (dUnp 2 (gdCons (dName 5) (gdCons (dName 6) gdNil))) dYes (dOp rdAdd (dLook 6) (dOp rdMul (dLook 3) (dFn rdInt (dCons (dChain rdLe rdLt (dLook 1) (dLook 5) (dOp rdAdd (dLook 1) (dLook 4))) dNil)))))) dNil)))
/-- with_stroke(words, top, stroke); slots 0:words 1:top 2:stroke 3:letter 4:force 5:at 6:word -/
def b_with_stroke : TSD :=
  (dSeq (dAsg (dVar 2) (dUnp 2 (gdCons (dName 3) (gdCons (dName 4) gdNil))))
  b_with_stroke_2)
theorem len_with_stroke : ∀ ds μ Q E, sp_with_stroke ds μ Q E → ds.length = 3 := by
  rintro ds μ Q E ⟨ws, t, c, f, m, rfl, _⟩; rfl
theorem ok_with_stroke : ∀ ds μ Q E, sp_with_stroke ds μ Q E → b_with_stroke { nx := fun _ μ' => Q .non μ', rt := Q } (startD 7 ds) μ := by
  rintro ds μ Q E ⟨ws, t, c, f, m, rfl, hw, hm, hl, q⟩
  unfold b_with_stroke
  simp
  unfold b_with_stroke_2
  simp
  rw [zipIdx_enumD]
  refine lcD_list ws.zipIdx _ (fun p => .str (if t ≤ p.2 ∧ p.2 < t + f then p.1 ++ [c] else p.1)) trivial (by simp; omega) ?_ ?_
  · rintro ⟨w, i⟩ hp k hk
    have h1 := hw w (by
      have := List.mem_zipIdx hp
      simp at this
      rw [this.2]
      exact List.getElem_mem _)
    simp at hk ⊢
    by_cases h2 : t ≤ i
    · by_cases h3 : i < t + f
      · have h4 : (i : Int) < (t : Int) + (f : Int) := by omega
        simp [h2, h3, h4, repl] at hk ⊢
        exact ⟨by omega, hk⟩
      · have h4 : ¬ (i : Int) < (t : Int) + (f : Int) := by omega
        simp [h2, h3, h4, repl] at hk ⊢
        exact ⟨by omega, hk⟩
    · simp [h2, repl] at hk ⊢
      exact ⟨by omega, hk⟩
  · have e : (ws.zipIdx.map fun p => D.str (if t ≤ p.2 ∧ p.2 < t + f then p.1 ++ [c] else p.1)) = (wstroke ws t c f).map D.str := by
      simp [wstroke]
    rw [e]
    exact q
/-- what the strokes write on sheet i, from the top sheet t on -/
def lt : List HI → Nat → Nat → List Nat
  | [], _, _ => []
  | none :: r, t, i => lt r (t + 1) i
  | some (c, f) :: r, t, i => if t ≤ i ∧ i < t + f then c :: lt r t i else lt r t i
/-- the sheets that a history writes -/
def outs (n : Nat) (h : List HI) : List (List Nat) := (List.range n).map fun i => lt h 0 i
theorem lt_le : ∀ (h : List HI) (t i : Nat), (lt h t i).length ≤ h.length
  | [], _, _ => Nat.le_refl _
  | none :: r, t, i => by have := lt_le r (t + 1) i; simp [lt]; omega
  | some (c, f) :: r, t, i => by
    have := lt_le r t i
    simp only [lt]
    split <;> simp <;> omega
end DL

namespace DL
open PySem PySem.Spec PyProof.Rows L2
def tears (h : List HI) : Nat := (h.filter Option.isNone).length
theorem tears_none (h : List HI) : tears (none :: h) = tears h + 1 := rfl
theorem tears_some (p : Nat × Nat) (h : List HI) : tears (some p :: h) = tears h := rfl
theorem tears_app (h g : List HI) : tears (h ++ g) = tears h + tears g := by simp [tears]
theorem tears_n1 (h : List HI) : tears (h ++ [none]) = tears h + 1 := by rw [tears_app]; rfl
theorem tears_s1 (h : List HI) (p : Nat × Nat) : tears (h ++ [some p]) = tears h := by rw [tears_app]; rfl
theorem lt_app : ∀ (h g : List HI) (t i : Nat), lt (h ++ g) t i = lt h t i ++ lt g (t + tears h) i
  | [], g, t, i => by simp [lt, tears]
  | none :: r, g, t, i => by
    simp only [List.cons_append, lt]
    rw [lt_app r g (t + 1) i, tears_none, show t + 1 + tears r = t + (tears r + 1) by omega]
  | some (c, f) :: r, g, t, i => by
    simp only [List.cons_append, lt]
    rw [lt_app r g t i, tears_some]
    split <;> simp
def isLet : D → Bool
  | .str [c] => decide (97 ≤ c) && decide (c ≤ 122)
  | _ => false
theorem isLet_iff {v : D} (h : isLet v = true) : ∃ c, v = .str [c] ∧ 97 ≤ c ∧ c ≤ 122 := by
  unfold isLet at h
  split at h
  · simp at h; exact ⟨_, rfl, h.1, h.2⟩
  · cases h
abbrev abcz : List Nat := [97, 98, 99, 100, 101, 102, 103, 104, 105, 106, 107, 108, 109, 110, 111, 112, 113, 114, 115, 116, 117, 118, 119, 120, 121, 122]
theorem mem_abcz (c : Nat) : c ∈ abcz ↔ 97 ≤ c ∧ c ≤ 122 := by
  simp [abcz]
  omega
/-- texts are not too long -/
def sOk : D → Prop
  | .str s => s.length ≤ SZ
  | _ => True
def sp_is_letter : DSp := fun ds μ Q _ => ∃ v : D, ds = [v] ∧ isiOk v = true ∧ sOk v ∧ Q (.bl (isLet v)) μ
/-- is_letter(value); slots 0:value -/
def b_is_letter : TSD :=
  (dRet (dAndV (dFn rdIsi (dCons (dLook 0) (dCons (dC (.ty "str")) dNil))) (dAndV (dOp rdEq (dFn rdLen (dCons (dLook 0) dNil)) (dC (.int 1))) (dOp rdIn (dLook 0) (dC (.str [97, 98, 99, 100, 101, 102, 103, 104, 105, 106, 107, 108, 109, 110, 111, 112, 113, 114, 115, 116, 117, 118, 119, 120, 121, 122]))))))
theorem len_is_letter : ∀ ds μ Q E, sp_is_letter ds μ Q E → ds.length = 1 := by
  rintro ds μ Q E ⟨v, rfl, _⟩; rfl
theorem ok_is_letter : ∀ ds μ Q E, sp_is_letter ds μ Q E → b_is_letter { nx := fun _ μ' => Q .non μ', rt := Q } (startD 1 ds) μ := by
  rintro ds μ Q E ⟨v, rfl, hv, hs, q⟩
  unfold b_is_letter
  cases v <;> first | exact (Bool.false_ne_true hv).elim | skip
  case str s =>
    have hs : s.length ≤ SZ := hs
    simp at hs ⊢
    refine ⟨hs, ?_⟩
    split
    · rename_i h1
      obtain ⟨c, rfl⟩ : ∃ c, s = [c] := by
        match s, h1 with
        | [c], _ => exact ⟨c, rfl⟩
      simp
      have e : isLet (.str [c]) = decide (c ∈ abcz) := by
        unfold isLet
        rw [Bool.eq_iff_iff, decide_eq_true_eq, mem_abcz]; simp
      rw [e] at q
      simpa using q
    · rename_i h1
      have e : isLet (.str s) = false := by
        unfold isLet
        split
        · rename_i c h; cases h; simp at h1
        · rfl
      rw [e] at q
      exact q
  all_goals
    simp
    exact q
def isStr : D → Int → Bool
  | .tup [a, b], l => isLet a && btw b 1 l
  | _, _ => false
/-- what is_stroke looks at -/
def iOk : D → Prop
  | .tup ys => ys.length ≤ SZ ∧ ∀ y ∈ ys, isiOk y = true ∧ sOk y
  | _ => True
def sp_is_stroke : DSp := fun ds μ Q _ => ∃ (v : D) (l : Int), ds = [v, .int l] ∧ isiOk v = true ∧ iOk v ∧ Q (.bl (isStr v l)) μ
def b_is_stroke_2 : TSD :=
  (dRet (dAndV (dCall sp_is_letter (dCons (dOp rdIx (dLook 0) (dC (.int 0))) dNil) noD) (dCall sp_is_between (dCons (dOp rdIx (dLook 0) (dC (.int 1))) (dCons (dC (.int 1)) (dCons (dVar 1) dNil))) noD)))
/-- is_stroke(value, left); slots 0:value 1:left -/
def b_is_stroke : TSD :=
  (dSeq (dIfS (dOr (dNot (dB (dFn rdIsi (dCons (dLook 0) (dCons (dC (.ty "tuple")) dNil))))) (dB (dOp rdNe (dFn rdLen (dCons (dLook 0) dNil)) (dC (.int 2)))))
  (dRet (dC (.bl false)))
  dNext)
  b_is_stroke_2)
theorem len_is_stroke : ∀ ds μ Q E, sp_is_stroke ds μ Q E → ds.length = 2 := by
  rintro ds μ Q E ⟨v, l, rfl, _⟩; rfl
theorem ok_is_stroke : ∀ ds μ Q E, sp_is_stroke ds μ Q E → b_is_stroke { nx := fun _ μ' => Q .non μ', rt := Q } (startD 2 ds) μ := by
  rintro ds μ Q E ⟨v, l, rfl, hv, hs, q⟩
  unfold b_is_stroke
  cases v <;> first | exact (Bool.false_ne_true hv).elim | skip
  case tup ys =>
    obtain ⟨h1, h2⟩ := hs
    simp
    split
    · rename_i hl
      obtain ⟨a, b, rfl⟩ : ∃ a b, ys = [a, b] := by
        match ys, hl with
        | [a, b], _ => exact ⟨a, b, rfl⟩
      unfold b_is_stroke_2
      simp
      refine ⟨a, rfl, (h2 a (by simp)).1, (h2 a (by simp)).2, ?_⟩
      have q : Q (.bl (isLet a && btw b 1 l)) μ := q
      simp
      split
      · rename_i h3
        rw [h3] at q
        exact ⟨b, 1, l, rfl, (h2 b (by simp)).1, q⟩
      · rename_i h3
        rw [Bool.not_eq_true] at h3
        rw [h3] at q
        exact q
    · rename_i hl
      have e : isStr (.tup ys) l = false := by
        unfold isStr
        split
        · rename_i h; cases h; simp at hl
        · rfl
      rw [e] at q
      exact q
  all_goals
    simp
    exact q
/-- what is_history finds: the items as strokes and tears -/
def judH : Nat → List D → Option (List HI)
  | l, [] => if l = 1 then some [] else none
  | l, .non :: r => if 2 ≤ l then (judH (l - 1) r).map (none :: ·) else none
  | l, .tup [.str [c], .int f] :: r => if 97 ≤ c ∧ c ≤ 122 ∧ 1 ≤ f ∧ f ≤ l then (judH l r).map (some (c, f.toNat) :: ·) else none
  | _, _ :: _ => none
theorem judH_ok : ∀ (l : Nat) (h : List HI), okH l h → judH l (h.map itemD) = some h
  | l, [], h => by simp [judH]; exact h
  | l, none :: r, h => by
    have := judH_ok (l - 1) r h.2
    show (if 2 ≤ l then (judH (l - 1) (r.map itemD)).map (none :: ·) else none) = _
    rw [if_pos h.1, this]; rfl
  | l, some (c, f) :: r, h => by
    have := judH_ok l r h.2.2.2
    show (if 97 ≤ c ∧ c ≤ 122 ∧ (1 : Int) ≤ (f : Nat) ∧ ((f : Nat) : Int) ≤ l then (judH l (r.map itemD)).map (some (c, ((f : Nat) : Int).toNat) :: ·) else none) = _
    rw [if_pos ⟨h.1.1, h.1.2, by have := h.2.1; omega, by have := h.2.2.1; omega⟩, this]
    simp
def short (n : Nat) (h : List HI) : Bool := (outs n h).all fun w => decide (w.length ≤ 30)
def hstGo (n l : Nat) (pre : List HI) (xs : List D) : Bool := match judH l xs with
  | some h => short n (pre ++ h)
  | none => false
def isHst (n : Nat) : D → Bool
  | .tup xs => hstGo n n [] xs
  | _ => false
def jOk : D → Prop
  | .tup xs => xs.length ≤ 1000 ∧ ∀ x ∈ xs, isiOk x = true ∧ iOk x
  | _ => True
def sp_is_history : DSp := fun ds μ Q _ => ∃ (n : Nat) (v : D), ds = [.int n, v] ∧ 1 ≤ n ∧ n ≤ 100 ∧ isiOk v = true ∧ jOk v ∧ Q (.bl (isHst n v)) μ
def b_is_history_3l_1e : TSD :=
  (dIfS (dB (dCall sp_is_stroke (dCons (dVar 4) (dCons (dOp rdSub (dLook 0) (dLook 3)) dNil)) noD))
  (dSetR 2 (dVal (dCall sp_with_stroke (dCons (dVar 2) (dCons (dVar 3) (dCons (dVar 4) dNil))) noD)))
  (dRet (dC (.bl false))))
def b_is_history_3l_2 : TSD :=
  (dIfS (dOr (dB (dOp rdEq (dLook 3) (dLook 0))) (dB (dOp rdGt (dFn rdLen (dCons (dOp rdIx (dLook 2) (dLook 3)) dNil)) (dC (.int 30)))))
  (dRet (dC (.bl false)))
  dNext)
def b_is_history_3l : TSD :=
  (dSeq (dIfS (dB (dOp rdIs (dLook 4) (dC .non)))
  (dSetR 3 (dVal (dOp rdAdd (dLook 3) (dC (.int 1)))))
  b_is_history_3l_1e)
  b_is_history_3l_2)
def b_is_history_4 : TSD :=
  (dRet (dAndV (dOp rdEq (dLook 3) (dOp rdSub (dLook 0) (dC (.int 1)))) (dFn rdAll (dCons (dF (dLc [5] (dEach (dVar 2)) (dName 5) dYes (dOp rdLe (dFn rdLen (dCons (dLook 5) dNil)) (dC (.int 30))))) dNil))))
def b_is_history_3 : TSD :=
  (dSeq (dFor (dEach (dVar 1)) (dName 4)
  b_is_history_3l)
  b_is_history_4)
def b_is_history_2 : TSD :=
  (dSeq (dPar2 2 3 (dVal (dOp rdMul (dTup (dCons (dC (.str [])) dNil)) (dLook 0))) (dVal (dC (.int 0))))
  b_is_history_3)
/-- is_history(n, value); slots 0:n 1:value 2:words 3:top 4:item 5:word -/
def b_is_history : TSD :=
  (dSeq (dIfS (dNot (dB (dFn rdIsi (dCons (dLook 1) (dCons (dC (.ty "tuple")) dNil)))))
  (dRet (dC (.bl false)))
  dNext)
  b_is_history_2)
theorem len_is_history : ∀ ds μ Q E, sp_is_history ds μ Q E → ds.length = 2 := by
  rintro ds μ Q E ⟨n, v, rfl, _⟩; rfl
theorem short_get {n : Nat} {h : List HI} (hs : short n h = true) {i : Nat} (hi : i < n) : (lt h 0 i).length ≤ 30 := by
  unfold short outs at hs
  rw [List.all_eq_true] at hs
  simpa using hs (lt h 0 i) (List.mem_map.mpr ⟨i, List.mem_range.mpr hi, rfl⟩)
theorem short_far {n i : Nat} {h g : List HI} (hi : i < n) (hl : 30 < (lt h 0 i).length) : short n (h ++ g) = false := by
  rw [← Bool.not_eq_true]
  intro hs
  have := short_get hs hi
  rw [lt_app] at this
  simp at this
  omega
theorem hst_none {n l : Nat} {pre : List HI} {xs : List D} (h : judH l xs = none) : hstGo n l pre xs = false := by unfold hstGo; rw [h]
theorem hst_far {n l i : Nat} {pre : List HI} {xs : List D} (hi : i < n) (hl : 30 < (lt pre 0 i).length) : hstGo n l pre xs = false := by
  unfold hstGo
  split
  · exact short_far hi hl
  · rfl
theorem outs_len (n : Nat) (h : List HI) : (outs n h).length = n := by simp [outs]
theorem outs_get {n i : Nat} (h : List HI) (hi : i < n) : (outs n h)[i]? = some (lt h 0 i) := by
  unfold outs
  rw [List.getElem?_map, List.getElem?_range hi]; rfl
theorem outs_WOk (n : Nat) (h : List HI) : WOk (outs n h) h.length := by
  intro w hw
  obtain ⟨i, _, rfl⟩ := List.mem_map.mp hw
  exact lt_le h 0 i
theorem outs_none (n : Nat) (h : List HI) : outs n (h ++ [none]) = outs n h := by
  unfold outs
  refine List.map_congr_left fun i _ => ?_
  rw [lt_app]; simp [lt]
theorem outs_some (n : Nat) (h : List HI) (c f : Nat) : outs n (h ++ [some (c, f)]) = wstroke (outs n h) (tears h) c f := by
  apply List.ext_getElem?
  intro i
  rw [wstroke_get]
  by_cases hi : i < n
  · rw [outs_get _ hi, outs_get _ hi, lt_app]
    simp only [lt, Nat.zero_add, Option.map_some]
    split <;> simp
  · rw [List.getElem?_eq_none (by rw [outs_len]; omega), List.getElem?_eq_none (by rw [outs_len]; omega)]; rfl
theorem ok_is_history : ∀ ds μ Q E, sp_is_history ds μ Q E → b_is_history { nx := fun _ μ' => Q .non μ', rt := Q } (startD 6 ds) μ := by
  rintro ds μ Q E ⟨n, v, rfl, h1, h2, hv, hj, q⟩
  unfold b_is_history
  cases v <;> first | exact (Bool.false_ne_true hv).elim | skip
  case tup xs =>
    obtain ⟨hl, hx⟩ := hj
    have q : Q (.bl (hstGo n n [] xs)) μ := q
    simp
    unfold b_is_history_2
    simp
    refine ⟨by omega, ?_⟩
    unfold b_is_history_3
    simp [-forD]
    refine forD_inv (fun rest ρ μ' => μ' = μ ∧ ∃ (pre : List HI) (l : Nat) (x4 x5 : Option DS), ρ = [some (.val (.int n)), some (.val (.tup xs)), some (.val (wsD (outs n pre))), some (.val (.int (tears pre : Nat))), x4, x5] ∧ 1 ≤ l ∧ tears pre + l = n ∧ pre.length + rest.length ≤ 1000 ∧ (∀ x ∈ rest, isiOk x = true ∧ iOk x) ∧ Q (.bl (hstGo n l pre rest)) μ)
      (fun _ _ _ _ => trivial) ?_ ?_ _ _ _ ⟨rfl, [], n, none, none, ?_, h1, by simp [tears], by simpa using hl, hx, q⟩
    · rintro x rest ρ μ' nx ⟨rfl, pre, l, x4, x5, rfl, hl1, htl, hlen, hxs, hq⟩ hnx
      obtain ⟨hxi, hxo⟩ := hxs x (by simp)
      have hxs' : ∀ x ∈ rest, isiOk x = true ∧ iOk x := fun y hy => hxs y (by simp [hy])
      simp at hlen
      have htn : tears pre < n := by omega
      unfold b_is_history_3l
      by_cases hn : x = .non
      · subst hn
        simp
        unfold b_is_history_3l_2
        simp
        have hq : Q (.bl (hstGo n l pre (.non :: rest))) μ' := hq
        by_cases hl2 : 2 ≤ l
        · rw [if_neg (by omega), show ((tears pre : Int) + 1) = ((tears pre + 1 : Nat) : Int) by omega, atI_nat]
          simp [outs_get pre (show tears pre + 1 < n by omega)]
          have hle := outs_WOk n pre (lt pre 0 (tears pre + 1)) (List.mem_of_getElem? (outs_get pre (show tears pre + 1 < n by omega)))
          refine ⟨by omega, ?_⟩
          split
          · rename_i h30
            rw [hst_far (show tears pre + 1 < n by omega) (by omega)] at hq
            exact hq
          · refine hnx _ _ ⟨rfl, pre ++ [none], l - 1, _, _, by simp [outs_none, tears_n1]; exact ⟨rfl, rfl⟩, by omega, by rw [tears_n1]; omega, by simp; omega, hxs', ?_⟩
            have e : hstGo n l pre (.non :: rest) = hstGo n (l - 1) (pre ++ [none]) rest := by
              unfold hstGo
              show (match (if 2 ≤ l then (judH (l - 1) rest).map (none :: ·) else none) with | some h => short n (pre ++ h) | none => false) = _
              rw [if_pos hl2]
              cases judH (l - 1) rest <;> simp
            rw [← e]
            exact hq
        · rw [if_pos (by omega)]
          have e : judH l (.non :: rest) = none := by
            show (if 2 ≤ l then (judH (l - 1) rest).map (none :: ·) else none) = _
            rw [if_neg hl2]
          rw [hst_none e] at hq
          exact hq
      · have hnn : isNonD x = false := by
          cases x <;> first | rfl | exact absurd rfl hn
        simp [hnn]
        unfold b_is_history_3l_1e
        simp
        refine ⟨x, _, rfl, hxi, hxo, ?_⟩
        rw [show ((n : Int) - (tears pre : Int)) = ((l : Nat) : Int) by omega]
        simp
        split
        · rename_i hs
          obtain ⟨c, f, rfl, hc, hf⟩ : ∃ (c : Nat) (f : Int), x = .tup [.str [c], .int f] ∧ (97 ≤ c ∧ c ≤ 122) ∧ (1 ≤ f ∧ f ≤ l) := by
            unfold isStr at hs
            split at hs
            · rename_i a b
              rw [Bool.and_eq_true] at hs
              obtain ⟨c, rfl, hc⟩ := isLet_iff hs.1
              have h2 := hs.2
              unfold btw at h2
              split at h2
              · simp at h2; exact ⟨c, _, rfl, hc, h2⟩
              · cases h2
            · cases hs
          obtain ⟨g, rfl⟩ : ∃ g : Nat, f = g := ⟨f.toNat, by omega⟩
          refine ⟨outs n pre, tears pre, c, g, pre.length, rfl, outs_WOk n pre, by omega, by rw [outs_len]; omega, ?_⟩
          rw [← outs_some]
          unfold b_is_history_3l_2
          simp
          rw [if_neg (by omega), atI_nat]
          simp [outs_get (pre ++ [some (c, g)]) htn]
          have hle := outs_WOk n (pre ++ [some (c, g)]) (lt (pre ++ [some (c, g)]) 0 (tears pre)) (List.mem_of_getElem? (outs_get _ htn))
          simp at hle
          have e : hstGo n l pre (.tup [.str [c], .int g] :: rest) = hstGo n l (pre ++ [some (c, g)]) rest := by
            unfold hstGo
            show (match (if 97 ≤ c ∧ c ≤ 122 ∧ (1 : Int) ≤ (g : Nat) ∧ ((g : Nat) : Int) ≤ l then (judH l rest).map (some (c, ((g : Nat) : Int).toNat) :: ·) else none) with | some h => short n (pre ++ h) | none => false) = _
            rw [if_pos ⟨hc.1, hc.2, hf.1, hf.2⟩]
            cases judH l rest <;> simp
          rw [e] at hq
          refine ⟨by omega, ?_⟩
          split
          · rw [hst_far htn (by omega)] at hq
            exact hq
          · exact hnx _ _ ⟨rfl, pre ++ [some (c, g)], l, _, _, by simp [tears_s1]; exact ⟨rfl, rfl⟩, hl1, by rw [tears_s1]; omega, by simp; omega, hxs', hq⟩
        · rename_i hs
          have e : judH l (x :: rest) = none := by
            unfold judH
            split
            · rename_i h; cases h
            · rename_i h; cases h; exact absurd rfl hn
            · rename_i c f r h
              cases h
              rw [if_neg]
              rintro ⟨a1, a2, a3, a4⟩
              refine hs ?_
              unfold isStr isLet btw
              simp [a1, a2, a3, a4]
            · rfl
          rw [hst_none e] at hq
          exact hq
    · rintro ρ μ' ⟨rfl, pre, l, x4, x5, rfl, hl1, htl, hlen, hxs, hq⟩
      unfold b_is_history_4
      simp
      have e1 : hstGo n l pre [] = if l = 1 then short n pre else false := by
        unfold hstGo judH
        split
        · rename_i h
          split at h
          · rename_i hl'; cases h; simp [hl']
          · cases h
        · rename_i h
          split at h
          · cases h
          · rename_i hl'; simp [hl']
      rw [e1] at hq
      split
      · rename_i hc
        rw [if_pos (by omega)] at hq
        refine lcD_list (outs n pre) _ (fun w => .bl (decide (w.length ≤ 30))) trivial (by rw [outs_len]; simp; omega) ?_ ?_
        · intro w hw k hk
          have hle := outs_WOk n pre w hw
          simp at hlen
          simp
          refine ⟨by omega, ?_⟩
          have : decide ((w.length : Int) ≤ 30) = decide (w.length ≤ 30) := by rw [Bool.eq_iff_iff]; simp; omega
          rw [this]; exact hk
        · refine ⟨(outs n pre).map fun w => decide (w.length ≤ 30), by simp, ?_⟩
          simp
          exact hq
      · rename_i hc
        rw [if_neg (by omega)] at hq
        exact hq
    · have e1 : outs n [] = List.replicate n [] := by
        apply List.ext_getElem?
        intro i
        by_cases hi : i < n
        · rw [outs_get _ hi, List.getElem?_replicate, if_pos hi]; rfl
        · rw [List.getElem?_eq_none (by rw [outs_len]; omega), List.getElem?_eq_none (by simp; omega)]
      simp [tears, repl, e1]
  all_goals
    simp
    exact q
end DL

namespace DL
open PySem PySem.Spec PyProof.Rows L2
theorem outs_nil (n : Nat) : outs n [] = List.replicate n [] := by
  apply List.ext_getElem?
  intro i
  by_cases hi : i < n
  · rw [outs_get _ hi, List.getElem?_replicate, if_pos hi]; rfl
  · rw [List.getElem?_eq_none (by rw [outs_len]; omega), List.getElem?_eq_none (by simp; omega)]
def sp_written : DSp := fun ds μ Q _ => ∃ (n : Nat) (h : List HI), ds = [.int n, histD h] ∧ n ≤ 100 ∧ h.length ≤ 1000 ∧ Q (wsD (outs n h)) μ
def b_written_2l : TSD :=
  (dIfS (dB (dOp rdIs (dLook 4) (dC .non)))
  (dSetR 3 (dVal (dOp rdAdd (dLook 3) (dC (.int 1)))))
  (dSetR 2 (dVal (dCall sp_with_stroke (dCons (dVar 2) (dCons (dVar 3) (dCons (dVar 4) dNil))) noD))))
def b_written_3 : TSD :=
  (dRet (dLook 2))
def b_written_2 : TSD :=
  (dSeq (dFor (dEach (dVar 1)) (dName 4)
  b_written_2l)
  b_written_3)
/-- written(n, history); slots 0:n 1:history 2:words 3:top 4:item -/
def b_written : TSD :=
  (dSeq (dPar2 2 3 (dVal (dOp rdMul (dTup (dCons (dC (.str [])) dNil)) (dLook 0))) (dVal (dC (.int 0))))
  b_written_2)
theorem len_written : ∀ ds μ Q E, sp_written ds μ Q E → ds.length = 2 := by
  rintro ds μ Q E ⟨n, h, rfl, _⟩; rfl
theorem ok_written : ∀ ds μ Q E, sp_written ds μ Q E → b_written { nx := fun _ μ' => Q .non μ', rt := Q } (startD 5 ds) μ := by
  rintro ds μ Q E ⟨n, h, rfl, hn, hl, q⟩
  unfold b_written
  simp
  refine ⟨by omega, ?_⟩
  unfold b_written_2
  simp [-forD]
  refine forD_list itemD (fun rest ρ μ' => μ' = μ ∧ ∃ (pre : List HI) (x4 : Option DS), h = pre ++ rest ∧ ρ = [some (.val (.int n)), some (.val (histD h)), some (.val (wsD (outs n pre))), some (.val (.int (tears pre : Nat))), x4]) (fun _ _ _ _ => trivial) ?_ ?_ _ _ _ ⟨rfl, [], none, rfl, ?_⟩
  · rintro a rest ρ μ' nx ⟨rfl, pre, x4, e, rfl⟩ hnx
    have hpl : pre.length ≤ 1000 := by rw [e] at hl; simp at hl; omega
    unfold b_written_2l
    cases a with
    | none =>
      simp [itemD]
      exact hnx _ _ ⟨rfl, pre ++ [none], _, by simp [e], by simp [outs_none, tears_n1]; exact rfl⟩
    | some p =>
      obtain ⟨c, f⟩ := p
      simp [itemD]
      refine ⟨outs n pre, tears pre, c, f, pre.length, rfl, outs_WOk n pre, by omega, by rw [outs_len]; omega, ?_⟩
      rw [← outs_some]
      exact hnx _ _ ⟨rfl, pre ++ [some (c, f)], _, by simp [e], by simp [tears_s1]; exact rfl⟩
  · rintro ρ μ' ⟨rfl, pre, x4, e, rfl⟩
    rw [List.append_nil] at e
    subst e
    unfold b_written_3
    simp
    exact q
  · simp [tears, repl, outs_nil]
theorem eqvs_strs : ∀ a b : List (List Nat), D.eqvs (a.map D.str) (b.map D.str) = decide (a = b)
  | [], [] => rfl
  | [], _ :: _ => rfl
  | _ :: _, [] => rfl
  | x :: a, y :: b => by
    simp [eqvs_strs a b]
def WLow (ws : List (List Nat)) : Prop := ∀ w ∈ ws, ∀ c ∈ w, c < 1114112
theorem wsD_ic {ws : List (List Nat)} (h : WLow ws) : (wsD ws).ic ∧ (wsD ws).dp ≤ 1 := by
  refine ⟨(ics_iff _).mpr fun x hx => ?_, ?_⟩
  · obtain ⟨w, hw, rfl⟩ := List.mem_map.mp hx
    exact h w hw
  · show D.dps _ + 1 ≤ 1
    have := dps_le (k := 0) (ws.map D.str) fun x hx => by
      obtain ⟨w, _, rfl⟩ := List.mem_map.mp hx
      exact Nat.le_refl _
    omega
theorem lt_mem : ∀ (h : List HI) (t i : Nat), ∀ c ∈ lt h t i, ∃ f, some (c, f) ∈ h
  | [], _, _, c, hc => nomatch hc
  | none :: r, t, i, c, hc => by
    obtain ⟨f, hf⟩ := lt_mem r (t + 1) i c hc
    exact ⟨f, List.mem_cons_of_mem _ hf⟩
  | some (d, g) :: r, t, i, c, hc => by
    simp only [lt] at hc
    split at hc
    · rcases List.mem_cons.mp hc with rfl | hc
      · exact ⟨g, List.mem_cons_self⟩
      · obtain ⟨f, hf⟩ := lt_mem r t i c hc
        exact ⟨f, List.mem_cons_of_mem _ hf⟩
    · obtain ⟨f, hf⟩ := lt_mem r t i c hc
      exact ⟨f, List.mem_cons_of_mem _ hf⟩
theorem okH_low : ∀ {l : Nat} {h : List HI}, okH l h → ∀ c f, some (c, f) ∈ h → 97 ≤ c ∧ c ≤ 122
  | l, [], _, c, f, hm => nomatch hm
  | l, none :: r, a, c, f, hm => okH_low a.2 c f (by simpa using hm)
  | l, some (d, g) :: r, a, c, f, hm => by
    rcases List.mem_cons.mp hm with hm | hm
    · cases hm; exact a.1
    · exact okH_low a.2.2.2 c f hm
theorem outs_low {h : List HI} (hl : ∀ c f, some (c, f) ∈ h → 97 ≤ c ∧ c ≤ 122) (n : Nat) : WLow (outs n h) := by
  intro w hw c hc
  obtain ⟨i, _, rfl⟩ := List.mem_map.mp hw
  obtain ⟨f, hf⟩ := lt_mem h 0 i c hc
  have := hl c f hf
  omega
end DL

namespace DL
open PySem PySem.Spec PyProof.Rows L2
theorem okH_len : ∀ {l : Nat} {h : List HI}, okH l h → h.length + 1 = (h.filter Option.isSome).length + l
  | l, [], a => by cases (show l = 1 from a); rfl
  | l, none :: r, a => by
    have := okH_len a.2
    have := a.1
    simp
    omega
  | l, some (c, f) :: r, a => by
    have := okH_len a.2.2.2
    simp
    omega
theorem short_le {n : Nat} {h : List HI} (hh : (h.filter Option.isSome).length ≤ 30) : short n h = true := by
  have key : ∀ (h : List HI) (t i : Nat), (lt h t i).length ≤ (h.filter Option.isSome).length := by
    intro h
    induction h with
    | nil => intro t i; exact Nat.le_refl _
    | cons a r ih =>
      intro t i
      cases a with
      | none => simpa [lt] using ih (t + 1) i
      | some p =>
        obtain ⟨c, f⟩ := p
        have := ih t i
        simp only [lt]
        split <;> simp <;> omega
  unfold short outs
  rw [List.all_eq_true]
  intro w hw
  obtain ⟨i, _, rfl⟩ := List.mem_map.mp hw
  have := key h 0 i
  simp; omega
theorem isHst_ok {n : Nat} {h : List HI} (ho : okH n h) : isHst n (histD h) = short n h := by
  show hstGo n n [] (h.map itemD) = _
  unfold hstGo
  rw [judH_ok n h ho]
  rfl
theorem jOk_hist {h : List HI} (hl : h.length ≤ 1000) : jOk (histD h) := by
  refine ⟨by simpa using hl, fun x hx => ?_⟩
  obtain ⟨a, _, rfl⟩ := List.mem_map.mp hx
  cases a with
  | none => exact ⟨rfl, trivial⟩
  | some p =>
    refine ⟨rfl, by show 2 ≤ SZ; simp, fun y hy => ?_⟩
    have : y = .str [p.1] ∨ y = .int (p.2 : Nat) := by simpa using hy
    rcases this with rfl | rfl
    · exact ⟨rfl, by show 1 ≤ SZ; simp⟩
    · exact ⟨rfl, trivial⟩
/-- is_history at a history -/
theorem hst_go {n : Nat} {h : List HI} {μ : Sto} {Q : DK} {E : DXK} (h1 : 1 ≤ n) (h2 : n ≤ 100) (hl : h.length ≤ 1000) (q : Q (.bl (isHst n (histD h))) μ) : sp_is_history [.int n, histD h] μ Q E := ⟨n, _, rfl, h1, h2, rfl, jOk_hist hl, q⟩
end DL

namespace DL
open PySem PySem.Spec PyProof.Rows L2
def strokes (h : List HI) : Nat := (h.filter Option.isSome).length
def sp_count_strokes : DSp := fun ds μ Q _ => ∃ h : List HI, ds = [histD h] ∧ h.length ≤ 10000 ∧ Q (.int (strokes h)) μ
/-- count_strokes(history); slots 0:history 1:item -/
def b_count_strokes : TSD :=
  (dRet (dFn rdLen (dCons (dF (dLc [1] (dEach (dVar 0)) (dName 1) (dB (dOp rdIsNot (dLook 1) (dC .non))) (dVar 1))) dNil)))
theorem len_count_strokes : ∀ ds μ Q E, sp_count_strokes ds μ Q E → ds.length = 1 := by
  rintro ds μ Q E ⟨h, rfl, _⟩; rfl
theorem ok_count_strokes : ∀ ds μ Q E, sp_count_strokes ds μ Q E → b_count_strokes { nx := fun _ μ' => Q .non μ', rt := Q } (startD 2 ds) μ := by
  rintro ds μ Q E ⟨h, rfl, hl, q⟩
  unfold b_count_strokes
  simp
  refine lcD_listF h Option.isSome itemD itemD trivial (by simp; omega) ?_ ?_
  · intro a hma k nn g1 g2
    cases a with
    | none => simpa [itemD] using g2 rfl
    | some p => simpa [itemD] using g1 rfl
  · simpa [strokes] using q
end DL

namespace DL
open PySem PySem.Spec PyProof.Rows L2
end DL

namespace DL
open PySem PySem.Spec PyProof.Rows L2
open RZ (nextOf_tuple_item nextOf_tuple_end call_zipT pyNext_zipT_item pyNext_zipT_end)
section
variable {prog : Program} {w : World} {A : Around} {E : Value → Shared → Prop} {s : Shared}
/-- the pairs laid so far -/
structure ZGot (xs ys : Array Value) (base : Nat) (h : Heap) (ts : List Addr) : Prop where
  low : ∀ t ∈ ts, base ≤ t
  nd : ts.Nodup
  pr : ∀ (j : Nat) (t : Addr), ts[j]? = some t → ∃ x y, xs[j]? = some x ∧ ys[j]? = some y ∧ IsPair h t x y
theorem ZGot.keep {xs ys : Array Value} {base : Nat} {h h' : Heap} {ts : List Addr} (g : ZGot xs ys base h ts) (k : ∀ t, base ≤ t → ∀ o, h.get? t = some o → h'.get? t = some o) : ZGot xs ys base h' ts :=
  ⟨g.low, g.nd, fun j t e => let ⟨x, y, a, b, c⟩ := g.pr j t e; ⟨x, y, a, b, k t (g.low t (List.mem_of_getElem? e)) _ c⟩⟩
theorem ZGot.more {xs ys : Array Value} {base : Nat} {h : Heap} {ts : List Addr} {p : Addr} {x y : Value} (g : ZGot xs ys base h ts) (hp : base ≤ p) (hn : p ∉ ts) (hx : xs[ts.length]? = some x) (hy : ys[ts.length]? = some y) (hq : IsPair h p x y) : ZGot xs ys base h (ts ++ [p]) := by
  refine ⟨fun t ht => ?_, ?_, fun j t e => ?_⟩
  · rcases List.mem_append.mp ht with h1 | h1
    · exact g.low t h1
    · rw [List.mem_singleton.mp h1]; exact hp
  · rw [List.nodup_append]
    exact ⟨g.nd, by simp, fun a ha b hb => by rw [List.mem_singleton.mp hb]; exact fun e => hn (e ▸ ha)⟩
  · rcases Nat.lt_or_ge j ts.length with h1 | h1
    · rw [List.getElem?_append_left h1] at e; exact g.pr j t e
    · rw [List.getElem?_append_right h1] at e
      have hj : j = ts.length := by
        rcases Nat.eq_or_lt_of_le h1 with q | q
        · exact q.symm
        · rw [List.getElem?_eq_none (by simp; omega)] at e; cases e
      subst hj
      rw [Nat.sub_self] at e
      cases e
      exact ⟨x, y, hx, hy, hq⟩
/-- where the iterator stands -/
structure ZSt (z TI TO i1 i2 l1 l2 : Addr) (xs ys : Array Value) (i : Nat) (h : Heap) : Prop where
  pTI : IsPair h TI (.ref i1) (.ref i2)
  g1 : h.IsTupleIter i1 l1 i
  g2 : h.IsTupleIter i2 l2 i
  t1 : h.IsTuple l1 xs
  t2 : h.IsTuple l2 ys
  st : (IsZip h z TI TO .none ∧ ∃ a b, IsPair h TO a b) ∨ ∃ T f oT, IsZipHeld h z TI TO T f ∧ h.get? T = some oT ∧ T ≠ z ∧ T ≠ i1 ∧ T ≠ i2
structure ZOff (z TI TO i1 i2 l1 l2 S : Addr) : Prop where
  z : S ≠ z
  TI : S ≠ TI
  TO : S ≠ TO
  i1 : S ≠ i1
  i2 : S ≠ i2
  l1 : S ≠ l1
  l2 : S ≠ l2
theorem ZSt.upd {z TI TO i1 i2 l1 l2 S : Addr} {xs ys : Array Value} {i : Nat} {h h' : Heap} (a : ZSt z TI TO i1 i2 l1 l2 xs ys i h) (n : ZOff z TI TO i1 i2 l1 l2 S) (k : ∀ b o, b ≠ S → h.get? b = some o → h'.get? b = some o) (hS : ∀ o, h.get? S = some o → ∃ o', h'.get? S = some o') : ZSt z TI TO i1 i2 l1 l2 xs ys i h' := by
  refine ⟨k _ _ n.TI.symm a.pTI, a.g1.at fun o e => k _ o n.i1.symm e, a.g2.at fun o e => k _ o n.i2.symm e, a.t1.at fun o e => k _ o n.l1.symm e, a.t2.at fun o e => k _ o n.l2.symm e, ?_⟩
  rcases a.st with ⟨q, x, y, r⟩ | ⟨T, f, oT, q, r, r1, r2, r3⟩
  · exact .inl ⟨k _ _ n.z.symm q, x, y, k _ _ n.TO.symm r⟩
  · refine .inr ?_
    by_cases hT : T = S
    · subst hT
      obtain ⟨o', ho'⟩ := hS _ r
      exact ⟨T, f, o', k _ _ n.z.symm q, ho', r1, r2, r3⟩
    · exact ⟨T, f, oT, k _ _ n.z.symm q, k _ _ hT r, r1, r2, r3⟩
end
section
variable {prog : Program} {w : World} {A : Around} {R : Result → Shared → Prop}
end
section
variable {prog : Program} {w : World} {A : Around} {E : Value → Shared → Prop} {s : Shared} {R : Result → Shared → Prop}
end
section
variable {prog : Program} {w : World} {A : Around} {E : Value → Shared → Prop} {s : Shared}
end
section
variable {X : Cx}
end
def zipT (xs ys : List D) : List D := (xs.zip ys).map fun p => .tup [p.1, p.2]
section
variable {K : PySem.W.Frag} {mg : Str → Option Value}
end
@[simp] def dLzipF (t : TAD) : TFD := fun ρ μ Q => t ρ μ fun ds μ1 => match ds with
  | [.tup xs, .tup ys] => Q (zipT xs ys) μ1
  | _ => False
section
variable {X : Cx} {e e2 : Expr} {t : TAD} {p p2 pos pos2 : Pos}
end
end DL

namespace DL
open PySem PySem.Spec PyProof.Rows L2
open RZ (nextOf_tuple_item nextOf_tuple_end)
/-- the iterator at i, which walks over the items xs that are kept at l -/
structure Wlk (i l : Addr) (xs : Array Value) where
  It : Nat → Heap → Prop
  Src : Heap → Prop
  it : ∀ {k h h'}, It k h → (∀ o, h.get? i = some o → h'.get? i = some o) → It k h'
  src : ∀ {h h'}, Src h → (∀ o, h.get? l = some o → h'.get? l = some o) → Src h'
  item : ∀ {prog : Program} {w : World} {A : Around} {E : Value → Shared → Prop} {s : Shared} {k : Nat} {x : Value} {Q : Value → Shared → Prop}, It k s.heap → Src s.heap → xs[k]? = some x →
    (∀ h', It (k + 1) h' → Heap.SameBut i s.heap h' → Q x { s with heap := h' }) → wpAny (model prog w) A (Builtin.SmallTypes.nextOf (.ref i)) Q E s
  fin : ∀ {prog : Program} {w : World} {A : Around} {E : Value → Shared → Prop} {s : Shared} {k : Nat} {Q : Value → Shared → Prop}, A.handled = none → It k s.heap → Src s.heap → xs[k]? = none →
    (∀ h' e, Heap.ExtBut i s.heap h' → (∃ o, h'.get? e = some o ∧ o.cls = .type "StopIteration") → E (.ref e) { s with heap := h' }) → wpAny (model prog w) A (Builtin.SmallTypes.nextOf (.ref i)) Q E s
def Wlk.list (i l : Addr) (xs : Array Value) : Wlk i l xs where
  It := fun k h => h.IsListIter i l k
  Src := fun h => h.IsList l xs
  it := fun a b => a.at b
  src := fun a b => a.at b
  item := fun a b c d => wpAny_nextOf_list_item a b c d
  fin := fun a b c d e => wpAny_nextOf_list_end a b c d e
def Wlk.tup (i l : Addr) (xs : Array Value) : Wlk i l xs where
  It := fun k h => h.IsTupleIter i l k
  Src := fun h => h.IsTuple l xs
  it := fun a b => a.at b
  src := fun a b => a.at b
  item := fun a b c d => nextOf_tuple_item a b c d
  fin := fun a b c d e => nextOf_tuple_end a b c d e
section
variable {prog : Program} {w : World} {A : Around} {E : Value → Shared → Prop} {s : Shared} {z TI TO i1 i2 l1 l2 : Addr} {k1 k2 : Nat} {xs ys : Array Value} {a b : Value}
end
section
variable {prog : Program} {w : World} {A : Around} {E : Value → Shared → Prop} {s : Shared}
end
section
variable {X : Cx} {e e2 : Expr} {p pos tpos : Pos} {elts : List Expr} {kk : Nat}
/-- zip of a list and a tuple -/
@[simp] def dZipM (t : TAD) : TSrc := fun ρ μ Q => t ρ μ fun xs μ1 => match xs with
  | [.lst xs, .tup ys] => Q (zipD xs ys) still μ1
  | _ => False
end
end DL

namespace DL
open PySem PySem.Spec PyProof.Rows L2
open TS (TupInts intsOf)
open PySem.W
section
variable {prog : Program} {w : World} {A : Around} {E : Value → Shared → Prop} {s : Shared}
end
abbrev tupD (q : List Nat) : D := .tup (nats q)
abbrev intL (q : List Nat) : List Int := q.map fun n : Nat => (n : Int)
@[simp] def dSortF (t : TAD) : TFD := fun ρ μ Q => t ρ μ fun ds μ1 => match ds with
  | [.lst xs] => ∃ ls : List (List Nat), xs = ([] :: ls).map tupD ∧ ∀ ls' : List (List Nat), ls'.Perm ([] :: ls) → ls'.Pairwise (fun p q => HT.lexLt (intL q) (intL p) = false) → Q (ls'.map tupD) μ1
  | _ => False
end DL

namespace DL
open PySem PySem.Spec PyProof.Rows L2
def rdCountL : RDm
  | .lst xs, [.int k], μ, Q => ∃ ns : List Int, xs = ns.map D.int ∧ Q (.int (ns.count k : Nat)) μ
  | _, _, _, _ => False
@[simp] theorem rdCountL_1 {xs : List D} {k : Int} {μ : Sto} {Q : DK} : rdCountL (.lst xs) [.int k] μ Q = (∃ ns : List Int, xs = ns.map D.int ∧ Q (.int (ns.count k : Nat)) μ) := rfl
end DL

namespace DL
open PySem PySem.Spec PyProof.Rows L2
def rdInDat (neg : Bool) : RD2
  | x, .lst ds, μ, Q => x.ic ∧ D.ics ds ∧ x.dp ≤ 50 ∧ Q (.bl (if neg then !(ds.any fun z => D.eqv z x) else ds.any fun z => D.eqv z x)) μ
  | _, _, _, _ => False
@[simp] theorem rdInDat_1 (neg : Bool) {x : D} {ds : List D} {μ : Sto} {Q : DK} : rdInDat neg x (.lst ds) μ Q = (x.ic ∧ D.ics ds ∧ x.dp ≤ 50 ∧ Q (.bl (if neg then !(ds.any fun z => D.eqv z x) else ds.any fun z => D.eqv z x)) μ) := rfl
end DL

namespace DL
open PySem PySem.Spec PyProof.Rows L2 PySem.W PySem.Calls
section
open Builtin Builtin.ObjectAttr
variable {prog : Program} {w : World} {A : Around} {R : Result → Shared → Prop} {hp : Heap} {g : Array GenState} {d : Drawn} {t : Nat} {os : OsState}
end
section
variable {prog : Program} {w : World} {A : Around} {R : Result → Shared → Prop} {s : Shared} {K : Frag} {mg : Str → Option Value} {C fI : Addr} {x f : Str} {B newId initId : String} {bmB : List Value}
end
section
variable {X : Cx} {C fI : Addr} {x f : Str} {B newId initId : String} {bmB : List Value}
end
end DL

namespace DL
open PySem PySem.Spec PyProof.Rows L2
/-- an exception that is made, over data -/
abbrev TXD := DEnv → Sto → DXK → Prop
@[simp] def dMkF (c f : Str) (t : TAD) : TXD := fun ρ μ Q => t ρ μ fun ds μ1 => match ds with
  | [d] => Q c [(f, d)] μ1
  | _ => False
@[simp] def dMk0 (c : Str) : TXD := fun _ μ Q => Q c [] μ
section
variable {X : Cx} {x f : Str} {k : Nat} {a e : Expr} {t : TAD} {d : TXD} {p pos : Pos} {B : Bs}
theorem XD.mono {K : PySem.W.Frag} {mg : Str → Option Value} {H0 H1 F H : Hp} {μ : Sto} {cv : Value} {od : Option Addr} {c : Str} {fs : List (Str × D)} (h : ∀ a, H1 a = none → H0 a = none) (x : XD K mg H1 F μ H cv od c fs) : XD K mg H0 F μ H cv od c fs := by
  obtain ⟨C, h1, h2, h3⟩ := x
  refine ⟨C, h1, h2, ?_⟩
  rcases h3 with h3 | ⟨d, vfs, a1, a2, a3, a4⟩
  · exact .inl h3
  · exact .inr ⟨d, vfs, a1, a2, h d a3, a4⟩
/-- what is wished of an exception, at the slots -/
def liftWX (K : PySem.W.Frag) (mg : Str → Option Value) (B : Bs) (W : DEnv → DXK) : WX := fun cv od σ H => ∃ F ρ μ c fs, RelB K mg B F ρ μ σ H ∧ XD K mg B.H F μ H cv od c fs ∧ W ρ c fs μ
@[simp] def dRaise (d : TXD) (W : DEnv → DXK) : TSD := fun _ ρ μ => d ρ μ (W ρ)
end
section
variable {P : Program} {w : World} {K : PySem.W.Frag} {mg : Str → Option Value} {base : Heap} {k n : Nat} {f : Addr} {fd : FuncData} {ps : List Str} {S : DSp}
end
section
variable {X : Cx} {x : Str} {k : Nat} {a b e : Expr} {es : List Expr} {t : TAD} {tt : TTD} {d da db : TED} {p pos : Pos} {B : Bs} {S : DSp} {W : DEnv → DXK}
@[simp] def dCallX (S : DSp) (t : TAD) (W : DEnv → DXK) : TED := fun ρ μ Q => t ρ μ fun ds μ1 => S ds μ1 Q (W ρ)
@[simp] def dExprX (d : TED) : TSD := fun D ρ μ => d ρ μ fun _ μ1 => D.nx ρ μ1
end
end DL

namespace DL
open PySem PySem.Spec PyProof.Rows L2
/-- the exception's own dict, in the store and out of it -/
def sdel (μ : Sto) (a : Addr) : Sto := fun b => if b = a then none else μ b
def excU (od : Option Addr) (μ : Sto) : Sto := match od with
  | none => μ
  | some d => sdel μ d
section
variable {K : PySem.W.Frag} {mg : Str → Option Value} {B : Bs} {F F' H H' : Hp} {μ μ' : Sto} {ρ : DEnv} {σ : L2.St}
theorem RelB.excU {od : Option Addr} (r : RelB K mg B F ρ μ σ H) : RelB K mg B F ρ (excU od μ) σ H := by
  cases od with
  | none => exact r
  | some d =>
    have le : ∀ {a : Addr}, μ a = none → sdel μ d a = none := fun {a} h => by
      unfold sdel
      split
      · rfl
      · exact h
    have ge : ∀ {a : Addr} {m : MO}, sdel μ d a = some m → μ a = some m := fun {a m} h => by
      unfold sdel at h
      split at h
      · cases h
      · exact h
    refine ⟨⟨⟨r.rel.ok.sub, fun a m e => r.rel.ok.dis a m (ge e), fun a m e => r.rel.ok.sto a m (ge e)⟩, r.rel.len, fun i s e => ?_, r.rel.apart⟩, ⟨r.ext.mono, fun a o e n => ?_, r.ext.live⟩, r.new⟩
    · obtain ⟨v, g1, g2⟩ := r.rel.slot i s e
      refine ⟨v, g1, ?_⟩
      cases s with
      | val d' => exact g2
      | own xs =>
        obtain ⟨a, vs, q1, q2, q3, q4, q5⟩ := g2
        exact ⟨a, vs, q1, q2, le q3, q4, q5⟩
    · obtain ⟨g1, g2, g3⟩ := r.ext.keep a o e n
      exact ⟨g1, g2, le g3⟩
end
/-- the ends of an except suite -/
def exD (i : Nat) (od : Option Addr) (E : DEnds) : DEnds := { nx := fun ρ μ => E.nx (ρ.set i none) (excU od μ), rt := fun d μ => E.rt d (excU od μ), bk := fun ρ μ => E.bk (ρ.set i none) (excU od μ), ct := fun ρ μ => E.ct (ρ.set i none) (excU od μ) }
@[simp] theorem exD_rt {i : Nat} {od : Option Addr} {E : DEnds} {d : D} {μ : Sto} : (exD i od E).rt d μ = E.rt d (excU od μ) := rfl
@[simp] theorem exD_nx {i : Nat} {od : Option Addr} {E : DEnds} {ρ : DEnv} {μ : Sto} : (exD i od E).nx ρ μ = E.nx (ρ.set i none) (excU od μ) := rfl
section
variable {X : Cx} {B : Bs} {x n : Str} {cv : Value} {i : Nat} {body suite : List Stmt} {b₀ : Stmt} {np pos pos' : Pos} {cat : Str → Option Bool} {tb : (DEnv → DXK) → TSD} {ts : Addr → Option Addr → Str → TSD} {Wout : DEnv → DXK}
end
end DL

namespace DL
open PySem PySem.Spec PyProof.Rows L2
structure XTab where
  own : List (Str × Str × Bool)
  blt : List (Str × String × Bool)
def XTab.get (T : XTab) (c q : Str) : Option Bool := (T.own.find? fun z => decide (z.1 = c) && decide (z.2.1 = q)).map (·.2.2)
def XTab.getT (T : XTab) (c : Str) (t : String) : Option Bool := (T.blt.find? fun z => decide (z.1 = c) && decide (z.2.1 = t)).map (·.2.2)
def isCls : D → Bool
  | .gl _ => true
  | .ty _ => true
  | _ => false
def XTab.any (T : XTab) (c : Str) : List D → Option Bool
  | [] => some false
  | .gl q :: r => match T.get c q with
    | some true => if r.all isCls then some true else none
    | some false => T.any c r
    | none => none
  | .ty t :: r => match T.getT c t with
    | some true => if r.all isCls then some true else none
    | some false => T.any c r
    | none => none
  | _ :: _ => none
structure XTabOk (K : PySem.W.Frag) (mg : Str → Option Value) (T : XTab) : Prop where
  own : ∀ z ∈ T.own, ∃ C Q, mg z.1 = some (.ref C) ∧ mg z.2.1 = some (.ref Q) ∧ PySem.W.kitOne K (.ref C) (.ref Q) = some z.2.2 ∧ PySem.W.exmOne K (.ref C) (.ref Q) = some z.2.2 ∧ ExcC K C
  blt : ∀ z ∈ T.blt, ∃ C, mg z.1 = some (.ref C) ∧ PySem.W.kitOne K (.ref C) (.type z.2.1) = some z.2.2 ∧ ExcC K C
section
variable {K : PySem.W.Frag} {mg : Str → Option Value} {T : XTab} {c q : Str} {t : String} {b : Bool} {C : Addr}
theorem XTabOk.get (h : XTabOk K mg T) (e : T.get c q = some b) (hc : mg c = some (.ref C)) : ∃ Q, mg q = some (.ref Q) ∧ PySem.W.kitOne K (.ref C) (.ref Q) = some b ∧ PySem.W.exmOne K (.ref C) (.ref Q) = some b ∧ ExcC K C := by
  unfold XTab.get at e
  obtain ⟨z, hz, rfl⟩ := Option.map_eq_some_iff.mp e
  have hm := List.mem_of_find?_eq_some hz
  have hp := List.find?_some hz
  rw [Bool.and_eq_true, decide_eq_true_eq, decide_eq_true_eq] at hp
  obtain ⟨rfl, rfl⟩ := hp
  obtain ⟨C', Q, h1, h2, h3⟩ := h.own z hm
  rw [hc] at h1
  cases h1
  exact ⟨Q, h2, h3⟩
theorem XTabOk.getT (h : XTabOk K mg T) (e : T.getT c t = some b) (hc : mg c = some (.ref C)) : PySem.W.kitOne K (.ref C) (.type t) = some b ∧ ExcC K C := by
  unfold XTab.getT at e
  obtain ⟨z, hz, rfl⟩ := Option.map_eq_some_iff.mp e
  have hm := List.mem_of_find?_eq_some hz
  have hp := List.find?_some hz
  rw [Bool.and_eq_true, decide_eq_true_eq, decide_eq_true_eq] at hp
  obtain ⟨rfl, rfl⟩ := hp
  obtain ⟨C', h1, h3⟩ := h.blt z hm
  rw [hc] at h1
  cases h1
  exact h3
theorem clsV_of {F : Hp} {v : V} {d : D} (h : isCls d = true) (r : Dt K mg F v d) : ∃ u, ClsV v u := by
  cases r <;> first | exact (Bool.false_ne_true h).elim | skip
  · exact ⟨_, .ty _⟩
  · exact ⟨_, .own _⟩
theorem clsVs_of {F : Hp} : ∀ {vs : List V} {ds : List D}, ds.all isCls = true → Dts K mg F vs ds → ∃ us, Paired ClsV vs us
  | _, _, _, .nil => ⟨[], .nil⟩
  | _, _, h, .cons r rs => by
    rw [List.all_cons, Bool.and_eq_true] at h
    obtain ⟨u, hu⟩ := clsV_of h.1 r
    obtain ⟨us, hus⟩ := clsVs_of h.2 rs
    exact ⟨u :: us, .cons hu hus⟩
theorem XTabOk.any (h : XTabOk K mg T) (hc : mg c = some (.ref C)) {F : Hp} : ∀ (ds : List D) (vs : List V) (b : Bool), T.any c ds = some b → Dts K mg F vs ds → ∃ us, Paired ClsV vs us ∧ PySem.W.kitAny K (.ref C) us = some b
  | [], vs, b, e, r => by
    cases r
    cases e
    exact ⟨[], .nil, rfl⟩
  | d :: ds, vs, b, e, r => by
    cases r with
    | cons r rs =>
      rename_i v vs
      have key : ∀ (g : Option Bool) (u : Value), (match g with | some true => if ds.all isCls then some true else none | some false => T.any c ds | none => none) = some b → ClsV v u → (∀ b', g = some b' → PySem.W.kitOne K (.ref C) u = some b') → ∃ us, Paired ClsV (v :: vs) us ∧ PySem.W.kitAny K (.ref C) us = some b := fun g u e hu hk => by
        match g, e, hk with
        | some true, e, hk =>
          dsimp only at e
          split at e
          · rename_i ha
            cases e
            obtain ⟨us, hus⟩ := clsVs_of ha rs
            exact ⟨u :: us, .cons hu hus, by unfold PySem.W.kitAny; rw [hk true rfl]⟩
          · cases e
        | some false, e, hk =>
          obtain ⟨us, hus, hka⟩ := XTabOk.any h hc ds vs b e rs
          exact ⟨u :: us, .cons hu hus, by unfold PySem.W.kitAny; rw [hk false rfl]; exact hka⟩
        | none, e, hk => cases e
      cases d <;> first | cases e; done | skip
      · rename_i n
        cases r
        exact key (T.getT c n) _ e (.ty n) fun b' hb => (h.getT hb hc).1
      · rename_i x
        cases r
        rename_i a ha
        refine key (T.get c x) _ e (.own a) fun b' hb => ?_
        obtain ⟨Q, h1, h2, _⟩ := h.get hb hc
        rw [ha] at h1
        cases h1
        exact h2
end
/-- the exception's dict is in the store -/
def excHas (od : Option Addr) (μ : Sto) : Prop := match od with
  | none => True
  | some d => ∃ fs, μ d = some (.xd fs)
def rdIsX (a : Addr) (od : Option Addr) (c : Str) (T : XTab) : RDn
  | [.ref x, .gl q], μ, Q => x = a ∧ excHas od μ ∧ ∃ b, T.get c q = some b ∧ Q (.bl b) μ
  | [.ref x, .ty t], μ, Q => x = a ∧ excHas od μ ∧ ∃ b, T.getT c t = some b ∧ Q (.bl b) μ
  | [.ref x, .tup cs], μ, Q => x = a ∧ cs ≠ [] ∧ excHas od μ ∧ ∃ b, T.any c cs = some b ∧ Q (.bl b) μ
  | _, _, _ => False
@[simp] theorem rdIsX_1 {a x : Addr} {od : Option Addr} {c q : Str} {T : XTab} {μ : Sto} {Q : DK} : rdIsX a od c T [.ref x, .gl q] μ Q = (x = a ∧ excHas od μ ∧ ∃ b, T.get c q = some b ∧ Q (.bl b) μ) := rfl
@[simp] theorem rdIsX_2 {a x : Addr} {od : Option Addr} {c : Str} {t : String} {T : XTab} {μ : Sto} {Q : DK} : rdIsX a od c T [.ref x, .ty t] μ Q = (x = a ∧ excHas od μ ∧ ∃ b, T.getT c t = some b ∧ Q (.bl b) μ) := rfl
@[simp] theorem rdIsX_3 {a x : Addr} {od : Option Addr} {c : Str} {cs : List D} {T : XTab} {μ : Sto} {Q : DK} : rdIsX a od c T [.ref x, .tup cs] μ Q = (x = a ∧ cs ≠ [] ∧ excHas od μ ∧ ∃ b, T.any c cs = some b ∧ Q (.bl b) μ) := rfl
section
variable {X : Cx} {a C : Addr} {od : Option Addr} {oe : Obj} {pn : List (Addr × Obj)} {x f c : Str} {e : Expr} {d : TED} {p pos : Pos}
/-- e.f, e the exception that the suite holds -/
@[simp] def dXf (a : Addr) (od : Option Addr) (c cB f : Str) (d : TED) : TED := fun ρ μ Q => d ρ μ fun x μ1 => x = .ref a ∧ c = cB ∧ ∃ dd fs v, od = some dd ∧ μ1 dd = some (.xd fs) ∧ fs.lookup f = some v ∧ Q v μ1
end
end DL

namespace DL
open PySem PySem.Spec PyProof.Rows L2
section
variable {P : Program} {w : World} {K : PySem.W.Frag} {mg : Str → Option Value} {base : Heap} {k : Nat} {f : Addr} {ps : List Str} {S : DSp}
end
section
variable {K : PySem.W.Frag} {mg : Str → Option Value} {C Q : Addr} {b : Bool}
end
section
theorem takesN {X : Cx} : Takes X (fun _ _ _ _ => False) := fun _ _ x => by
  obtain ⟨_, _, _, _, _, _, _, _, _, _, _, _, _, _, _, _, z⟩ := x
  exact z.elim
variable {X : Cx} {x : Str} {k : Nat} {e : Expr} {es : List Expr} {t : TAD} {p pos : Pos} {S : DSp}
end
end DL

namespace DL
open PySem PySem.Spec PyProof.Rows L2
@[simp] def dStar (a : TED) (t : TAD) : TAD := fun ρ μ Q => a ρ μ fun x μ1 => match x with
  | .tup xs => t ρ μ1 fun ys μ2 => Q (xs ++ ys) μ2
  | .lst xs => t ρ μ1 fun ys μ2 => Q (xs ++ ys) μ2
  | _ => False
section
variable {X : Cx} {e : Expr} {es : List Expr} {da : TED} {t : TAD} {p : Pos}
end
def rngC (lo c : Int) (n : Nat) : List D := (List.range n).map fun k => .int (lo + (k : Nat) * c)
@[simp] def dRng3 (t : TAD) : TSrc := fun ρ μ Q => t ρ μ fun xs μ1 => match xs with
  | [.int i, .int j, .int c] => c = -1 ∧ rngOk i ∧ rngOk j ∧ Q (rngC i (-1) (i - j).toNat) still μ1
  | _ => False
section
variable {X : Cx} {tg e e2 e3 : Expr} {t : TAD} {p pos : Pos}
end
section
variable {X : Cx} {B : Bs}
@[simp] def dAugP (sl : Nat) (r : RD2) (i d : TED) : TSD := fun E ρ μ => ∃ xs, ρ[sl]? = some (some (.own xs)) ∧ i ρ μ fun k μ1 => ∃ n j x, k = .int n ∧ ixN xs.length n = some j ∧ xs[j]? = some x ∧ d ρ μ1 fun y μ2 => r x y μ2 fun z μ3 => E.nx (ρ.set sl (some (.own (xs.set j z)))) μ3
end
def rdIMul : RD2 := rdI (fun i j => (-18446744073709551616 < i ∧ i < 18446744073709551616) ∨ (-18446744073709551616 < j ∧ j < 18446744073709551616)) fun i j => .int (i * j)
@[simp] theorem rdIMul_i {i j : Int} {μ : Sto} {Q : DK} : rdIMul (.int i) (.int j) μ Q = (((-18446744073709551616 < i ∧ i < 18446744073709551616) ∨ (-18446744073709551616 < j ∧ j < 18446744073709551616)) ∧ Q (.int (i * j)) μ) := rfl
section
variable {X : Cx}
end
section
variable {X : Cx} {o e : Expr} {es : List Expr} {name : Str} {apos cpos : Pos} {id : String} {r : V → List V → Hp → VK → Prop} {rd : RDm} {to : TE} {t : TA} {d : TED} {ta : TAD}
@[simp] def dMtT (rd : RDm) (d : TED) (t : TAD) : TED := fun ρ μ Q => d ρ μ fun x μ1 => match x with
  | .tup xs => t ρ μ1 fun ys μ2 => rd (.tup xs) ys μ2 Q
  | _ => False
end
def rdIndexT : RDm
  | .tup xs, [.int k], μ, Q => ∃ (ns : List Int) (j : Nat), xs = ns.map D.int ∧ ns[j]? = some k ∧ (∀ m, m < j → ns[m]? ≠ some k) ∧ Q (.int j) μ
  | _, _, _, _ => False
def rdIndexL : RDm
  | .lst xs, [.int k], μ, Q => ∃ (ns : List Int) (j : Nat), xs = ns.map D.int ∧ ns[j]? = some k ∧ (∀ m, m < j → ns[m]? ≠ some k) ∧ Q (.int j) μ
  | _, _, _, _ => False
def rdIndexS : RDm
  | .str s, [.str [c]], μ, Q => ∃ j, s.findIdx? (· == c) = some j ∧ Q (.int j) μ
  | _, _, _, _ => False
@[simp] theorem rdIndexT_1 : rdIndexT (.tup xs) [.int k] μ Q = (∃ (ns : List Int) (j : Nat), xs = ns.map D.int ∧ ns[j]? = some k ∧ (∀ m, m < j → ns[m]? ≠ some k) ∧ Q (.int j) μ) := rfl
@[simp] theorem rdIndexL_1 : rdIndexL (.lst xs) [.int k] μ Q = (∃ (ns : List Int) (j : Nat), xs = ns.map D.int ∧ ns[j]? = some k ∧ (∀ m, m < j → ns[m]? ≠ some k) ∧ Q (.int j) μ) := rfl
@[simp] theorem rdIndexS_1 : rdIndexS (.str s) [.str [c]] μ Q = (∃ j, s.findIdx? (· == c) = some j ∧ Q (.int j) μ) := rfl
section
variable {K : PySem.W.Frag} {mg : Str → Option Value}
end
def rdDivmod : RDn
  | [.int i, .int j], μ, Q => divOk j ∧ Q (.pr (.int (i / j)) (.int (i % j))) μ
  | _, _, _ => False
@[simp] theorem rdDivmod_1 : rdDivmod [.int i, .int j] μ Q = (divOk j ∧ Q (.pr (.int (i / j)) (.int (i % j))) μ) := rfl
end DL

namespace DL
open PySem PySem.Spec PyProof.Rows L2
@[simp] def dAddF (a b : TED) : TFD := fun ρ μ Q => a ρ μ fun x μ1 => b ρ μ1 fun y μ2 => ∃ xs ys, x = .lst xs ∧ y = .lst ys ∧ xs.length + ys.length ≤ SZ ∧ Q (xs ++ ys) μ2
@[simp] def dMulF (a b : TED) : TFD := fun ρ μ Q => a ρ μ fun x μ1 => b ρ μ1 fun y μ2 => ∃ xs n, x = .lst xs ∧ y = .int n ∧ n ≤ 1000000 ∧ -1000000 ≤ n ∧ xs.length * n.toNat ≤ SZ ∧ Q (repl n.toNat xs) μ2
@[simp] def dListF (t : TAD) : TFD := fun ρ μ Q => t ρ μ fun ds μ1 => match ds with
  | [.tup xs] => Q xs μ1
  | [.lst xs] => Q xs μ1
  | _ => False
section
variable {X : Cx} {e f : Expr} {da db : TED} {pos p : Pos} {t : TAD}
end
def rdIAdd : RD2
  | .int i, .int j, μ, Q => Q (.int (i + j)) μ
  | .str s, .str t, μ, Q => s.length + t.length ≤ SZ ∧ Q (.str (s ++ t)) μ
  | _, _, _, _ => False
@[simp] theorem rdIAdd_1 : rdIAdd (.int i) (.int j) μ Q = Q (.int (i + j)) μ := rfl
@[simp] theorem rdIAdd_2 : rdIAdd (.str s) (.str t) μ Q = (s.length + t.length ≤ SZ ∧ Q (.str (s ++ t)) μ) := rfl
@[simp] def dPar4 (i j k l : Nat) (a b : TRD) (c d : TED) : TSD := fun E ρ μ => a ρ μ fun s μ1 => b ρ μ1 fun t μ2 => c ρ μ2 fun x μ3 => d ρ μ3 fun y μ4 => E.nx ((((ρ.set i (some s)).set j (some t)).set k (some (.val x))).set l (some (.val y))) μ4
section
variable {X : Cx} {B : Bs} {i j k l : Nat} {a b c d t1 t2 t3 t4 : Expr} {da db : TRD} {dc dd : TED} {pt pt2 pos : Pos} {kt k2 : Nat}
end
end DL

namespace DL
open PySem PySem.Spec PyProof.Rows L2
/-- the own lists of the frame are there -/
def Old (ρ : DEnv) (σ : L2.St) (H : Hp) : Prop := ∀ (j : Nat) (xs : List D) (p : Addr), ρ[j]? = some (some (DS.own xs)) → σ[j]? = some (some (V.ref p)) → H p ≠ none
theorem Old.of {K : PySem.W.Frag} {mg : Str → Option Value} {B : Bs} {F H : Hp} {μ : Sto} {ρ : DEnv} {σ : L2.St} (R : RelB K mg B F ρ μ σ H) : Old ρ σ H := fun j xs p z1 z2 => by
  obtain ⟨p2, vs, c1, c2, c3, c4, _⟩ := R.ownAt z1
  rw [c1] at z2
  cases z2
  rw [c4]
  exact fun z => nomatch z
theorem Old.own {K : PySem.W.Frag} {mg : Str → Option Value} {B : Bs} {F F1 H H1 : Hp} {μ μ1 : Sto} {ρ : DEnv} {σ : L2.St} (R : RelB K mg B F ρ μ σ H) (e : Ext F μ H F1 μ1 H1) : Old ρ σ H1 := fun j xs p z1 z2 => by
  obtain ⟨p2, vs, c1, c2, c3, c4, _⟩ := R.ownAt z1
  rw [c1] at z2
  cases z2
  rw [(e.keep p _ c4 c3).1]
  exact fun z => nomatch z
theorem Old.set {K : PySem.W.Frag} {mg : Str → Option Value} {F H0 H H2 : Hp} {μ : Sto} {ρ : DEnv} {σ : L2.St} {i : Nat} {v : V} {s : DS} (h : Old ρ σ H2) (hl : ρ.length = σ.length) (w : ROk K mg H0 F μ H v s) (hk : ∀ p, H p ≠ none → H0 p = none → H2 p ≠ none) :
    Old (ρ.set i (some s)) (σ.set i (some v)) H2 := fun j xs p z1 z2 => by
  by_cases hj : i = j
  · subst hj
    have hi : i < ρ.length := by
      have := (List.getElem?_eq_some_iff.mp z1).1
      rwa [List.length_set] at this
    rw [List.getElem?_set_self hi] at z1
    cases z1
    obtain ⟨p2, vs, rfl, c1, c2, c3, c4, c5⟩ := w
    rw [List.getElem?_set_self (by rw [← hl]; exact hi)] at z2
    cases z2
    exact hk _ (by rw [c4]; exact fun z => nomatch z) c1
  · rw [List.getElem?_set_ne hj] at z1 z2
    exact h j xs p z1 z2
theorem Old.ext {F F' H H' : Hp} {μ μ' : Sto} {ρ : DEnv} {σ : L2.St} (h : Old ρ σ H) (e : Ext F μ H F' μ' H') : Old ρ σ H' := fun j xs p z1 z2 z => h j xs p z1 z2 (e.live p z)
/-- x, y, z = a, b, c: results -/
@[simp] def dParR (i j l : Nat) (a b c : TRD) : TSD := fun E ρ μ => a ρ μ fun s μ1 => b ρ μ1 fun t μ2 => c ρ μ2 fun u μ3 => E.nx (((ρ.set i (some s)).set j (some t)).set l (some u)) μ3
section
variable {X : Cx} {B : Bs} {i j l : Nat} {a b c : Expr} {da db dc : TRD} {pos : Pos} {kt k2 : Nat}
end
end DL

namespace DL
open PySem PySem.Spec PyProof.Rows L2
section
variable {X : Cx} {B : Bs} {i j : Nat} {a b : Expr} {da db : TRD} {pos : Pos} {kt k2 : Nat}
end
end DL

namespace DL
open PySem PySem.Spec PyProof.Rows L2
def keyPy : Key → PyData
  | .inl i => .int i
  | .inr s => .str s
mutual
/-- data at a value, dicts with them -/
inductive Dq (K : PySem.W.Frag) (H : Hp) : V → PyData → Prop
  | non : Dq K H .non .none
  | bl (b : Bool) : Dq K H (.bl b) (.bool b)
  | int (i : Int) : Dq K H (.int i) (.int i)
  | str (x : Str) : Dq K H (.str x) (.str x)
  | lst {a : Addr} {xs : List V} {ds : List PyData} : SqL K H a xs → DqAll K H xs ds → Dq K H (.ref a) (.list ds)
  | tup {a : Addr} {xs : List V} {ds : List PyData} : SqT K H a xs → DqAll K H xs ds → Dq K H (.ref a) (.tuple ds)
  | dct {a : Addr} {kvs : List (Key × V)} {ds : List (PyData × PyData)} : H a = some (.dK kvs) → DqKv K H kvs ds → Dq K H (.ref a) (.dict ds)
inductive DqAll (K : PySem.W.Frag) (H : Hp) : List V → List PyData → Prop
  | nil : DqAll K H [] []
  | cons {v : V} {vs : List V} {d : PyData} {ds : List PyData} : Dq K H v d → DqAll K H vs ds → DqAll K H (v :: vs) (d :: ds)
inductive DqKv (K : PySem.W.Frag) (H : Hp) : List (Key × V) → List (PyData × PyData) → Prop
  | nil : DqKv K H [] []
  | cons {k : Key} {v : V} {kvs : List (Key × V)} {d : PyData} {ds : List (PyData × PyData)} : Dq K H v d → DqKv K H kvs ds → DqKv K H ((k, v) :: kvs) ((keyPy k, d) :: ds)
end
section
variable {X : Cx} {pins : List (Addr × Obj)} {σ : L2.St} {H : Hp} {s : Shared}
theorem keys_read {P : Program} {w : World} {h : Heap} : ∀ {es : List DictEntry} {kvs : List (Key × Value)}, Pairs (mixKind P w) es kvs → ReadsAll h (es.map (·.key)) (kvs.map fun kv => keyPy kv.1) []
  | _, _, .nil => .nil
  | _, _, .cons (e := e) (kv := kv) h1 _ r => by
    have ih := keys_read (h := h) r
    have one : Reads h e.key (keyPy kv.1) [] := by
      obtain ⟨k, v⟩ := kv
      rcases keyIs_shape h1 with ⟨i, t, e1, e2⟩ | ⟨x, t, e1, e2⟩
      · dsimp only at e1
        subst e1
        rw [e2]
        exact .int i t
      · dsimp only at e1
        subst e1
        rw [e2]
        exact .str x t
    exact .cons (as := []) (bs := []) one ih
theorem vals_are {P : Program} {w : World} : ∀ {es : List DictEntry} {kvs : List (Key × Value)}, Pairs (mixKind P w) es kvs → es.map (·.val) = kvs.map (·.2)
  | _, _, .nil => rfl
  | _, _, .cons _ h2 r => by rw [List.map_cons, List.map_cons, h2, vals_are r]
/-- what is read of a value, and how it is shown -/
def RP (P : Program) (w : World) (h : Heap) (v : Value) (d : PyData) : Prop := ∃ as bs, Reads h v d as ∧ ReadAtMost h d.depth bs ∧ ReprK P w bs h d.depth v d.shown
def RPA (P : Program) (w : World) (h : Heap) (vs : List Value) (ds : List PyData) : Prop := ∃ as bs, ReadsAll h vs ds as ∧ ReadAtMost h (PyData.depthAll ds) bs ∧ ReprAllK P w bs h (PyData.depthAll ds) vs (PyData.shownAll ds)
theorem rp_flat {P : Program} {w : World} {h : Heap} {v : Value} {d : PyData} (r : Reads h v d []) (hs : d.showable = true) (hz : d.shown.length ≤ sizeLine) : RP P w h v d := by
  obtain ⟨bs, h1, h2⟩ := ReprK.of_reads (prog := P) (w := w) r hs (fun _ z => nomatch z) hz
  exact ⟨[], bs, r, h1, h2⟩
theorem rpa_nil {P : Program} {w : World} {h : Heap} : RPA P w h [] [] := ⟨[], [], .nil, (fun _ z => nomatch z), .nil⟩
theorem rpa_cons {P : Program} {w : World} {h : Heap} {v : Value} {vs : List Value} {d : PyData} {ds : List PyData} (r : RP P w h v d) (rs : RPA P w h vs ds) : RPA P w h (v :: vs) (d :: ds) := by
  obtain ⟨as, b1, q1, m1, k1⟩ := r
  obtain ⟨cs, b2, q2, m2, k2⟩ := rs
  have l1 : d.depth ≤ PyData.depthAll (d :: ds) := Nat.le_max_left _ _
  have l2 : PyData.depthAll ds ≤ PyData.depthAll (d :: ds) := Nat.le_max_right _ _
  exact ⟨as ++ cs, b1 ++ b2, .cons q1 q2, (m1.mono l1).append (m2.mono l2), .cons ((k1.more fun b z => List.mem_append_left _ z).level_le l1) (k2.more_le (fun b z => List.mem_append_right _ z) l2)⟩
theorem deeper {h : Heap} {a : Addr} {d : PyData} {as bs : List Addr} {n : Nat} (r : Reads h (.ref a) d as) (hn : n < d.depth) (m : ReadAtMost h n bs) : a ∉ bs := not_mem_of_deeper r hn m
theorem rp_list {P : Program} {w : World} {h : Heap} {a : Addr} {o : Obj} {vs : Array Value} {n : Nat} {ds : List PyData} (h1 : h.get? a = some o) (h2 : o.cls = .type "list") (h3 : o.data = .seq vs n) (rs : RPA P w h vs.toList ds) : RP P w h (.ref a) (.list ds) := by
  obtain ⟨as, bs, q, m, k⟩ := rs
  have r : Reads h (.ref a) (.list ds) (a :: as) := Reads.list h1 h2 h3 q
  have lt : PyData.depthAll ds < (PyData.list ds).depth := by show _ < PyData.depthAll ds + 1; omega
  have hna := deeper r lt m
  refine ⟨_, a :: bs, r, ReadAtMost.cons r (Nat.le_refl _) (m.mono (Nat.le_of_lt lt)), ?_⟩
  show ReprK P w (a :: bs) h (PyData.depthAll ds + 1) (.ref a) (listText (PyData.shownAll ds))
  obtain ⟨l⟩ := vs
  cases l with
  | nil =>
    cases (show ReadsAll h [] ds as from q)
    show ReprK P w (a :: bs) h _ (.ref a) (listText [])
    rw [listText_nil]; exact ReprK.listEmpty h1 h2 h3
  | cons x l => exact ReprK.list h1 h2 h3 hna (by simpa using k.length_eq) fun i y e => k.item i y (by simpa using e)
theorem rp_tuple {P : Program} {w : World} {h : Heap} {a : Addr} {o : Obj} {vs : Array Value} {n : Nat} {ds : List PyData} (h1 : h.get? a = some o) (h2 : o.cls = .type "tuple") (h3 : o.data = .seq vs n) (rs : RPA P w h vs.toList ds) : RP P w h (.ref a) (.tuple ds) := by
  obtain ⟨as, bs, q, m, k⟩ := rs
  have r : Reads h (.ref a) (.tuple ds) as := Reads.tuple h1 h2 h3 q
  have lt : PyData.depthAll ds < (PyData.tuple ds).depth := by show _ < PyData.depthAll ds + 1; omega
  have hna := deeper r lt m
  exact ⟨_, a :: bs, r, ReadAtMost.cons r (Nat.le_refl _) (m.mono (Nat.le_of_lt lt)), ReprK.tuple h1 h2 h3 hna k⟩
theorem rp_dict {P : Program} {w : World} {h : Heap} {a : Addr} {o : Obj} {es : Array DictEntry} {n : Nat} {kvs : List (PyData × PyData)} (h1 : h.get? a = some o) (h2 : o.cls = .type "dict") (h3 : o.data = .dict es n) (hn : (a == sysModules) = false)
    (rk : RPA P w h (es.toList.map (·.key)) (kvs.map (·.1))) (rv : RPA P w h (es.toList.map (·.val)) (kvs.map (·.2))) : RP P w h (.ref a) (.dict kvs) := by
  obtain ⟨as, b1, q1, m1, k1⟩ := rk
  obtain ⟨cs, b2, q2, m2, k2⟩ := rv
  have r : Reads h (.ref a) (.dict kvs) (a :: as ++ cs) := Reads.dict h1 h2 h3 q1 q2
  have lt : PyData.depthKv kvs < (PyData.dict kvs).depth := by show _ < PyData.depthKv kvs + 1; omega
  have m := (m1.mono (PyData.depthAll_keys_le kvs)).append (m2.mono (PyData.depthAll_vals_le kvs))
  have hna := deeper r lt m
  refine ⟨_, a :: (b1 ++ b2), r, ReadAtMost.cons r (Nat.le_refl _) (m.mono (Nat.le_of_lt lt)), ?_⟩
  show ReprK P w (a :: (b1 ++ b2)) h (PyData.depthKv kvs + 1) (.ref a) (dictText (PyData.shownKv kvs))
  rw [PyData.shownKv_eq]
  exact ReprK.dict h1 h2 h3 hn hna (ReprEntriesK.of_two es.toList _ _ (k1.more_le (fun b z => List.mem_append_left _ z) (PyData.depthAll_keys_le kvs)) (k2.more_le (fun b z => List.mem_append_right _ z) (PyData.depthAll_vals_le kvs)))
/-- texts of texts are small -/
def Fits (d : PyData) : Prop := d.showable = true ∧ d.shown.length ≤ sizeLine
def FitsAll (ds : List PyData) : Prop := PyData.showableAll ds = true ∧ ∀ t ∈ PyData.shownAll ds, t.length ≤ sizeLine
theorem Fits.list {ds : List PyData} (h : Fits (.list ds)) : FitsAll ds := ⟨h.1, fun t ht => Nat.le_trans (listText_mem_le ht) h.2⟩
theorem Fits.tuple {ds : List PyData} (h : Fits (.tuple ds)) : FitsAll ds := ⟨h.1, fun t ht => Nat.le_trans (tupleText_mem_le ht) h.2⟩
theorem FitsAll.head {d : PyData} {ds : List PyData} (h : FitsAll (d :: ds)) : Fits d := ⟨(Bool.and_eq_true_iff.mp h.1).1, h.2 _ (List.mem_cons_self ..)⟩
theorem FitsAll.tail {d : PyData} {ds : List PyData} (h : FitsAll (d :: ds)) : FitsAll ds := ⟨(Bool.and_eq_true_iff.mp h.1).2, fun t ht => h.2 t (List.mem_cons_of_mem _ ht)⟩
theorem Fits.dict {kvs : List (PyData × PyData)} (h : Fits (.dict kvs)) : FitsAll (kvs.map (·.1)) ∧ FitsAll (kvs.map (·.2)) := by
  obtain ⟨a, b⟩ := PyData.showableKv_split kvs h.1
  refine ⟨⟨a, fun t ht => ?_⟩, b, fun t ht => ?_⟩
  · obtain ⟨p, hp, hl⟩ := PyData.shownKv_key_le kvs t ht
    exact Nat.le_trans hl (Nat.le_trans (dictText_mem_le hp) h.2)
  · obtain ⟨p, hp, hl⟩ := PyData.shownKv_val_le kvs t ht
    exact Nat.le_trans hl (Nat.le_trans (dictText_mem_le hp) h.2)
theorem rpa_keys {P : Program} {w : World} {h : Heap} : ∀ {ks : List Value} {ds : List PyData}, ReadsAll h ks ds [] → FitsAll ds → RPA P w h ks ds := fun {ks ds} r f => by
  obtain ⟨bs, h1, h2⟩ := ReprAllK.of_readsAll (prog := P) (w := w) r f.1 (fun _ z => nomatch z) f.2
  exact ⟨[], bs, r, h1, h2⟩
mutual
theorem Dq.rp (I : Inv X pins σ H s) : ∀ (d : PyData) (v : V) (u : Value), Dq X.K H v d → RelV v u → Fits d → RP X.prog X.w s.heap u d
  | .none, _, _, h, r, f => by
    cases h
    cases r
    exact rp_flat .none f.1 f.2
  | .bool b, _, _, h, r, f => by
    cases h
    cases r
    exact rp_flat (.bool b) f.1 f.2
  | .int i, _, _, h, r, f => by
    cases h
    obtain ⟨t, rfl⟩ := r
    exact rp_flat (.int i t) f.1 f.2
  | .str x, _, _, h, r, f => by
    cases h
    obtain ⟨t, rfl⟩ := r
    exact rp_flat (.str x t) f.1 f.2
  | .list ds, _, _, h, r, f => by
    cases h with
    | lst hs ha =>
      cases r
      obtain ⟨its, rv, ⟨o, n, ho, hc, _, hd⟩, _⟩ := I.list hs
      exact rp_list ho hc hd (by simpa using Dq.rpa I ds _ its ha rv f.list)
  | .tuple ds, _, _, h, r, f => by
    cases h with
    | tup hs ha =>
      cases r
      obtain ⟨its, rv, ⟨o, ho, hc, n, hd⟩, _⟩ := I.tuple hs
      exact rp_tuple ho hc hd (by simpa using Dq.rpa I ds _ its ha rv f.tuple)
  | .dict ds, _, _, h, r, f => by
    cases h with
    | dct he ha =>
      cases r
      obtain ⟨_, hns, vs, kv, o, es, ep, ho, hx, hd, hk, hp, _⟩ := dk_of I.hok he
      obtain ⟨ek, rv⟩ := Dq.rpv I ds _ vs ha kv f.dict.2
      have r1 := keys_read (h := s.heap) hp
      rw [ek] at r1
      exact rp_dict ho hx.1 hd hns (rpa_keys r1 f.dict.1) (by rw [vals_are hp]; exact rv)
theorem Dq.rpa (I : Inv X pins σ H s) : ∀ (ds : List PyData) (vs : List V) (us : List Value), DqAll X.K H vs ds → Vals vs us → FitsAll ds → RPA X.prog X.w s.heap us ds
  | [], _, _, h, r, f => by
    cases h
    cases r
    exact rpa_nil
  | d :: ds, _, _, h, r, f => by
    cases h with
    | cons h1 h2 =>
      cases r with
      | cons r1 r2 => exact rpa_cons (Dq.rp I d _ _ h1 r1 f.head) (Dq.rpa I ds _ _ h2 r2 f.tail)
theorem Dq.rpv (I : Inv X pins σ H s) : ∀ (ds : List (PyData × PyData)) (kvs : List (Key × V)) (vs : List (Key × Value)), DqKv X.K H kvs ds → KV kvs vs → FitsAll (ds.map (·.2)) → (vs.map fun kv => keyPy kv.1) = ds.map (·.1) ∧ RPA X.prog X.w s.heap (vs.map (·.2)) (ds.map (·.2))
  | [], _, _, h, r, f => by
    cases h
    cases r
    exact ⟨rfl, rpa_nil⟩
  | d :: ds, _, _, h, r, f => by
    cases h with
    | cons h1 h2 =>
      cases r with
      | cons r1 r2 =>
        obtain ⟨e2, q2⟩ := Dq.rpv I ds _ _ h2 r2 f.tail
        refine ⟨?_, rpa_cons (Dq.rp I _ _ _ h1 r1.2 f.head) q2⟩
        rw [List.map_cons, List.map_cons, e2, ← r1.1]
end
end
theorem shows_list {P : Program} {w : World} {h : Heap} {a : Addr} {o : Obj} {vs : Array Value} {n : Nat} {ds : List PyData} (h1 : h.get? a = some o) (h2 : o.cls = .type "list") (h3 : o.data = .seq vs n) (rs : RPA P w h vs.toList ds) (f : Fits (.list ds)) : ShowsBy P w h a (.list ds) "list" "list.__repr__" := by
  obtain ⟨as, bs, q, m, k⟩ := rs
  have lt : PyData.depthAll ds < (PyData.list ds).depth := by show _ < PyData.depthAll ds + 1; omega
  have hna := deeper (Reads.list h1 h2 h3 q) lt m
  refine ⟨F.slot_list_repr.toG, F.slot_list_str, F.slot_list_format, fun s hk => ⟨o, hk _ _ h1, h2⟩, fun A E s Q hg hu hk hQ => ?_⟩
  have hu' : A.units + (PyData.depthAll ds + 1) < cLine := hu
  obtain ⟨l⟩ := vs
  cases l with
  | nil =>
    cases (show ReadsAll h [] ds as from q)
    refine call_list_repr_empty ⟨o, hk _ _ h1, h2⟩ (hk _ _ h1) h3 ?_
    have := hQ s.heap
    rw [show (PyData.list []).shown = "[]" from listText_nil] at this
    exact this _ _ fun _ _ e => e
  | cons x l => exact call_list_reprK h1 h2 h3 hna (by simpa using k.length_eq) (fun i y e => k.item i y (by simpa using e)) hg (fun b _ => Clear.nil b) hu' hk hQ f.2
theorem shows_tuple {P : Program} {w : World} {h : Heap} {a : Addr} {o : Obj} {vs : Array Value} {n : Nat} {ds : List PyData} (h1 : h.get? a = some o) (h2 : o.cls = .type "tuple") (h3 : o.data = .seq vs n) (rs : RPA P w h vs.toList ds) (f : Fits (.tuple ds)) : ShowsBy P w h a (.tuple ds) "tuple" "tuple.__repr__" := by
  obtain ⟨as, bs, q, m, k⟩ := rs
  have lt : PyData.depthAll ds < (PyData.tuple ds).depth := by show _ < PyData.depthAll ds + 1; omega
  have hna := deeper (Reads.tuple h1 h2 h3 q) lt m
  exact ⟨F.slot_tuple_repr, F.slot_tuple_str, F.slot_tuple_format, fun s hk => ⟨o, hk _ _ h1, h2⟩, fun A E s Q hg hu hk hQ => call_tuple_reprK h1 h2 h3 hna k hg (fun b _ => Clear.nil b) (show A.units + (PyData.depthAll ds + 1) < cLine from hu) hk hQ f.2⟩
theorem shows_dict {P : Program} {w : World} {h : Heap} {a : Addr} {o : Obj} {es : Array DictEntry} {n : Nat} {kvs : List (PyData × PyData)} (h1 : h.get? a = some o) (h2 : o.cls = .type "dict") (h3 : o.data = .dict es n) (hn : (a == sysModules) = false)
    (rk : RPA P w h (es.toList.map (·.key)) (kvs.map (·.1))) (rv : RPA P w h (es.toList.map (·.val)) (kvs.map (·.2))) (f : Fits (.dict kvs)) : ShowsBy P w h a (.dict kvs) "dict" "dict.__repr__" := by
  obtain ⟨as, b1, q1, m1, k1⟩ := rk
  obtain ⟨cs, b2, q2, m2, k2⟩ := rv
  have lt : PyData.depthKv kvs < (PyData.dict kvs).depth := by show _ < PyData.depthKv kvs + 1; omega
  have hna := deeper (Reads.dict h1 h2 h3 q1 q2) lt ((m1.mono (PyData.depthAll_keys_le kvs)).append (m2.mono (PyData.depthAll_vals_le kvs)))
  refine ⟨F.slot_dict_repr, F.slot_dict_str, F.slot_dict_format, fun s hk => ⟨o, hk _ _ h1, h2⟩, fun A E s Q hg hu hk hQ => ?_⟩
  have hQ' : ∀ h' u tk, (∀ b o, s.heap.get? b = some o → h'.get? b = some o) → Q (.str (dictText (PyData.shownKv kvs)) u) { s with heap := h', toks := tk } := hQ
  have fz : (dictText (PyData.shownKv kvs)).length ≤ sizeLine := f.2
  rw [PyData.shownKv_eq] at hQ' fz
  exact call_dict_reprK h1 h2 h3 hn hna (ReprEntriesK.of_two es.toList _ _ (k1.more_le (fun b z => List.mem_append_left _ z) (PyData.depthAll_keys_le kvs)) (k2.more_le (fun b z => List.mem_append_right _ z) (PyData.depthAll_vals_le kvs))) hg (fun b _ => Clear.nil b) (show A.units + (PyData.depthKv kvs + 1) < cLine from hu) hk hQ' fz
section
variable {X : Cx} {pins : List (Addr × Obj)} {σ : L2.St} {H : Hp} {s : Shared}
theorem Dq.shows (I : Inv X pins σ H s) {d : PyData} {a : Addr} (h : Dq X.K H (.ref a) d) (f : Fits d) : ∃ T idr, ShowsBy X.prog X.w s.heap a d T idr := by
  cases h with
  | lst hs ha =>
    obtain ⟨its, rv, ⟨o, n, ho, hc, _, hd⟩, _⟩ := I.list hs
    exact ⟨_, _, shows_list ho hc hd (by simpa using Dq.rpa I _ _ its ha rv f.list) f⟩
  | tup hs ha =>
    obtain ⟨its, rv, ⟨o, ho, hc, n, hd⟩, _⟩ := I.tuple hs
    exact ⟨_, _, shows_tuple ho hc hd (by simpa using Dq.rpa I _ _ its ha rv f.tuple) f⟩
  | dct he ha =>
    obtain ⟨_, hns, vs, kv, o, es, ep, ho, hx, hd, hk, hp, _⟩ := dk_of I.hok he
    obtain ⟨ek, rv⟩ := Dq.rpv I _ _ vs ha kv f.dict.2
    have r1 := keys_read (h := s.heap) hp
    rw [ek] at r1
    exact ⟨_, _, shows_dict ho hx.1 hd hns (rpa_keys r1 f.dict.1) (by rw [vals_are hp]; exact rv) f⟩
end
mutual
def D.pyO : D → PyData
  | .non => .none
  | .bl b => .bool b
  | .int i => .int i
  | .str x => .str (S x)
  | .tup xs => .tuple (D.pysO xs)
  | .lst xs => .list (D.pysO xs)
  | .dct kvs => .dict (D.kvsO kvs)
  | _ => .none
def D.pysO : List D → List PyData
  | [] => []
  | x :: xs => x.pyO :: D.pysO xs
def D.kvsO : List (Key × D) → List (PyData × PyData)
  | [] => []
  | (k, v) :: r => (keyPy k, v.pyO) :: D.kvsO r
end
mutual
/-- plain data, dicts with them -/
def D.plain : D → Bool
  | .non => true
  | .bl _ => true
  | .int _ => true
  | .str _ => true
  | .tup xs => D.plains xs
  | .lst xs => D.plains xs
  | .dct kvs => D.plainKv kvs
  | _ => false
def D.plains : List D → Bool
  | [] => true
  | x :: xs => x.plain && D.plains xs
def D.plainKv : List (Key × D) → Bool
  | [] => true
  | (_, v) :: r => v.plain && D.plainKv r
end
section
variable {K : PySem.W.Frag} {mg : Str → Option Value} {F H : Hp} {μ : Sto}
end
/-- the text of repr -/
def D.repO (d : D) : List Nat := d.pyO.shown.cps.toList
def repOkB (d : D) : Bool := d.plain && d.pyO.showable && decide (d.pyO.depth ≤ 50) && decide (d.repO.length ≤ SZ)
def repOkO (d : D) : Prop := repOkB d = true
def rdReprO : RDn
  | [d], μ, Q => repOkO d ∧ Q (.str d.repO) μ
  | _, _, _ => False
@[simp] theorem rdReprO_1 {d : D} {μ : Sto} {Q : DK} : rdReprO [d] μ Q = (repOkO d ∧ Q (.str d.repO) μ) := rfl
section
variable {X : Cx} {pos : Pos}
end
end DL

namespace DL
open PySem PySem.Spec PyProof.Rows L2
mutual
/-- like ic, with small integers -/
def D.sm : D → Prop
  | .non => True
  | .bl _ => True
  | .int i => i.natAbs < 2 ^ 60
  | .str s => ∀ c ∈ s, c < 1114112
  | .tup xs => D.sms xs
  | .lst xs => D.sms xs
  | .dct _ => False | .scr _ => False | .ref _ => False | .ty _ => False | .gl _ => False | .pr _ _ => False | .obj _ _ => False | .exn _ _ => False | .tkt _ _ => False
def D.sms : List D → Prop
  | [] => True
  | x :: xs => x.sm ∧ D.sms xs
end
mutual
def D.wS : D → Nat
  | .int _ => 60
  | .str s => s.length
  | .tup xs => D.wSs xs
  | .lst xs => D.wSs xs
  | .non => 0 | .bl _ => 0 | .dct _ => 0 | .scr _ => 0 | .ref _ => 0 | .ty _ => 0 | .gl _ => 0 | .pr _ _ => 0 | .obj _ _ => 0 | .exn _ _ => 0 | .tkt _ _ => 0
def D.wSs : List D → Nat
  | [] => 0
  | x :: xs => x.wS + 1 + D.wSs xs
end
mutual
theorem D.sm_all : ∀ d : D, d.sm → d.ic ∧ d.py.intsShort 62 = true ∧ d.py.weight ≤ d.wS
  | .non, _ => ⟨trivial, rfl, Nat.le_refl _⟩
  | .bl _, _ => ⟨trivial, rfl, Nat.le_refl _⟩
  | .int i, h => by
    have hl := log_lt (k := 60) (by decide) h
    refine ⟨Nat.lt_trans h (by decide), ?_, ?_⟩
    · show decide _ = true
      simp only [decide_eq_true_eq]
      have := int_text_length_le (a := i) (k := 60) (by decide) hl
      have e : (PyData.shown (.int i)).length = (toString i).length := by
        show (Str.ofString (toString i)).length = _
        rw [PySem.ofString_length]
      rw [e]
      omega
    · show (if i == 0 then 0 else _) ≤ 60
      split <;> omega
  | .str s, h => by
    refine ⟨h, rfl, ?_⟩
    show s.toArray.size ≤ s.length
    simp
  | .tup xs, h => D.sms_all xs h
  | .lst xs, h => D.sms_all xs h
  | .dct _, h => h.elim
  | .scr _, h => h.elim
  | .ref _, h => h.elim
  | .ty _, h => h.elim
  | .gl _, h => h.elim
  | .pr _ _, h => h.elim
  | .obj _ _, h => h.elim
  | .exn _ _, h => h.elim
  | .tkt _ _, h => h.elim
theorem D.sms_all : ∀ ds : List D, D.sms ds → D.ics ds ∧ PyData.intsShortAll 62 (D.pys ds) = true ∧ PyData.weightAll (D.pys ds) ≤ D.wSs ds
  | [], _ => ⟨trivial, rfl, Nat.le_refl _⟩
  | x :: xs, h => by
    obtain ⟨a, c, e⟩ := D.sm_all x h.1
    obtain ⟨a', c', e'⟩ := D.sms_all xs h.2
    refine ⟨⟨a, a'⟩, ?_, ?_⟩
    · show (x.py.intsShort 62 && PyData.intsShortAll 62 (D.pys xs)) = true
      rw [c, c']; rfl
    · show x.py.weight + 1 + PyData.weightAll (D.pys xs) ≤ x.wS + 1 + D.wSs xs
      omega
end
theorem repOkS {d : D} (h : d.sm) (hw : d.wS ≤ 250000) (hd : d.dp ≤ 50) : repOk d := by
  obtain ⟨i, c2, e2⟩ := D.sm_all d h
  obtain ⟨a, b, c, e, f⟩ := D.ic_all d i
  refine ⟨a, by omega, ?_⟩
  have h2 := PyData.shown_le 62 (by decide) d.py (PyData.leavesShort_of_canLay0 62 d.py b c2)
  show d.py.shown.cps.toList.length ≤ SZ
  have e3 : d.py.shown.cps.toList.length = d.py.shown.length := by simp [Str.length]
  rw [e3]
  simp only [SZ]
  omega
/-- data that may be written out, of weight at most w and depth at most k -/
structure Shw (w k : Nat) (d : D) : Prop where
  sm : d.sm
  wt : d.wS ≤ w
  dp : d.dp ≤ k
theorem Shw.rep {w k : Nat} {d : D} (h : Shw w k d) (hw : w ≤ 250000) (hk : k ≤ 50) : repOk d := repOkS h.sm (Nat.le_trans h.wt hw) (Nat.le_trans h.dp hk)
theorem Shw.mono {w k w' k' : Nat} {d : D} (h : Shw w k d) (hw : w ≤ w') (hk : k ≤ k') : Shw w' k' d := ⟨h.sm, Nat.le_trans h.wt hw, Nat.le_trans h.dp hk⟩
end DL

namespace DL
open PySem PySem.Spec PyProof.Rows L2
structure Shx (t k : Nat) (d : D) : Prop where
  pl : d.plain = true
  sh : d.pyO.showable = true
  dp : d.pyO.depth ≤ k
  ln : d.pyO.shown.length ≤ t
theorem Shx.mono {t k t' k' : Nat} {d : D} (h : Shx t k d) (ht : t ≤ t') (hk : k ≤ k') : Shx t' k' d := ⟨h.pl, h.sh, Nat.le_trans h.dp hk, Nat.le_trans h.ln ht⟩
theorem Shx.rep {t k : Nat} {d : D} (h : Shx t k d) (ht : t ≤ 16777216) (hk : k ≤ 50) : repOkO d := by
  obtain ⟨a, b, c, e⟩ := h
  unfold repOkO repOkB D.repO
  have e3 : d.pyO.shown.cps.toList.length = d.pyO.shown.length := by simp [Str.length]
  simp only [Bool.and_eq_true, decide_eq_true_eq]
  rw [e3]
  exact ⟨⟨⟨a, b⟩, by omega⟩, by show _ ≤ 16777216; omega⟩
end DL

namespace DL
open PySem PySem.Spec PyProof.Rows L2
section
variable {prog : Program} {w : World} {A : Around} {E : Value → Shared → Prop} {s : Shared}
end
section
variable {X : Cx} {e : Expr} {d : TED} {p pos : Pos}
@[simp] def dRevT (d : TED) : TED := fun ρ μ Q => d ρ μ fun x μ1 => match x with
  | .tup xs => Q (.tup xs.reverse) μ1
  | _ => False
def rdListS : RDn
  | [.str s], μ, Q => s.length ≤ SZ ∧ Q (.lst (strD s)) μ
  | _, _, _ => False
@[simp] theorem rdListS_1 {s : List Nat} {μ : Sto} {Q : DK} : rdListS [.str s] μ Q = (s.length ≤ SZ ∧ Q (.lst (strD s)) μ) := rfl
def lrOk (i j : Int) : Prop := 0 ≤ i ∧ i ≤ 16777216 ∧ 0 ≤ j ∧ j ≤ 16777216
@[simp] def dLRngF (d : TED) : TFD := fun ρ μ Q => d ρ μ fun x μ1 => match x with
  | .int j => lrOk 0 j ∧ Q (rngD 0 j.toNat) μ1
  | _ => False
@[simp] def dTRng (d : TED) : TED := fun ρ μ Q => d ρ μ fun x μ1 => match x with
  | .int j => lrOk 0 j ∧ Q (.tup (rngD 0 j.toNat)) μ1
  | _ => False
end
end DL

namespace DL
open PySem PySem.Spec PyProof.Rows L2
section
variable {X : Cx} {a : Expr} {p p2 q pos : Pos} {d : TED}
@[simp] def dSortSetF (d : TED) : TFD := fun ρ μ Q => d ρ μ fun x μ1 => match x with
  | .tup xs => ∃ ns : List Int, xs = ns.map D.int ∧ ns.length < 60 ∧ ∀ out : List Int, out.Pairwise (· < ·) → (∀ k, k ∈ out ↔ k ∈ ns) → Q (out.map D.int) μ1
  | _ => False
@[simp] def dLenSet (d : TED) : TED := fun ρ μ Q => d ρ μ fun x μ1 => match x with
  | .tup xs => ∃ ns : List Int, xs = ns.map D.int ∧ ns.length < 60 ∧ ∀ out : List Int, out.Nodup → (∀ k, k ∈ out ↔ k ∈ ns) → Q (.int out.length) μ1
  | _ => False
end
section
variable {X : Cx}
def rdNilC (f : Bool → Bool) : RD2
  | .lst xs, .lst ys, μ, Q => ys = [] ∧ Q (.bl (f xs.isEmpty)) μ
  | _, _, _, _ => False
@[simp] theorem rdNilC_1 {f : Bool → Bool} {xs : List D} {μ : Sto} {Q : DK} : rdNilC f (.lst xs) (.lst []) μ Q = Q (.bl (f xs.isEmpty)) μ := by
  show (([] : List D) = [] ∧ _) = _
  simp
end
end DL

namespace DL
open PySem PySem.Spec PyProof.Rows L2
def keyD : D → Option Key
  | .int i => some (.inl i)
  | .str s => some (.inr (S s))
  | _ => none
@[simp] theorem keyD_int (i : Int) : keyD (.int i) = some (.inl i) := rfl
def valD (kvs : List (Key × D)) (k : Key) : Option D := (kvs.find? fun kv => decide (kv.1 = k)).map (·.2)
def putD (kvs : List (Key × D)) (k : Key) (d : D) : List (Key × D) := if kvs.any fun kv => decide (kv.1 = k) then kvs.map fun kv => if kv.1 = k then (kv.1, d) else kv else kvs ++ [(k, d)]
section
variable {K : PySem.W.Frag} {mg : Str → Option Value} {F H : Hp} {μ : Sto}
theorem Wk.key (o : Ok K mg F μ H) {v : V} {d : D} {k : Key} (h : Wk K mg F μ H v d) (e : keyD d = some k) : v = kV k := by
  cases d <;> first | cases e; done | skip
  · cases e; exact h.int
  · cases e; exact h.str
theorem Dks.val : ∀ {vs : List (Key × V)} {ds : List (Key × D)}, Dks K mg F vs ds → ∀ k, (∀ d, valD ds k = some d → ∃ v, valV vs k = some v ∧ Dt K mg F v d) ∧ (valV vs k).isSome = (valD ds k).isSome
  | _, _, .nil, k => ⟨fun d h => (by cases h), rfl⟩
  | _, _, .cons (k := j) (v := v) (d := d) h r, k => by
    have ih := Dks.val r k
    by_cases e : j = k
    · subst e
      have e1 : ∀ ds, valD ((j, d) :: ds) j = some d := fun ds => by simp [valD]
      have e2 : ∀ vs, valV ((j, v) :: vs) j = some v := fun vs => by simp [valV]
      rw [e1, e2]
      exact ⟨fun d' h' => by cases h'; exact ⟨v, rfl, h⟩, rfl⟩
    · have e1 : ∀ ds, valD ((j, d) :: ds) k = valD ds k := fun ds => by simp [valD, e]
      have e2 : ∀ vs, valV ((j, v) :: vs) k = valV vs k := fun vs => by simp [valV, e]
      rw [e1, e2]
      exact ih
theorem Dks.len : ∀ {vs : List (Key × V)} {ds : List (Key × D)}, Dks K mg F vs ds → vs.length = ds.length
  | _, _, .nil => rfl
  | _, _, .cons _ r => congrArg (· + 1) (Dks.len r)
theorem Dks.any : ∀ {vs : List (Key × V)} {ds : List (Key × D)}, Dks K mg F vs ds → ∀ k, (vs.any fun kv => decide (kv.1 = k)) = ds.any fun kv => decide (kv.1 = k)
  | _, _, .nil, _ => rfl
  | _, _, .cons _ r, k => by rw [List.any_cons, List.any_cons, Dks.any r k]
theorem Dks.rep {v : V} {d : D} (h : Dt K mg F v d) (k : Key) : ∀ {vs : List (Key × V)} {ds : List (Key × D)}, Dks K mg F vs ds → Dks K mg F (vs.map fun kv => if kv.1 = k then (kv.1, v) else kv) (ds.map fun kv => if kv.1 = k then (kv.1, d) else kv)
  | _, _, .nil => .nil
  | _, _, .cons (k := j) g r => by
    rw [List.map_cons, List.map_cons]
    by_cases e : j = k
    · simp only [if_pos e]
      exact .cons h (Dks.rep h k r)
    · simp only [if_neg e]
      exact .cons g (Dks.rep h k r)
end
section
variable {X : Cx} {B : Bs} {e o i : Expr} {d do' di : TED} {p pos : Pos}
/-- {} as a dict that changes -/
@[simp] def dNewD : TED := fun _ μ Q => ∀ p, μ p = none → Q (.ref p) (sset μ p (.dct []))
/-- d[y] -/
@[simp] def dGetD (o i : TED) : TED := fun ρ μ Q => o ρ μ fun x μ1 => i ρ μ1 fun y μ2 => ∃ a kvs k d, x = .ref a ∧ μ2 a = some (.dct kvs) ∧ keyD y = some k ∧ valD kvs k = some d ∧ Q d μ2
/-- y in d, y not in d -/
@[simp] def dInD (neg : Bool) (i o : TED) : TED := fun ρ μ Q => i ρ μ fun y μ1 => o ρ μ1 fun x μ2 => ∃ a kvs k, x = .ref a ∧ μ2 a = some (.dct kvs) ∧ keyD y = some k ∧ Q (.bl (if neg then !(valD kvs k).isSome else (valD kvs k).isSome)) μ2
/-- d[y] = v -/
@[simp] def dPutD (d o i : TED) : TSD := fun E ρ μ => d ρ μ fun v μ1 => o ρ μ1 fun x μ2 => i ρ μ2 fun y μ3 => ∃ a kvs k, x = .ref a ∧ μ3 a = some (.dct kvs) ∧ keyD y = some k ∧ kvs.length < SZ ∧ E.nx ρ (sset μ3 a (.dct (putD kvs k v)))
end
end DL

namespace DL
open PySem PySem.Spec PyProof.Rows L2
abbrev txtD (kvs : List (List Nat × List Nat)) : List (Key × D) := kvs.map fun p => (.inr (S p.1), D.str p.2)
section
variable {X : Cx} {e o i : Expr} {d do' di : TED} {p pos : Pos}
@[simp] def dDctS (kvs : List (List Nat × List Nat)) : TED := dC (.dct (txtD kvs))
/-- d[y] of a dict that does not change -/
@[simp] def dGetF (o i : TED) : TED := fun ρ μ Q => o ρ μ fun x μ1 => i ρ μ1 fun y μ2 => ∃ kvs k d, x = .dct kvs ∧ keyD y = some k ∧ valD kvs k = some d ∧ Q d μ2
end
end DL

namespace DL
open PySem PySem.Spec PyProof.Rows L2
def Fpos (h : List HI) : Prop := ∀ c f, some (c, f) ∈ h → 1 ≤ f
theorem Fpos.tail {a : HI} {h : List HI} (g : Fpos (a :: h)) : Fpos h := fun c f hc => g c f (List.mem_cons_of_mem _ hc)
end DL

namespace DL
open PySem PySem.Spec PyProof.Rows L2
section
variable {X : Cx}
def rdNeNilT : RD2
  | .tup xs, .tup ys, μ, Q => ys = [] ∧ Q (.bl (!xs.isEmpty)) μ
  | _, _, _, _ => False
@[simp] theorem rdNeNilT_1 {xs : List D} {μ : Sto} {Q : DK} : rdNeNilT (.tup xs) (.tup []) μ Q = Q (.bl (!xs.isEmpty)) μ := by
  show (([] : List D) = [] ∧ _) = _
  simp
end
section
variable {X : Cx}
def rdAddN : RD2
  | .bl k, .int i, μ, Q => Q (.int (b2i k + i)) μ
  | x, y, μ, Q => rdAdd x y μ Q
@[simp] theorem rdAddN_1 {k : Bool} {i : Int} {μ : Sto} {Q : DK} : rdAddN (.bl k) (.int i) μ Q = Q (.int (b2i k + i)) μ := rfl
@[simp] theorem rdAddN_2 {i j : Int} {μ : Sto} {Q : DK} : rdAddN (.int i) (.int j) μ Q = Q (.int (i + j)) μ := rfl
@[simp] theorem rdAddN_3 {s t : List D} {μ : Sto} {Q : DK} : rdAddN (.tup s) (.tup t) μ Q = (s.length + t.length ≤ SZ ∧ Q (.tup (s ++ t)) μ) := rfl
@[simp] theorem rdAddN_4 {s t : List D} {μ : Sto} {Q : DK} : rdAddN (.lst s) (.lst t) μ Q = (s.length + t.length ≤ SZ ∧ Q (.lst (s ++ t)) μ) := rfl
def rdSubN : RD2
  | .bl k, .int i, μ, Q => Q (.int (b2i k - i)) μ
  | .int i, .bl k, μ, Q => Q (.int (i - b2i k)) μ
  | .int i, .int j, μ, Q => Q (.int (i - j)) μ
  | _, _, _, _ => False
@[simp] theorem rdSubN_1 {k : Bool} {i : Int} {μ : Sto} {Q : DK} : rdSubN (.bl k) (.int i) μ Q = Q (.int (b2i k - i)) μ := rfl
@[simp] theorem rdSubN_2 {k : Bool} {i : Int} {μ : Sto} {Q : DK} : rdSubN (.int i) (.bl k) μ Q = Q (.int (i - b2i k)) μ := rfl
@[simp] theorem rdSubN_3 {i j : Int} {μ : Sto} {Q : DK} : rdSubN (.int i) (.int j) μ Q = Q (.int (i - j)) μ := rfl
end
section
variable {K : PySem.W.Frag} {mg : Str → Option Value}
end
/-- str() of an int or a bool -/
def truD (b : Bool) : List Nat := if b then [84, 114, 117, 101] else [70, 97, 108, 115, 101]
def rdStrZ : RDn
  | [.int i], μ, Q => i.natAbs.log2 < 1920 ∧ Q (.str (toString i : Str).cps.toList) μ
  | [.bl b], μ, Q => Q (.str (truD b)) μ
  | _, _, _ => False
@[simp] theorem rdStrZ_1 {i : Int} {μ : Sto} {Q : DK} : rdStrZ [.int i] μ Q = (i.natAbs.log2 < 1920 ∧ Q (.str (toString i : Str).cps.toList) μ) := rfl
@[simp] theorem rdStrZ_2 {b : Bool} {μ : Sto} {Q : DK} : rdStrZ [.bl b] μ Q = Q (.str (truD b)) μ := rfl
/-- the promise that asks what never is -/
def noSp : DSp := fun _ _ _ _ => False
theorem Cal.nothing {P : Program} {w : World} {K : PySem.W.Frag} {mg : Str → Option Value} {base : Heap} {CX : CXT} {k : Nat} {x : Str} {f : Addr} (hm : mg x = some (.ref f)) (hk : PySem.W.keepIn K (.ref f) = true) : Cal P w K mg base CX k x noSp :=
  ⟨f, fun _ _ _ _ _ _ _ _ _ _ _ _ ⟨_, _, _, _, _, _, _, h, _⟩ => h.elim, hm, hk⟩
end DL

namespace DL
open PySem PySem.Spec PyProof.Rows L2
open PySem.W (Tup Datum DatumOrd minOf minD dataLt alike AlikeAll)
def keysD : List D → Option (List Key)
  | [] => some []
  | d :: ds => (keyD d).bind fun k => (keysD ds).map (k :: ·)
@[simp] theorem keysD_nil : keysD [] = some [] := rfl
@[simp] theorem keysD_cons (d : D) (ds : List D) : keysD (d :: ds) = (keyD d).bind fun k => (keysD ds).map (k :: ·) := rfl
def valT (kvs : List (List Key × D)) (k : List Key) : Option D := (kvs.find? fun kv => decide (kv.1 = k)).map (·.2)
def putT (kvs : List (List Key × D)) (k : List Key) (d : D) : List (List Key × D) := if kvs.any fun kv => decide (kv.1 = k) then kvs.map fun kv => if kv.1 = k then (kv.1, d) else kv else kvs ++ [(k, d)]
section
variable {K : PySem.W.Frag} {mg : Str → Option Value} {F H : Hp} {μ : Sto}
def KvT (K : PySem.W.Frag) (mg : Str → Option Value) (F : Hp) (vs : List (List Key × V)) (ds : List (List Key × D)) : Prop := vs.map (·.1) = ds.map (·.1) ∧ Dts K mg F (vs.map (·.2)) (ds.map (·.2))
theorem KvT.cases' {v : List Key × V} {vs : List (List Key × V)} {d : List Key × D} {ds : List (List Key × D)} (h : KvT K mg F (v :: vs) (d :: ds)) : v.1 = d.1 ∧ Dt K mg F v.2 d.2 ∧ KvT K mg F vs ds := by
  obtain ⟨h1, h2⟩ := h
  rw [List.map_cons, List.map_cons] at h1 h2
  injection h1 with a b
  cases h2 with
  | cons c e => exact ⟨a, c, b, e⟩
theorem KvT.len {vs : List (List Key × V)} {ds : List (List Key × D)} (h : KvT K mg F vs ds) : vs.length = ds.length := by
  have := congrArg List.length h.1
  simpa using this
theorem KvT.val : ∀ {vs : List (List Key × V)} {ds : List (List Key × D)}, KvT K mg F vs ds → ∀ k d, valT ds k = some d → ∃ v, valV vs k = some v ∧ Dt K mg F v d
  | [], [], _, k, d, e => by cases e
  | [], _ :: _, h, _, _, _ => absurd h.len (by simp)
  | _ :: _, [], h, _, _, _ => absurd h.len (by simp)
  | (j, v) :: vs, (j', d0) :: ds, h, k, d, e => by
    obtain ⟨h1, h2, h3⟩ := h.cases'
    have h1 : j = j' := h1
    subst h1
    by_cases ej : j = k
    · subst ej
      have e1 : valT ((j, d0) :: ds) j = some d0 := by simp [valT]
      have e2 : valV ((j, v) :: vs) j = some v := by simp [valV]
      rw [e1] at e; cases e
      exact ⟨v, e2, h2⟩
    · have e1 : valT ((j, d0) :: ds) k = valT ds k := by simp [valT, ej]
      have e2 : valV ((j, v) :: vs) k = valV vs k := by simp [valV, ej]
      rw [e1] at e; rw [e2]
      exact KvT.val h3 k d e
theorem KvT.any : ∀ {vs : List (List Key × V)} {ds : List (List Key × D)}, KvT K mg F vs ds → ∀ k, (vs.any fun kv => decide (kv.1 = k)) = ds.any fun kv => decide (kv.1 = k)
  | [], [], _, k => rfl
  | [], _ :: _, h, _ => absurd h.len (by simp)
  | _ :: _, [], h, _ => absurd h.len (by simp)
  | (j, v) :: vs, (j', d0) :: ds, h, k => by
    obtain ⟨h1, h2, h3⟩ := h.cases'
    rw [List.any_cons, List.any_cons, KvT.any h3 k, h1]
theorem KvT.cons {k : List Key} {v : V} {d : D} {vs : List (List Key × V)} {ds : List (List Key × D)} (h : Dt K mg F v d) (r : KvT K mg F vs ds) : KvT K mg F ((k, v) :: vs) ((k, d) :: ds) :=
  ⟨by rw [List.map_cons, List.map_cons, r.1], .cons h r.2⟩
theorem KvT.rep {v : V} {d : D} (h : Dt K mg F v d) (k : List Key) : ∀ {vs : List (List Key × V)} {ds : List (List Key × D)}, KvT K mg F vs ds → KvT K mg F (vs.map fun kv => if kv.1 = k then (kv.1, v) else kv) (ds.map fun kv => if kv.1 = k then (kv.1, d) else kv)
  | [], [], r => r
  | [], _ :: _, h => absurd h.len (by simp)
  | _ :: _, [], h => absurd h.len (by simp)
  | (j, w) :: vs, (j', d0) :: ds, r => by
    obtain ⟨h1, h2, h3⟩ := r.cases'
    have h1 : j = j' := h1
    subst h1
    rw [List.map_cons, List.map_cons]
    by_cases e : j = k
    · simp only [if_pos e]
      exact .cons h (KvT.rep h k h3)
    · simp only [if_neg e]
      exact .cons h2 (KvT.rep h k h3)
theorem KvT.mono {F' : Hp} (hF : ∀ a o, F a = some o → F' a = some o) {vs : List (List Key × V)} {ds : List (List Key × D)} (r : KvT K mg F vs ds) : KvT K mg F' vs ds := ⟨r.1, r.2.mono hF⟩
end
section
variable {X : Cx} {B : Bs} {e o : Expr} {d do' : TED} {p pos kpos : Pos} {es : List Expr} {t : TAD} {kx : Nat}
/-- {} whose keys will be tuples -/
@[simp] def dNewT : TED := fun _ μ Q => ∀ p, μ p = none → Q (.ref p) (sset μ p (.dtt []))
/-- d[(y, z)] -/
@[simp] def dGetT (o : TED) (t : TAD) : TED := fun ρ μ Q => o ρ μ fun x μ1 => t ρ μ1 fun ys μ2 => ∃ a kvs k d, x = .ref a ∧ μ2 a = some (.dtt kvs) ∧ keysD ys = some k ∧ ys.length ≤ SZ ∧ valT kvs k = some d ∧ Q d μ2
/-- d[(y, z)] = v -/
@[simp] def dPutT (d o : TED) (t : TAD) : TSD := fun E ρ μ => d ρ μ fun v μ1 => o ρ μ1 fun x μ2 => t ρ μ2 fun ys μ3 => ∃ a kvs k, x = .ref a ∧ μ3 a = some (.dtt kvs) ∧ keysD ys = some k ∧ ys.length ≤ SZ ∧ kvs.length < SZ ∧ E.nx ρ (sset μ3 a (.dtt (putT kvs k v)))
end
section
variable {K : PySem.W.Frag} {mg : Str → Option Value}
/-- data of one form, as a list for min -/
def alikeD (xs : List D) : Prop := D.flats xs = true ∧ AlikeAll (D.pys xs) ∧ PyData.depthAll (D.pys xs) ≤ 60
def rdMinD : RDn
  | [.lst (x :: xs)], μ, Q => alikeD (x :: xs) ∧ ∀ d, d ∈ x :: xs → d.py = minD x.py (D.pys xs) → Q d μ
  | _, _, _ => False
@[simp] theorem rdMinD_1 : rdMinD [.lst (x0 :: xs0)] μ0 Q0 = (alikeD (x0 :: xs0) ∧ ∀ d, d ∈ x0 :: xs0 → d.py = minD x0.py (D.pys xs0) → Q0 d μ0) := rfl
end
class DatD (α : Type) [DecidableEq α] [DatumOrd α] where
  of : α → D
  flat : ∀ a, (of a).flat = true
  py : ∀ a, (of a).py = Datum.toD a
theorem flats_map {α : Type} [DecidableEq α] [DatumOrd α] [DatD α] : ∀ l : List α, D.flats (l.map DatD.of) = true
  | [] => rfl
  | a :: l => by rw [List.map_cons, D.flats, DatD.flat a, flats_map l]; rfl
theorem pys_of {α : Type} [DecidableEq α] [DatumOrd α] [DatD α] : ∀ l : List α, D.pys (l.map DatD.of) = l.map Datum.toD
  | [] => rfl
  | a :: l => by rw [List.map_cons, D.pys, DatD.py a, pys_of l]; rfl
instance : DatD Int := ⟨D.int, fun _ => rfl, fun _ => rfl⟩
instance {α β : Type} [DecidableEq α] [DatumOrd α] [DatD α] [DecidableEq β] [DatumOrd β] [DatD β] : DatD (α × β) :=
  ⟨fun p => .tup [DatD.of p.1, DatD.of p.2], fun p => by simp [D.flat, D.flats, DatD.flat], fun p => by simp [D.py, D.pys, DatD.py]; rfl⟩
instance {α : Type} [DecidableEq α] [DatumOrd α] [DatD α] : DatD (Tup α) :=
  ⟨fun p => .tup (p.items.map DatD.of), fun p => by simp only [D.flat]; exact flats_map _, fun p => by simp only [D.py]; rw [pys_of]; rfl⟩
end DL

namespace DL
open PySem PySem.Spec PyProof.Rows L2
section
variable {X : Cx} {e o a b t : Expr} {do' : TED} {p pos apos : Pos} {da db : TFD} {ta : TTD}
@[simp] def dBits (o : TED) : TED := fun ρ μ Q => o ρ μ fun x μ1 => ∃ i, x = .int i ∧ Q (.int (Builtin.Int.intBits i : Nat)) μ1
@[simp] def dIfF (t : TTD) (a b : TFD) : TFD := fun ρ μ Q => t ρ μ fun c μ1 => if c = true then a ρ μ1 Q else b ρ μ1 Q
end
end DL

namespace DL
open PySem PySem.Spec PyProof.Rows L2
section
variable {X : Cx} {ea eb ec ed ek ex : Expr} {da db dc dd dk dx : TED} {p pos apos dpos : Pos}
@[simp] def dDG (a b c d k x : TED) : TED := fun ρ μ Q => a ρ μ fun va μ1 => b ρ μ1 fun vb μ2 => c ρ μ2 fun vc μ3 => d ρ μ3 fun vd μ4 =>
  ∃ ia ib ic id : Int, va = .int ia ∧ vb = .int ib ∧ vc = .int ic ∧ vd = .int id ∧ k ρ μ4 fun vk μ5 => x ρ μ5 fun vx μ6 => ∃ ik ix : Int, vk = .int ik ∧ vx = .int ix ∧ Q (.int (if ik = ic then id else if ik = ia then ib else ix)) μ6
end
end DL

namespace DL
open PySem PySem.Spec PyProof.Rows L2
def putFD (f : Str) (v : D) : List (Str × D) → List (Str × D)
  | [] => [(f, v)]
  | (g, x) :: r => if g = f then (g, v) :: r else (g, x) :: putFD f v r
section
variable {K : PySem.W.Frag} {mg : Str → Option Value} {F H : Hp} {μ : Sto}
def FsR (K : PySem.W.Frag) (mg : Str → Option Value) (F : Hp) (vs : List (Str × V)) (ds : List (Str × D)) : Prop := vs.map (·.1) = ds.map (·.1) ∧ Dts K mg F (vs.map (·.2)) (ds.map (·.2))
theorem FsR.cases' {v : Str × V} {vs : List (Str × V)} {d : Str × D} {ds : List (Str × D)} (h : FsR K mg F (v :: vs) (d :: ds)) : v.1 = d.1 ∧ Dt K mg F v.2 d.2 ∧ FsR K mg F vs ds := by
  obtain ⟨h1, h2⟩ := h
  rw [List.map_cons, List.map_cons] at h1 h2
  injection h1 with a b
  cases h2 with
  | cons c e => exact ⟨a, c, b, e⟩
theorem FsR.len {vs : List (Str × V)} {ds : List (Str × D)} (h : FsR K mg F vs ds) : vs.length = ds.length := by
  have := congrArg List.length h.1
  simpa using this
theorem FsR.cons {k : Str} {v : V} {d : D} {vs : List (Str × V)} {ds : List (Str × D)} (h : Dt K mg F v d) (r : FsR K mg F vs ds) : FsR K mg F ((k, v) :: vs) ((k, d) :: ds) :=
  ⟨by rw [List.map_cons, List.map_cons, r.1], .cons h r.2⟩
theorem FsR.mono {F' : Hp} (hF : ∀ a o, F a = some o → F' a = some o) {vs : List (Str × V)} {ds : List (Str × D)} (r : FsR K mg F vs ds) : FsR K mg F' vs ds := ⟨r.1, r.2.mono hF⟩
theorem Ok.ins (o : Ok K mg F μ H) {a : Addr} {c : Str} {fs : List (Str × D)} (h : μ a = some (.ins c fs)) : ∃ C dx vfs, mg c = some (.ref C) ∧ H a = some (.ins C dx vfs) ∧ FsR K mg F vfs fs := by
  obtain ⟨C, dx, vfs, h1, h2, h3, h4⟩ := o.sto _ _ h
  exact ⟨C, dx, vfs, h1, h2, h3, h4⟩
/-- an instance: its class, its fields -/
def insOf (μ : Sto) : D → Option (Str × List (Str × D))
  | .ref a => match μ a with
    | some (.ins c fs) => some (c, fs)
    | _ => none
  | .obj c fs => some (c, fs)
  | _ => none
@[simp] theorem insOf_obj {c : Str} {fs : List (Str × D)} : insOf μ (.obj c fs) = some (c, fs) := rfl
@[simp] theorem insOf_ref {a : Addr} {c : Str} {fs : List (Str × D)} : insOf μ (.ref a) = some (c, fs) ↔ μ a = some (.ins c fs) := by
  unfold insOf
  dsimp only
  split
  · rename_i c' fs' e
    rw [e]
    constructor
    · intro h; cases h; rfl
    · intro h; cases h; rfl
  · rename_i hn
    constructor
    · intro h; cases h
    · intro h; exact (hn _ _ h).elim
def insK : Option (Str × List (Str × D)) → (Str → List (Str × D) → Prop) → Prop
  | some (c, fs), k => k c fs
  | none, _ => False
@[simp] theorem insK_1 {c : Str} {fs : List (Str × D)} {k : Str → List (Str × D) → Prop} : insK (some (c, fs)) k = k c fs := rfl
@[simp] theorem insOf_same {a : Addr} {c : Str} {fs : List (Str × D)} : insOf (sset μ a (.ins c fs)) (.ref a) = some (c, fs) := insOf_ref.mpr sset_same
def selK : List (Str × DSp) → Str → (DSp → Prop) → Prop
  | [], _, _ => False
  | (c', S) :: r, c, k => if c' = c then k S else selK r c k
@[simp] theorem selK_0 {c : Str} {k : DSp → Prop} : selK [] c k = False := rfl
@[simp] theorem selK_1 {c c' : Str} {S : DSp} {r : List (Str × DSp)} {k : DSp → Prop} : selK ((c', S) :: r) c k = if c' = c then k S else selK r c k := rfl
def fldK : List (Str × D) → Str → (D → Prop) → Prop
  | [], _, _ => False
  | (g, x) :: r, f, k => if g = f then k x else fldK r f k
@[simp] theorem fldK_0 {f : Str} {k : D → Prop} : fldK [] f k = False := rfl
@[simp] theorem fldK_1 {f g : Str} {x : D} {r : List (Str × D)} {k : D → Prop} : fldK ((g, x) :: r) f k = if g = f then k x else fldK r f k := rfl
/-- no field of that name -/
def noF (fs : List (Str × D)) (m : Str) : Prop := fs.lookup m = none
@[simp] theorem noF_0 {m : Str} : noF [] m = True := by simp [noF]
@[simp] theorem noF_1 {m g : Str} {x : D} {r : List (Str × D)} : noF ((g, x) :: r) m = (¬ g = m ∧ noF r m) := by
  unfold noF
  rw [List.lookup_cons]
  by_cases e : g = m
  · subst e; simp
  · have e' : (m == g) = false := beq_eq_false_iff_ne.mpr fun z => e z.symm
    rw [e']; simp [e]
@[simp] theorem putFD_0 {f : Str} {v : D} : putFD f v [] = [(f, v)] := rfl
@[simp] theorem putFD_1 {f g : Str} {v x : D} {r : List (Str × D)} : putFD f v ((g, x) :: r) = if g = f then (g, v) :: r else (g, x) :: putFD f v r := rfl
end
section
variable {X : Cx} {Bq : Bs}
abbrev RlT := Hp → DEnv → Sto → L2.St → Hp → Prop
structure Md (X : Cx) (Rl : RlT) (W : DEnv → DXK) : Prop where
  rel : ∀ F ρ μ σ H, Rl F ρ μ σ H → Rel X.K X.mg F ρ μ σ H
  step : ∀ F ρ μ σ H F' μ' H', Rl F ρ μ σ H → Ext F μ H F' μ' H' → Ok X.K X.mg F' μ' H' → Rl F' ρ μ' σ H'
  wish : ∀ σ, ∃ E : XK, PassesAt (L2.CX X.prog X.w) X σ E ∧ ∀ F ρ μ H, Rl F ρ μ σ H → ∀ cv od F' μ' H' c fs, Ext F μ H F' μ' H' → Ok X.K X.mg F' μ' H' → XD X.K X.mg H F' μ' H' cv od c fs → W ρ c fs μ' → E cv od H'
theorem Md.no : Md X (Rel X.K X.mg) (fun _ => noD) := ⟨fun _ _ _ _ _ h => h, fun _ _ _ _ _ _ _ _ h e o => h.ext e o, fun σ => ⟨_, passAt takesN σ, fun _ _ _ _ _ _ _ _ _ _ _ _ _ _ _ z => z.elim⟩⟩
theorem Md.x {W : DEnv → DXK} (tk : Takes X (liftWX X.K X.mg Bq W)) : Md X (RelB X.K X.mg Bq) W := ⟨fun _ _ _ _ _ h => h.rel, fun _ _ _ _ _ _ _ _ h e o => h.step e o, fun σ => ⟨_, passAt tk σ, fun F ρ μ H R cv od F' μ' H' c fs e o x w => ⟨F', ρ, μ', c, fs, R.step e o, x.mono R.ext.live, w⟩⟩⟩
end
theorem FR.up {P : Program} {w : World} {K : PySem.W.Frag} {mg : Str → Option Value} {base : Heap} {k : Nat} {f : Addr} {sp : Sp} (h : FR P w K mg base L2.CX0 k f sp) : FR P w K mg base (L2.CX P w) k f sp := by
  intro A outer s H us vs Q E q r e v z
  refine codeAny_mono (h A outer s H us vs Q E q r e v z) ?_
  intro r s' hz
  cases r with
  | error e => exact hz.elim
  | ok f => cases f <;> exact hz
section
variable {X : Cx} {B : Bs} {o e : Expr} {do' d : TED} {f m : Str} {pos pos' apos : Pos} {cs : List Str}
/-- o.f -/
@[simp] def dFld (cs : List Str) (f : Str) (o : TED) : TED := fun ρ μ Q => o ρ μ fun x μ1 => insK (insOf μ1 x) fun c fs => c ∈ cs ∧ fldK fs f fun v => Q v μ1
/-- the address of an object that changes -/
def refK : D → (Addr → Prop) → Prop
  | .ref a, k => k a
  | _, _ => False
@[simp] theorem refK_1 {a : Addr} {k : Addr → Prop} : refK (.ref a) k = k a := rfl
/-- o.f = v -/
@[simp] def dSetA (cs : List Str) (f : Str) (o d : TED) : TSD := fun E ρ μ => d ρ μ fun y μ1 => o ρ μ1 fun x μ2 => refK x fun a => insK (insOf μ2 (.ref a)) fun c fs => c ∈ cs ∧ fs.length < 1000 ∧ E.nx ρ (sset μ2 a (.ins c (putFD f y fs)))
end
/-- the method m of the class c keeps the promise S -/
def MCal (P : Program) (w : World) (K : PySem.W.Frag) (mg : Str → Option Value) (base : Heap) (k : Nat) (m : Str) (c : Str) (S : DSp) : Prop := ∃ C f, mg c = some (.ref C) ∧ Cls K C ∧ Meth K C m f ∧ FR P w K mg base (L2.CX P w) k f (liftP K mg S)
theorem MCal.mono {P : Program} {w : World} {K : PySem.W.Frag} {mg : Str → Option Value} {base : Heap} {j k : Nat} {m c : Str} {S : DSp} (h : MCal P w K mg base j m c S) (hk : j ≤ k) : MCal P w K mg base k m c S := by
  obtain ⟨C, f, h1, h2, h3, h4⟩ := h
  exact ⟨C, f, h1, h2, h3, fun A outer s H us vs Q E q rm => h4 A outer s H us vs Q E q (rm.mono hk)⟩
section
variable {X : Cx} {B : Bs} {o e : Expr} {es : List Expr} {do' d : TED} {t : TAD} {f m : Str} {pos pos' apos : Pos} {k : Nat} {Ss : List (Str × DSp)} {W : DEnv → DXK} {Rl : RlT}
/-- o.m(..) -/
@[simp] def dMeth (m : Str) (Ss : List (Str × DSp)) (o : TED) (t : TAD) (W : DEnv → DXK) : TED := fun ρ μ Q => o ρ μ fun x μ1 => insK (insOf μ1 x) fun c fs => noF fs m ∧ selK Ss c fun S => t ρ μ1 fun ds μ2 => S (x :: ds) μ2 Q (W ρ)
end
section
variable {X : Cx} {B : Bs} {o e : Expr} {es : List Expr} {do' d : TED} {t : TAD} {f m x : Str} {p pos pos' apos : Pos} {k : Nat} {Ss : List (Str × DSp)} {W : DEnv → DXK} {C pr g a dx : Addr} {fs : List (Str × V)} {sp : Sp} {Rl : RlT}
@[simp] def dProp (f : Str) (Ss : List (Str × DSp)) (o : TED) (_ : DEnv → DXK) : TED := fun ρ μ Q => o ρ μ fun x μ1 => insK (insOf μ1 x) fun c _ => selK Ss c fun S => S [x] μ1 Q noD
end
/-- a class whose objects never change: from the arguments either the fields or an exception -/
abbrev ZMk := List D → (List (Str × D)) ⊕ (Str × List (Str × D))
/-- .. and the call -/
def zNew (c : Str) (dom : List D → Prop) (mk : ZMk) : DSp := fun ds μ Q E => dom ds ∧ match mk ds with
  | .inl fs => Q (.obj c fs) μ
  | .inr (e, efs) => E e efs μ
section
variable {X : Cx} {B : Bs} {e : Expr} {es : List Expr} {t : TAD} {x : Str} {p pos : Pos} {k : Nat} {S : DSp} {W : DEnv → DXK} {C f : Addr} {sp : Sp} {Rl : RlT}
@[simp] def dMake (c : Str) (S : DSp) (t : TAD) (W : DEnv → DXK) : TED := fun ρ μ Q => t ρ μ fun ds μ1 => ∀ x, μ1 x = none → S (.ref x :: ds) (sset μ1 x (.ins c [])) (fun v μ2 => v = .non ∧ Q (.ref x) μ2) (W ρ)
@[simp] def dMakeZ (c : Str) (dom : List D → Prop) (mk : ZMk) (t : TAD) (W : DEnv → DXK) : TED := fun ρ μ Q => t ρ μ fun ds μ1 => zNew c dom mk ds μ1 Q (W ρ)
end
end DL

namespace DL
open PySem PySem.Spec PyProof.Rows L2
/-- .. at data -/
def rdM (Ss : List (Str × DSp)) : List D → Sto → DK → DXK → Prop
  | x :: r, μ, Q, E => insK (insOf μ x) fun c _ => selK Ss c fun S => S (x :: r) μ Q E
  | [], _, _, _ => False
@[simp] theorem rdM_1 {Ss : List (Str × DSp)} {x : D} {r : List D} {μ : Sto} {Q : DK} {E : DXK} : rdM Ss (x :: r) μ Q E = insK (insOf μ x) fun c _ => selK Ss c fun S => S (x :: r) μ Q E := rfl
section
variable {X : Cx} {k : Nat} {m : Str} {Ss : List (Str × DSp)}
def okS (μ : Sto) (x y : D) : Prop := isiOk y = true ∨ ∃ c fs gs, insOf μ x = some (c, fs) ∧ insOf μ y = some (c, gs)
@[simp] theorem okS_obj {μ : Sto} {c : Str} {fs gs : List (Str × D)} : okS μ (.obj c fs) (.obj c gs) := .inr ⟨c, fs, gs, rfl, rfl⟩
end
end DL

namespace DL
open PySem PySem.Spec PyProof.Rows L2
section
variable {X : Cx} {a b c e : Expr} {da db dc : TED} {pos : Pos} {K : PySem.W.Frag} {mg : Str → Option Value}
end
section
variable {X : Cx} {k : Nat} {Ss : List (Str × DSp)}
@[simp] def rdInO (Ss : List (Str × DSp)) (neg : Bool) : RD2 := fun x y μ Q => rdM Ss [y, x] μ (fun v μ' => blK v fun b => Q (.bl (b != neg)) μ') noD
@[simp] def rdEqO (Ss : List (Str × DSp)) : RD2 := fun x y μ Q => okS μ x y ∧ rdM Ss [x, y] μ Q noD
end
section
open PySem.W
variable {prog : Program} {w : World} {A : Around} {E : Value → Shared → Prop} {K : PySem.W.Frag} {x C L f : Addr} {h₀ : Heap} {m : Str → Option Value} {ox : Obj} {od : Option Obj}
end
section
variable {X : Cx} {a b : Expr} {da db : TED} {pos : Pos} {k : Nat} {Ss : List (Str × DSp)} {W : DEnv → DXK} {Rl : RlT}
@[simp] def dBinO (Ss : List (Str × DSp)) (a b : TED) (W : DEnv → DXK) : TED := fun ρ μ Q => a ρ μ fun x μ1 => b ρ μ1 fun y μ2 => okS μ2 x y ∧ rdM Ss [x, y] μ2 Q (W ρ)
@[simp] def dIxO (Ss : List (Str × DSp)) (a b : TED) (W : DEnv → DXK) : TED := fun ρ μ Q => a ρ μ fun x μ1 => b ρ μ1 fun y μ2 => rdM Ss [x, y] μ2 Q (W ρ)
end
section
variable {X : Cx} {k : Nat} {Ss : List (Str × DSp)}
theorem Wk.ins {K : PySem.W.Frag} {mg : Str → Option Value} {F H : Hp} {μ : Sto} {v : V} {d : D} {c : Str} {fs : List (Str × D)} (w : Wk K mg F μ H v d) (h : insOf μ d = some (c, fs)) : Dt K mg F v d := by
  rcases w with w | ⟨_, _, _, _, rfl, _⟩
  · exact w
  · cases h
def rdUnO (Ss : List (Str × DSp)) (T : D → Sto → DK → Prop) : RDn
  | [x], μ, Q => rdM Ss [x] μ (fun v μ' => T v μ' Q) noD
  | _, _, _ => False
@[simp] theorem rdUnO_1 {T : D → Sto → DK → Prop} {x : D} {μ : Sto} {Q : DK} : rdUnO Ss T [x] μ Q = rdM Ss [x] μ (fun v μ' => T v μ' Q) noD := rfl
@[simp] def tLenD : D → Sto → DK → Prop := fun v μ Q => ∃ n : Int, v = .int n ∧ 0 ≤ n ∧ n < 9223372036854775808 ∧ Q (.int n) μ
@[simp] def tStrD : D → Sto → DK → Prop := fun v μ Q => ∃ z, v = .str z ∧ Q (.str z) μ
end
end DL

namespace DL
open PySem PySem.Spec PyProof.Rows L2
def noTyps (K : PySem.W.Frag) (C : Addr) : Bool := typs.all fun n => PySem.W.subIn K (.ref C) (.type n) == some false
/-- what isinstance asks of a class -/
structure InsC (K : PySem.W.Frag) (C : Addr) : Prop where
  cl : Cls K C
  ha : PySem.W.findIn K (.ref C) "__class__" = some (some (.builtin "object.__class__"))
  hn : PySem.W.specialIn K (.builtin "object.__class__") "__get__" = some (some (.builtin "getset_descriptor.__get__"))
  ht : PySem.W.takesIn K (.builtin "object.__class__") = some true
  hm : PySem.W.mroIn K C (.type "object") = some true
  ty : PySem.W.typeIn K (.ref C) = some (.type "type")
  no : noTyps K C = true
abbrev ITab := List ((Str × Str) × Bool)
def ITab.has (T : ITab) (q : Str) : Bool := T.any fun z => decide (z.1.2 = q)
def ITab.hasC (T : ITab) (c : Str) : Bool := T.any fun z => decide (z.1.1 = c)
def ITab.get (T : ITab) (c q : Str) : Option Bool := (T.find? fun z => decide (z.1.1 = c) && decide (z.1.2 = q)).map (·.2)
def isiF (T : ITab) (μ : Sto) (d : D) (q : Str) : Option Bool := if isiOk d = true then (if T.has q then some false else none) else (insOf μ d).bind fun z => T.get z.1 q
def isiG (T : ITab) (μ : Sto) (d : D) (t : String) : Option Bool := if isiOk d = true then some (isiD d t) else (insOf μ d).bind fun z => if T.hasC z.1 then some false else none
def optK : Option Bool → (Bool → Prop) → Prop
  | some b, k => k b
  | none, _ => False
@[simp] theorem optK_1 {b : Bool} {k : Bool → Prop} : optK (some b) k = k b := rfl
def rdIsiO (T : ITab) : RDn
  | [d, .gl q], μ, Q => optK (isiF T μ d q) fun b => Q (.bl b) μ
  | [d, .ty t], μ, Q => t ∈ typs ∧ optK (isiG T μ d t) fun b => Q (.bl b) μ
  | _, _, _ => False
@[simp] theorem rdIsiO_1 {T : ITab} {d : D} {q : Str} {μ : Sto} {Q : DK} : rdIsiO T [d, .gl q] μ Q = optK (isiF T μ d q) fun b => Q (.bl b) μ := rfl
@[simp] theorem rdIsiO_2 {T : ITab} {d : D} {t : String} {μ : Sto} {Q : DK} : rdIsiO T [d, .ty t] μ Q = (t ∈ typs ∧ optK (isiG T μ d t) fun b => Q (.bl b) μ) := rfl
@[simp] theorem isiG_non {T : ITab} {μ : Sto} {t : String} {b : Bool} {i : Int} {s : List Nat} {xs : List D} {ns : List Int} {kvs : List (Key × D)} : isiG T μ .non t = some (isiD .non t) := rfl
@[simp] theorem isiG_bl {T : ITab} {μ : Sto} {t : String} {b : Bool} {i : Int} {s : List Nat} {xs : List D} {ns : List Int} {kvs : List (Key × D)} : isiG T μ (.bl b) t = some (isiD (.bl b) t) := rfl
@[simp] theorem isiG_int {T : ITab} {μ : Sto} {t : String} {b : Bool} {i : Int} {s : List Nat} {xs : List D} {ns : List Int} {kvs : List (Key × D)} : isiG T μ (.int i) t = some (isiD (.int i) t) := rfl
@[simp] theorem isiG_str {T : ITab} {μ : Sto} {t : String} {b : Bool} {i : Int} {s : List Nat} {xs : List D} {ns : List Int} {kvs : List (Key × D)} : isiG T μ (.str s) t = some (isiD (.str s) t) := rfl
@[simp] theorem isiG_tup {T : ITab} {μ : Sto} {t : String} {b : Bool} {i : Int} {s : List Nat} {xs : List D} {ns : List Int} {kvs : List (Key × D)} : isiG T μ (.tup xs) t = some (isiD (.tup xs) t) := rfl
@[simp] theorem isiG_lst {T : ITab} {μ : Sto} {t : String} {b : Bool} {i : Int} {s : List Nat} {xs : List D} {ns : List Int} {kvs : List (Key × D)} : isiG T μ (.lst xs) t = some (isiD (.lst xs) t) := rfl
@[simp] theorem isiG_scr {T : ITab} {μ : Sto} {t : String} {b : Bool} {i : Int} {s : List Nat} {xs : List D} {ns : List Int} {kvs : List (Key × D)} : isiG T μ (.scr ns) t = some (isiD (.scr ns) t) := rfl
@[simp] theorem isiG_dct {T : ITab} {μ : Sto} {t : String} {b : Bool} {i : Int} {s : List Nat} {xs : List D} {ns : List Int} {kvs : List (Key × D)} : isiG T μ (.dct kvs) t = some (isiD (.dct kvs) t) := rfl
section
variable {K : PySem.W.Frag} {mg : Str → Option Value} {T : ITab}
theorem InsC.isSome {C : Addr} (i : InsC K C) : (PySem.W.clsIn K C).isSome = true := by
  obtain ⟨cd, hc, _⟩ := PySem.W.any_some i.cl.hd
  rw [hc]; rfl
end
section
open Builtin PySem.W
variable {prog : Program} {w : World} {A : Around} {E : Value → Shared → Prop} {s : Shared} {K : PySem.W.Frag} {x C L f : Addr} {h₀ : Heap} {m : Str → Option Value} {ox : Obj} {od : Option Obj}
end
section
variable {X : Cx} {k : Nat} {Ss : List (Str × DSp)}
@[simp] def tBoolD : D → Sto → DK → Prop := fun v μ Q => ∃ b, v = .bl b ∧ Q (.bl b) μ
end
end DL

namespace DL
open PySem PySem.Spec PyProof.Rows L2
section
open Builtin PySem.W
variable {prog : Program} {w : World} {A : Around} {E : Value → Shared → Prop} {s : Shared} {K : PySem.W.Frag} {x C L f : Addr} {h₀ : Heap} {m : Str → Option Value} {ox : Obj} {od : Option Obj}
end
section
variable {X : Cx} {k : Nat} {Ss : List (Str × DSp)}
@[simp] def rdNeO (Ss : List (Str × DSp)) : RD2 := fun x y μ Q => okS μ x y ∧ rdM Ss [x, y] μ (fun v μ' => blK v fun b => Q (.bl (!b)) μ') noD
end
theorem FR.mono {P : Program} {w : World} {K : PySem.W.Frag} {mg : Str → Option Value} {base : Heap} {CX : CXT} {j k : Nat} {f : Addr} {sp : Sp} (h : FR P w K mg base CX j f sp) (hk : j ≤ k) : FR P w K mg base CX k f sp :=
  fun A outer s H us vs Q E q rm => h A outer s H us vs Q E q (rm.mono hk)
end DL

namespace DL
open PySem PySem.Spec PyProof.Rows L2
def rdEnds : RDm
  | .str s, [.str t], μ, Q => Q (.bl (decide (t <:+ s))) μ
  | _, _, _, _ => False
@[simp] theorem rdEnds_1 {s t : List Nat} {μ : Sto} {Q : DK} : rdEnds (.str s) [.str t] μ Q = Q (.bl (decide (t <:+ s))) μ := rfl
end DL

namespace DL
open PySem PySem.Spec PyProof.Rows L2
section
variable {X : Cx} {e fe : Expr} {es : List Expr} {do' : TED} {t : TAD} {pos : Pos} {k : Nat} {Ss : List (Str × DSp)} {W : DEnv → DXK} {Rl : RlT}
@[simp] def dCallO (Ss : List (Str × DSp)) (o : TED) (t : TAD) (W : DEnv → DXK) : TED := fun ρ μ Q => o ρ μ fun x μ1 => insK (insOf μ1 x) fun _ _ => t ρ μ1 fun ds μ2 => rdM Ss (x :: ds) μ2 Q (W ρ)
end
end DL

namespace DL
open PySem PySem.Spec PyProof.Rows L2
/-- {x}: a text or an int -/
def fmtK : D → (List Nat → Prop) → Prop
  | .str s, k => s.length ≤ SZ ∧ k s
  | .int i, k => i.natAbs.log2 < 1920 ∧ k (toString i : Str).cps.toList
  | _, _ => False
@[simp] theorem fmtK_1 {s : List Nat} {k : List Nat → Prop} : fmtK (.str s) k = (s.length ≤ SZ ∧ k s) := rfl
@[simp] theorem fmtK_2 {i : Int} {k : List Nat → Prop} : fmtK (.int i) k = (i.natAbs.log2 < 1920 ∧ k (toString i : Str).cps.toList) := rfl
def strK : D → (List Nat → Prop) → Prop
  | .str s, k => k s
  | _, _ => False
@[simp] theorem strK_1 {s : List Nat} {k : List Nat → Prop} : strK (.str s) k = k s := rfl
@[simp] def dFmt (d : TED) : TED := fun ρ μ Q => d ρ μ fun x μ1 => fmtK x fun s => Q (.str s) μ1
/-- the parts, one behind the other -/
def dJs : List TED → List Nat → DEnv → Sto → (List Nat → Sto → Prop) → Prop
  | [], acc, _, μ, Q => Q acc μ
  | p :: ps, acc, ρ, μ, Q => p ρ μ fun x μ1 => strK x fun s => acc.length + s.length ≤ SZ ∧ dJs ps (acc ++ s) ρ μ1 Q
@[simp] theorem dJs_0 {acc : List Nat} {ρ : DEnv} {μ : Sto} {Q : List Nat → Sto → Prop} : dJs [] acc ρ μ Q = Q acc μ := rfl
@[simp] theorem dJs_1 {p : TED} {ps : List TED} {acc : List Nat} {ρ : DEnv} {μ : Sto} {Q : List Nat → Sto → Prop} : dJs (p :: ps) acc ρ μ Q = p ρ μ fun x μ1 => strK x fun s => acc.length + s.length ≤ SZ ∧ dJs ps (acc ++ s) ρ μ1 Q := rfl
@[simp] def dFs (ps : List TED) : TED := fun ρ μ Q => dJs ps [] ρ μ fun s μ1 => Q (.str s) μ1
section
variable {X : Cx} {e : Expr} {es : List Expr} {d p : TED} {ps : List TED} {pos : Pos}
end
end DL

namespace DL
open PySem PySem.Spec PyProof.Rows L2
/-- the parts between the signs c -/
def spl (c : Nat) (s : List Nat) : List (List Nat) := (Txt.split (S s) (S [c])).map fun p => p.cps.toList
def rdSplit : RDm
  | .str s, [.str [c]], μ, Q => s.length + 2 ≤ SZ ∧ Q (.lst ((spl c s).map D.str)) μ
  | _, _, _, _ => False
@[simp] theorem rdSplit_1 {s : List Nat} {c : Nat} {μ : Sto} {Q : DK} : rdSplit (.str s) [.str [c]] μ Q = (s.length + 2 ≤ SZ ∧ Q (.lst ((spl c s).map D.str)) μ) := rfl
/-- int(text of figures) -/
def rdIntS : RDn
  | [.str s], μ, Q => s ≠ [] ∧ (∀ c ∈ s, 48 ≤ c ∧ c ≤ 57) ∧ s.length ≤ 640 ∧ Q (.int ((NumText.digitsVal s : Nat) : Int)) μ
  | _, _, _ => False
@[simp] theorem rdIntS_1 {s : List Nat} {μ : Sto} {Q : DK} : rdIntS [.str s] μ Q = (s ≠ [] ∧ (∀ c ∈ s, 48 ≤ c ∧ c ≤ 57) ∧ s.length ≤ 640 ∧ Q (.int ((NumText.digitsVal s : Nat) : Int)) μ) := rfl
/-- text or other -/
@[simp] def dOrT (a b : TED) : TED := fun ρ μ Q => a ρ μ fun x μ1 => strK x fun s => s.length ≤ SZ ∧ if s = [] then b ρ μ1 Q else Q (.str s) μ1
end DL

namespace DL
open PySem PySem.Spec PyProof.Rows L2 CwR
/-- a value is evaluated, and a token is out behind it -/
def PEG (X : Cx) (e : Expr) (t : TE) : Prop := ∀ (pins : List (Addr × Obj)) (s : Shared) (σ : L2.St) (H : Hp) (Q : VK), Inv X pins σ H s → t σ H Q → wpAny (model X.prog X.w) X.A (eval e X.env) (fun u s' => 1 ≤ s'.toks ∧ EP X pins σ Q u s') X.xe s
section
variable {X : Cx} {e a o : Expr} {es : List Expr} {te to : TE} {t : TA} {da d do' : TED} {td : TAD} {pos c0 c1 apos : Pos} {y z : List Nat} {j k : Nat}
theorem PEG.weaken {t' : TE} (h : PEG X e te) (w : ∀ σ H Q, t' σ H Q → te σ H Q) : PEG X e t' := fun pins s σ H Q I q => h pins s σ H Q I (w σ H Q q)
theorem S_cps (x : Str) : S x.cps.toList = x := by
  obtain ⟨a⟩ := x
  show (⟨a.toList.toArray⟩ : Str) = ⟨a⟩
  simp
/-- the text with the parts replaced -/
def replL (x y z : List Nat) : List Nat := (Txt.replace (S x) (S y) (S z)).cps.toList
def replK (y z : List Nat) : D → (D → Prop) → Prop
  | .str x, Q => x.length + (x.length + 1) * z.length ≤ SZ ∧ Q (.str (replL x y z))
  | _, _ => False
@[simp] theorem replK_1 {x y z : List Nat} {Q : D → Prop} : replK y z (.str x) Q = (x.length + (x.length + 1) * z.length ≤ SZ ∧ Q (.str (replL x y z))) := rfl
@[simp] def dRepl (y z : List Nat) (d : TED) : TED := fun ρ μ Q => d ρ μ fun v μ1 => replK y z v fun w => Q w μ1
end
def upL (x : List Nat) : List Nat := (Txt.upper (S x)).cps.toList
def rdUpper : RDm
  | .str s, [], μ, Q => s.length ≤ 5592405 ∧ Q (.str (upL s)) μ
  | _, _, _, _ => False
@[simp] theorem rdUpper_1 {s : List Nat} {μ : Sto} {Q : DK} : rdUpper (.str s) [] μ Q = (s.length ≤ 5592405 ∧ Q (.str (upL s)) μ) := rfl
end DL

namespace DL
open PySem PySem.Spec PyProof.Rows L2
/-- what follows: the bound, the slots, the store -/
abbrev NxK := Nat → DEnv → Sto → Prop
abbrev RtK := Nat → D → Sto → Prop
abbrev TSK := NxK → RtK → Nat → DEnv → Sto → Prop
def KP (X : Cx) (B : Bs) (pins : List (Addr × Obj)) (F : Hp) (nx : NxK) (rt : RtK) (f : Flow) (s' : Shared) : Prop :=
  match f with
  | .next => ∃ k F' ρ' μ' σ' H', Inv X pins σ' H' s' ∧ RelB X.K X.mg B F' ρ' μ' σ' H' ∧ FLe F F' ∧ k ≤ s'.toks ∧ nx k ρ' μ'
  | .ret u => ∃ k v d F' μ' σ' H', Inv X pins σ' H' s' ∧ RelV v u ∧ Ext B.F B.μ B.H F' μ' H' ∧ Ok X.K X.mg F' μ' H' ∧ Dt X.K X.mg F' v d ∧ k ≤ s'.toks ∧ rt k d μ'
  | _ => False
structure KSt (X : Cx) (B : Bs) (st : Stmt) (t : TSK) : Prop where
  run : ∀ (pins : List (Addr × Obj)) (s : Shared) (σ : L2.St) (H F : Hp) (ρ : DEnv) (μ : Sto) (k : Nat) (nx : NxK) (rt : RtK), Inv X pins σ H s → RelB X.K X.mg B F ρ μ σ H → k ≤ s.toks → t nx rt k ρ μ →
    wpAny (model X.prog X.w) X.A (exec st X.env) (KP X B pins F nx rt) X.xe s
structure KSs (X : Cx) (B : Bs) (st : List Stmt) (t : TSK) : Prop where
  run : ∀ (pins : List (Addr × Obj)) (s : Shared) (σ : L2.St) (H F : Hp) (ρ : DEnv) (μ : Sto) (k : Nat) (nx : NxK) (rt : RtK), Inv X pins σ H s → RelB X.K X.mg B F ρ μ σ H → k ≤ s.toks → t nx rt k ρ μ →
    wpAny (model X.prog X.w) X.A (execs st X.env) (KP X B pins F nx rt) X.xe s
@[simp] def kOf (d : TSD) : TSK := fun nx rt k ρ μ => d { nx := nx k, rt := rt k } ρ μ
@[simp] def kNext : TSK := fun nx _ k ρ μ => nx k ρ μ
@[simp] def kSeq (t u : TSK) : TSK := fun nx rt k ρ μ => t (fun k' ρ' μ' => u nx rt k' ρ' μ') rt k ρ μ
@[simp] def kIf (c : TTD) (t u : TSK) : TSK := fun nx rt k ρ μ => c ρ μ fun b μ1 => if b = true then t nx rt k ρ μ1 else u nx rt k ρ μ1
@[simp] def kOut (t : TSK) : TSD := fun E ρ μ => t (fun _ => E.nx) (fun _ => E.rt) 0 ρ μ
def forK (g : TGD) (body : TSK) (nx : NxK) (rt : RtK) (inv : Sto → Prop) : List D → NxK
  | [], k, ρ, μ => inv μ ∧ nx k ρ μ
  | x :: xs, k, ρ, μ => inv μ ∧ g x ρ fun ρ1 => body (forK g body nx rt inv xs) rt k ρ1 μ
@[simp] def kFor (src : TSrc) (g : TGD) (body : TSK) : TSK := fun nx rt k ρ μ => src ρ μ fun items inv μ1 => forK g body nx rt inv items k ρ μ1
section
variable {X : Cx} {B : Bs} {st : Stmt} {sts rest a b : List Stmt} {d : TSD} {t u : TSK}
theorem KP.mono {pins : List (Addr × Obj)} {F F0 : Hp} {nx nx' : NxK} {rt rt' : RtK} {f : Flow} {s : Shared} (hF : FLe F0 F) (h : KP X B pins F nx rt f s) (hn : ∀ k ρ μ, nx k ρ μ → nx' k ρ μ) (hr : ∀ k d μ, rt k d μ → rt' k d μ) : KP X B pins F0 nx' rt' f s := by
  cases f with
  | next => obtain ⟨k, F', ρ', μ', σ', H', h1, h2, h3, h4, h5⟩ := h; exact ⟨k, F', ρ', μ', σ', H', h1, h2, hF.trans h3, h4, hn _ _ _ h5⟩
  | ret u => obtain ⟨k, v, d, F', μ', σ', H', h1, h2, h3, h4, h5, h6, h7⟩ := h; exact ⟨k, v, d, F', μ', σ', H', h1, h2, h3, h4, h5, h6, hr _ _ _ h7⟩
  | brk => exact h.elim
  | cont => exact h.elim
/-- what an ordinary statement leaves -/
theorem kp_of {pins : List (Addr × Obj)} {F : Hp} {k : Nat} {nx : NxK} {rt : RtK} {f : Flow} {s : Shared} (hk : k ≤ s.toks)
    (h : SP X pins { nx := fun σ' H' => ∃ F' ρ' μ', FLe F F' ∧ RelB X.K X.mg B F' ρ' μ' σ' H' ∧ nx k ρ' μ', bk := fun _ _ => False, ct := fun _ _ => False, rt := fun v H' => ∃ F' μ' d, Ext B.F B.μ B.H F' μ' H' ∧ Ok X.K X.mg F' μ' H' ∧ Dt X.K X.mg F' v d ∧ rt k d μ' } f s) : KP X B pins F nx rt f s := by
  cases f with
  | next => obtain ⟨σ', H', I, F', ρ', μ', h1, h2, h3⟩ := h; exact ⟨k, F', ρ', μ', σ', H', I, h2, h1, hk, h3⟩
  | ret u => obtain ⟨v, σ', H', I, r, F', μ', d, h1, h2, h3, h4⟩ := h; exact ⟨k, v, d, F', μ', σ', H', I, r, h1, h2, h3, hk, h4⟩
  | brk => obtain ⟨_, _, _, z⟩ := h; exact z.elim
  | cont => obtain ⟨_, _, _, z⟩ := h; exact z.elim
theorem ks_of (h : DSt X B st d) : KSt X B st (kOf d) := ⟨fun pins s σ H F ρ μ k nx rt I R hk q => by
  refine wpAny_mono (wpAny_toks_of hk (h.run pins s σ H { nx := fun σ' H' => ∃ F' ρ' μ', FLe F F' ∧ RelB X.K X.mg B F' ρ' μ' σ' H' ∧ nx k ρ' μ', bk := fun _ _ => False, ct := fun _ _ => False, rt := fun v H' => ∃ F' μ' d, Ext B.F B.μ B.H F' μ' H' ∧ Ok X.K X.mg F' μ' H' ∧ Dt X.K X.mg F' v d ∧ rt k d μ' } I ?_)) (fun f s1 z => kp_of z.1 z.2) (fun _ _ z => z.2)
  exact ⟨F, ρ, μ, _, R, q, fun F' ρ' μ' σ' H' hF R' z => ⟨F', ρ', μ', hF, R', z⟩, fun _ _ _ _ _ _ _ z => z, fun _ _ _ _ _ _ _ z => z, fun v F' μ' H' dv e o w z => ⟨F', μ', dv, e, o, w, z⟩⟩⟩
theorem ks_nil : KSs X B [] kNext := ⟨fun pins s σ H F ρ μ k nx rt I R hk q => wpAny_execs_nil ⟨k, F, ρ, μ, σ, H, I, R, .rfl', hk, q⟩⟩
theorem ks_cons (h1 : KSt X B st t) (h2 : KSs X B rest u) : KSs X B (st :: rest) (kSeq t u) := ⟨fun pins s σ H F ρ μ k nx rt I R hk q => by
  refine wpAny_execs_cons (thn (h1.run pins s σ H F ρ μ k _ rt I R hk q) fun f s1 z => ?_)
  cases f with
  | next =>
    obtain ⟨k', F', ρ', μ', σ', H', I', R', hF, hk', z⟩ := z
    exact thn (h2.run pins s1 σ' H' F' ρ' μ' k' nx rt I' R' hk' z) fun f s2 z => z.mono hF (fun _ _ _ z => z) (fun _ _ _ z => z)
  | ret u => exact z
  | brk => exact z.elim
  | cont => exact z.elim⟩
theorem ks_last (h : KSt X B st t) : KSs X B [st] t := ⟨fun pins s σ H F ρ μ k nx rt I R hk q => by
  refine wpAny_execs_cons (thn (h.run pins s σ H F ρ μ k nx rt I R hk q) fun f s1 z => ?_)
  cases f with
  | next => exact wpAny_execs_nil z
  | ret u => exact z
  | brk => exact z.elim
  | cont => exact z.elim⟩
theorem ks_if {c : Expr} {tc : TTD} {pos : Pos} (hc : DT X c tc) (ha : KSs X B a t) (hb : KSs X B b u) : KSt X B (.If c a b pos) (kIf tc t u) := ⟨fun pins s σ H F ρ μ k nx rt I R hk q => by
  refine wpAny_If (wpAny_mono (wpAny_toks_of hk (hc.run pins s σ H (fun b H' => ∃ F' μ', Ext F μ H F' μ' H' ∧ Ok X.K X.mg F' μ' H' ∧ (if b = true then t nx rt k ρ μ' else u nx rt k ρ μ')) I ⟨F, ρ, μ, _, R.rel, q, fun b F' μ' H' e o z => ⟨F', μ', e, o, z⟩⟩)) (fun v s1 z => ?_) fun _ _ z => z.2)
  obtain ⟨hk1, H1, I1, F1, μ1, e1, o1, q1⟩ := z
  cases v with
  | true => exact thn (ha.run pins s1 σ H1 F1 ρ μ1 k nx rt I1 (R.step e1 o1) hk1 q1) fun f s2 z => z.mono e1.mono (fun _ _ _ z => z) (fun _ _ _ z => z)
  | false => exact thn (hb.run pins s1 σ H1 F1 ρ μ1 k nx rt I1 (R.step e1 o1) hk1 q1) fun f s2 z => z.mono e1.mono (fun _ _ _ z => z) (fun _ _ _ z => z)⟩
theorem dss_out (h : KSs X B sts t) : DSs X B sts (kOut t) := ⟨fun pins s σ H D I q => by
  obtain ⟨F, ρ, μ, Dd, R, hd, kn, kb, kc, kr⟩ := q
  refine thn (h.run pins s σ H F ρ μ 0 _ _ I R (Nat.zero_le _) hd) fun f s1 z => ?_
  cases f with
  | next => obtain ⟨k, F', ρ', μ', σ', H', I', R', hF, _, z⟩ := z; exact ⟨σ', H', I', kn F' ρ' μ' σ' H' hF R' z⟩
  | ret u => obtain ⟨k, v, d, F', μ', σ', H', I', r, e, o, w, _, z⟩ := z; exact ⟨v, σ', H', I', r, kr v F' μ' H' d e o w z⟩
  | brk => exact z.elim
  | cont => exact z.elim⟩
theorem ks_for {tg iter : Expr} {body : List Stmt} {src : TSrc} {ns : List Nat} {g : TGD} {tb : TSK} {pos : Pos} (hp : PassesOwn (model X.prog X.w) X.A X.env X.xe) (hc : X.calm = true) (hi : DI X tg iter src) (hg : DG X B tg ns g) (hb : KSs X B body tb)
    (hs : ∀ x, foldedSetIterable iter X.env x = pure x := by intro _; rfl) : KSt X B (.For tg iter body [] pos) (kFor src g tb) := ⟨fun pins s σ H F ρ μ k nx rt I R hk q => by
  refine wpAny_For (wpAny_mono (wpAny_toks_of hk (hi.run pins s σ H (fun J H' => ∃ F0 μ0 items inv, Ext F μ H F0 μ0 H' ∧ Ok X.K X.mg F0 μ0 H' ∧ ItD X.K X.mg F0 J items inv ∧ forK g tb nx rt inv items k ρ μ0) I ⟨F, ρ, μ, _, R.rel, q, fun J F' μ' H' items inv e o it z => ⟨F', μ', items, inv, e, o, it, z⟩⟩))
    (fun v s1 ⟨hk1, h1⟩ => wpAny_mono (wpAny_toks_of hk1 h1) (fun itv s2 ⟨hk2, h2⟩ => ?_) fun _ _ z => z.2) fun _ _ z => z.2) hs
  obtain ⟨it, fp, tn, J, H2, e, I2, T, st2, f2, F0, μ0, items, inv, e0, o0, itd, q0⟩ := h2
  subst e
  have stat : ∀ {H' : Hp}, (∀ b ∈ fp, H' b = none) → ∀ b ∈ fp, FpOk X pins H' b := fun hn b hb => ⟨hn b hb, (f2 b hb).2⟩
  refine codeAny_forLoop_any (fun n s' => ∃ i k' F1 ρ1 μ1 σ' H', n = items.length - i ∧ i ≤ items.length ∧ Inv X pins σ' H' s' ∧ tn i s'.heap ∧ (∀ b ∈ fp, H' b = none) ∧ FLe F0 F1 ∧ RelB X.K X.mg B F1 ρ1 μ1 σ' H' ∧ k' ≤ s'.toks ∧ forK g tb nx rt inv (items.drop i) k' ρ1 μ1)
    ?_ items.length ⟨0, k, F0, ρ, μ0, σ, H2, rfl, Nat.zero_le _, I2, st2, fun b hb => (f2 b hb).1, .rfl', R.step e0 o0, hk2, q0⟩
  rintro n s3 ⟨i, k3, F3, ρ3, μ3, σ3, H3, hn, hil, I3, st3, fr3, hF3, R3, hk3, q3⟩
  have hinv : inv μ3 := by
    cases hz : items.drop i with
    | nil => rw [hz] at q3; exact q3.1
    | cons x xs => rw [hz] at q3; exact q3.1
  obtain ⟨hgo, hstop⟩ := itd F3 μ3 H3 hF3 R3.rel.ok hinv i
  by_cases hlt : i < items.length
  · obtain ⟨g1, g2⟩ := hgo hlt
    refine wpAny_passesOwn hp (wpAny_mono (wpAny_toks_of hk3 (T.item X rfl rfl rfl hc i pins s3 σ3 H3 X.xe I3 (stat fr3) st3 g1)) (fun r s4 ⟨hk4, u, hr, h4⟩ => ?_) fun _ _ z => z.2)
    subst hr
    refine wpAny_passesOwn hp (wpAny_mono (wpAny_toks_of hk4 h4) (fun _ s5 ⟨hk5, x, H5, I5, r5, y5, st5, fr5⟩ => ?_) fun _ _ z => z.2)
    have I5' := I5.pinned (stat fr5) (T.obj _ _ st5)
    obtain ⟨F5, dx, e5, o5, hx, wx⟩ := g2 x H5 y5
    have hdrop : items.drop i = dx :: items.drop (i + 1) := by
      have hd := List.drop_eq_getElem_cons hlt
      rw [List.getElem?_eq_getElem hlt] at hx
      cases hx
      exact hd
    rw [hdrop] at q3
    refine wpAny_passesOwn hp (wpAny_mono (wpAny_toks_of hk5 (hg.run _ s5 σ3 H5 x u (fun σ' H' => H' = H5 ∧ ∃ ρ', RelB X.K X.mg B F5 ρ' μ3 σ' H5 ∧ tb (forK g tb nx rt inv (items.drop (i + 1))) rt k3 ρ' μ3) I5' r5
      ⟨F5, ρ3, μ3, dx, _, R3.step e5 o5, wx, q3.2, fun ρ' σ' R' _ _ z => ⟨rfl, ρ', R', z⟩⟩)) (fun _ s6 ⟨hk6, σ6, H6, I6, hH, ρ6, R6, q6⟩ => ?_) fun _ _ z => z.2)
    subst hH
    refine wpAny_passesOwn hp (thn (hb.run _ s6 σ6 H6 F5 ρ6 μ3 k3 _ rt I6 R6 hk6 q6) fun f s7 q7 => ?_)
    cases f with
    | next =>
      obtain ⟨k7, F7, ρ7, μ7, σ7, H7, I7, R7, hF7, hk7, q7⟩ := q7
      refine ⟨items.length - (i + 1), by omega, i + 1, k7, F7, ρ7, μ7, σ7, H7, rfl, hlt, I7.unpinned, T.keep _ _ _ st5 fun b hb o e => (I7.pin (b, o) (List.mem_append_right _ (List.mem_append_right _ (mem_pinsAt hb e)))).1, fun b hb => ?_, (hF3.trans e5.mono).trans hF7, R7, hk7, q7⟩
      obtain ⟨o, e, d⟩ := T.obj _ _ st5 b hb
      exact (I7.pin (b, o) (List.mem_append_right _ (List.mem_append_right _ (mem_pinsAt hb e)))).2.1
    | ret v => obtain ⟨k7, v7, d7, F7, μ7, σ7, H7, h1, r⟩ := q7; exact ⟨k7, v7, d7, F7, μ7, σ7, H7, h1.unpinned, r⟩
    | brk => exact q7.elim
    | cont => exact q7.elim
  · have hi2 : i = items.length := by omega
    subst hi2
    refine wpAny_passesOwn hp (wpAny_mono (wpAny_toks_of hk3 (T.done X rfl rfl rfl hc _ pins s3 σ3 H3 X.xe I3 (stat fr3) st3 (hstop rfl))) (fun r s4 ⟨hk4, hr, I4⟩ => ?_) fun _ _ z => z.2)
    subst hr
    rw [List.drop_length] at q3
    exact wpAny_execs_nil ⟨k3, F3, ρ3, μ3, σ3, H3, I4, R3, FLe.trans e0.mono hF3, hk4, q3.2⟩⟩
end
end DL

namespace DL
open PySem PySem.Spec PyProof.Rows L2
def kAppTk (i : Nat) (y : List Nat) (d1 d2 : TED) : TSK := fun nx rt k ρ μ => ∃ xs, ρ[i]? = some (some (.own xs)) ∧ d1 ρ μ fun v1 μ1 => ∃ j c, v1 = .int j ∧ y.length ≤ SZ ∧ L2.atI y j = some c ∧
  d2 ρ μ1 fun v2 μ2 => ∃ z, v2 = .int z ∧ xs.length < SZ ∧ ∀ n, k ≤ n → nx n (ρ.set i (some (.own (xs ++ [.tkt n [.str [c], .int z]])))) μ2
section
variable {X : Cx} {B : Bs} {e1 e2 : Expr} {d1 d2 : TED}
theorem ks_appTk {i : Nat} {x : Str} {p apos cpos pos c0 sp tp : Pos} {j0 kk : Nat} {yS : Str} (pv : PE X (.Name x p) (tVar i)) (h1 : DE X e1 d1) (h2 : DE X e2 d2) (hs : PlainIx e1) (y : List Nat) (hy : yS = S y := by decide +kernel)
    (hbase : attributeBase (.Name x p) "append" X.env (eval (.Name x p) X.env) = eval (.Name x p) X.env := by rfl)
    (hfew : ((backTo cpos (starEach [.Tuple [.Subscript (.Constant (.str yS) j0 c0) e1 sp, e2] kk tp] X.env)).all (fun x => !x.1) && (backToKw cpos (keywordEach [] X.env)).all (fun x => x.1.isSome)
      && decide (([.Tuple [.Subscript (.Constant (.str yS) j0 c0) e1 sp, e2] kk tp] : List Expr).length + ([] : List Keyword).length + (if ([] : List Keyword).isEmpty then 0 else 1) < 30)) = true := by rfl)
    (hline : (apos.endLine == cpos.line) = true := by rfl)
    (st1 : starEach [.Tuple [.Subscript (.Constant (.str yS) j0 c0) e1 sp, e2] kk tp] X.env = [(false, eval (.Tuple [.Subscript (.Constant (.str yS) j0 c0) e1 sp, e2] kk tp) X.env)] := by rfl)
    (st2 : starEach [.Subscript (.Constant (.str yS) j0 c0) e1 sp, e2] X.env = [(false, eval (.Subscript (.Constant (.str yS) j0 c0) e1 sp) X.env), (false, eval e2 X.env)] := by rfl)
    (hsw : swapsWith (.Call (.Attribute (.Name x p) "append" apos) [.Tuple [.Subscript (.Constant (.str yS) j0 c0) e1 sp, e2] kk tp] [] cpos) none pos.line X.env = pure false := by rfl) :
    KSt X B (.Expr (.Call (.Attribute (.Name x p) "append" apos) [.Tuple [.Subscript (.Constant (.str yS) j0 c0) e1 sp, e2] kk tp] [] cpos) pos) (kAppTk i y d1 d2) := ⟨fun pins s σ H F ρ μ k nx rt I R hk q => by
  obtain ⟨xs, hx, q⟩ := q
  obtain ⟨q0, vs, hσ, hf, hm, hh, hds, hb⟩ := R.ownAt hx
  refine wpAny_Expr_any (wpAny_Call_method_late hbase hfew hline rfl (wpAny_mono (wpAny_toks_of hk (pv.run pins s σ H (fun v H' => v = .ref q0 ∧ H' = H) I ⟨_, hσ, rfl, rfl⟩)) (fun v s1 ⟨hk1, x1, H1, I1, r1, ex, eh⟩ => ?_) fun _ _ z => z.2)) I.quiet hsw
  subst ex eh
  obtain ⟨t1, t2⟩ := tyV_is (T := "list") I1 r1 (.inl ⟨rfl, _, .inl (.inl hh)⟩)
  cases r1
  refine ⟨"list", "list.append", PySem.F.plainAttrs_list, PySem.F.slot_list_append, PySem.F.type_list_append, t1, t2, ?_⟩
  rw [st1]
  refine Calls.callWith_builtin rfl (Calls.evalArgs_plain (Calls.spliced_cons ?_))
  show wpAny _ _ (eval (.Tuple [.Subscript (.Constant (.str yS) j0 c0) e1 sp, e2] kk tp) X.env) _ _ _
  refine wpAny_Tuple_spliced (x1 := kk) ?_
  rw [st2]
  refine Calls.spliced_cons ?_
  refine Subscript_ (Calls.Constant_str ?_)
  refine wpAny_mono (wpAny_toks_of (n := s1.toks + 1) (Nat.le_refl _) (h1.run pins { s1 with toks := s1.toks + 1 } σ H1 (fun v H' => ∃ F1 μ1 dv, Ext F μ H1 F1 μ1 H' ∧ Ok X.K X.mg F1 μ1 H' ∧ Dt X.K X.mg F1 v dv ∧ ∃ j c, dv = .int j ∧ y.length ≤ SZ ∧ L2.atI y j = some c ∧
    d2 ρ μ1 fun v2 μ2 => ∃ z, v2 = .int z ∧ xs.length < SZ ∧ ∀ n, k ≤ n → nx n (ρ.set i (some (.own (xs ++ [.tkt n [.str [c], .int z]])))) μ2) (I1.tok _) ⟨F, ρ, μ, _, R.rel, q, fun v F' μ' H' dv e o w z => ⟨F', μ', dv, e, o, w, z⟩⟩)) (fun u s2 hz => ?_) fun _ _ z => z.2
  obtain ⟨ht2, x2, H2, I2, r2, F1, μ1, dv, ee1, o1, w1, j, c, rfl, hyz, hat, q2⟩ := hz
  cases w1
  obtain ⟨tj, rfl⟩ := r2
  subst hy
  have hy2 : (S y).cps.toList = y := rfl
  obtain ⟨jj, a1, a2, a3, a4, a5⟩ := atI_get (by rw [hy2]; exact hat : L2.atI (S y).cps.toList j = some c)
  have hl : (S y).cps.toList.length = (S y).length := by simp [Str.length]
  rw [hl] at a1 a4 a5
  have hn := line63
  have hyl : (S y).length ≤ sizeLine := by rw [S_len, sizeLine_eq]; exact hyz
  refine tail_any (typeIs_str s2 (S y) s1.toks) PySem.F.slot_str_getitem.lookup (getItem_str (c := c) (by
    have e1 : decide (j < -(2 ^ 63 : Int)) = false := decide_eq_false (by omega)
    have e2 : decide (j ≥ 2 ^ 63) = false := decide_eq_false (by omega)
    rw [e1, e2, Bool.or_false]) (by rw [a1]; simpa using a2) ?_) (hs _ _)
  have R2 := R.step ee1 o1
  refine Calls.spliced_cons (wpAny_mono (wpAny_toks_of (n := s2.toks + 1) (Nat.le_refl _) (h2.run pins { s2 with toks := s2.toks + 1 } σ H2 (fun v H' => ∃ F2 μ2 dv, Ext F1 μ1 H2 F2 μ2 H' ∧ Ok X.K X.mg F2 μ2 H' ∧ Dt X.K X.mg F2 v dv ∧ ∃ z, dv = .int z ∧ xs.length < SZ ∧ ∀ n, k ≤ n → nx n (ρ.set i (some (.own (xs ++ [.tkt n [.str [c], .int z]])))) μ2) (I2.tok _)
    ⟨F1, ρ, μ1, _, R2.rel, q2, fun v F' μ' H' dv e o w z => ⟨F', μ', dv, e, o, w, z⟩⟩)) (fun u s3 hz => ?_) fun _ _ z => z.2)
  obtain ⟨ht3, x3, H3, I3, r3, F2, μ2, dv, ee2, o2, w2, z, rfl, hxs, q3⟩ := hz
  cases w2
  obtain ⟨tz, rfl⟩ := r3
  refine Calls.spliced_nil ⟨by show 2 ≤ sizeLine; rw [sizeLine_eq]; decide, ?_⟩
  have hp : H3 s3.heap.objs.size = none := I3.hok.fresh (Nat.le_refl _)
  obtain ⟨g1, g2⟩ := o2.lay hp (.frz { cls := .type "tuple", data := .seq [Value.str ⟨#[c]⟩ s2.toks, Value.int z tz].toArray } (.tup [.str ⟨#[c]⟩, .int z]))
  have I4 : Inv X pins σ (upd H3 s3.heap.objs.size (.frz { cls := .type "tuple", data := .seq [Value.str ⟨#[c]⟩ s2.toks, Value.int z tz].toArray } (.tup [.str ⟨#[c]⟩, .int z]))) { s3 with heap := s3.heap.push { cls := .type "tuple", data := .seq [Value.str ⟨#[c]⟩ s2.toks, Value.int z tz].toArray } } :=
    I3.laid (t' := s3.toks) (fun b ob q => Heap.get?_push_of_some _ q) (Nat.le_refl _) ⟨Heap.get?_push_size _ rfl, (by show 2 ≤ sizeLine; rw [sizeLine_eq]; decide), _, .cons ⟨_, rfl⟩ (.cons ⟨_, rfl⟩ .nil), IsTup.new _ _⟩
  refine Calls.spliced_nil ?_
  have e02 := ee1.trans ee2
  have e03 := e02.trans g2
  obtain ⟨k1, k2, k3⟩ := e03.keep q0 _ hh hm
  refine wpAny_mono (wpAny_toks_of (n := s2.toks + 1) (by exact ht3) (app_ok (Q := fun _ s5 => Inv X pins σ (upd (upd H3 s3.heap.objs.size (.frz { cls := .type "tuple", data := .seq [Value.str ⟨#[c]⟩ s2.toks, Value.int z tz].toArray } (.tup [.str ⟨#[c]⟩, .int z]))) q0 (.lst (vs ++ [.ref s3.heap.objs.size]))) s5) I4 k1 (by rw [hds.length, sizeLine_eq]; exact hxs) (y := .ref s3.heap.objs.size) rfl fun s5 I5 => I5)) (fun _ s5 ⟨ht5, I5⟩ => ?_) fun _ _ z => z.2
  refine ⟨s2.toks + 1, _, _, μ2, σ, _, I5, ?_, e03.mono, ht5, q3 _ (by have : s1.toks + 1 ≤ s2.toks := ht2; omega)⟩
  refine (R.step e03 g1).writeOwn hx hσ (k2.trans hf) k3 k1 hb ((hds.mono e03.mono).append (.one (.tkt (n := s2.toks + 1) ⟨_, _, _, rfl, rfl, fun w t hw => ?_, upd_same⟩ (.cons (.str [c]) (.cons (.int z) .nil)))))
  simp at hw
  obtain ⟨_, rfl⟩ := hw
  have ht2' : s1.toks + 1 ≤ s2.toks := ht2
  exact ⟨Nat.lt_of_lt_of_le (Nat.succ_pos _) ht2', Nat.lt_succ_self _⟩⟩
end
end DL

namespace DL
open PySem PySem.Spec PyProof.Rows L2
abbrev DSpK := List D → Sto → RtK → Prop
/-- what is known of the result -/
def QK (K : PySem.W.Frag) (mg : Str → Option Value) (F : Hp) (μ : Sto) (H : Hp) (n : Nat) (Q : RtK) : VK := fun v H' => ∃ F' μ' d, Ext F μ H F' μ' H' ∧ Ok K mg F' μ' H' ∧ Dt K mg F' v d ∧ Q n d μ'
def FRK (P : Program) (w : World) (K : PySem.W.Frag) (mg : Str → Option Value) (base : Heap) (k : Nat) (f : Addr) (S : DSpK) : Prop :=
  ∀ (A : Around) (outer : List Env) (s : Shared) (H : Hp) (us : List Value) (vs : List V) (F : Hp) (μ : Sto) (ds : List D) (Q : RtK), Quiet A → Room k A → Env0 P w K mg base A outer s H → Vals vs us → Ok K mg F μ H → Dts K mg F vs ds → S ds μ Q →
    codeAny (model P w) A (.call (.ref f) ⟨us, []⟩) (fun r s' => ∃ n, n ≤ s'.toks ∧ CR L2.CX0 outer P w H s (QK K mg F μ H n Q) L2.E0 r s') s
structure CalK (P : Program) (w : World) (K : PySem.W.Frag) (mg : Str → Option Value) (base : Heap) (k : Nat) (x : Str) (S : DSpK) : Prop where
  ex : ∃ f, FRK P w K mg base k f S ∧ mg x = some (.ref f) ∧ PySem.W.keepIn K (.ref f) = true
theorem FRK.of {P : Program} {w : World} {K : PySem.W.Frag} {mg : Str → Option Value} {base : Heap} {k : Nat} {f : Addr} {fd : FuncData} {ps : List Str} {S : DSpK} {name qual : Str} {st : Stmt} {N : List Str} (D : Fun K name qual st f fd) (Sc : FnScope N ps (defScope st))
    (len : ∀ ds μ Q, S ds μ Q → ds.length = ps.length) (hb : Binds K fd ps []) (t : TSK) (hd : ∀ ds μ Q, S ds μ Q → t (fun k _ μ' => Q k .non μ') Q 0 (startD N.length ds) μ)
    (body : ∀ (cdv : Value) (A : Around) (outer : List Env) (s : Shared) (H : Hp) (E : XK) (B : Bs), Quiet (A.deeper (envOfC qual (defScope st) s.heap.objs.size f cdv)) → Room k (A.deeper (envOfC qual (defScope st) s.heap.objs.size f cdv)) →
      KSs (cxOf L2.CX0 P w K mg base N qual (defScope st) f cdv A outer s H E).nox B (defBody st) t) : FRK P w K mg base (k + 1) f S := by
  intro A outer s H us vs F μ ds Q quiet room env rel ok dts hsp
  obtain ⟨oc, od, kV, doc, pm, an, cdv, ct, osl, rfl, hk, hcode⟩ := D.ex
  have n : vs.length = ps.length := dts.length.trans (len _ _ _ hsp)
  have kin : K.In s.heap := env.mod.kin.keeps (fun b o z => (env.bs b o z).1)
  have n2 : (us ++ []).length = ps.length := by rw [List.append_nil, ← rel.length]; exact n
  have bind := hb s us kin n2
  rw [List.append_nil] at bind
  have free : s.heap.NoLimit := env.mod.nolimit.keeps (fun b o z => (env.bs b o z).1)
  refine codeAny_call_function room.depth (kin _ _ hk) rfl Sc.co Sc.gen rfl (PySem.W.codeRec_of kin hcode) (bind _ _ _ _ ?_)
  have loc : ∀ y ∈ ps.zip us, (defScope st).names.lookup y.1 = some .local ∨ ((defScope st).names.lookup y.1 = some .cell ∧ ((cellsFrom (s.heap.objs.size + 1) (defScope st).names []).lookup y.1).isSome = true) := by
    intro y hy
    rcases Sc.par y.1 (List.of_mem_zip hy).1 with q | q
    · exact Or.inl q
    · exact Or.inr ⟨q, PySem.W.cellsFrom_some _ _ _ (Or.inl q)⟩
  refine wpAny_newFunctionEnv_cells Sc.kind loc ?_
  intro env' he s1 x
  subst he
  refine ⟨free.keeps x.toInCall.keep, codeAny_func ?_⟩
  have I := inv_start (CX := L2.CX0) (E := L2.E0) Sc room.hd env n rel x
  refine wpAny_mono ((body cdv A outer s H L2.E0 ⟨F, μ, H⟩ quiet (room.deeper _)).run [] s1 _ H F _ μ 0 _ Q (I.wish _) (start_rel ok dts) (Nat.zero_le _) (hd _ _ _ hsp)) ?_ (fun _ _ z => z.elim)
  intro fl s' hs
  match fl, hs with
  | .ret u, ⟨m, v, d, F', μ', σ', H', J, rv, e, o, w, hm, q⟩ => exact ⟨m, hm, v, H', J.os, J.bare, J.base, J.hok, rv, F', μ', d, e, o, w, q⟩
  | .next, ⟨m, F', ρ', μ', σ', H', J, R, hF, hm, q⟩ => exact ⟨m, hm, V.non, H', J.os, J.bare, J.base, J.hok, rfl, F', μ', .non, R.ext, R.rel.ok, .non, q⟩
  | .brk, q => exact q.elim
  | .cont, q => exact q.elim
@[simp] def kSetCall (i : Nat) (S : DSpK) (t : TAD) : TSK := fun nx _ k ρ μ => t ρ μ fun ds μ1 => S ds μ1 fun n d μ2 => ∀ m, k ≤ m → n ≤ m → nx m (ρ.set i (some (.val d))) μ2
theorem ks_setCall {X : Cx} {B : Bs} {i j : Nat} {x g : Str} {p p' pos apos : Pos} {e : Expr} {es : List Expr} {t : TAD} {S : DSpK} (hN : X.N.Nodup) (hi : X.N[i]? = some x) (hx : Loc X.env.scope x) (c : CalK X.prog X.w X.K X.mg X.base j g S) (quiet : Quiet X.A) (room : Room j X.A) (hg : Gl X g) (ha : DA X (e :: es) t)
    (hdb : (g == ("__debug__" : Str)) = false := by decide)
    (he : starEach (e :: es) X.env = (false, eval e X.env) :: starEach es X.env := by rfl) (hpl : (backTo pos (starEach es X.env)).any (·.1) = false := by rfl)
    (hs : swapsWith (.Call (.Name g p) (e :: es) [] pos) (some (.Name x p')) apos.line X.env = pure false := by rfl) (hf : X.fn x = true ∨ X.env.scope.names.lookup x = some .local := by first | exact .inl rfl | exact .inr rfl | assumption) :
    KSt X B (.Assign [.Name x p'] (.Call (.Name g p) (e :: es) [] pos) apos) (kSetCall i S t) := ⟨fun pins s σ H F ρ μ k nx rt I R hk q => by
  obtain ⟨f, Fk, hm, hkp⟩ := c.ex
  refine wpAny_Assign_Name (wpAny_Call_Name_kw (ld_glob I hg hm ?_ hdb)) hs
  refine PySem.W.callWith_K (h₀ := X.base) I.ok.mod.kin hkp (wpAny_mono (wpAny_toks_of hk (ha.run pos pins s σ H (fun vs H1 => ∃ F1 μ1 ds, Ext F μ H F1 μ1 H1 ∧ Ok X.K X.mg F1 μ1 H1 ∧ Dts X.K X.mg F1 vs ds ∧ S ds μ1 fun n d μ2 => ∀ m, k ≤ m → n ≤ m → nx m (ρ.set i (some (.val d))) μ2) I
    ⟨F, ρ, μ, _, R.rel, q, fun vs F' μ' H' ds e o w z => ⟨F', μ', ds, e, o, w, z⟩⟩)) (fun us s1 ⟨hk1, vs, H1, I1, r, F1, μ1, ds, e1, o1, w1, q1⟩ => ⟨I1.kIn, ?_⟩) fun _ _ z => z.2) he hpl
  refine wpAny_mono (wpAny_toks_of hk1 (wpAny_call (codeAny_mono (Fk X.A X.stack s1 H1 us vs F1 μ1 ds _ quiet room I1.env0 r o1 w1 q1) (R' := fun r s' => match r with
    | .ok (.ret u) => ∃ n, n ≤ s'.toks ∧ EP X pins σ (QK X.K X.mg F1 μ1 H1 n fun n d μ2 => ∀ m, k ≤ m → n ≤ m → nx m (ρ.set i (some (.val d))) μ2) u s'
    | .ok _ => False
    | .error e => X.xe e s') ?_))) (fun u s2 ⟨hk2, n, hn, v, H2, I2, rv, F2, μ2, d, e2, o2, w2, q2⟩ => ?_) fun _ _ z => z.2
  · intro z s' hz
    match z, hz with
    | .error e, ⟨_, _, hz⟩ => exact hz.elim
    | .ok (.ret u), ⟨n, hn, hz⟩ => exact ⟨n, hn, I1.after hz⟩
    | .ok .next, ⟨_, _, hz⟩ => exact hz.elim
    | .ok .brk, ⟨_, _, hz⟩ => exact hz.elim
    | .ok .cont, ⟨_, _, hz⟩ => exact hz.elim
  · exact wpAny_mono (wpAny_toks_of (n := max k n) (Nat.max_le.mpr ⟨hk2, hn⟩) (store_ok (Q := fun _ s' => Inv X pins (σ.set i (some v)) H2 s') I2 hN hi hx rv (fun s3 I3 => I3) hf)) (fun _ s3 ⟨hk3, I3⟩ =>
      ⟨max k n, F2, _, μ2, _, H2, I3, (R.step (e1.trans e2) o2).set w2, (e1.trans e2).mono, hk3, q2 _ (Nat.le_max_left _ _) (Nat.le_max_right _ _)⟩) fun _ _ z => z.2⟩
end DL

namespace DL
open PySem PySem.Spec PyProof.Rows L2 CwR
/-- a value, where n ≤ s.toks -/
def PEn (X : Cx) (n : Nat) (e : Expr) (t : TE) : Prop := ∀ (pins : List (Addr × Obj)) (s : Shared) (σ : L2.St) (H : Hp) (Q : VK), n ≤ s.toks → Inv X pins σ H s → t σ H Q → wpAny (model X.prog X.w) X.A (eval e X.env) (EP X pins σ Q) X.xe s
theorem PEn.weaken {X : Cx} {n : Nat} {e : Expr} {t t' : TE} (h : PEn X n e t) (w : ∀ σ H Q, t' σ H Q → t σ H Q) : PEn X n e t' := fun pins s σ H Q hn I q => h pins s σ H Q hn I (w σ H Q q)
section
variable {X : Cx} {n : Nat}
/-- the bound is kept through a step -/
theorem thnT {α : Type} {t : Sem α} {Q Q' : α → Shared → Prop} {M : Model} {A : Around} {E : Value → Shared → Prop} {s : Shared} (hn : n ≤ s.toks) (h : wpAny M A t Q (fun _ _ => False) s) (hQ : ∀ a s, n ≤ s.toks → Q a s → Q' a s) : wpAny M A t Q' E s :=
  wpAny_mono (wpAny_toks_of hn h) (fun a s z => hQ a s z.1 z.2) fun _ _ z => z.2.elim
theorem thnX {α : Type} {t : Sem α} {Q Q' : α → Shared → Prop} {M : Model} {A : Around} {E : Value → Shared → Prop} {s : Shared} (hn : n ≤ s.toks) (h : wpAny M A t Q E s) (hQ : ∀ a s, n ≤ s.toks → Q a s → Q' a s) : wpAny M A t Q' E s :=
  wpAny_mono (wpAny_toks_of hn h) (fun a s z => hQ a s z.1 z.2) fun _ _ z => z.2
/-- [elt for tg in iter], elt where the bound is known -/
theorem pen_lc {elt tg iter : Expr} {scope : Scope} {own : List (Str × Nat)} {pos : Pos} {wi : TI} {g : TG} {tt : TT} {te : TE} (hc : X.calm = true) (hN : X.N.Nodup) (hi : PI X tg iter wi) (ok : BlkOk X.N X.env.scope scope own)
    (hg : ∀ (s : Shared) (H : Hp) (C : Addr) (cl : List (Str × Addr)) (fp : List Addr), PG (X.blk s H scope (compEnvC scope cl C X.env) fp) tg g) (ht : ∀ (s : Shared) (H : Hp) (C : Addr) (cl : List (Str × Addr)) (fp : List Addr), PTs (X.blk s H scope (compEnvC scope cl C X.env) fp) [] tt)
    (he : ∀ (s : Shared) (H : Hp) (C : Addr) (cl : List (Str × Addr)) (fp : List Addr), PEn (X.blk s H scope (compEnvC scope cl C X.env) fp) n elt te) (hs : ∀ x, foldedSetIterable iter X.env x = pure x := by intro _; rfl) :
    PEn X n (.ListComp elt [⟨tg, iter, [], 0⟩] scope pos) (tLc wi g tt te (own.map (·.2))) := by
  intro pins s σ H Q hn I h
  rw [eval_ListComp]
  have hfree : ∀ y ∈ scope.names, y.2 = .free → ∃ c, X.env.cells.lookup y.1 = some c := fun y hy e => by
    rcases ok.free y hy e with k | k
    · exact I.ok.has _ (.inl k)
    · exact I.ok.has _ (.inr k)
  refine wpAny_comprehension_free (use := none) rfl hs (closure_ok hfree) ok.kind (fun y hy e => by rw [ok.uniq y hy, e])
    (thnX hn (hi.run pins s σ H _ I h) fun xv s1 hn1 hx => thnX hn1 hx fun itv s2 hn2 h2 => ?_)
  obtain ⟨it, fp, tn, J, H2, e, I2, T, st2, f2, q⟩ := h2
  subst e
  refine wpAny_newObj_type (newEnv_comp ?_) (by show 0 ≤ sizeLine; decide)
  generalize hD : s2.heap.objs.size = D
  have hDn : H2 D = none := I2.hok.fresh (Nat.le_of_eq hD)
  obtain ⟨W, ⟨m0, w0⟩, turn⟩ := q D hDn
  obtain ⟨s3, hs3⟩ : ∃ s3 : Shared, s3 = { s2 with heap := s2.heap.push { cls := .type "list", data := .seq ([] : List Value).toArray } } := ⟨_, rfl⟩
  have hn3 : n ≤ s3.toks := by rw [hs3]; exact hn2
  have I3 : Inv X pins σ (upd H2 D (.lst [])) s3 := by
    rw [hs3]
    refine I2.laid (t' := s2.toks) (fun b o e => Heap.get?_push_of_some _ e) (Nat.le_of_eq hD) ⟨Nat.zero_le _, [], 0, .nil, ?_⟩
    rw [← hD]
    exact Heap.get?_push_size _ rfl
  have sz : ∀ b ∈ fp, b < s2.heap.objs.size := fun b hb => by
    obtain ⟨o, e, _⟩ := T.obj _ _ st2 b hb
    exact Heap.lt_size e
  have h3 : s3.heap = s2.heap.push { cls := .type "list", data := .seq ([] : List Value).toArray } := by rw [hs3]
  have f3 : ∀ b ∈ fp, FpOk X pins (upd H2 D (.lst [])) b ∧ b < s3.heap.objs.size := fun b hb => by
    have hlt := sz b hb
    refine ⟨⟨?_, (f2 b hb).2⟩, by rw [h3, Heap.size_push]; exact Nat.lt_succ_of_lt hlt⟩
    rw [upd_ne (by rw [← hD]; exact Nat.ne_of_lt hlt)]
    exact (f2 b hb).1
  have I4 := block_start I3 ok hN f3
  have ce0 := hg s3 (upd H2 D (.lst [])) s3.heap.objs.size (cellsFrom (s3.heap.objs.size + 1) scope.names (cloFrom X.env.cells scope.names [])) fp
  have tt0 := ht s3 (upd H2 D (.lst [])) s3.heap.objs.size (cellsFrom (s3.heap.objs.size + 1) scope.names (cloFrom X.env.cells scope.names [])) fp
  have ee0 := he s3 (upd H2 D (.lst [])) s3.heap.objs.size (cellsFrom (s3.heap.objs.size + 1) scope.names (cloFrom X.env.cells scope.names [])) fp
  rw [← hs3]
  show codeAny _ _ (.compStart (.ListComp elt [⟨tg, iter, [], 0⟩] scope pos) 0 (.ref it) (.ref D) (compEnvC scope (cellsFrom (s3.heap.objs.size + 1) scope.names (cloFrom X.env.cells scope.names [])) s3.heap.objs.size X.env)) (compPost (model X.prog X.w) X.A X.xe none (EP X pins σ Q) (.ref D) s3.heap.objs.size) { s3 with heap := pushCells (s3.heap.push { cls := .type "dict", data := .dict #[] }) scope.names }
  generalize hce : compEnvC scope (cellsFrom (s3.heap.objs.size + 1) scope.names (cloFrom X.env.cells scope.names [])) s3.heap.objs.size X.env = ce at I4 ce0 tt0 ee0 ⊢
  have cL : ce.locals = s3.heap.objs.size := by subst hce; rfl
  have nfp : ∀ b ∈ fp, (upd H2 D (.lst [])) b = none := fun b hb => (f3 b hb).1.1
  generalize hH3 : upd H2 D (.lst []) = H3 at I3 I4 ce0 tt0 ee0 w0 nfp f3
  obtain ⟨s4, hs4⟩ : ∃ s4 : Shared, s4 = { s3 with heap := pushCells (s3.heap.push { cls := .type "dict", data := .dict #[] }) scope.names } := ⟨_, rfl⟩
  rw [← hs4] at I4 ⊢
  have hn4 : n ≤ s4.toks := by rw [hs4]; exact hn3
  have st4 : tn 0 s4.heap := T.keep _ _ _ st2 fun b hb o e => by
    rw [hs4]
    refine pushCells_keeps _ _ _ _ (Heap.get?_push_of_some _ ?_)
    rw [h3]
    exact Heap.get?_push_of_some _ e
  have stat : ∀ {σ' : L2.St} {H' : Hp} {s' : Shared}, Inv (X.blk s3 H3 scope ce fp) [] σ' H' s' → (∀ b ∈ fp, H' b = none) → ∀ b ∈ fp, FpOk (X.blk s3 H3 scope ce fp) [] H' b := fun {σ' H' s'} I' hb0 b hb =>
    ⟨hb0 b hb, (I'.ok.exf b hb).1, I'.ok.exfs b hb, .inl hb, fun x c e => (I'.ok.exf b hb).2 x c e, fun p hp => absurd (show p ∈ ([] : List (Addr × Obj)) ++ [] from hp) (by simp)⟩
  have loop : codeAny (model X.prog X.w) X.A (.compLoop (.ListComp elt [⟨tg, iter, [], 0⟩] scope pos) 0 (.ref it) (.ref D) ce) (compPost (model X.prog X.w) X.A X.xe none (EP X pins σ Q) (.ref D) s3.heap.objs.size) s4 := by
    refine compLoop_any (fun m s' => n ≤ s'.toks ∧ ∃ i H', Inv (X.blk s3 H3 scope ce fp) [] (wipe σ (own.map (·.2))) H' s' ∧ tn i s'.heap ∧ (∀ b ∈ fp, H' b = none) ∧ W i m H') ?_ m0 ⟨hn4, 0, H3, I4, st4, nfp, w0⟩
    rintro m s5 ⟨hn5, i, H5, I5, st5, n5, w5⟩
    rcases turn i m H5 w5 with ⟨stop, qq⟩ | ⟨go, Nx, hNx, step⟩
    · refine thnT hn5 (T.done (X.blk s3 H3 scope ce fp) rfl rfl rfl hc i [] s5 _ H5 (fun _ _ => False) I5 (stat I5 n5) st5 stop) fun r s6 hn6 ⟨hr, I6⟩ => ?_
      subst hr
      have I7 : Inv X pins σ H5 s6 := I3.call' (ch := fp) I6.os I6.base I6.hok I6.bare fun b hb => ⟨(f3 b hb).1.2.2.2.1, (f3 b hb).1.2.1, (f3 b hb).1.2.2.2.2.1, (f3 b hb).1.2.2.2.2.2⟩
      have nC : H5 s3.heap.objs.size = none := by
        have z : H5 ce.locals = none := I6.free
        rwa [cL] at z
      obtain ⟨mm, hns, _⟩ := I6.loc
      have hns : s6.heap.Ns ce.locals mm := hns
      rw [cL] at hns
      obtain ⟨f0, f1, f2', f3', f4, f5⟩ := I3.fpOk (H' := H5) (Nat.le_refl _) nC
      exact ⟨mm, hns, fun h'' sb => ⟨.ref D, H5, I7.turned (t' := s6.toks) (fun b o hb e => (sb.2 b hb).trans e) f0 f1 f3' f4 f5, rfl, qq⟩⟩
    · refine thnT hn5 (T.item (X.blk s3 H3 scope ce fp) rfl rfl rfl hc i [] s5 _ H5 (fun _ _ => False) I5 (stat I5 n5) st5 go) fun r s6 hn6 ⟨u, hr, h6⟩ => ?_
      subst hr
      refine thnT hn6 h6 fun _ s7 hn7 ⟨x, H7, I7, r7, y7, st7, n7⟩ => ?_
      have I7' := I7.pinned (stat I7 n7) (T.obj _ _ st7)
      refine thnT hn7 (ce0.run _ s7 _ H7 x u _ I7' r7 (step x H7 y7)) fun _ s8 hn8 ⟨σ8, H8, I8, hw8, q8⟩ => ?_
      refine thnT hn8 (tt0.run _ s8 σ8 H8 _ I8 q8) fun b s9 hn9 ⟨H9, I9, q9⟩ => ?_
      have fin : ∀ {s' : Shared} {H' : Hp}, n ≤ s'.toks → Inv (X.blk s3 H3 scope ce fp) ([] ++ pinsAt fp s7.heap) σ8 H' s' → Nx H' → ∃ m', m' < m ∧ n ≤ s'.toks ∧ ∃ i H', Inv (X.blk s3 H3 scope ce fp) [] (wipe σ (own.map (·.2))) H' s' ∧ tn i s'.heap ∧ (∀ b ∈ fp, H' b = none) ∧ W i m' H' := fun {s' H'} hn' I' nx => by
        obtain ⟨m', hm, w'⟩ := hNx H' nx
        have pin' : ∀ b ∈ fp, ∀ o, s7.heap.get? b = some o → s'.heap.get? b = some o ∧ H' b = none := fun b hb o e =>
          let z := I'.pin (b, o) (List.mem_append_right _ (List.mem_append_right _ (mem_pinsAt hb e)))
          ⟨z.1, z.2.1⟩
        have hl : (wipe σ (own.map (·.2))).length = σ8.length := by rw [← hw8, wipe_length]
        refine ⟨m', hm, hn', i + 1, H', (I'.unpinned (pins := [])).weak hl (fun j v e => ?_), T.keep _ _ _ st7 fun b hb o e => (pin' b hb o e).1, fun b hb => ?_, w'⟩
        · rw [← hw8] at e
          exact (wipe_some e).1
        · obtain ⟨o, e, _⟩ := T.obj _ _ st7 b hb
          exact (pin' b hb o e).2
      cases b with
      | false =>
        simp only [Bool.false_eq_true, if_false] at q9 ⊢
        exact fin hn9 I9 q9
      | true =>
        simp only [if_true] at q9 ⊢
        refine thnT hn9 (ee0 _ s9 σ8 H9 _ hn9 I9 q9) fun z s10 hn10 ⟨yv, H10, I10, r10, acc, hD10, hz10, nx⟩ => ?_
        exact thnT hn10 (app_ok (X := X.blk s3 H3 scope ce fp) (Q := fun _ s11 => Inv (X.blk s3 H3 scope ce fp) ([] ++ pinsAt fp s7.heap) σ8 (upd H10 D (.lst (acc ++ [yv]))) s11) I10 hD10 hz10 r10 fun s11 I11 => I11) fun _ s11 hn11 I11 => fin hn11 I11 nx
  exact codeAny_compStart_list loop (T.self X.A 0 _ _ _ st4 loop)
end
end DL

namespace DL
open PySem PySem.Spec PyProof.Rows L2 CwR
def tReplN (n : Nat) (y : Str) (to tt : TE) : TE := fun σ H Q => to σ H fun v H1 => ∃ x, v = .str x ∧ tt σ H1 fun u H2 => ∃ a ob us m z vs, u = .ref a ∧ H2 a = some (.frz ob (.tup (.str z :: vs))) ∧ ob.data = .seq us m ∧ (∀ x t, Value.str x t ∈ us → 0 < t ∧ t < n) ∧
  (y == z) = false ∧ x.length + (x.length + 1) * z.length ≤ 16777216 ∧ Q (.str (Txt.replace x y z)) H2
section
variable {X : Cx} {B : Bs} {n : Nat}
theorem pen_repl {o t : Expr} {to tt : TE} {y : Str} {j k : Nat} {c0 c1 apos pos sp : Pos} (ho : PE X o to) (ht : PE X t tt) (hs : PlainIx (.Constant (.int 0) k c1))
    (hst : starEach [.Constant (.str y) j c0, .Subscript t (.Constant (.int 0) k c1) sp] X.env = [(false, eval (.Constant (.str y) j c0) X.env), (false, eval (.Subscript t (.Constant (.int 0) k c1) sp) X.env)] := by rfl)
    (hbase : attributeBase o "replace" X.env (eval o X.env) = eval o X.env := by rfl) (hline : (apos.endLine == pos.line) = true := by rfl) :
    PEn X n (.Call (.Attribute o "replace" apos) [.Constant (.str y) j c0, .Subscript t (.Constant (.int 0) k c1) sp] [] pos) (tReplN n y to tt) := by
  intro pins s σ H Q hn I h
  refine PySem.Call_method2 hbase hst hline (thnX hn (ho.run pins s σ H _ I h) fun v s1 hn1 ⟨v', H1, I1, r1, x, e1, q⟩ => ?_)
  subst e1
  obtain ⟨tx, rfl⟩ := r1
  refine ⟨"str", _, PySem.F.plainAttrs_str, PySem.F.slot_str_replace, PySem.F.type_str_replace, typeIs_str _ _ _, (fun _ e => nomatch e), Calls.callWith_builtin rfl (Calls.evalArgs_plain (Calls.spliced_cons ?_))⟩
  refine Calls.Constant_str (Calls.spliced_cons ?_)
  refine Subscript_ (thnX (n := s1.toks + 1) (Nat.le_refl _) (ht.run pins { s1 with toks := s1.toks + 1 } σ H1 _ (I1.tok _) q) fun v2 s2 hn2 hz => ?_)
  obtain ⟨v2', H2, I2, r2, a, ob, us, m, z, vs, e2, hF, hd, htk, hyz, hb, q2⟩ := hz
  subst e2
  cases r2
  obtain ⟨get, _, its, r, o', get', hcls, m', hd'⟩ := I2.hok a _ hF
  rw [get] at get'
  cases get'
  rw [hd] at hd'
  cases hd'
  cases r with
  | cons rz rvs =>
    rename_i w its
    obtain ⟨tz, rfl⟩ := rz
    obtain ⟨p1, p2⟩ := htk z tz (by simp)
    refine wpAny_Constant_int ?_
    have pl : IsTup s2.heap a (Value.str z tz :: its).toArray := ⟨_, get, hcls, _, hd⟩
    refine subscriptTail_builtinR (x := .str z tz) (T := "tuple") pl.typeIs slot_tuple_getitem.lookup (getItem_tuple (j := 0) pl (by decide) (by decide) ?_ (by simp) ⟨rfl, ?_⟩) (hs _ _)
    · show seqIndex? 0 (its.length + 1) = some 0
      exact PySem.StrLaws.seqIndex_nonneg (by decide) (by omega)
    refine Calls.spliced_nil ?_
    have hn1' : tz < s1.toks := Nat.lt_of_lt_of_le p2 hn1
    exact PySem.SC.replace (Nat.ne_of_gt (Nat.lt_trans p1 hn1')) (Nat.ne_of_gt p1) (Nat.ne_of_gt hn1') hyz hb fun t' k => ⟨.str (Txt.replace x y z), H2, (I2.tok _).tok _, ⟨t', rfl⟩, q2⟩
end
end DL

namespace DL
open PySem PySem.Spec PyProof.Rows L2 CwR
abbrev DEn (X : Cx) (n : Nat) (e : Expr) (d : TED) : Prop := PEn X n e (liftE X.K X.mg d)
def txK : D → (List Nat → Prop) → Prop
  | .str x, K => K x
  | _, _ => False
@[simp] theorem txK_1 {x : List Nat} {K : List Nat → Prop} : txK (.str x) K = K x := rfl
theorem txK_iff {d : D} {K : List Nat → Prop} (h : txK d K) : ∃ x, d = .str x ∧ K x := by
  cases d <;> first | exact h.elim | exact ⟨_, rfl, h⟩
def tktK (n : Nat) : D → (List Nat → Prop) → Prop
  | .tkt m (.str c :: _), K => m ≤ n ∧ K c
  | _, _ => False
@[simp] theorem tktK_1 {n m : Nat} {c : List Nat} {r : List D} {K : List Nat → Prop} : tktK n (.tkt m (.str c :: r)) K = (m ≤ n ∧ K c) := rfl
theorem tktK_iff {n : Nat} {d : D} {K : List Nat → Prop} (h : tktK n d K) : ∃ m c r, d = .tkt m (.str c :: r) ∧ m ≤ n ∧ K c := by
  unfold tktK at h
  split at h
  · exact ⟨_, _, _, rfl, h⟩
  · exact h.elim
@[simp] def dReplN (n : Nat) (y : List Nat) (do' dt : TED) : TED := fun ρ μ Q => do' ρ μ fun v μ1 => txK v fun x => dt ρ μ1 fun u μ2 => tktK n u fun c => y ≠ c ∧ x.length + (x.length + 1) * c.length ≤ SZ ∧ Q (.str (replL x y c)) μ2
theorem S_beq {x y : List Nat} (h : x ≠ y) : (S x == S y) = false := by
  cases e : (S x == S y) with
  | false => rfl
  | true => exact absurd (S_inj.mp (eq_of_beq e)) h
section
variable {X : Cx} {B : Bs} {n : Nat}
theorem den_repl {o t : Expr} {do' dt : TED} {j k : Nat} {c0 c1 apos pos sp : Pos} (ho : DE X o do') (ht : DE X t dt) (hs : PlainIx (.Constant (.int 0) k c1)) (y : List Nat) {yS : Str} (hy : yS = S y := by decide +kernel)
    (hst : starEach [.Constant (.str yS) j c0, .Subscript t (.Constant (.int 0) k c1) sp] X.env = [(false, eval (.Constant (.str yS) j c0) X.env), (false, eval (.Subscript t (.Constant (.int 0) k c1) sp) X.env)] := by rfl)
    (hbase : attributeBase o "replace" X.env (eval o X.env) = eval o X.env := by rfl) (hline : (apos.endLine == pos.line) = true := by rfl) :
    DEn X n (.Call (.Attribute o "replace" apos) [.Constant (.str yS) j c0, .Subscript t (.Constant (.int 0) k c1) sp] [] pos) (dReplN n y do' dt) := (pen_repl ho ht hs hst hbase hline).weaken fun σ H Q q => by
  subst hy
  obtain ⟨F, ρ, μ, Qd, R, hd, kk⟩ := q
  refine ⟨F, ρ, μ, _, R, hd, fun v F1 μ1 H1 dv e1 o1 w1 q1 => ?_⟩
  obtain ⟨x, rfl, q1⟩ := txK_iff q1
  cases w1
  refine ⟨S x, rfl, F1, ρ, μ1, _, R.ext e1 o1, q1, fun u F2 μ2 H2 du e2 o2 w2 q2 => ?_⟩
  obtain ⟨m, c, r, rfl, hm, hyc, hl, q2⟩ := tktK_iff q2
  cases w2 with
  | tkt hT hr =>
    obtain ⟨ob, us, mm, hd0, hd1, htok, hF⟩ := hT
    cases hr with
    | cons h1 h2 =>
      cases h1
      refine ⟨_, ob, us, mm, S c, _, rfl, o2.sub _ _ hF, hd1, fun x t h => ⟨(htok x t h).1, Nat.lt_of_lt_of_le (htok x t h).2 hm⟩, S_beq hyc, by rw [S_len, S_len]; exact hl, kk _ F2 μ2 H2 (.str (replL x y c)) (e1.trans e2) o2 ?_ q2⟩
      have : (V.str (Txt.replace (S x) (S y) (S c))) = V.str (S (replL x y c)) := by unfold replL; rw [S_cps]
      rw [this]
      exact .str _
theorem dfn_lc {elt tg iter : Expr} {scope : Scope} {own : List (Str × Nat)} {ns : List Nat} {pos : Pos} {src : TSrc} {g : TGD} {el : TED} (hc : X.calm = true) (hN : X.N.Nodup) (hi : DI X tg iter src) (ok : BlkOk X.N X.env.scope scope own)
    (hns : ∀ j ∈ ns, j ∈ own.map (·.2))
    (hg : ∀ (s : Shared) (H : Hp) (C : Addr) (cl : List (Str × Addr)) (fp : List Addr) (B : Bs), DG (X.blk s H scope (compEnvC scope cl C X.env) fp) B tg ns g)
    (he : ∀ (s : Shared) (H : Hp) (C : Addr) (cl : List (Str × Addr)) (fp : List Addr), DEn (X.blk s H scope (compEnvC scope cl C X.env) fp) n elt el) (hs : ∀ x, foldedSetIterable iter X.env x = pure x := by intro _; rfl) :
    PEn X n (.ListComp elt [⟨tg, iter, [], 0⟩] scope pos) (liftF X.K X.mg (dLc (own.map (·.2)) src g dYes el)) :=
  (pen_lc (g := fun v σ H Q => ∃ B, liftG X.K X.mg B ns g v σ H Q) (tt := liftT X.K X.mg dYes) (te := liftE X.K X.mg el) hc hN hi ok (fun s H C cl fp => ⟨fun pins s' σ H' v u Q I r ⟨B, q⟩ => (hg s H C cl fp B).run pins s' σ H' v u Q I r q⟩)
    (fun s H C cl fp => dts_nil.run) he hs).weaken fun _ _ _ q => lc_weak hns q
theorem den_F {e : Expr} {d : TFD} (h : PEn X n e (liftF X.K X.mg d)) : DEn X n e (dF d) := h.weaken fun σ H Q q => by
  obtain ⟨F, ρ, μ, Qd, R, hd, k⟩ := q
  refine ⟨F, ρ, μ, _, R, hd, fun p vs F' μ' H' ds e o hn hf hm hh w q => ?_⟩
  have mono : FLe F' (upd F' p (.lst vs)) := fun a x z => by rw [upd_ne (ne_of_none z hf)]; exact z
  refine k _ (upd F' p (.lst vs)) μ' H' _ ⟨fun a x z => mono a x (e.mono a x z), fun a x z n => ?_, e.live⟩ (o.freeze hf hm hh) (.lst upd_same (w.mono mono)) q
  obtain ⟨g1, g2, g3⟩ := e.keep a x z n
  have ha : a ≠ p := fun q => by subst q; rw [hn] at z; cases z
  exact ⟨g1, by rw [upd_ne ha]; exact g2, g3⟩
/-- a test, where n ≤ s.toks -/
def PTn (X : Cx) (n : Nat) (e : Expr) (t : TT) : Prop := ∀ (pins : List (Addr × Obj)) (s : Shared) (σ : L2.St) (H : Hp) (Q : Bool → Hp → Prop), n ≤ s.toks → Inv X pins σ H s → t σ H Q → wpAny (model X.prog X.w) X.A (isTrue e X.env (eval e X.env)) (TP X pins σ Q) X.xe s
abbrev DTn (X : Cx) (n : Nat) (e : Expr) (d : TTD) : Prop := PTn X n e (liftT X.K X.mg d)
theorem dtn_cmp {a b : Expr} {da db : TED} {op : CmpOp} {r : R2} {rd : RD2} {pos : Pos} (ho : OpR X (compareOp op) r) (hs : OpS X.K X.mg r rd) (ha : DEn X n a da) (hb : DW X b db) (hm : behindInMarks op b = false) : DTn X n (.Compare a [op] [b] pos) (dB (dOp rd da db)) := by
  intro pins s σ H Q hn I q
  obtain ⟨F, ρ, μ, Qd, R, hd, k⟩ := q
  have q2 : tOp r (liftW X.K X.mg da) (liftW X.K X.mg db) σ H (fun x H' => ∃ b, x = .bl b ∧ Q b H') := lift_op hs ⟨F, ρ, μ, _, R, hd, fun v F' μ' H' dv e o w q => by
    obtain ⟨b, rfl, q⟩ := blK_iff q
    cases w
    exact ⟨b, rfl, k b F' μ' H' e o q⟩⟩
  refine wpAny_isTrue_Compare1 (thn (ha pins s σ H _ hn I (lift_W q2)) fun v s1 ⟨x, H1, I1, r1, q1⟩ => thn (hb.run pins s1 σ H1 _ I1 q1) fun u s2 ⟨y, H2, I2, r2, q2⟩ =>
    thn (ho pins s2 σ H2 x y v u _ I2 r1 r2 q2) fun c s3 ⟨z, H3, I3, r3, k, e, q3⟩ => ?_) hm
  subst e
  cases r3
  exact wpAny_truthy_bool ⟨H3, I3, q3⟩
@[simp] def kIfN (c : Nat → TTD) (t u : TSK) : TSK := fun nx rt k ρ μ => c k ρ μ fun b μ1 => if b = true then t nx rt k ρ μ1 else u nx rt k ρ μ1
theorem ks_ifN {c : Expr} {a b : List Stmt} {tc : Nat → TTD} {t u : TSK} {pos : Pos} (hc : ∀ n, DTn X n c (tc n)) (ha : KSs X B a t) (hb : KSs X B b u) : KSt X B (.If c a b pos) (kIfN tc t u) := ⟨fun pins s σ H F ρ μ k nx rt I R hk q => by
  refine wpAny_If (thnX hk (hc k pins s σ H (fun b H' => ∃ F' μ', Ext F μ H F' μ' H' ∧ Ok X.K X.mg F' μ' H' ∧ (if b = true then t nx rt k ρ μ' else u nx rt k ρ μ')) hk I ⟨F, ρ, μ, _, R.rel, q, fun b F' μ' H' e o z => ⟨F', μ', e, o, z⟩⟩) (fun v s1 hk1 z => ?_))
  obtain ⟨H1, I1, F1, μ1, e1, o1, q1⟩ := z
  cases v with
  | true => exact thn (ha.run pins s1 σ H1 F1 ρ μ1 k nx rt I1 (R.step e1 o1) hk1 q1) fun f s2 z => z.mono e1.mono (fun _ _ _ z => z) (fun _ _ _ z => z)
  | false => exact thn (hb.run pins s1 σ H1 F1 ρ μ1 k nx rt I1 (R.step e1 o1) hk1 q1) fun f s2 z => z.mono e1.mono (fun _ _ _ z => z) (fun _ _ _ z => z)⟩
theorem kss_of {sts : List Stmt} {d : TSD} (h : DSs X B sts d) : KSs X B sts (kOf d) := ⟨fun pins s σ H F ρ μ k nx rt I R hk q => by
  refine wpAny_mono (wpAny_toks_of hk (h.run pins s σ H { nx := fun σ' H' => ∃ F' ρ' μ', FLe F F' ∧ RelB X.K X.mg B F' ρ' μ' σ' H' ∧ nx k ρ' μ', bk := fun _ _ => False, ct := fun _ _ => False, rt := fun v H' => ∃ F' μ' d, Ext B.F B.μ B.H F' μ' H' ∧ Ok X.K X.mg F' μ' H' ∧ Dt X.K X.mg F' v d ∧ rt k d μ' } I ?_)) (fun f s1 z => kp_of z.1 z.2) (fun _ _ z => z.2)
  exact ⟨F, ρ, μ, _, R, q, fun F' ρ' μ' σ' H' hF R' z => ⟨F', ρ', μ', hF, R', z⟩, fun _ _ _ _ _ _ _ z => z, fun _ _ _ _ _ _ _ z => z, fun v F' μ' H' dv e o w z => ⟨F', μ', dv, e, o, w, z⟩⟩⟩
def un1 : D → D
  | .tkt _ xs => .tup xs
  | d => d
def unT : D → D
  | .tup xs => .tup (xs.map un1)
  | d => un1 d
theorem Dt.un1 {K : PySem.W.Frag} {mg : Str → Option Value} {F : Hp} {v : V} {d : D} (h : Dt K mg F v d) : Dt K mg F v (un1 d) := by
  cases d <;> first | exact h | skip
  cases h with
  | tkt hT hr =>
    obtain ⟨ob, us, m, h1, h2, h3, h4⟩ := hT
    exact .tup ⟨ob, h1, h4⟩ hr
theorem Dts.un1 {K : PySem.W.Frag} {mg : Str → Option Value} {F : Hp} : ∀ {vs : List V} {ds : List D}, Dts K mg F vs ds → Dts K mg F vs (ds.map DL.un1)
  | _, _, .nil => .nil
  | _, _, .cons h r => .cons h.un1 r.un1
theorem Dt.unT {K : PySem.W.Frag} {mg : Str → Option Value} {F : Hp} {v : V} {d : D} (h : Dt K mg F v d) : Dt K mg F v (unT d) := by
  cases d <;> first | exact h.un1 | skip
  cases h with
  | tup h1 h2 => exact .tup h1 h2.un1
@[simp] def dWk (d : TED) : TED := fun ρ μ Q => d ρ μ fun v μ1 => Q (unT v) μ1
theorem de_wk {e : Expr} {d : TED} (h : DE X e d) : DE X e (dWk d) := h.weaken fun σ H Q q => by
  obtain ⟨F, ρ, μ, Qd, R, hd, k⟩ := q
  exact ⟨F, ρ, μ, _, R, hd, fun v F' μ' H' dv e o w q => k v F' μ' H' _ e o w.unT q⟩
end
theorem forK_rng {g : TGD} {body : TSK} {nx : NxK} {rt : RtK} {n : Nat} (P : Nat → NxK)
    (step : ∀ (i : Nat) k ρ μ (r : NxK), i < n → P i k ρ μ → (∀ k' ρ' μ', P (i + 1) k' ρ' μ' → r k' ρ' μ') → g (.int i) ρ fun ρ1 => body r rt k ρ1 μ) (done : ∀ k ρ μ, P n k ρ μ → nx k ρ μ)
    {k : Nat} {ρ : DEnv} {μ : Sto} (h0 : P 0 k ρ μ) : forK g body nx rt still (rngD 0 n) k ρ μ := by
  have go : ∀ (m i : Nat) k ρ μ, n - i = m → i ≤ n → P i k ρ μ → forK g body nx rt still ((rngD 0 n).drop i) k ρ μ := by
    intro m
    have hl : (rngD 0 n).length = n := by simp [rngD]
    induction m with
    | zero =>
      intro i k ρ μ h1 h2 hP
      have : i = n := by omega
      subst this
      rw [List.drop_eq_nil_of_le (by omega)]
      exact ⟨trivial, done _ _ _ hP⟩
    | succ m ih =>
      intro i k ρ μ h1 h2 hP
      have hi : i < n := by omega
      have hd := List.drop_eq_getElem_cons (l := rngD 0 n) (i := i) (by omega)
      rw [hd]
      have he : (rngD 0 n)[i]'(by omega) = D.int i := by simp [rngD]
      rw [he]
      exact ⟨trivial, step i k ρ μ _ hi hP fun k' ρ' μ' h => ih (i + 1) k' ρ' μ' (by omega) hi h⟩
  have := go n 0 k ρ μ (by omega) (Nat.zero_le _) h0
  simpa using this
end DL

namespace DL
open PySem PySem.Spec PyProof.Rows L2
theorem cnt_list (c : Nat) : ∀ l : List Nat, PyProof.Rows.cnt c l = ((l.count c : Nat) : Int)
  | [] => rfl
  | n :: r => by
    rw [PyProof.Rows.cnt_cons, cnt_list c r, List.count_cons]
    by_cases h : n = c
    · rw [if_pos h, h]; simp; omega
    · rw [if_neg h]; simp [h]
theorem count_list (x : List Nat) (c : Nat) : PySem.Txt.count (S x) (S [c]) = ((x.count c : Nat) : Int) := by
  have h : PySem.Txt.count (S x) ⟨#[c]⟩ = PyProof.Rows.cnt c (S x).cps.toList := PyProof.Rows.count_is (S x) c
  exact h.trans (cnt_list c x)
def rdCountS : RDm
  | .str s, [.str [c]], μ, Q => Q (.int (s.count c : Nat)) μ
  | _, _, _, _ => False
@[simp] theorem rdCountS_1 {s : List Nat} {c : Nat} {μ : Sto} {Q : DK} : rdCountS (.str s) [.str [c]] μ Q = Q (.int (s.count c : Nat)) μ := rfl
theorem ms_countS {K : PySem.W.Frag} {mg : Str → Option Value} : MtS K mg (fun x xs H Q => ∃ a b, x = .str a ∧ xs = [.str b] ∧ Q (.int (PySem.Txt.count a b)) H) rdCountS := by
  intro F μ H v vs d ds Qd Q o w ws h k
  unfold rdCountS at h
  split at h
  · rename_i s c
    obtain ⟨u, rfl, wk⟩ := ws.one
    refine ⟨_, _, w.str, by rw [wk.str], ?_⟩
    have := count_list s c
    rw [show PySem.Txt.count (S s) (S [c]) = ((s.count c : Nat) : Int) from this]
    exact fin0 o k (.int _) h
  · exact h.elim
/-- q is c, all else stands -/
def sw (q c x : Nat) : Nat := if x = q then c else x
theorem sw_free (q c : Nat) : ∀ l : List Nat, q ∉ l → l.map (sw q c) = l
  | [], _ => rfl
  | k :: r, h => by
    have h1 : k ≠ q := fun e => h (e ▸ List.mem_cons_self ..)
    rw [List.map_cons, sw_free q c r fun m => h (List.mem_cons_of_mem _ m)]
    unfold sw
    rw [if_neg h1]
theorem sw_join (q c : Nat) : ∀ parts : List Str, (∀ p ∈ parts, q ∉ p.cps.toList) → (Str.join ⟨#[q]⟩ parts).cps.toList.map (sw q c) = (Str.join ⟨#[c]⟩ parts).cps.toList
  | [], _ => rfl
  | [p], h => sw_free q c _ (h p (List.mem_singleton.mpr rfl))
  | p :: p2 :: r, h => by
    have ih := sw_join q c (p2 :: r) fun a ha => h a (List.mem_cons_of_mem _ ha)
    show (p ++ ⟨#[q]⟩ ++ Str.join ⟨#[q]⟩ (p2 :: r)).cps.toList.map (sw q c) = (p ++ ⟨#[c]⟩ ++ Str.join ⟨#[c]⟩ (p2 :: r)).cps.toList
    simp only [Str.cps_append, Array.toList_append, List.map_append]
    rw [ih, sw_free q c _ (h p (List.mem_cons_self ..))]
    simp [sw]
theorem replL_one (x : List Nat) (q c : Nat) : replL x [q] [c] = x.map (sw q c) := by
  have h : (PySem.Txt.replace (S x) ⟨#[q]⟩ ⟨#[c]⟩).cps.toList = (S x).cps.toList.map (sw q c) := by
    rw [StrLaws.replace_one, ← sw_join q c _ (StrLaws.split_free (S x) q), StrLaws.join_split]
  exact h
end DL

namespace DL
open PySem PySem.Spec PyProof.Rows L2
/-- an item with a bound of its letter's token -/
def itemN : HI × Nat → D
  | (none, _) => .non
  | (some (c, f), n) => .tkt n [.str [c], .int (f : Nat)]
abbrev histN (hs : List (HI × Nat)) : D := .tup (hs.map itemN)
def hOf (hs : List (HI × Nat)) : List HI := hs.map (·.1)
theorem un1_item (p : HI × Nat) : un1 (itemN p) = itemD p.1 := by
  obtain ⟨x, n⟩ := p
  cases x with
  | none => rfl
  | some q => rfl
@[simp] theorem unT_histN (hs : List (HI × Nat)) : unT (histN hs) = histD (hOf hs) := by
  show D.tup _ = D.tup _
  rw [List.map_map, hOf, List.map_map]
  congr 1
  exact List.map_congr_left fun p _ => un1_item p
def sp_law_historyT : DSpK := fun ds μ Q => ∃ (j c : Addr) (b n m : Nat), ds = [.ref j, .int n, .int m] ∧ Deck j c b μ ∧ b + 200 ≤ 1000000 ∧ 1 ≤ n ∧ n ≤ 30 ∧ m ≤ 50 ∧
  ∀ (k : Nat) (hs : List (HI × Nat)) μ', (∀ p ∈ hs, p.2 ≤ k) → okH n (hOf hs) → ((hOf hs).filter Option.isSome).length ≤ m → hABC (hOf hs) → StD j c μ (b + 200) μ' → Q k (histN hs) μ'
def b_law_historyT_2l_1t_2 : TSD :=
  (dSetR 4 (dVal (dOp rdSub (dLook 4) (dC (.int 1)))))
def b_law_historyT_2l_1t : TSD :=
  (dSeq (dApp 3 (dC .non))
  b_law_historyT_2l_1t_2)
def b_law_historyT_2l_2 : TSK :=
  (kAppTk 3 [97, 98, 99, 122] (dCall sp_law_draw (dCons (dVar 0) (dCons (dC (.int 4)) dNil)) noD) (dOp rdAdd (dC (.int 1)) (dCall sp_law_draw (dCons (dVar 0) (dCons (dVar 4) dNil)) noD)))
def b_law_historyT_2l : TSK :=
  (kSeq (kOf (dIfS (dAnd (dB (dOp rdGt (dLook 4) (dC (.int 1)))) (dB (dOp rdEq (dCall sp_law_draw (dCons (dVar 0) (dCons (dC (.int 4)) dNil)) noD) (dC (.int 0)))))
  b_law_historyT_2l_1t
  dNext))
  b_law_historyT_2l_2)
def b_law_historyT_3 : TSK :=
  (kOf (dRet (dFn rdTuple (dCons (dOp rdAdd (dLook 3) (dOp rdMul (dLst (dCons (dC .non) dNil)) (dOp rdSub (dLook 4) (dC (.int 1))))) dNil))))
def b_law_historyT_2 : TSK :=
  (kSeq (kFor (dRng1 (dCons (dCall sp_law_draw (dCons (dVar 0) (dCons (dOp rdAdd (dLook 2) (dC (.int 1))) dNil)) noD) dNil)) (dName 5)
  b_law_historyT_2l)
  b_law_historyT_3)
/-- _law_history(_law_deck_here, _law_n, _law_most); slots 0:_law_deck_here 1:_law_n 2:_law_most 3:_law_found 4:_law_left 5:_law_k -/
def b_law_historyT : TSK :=
  (kSeq (kOf (dPar2 3 4 (dOwn (dLstF dNil)) (dVal (dVar 1))))
  b_law_historyT_2)
theorem len_law_historyT : ∀ ds μ Q, sp_law_historyT ds μ Q → ds.length = 3 := by
  rintro ds μ Q ⟨j, c, b, n, m, rfl, _⟩; rfl
theorem ok_law_historyT : ∀ ds μ Q, sp_law_historyT ds μ Q → b_law_historyT (fun k _ μ' => Q k .non μ') Q 0 (startD 6 ds) μ := by
  rintro ds μ Q ⟨j, c, b, n, m, rfl, hD, hb, h1, h2, h3, q⟩
  have s0 : StD j c μ b μ := ⟨hD, .refl⟩
  unfold b_law_historyT
  simp
  unfold b_law_historyT_2
  simp
  refine draw1_ok (m := m + 1) s0 (by omega) (by omega) (by omega) fun k μ1 hk s1 => ?_
  simp [rngOk]
  refine ⟨by omega, ?_⟩
  refine forK_rng (fun i kk ρ μ' => ∃ (hs : List (HI × Nat)) (l : Nat) (x5 : Option DS), ρ = [some (.val (.ref j)), some (.val (.int n)), some (.val (.int m)), some (.own (hs.map itemN)), some (.val (.int l)), x5] ∧ (∀ p ∈ hs, p.2 ≤ kk) ∧ hABC (hOf hs) ∧ okB n (hOf hs) l ∧ 1 ≤ l ∧ l ≤ n ∧ ((hOf hs).filter Option.isSome).length = i ∧ hs.length + l ≤ i + n ∧ StD j c μ (b + 1 + 3 * i) μ') ?_ ?_
    ⟨[], n, none, rfl, (fun p hp => nomatch hp), (fun c f hc => nomatch hc), rfl, h1, Nat.le_refl _, rfl, by simp, s1⟩
  · rintro i kk ρ μ2 nx hi ⟨hs, l, x5, rfl, hkk, hz, ho, hl1, hl2, hc, hlen, s2⟩ hn
    have tail : ∀ (hs' : List (HI × Nat)) (l' : Nat) μ', (∀ p ∈ hs', p.2 ≤ kk) → hABC (hOf hs') → okB n (hOf hs') l' → 1 ≤ l' → l' ≤ n → ((hOf hs').filter Option.isSome).length = i → hs'.length + l' ≤ i + n → StD j c μ (b + 1 + 3 * i + 1) μ' →
        b_law_historyT_2l_2 nx Q kk [some (.val (.ref j)), some (.val (.int n)), some (.val (.int m)), some (.own (hs'.map itemN)), some (.val (.int l')), some (.val (.int i))] μ' := by
      intro hs' l' μ' hk' hz' ho' hl1' hl2' hc' hlen' s3
      unfold b_law_historyT_2l_2 kAppTk
      simp
      refine draw1_ok (m := 4) s3 (by omega) (by omega) (by omega) fun y μ4 hy s4 => ?_
      obtain ⟨ch, hch, hlo, hab⟩ : ∃ ch : Nat, atI [97, 98, 99, 122] (y : Int) = some ch ∧ (97 ≤ ch ∧ ch ≤ 122) ∧ (ch = 97 ∨ ch = 98 ∨ ch = 99 ∨ ch = 122) := by
        obtain ⟨ch, g1, g2⟩ := atI_of (xs := [97, 98, 99, 122]) (i := (y : Int)) (by omega) (by simp; omega)
        refine ⟨ch, g1, ?_⟩
        simp at g2
        refine ⟨by omega, g2⟩
      refine ⟨_, rfl, _, hch, ?_⟩
      refine draw1_ok (m := l') s4 (by omega) (by omega) (by omega) fun z μ5 hzz s5 => ?_
      simp
      refine ⟨by omega, fun n' hn' => ?_⟩
      refine hn _ _ _ ⟨hs' ++ [(some (ch, 1 + z), n')], l', some (.val (.int i)), by simp [itemN], ?_, ?_, ?_, hl1', hl2', ?_, by simp; omega, s5.le (by omega)⟩
      · intro p hp
        rcases List.mem_append.mp hp with hp | hp
        · exact Nat.le_trans (hk' p hp) hn'
        · rw [List.mem_singleton.mp hp]; exact Nat.le_refl _
      · unfold hOf
        rw [List.map_append]
        intro c f hc
        rcases List.mem_append.mp hc with hc | hc
        · exact hz' c f hc
        · simp at hc; rw [hc.1]; exact hab
      · unfold hOf
        rw [List.map_append]
        exact okB_app ho' ⟨hlo, by omega, by omega, rfl⟩
      · unfold hOf at hc' ⊢
        rw [List.map_append, List.filter_append, List.length_append, hc']; rfl
    unfold b_law_historyT_2l
    simp
    split
    · rename_i hl
      refine draw1_ok (m := 4) s2 (by omega) (by omega) (by omega) fun y μ4 hy s4 => ?_
      simp
      split
      · unfold b_law_historyT_2l_1t b_law_historyT_2l_1t_2
        simp
        have e1 : (hs.map itemN ++ [D.non]) = (hs ++ [(none, 0)]).map itemN := by simp [itemN]
        rw [e1, show ((l : Int) - 1) = ((l - 1 : Nat) : Int) by omega]
        refine ⟨by omega, tail _ _ _ ?_ ?_ ?_ (by omega) (by omega) ?_ (by simp; omega) s4⟩
        · intro p hp
          rcases List.mem_append.mp hp with hp | hp
          · exact hkk p hp
          · rw [List.mem_singleton.mp hp]; exact Nat.zero_le _
        · unfold hOf; rw [List.map_append]; exact hABC_n1 hz
        · unfold hOf; rw [List.map_append]; exact okB_app ho ⟨by omega, rfl⟩
        · unfold hOf at hc ⊢; rw [List.map_append, List.filter_append, List.length_append, hc]; rfl
      · exact tail _ _ _ hkk hz ho hl1 hl2 hc hlen s4
    · exact tail _ _ _ hkk hz ho hl1 hl2 hc hlen (s2.le (by omega))
  · rintro kk ρ μ2 ⟨hs, l, x5, rfl, hkk, hz, ho, hl1, hl2, hc, hlen, s2⟩
    unfold b_law_historyT_3
    simp
    have e1 : (hs.map itemN ++ repl (l - 1) [D.non]) = (hs ++ List.replicate (l - 1) (none, 0)).map itemN := by
      simp [itemN, repl]
    have e2 : hOf (hs ++ List.replicate (l - 1) (none, 0)) = hOf hs ++ List.replicate (l - 1) none := by simp [hOf]
    rw [e1]
    refine ⟨by omega, by omega, by omega, by simp [repl_len]; omega, q _ _ _ ?_ ?_ ?_ ?_ (s2.le (by omega))⟩
    · intro p hp
      rcases List.mem_append.mp hp with hp | hp
      · exact hkk p hp
      · rw [(List.mem_replicate.mp hp).2]; exact Nat.zero_le _
    · rw [e2, ← okB_one]
      have := okB_tears (l - 1) l (by omega)
      rw [show l - (l - 1) = 1 by omega] at this
      exact okB_app ho this
    · rw [e2, List.filter_append, List.length_append, hc]
      simp
      omega
    · rw [e2]; exact hABC_none hz _
def renG (g : Nat → Nat) (h : List HI) : List HI := h.map (Option.map fun p => (g p.1, p.2))
theorem lt_renG (g : Nat → Nat) : ∀ (h : List HI) (t i : Nat), lt (renG g h) t i = (lt h t i).map g
  | [], _, _ => rfl
  | none :: r, t, i => lt_renG g r (t + 1) i
  | some (c, f) :: r, t, i => by
    show (if t ≤ i ∧ i < t + f then g c :: lt (renG g r) t i else lt (renG g r) t i) = (if t ≤ i ∧ i < t + f then c :: lt r t i else lt r t i).map g
    rw [lt_renG g r t i]
    split <;> rfl
theorem outs_renG (g : Nat → Nat) (n : Nat) (h : List HI) : outs n (renG g h) = (outs n h).map (List.map g) := by
  unfold outs
  rw [List.map_map]
  exact List.map_congr_left fun i _ => lt_renG g h 0 i
def wsum (χ : Nat → Nat) : List HI → Nat
  | [] => 0
  | none :: r => wsum χ r
  | some (c, f) :: r => χ c * f + wsum χ r
def msr (χ : Nat → Nat) (w : List Nat) : Nat := (w.map χ).sum
theorem sum_in (a : Nat) : ∀ (n t f : Nat), ((List.range n).map fun i => if t ≤ i ∧ i < t + f then a else 0).sum = a * (min n (t + f) - min n t)
  | 0, t, f => by simp
  | n + 1, t, f => by
    rw [List.range_succ, List.map_append, List.sum_append, sum_in a n t f]
    simp only [List.map_cons, List.map_nil, List.sum_cons, List.sum_nil, Nat.add_zero]
    split
    · rename_i h
      rw [show min (n + 1) (t + f) - min (n + 1) t = (min n (t + f) - min n t) + 1 by omega, Nat.mul_add, Nat.mul_one]
    · rename_i h
      rw [show min (n + 1) (t + f) - min (n + 1) t = min n (t + f) - min n t by omega, Nat.add_zero]
theorem sum_add {α : Type} (f g : α → Nat) : ∀ l : List α, (l.map fun x => f x + g x).sum = (l.map f).sum + (l.map g).sum
  | [] => rfl
  | x :: l => by
    simp only [List.map_cons, List.sum_cons]
    rw [sum_add f g l]
    omega
theorem sum_lt (χ : Nat → Nat) : ∀ (h : List HI) (l e t n : Nat), okB l h e → t + l = n → ((List.range n).map fun i => msr χ (lt h t i)).sum = wsum χ h
  | [], _, _, t, n, _, _ => by
    have : ∀ l : List Nat, (l.map fun i => msr χ (lt [] t i)).sum = 0 := fun l => by
      induction l with
      | nil => rfl
      | cons a l ih => simp only [List.map_cons, List.sum_cons, ih]; rfl
    exact this _
  | none :: r, l, e, t, n, ho, hn => by
    obtain ⟨h1, h2⟩ := ho
    exact sum_lt χ r (l - 1) e (t + 1) n h2 (by omega)
  | some (c, f) :: r, l, e, t, n, ho, hn => by
    obtain ⟨_, h1, h2, h3⟩ := ho
    have e1 : ∀ i, msr χ (lt (some (c, f) :: r) t i) = (if t ≤ i ∧ i < t + f then χ c else 0) + msr χ (lt r t i) := fun i => by
      show msr χ (if t ≤ i ∧ i < t + f then c :: lt r t i else lt r t i) = _
      split
      · show ((c :: lt r t i).map χ).sum = _
        rw [List.map_cons, List.sum_cons]; rfl
      · rw [Nat.zero_add]
    rw [List.map_congr_left (g := fun i => (if t ≤ i ∧ i < t + f then χ c else 0) + msr χ (lt r t i)) (fun i _ => e1 i), sum_add, sum_in, sum_lt χ r l e t n h3 hn]
    rw [show min n (t + f) - min n t = f by omega]
    rfl
theorem msr_one (w : List Nat) : msr (fun _ => 1) w = w.length := by
  unfold msr
  induction w with
  | nil => rfl
  | cons a w ih => simp only [List.map_cons, List.sum_cons, ih, List.length_cons]; omega
theorem msr_chi (c : Nat) (w : List Nat) : msr (fun x => if x = c then 1 else 0) w = w.count c := by
  unfold msr
  induction w with
  | nil => rfl
  | cons a w ih =>
    simp only [List.map_cons, List.sum_cons, ih, List.count_cons]
    by_cases h : a = c
    · simp [h]; omega
    · simp [h]
theorem okB_swap {c c' f : Nat} (hc : 97 ≤ c' ∧ c' ≤ 122) : ∀ {pre post : List HI} {l e : Nat}, okB l (pre ++ some (c, f) :: post) e → okB l (pre ++ some (c', f) :: post) e
  | [], _, _, _, h => ⟨hc, h.2⟩
  | none :: _, _, _, _, h => ⟨h.1, okB_swap hc h.2⟩
  | some (_, _) :: _, _, _, _, h => ⟨h.1, h.2.1, h.2.2.1, okB_swap hc h.2.2.2⟩
theorem lt_none {q : Nat} : ∀ {h : List HI} (t i : Nat), (∀ f, some (q, f) ∉ h) → (lt h t i).count q = 0 := fun {h} t i hq => by
  rw [List.count_eq_zero]
  intro hm
  obtain ⟨f, hf⟩ := lt_mem h t i q hm
  exact hq f hf
theorem lt_one {q f : Nat} : ∀ {pre post : List HI} (t i : Nat), (∀ f, some (q, f) ∉ pre) → (∀ f, some (q, f) ∉ post) → (lt (pre ++ some (q, f) :: post) t i).count q = if t + tears pre ≤ i ∧ i < t + tears pre + f then 1 else 0
  | [], post, t, i, _, h2 => by
    show (if t ≤ i ∧ i < t + f then q :: lt post t i else lt post t i).count q = if t + 0 ≤ i ∧ i < t + 0 + f then 1 else 0
    rw [Nat.add_zero]
    split
    · rw [List.count_cons, lt_none t i h2]; simp
    · exact lt_none t i h2
  | none :: pre, post, t, i, h1, h2 => by
    rw [tears_none]
    have := lt_one (f := f) (t + 1) i (fun f hf => h1 f (List.mem_cons_of_mem _ hf)) h2
    rw [show t + (tears pre + 1) = t + 1 + tears pre by omega]
    exact this
  | some (c, g) :: pre, post, t, i, h1, h2 => by
    rw [tears_some]
    have := lt_one (f := f) t i (fun f hf => h1 f (List.mem_cons_of_mem _ hf)) h2
    have hc : c ≠ q := fun z => h1 g (by rw [z]; exact List.mem_cons_self ..)
    show (if t ≤ i ∧ i < t + g then c :: lt (pre ++ some (q, f) :: post) t i else lt (pre ++ some (q, f) :: post) t i).count q = _
    split
    · rw [List.count_cons, this]; simp [hc]
    · exact this
theorem renG_back {c q : Nat} {h : List HI} (hq : ∀ f, some (q, f) ∉ h) : renG (sw q c) h = h := by
  unfold renG
  refine (List.map_congr_left fun x hx => ?_).trans (List.map_id h)
  cases x with
  | none => rfl
  | some p =>
    obtain ⟨a, f⟩ := p
    have : a ≠ q := fun z => hq f (z ▸ hx)
    show some (sw q c a, f) = some (a, f)
    unfold sw
    rw [if_neg this]
theorem outs_swap {c q f : Nat} {pre post : List HI} (n : Nat) (h1 : ∀ f, some (q, f) ∉ pre) (h2 : ∀ f, some (q, f) ∉ post) : (outs n (pre ++ some (q, f) :: post)).map (List.map (sw q c)) = outs n (pre ++ some (c, f) :: post) := by
  rw [← outs_renG]
  congr 1
  unfold renG
  rw [List.map_append, List.map_cons]
  have e1 := renG_back (c := c) h1
  have e2 := renG_back (c := c) h2
  unfold renG at e1 e2
  rw [e1, e2]
  show pre ++ some (sw q c q, f) :: post = _
  unfold sw
  rw [if_pos rfl]
def sp_law_pick : DSp := drawSpD 1 fun r R => ∃ ps : List Nat, r = [.lst (nats ps)] ∧ ps ≠ [] ∧ ps.length ≤ 1000 ∧ R = fun d => ∃ x : Nat, x ∈ ps ∧ d = .int (x : Nat)
theorem pick_ok {j c : Addr} {b : Nat} {ps : List Nat} {μ0 μ : Sto} {Q : DK} {E : DXK} (h : StD j c μ0 b μ) (hb : b + 1 ≤ 1000000) (h0 : ps ≠ []) (hl : ps.length ≤ 1000) (q : ∀ (x : Nat) μ', x ∈ ps → StD j c μ0 (b + 1) μ' → Q (.int (x : Nat)) μ') :
    sp_law_pick [.ref j, .lst (nats ps)] μ Q E := drawD_ok h hb ⟨ps, rfl, h0, hl, rfl⟩ fun d μ' ⟨x, hx, e⟩ h2 => e ▸ q x μ' hx h2
/-- _law_pick(_law_deck_here, _law_items); slots 0:_law_deck_here 1:_law_items -/
def b_law_pick : TSD :=
  (dRet (dOp rdIx (dLook 1) (dCall sp_law_draw (dCons (dVar 0) (dCons (dFn rdLen (dCons (dLook 1) dNil)) dNil)) noD)))
theorem len_law_pick : ∀ ds μ Q E, sp_law_pick ds μ Q E → ds.length = 2 := by
  rintro ds μ Q E ⟨j, c, b, r, rfl, _, _, R, ⟨ps, rfl, _⟩, _⟩; rfl
theorem ok_law_pick : ∀ ds μ Q E, sp_law_pick ds μ Q E → b_law_pick { nx := fun _ μ' => Q .non μ', rt := Q } (startD 2 ds) μ := by
  rintro ds μ Q E ⟨j, c, b, r, rfl, hD, hb, R, ⟨ps, rfl, h0, hl, rfl⟩, q⟩
  have s0 : StD j c μ b μ := ⟨hD, .refl⟩
  have hp : 0 < ps.length := List.length_pos_iff.mpr h0
  unfold b_law_pick
  simp [nats]
  refine draw1_ok (m := ps.length) s0 hb hp (by omega) fun x μ1 hx s1 => ?_
  refine ⟨_, (by rw [atI_nat, List.getElem?_map, List.getElem?_eq_getElem hx]; rfl), ?_⟩
  exact q _ _ ⟨_, List.getElem_mem hx, rfl⟩ s1.1 s1.2
def topsL : Nat → List HI → List Nat
  | _, [] => []
  | t, none :: r => t :: topsL (t + 1) r
  | t, some _ :: r => t :: topsL t r
theorem topsL_at : ∀ (t : Nat) (pre : List HI) (x : HI) (post : List HI), (topsL t (pre ++ x :: post))[pre.length]? = some (t + tears pre)
  | t, [], none, post => rfl
  | t, [], some _, post => rfl
  | t, none :: pre, x, post => by
    rw [tears_none]
    have := topsL_at (t + 1) pre x post
    rw [show t + (tears pre + 1) = t + 1 + tears pre by omega]
    exact this
  | t, some p :: pre, x, post => by
    rw [tears_some]
    exact topsL_at t pre x post
def sp_law_tops : DSp := fun ds μ Q _ => ∃ h : List HI, ds = [histD h] ∧ h.length ≤ 1000 ∧ Q (.lst (nats (topsL 0 h))) μ
def b_law_tops_2l_2 : TSD :=
  (dSetR 1 (dVal (dOp rdAdd (dLook 1) (dFn rdInt (dCons (dOp rdIs (dLook 3) (dC .non)) dNil)))))
def b_law_tops_2l : TSD :=
  (dSeq (dApp 2 (dVar 1))
  b_law_tops_2l_2)
def b_law_tops_3 : TSD :=
  (dRet (dLook 2))
def b_law_tops_2 : TSD :=
  (dSeq (dFor (dEach (dVar 0)) (dName 3)
  b_law_tops_2l)
  b_law_tops_3)
/-- _law_tops(_law_history_here); slots 0:_law_history_here 1:_law_top 2:_law_found 3:_law_item -/
def b_law_tops : TSD :=
  (dSeq (dPar2 1 2 (dVal (dC (.int 0))) (dOwn (dLstF dNil)))
  b_law_tops_2)
theorem len_law_tops : ∀ ds μ Q E, sp_law_tops ds μ Q E → ds.length = 1 := by
  rintro ds μ Q E ⟨h, rfl, _⟩; rfl
theorem ok_law_tops : ∀ ds μ Q E, sp_law_tops ds μ Q E → b_law_tops { nx := fun _ μ' => Q .non μ', rt := Q } (startD 4 ds) μ := by
  rintro ds μ Q E ⟨h, rfl, hl, q⟩
  unfold b_law_tops
  simp
  unfold b_law_tops_2
  simp [-forD]
  refine forD_list itemD (fun l ρ μ' => μ' = μ ∧ ∃ (t : Nat) (acc : List Nat) (x3 : Option DS), ρ = [some (.val (histD h)), some (.val (.int t)), some (.own (nats acc)), x3] ∧ acc ++ topsL t l = topsL 0 h ∧ acc.length + l.length = h.length) (fun _ _ _ _ => trivial) ?_ ?_ h _ _ ⟨rfl, 0, [], none, rfl, rfl, by simp⟩
  · rintro x l ρ μ' n ⟨rfl, t, acc, x3, rfl, e, hlen⟩ hn
    unfold b_law_tops_2l b_law_tops_2l_2
    simp [nats]
    simp at hlen
    refine ⟨by omega, ?_⟩
    cases x with
    | none =>
      refine hn _ _ ⟨rfl, t + 1, acc ++ [t], some (.val .non), ?_, ?_, by simp; omega⟩
      · simp [nats, itemD]
      · rw [← e, List.append_assoc]; rfl
    | some p =>
      obtain ⟨c, f⟩ := p
      refine hn _ _ ⟨rfl, t, acc ++ [t], some (.val (itemD (some (c, f)))), ?_, ?_, by simp; omega⟩
      · simp [nats, itemD]
      · rw [← e, List.append_assoc]; rfl
  · rintro ρ μ' ⟨rfl, t, acc, x3, rfl, e, hlen⟩
    unfold b_law_tops_3
    simp
    rw [← e] at q
    simpa [topsL] using q
def sp_law : DSp := fun ds μ Q _ => ∃ ns : List Int, ds = [.scr ns] ∧ ns.length ≤ 63 ∧ ∀ μ', Q (.bl true) μ'
def b_law_2l_5l_2 : TSD :=
  (dIfS (dB (dOp rdNe (dFn rdSum (dCons (dF (dLc [16] (dEach (dVar 5)) (dName 16) dYes (dMt "str" rdCountS (dLook 16) (dCons (dLook 7) dNil)))) dNil)) (dLook 8)))
  (dRet (dC (.bl false)))
  dNext)
def b_law_2l_5l : TSD :=
  (dSeq (dSetR 8 (dVal (dFn rdSum (dCons (dF (dLc [17, 12] (dEach (dVar 6)) (dUnp 2 (gdCons (dName 17) (gdCons (dName 12) gdNil))) (dB (dOp rdEq (dLook 17) (dLook 7))) (dVar 12))) dNil))))
  b_law_2l_5l_2)
def b_law_2l_8t_7 : TSK :=
  (kIfN (fun n => (dB (dOp rdNe (dF (dLc [16] (dEach (dVar 14)) (dName 16) dYes (dReplN n [113] (dVar 16) (dOp rdIx (dLook 4) (dLook 10))))) (dFn rdList (dCons (dLook 5) dNil)))))
  (kOf (dRet (dC (.bl false))))
  kNext)
def b_law_2l_8t_6 : TSK :=
  (kSeq (kOf (dIfS (dOr (dNot (dB (dCall sp_is_history (dCons (dVar 3) (dCons (dVar 13) dNil)) noD))) (dB (dOp rdNe (dF (dLc [16] (dEach (dVar 14)) (dName 16) dYes (dMt "str" rdCountS (dLook 16) (dCons (dC (.str [113])) dNil)))) (dLook 8))))
  (dRet (dC (.bl false)))
  dNext))
  b_law_2l_8t_7)
def b_law_2l_8t_5 : TSK :=
  (kSeq (kOf (dSetR 8 (dVal (dF (dLc [18] (dRng1 (dCons (dVar 3) dNil)) (dName 18) dYes (dFn rdInt (dCons (dChain rdLe rdLt (dLook 11) (dLook 18) (dOp rdAdd (dLook 11) (dLook 12))) dNil)))))))
  b_law_2l_8t_6)
def b_law_2l_8t_4 : TSK :=
  (kSeq (kOf (dSetR 14 (dVal (dCall sp_written (dCons (dVar 3) (dCons (dVar 13) dNil)) noD))))
  b_law_2l_8t_5)
def b_law_2l_8t_3 : TSK :=
  (kSeq (kOf (dSetR 13 (dVal (dOp rdAdd (dOp rdAdd (dSl (dWk (dVar 4)) dNoPart (dPart (dVar 10))) (dTup (dCons (dTup (dCons (dC (.str [113])) (dCons (dVar 12) dNil))) dNil))) (dSl (dWk (dVar 4)) (dPart (dOp rdAdd (dLook 10) (dC (.int 1)))) dNoPart)))))
  b_law_2l_8t_4)
def b_law_2l_8t_2 : TSK :=
  (kSeq (kOf (dAsg (dTup (dCons (dOp rdIx (dCall sp_law_tops (dCons (dWk (dVar 4)) dNil) noD) (dLook 10)) (dCons (dOp rdIx (dOp rdIx (dWk (dVar 4)) (dLook 10)) (dC (.int 1))) dNil))) (dUnp 2 (gdCons (dName 11) (gdCons (dName 12) gdNil)))))
  b_law_2l_8t_3)
def b_law_2l_8t : TSK :=
  (kSeq (kOf (dSetR 10 (dVal (dCall sp_law_pick (dCons (dVar 1) (dCons (dVar 9) dNil)) noD))))
  b_law_2l_8t_2)
def b_law_2l_8 : TSK :=
  (kIf (dB (dOp rdNe (dLook 9) (dLst dNil)))
  b_law_2l_8t
  kNext)
def b_law_2l_7 : TSK :=
  (kSeq (kOf (dIfS (dB (dOp rdNe (dCall sp_count_strokes (dCons (dWk (dVar 4)) dNil) noD) (dFn rdLen (dCons (dLook 9) dNil))))
  (dRet (dC (.bl false)))
  dNext))
  b_law_2l_8)
def b_law_2l_6 : TSK :=
  (kSeq (kOf (dSetR 9 (dVal (dF (dLc [18] (dRng1 (dCons (dFn rdLen (dCons (dWk (dVar 4)) dNil)) dNil)) (dName 18) (dB (dOp rdIsNot (dOp rdIx (dWk (dVar 4)) (dLook 18)) (dC .non))) (dVar 18))))))
  b_law_2l_7)
def b_law_2l_5 : TSK :=
  (kSeq (kOf (dFor (dEach (dC (.str [97, 98, 99, 122]))) (dName 7)
  b_law_2l_5l))
  b_law_2l_6)
def b_law_2l_4 : TSK :=
  (kSeq (kOf (dIfS (dB (dOp rdNe (dFn rdSum (dCons (dF (dLc [16] (dEach (dVar 5)) (dName 16) dYes (dFn rdLen (dCons (dLook 16) dNil)))) dNil)) (dFn rdSum (dCons (dF (dLc [17, 12] (dEach (dVar 6)) (dUnp 2 (gdCons (dName 17) (gdCons (dName 12) gdNil))) dYes (dVar 12))) dNil))))
  (dRet (dC (.bl false)))
  dNext))
  b_law_2l_5)
def b_law_2l_3 : TSK :=
  (kSeq (kOf (dPar2 5 6 (dVal (dCall sp_written (dCons (dVar 3) (dCons (dWk (dVar 4)) dNil)) noD)) (dVal (dF (dLc [15] (dEach (dWk (dVar 4))) (dName 15) (dB (dOp rdIsNot (dLook 15) (dC .non))) (dVar 15))))))
  b_law_2l_4)
def b_law_2l_2 : TSD :=
  (kOut (kSeq (kSetCall 4 sp_law_historyT (dCons (dVar 1) (dCons (dVar 3) (dCons (dOp rdIx (dLst (dCons (dC (.int 28)) (dCons (dC (.int 7)) dNil))) (dOp rdMod (dLook 2) (dC (.int 2)))) dNil))))
  b_law_2l_3))
def b_law_2l : TSD :=
  (dSeq (dSetR 3 (dVal (dOp rdAdd (dC (.int 1)) (dCall sp_law_draw (dCons (dVar 1) (dCons (dC (.int 8)) dNil)) noD))))
  b_law_2l_2)
def b_law_3 : TSD :=
  (dRet (dC (.bl true)))
def b_law_2 : TSD :=
  (dSeq (dFor (dRng1 (dCons (dC (.int 10)) dNil)) (dName 2)
  b_law_2l)
  b_law_3)
/-- law(_law_script); slots 0:_law_script 1:_law_deck_here 2:_law_turn 3:_law_n 4:_law_now 5:_law_words 6:_law_strokes 7:_law_sign 8:_law_due 9:_law_places 10:_law_at 11:_law_top 12:_law_force 13:_law_other 14:_law_found 15:_law_item 16:_law_word 17:_law_letter 18:_law_k -/
def b_law : TSD :=
  (dSeq (dSetR 1 (dVal (dCall sp_law_deck (dCons (dVar 0) dNil) noD)))
  b_law_2)

theorem len_law : ∀ ds μ Q E, sp_law ds μ Q E → ds.length = 1 := by
  rintro ds μ Q E ⟨ns, rfl, _⟩; rfl
/-- the strokes of a history -/
def stk : List HI → List (Nat × Nat)
  | [] => []
  | none :: r => stk r
  | some p :: r => p :: stk r
abbrev pairD (p : Nat × Nat) : D := .tup [.str [p.1], .int (p.2 : Nat)]
theorem stk_items : ∀ h : List HI, (h.filter Option.isSome).map itemD = (stk h).map pairD
  | [] => rfl
  | none :: r => by rw [List.filter_cons_of_neg (by simp)]; exact stk_items r
  | some p :: r => by rw [List.filter_cons_of_pos rfl, List.map_cons, stk_items r]; rfl
theorem stk_len : ∀ h : List HI, (stk h).length = (h.filter Option.isSome).length
  | [] => rfl
  | none :: r => by rw [List.filter_cons_of_neg (by simp)]; exact stk_len r
  | some p :: r => by rw [List.filter_cons_of_pos rfl, List.length_cons, ← stk_len r]; rfl
theorem wsum_one : ∀ h : List HI, wsum (fun _ => 1) h = ((stk h).map (·.2)).sum
  | [] => rfl
  | none :: r => wsum_one r
  | some (c, f) :: r => by
    show 1 * f + wsum _ r = f + ((stk r).map (·.2)).sum
    rw [wsum_one r, Nat.one_mul]
theorem wsum_chi (k : Nat) : ∀ h : List HI, wsum (fun x => if x = k then 1 else 0) h = (((stk h).filter fun p => decide (p.1 = k)).map (·.2)).sum
  | [] => rfl
  | none :: r => wsum_chi k r
  | some (c, f) :: r => by
    show (if c = k then 1 else 0) * f + wsum _ r = (((((c, f) : Nat × Nat) :: stk r).filter fun p => decide (p.1 = k)).map (·.2)).sum
    rw [wsum_chi k r]
    by_cases h : c = k
    · rw [List.filter_cons_of_pos (by simp [h]), if_pos h, List.map_cons, List.sum_cons, Nat.one_mul]
    · rw [List.filter_cons_of_neg (by simp [h]), if_neg h, Nat.zero_mul, Nat.zero_add]
theorem sum_outs (χ : Nat → Nat) {n : Nat} {h : List HI} (ho : okH n h) : ((outs n h).map (msr χ)).sum = wsum χ h := by
  unfold outs
  rw [List.map_map]
  exact sum_lt χ h n 1 0 n (okB_one.mpr ho) (Nat.zero_add n)
theorem sum_ints (l : List Nat) : (l.map fun x : Nat => (x : Int)).sum = ((l.sum : Nat) : Int) := by
  induction l with
  | nil => rfl
  | cons a l ih => rw [List.map_cons, List.sum_cons, ih, List.sum_cons]; omega
theorem range_getD (h : List HI) : (List.range h.length).map (fun k => h.getD k none) = h := by
  apply List.ext_getElem?
  intro i
  rw [List.getElem?_map]
  by_cases hi : i < h.length
  · rw [List.getElem?_range hi, List.getElem?_eq_getElem hi]
    simp [hi]
  · rw [List.getElem?_eq_none (by simp; omega), List.getElem?_eq_none (by omega)]; rfl
theorem places_len (h : List HI) : ((List.range h.length).filter fun k => (h.getD k none).isSome).length = strokes h := by
  have e : strokes h = (((List.range h.length).map fun k => h.getD k none).filter Option.isSome).length := by rw [range_getD]; rfl
  rw [e, List.filter_map, List.length_map]
  rfl
theorem eqvs_ints_self : ∀ l : List Int, D.eqvs (l.map D.int) (l.map D.int) = true
  | [] => rfl
  | a :: l => by
    show (D.eqv (.int a) (.int a) && D.eqvs (l.map D.int) (l.map D.int)) = true
    rw [eqvs_ints_self l]
    simp
theorem ok_law : ∀ ds μ Q E, sp_law ds μ Q E → b_law { nx := fun _ μ' => Q .non μ', rt := Q } (startD 19 ds) μ := by
  rintro ds μ Q E ⟨ns, rfl, hn, q⟩
  unfold b_law
  simp
  refine ⟨ns, rfl, hn, fun j c μ1 hJ _ _ _ => ?_⟩
  unfold b_law_2
  simp [rngOk, -forD]
  refine forD_rng (fun i ρ μ' => (∃ x2 x3 x4 x5 x6 x7 x8 x9 x10 x11 x12 x13 x14, ρ = [some (.val (.scr ns)), some (.val (.ref j)), x2, x3, x4, x5, x6, x7, x8, x9, x10, x11, x12, x13, x14, none, none, none, none]) ∧ Deck j c (300 * i) μ') ?_ ?_ ⟨⟨_, _, _, _, _, _, _, _, _, _, _, _, _, rfl⟩, hJ⟩
  · rintro i ρ μ2 nx hi ⟨⟨x2, x3, x4, x5, x6, x7, x8, x9, x10, x11, x12, x13, x14, rfl⟩, hJ2⟩ hnx
    unfold b_law_2l
    simp
    refine draw1_ok (m := 8) ⟨hJ2, .refl⟩ (by omega) (by omega) (by omega) fun y μ3 hy s3 => ?_
    simp
    unfold b_law_2l_2
    simp
    rw [show (1 : Int) + (y : Int) = ((1 + y : Nat) : Int) by omega]
    generalize hN : 1 + y = n
    obtain ⟨mm, hmm, hm28⟩ : ∃ mm : Nat, atI [D.int 28, D.int 7] ((i : Int) % 2) = some (D.int mm) ∧ mm ≤ 28 := by
      rcases Nat.mod_two_eq_zero_or_one i with e | e
      · exact ⟨28, by rw [show (i : Int) % 2 = ((0 : Nat) : Int) by omega]; rfl, by omega⟩
      · exact ⟨7, by rw [show (i : Int) % 2 = ((1 : Nat) : Int) by omega]; rfl, by omega⟩
    refine ⟨_, hmm, j, c, _, n, mm, rfl, s3.1, by omega, by omega, by omega, by omega, fun k hs μ4 hk ho hst hz s4 m hkm => ?_⟩
    have hlen := okH_len ho
    have hlh : (hOf hs).length ≤ 40 := by omega
    generalize hh : hOf hs = h at ho hst hz hlen hlh
    unfold b_law_2l_3
    simp [hh]
    refine ⟨n, h, rfl, by omega, by omega, ?_⟩
    refine lcD_listF (μ := μ4) h Option.isSome itemD itemD trivial (by unfold SZ; omega) (fun a ha k' n' g1 g2 => ?_) ?_
    · cases a with
      | none => simp [itemD]; exact g2 rfl
      | some p => obtain ⟨c', f'⟩ := p; simp [itemD]; exact g1 rfl
    rw [stk_items]
    have hsl : (stk h).length ≤ 28 := by rw [stk_len]; omega
    have hwl : ∀ w ∈ outs n h, w.length ≤ 40 := fun w hw => by
      obtain ⟨z, _, rfl⟩ := List.mem_map.mp hw
      have := lt_le h 0 z
      omega
    show b_law_2l_4 _ _ _ _ _
    unfold b_law_2l_4
    simp
    refine lcD_list (μ := μ4) (outs n h) D.str (fun w => D.int (w.length : Nat)) trivial (by rw [show (outs n h).length = n by simp [outs]]; unfold SZ; omega) (fun a ha k' g1 => ?_) ?_
    · simp
      exact ⟨by have := hwl a ha; omega, g1⟩
    refine ⟨(outs n h).map fun w => (w.length : Int), by rw [List.map_map]; rfl, ?_⟩
    refine lcD_list (μ := μ4) (stk h) pairD (fun p => D.int (p.2 : Nat)) trivial (by unfold SZ; omega) (fun a ha k' g1 => ?_) ?_
    · simp [gdCons]
      exact g1
    refine ⟨(stk h).map fun p => (p.2 : Int), by rw [List.map_map]; rfl, ?_⟩
    rw [if_pos (by
      have e1 := sum_outs (fun _ => 1) ho
      rw [wsum_one, List.map_congr_left (fun w _ => msr_one w)] at e1
      have e2 := sum_ints ((outs n h).map List.length)
      have e3 := sum_ints ((stk h).map (·.2))
      rw [List.map_map] at e2 e3
      exact e2.trans ((congrArg (fun z : Nat => (z : Int)) e1).trans e3.symm))]
    unfold b_law_2l_5
    simp [-forD]
    refine forD_list (fun c : Nat => D.str [c]) (fun l ρ μ' => μ' = μ4 ∧ ∃ x7 x8 : Option DS, ρ = [some (.val (.scr ns)), some (.val (.ref j)), some (.val (.int i)), some (.val (.int n)), some (.val (histN hs)), some (.val (wsD (outs n h))), some (.val (.lst ((stk h).map pairD))), x7, x8, x9, x10, x11, x12, x13, x14, none, none, none, none]) (fun _ _ _ _ => trivial) ?_ ?_ [97, 98, 99, 122] _ _ ⟨rfl, _, _, rfl⟩
    · rintro cc l ρ μ' n' ⟨rfl, x7, x8, rfl⟩ hn'
      unfold b_law_2l_5l
      simp
      refine lcD_listF (μ := μ') (stk h) (fun p => decide (p.1 = cc)) pairD (fun p => D.int (p.2 : Nat)) trivial (by unfold SZ; omega) (fun a ha k' n2 g1 g2 => ?_) ?_
      · obtain ⟨a1, a2⟩ := a
        simp [gdCons]
        by_cases hc : a1 = cc
        · rw [if_pos hc]; exact g1 (by simp [hc])
        · rw [if_neg hc]; exact g2 (by simp [hc])
      refine ⟨((stk h).filter fun p => decide (p.1 = cc)).map fun p => (p.2 : Int), by rw [List.map_map]; rfl, ?_⟩
      unfold b_law_2l_5l_2
      simp
      refine lcD_list (μ := μ') (outs n h) D.str (fun w => D.int (w.count cc : Nat)) trivial (by rw [show (outs n h).length = n by simp [outs]]; unfold SZ; omega) (fun a ha k' g1 => ?_) ?_
      · simp
        exact g1
      refine ⟨(outs n h).map fun w => (w.count cc : Int), by rw [List.map_map]; rfl, ?_⟩
      rw [if_pos (by
        have e1 := sum_outs (fun x => if x = cc then 1 else 0) ho
        rw [wsum_chi, List.map_congr_left (fun w _ => msr_chi cc w)] at e1
        have e2 := sum_ints ((outs n h).map (List.count cc))
        have e3 := sum_ints (((stk h).filter fun p => decide (p.1 = cc)).map (·.2))
        rw [List.map_map] at e2 e3
        exact e2.trans ((congrArg (fun z : Nat => (z : Int)) e1).trans e3.symm))]
      exact hn' _ _ ⟨rfl, _, _, rfl⟩
    rintro ρ μ' ⟨rfl, x7, x8, rfl⟩
    show b_law_2l_6 _ _ _ _ _
    unfold b_law_2l_6
    simp [hh]
    refine ⟨by unfold rngOk; omega, ?_⟩
    rw [show rngD 0 h.length = (List.range h.length).map fun k : Nat => D.int (k : Nat) by unfold rngD; exact List.map_congr_left fun k _ => by congr 1; omega]
    refine lcD_listF (μ := μ') (List.range h.length) (fun k => (h.getD k none).isSome) (fun k : Nat => D.int (k : Nat)) (fun k : Nat => D.int (k : Nat)) trivial (by rw [List.length_range]; unfold SZ; omega) (fun a ha k' n2 g1 g2 => ?_) ?_
    · have hal : a < h.length := List.mem_range.mp ha
      have hat : atI (h.map itemD) (a : Int) = some (itemD (h.getD a none)) := by
        rw [atI_nat, List.getElem?_map, List.getElem?_eq_getElem hal]
        simp [hal]
      generalize h.getD a none = xx at hat g1 g2
      simp [hh, hat]
      cases xx with
      | none => simp [itemD]; exact g2 rfl
      | some p => obtain ⟨c', f'⟩ := p; simp [itemD]; exact g1 rfl
    generalize hps : (List.range h.length).filter (fun k => (h.getD k none).isSome) = ps
    show b_law_2l_7 _ _ _ _ _
    unfold b_law_2l_7
    simp [hh]
    have hpl : ps.length = strokes h := by rw [← hps]; exact places_len h
    refine ⟨h, rfl, by omega, ?_⟩
    simp [hpl]
    have over : ∀ (ρ' : DEnv) (μ5 : Sto), (∃ x2 x3 x4 x5 x6 x7 x8 x9 x10 x11 x12 x13 x14, ρ' = [some (DS.val (D.scr ns)), some (DS.val (D.ref j)), x2, x3, x4, x5, x6, x7, x8, x9, x10, x11, x12, x13, x14, none, none, none, none]) → StD j c μ3 (300 * i + 1 + 200 + 1) μ5 → nx ρ' μ5 := fun ρ' μ5 e s5 => hnx _ _ ⟨e, s5.1.le (by omega)⟩
    unfold b_law_2l_8
    simp
    refine ⟨okEq_nats ps, ?_⟩
    rcases ps with _ | ⟨p0, ps'⟩
    · exact over _ _ ⟨_, _, _, _, _, _, _, _, _, _, _, _, _, rfl⟩ (s4.le (by omega))
    rw [if_neg (by intro z; cases z)]
    generalize hps2 : p0 :: ps' = ps at hps hpl
    have hlp : ps.length ≤ 28 := by rw [hpl]; unfold strokes; omega
    unfold b_law_2l_8t
    simp
    refine pick_ok s4 (by omega) (by rw [← hps2]; simp) (by omega) fun x μ5 hx s5 => ?_
    obtain ⟨hxl, cl, fo, hxat⟩ : x < h.length ∧ ∃ cl fo, h[x]? = some (some (cl, fo)) := by
      rw [← hps] at hx
      obtain ⟨h1, h2⟩ := List.mem_filter.mp hx
      have h1 := List.mem_range.mp h1
      refine ⟨h1, ?_⟩
      rw [List.getElem?_eq_getElem h1]
      have e : h.getD x none = h[x] := by simp [h1]
      rw [e] at h2
      cases hq : h[x] with
      | none => rw [hq] at h2; cases h2
      | some p => exact ⟨p.1, p.2, rfl⟩
    have hsl2 : hs.length = h.length := by rw [← hh]; simp [hOf]
    obtain ⟨pz, hpz, epz⟩ : ∃ pz, hs[x]? = some pz ∧ pz.1 = some (cl, fo) := by
      rw [← hh] at hxat
      unfold hOf at hxat
      rw [List.getElem?_map] at hxat
      cases e : hs[x]? with
      | none => rw [e] at hxat; cases hxat
      | some pz => rw [e] at hxat; exact ⟨pz, rfl, by simpa using hxat⟩
    have hpk : pz.2 ≤ m := Nat.le_trans (hk _ (List.mem_of_getElem? hpz)) hkm
    have hsplit : h = h.take x ++ some (cl, fo) :: h.drop (x + 1) := by
      have e1 := List.take_append_drop x h
      rw [List.drop_eq_getElem_cons hxl] at e1
      rw [List.getElem?_eq_getElem hxl] at hxat
      rw [Option.some.inj hxat] at e1
      exact e1.symm
    have hpre : (h.take x).length = x := by rw [List.length_take]; omega
    generalize hp1 : h.take x = pre at hsplit hpre
    generalize hp2 : h.drop (x + 1) = post at hsplit
    unfold b_law_2l_8t_2
    simp [hh]
    refine ⟨h, rfl, by omega, ?_⟩
    have htop : atI (nats (topsL 0 h)) (x : Int) = some (.int (tears pre : Nat)) := by
      rw [atI_nat]
      unfold nats
      have := topsL_at 0 pre (some (cl, fo)) post
      rw [← hsplit, hpre, Nat.zero_add] at this
      rw [List.getElem?_map, this]; rfl
    have hitem : atI (h.map itemD) (x : Int) = some (.tup [.str [cl], .int (fo : Nat)]) := by
      rw [atI_nat, List.getElem?_map, hxat]; rfl
    have hone : atI [D.str [cl], D.int (fo : Nat)] (1 : Int) = some (.int (fo : Nat)) := rfl
    simp [htop, hitem, hone]
    unfold b_law_2l_8t_3
    simp [hh]
    rw [cut_take, show (x : Int) + 1 = ((x + 1 : Nat) : Int) by omega, cut_drop]
    have et : (h.map itemD).take x = pre.map itemD := by rw [← List.map_take, hp1]
    have ed : (h.map itemD).drop (x + 1) = post.map itemD := by rw [← List.map_drop, hp2]
    rw [et, ed]
    have hlp2 : pre.length + (post.length + 1) ≤ 40 := by
      have := congrArg List.length hsplit
      rw [List.length_append, List.length_cons] at this
      omega
    refine ⟨by rw [List.length_map]; omega, by rw [List.length_map, List.length_map]; omega, ?_⟩
    obtain ⟨o, ho2⟩ : ∃ o : List HI, o = pre ++ some (113, fo) :: post := ⟨_, rfl⟩
    have eo : D.tup (pre.map itemD ++ D.tup [D.str [113], D.int (fo : Nat)] :: post.map itemD) = histD o := by
      rw [ho2]
      simp [itemD]
    rw [eo]
    have hq1 : ∀ f, some (113, f) ∉ pre := fun f hm => by
      have := hz 113 f (by rw [hsplit]; exact List.mem_append_left _ hm)
      omega
    have hq2 : ∀ f, some (113, f) ∉ post := fun f hm => by
      have := hz 113 f (by rw [hsplit]; exact List.mem_append_right _ (List.mem_cons_of_mem _ hm))
      omega
    have hcl := hz cl fo (by rw [hsplit]; simp)
    have hoo : okH n o := by
      rw [ho2]
      rw [hsplit] at ho
      exact okB_one.mp (okB_swap (by omega) (okB_one.mpr ho))
    have hol : o.length = h.length := by rw [ho2, hsplit]; simp
    have hos : (o.filter Option.isSome).length = (h.filter Option.isSome).length := by
      rw [ho2, hsplit, List.filter_append, List.filter_append, List.length_append, List.length_append]; rfl
    have hback : (outs n o).map (List.map (sw 113 cl)) = outs n h := by
      rw [ho2, hsplit]
      exact outs_swap n hq1 hq2
    have hol2 : (outs n o).length = n := by simp [outs]
    have how : ∀ w ∈ outs n o, w.length ≤ 40 := fun w hw => by
      obtain ⟨z, _, rfl⟩ := List.mem_map.mp hw
      have := lt_le o 0 z
      omega
    unfold b_law_2l_8t_4
    simp
    refine ⟨n, o, rfl, by omega, by omega, ?_⟩
    show b_law_2l_8t_5 _ _ _ _ _
    unfold b_law_2l_8t_5
    simp
    refine ⟨by unfold rngOk; omega, ?_⟩
    rw [show rngD 0 n = (List.range n).map fun k : Nat => D.int (k : Nat) by unfold rngD; exact List.map_congr_left fun k _ => by congr 1; omega]
    refine lcD_list (μ := μ5) (List.range n) (fun z : Nat => D.int (z : Nat)) (fun z => D.int ((if tears pre ≤ z ∧ z < tears pre + fo then 1 else 0 : Nat) : Int)) trivial (by rw [List.length_range]; unfold SZ; omega) (fun a ha k' g1 => ?_) ?_
    · simp
      by_cases c1 : tears pre ≤ a
      · by_cases c2 : a < tears pre + fo
        · rw [if_pos ⟨c1, c2⟩] at g1
          rw [if_pos c1, if_pos (by omega)]
          exact g1
        · rw [if_neg (fun z => c2 z.2)] at g1
          rw [if_pos c1, if_neg (by omega)]
          exact g1
      · rw [if_neg (fun z => c1 z.1)] at g1
        rw [if_neg c1]
        exact g1
    have ecnt : (outs n o).map (fun w => D.int (w.count 113 : Nat)) = (List.range n).map (fun z => D.int ((if tears pre ≤ z ∧ z < tears pre + fo then 1 else 0 : Nat) : Int)) := by
      unfold outs
      rw [List.map_map]
      refine List.map_congr_left fun z _ => ?_
      show D.int ((lt o 0 z).count 113 : Nat) = _
      rw [ho2, lt_one 0 z hq1 hq2, Nat.zero_add]
    generalize hdue : (List.range n).map (fun z => D.int ((if tears pre ≤ z ∧ z < tears pre + fo then 1 else 0 : Nat) : Int)) = due at ecnt
    show b_law_2l_8t_6 _ _ _ _ _
    unfold b_law_2l_8t_6
    simp
    refine hst_go (by omega) (by omega) (by omega) ?_
    rw [isHst_ok hoo, short_le (by omega)]
    simp
    refine lcD_list (μ := μ5) (outs n o) D.str (fun w => D.int (w.count 113 : Nat)) trivial (by rw [hol2]; unfold SZ; omega) (fun a ha k' g1 => ?_) ?_
    · simp
      exact g1
    rw [ecnt]
    have hdi : due = ((List.range n).map fun z => ((if tears pre ≤ z ∧ z < tears pre + fo then 1 else 0 : Nat) : Int)).map D.int := by rw [← hdue, List.map_map]; rfl
    refine ⟨by rw [hdi]; exact okEq_ints _ _, ?_⟩
    rw [if_pos (by rw [hdi]; exact eqvs_ints_self _)]
    unfold b_law_2l_8t_7
    simp
    refine lcD_list (μ := μ5) (outs n o) D.str (fun w => D.str (w.map (sw 113 cl))) trivial (by rw [hol2]; unfold SZ; omega) (fun a ha k' g1 => ?_) ?_
    · have hat : atI (hs.map itemN) (x : Int) = some (itemN pz) := by rw [atI_nat, List.getElem?_map, hpz]; rfl
      obtain ⟨px, pn⟩ := pz
      dsimp at epz hpk
      subst epz
      simp [hat, itemN]
      exact ⟨hpk, by omega, by have := how a ha; omega, by rw [replL_one]; exact g1⟩
    have elast : (outs n o).map (fun w => D.str (w.map (sw 113 cl))) = (outs n h).map D.str := by
      rw [← hback, List.map_map]; rfl
    rw [elast]
    have hw := outs_low (okH_low ho) n
    refine ⟨okEq_of (x := .lst _) (y := .lst _) (wsD_ic hw).1 (wsD_ic hw).1 (by have := (wsD_ic hw).2; show D.dps _ + 1 ≤ 50; have e : (wsD (outs n h)).dp = D.dps ((outs n h).map D.str) + 1 := rfl; omega) (by have := (wsD_ic hw).2; show D.dps _ + 1 ≤ 50; have e : (wsD (outs n h)).dp = D.dps ((outs n h).map D.str) + 1 := rfl; omega), ?_⟩
    rw [if_pos (by rw [eqvs_strs]; simp)]
    exact over _ _ ⟨_, _, _, _, _, _, _, _, _, _, _, _, _, rfl⟩ s5
  · rintro ρ μ2 ⟨⟨x2, x3, x4, x5, x6, x7, x8, x9, x10, x11, x12, x13, x14, rfl⟩, hJ2⟩
    unfold b_law_3
    simp
    exact q _
end DL

namespace DL
open PySem PySem.Spec PyProof.Rows L2
/-- the heap that shows the script alone, where the module does not own it -/
def Hscr (K : PySem.W.Frag) (a : Addr) (o : Obj) (xs : List V) : Hp := fun b => if b = a ∧ K.lookup a = none then some (.frz o (.lst xs)) else none
theorem Hscr_some {K : PySem.W.Frag} {a b : Addr} {o : Obj} {xs : List V} {u : HO} (h : Hscr K a o xs b = some u) : b = a ∧ K.lookup a = none ∧ u = .frz o (.lst xs) := by
  unfold Hscr at h
  split at h
  · rename_i c
    exact ⟨c.1, c.2, (Option.some.inj h).symm⟩
  · cases h
theorem Hscr_none {K : PySem.W.Frag} {a b : Addr} {o : Obj} {xs : List V} (h : ¬ (b = a ∧ K.lookup a = none)) : Hscr K a o xs b = none := if_neg h
theorem end_g {l : PySem.W.OpenLaw} {n k : Nat} {q : Program} {loose : List Str} {XP : (Str → Option Value) → Heap → Prop} {YP : World → Heap → Prop} {d : DefRec} {K : Params → PySem.W.Frag} {S : DSp} {x : Str}
    (hn : l.most = some n) (hn2 : n ≤ sizeLine) (hdf : d.params.defaults = []) (hr : Room k callerA) (hY : ∀ (w : World) (h : Heap), YP w h → (K w.params).In h)
    (F : ∀ (w : World) (mg : Str → Option Value) (fa : Addr) (h : Heap), (K w.params).In h → h.Ns mainGlobals mg → mg d.name = some (.ref fa) →
      ∃ fd : FuncData, (∀ (s : Shared) (u : Value), BindsTo s fd ⟨[u], []⟩ [(x, u)]) ∧ ∀ base : Heap, (K w.params).In base → base.Ns mainGlobals mg → FnG l.prog w (K w.params) mg base L2.CX0 k fa fd [x] (liftP (K w.params) mg S))
    (hS : ∀ ns : List Int, ns.length ≤ n → S [.scr ns] (fun _ => none) (fun v _ => v = .bl true) noD) : PySem.W.WalkO q loose XP YP l.row.toRowW d [] (fun f vs => PySem.call f vs) := by
  refine Att.attach_call hn hdf ?_
  intro w s0 s1 mg mb fa o pm cd doc a vs ns G Y ho hd hcd hmg hobj hints hlen hgens
  have KX := hY w _ Y
  obtain ⟨fd, bind, FF⟩ := F w mg fa _ KX G.T.g hmg
  generalize K w.params = K at KX FF
  -- the heap
  let so : Obj := { cls := .type "list", data := .seq vs.toArray }
  let H : Hp := Hscr K a so (ns.map V.int)
  have rel : Vals (ns.map V.int) vs := vals_ints hints
  have small : (ns.map V.int).length ≤ sizeLine := by
    rw [List.length_map]
    exact Nat.le_trans hlen hn2
  have ok : HOk l.prog w H s1.heap := by
    intro b u hb
    obtain ⟨rfl, _, rfl⟩ := Hscr_some hb
    exact ⟨hobj, small, vs, _, rel, hobj⟩
  have shown : SqL K H a (ns.map V.int) := by
    cases hk : K.lookup a with
    | none => exact Or.inl (Or.inr ⟨so, if_pos ⟨rfl, hk⟩⟩)
    | some ob =>
      have hob := KX a ob hk
      rw [hobj] at hob
      cases hob
      refine Or.inr ⟨_, vs.toArray, _, hk, rfl, rfl, rfl, ?_, by simpa using rel⟩
      rw [List.size_toArray, hints.length]
      exact Nat.le_trans hlen hn2
  -- what is not the script stands in the base
  have notscr : ∀ {b : Addr} {ob : Obj}, s1.heap.get? b = some ob → (∀ z m, ob.data ≠ .seq z m) → H b = none := by
    intro b ob hb hne
    refine Hscr_none ?_
    rintro ⟨rfl, _⟩
    rw [hobj] at hb
    cases hb
    exact hne _ _ rfl
  have ns' : ∀ {b : Addr} {m : Str → Option Value}, s1.heap.Ns b m → (hidT s1.heap H).Ns b m := by
    rintro b m ⟨ob, es, ep, h1, h2, h3⟩
    exact ⟨ob, es, ep, hidT_get h1 (notscr h1 (fun z m e => by rw [h2] at e; cases e)), h2, h3⟩
  have kin : K.In (hidT s1.heap H) := by
    intro b ob hb
    refine hidT_get (KX b ob hb) (Hscr_none ?_)
    rintro ⟨rfl, hk⟩
    rw [hb] at hk
    cases hk
  obtain ⟨mc, l1, l2⟩ := G.T.nolimit
  have md : Mod K mg (hidT s1.heap H) := ⟨kin, ns' G.T.g, ⟨mb, ns' G.T.b, G.T.builtins⟩, ⟨mc, ns' l1, l2⟩⟩
  have env : Env0 l.prog w K mg (hidT s1.heap H) callerA [] s1 H :=
    { frames := rfl, mod := md, bs := fun _ _ e => of_hidT e, bsz := Nat.le_of_eq (hidT_size _ _), funs := trivial, frf := fun b hb => (List.not_mem_nil hb).elim, hok := ok, bare := .of_eq hgens }
  have F0 := FF _ kin (ns' G.T.g)
  have promise : liftP K mg S [.ref a] H (fun v _ => v = .bl true) L2.E0 := by
    refine ⟨H, fun _ => none, [.scr ns], _, noD, ⟨fun _ _ e => e, (fun _ _ e => nomatch e), (fun _ _ e => nomatch e)⟩, .one (.scr shown), hS ns hlen, ?_, fun _ _ _ _ _ _ _ _ _ _ z => z.elim⟩
    rintro v F' μ' H' dv _ _ hv rfl
    cases hv
    rfl
  refine codeAny_mono (F0.run callerA [] s1 H ⟨[.ref a], []⟩ [.ref a] [.ref a] _ _ rfl hr env (bind s1 (.ref a)) (.cons rfl .nil) promise) ?_
  intro r s' h
  match r, h with
  | .ok (.ret u), ⟨v, H', hos, hbare, un, ok', rv, hv⟩ =>
    subst hv
    cases rv
    refine ⟨rfl, OldK.of_keep ?_, hos, hbare⟩
    intro b ob hb
    by_cases hc : H b = none
    · exact un.keep b ob hb hc (fun z => (List.not_mem_nil z).elim) (fun z => (List.not_mem_nil z).elim)
    · obtain ⟨u, hu⟩ := Option.ne_none_iff_exists'.mp hc
      obtain ⟨rfl, _, rfl⟩ := Hscr_some hu
      obtain ⟨e2, _⟩ := ok' _ _ (un.frzs _ _ _ hu)
      rw [hobj] at hb
      cases hb
      exact e2
end DL

namespace DL
open PySem PySem.Spec PyProof.Rows L2
theorem end_law : ∀ ns : List Int, ns.length ≤ 63 → sp_law [.scr ns] (fun _ => none) (fun v _ => v = .bl true) noD := fun ns h => ⟨ns, rfl, h, fun _ => rfl⟩
def topS (i : Nat) : Stmt := PySem.Challenge.pw_carbonpad_k07_whole_letters_counted.main.body.getD i (.Pass ⟨0, 0, 0, 0⟩)
section
variable {P : Program} {w : World} {K : PySem.W.Frag} {mg : Str → Option Value} {base : Heap}
abbrev s_is_between : Stmt := topS 3
theorem sc_is_between : FnScope ["value", "low", "high"] ["value", "low", "high"] (defScope s_is_between) := ⟨rfl, rfl, rfl, by decide +kernel, rfl, by decide +kernel, by decide +kernel⟩
theorem fn_is_between {f : Addr} {fd : FuncData} (F : Fun K "is_between" "is_between" s_is_between f fd) (m_bool : mg "bool" = none) (m_int : mg "int" = none) (m_isinstance : mg "isinstance" = none) : FnG P w K mg base L2.CX0 1 f fd ["value", "low", "high"] (liftP K mg sp_is_between) := by
  refine FnG.ofD (k := 0) F sc_is_between len_is_between b_is_between ok_is_between fun cdv A outer s H E B quiet room => ?_
  have nd := sc_is_between.nd
  exact (ds_last (ds_ret (de_and (de_fnB call_isi cs_isi (by rfl) m_isinstance (by decide +kernel) (daw_cons (dw_var (pv 0)) (daw_cons (dw (de_tyN (by rfl) m_int (by decide +kernel))) daw_nil))) (de_and (de_not (de_fnB call_isi cs_isi (by rfl) m_isinstance (by decide +kernel) (daw_cons (dw_var (pv 0)) (daw_cons (dw (de_tyN (by rfl) m_bool (by decide +kernel))) daw_nil)))) (de_one (de_chain op_le ops_le op_le ops_le (dw_var (pv 1)) (dw_var (pv 0)) (dw_var (pv 2))))))))
abbrev s_is_letter : Stmt := topS 4
theorem sc_is_letter : FnScope ["value"] ["value"] (defScope s_is_letter) := ⟨rfl, rfl, rfl, by decide +kernel, rfl, by decide +kernel, by decide +kernel⟩
theorem fn_is_letter {f : Addr} {fd : FuncData} (F : Fun K "is_letter" "is_letter" s_is_letter f fd) (m_isinstance : mg "isinstance" = none) (m_len : mg "len" = none) (m_str : mg "str" = none) {t_LETTERS : Tok} (g_LETTERS : mg "LETTERS" = some (.str "abcdefghijklmnopqrstuvwxyz" t_LETTERS)) : FnG P w K mg base L2.CX0 1 f fd ["value"] (liftP K mg sp_is_letter) := by
  refine FnG.ofD (k := 0) F sc_is_letter len_is_letter b_is_letter ok_is_letter fun cdv A outer s H E B quiet room => ?_
  have nd := sc_is_letter.nd
  exact (ds_last (ds_ret (de_and (de_fnB call_isi cs_isi (by rfl) m_isinstance (by decide +kernel) (daw_cons (dw_var (pv 0)) (daw_cons (dw (de_tyN (by rfl) m_str (by decide +kernel))) daw_nil))) (de_and (de_cmp (op_eqA room.units) ops_eq (dw (de_fnB call_lenA cs_len (by rfl) m_len (by decide +kernel) (daw_cons (dw_var (pv 0)) daw_nil))) (dw de_int) (nomark _)) (de_one (de_cmp op_inA (ops_in false) (dw_var (pv 0)) (dw (de_globS [97, 98, 99, 100, 101, 102, 103, 104, 105, 106, 107, 108, 109, 110, 111, 112, 113, 114, 115, 116, 117, 118, 119, 120, 121, 122] (by rfl) g_LETTERS)) (by rfl)))))))
abbrev s_with_stroke : Stmt := topS 5
theorem sc_with_stroke : FnScope ["words", "top", "stroke", "letter", "force", "at", "word"] ["words", "top", "stroke"] (defScope s_with_stroke) := ⟨rfl, rfl, rfl, by decide +kernel, rfl, by decide +kernel, by decide +kernel⟩
theorem fn_with_stroke {f : Addr} {fd : FuncData} (F : Fun K "with_stroke" "with_stroke" s_with_stroke f fd) (m_enumerate : mg "enumerate" = none) (m_int : mg "int" = none) (m_tuple : mg "tuple" = none) : FnG P w K mg base L2.CX0 1 f fd ["words", "top", "stroke"] (liftP K mg sp_with_stroke) := by
  refine FnG.ofD (k := 0) F sc_with_stroke len_with_stroke b_with_stroke ok_with_stroke fun cdv A outer s H E B quiet room => ?_
  have nd := sc_with_stroke.nd
  exact (ds_cons (ds_asg (de_var (pv 2)) (dg_tup rfl (dgs_cons (dg_name (pg_name (i := 3) nd rfl (by first | exact Or.inl rfl | exact Or.inr rfl))) (dgs_cons (dg_name (pg_name (i := 4) nd rfl (by first | exact Or.inl rfl | exact Or.inr rfl))) dgs_nil))))
  (ds_last (ds_ret (de_fnT call_tupZ cs_tuple (by rfl) m_tuple (by decide +kernel) (daw_cons (dw (de_F (df_lc (own := [("at", 5), ("word", 6)]) (ns := [5, 6]) rfl nd (di_enumT (by rfl) m_enumerate (da_cons (de_var (pv 0)) da_nil)) (blkOk_by (by kernel_rfl)) (by decide) (fun _ _ _ _ _ _ => (dg_tup rfl (dgs_cons (dg_name (pg_name (i := 5) nd rfl (by first | exact Or.inl rfl | exact Or.inr rfl))) (dgs_cons (dg_name (pg_name (i := 6) nd rfl (by first | exact Or.inl rfl | exact Or.inr rfl))) dgs_nil)))) (fun _ _ _ _ _ => dts_nil) (fun _ _ _ _ _ => (de_op op_addA ops_add (dw_var (pv 6)) (dw (de_op op_mulA ops_mul (dw_var (pv 3)) (dw (de_fnT call_int1 cs_int (by rfl) m_int (by decide +kernel) (daw_cons (dw (de_chain op_le ops_le op_ltA ops_lt (dw_var (pv 1)) (dw_var (pv 5)) (dw (de_op op_addA ops_add (dw_var (pv 1)) (dw_var (pv 4)))))) daw_nil)))))))))) daw_nil)))))
abbrev s_is_stroke : Stmt := topS 6
theorem sc_is_stroke : FnScope ["value", "left"] ["value", "left"] (defScope s_is_stroke) := ⟨rfl, rfl, rfl, by decide +kernel, rfl, by decide +kernel, by decide +kernel⟩
theorem fn_is_stroke {f : Addr} {fd : FuncData} (F : Fun K "is_stroke" "is_stroke" s_is_stroke f fd) (m_isinstance : mg "isinstance" = none) (m_len : mg "len" = none) (m_tuple : mg "tuple" = none) (c_is_between : Cal P w K mg base L2.CX0 1 "is_between" sp_is_between) (c_is_letter : Cal P w K mg base L2.CX0 1 "is_letter" sp_is_letter) : FnG P w K mg base L2.CX0 2 f fd ["value", "left"] (liftP K mg sp_is_stroke) := by
  refine FnG.ofD (k := 1) F sc_is_stroke len_is_stroke b_is_stroke ok_is_stroke fun cdv A outer s H E B quiet room => ?_
  have nd := sc_is_stroke.nd
  exact (ds_cons (ds_if (DPW.dt (dpw_or (dt_not (dt_val (de_fnB call_isi cs_isi (by rfl) m_isinstance (by decide +kernel) (daw_cons (dw_var (pv 0)) (daw_cons (dw (de_tyN (by rfl) m_tuple (by decide +kernel))) daw_nil))))) (dpw_or1 (dt_cmp (op_neA room.units) ops_ne (dw (de_fnB call_lenA cs_len (by rfl) m_len (by decide +kernel) (daw_cons (dw_var (pv 0)) daw_nil))) (dw de_int) (nomark _)))))
  (ds_last (ds_ret de_bl))
  ds_nil)
  (ds_last (ds_ret (de_and (de_call c_is_letter quiet (room.mono (by decide)) (by rfl) (da_cons (de_ix (dw_var (pv 0)) (dw de_int) (fun _ _ => rfl)) da_nil)) (de_one (de_call c_is_between quiet (room.mono (by decide)) (by rfl) (da_cons (de_ix (dw_var (pv 0)) (dw de_int) (fun _ _ => rfl)) (da_cons de_int (da_cons (de_var (pv 1)) da_nil)))))))))
abbrev s_is_history : Stmt := topS 7
theorem sc_is_history : FnScope ["n", "value", "words", "top", "item", "word"] ["n", "value"] (defScope s_is_history) := ⟨rfl, rfl, rfl, by decide +kernel, rfl, by decide +kernel, by decide +kernel⟩
theorem fn_is_history {f : Addr} {fd : FuncData} (F : Fun K "is_history" "is_history" s_is_history f fd) (m_all : mg "all" = none) (m_isinstance : mg "isinstance" = none) (m_len : mg "len" = none) (m_tuple : mg "tuple" = none) {t_MAX_WORD : Tok} (g_MAX_WORD : mg "MAX_WORD" = some (.int 30 t_MAX_WORD)) (c_is_stroke : Cal P w K mg base L2.CX0 2 "is_stroke" sp_is_stroke) (c_with_stroke : Cal P w K mg base L2.CX0 1 "with_stroke" sp_with_stroke) : FnG P w K mg base L2.CX0 3 f fd ["n", "value"] (liftP K mg sp_is_history) := by
  refine FnG.ofD (k := 2) F sc_is_history len_is_history b_is_history ok_is_history fun cdv A outer s H E B quiet room => ?_
  have nd := sc_is_history.nd
  exact (ds_cons (ds_if (dt_not (dt_val (de_fnB call_isi cs_isi (by rfl) m_isinstance (by decide +kernel) (daw_cons (dw_var (pv 1)) (daw_cons (dw (de_tyN (by rfl) m_tuple (by decide +kernel))) daw_nil)))))
  (ds_last (ds_ret de_bl))
  ds_nil)
  (ds_cons (ds_par2 (by decide) (fun _ h => ps_par (i := 2) (j := 3) rfl nd rfl rfl (by decide) rfl rfl h (by rfl)) (dr_E (de_op op_mulA ops_mul (dw (de_tup (da_cons (de_str []) da_nil))) (dw_var (pv 0)))) (dr_E de_int))
  (ds_cons (ds_for PassesOwn.never rfl (di_each (de_var (pv 1))) (dg_name (pg_name (i := 4) nd rfl (by first | exact Or.inl rfl | exact Or.inr rfl)))
  (ds_cons (ds_if (dt_cmp op_isN ops_is (dw_var (pv 4)) (dw de_non) (nomark _))
  (ds_last (ds_setR (fun _ h => ps_set (i := 3) nd rfl (by first | exact Or.inl rfl | exact Or.inr rfl) h) (dr_E (de_op op_addA ops_add (dw_var (pv 3)) (dw de_int)))))
  (ds_last (ds_if (dt_val (de_call c_is_stroke quiet (room.mono (by decide)) (by rfl) (da_cons (de_var (pv 4)) (da_cons (de_op op_sub ops_sub (dw_var (pv 0)) (dw_var (pv 3))) da_nil))))
  (ds_last (ds_setR (fun _ h => ps_set (i := 2) nd rfl (by first | exact Or.inl rfl | exact Or.inr rfl) h) (dr_E (de_call c_with_stroke quiet (room.mono (by decide)) (by rfl) (da_cons (de_var (pv 2)) (da_cons (de_var (pv 3)) (da_cons (de_var (pv 4)) da_nil)))))))
  (ds_last (ds_ret de_bl)))))
  (ds_last (ds_if (DPW.dt (dpw_or (dt_cmp (op_eqA room.units) ops_eq (dw_var (pv 3)) (dw_var (pv 0)) (nomark _)) (dpw_or1 (dt_cmp op_gt ops_gt (dw (de_fnB call_lenA cs_len (by rfl) m_len (by decide +kernel) (daw_cons (dw (de_ix (dw_var (pv 2)) (dw_var (pv 3)) (fun _ _ => rfl))) daw_nil))) (dw (de_globI (by rfl) g_MAX_WORD)) (nomark _)))))
  (ds_last (ds_ret de_bl))
  ds_nil))))
  (ds_last (ds_ret (de_and (de_cmp (op_eqA room.units) ops_eq (dw_var (pv 3)) (dw (de_op op_sub ops_sub (dw_var (pv 0)) (dw de_int))) (nomark _)) (de_one (de_fnB (cr_all rfl) cs_all (by rfl) m_all (by decide +kernel) (daw_cons (dw (de_F (df_lc (own := [("word", 5)]) (ns := [5]) rfl nd (di_each (de_var (pv 2))) (blkOk_by (by kernel_rfl)) (by decide) (fun _ _ _ _ _ _ => (dg_name (pg_name (i := 5) nd rfl (by first | exact Or.inl rfl | exact Or.inr rfl)))) (fun _ _ _ _ _ => dts_nil) (fun _ _ _ _ _ => (de_cmp op_le ops_le (dw (de_fnB call_lenA cs_len (by rfl) m_len (by decide +kernel) (daw_cons (dw_var (pv 5)) daw_nil))) (dw (de_globI (by rfl) g_MAX_WORD)) (nomark _)))))) daw_nil)))))))))
abbrev s_written : Stmt := topS 8
theorem sc_written : FnScope ["n", "history", "words", "top", "item"] ["n", "history"] (defScope s_written) := ⟨rfl, rfl, rfl, by decide +kernel, rfl, by decide +kernel, by decide +kernel⟩
theorem fn_written {f : Addr} {fd : FuncData} (F : Fun K "written" "written" s_written f fd) (c_with_stroke : Cal P w K mg base L2.CX0 1 "with_stroke" sp_with_stroke) : FnG P w K mg base L2.CX0 2 f fd ["n", "history"] (liftP K mg sp_written) := by
  refine FnG.ofD (k := 1) F sc_written len_written b_written ok_written fun cdv A outer s H E B quiet room => ?_
  have nd := sc_written.nd
  exact (ds_cons (ds_par2 (by decide) (fun _ h => ps_par (i := 2) (j := 3) rfl nd rfl rfl (by decide) rfl rfl h (by rfl)) (dr_E (de_op op_mulA ops_mul (dw (de_tup (da_cons (de_str []) da_nil))) (dw_var (pv 0)))) (dr_E de_int))
  (ds_cons (ds_for PassesOwn.never rfl (di_each (de_var (pv 1))) (dg_name (pg_name (i := 4) nd rfl (by first | exact Or.inl rfl | exact Or.inr rfl)))
  (ds_last (ds_if (dt_cmp op_isN ops_is (dw_var (pv 4)) (dw de_non) (nomark _))
  (ds_last (ds_setR (fun _ h => ps_set (i := 3) nd rfl (by first | exact Or.inl rfl | exact Or.inr rfl) h) (dr_E (de_op op_addA ops_add (dw_var (pv 3)) (dw de_int)))))
  (ds_last (ds_setR (fun _ h => ps_set (i := 2) nd rfl (by first | exact Or.inl rfl | exact Or.inr rfl) h) (dr_E (de_call c_with_stroke quiet (room.mono (by decide)) (by rfl) (da_cons (de_var (pv 2)) (da_cons (de_var (pv 3)) (da_cons (de_var (pv 4)) da_nil))))))))))
  (ds_last (ds_retName (pv 2)))))
abbrev s_count_strokes : Stmt := topS 9
theorem sc_count_strokes : FnScope ["history", "item"] ["history"] (defScope s_count_strokes) := ⟨rfl, rfl, rfl, by decide +kernel, rfl, by decide +kernel, by decide +kernel⟩
theorem fn_count_strokes {f : Addr} {fd : FuncData} (F : Fun K "count_strokes" "count_strokes" s_count_strokes f fd) (m_len : mg "len" = none) : FnG P w K mg base L2.CX0 1 f fd ["history"] (liftP K mg sp_count_strokes) := by
  refine FnG.ofD (k := 0) F sc_count_strokes len_count_strokes b_count_strokes ok_count_strokes fun cdv A outer s H E B quiet room => ?_
  have nd := sc_count_strokes.nd
  exact (ds_last (ds_ret (de_fnB call_lenA cs_len (by rfl) m_len (by decide +kernel) (daw_cons (dw (de_F (df_lc (own := [("item", 1)]) (ns := [1]) rfl nd (di_each (de_var (pv 0))) (blkOk_by (by kernel_rfl)) (by decide) (fun _ _ _ _ _ _ => (dg_name (pg_name (i := 1) nd rfl (by first | exact Or.inl rfl | exact Or.inr rfl)))) (fun _ _ _ _ _ => (dts_one (dt_cmp op_notN ops_isnot (dw_var (pv 1)) (dw de_non) (nomark _)))) (fun _ _ _ _ _ => (de_var (pv 1)))))) daw_nil))))
abbrev s_law_deck : Stmt := topS 11
theorem sc_law_deck : FnScope ["_law_script", "_law_cells", "_law_cell"] ["_law_script"] (defScope s_law_deck) := ⟨rfl, rfl, rfl, by decide +kernel, rfl, by decide +kernel, by decide +kernel⟩
theorem fn_law_deck {f : Addr} {fd : FuncData} (F : Fun K "_law_deck" "_law_deck" s_law_deck f fd) (m_abs : mg "abs" = none) (m_len : mg "len" = none) : FnG P w K mg base L2.CX0 1 f fd ["_law_script"] (liftP K mg sp_law_deck) := by
  refine FnG.ofD (k := 0) F sc_law_deck len_law_deck b_law_deck ok_law_deck fun cdv A outer s H E B quiet room => ?_
  have nd := sc_law_deck.nd
  exact (ds_cons (ds_setLc (i := 1) (own := [("_law_cell", 2)]) (ns := [2]) rfl nd rfl rfl (sw_true rfl rfl rfl (by decide +kernel)) (di_each (de_var (pv 0))) (blkOk_by (by kernel_rfl)) (by decide) (fun _ _ _ _ _ _ => (dg_name (pg_name (i := 2) nd rfl (by first | exact Or.inl rfl | exact Or.inr rfl)))) (fun _ _ _ _ _ => dts_nil) (fun _ _ _ _ _ => (de_fnB call_abs cs_abs (by rfl) m_abs (by decide +kernel) (daw_cons (dw_var (pv 2)) daw_nil))) (hr := fun _ _ _ _ _ q => lr_val q))
  (ds_last (ds_ret (de_M (df_lst (da_cons (de_M (df_lc (own := [("_law_cell", 2)]) (ns := [2]) rfl nd (di_each (de_var (pv 1))) (blkOk_by (by kernel_rfl)) (by decide) (fun _ _ _ _ _ _ => (dg_name (pg_name (i := 2) nd rfl (by first | exact Or.inl rfl | exact Or.inr rfl)))) (fun _ _ _ _ _ => (dts_one (dt_cmp op_ge ops_ge (dw_var (pv 2)) (dw (de_op op_pow ops_pow (dw de_int) (dw de_int))) (nomark _)))) (fun _ _ _ _ _ => (de_var (pv 2))))) (da_cons (de_op op_addA ops_add (dw_var (pv 1)) (dw (de_lst (da_cons (de_op op_addA ops_add (dw (de_fnB call_lenA cs_len (by rfl) m_len (by decide +kernel) (daw_cons (dw_var (pv 1)) daw_nil))) (dw de_int)) da_nil)))) (da_cons de_int da_nil))))))))
abbrev s_law_draw : Stmt := topS 12
theorem sc_law_draw : FnScope ["_law_deck_here", "_law_below", "_law_rest", "_law_cell", "_law_mixed"] ["_law_deck_here", "_law_below"] (defScope s_law_draw) := ⟨rfl, rfl, rfl, by decide +kernel, rfl, by decide +kernel, by decide +kernel⟩
theorem fn_law_draw {f : Addr} {fd : FuncData} (F : Fun K "_law_draw" "_law_draw" s_law_draw f fd) (m_len : mg "len" = none) : FnG P w K mg base L2.CX0 1 f fd ["_law_deck_here", "_law_below"] (liftP K mg sp_law_draw) := by
  refine FnG.ofD (k := 0) F sc_law_draw len_law_draw b_law_draw ok_law_draw fun cdv A outer s H E B quiet room => ?_
  have nd := sc_law_draw.nd
  exact (ds_cons (ds_while PassesOwn.never (dt_cmp (op_neA room.units) ops_neR (dw (de_ix (dw_var (pv 0)) (dw de_int) (fun _ _ => rfl))) (dw (de_lst da_nil)) (nomark _))
  (ds_cons (ds_setR (fun _ h => ps_set (i := 2) nd rfl (by first | exact Or.inl rfl | exact Or.inr rfl) h) (dr_E (de_ix (dw (de_ix (dw_var (pv 0)) (dw de_int) (fun _ _ => rfl))) (dw de_int) (fun _ _ => rfl))))
  (ds_cons (ds_if (dt_cmp op_gt ops_gt (dw_var (pv 2)) (dw de_int) (nomark _))
  (ds_cons (ds_putM (de_op op_divA ops_div (dw_var (pv 2)) (dw_var (pv 1))) (de_ix (dw_var (pv 0)) (dw de_int) (fun _ _ => rfl)) (dw de_int))
  (ds_last (ds_ret (de_op op_mod ops_mod (dw_var (pv 2)) (dw_var (pv 1))))))
  ds_nil)
  (ds_last (ds_expr (de_mt PySem.F.plainAttrs_list PySem.F.slot_list_pop PySem.F.type_list_pop mt_popAt mts_popAt (dw (de_ix (dw_var (pv 0)) (dw de_int) (fun _ _ => rfl))) (daw_cons (dw de_int) daw_nil)))))))
  (ds_cons (ds_putM (de_op op_addA ops_add (dw (de_ix (dw_var (pv 0)) (dw de_int) (fun _ _ => rfl))) (dw de_int)) (de_var (pv 0)) (dw de_int))
  (ds_cons (ds_setR (fun _ h => ps_set (i := 3) nd rfl (by first | exact Or.inl rfl | exact Or.inr rfl) h) (dr_E (de_op op_mod ops_mod (dw (de_ix (dw (de_ix (dw_var (pv 0)) (dw de_int) (fun _ _ => rfl))) (dw (de_op op_mod ops_mod (dw (de_ix (dw_var (pv 0)) (dw de_int) (fun _ _ => rfl))) (dw (de_fnB call_lenA cs_len (by rfl) m_len (by decide +kernel) (daw_cons (dw (de_ix (dw_var (pv 0)) (dw de_int) (fun _ _ => rfl))) daw_nil))))) (fun _ _ => rfl))) (dw de_int))))
  (ds_cons (ds_setR (fun _ h => ps_set (i := 4) nd rfl (by first | exact Or.inl rfl | exact Or.inr rfl) h) (dr_E (de_op op_addA ops_add (dw (de_op op_mulA ops_mul (dw_var (pv 3)) (dw (de_op op_addA ops_add (dw de_int) (dw (de_op op_mulA ops_mul (dw de_int) (dw (de_ix (dw_var (pv 0)) (dw de_int) (fun _ _ => rfl))))))))) (dw de_int))))
  (ds_cons (ds_setR (fun _ h => ps_set (i := 4) nd rfl (by first | exact Or.inl rfl | exact Or.inr rfl) h) (dr_E (de_op op_mod ops_mod (dw (de_op op_addA ops_add (dw_var (pv 4)) (dw (de_op op_mulA ops_mul (dw (de_op op_mulA ops_mul (dw de_int) (dw (de_ix (dw_var (pv 0)) (dw de_int) (fun _ _ => rfl))))) (dw (de_ix (dw_var (pv 0)) (dw de_int) (fun _ _ => rfl))))))) (dw de_int))))
  (ds_last (ds_ret (de_op op_mod ops_mod (dw (de_op op_divA ops_div (dw (de_op op_mod ops_mod (dw (de_op op_mulA ops_mul (dw_var (pv 4)) (dw_var (pv 4)))) (dw de_int))) (dw de_int))) (dw_var (pv 1))))))))))
abbrev s_law_historyT : Stmt := topS 13
theorem sc_law_historyT : FnScope ["_law_deck_here", "_law_n", "_law_most", "_law_found", "_law_left", "_law_k"] ["_law_deck_here", "_law_n", "_law_most"] (defScope s_law_historyT) := ⟨rfl, rfl, rfl, by decide +kernel, rfl, by decide +kernel, by decide +kernel⟩
theorem fn_law_historyT {f : Addr} {fd : FuncData} (F : Fun K "_law_history" "_law_history" s_law_historyT f fd) (hb : Binds K fd ["_law_deck_here", "_law_n", "_law_most"] []) (m_range : mg "range" = none) (m_tuple : mg "tuple" = none) (c_law_draw : Cal P w K mg base L2.CX0 1 "_law_draw" sp_law_draw) : FRK P w K mg base 2 f sp_law_historyT := by
  refine FRK.of (k := 1) F sc_law_historyT len_law_historyT hb b_law_historyT ok_law_historyT fun cdv A outer s H E B quiet room => ?_
  have nd := sc_law_historyT.nd
  exact (ks_cons (ks_of (ds_par2 (by decide) (fun _ h => ps_par (i := 3) (j := 4) rfl nd rfl rfl (by decide) rfl rfl h (by rfl)) (dr_F (df_lst da_nil)) (dr_E (de_var (pv 1)))))
  (ks_cons (ks_for PassesOwn.never rfl (di_rng1 (by rfl) m_range (da_cons (de_call c_law_draw quiet (room.mono (by decide)) (by rfl) (da_cons (de_var (pv 0)) (da_cons (de_op op_addA ops_add (dw_var (pv 2)) (dw de_int)) da_nil))) da_nil)) (dg_name (pg_name (i := 5) nd rfl (by first | exact Or.inl rfl | exact Or.inr rfl)))
  (ks_cons (ks_of (ds_if (DPW.dt (dpw_and (dt_cmp op_gt ops_gt (dw_var (pv 4)) (dw de_int) (nomark _)) (dpw_and1 (dt_cmp (op_eqA room.units) ops_eq (dw (de_call c_law_draw quiet (room.mono (by decide)) (by rfl) (da_cons (de_var (pv 0)) (da_cons de_int da_nil)))) (dw de_int) (nomark _)))))
  (ds_cons (ds_app (fun _ h => ps_expr (pe_bm PySem.F.plainAttrs_list PySem.F.slot_list_append PySem.F.type_list_append mt_append (pv 3) h)) de_non)
  (ds_last (ds_setR (fun _ h => ps_set (i := 4) nd rfl (by first | exact Or.inl rfl | exact Or.inr rfl) h) (dr_E (de_op op_sub ops_sub (dw_var (pv 4)) (dw de_int))))))
  ds_nil))
  (ks_last (ks_appTk (pv 3) (de_call c_law_draw quiet (room.mono (by decide)) (by rfl) (da_cons (de_var (pv 0)) (da_cons de_int da_nil))) (de_op op_addA ops_add (dw de_int) (dw (de_call c_law_draw quiet (room.mono (by decide)) (by rfl) (da_cons (de_var (pv 0)) (da_cons (de_var (pv 4)) da_nil))))) (fun _ _ => rfl) [97, 98, 99, 122]))))
  (kss_of (ds_last (ds_ret (de_fnT call_tupZ cs_tuple (by rfl) m_tuple (by decide +kernel) (daw_cons (dw (de_op op_addA ops_add (dw_var (pv 3)) (dw (de_op op_mulA ops_mul (dw (de_lst (da_cons de_non da_nil))) (dw (de_op op_sub ops_sub (dw_var (pv 4)) (dw de_int))))))) daw_nil)))))))
abbrev s_law_pick : Stmt := topS 14
theorem sc_law_pick : FnScope ["_law_deck_here", "_law_items"] ["_law_deck_here", "_law_items"] (defScope s_law_pick) := ⟨rfl, rfl, rfl, by decide +kernel, rfl, by decide +kernel, by decide +kernel⟩
theorem fn_law_pick {f : Addr} {fd : FuncData} (F : Fun K "_law_pick" "_law_pick" s_law_pick f fd) (m_len : mg "len" = none) (c_law_draw : Cal P w K mg base L2.CX0 1 "_law_draw" sp_law_draw) : FnG P w K mg base L2.CX0 2 f fd ["_law_deck_here", "_law_items"] (liftP K mg sp_law_pick) := by
  refine FnG.ofD (k := 1) F sc_law_pick len_law_pick b_law_pick ok_law_pick fun cdv A outer s H E B quiet room => ?_
  have nd := sc_law_pick.nd
  exact (ds_last (ds_ret (de_ix (dw_var (pv 1)) (dw (de_call c_law_draw quiet (room.mono (by decide)) (by rfl) (da_cons (de_var (pv 0)) (da_cons (de_fnB call_lenA cs_len (by rfl) m_len (by decide +kernel) (daw_cons (dw_var (pv 1)) daw_nil)) da_nil)))) (fun _ _ => rfl))))
abbrev s_law_tops : Stmt := topS 15
theorem sc_law_tops : FnScope ["_law_history_here", "_law_top", "_law_found", "_law_item"] ["_law_history_here"] (defScope s_law_tops) := ⟨rfl, rfl, rfl, by decide +kernel, rfl, by decide +kernel, by decide +kernel⟩
theorem fn_law_tops {f : Addr} {fd : FuncData} (F : Fun K "_law_tops" "_law_tops" s_law_tops f fd) (m_int : mg "int" = none) : FnG P w K mg base L2.CX0 1 f fd ["_law_history_here"] (liftP K mg sp_law_tops) := by
  refine FnG.ofD (k := 0) F sc_law_tops len_law_tops b_law_tops ok_law_tops fun cdv A outer s H E B quiet room => ?_
  have nd := sc_law_tops.nd
  exact (ds_cons (ds_par2 (by decide) (fun _ h => ps_par (i := 1) (j := 2) rfl nd rfl rfl (by decide) rfl rfl h (by rfl)) (dr_E de_int) (dr_F (df_lst da_nil)))
  (ds_cons (ds_for PassesOwn.never rfl (di_each (de_var (pv 0))) (dg_name (pg_name (i := 3) nd rfl (by first | exact Or.inl rfl | exact Or.inr rfl)))
  (ds_cons (ds_app (fun _ h => ps_expr (pe_bm PySem.F.plainAttrs_list PySem.F.slot_list_append PySem.F.type_list_append mt_append (pv 2) h)) (de_var (pv 1)))
  (ds_last (ds_setR (fun _ h => ps_set (i := 1) nd rfl (by first | exact Or.inl rfl | exact Or.inr rfl) h) (dr_E (de_op op_addA ops_add (dw_var (pv 1)) (dw (de_fnT call_int1 cs_int (by rfl) m_int (by decide +kernel) (daw_cons (dw (de_cmp op_isN ops_is (dw_var (pv 3)) (dw de_non) (nomark _))) daw_nil)))))))))
  (ds_last (ds_retName (pv 2)))))
abbrev s_law : Stmt := topS 16
theorem sc_law : FnScope ["_law_script", "_law_deck_here", "_law_turn", "_law_n", "_law_now", "_law_words", "_law_strokes", "_law_sign", "_law_due", "_law_places", "_law_at", "_law_top", "_law_force", "_law_other", "_law_found", "_law_item", "_law_word", "_law_letter", "_law_k"] ["_law_script"] (defScope s_law) := ⟨rfl, rfl, rfl, by decide +kernel, rfl, by decide +kernel, by decide +kernel⟩
theorem fn_law {f : Addr} {fd : FuncData} (F : Fun K "law" "law" s_law f fd) (m_int : mg "int" = none) (m_len : mg "len" = none) (m_list : mg "list" = none) (m_range : mg "range" = none) (m_sum : mg "sum" = none) (c_law_deck : Cal P w K mg base L2.CX0 1 "_law_deck" sp_law_deck) (c_law_draw : Cal P w K mg base L2.CX0 1 "_law_draw" sp_law_draw) (c_law_historyT : CalK P w K mg base 2 "_law_history" sp_law_historyT) (c_law_pick : Cal P w K mg base L2.CX0 2 "_law_pick" sp_law_pick) (c_law_tops : Cal P w K mg base L2.CX0 1 "_law_tops" sp_law_tops) (c_count_strokes : Cal P w K mg base L2.CX0 1 "count_strokes" sp_count_strokes) (c_is_history : Cal P w K mg base L2.CX0 3 "is_history" sp_is_history) (c_written : Cal P w K mg base L2.CX0 2 "written" sp_written) : FnG P w K mg base L2.CX0 4 f fd ["_law_script"] (liftP K mg sp_law) := by
  refine FnG.ofD (k := 3) F sc_law len_law b_law ok_law fun cdv A outer s H E B quiet room => ?_
  have nd := sc_law.nd
  exact (ds_cons (ds_setR (fun _ h => ps_set (i := 1) nd rfl (by first | exact Or.inl rfl | exact Or.inr rfl) h) (dr_E (de_call c_law_deck quiet (room.mono (by decide)) (by rfl) (da_cons (de_var (pv 0)) da_nil))))
  (ds_cons (ds_for PassesOwn.never rfl (di_rng1 (by rfl) m_range (da_cons de_int da_nil)) (dg_name (pg_name (i := 2) nd rfl (by first | exact Or.inl rfl | exact Or.inr rfl)))
  (ds_cons (ds_setR (fun _ h => ps_set (i := 3) nd rfl (by first | exact Or.inl rfl | exact Or.inr rfl) h) (dr_E (de_op op_addA ops_add (dw de_int) (dw (de_call c_law_draw quiet (room.mono (by decide)) (by rfl) (da_cons (de_var (pv 1)) (da_cons de_int da_nil)))))))
  (dss_out (ks_cons (ks_setCall (i := 4) nd rfl (by first | exact Or.inl rfl | exact Or.inr rfl) c_law_historyT quiet (room.mono (by decide)) (by rfl) (da_cons (de_var (pv 1)) (da_cons (de_var (pv 3)) (da_cons (de_ix (dw (de_lst (da_cons de_int (da_cons de_int da_nil)))) (dw (de_op op_mod ops_mod (dw_var (pv 2)) (dw de_int))) (fun _ _ => rfl)) da_nil))))
  (ks_cons (ks_of (ds_par2 (by decide) (fun _ h => ps_par (i := 5) (j := 6) rfl nd rfl rfl (by decide) rfl rfl h (by rfl)) (dr_E (de_call c_written quiet (room.mono (by decide)) (by rfl) (da_cons (de_var (pv 3)) (da_cons (de_wk (de_var (pv 4))) da_nil)))) (dr_E (de_F (df_lc (own := [("_law_item", 15)]) (ns := [15]) rfl nd (di_each (de_wk (de_var (pv 4)))) (blkOk_by (by kernel_rfl)) (by decide) (fun _ _ _ _ _ _ => (dg_name (pg_name (i := 15) nd rfl (by first | exact Or.inl rfl | exact Or.inr rfl)))) (fun _ _ _ _ _ => (dts_one (dt_cmp op_notN ops_isnot (dw_var (pv 15)) (dw de_non) (nomark _)))) (fun _ _ _ _ _ => (de_var (pv 15))))))))
  (ks_cons (ks_of (ds_if (dt_cmp (op_neA room.units) ops_ne (dw (de_fnB (cr_sum rfl) cs_sum (by rfl) m_sum (by decide +kernel) (daw_cons (dw (de_F (df_lc (own := [("_law_word", 16)]) (ns := [16]) rfl nd (di_each (de_var (pv 5))) (blkOk_by (by kernel_rfl)) (by decide) (fun _ _ _ _ _ _ => (dg_name (pg_name (i := 16) nd rfl (by first | exact Or.inl rfl | exact Or.inr rfl)))) (fun _ _ _ _ _ => dts_nil) (fun _ _ _ _ _ => (de_fnB call_lenA cs_len (by rfl) m_len (by decide +kernel) (daw_cons (dw_var (pv 16)) daw_nil)))))) daw_nil))) (dw (de_fnB (cr_sum rfl) cs_sum (by rfl) m_sum (by decide +kernel) (daw_cons (dw (de_F (df_lc (own := [("_law_letter", 17), ("_law_force", 12)]) (ns := [17, 12]) rfl nd (di_each (de_var (pv 6))) (blkOk_by (by kernel_rfl)) (by decide) (fun _ _ _ _ _ _ => (dg_tup rfl (dgs_cons (dg_name (pg_name (i := 17) nd rfl (by first | exact Or.inl rfl | exact Or.inr rfl))) (dgs_cons (dg_name (pg_name (i := 12) nd rfl (by first | exact Or.inl rfl | exact Or.inr rfl))) dgs_nil)))) (fun _ _ _ _ _ => dts_nil) (fun _ _ _ _ _ => (de_var (pv 12)))))) daw_nil))) (nomark _))
  (ds_last (ds_ret de_bl))
  ds_nil))
  (ks_cons (ks_of (ds_for PassesOwn.never rfl (di_each (de_str [97, 98, 99, 122])) (dg_name (pg_name (i := 7) nd rfl (by first | exact Or.inl rfl | exact Or.inr rfl)))
  (ds_cons (ds_setR (fun _ h => ps_set (i := 8) nd rfl (by first | exact Or.inl rfl | exact Or.inr rfl) h) (dr_E (de_fnB (cr_sum rfl) cs_sum (by rfl) m_sum (by decide +kernel) (daw_cons (dw (de_F (df_lc (own := [("_law_letter", 17), ("_law_force", 12)]) (ns := [17, 12]) rfl nd (di_each (de_var (pv 6))) (blkOk_by (by kernel_rfl)) (by decide) (fun _ _ _ _ _ _ => (dg_tup rfl (dgs_cons (dg_name (pg_name (i := 17) nd rfl (by first | exact Or.inl rfl | exact Or.inr rfl))) (dgs_cons (dg_name (pg_name (i := 12) nd rfl (by first | exact Or.inl rfl | exact Or.inr rfl))) dgs_nil)))) (fun _ _ _ _ _ => (dts_one (dt_cmp (op_eqA room.units) ops_eq (dw_var (pv 17)) (dw_var (pv 7)) (nomark _)))) (fun _ _ _ _ _ => (de_var (pv 12)))))) daw_nil))))
  (ds_last (ds_if (dt_cmp (op_neA room.units) ops_ne (dw (de_fnB (cr_sum rfl) cs_sum (by rfl) m_sum (by decide +kernel) (daw_cons (dw (de_F (df_lc (own := [("_law_word", 16)]) (ns := [16]) rfl nd (di_each (de_var (pv 5))) (blkOk_by (by kernel_rfl)) (by decide) (fun _ _ _ _ _ _ => (dg_name (pg_name (i := 16) nd rfl (by first | exact Or.inl rfl | exact Or.inr rfl)))) (fun _ _ _ _ _ => dts_nil) (fun _ _ _ _ _ => (de_mt PySem.F.plainAttrs_str PySem.F.slot_str_count PySem.F.type_str_count mt_count ms_countS (dw_var (pv 16)) (daw_cons (dw_var (pv 7)) daw_nil)))))) daw_nil))) (dw_var (pv 8)) (nomark _))
  (ds_last (ds_ret de_bl))
  ds_nil)))))
  (ks_cons (ks_of (ds_setLc (i := 9) (own := [("_law_k", 18)]) (ns := [18]) rfl nd rfl rfl (sw_true rfl rfl rfl (by decide +kernel)) (di_rng1 (by rfl) m_range (da_cons (de_fnB call_lenA cs_len (by rfl) m_len (by decide +kernel) (daw_cons (dw (de_wk (de_var (pv 4)))) daw_nil)) da_nil)) (blkOk_by (by kernel_rfl)) (by decide) (fun _ _ _ _ _ _ => (dg_name (pg_name (i := 18) nd rfl (by first | exact Or.inl rfl | exact Or.inr rfl)))) (fun _ _ _ _ _ => (dts_one (dt_cmp op_notN ops_isnot (dw (de_ix (dw (de_wk (de_var (pv 4)))) (dw_var (pv 18)) (fun _ _ => rfl))) (dw de_non) (nomark _)))) (fun _ _ _ _ _ => (de_var (pv 18))) (hr := fun _ _ _ _ _ q => lr_val q)))
  (ks_cons (ks_of (ds_if (dt_cmp (op_neA room.units) ops_ne (dw (de_call c_count_strokes quiet (room.mono (by decide)) (by rfl) (da_cons (de_wk (de_var (pv 4))) da_nil))) (dw (de_fnB call_lenA cs_len (by rfl) m_len (by decide +kernel) (daw_cons (dw_var (pv 9)) daw_nil))) (nomark _))
  (ds_last (ds_ret de_bl))
  ds_nil))
  (ks_last (ks_if (dt_cmp (op_neA room.units) ops_ne (dw_var (pv 9)) (dw (de_lst da_nil)) (nomark _))
  (ks_cons (ks_of (ds_setR (fun _ h => ps_set (i := 10) nd rfl (by first | exact Or.inl rfl | exact Or.inr rfl) h) (dr_E (de_call c_law_pick quiet (room.mono (by decide)) (by rfl) (da_cons (de_var (pv 1)) (da_cons (de_var (pv 9)) da_nil))))))
  (ks_cons (ks_of (ds_asg (de_tup (da_cons (de_ix (dw (de_call c_law_tops quiet (room.mono (by decide)) (by rfl) (da_cons (de_wk (de_var (pv 4))) da_nil))) (dw_var (pv 10)) (fun _ _ => rfl)) (da_cons (de_ix (dw (de_ix (dw (de_wk (de_var (pv 4)))) (dw_var (pv 10)) (fun _ _ => rfl))) (dw de_int) (fun _ _ => rfl)) da_nil))) (dg_tup rfl (dgs_cons (dg_name (pg_name (i := 11) nd rfl (by first | exact Or.inl rfl | exact Or.inr rfl))) (dgs_cons (dg_name (pg_name (i := 12) nd rfl (by first | exact Or.inl rfl | exact Or.inr rfl))) dgs_nil)))))
  (ks_cons (ks_of (ds_setR (fun _ h => ps_set (i := 13) nd rfl (by first | exact Or.inl rfl | exact Or.inr rfl) h) (dr_E (de_op op_addA ops_add (dw (de_op op_addA ops_add (dw (de_slice (dw (de_wk (de_var (pv 4)))) do_none (do_some (de_var (pv 10))))) (dw (de_tup (da_cons (de_tup (da_cons (de_str [113]) (da_cons (de_var (pv 12)) da_nil))) da_nil))))) (dw (de_slice (dw (de_wk (de_var (pv 4)))) (do_some (de_op op_addA ops_add (dw_var (pv 10)) (dw de_int))) do_none))))))
  (ks_cons (ks_of (ds_setR (fun _ h => ps_set (i := 14) nd rfl (by first | exact Or.inl rfl | exact Or.inr rfl) h) (dr_E (de_call c_written quiet (room.mono (by decide)) (by rfl) (da_cons (de_var (pv 3)) (da_cons (de_var (pv 13)) da_nil))))))
  (ks_cons (ks_of (ds_setLc (i := 8) (own := [("_law_k", 18)]) (ns := [18]) rfl nd rfl rfl (sw_true rfl rfl rfl (by decide +kernel)) (di_rng1 (by rfl) m_range (da_cons (de_var (pv 3)) da_nil)) (blkOk_by (by kernel_rfl)) (by decide) (fun _ _ _ _ _ _ => (dg_name (pg_name (i := 18) nd rfl (by first | exact Or.inl rfl | exact Or.inr rfl)))) (fun _ _ _ _ _ => dts_nil) (fun _ _ _ _ _ => (de_fnT call_int1 cs_int (by rfl) m_int (by decide +kernel) (daw_cons (dw (de_chain op_le ops_le op_ltA ops_lt (dw_var (pv 11)) (dw_var (pv 18)) (dw (de_op op_addA ops_add (dw_var (pv 11)) (dw_var (pv 12)))))) daw_nil))) (hr := fun _ _ _ _ _ q => lr_val q)))
  (ks_cons (ks_of (ds_if (DPW.dt (dpw_or (dt_not (dt_val (de_call c_is_history quiet (room.mono (by decide)) (by rfl) (da_cons (de_var (pv 3)) (da_cons (de_var (pv 13)) da_nil))))) (dpw_or1 (dt_cmp (op_neA room.units) ops_ne (dw (de_F (df_lc (own := [("_law_word", 16)]) (ns := [16]) rfl nd (di_each (de_var (pv 14))) (blkOk_by (by kernel_rfl)) (by decide) (fun _ _ _ _ _ _ => (dg_name (pg_name (i := 16) nd rfl (by first | exact Or.inl rfl | exact Or.inr rfl)))) (fun _ _ _ _ _ => dts_nil) (fun _ _ _ _ _ => (de_mt PySem.F.plainAttrs_str PySem.F.slot_str_count PySem.F.type_str_count mt_count ms_countS (dw_var (pv 16)) (daw_cons (dw (de_str [113])) daw_nil)))))) (dw_var (pv 8)) (nomark _)))))
  (ds_last (ds_ret de_bl))
  ds_nil))
  (ks_last (ks_ifN (fun n => dtn_cmp (op_neA room.units) ops_ne (den_F (dfn_lc (own := [("_law_word", 16)]) (ns := [16]) rfl nd (di_each (de_var (pv 14))) (blkOk_by (by kernel_rfl)) (by decide) (fun _ _ _ _ _ _ => (dg_name (pg_name (i := 16) nd rfl (by first | exact Or.inl rfl | exact Or.inr rfl)))) (fun _ _ _ _ _ => den_repl (de_var (pv 16)) (de_ix (dw_var (pv 4)) (dw_var (pv 10)) (fun _ _ => rfl)) (fun _ _ => rfl) [113]))) (dw (de_fnT call_list_of cs_list (by rfl) m_list (by decide +kernel) (daw_cons (dw_var (pv 5)) daw_nil))) (nomark _))
  (kss_of (ds_last (ds_ret de_bl)))
  ks_nil))))))))
  ks_nil)))))))))))
  (ds_last (ds_ret de_bl))))
end
theorem all_mk {P : Program} {w : World} {K : PySem.W.Frag} {h : Heap} {mg : Str → Option Value} {fa : Addr} (X : K.In h) (G : h.Ns mainGlobals mg) (hfa : mg "law" = some (.ref fa))
    {f0 : Addr} {od0 an0 : Option Addr} {sl0 : Array (Option Value)} {oc0 kV0 dc0 pm0 cd0 ct0 : Value}
    {f1 : Addr} {od1 an1 : Option Addr} {sl1 : Array (Option Value)} {oc1 kV1 dc1 pm1 cd1 ct1 : Value}
    {f2 : Addr} {od2 an2 : Option Addr} {sl2 : Array (Option Value)} {oc2 kV2 dc2 pm2 cd2 ct2 : Value}
    {f3 : Addr} {od3 an3 : Option Addr} {sl3 : Array (Option Value)} {oc3 kV3 dc3 pm3 cd3 ct3 : Value}
    {f4 : Addr} {od4 an4 : Option Addr} {sl4 : Array (Option Value)} {oc4 kV4 dc4 pm4 cd4 ct4 : Value}
    {f5 : Addr} {od5 an5 : Option Addr} {sl5 : Array (Option Value)} {oc5 kV5 dc5 pm5 cd5 ct5 : Value}
    {f6 : Addr} {od6 an6 : Option Addr} {sl6 : Array (Option Value)} {oc6 kV6 dc6 pm6 cd6 ct6 : Value}
    {f7 : Addr} {od7 an7 : Option Addr} {sl7 : Array (Option Value)} {oc7 kV7 dc7 pm7 cd7 ct7 : Value}
    {f8 : Addr} {od8 an8 : Option Addr} {sl8 : Array (Option Value)} {oc8 kV8 dc8 pm8 cd8 ct8 : Value}
    {f9 : Addr} {od9 an9 : Option Addr} {sl9 : Array (Option Value)} {oc9 kV9 dc9 pm9 cd9 ct9 : Value}
    {f10 : Addr} {od10 an10 : Option Addr} {sl10 : Array (Option Value)} {oc10 kV10 dc10 pm10 cd10 ct10 : Value}
    {f11 : Addr} {od11 an11 : Option Addr} {sl11 : Array (Option Value)} {oc11 kV11 dc11 pm11 cd11 ct11 : Value}
    {f12 : Addr} {od12 an12 : Option Addr} {sl12 : Array (Option Value)} {oc12 kV12 dc12 pm12 cd12 ct12 : Value}
    {t_LETTERS : Tok}
    {t_MAX_WORD : Tok}
    (a0 : PySem.W.nsIn K mainGlobals "is_between" = some (some (.ref f0))) (l0 : K.lookup f0 = some ⟨oc0, od0, .func (PySem.W.fnOf "is_between" "is_between" (defArgs s_is_between) (defBody s_is_between) (defScope s_is_between) .none kV0 dc0 pm0 an0 cd0 ct0), sl0⟩) (c0 : PySem.W.codeIn K cd0 "is_between" = true) (k0 : PySem.W.keepIn K (.ref f0) = true)
    (a1 : PySem.W.nsIn K mainGlobals "is_letter" = some (some (.ref f1))) (l1 : K.lookup f1 = some ⟨oc1, od1, .func (PySem.W.fnOf "is_letter" "is_letter" (defArgs s_is_letter) (defBody s_is_letter) (defScope s_is_letter) .none kV1 dc1 pm1 an1 cd1 ct1), sl1⟩) (c1 : PySem.W.codeIn K cd1 "is_letter" = true) (k1 : PySem.W.keepIn K (.ref f1) = true)
    (a2 : PySem.W.nsIn K mainGlobals "with_stroke" = some (some (.ref f2))) (l2 : K.lookup f2 = some ⟨oc2, od2, .func (PySem.W.fnOf "with_stroke" "with_stroke" (defArgs s_with_stroke) (defBody s_with_stroke) (defScope s_with_stroke) .none kV2 dc2 pm2 an2 cd2 ct2), sl2⟩) (c2 : PySem.W.codeIn K cd2 "with_stroke" = true) (k2 : PySem.W.keepIn K (.ref f2) = true)
    (a3 : PySem.W.nsIn K mainGlobals "is_stroke" = some (some (.ref f3))) (l3 : K.lookup f3 = some ⟨oc3, od3, .func (PySem.W.fnOf "is_stroke" "is_stroke" (defArgs s_is_stroke) (defBody s_is_stroke) (defScope s_is_stroke) .none kV3 dc3 pm3 an3 cd3 ct3), sl3⟩) (c3 : PySem.W.codeIn K cd3 "is_stroke" = true) (k3 : PySem.W.keepIn K (.ref f3) = true)
    (a4 : PySem.W.nsIn K mainGlobals "is_history" = some (some (.ref f4))) (l4 : K.lookup f4 = some ⟨oc4, od4, .func (PySem.W.fnOf "is_history" "is_history" (defArgs s_is_history) (defBody s_is_history) (defScope s_is_history) .none kV4 dc4 pm4 an4 cd4 ct4), sl4⟩) (c4 : PySem.W.codeIn K cd4 "is_history" = true) (k4 : PySem.W.keepIn K (.ref f4) = true)
    (a5 : PySem.W.nsIn K mainGlobals "written" = some (some (.ref f5))) (l5 : K.lookup f5 = some ⟨oc5, od5, .func (PySem.W.fnOf "written" "written" (defArgs s_written) (defBody s_written) (defScope s_written) .none kV5 dc5 pm5 an5 cd5 ct5), sl5⟩) (c5 : PySem.W.codeIn K cd5 "written" = true) (k5 : PySem.W.keepIn K (.ref f5) = true)
    (a6 : PySem.W.nsIn K mainGlobals "count_strokes" = some (some (.ref f6))) (l6 : K.lookup f6 = some ⟨oc6, od6, .func (PySem.W.fnOf "count_strokes" "count_strokes" (defArgs s_count_strokes) (defBody s_count_strokes) (defScope s_count_strokes) .none kV6 dc6 pm6 an6 cd6 ct6), sl6⟩) (c6 : PySem.W.codeIn K cd6 "count_strokes" = true) (k6 : PySem.W.keepIn K (.ref f6) = true)
    (a7 : PySem.W.nsIn K mainGlobals "_law_deck" = some (some (.ref f7))) (l7 : K.lookup f7 = some ⟨oc7, od7, .func (PySem.W.fnOf "_law_deck" "_law_deck" (defArgs s_law_deck) (defBody s_law_deck) (defScope s_law_deck) .none kV7 dc7 pm7 an7 cd7 ct7), sl7⟩) (c7 : PySem.W.codeIn K cd7 "_law_deck" = true) (k7 : PySem.W.keepIn K (.ref f7) = true)
    (a8 : PySem.W.nsIn K mainGlobals "_law_draw" = some (some (.ref f8))) (l8 : K.lookup f8 = some ⟨oc8, od8, .func (PySem.W.fnOf "_law_draw" "_law_draw" (defArgs s_law_draw) (defBody s_law_draw) (defScope s_law_draw) .none kV8 dc8 pm8 an8 cd8 ct8), sl8⟩) (c8 : PySem.W.codeIn K cd8 "_law_draw" = true) (k8 : PySem.W.keepIn K (.ref f8) = true)
    (a9 : PySem.W.nsIn K mainGlobals "_law_history" = some (some (.ref f9))) (l9 : K.lookup f9 = some ⟨oc9, od9, .func (PySem.W.fnOf "_law_history" "_law_history" (defArgs s_law_historyT) (defBody s_law_historyT) (defScope s_law_historyT) .none kV9 dc9 pm9 an9 cd9 ct9), sl9⟩) (c9 : PySem.W.codeIn K cd9 "_law_history" = true) (k9 : PySem.W.keepIn K (.ref f9) = true)
    (a10 : PySem.W.nsIn K mainGlobals "_law_pick" = some (some (.ref f10))) (l10 : K.lookup f10 = some ⟨oc10, od10, .func (PySem.W.fnOf "_law_pick" "_law_pick" (defArgs s_law_pick) (defBody s_law_pick) (defScope s_law_pick) .none kV10 dc10 pm10 an10 cd10 ct10), sl10⟩) (c10 : PySem.W.codeIn K cd10 "_law_pick" = true) (k10 : PySem.W.keepIn K (.ref f10) = true)
    (a11 : PySem.W.nsIn K mainGlobals "_law_tops" = some (some (.ref f11))) (l11 : K.lookup f11 = some ⟨oc11, od11, .func (PySem.W.fnOf "_law_tops" "_law_tops" (defArgs s_law_tops) (defBody s_law_tops) (defScope s_law_tops) .none kV11 dc11 pm11 an11 cd11 ct11), sl11⟩) (c11 : PySem.W.codeIn K cd11 "_law_tops" = true) (k11 : PySem.W.keepIn K (.ref f11) = true)
    (a12 : PySem.W.nsIn K mainGlobals "law" = some (some (.ref f12))) (l12 : K.lookup f12 = some ⟨oc12, od12, .func (PySem.W.fnOf "law" "law" (defArgs s_law) (defBody s_law) (defScope s_law) .none kV12 dc12 pm12 an12 cd12 ct12), sl12⟩) (c12 : PySem.W.codeIn K cd12 "law" = true) (k12 : PySem.W.keepIn K (.ref f12) = true)
    (z_abs : PySem.W.nsIn K mainGlobals "abs" = some none)
    (z_all : PySem.W.nsIn K mainGlobals "all" = some none)
    (z_bool : PySem.W.nsIn K mainGlobals "bool" = some none)
    (z_enumerate : PySem.W.nsIn K mainGlobals "enumerate" = some none)
    (z_int : PySem.W.nsIn K mainGlobals "int" = some none)
    (z_isinstance : PySem.W.nsIn K mainGlobals "isinstance" = some none)
    (z_len : PySem.W.nsIn K mainGlobals "len" = some none)
    (z_list : PySem.W.nsIn K mainGlobals "list" = some none)
    (z_range : PySem.W.nsIn K mainGlobals "range" = some none)
    (z_str : PySem.W.nsIn K mainGlobals "str" = some none)
    (z_sum : PySem.W.nsIn K mainGlobals "sum" = some none)
    (z_tuple : PySem.W.nsIn K mainGlobals "tuple" = some none)
    (y_LETTERS : PySem.W.nsIn K mainGlobals "LETTERS" = some (some (.str "abcdefghijklmnopqrstuvwxyz" t_LETTERS)))
    (y_MAX_WORD : PySem.W.nsIn K mainGlobals "MAX_WORD" = some (some (.int 30 t_MAX_WORD))) :
    ∃ fd : FuncData, (∀ (s : Shared) (v : Value), BindsTo s fd ⟨[v], []⟩ [("_law_script", v)]) ∧ ∀ base : Heap, K.In base → base.Ns mainGlobals mg → FnG P w K mg base L2.CX0 4 fa fd ["_law_script"] (liftP K mg sp_law) := by
  have e := hfa.symm.trans (PySem.W.mg_of X G a12)
  cases e
  have F0 := fun_mk (st := s_is_between) l0 c0 k0
  have G0 := PySem.W.mg_of X G a0
  have F1 := fun_mk (st := s_is_letter) l1 c1 k1
  have G1 := PySem.W.mg_of X G a1
  have F2 := fun_mk (st := s_with_stroke) l2 c2 k2
  have G2 := PySem.W.mg_of X G a2
  have F3 := fun_mk (st := s_is_stroke) l3 c3 k3
  have G3 := PySem.W.mg_of X G a3
  have F4 := fun_mk (st := s_is_history) l4 c4 k4
  have G4 := PySem.W.mg_of X G a4
  have F5 := fun_mk (st := s_written) l5 c5 k5
  have G5 := PySem.W.mg_of X G a5
  have F6 := fun_mk (st := s_count_strokes) l6 c6 k6
  have G6 := PySem.W.mg_of X G a6
  have F7 := fun_mk (st := s_law_deck) l7 c7 k7
  have G7 := PySem.W.mg_of X G a7
  have F8 := fun_mk (st := s_law_draw) l8 c8 k8
  have G8 := PySem.W.mg_of X G a8
  have F9 := fun_mk (st := s_law_historyT) l9 c9 k9
  have G9 := PySem.W.mg_of X G a9
  have F10 := fun_mk (st := s_law_pick) l10 c10 k10
  have G10 := PySem.W.mg_of X G a10
  have F11 := fun_mk (st := s_law_tops) l11 c11 k11
  have G11 := PySem.W.mg_of X G a11
  have F12 := fun_mk (st := s_law) l12 c12 k12
  have m_abs := PySem.W.mg_none_of X G z_abs
  have m_all := PySem.W.mg_none_of X G z_all
  have m_bool := PySem.W.mg_none_of X G z_bool
  have m_enumerate := PySem.W.mg_none_of X G z_enumerate
  have m_int := PySem.W.mg_none_of X G z_int
  have m_isinstance := PySem.W.mg_none_of X G z_isinstance
  have m_len := PySem.W.mg_none_of X G z_len
  have m_list := PySem.W.mg_none_of X G z_list
  have m_range := PySem.W.mg_none_of X G z_range
  have m_str := PySem.W.mg_none_of X G z_str
  have m_sum := PySem.W.mg_none_of X G z_sum
  have m_tuple := PySem.W.mg_none_of X G z_tuple
  have g_LETTERS := PySem.W.mg_of X G y_LETTERS
  have g_MAX_WORD := PySem.W.mg_of X G y_MAX_WORD
  refine ⟨PySem.W.fnOf "law" "law" (defArgs s_law) (defBody s_law) (defScope s_law) .none kV12 dc12 pm12 an12 cd12 ct12, fun s v => .of_eq rfl, fun base _ _ => ?_⟩
  have b0 := F0.binds (ps := ["value", "low", "high"]) fun _ _ _ _ _ _ us hl => match us, hl with | [_, _, _], _ => rfl
  have c_is_between : Cal P w K mg base L2.CX0 1 "is_between" sp_is_between := Cal.of (fn_is_between F0 m_bool m_int m_isinstance) G0 k0 b0
  have b1 := F1.binds (ps := ["value"]) fun _ _ _ _ _ _ us hl => match us, hl with | [_], _ => rfl
  have c_is_letter : Cal P w K mg base L2.CX0 1 "is_letter" sp_is_letter := Cal.of (fn_is_letter F1 m_isinstance m_len m_str g_LETTERS) G1 k1 b1
  have b2 := F2.binds (ps := ["words", "top", "stroke"]) fun _ _ _ _ _ _ us hl => match us, hl with | [_, _, _], _ => rfl
  have c_with_stroke : Cal P w K mg base L2.CX0 1 "with_stroke" sp_with_stroke := Cal.of (fn_with_stroke F2 m_enumerate m_int m_tuple) G2 k2 b2
  have b3 := F3.binds (ps := ["value", "left"]) fun _ _ _ _ _ _ us hl => match us, hl with | [_, _], _ => rfl
  have c_is_stroke : Cal P w K mg base L2.CX0 2 "is_stroke" sp_is_stroke := Cal.of (fn_is_stroke F3 m_isinstance m_len m_tuple c_is_between c_is_letter) G3 k3 b3
  have b4 := F4.binds (ps := ["n", "value"]) fun _ _ _ _ _ _ us hl => match us, hl with | [_, _], _ => rfl
  have c_is_history : Cal P w K mg base L2.CX0 3 "is_history" sp_is_history := Cal.of (fn_is_history F4 m_all m_isinstance m_len m_tuple g_MAX_WORD c_is_stroke c_with_stroke) G4 k4 b4
  have b5 := F5.binds (ps := ["n", "history"]) fun _ _ _ _ _ _ us hl => match us, hl with | [_, _], _ => rfl
  have c_written : Cal P w K mg base L2.CX0 2 "written" sp_written := Cal.of (fn_written F5 c_with_stroke) G5 k5 b5
  have b6 := F6.binds (ps := ["history"]) fun _ _ _ _ _ _ us hl => match us, hl with | [_], _ => rfl
  have c_count_strokes : Cal P w K mg base L2.CX0 1 "count_strokes" sp_count_strokes := Cal.of (fn_count_strokes F6 m_len) G6 k6 b6
  have b7 := F7.binds (ps := ["_law_script"]) fun _ _ _ _ _ _ us hl => match us, hl with | [_], _ => rfl
  have c_law_deck : Cal P w K mg base L2.CX0 1 "_law_deck" sp_law_deck := Cal.of (fn_law_deck F7 m_abs m_len) G7 k7 b7
  have b8 := F8.binds (ps := ["_law_deck_here", "_law_below"]) fun _ _ _ _ _ _ us hl => match us, hl with | [_, _], _ => rfl
  have c_law_draw : Cal P w K mg base L2.CX0 1 "_law_draw" sp_law_draw := Cal.of (fn_law_draw F8 m_len) G8 k8 b8
  have b9 := F9.binds (ps := ["_law_deck_here", "_law_n", "_law_most"]) fun _ _ _ _ _ _ us hl => match us, hl with | [_, _, _], _ => rfl
  have c_law_historyT : CalK P w K mg base 2 "_law_history" sp_law_historyT := ⟨f9, fn_law_historyT F9 b9 m_range m_tuple c_law_draw, G9, k9⟩
  have b10 := F10.binds (ps := ["_law_deck_here", "_law_items"]) fun _ _ _ _ _ _ us hl => match us, hl with | [_, _], _ => rfl
  have c_law_pick : Cal P w K mg base L2.CX0 2 "_law_pick" sp_law_pick := Cal.of (fn_law_pick F10 m_len c_law_draw) G10 k10 b10
  have b11 := F11.binds (ps := ["_law_history_here"]) fun _ _ _ _ _ _ us hl => match us, hl with | [_], _ => rfl
  have c_law_tops : Cal P w K mg base L2.CX0 1 "_law_tops" sp_law_tops := Cal.of (fn_law_tops F11 m_int) G11 k11 b11
  exact fn_law F12 m_int m_len m_list m_range m_sum c_law_deck c_law_draw c_law_historyT c_law_pick c_law_tops c_count_strokes c_is_history c_written
end DL
open PySem PySem.W PyProof.Rows
set_option maxHeartbeats 0 in
theorem PySem.Challenge.cw_carbonpad_k07_whole_letters_counted_holds : PySem.Challenge.rw_carbonpad_k07_whole_letters_counted.Holds := by
  w_on; o_law; k_head; (case hw => w_witness2)
  k_fill
  refine DL.end_g (l := PySem.Challenge.rw_carbonpad_k07_whole_letters_counted) (n := 63) (k := 4) (x := "_law_script") (S := DL.sp_law) rfl (by decide) rfl ⟨rfl, by decide, by decide⟩ (fun w h Y => PySem.W.kIn_of Y) ?F DL.end_law
  case F =>
    intro w mg fa h KX G hmg
    refine' DL.all_mk KX G hmg ?a0 ?l0 ?c0 ?k0 ?a1 ?l1 ?c1 ?k1 ?a2 ?l2 ?c2 ?k2 ?a3 ?l3 ?c3 ?k3 ?a4 ?l4 ?c4 ?k4 ?a5 ?l5 ?c5 ?k5 ?a6 ?l6 ?c6 ?k6 ?a7 ?l7 ?c7 ?k7 ?a8 ?l8 ?c8 ?k8 ?a9 ?l9 ?c9 ?k9 ?a10 ?l10 ?c10 ?k10 ?a11 ?l11 ?c11 ?k11 ?a12 ?l12 ?c12 ?k12 ?z_abs ?z_all ?z_bool ?z_enumerate ?z_int ?z_isinstance ?z_len ?z_list ?z_range ?z_str ?z_sum ?z_tuple ?y_LETTERS ?y_MAX_WORD
    (case a0 => k_is); (case l0 => k_is); (case c0 => k_is); (case k0 => k_is)
    (case a1 => k_is); (case l1 => k_is); (case c1 => k_is); (case k1 => k_is)
    (case a2 => k_is); (case l2 => k_is); (case c2 => k_is); (case k2 => k_is)
    (case a3 => k_is); (case l3 => k_is); (case c3 => k_is); (case k3 => k_is)
    (case a4 => k_is); (case l4 => k_is); (case c4 => k_is); (case k4 => k_is)
    (case a5 => k_is); (case l5 => k_is); (case c5 => k_is); (case k5 => k_is)
    (case a6 => k_is); (case l6 => k_is); (case c6 => k_is); (case k6 => k_is)
    (case a7 => k_is); (case l7 => k_is); (case c7 => k_is); (case k7 => k_is)
    (case a8 => k_is); (case l8 => k_is); (case c8 => k_is); (case k8 => k_is)
    (case a9 => k_is); (case l9 => k_is); (case c9 => k_is); (case k9 => k_is)
    (case a10 => k_is); (case l10 => k_is); (case c10 => k_is); (case k10 => k_is)
    (case a11 => k_is); (case l11 => k_is); (case c11 => k_is); (case k11 => k_is)
    (case a12 => k_is); (case l12 => k_is); (case c12 => k_is); (case k12 => k_is)
    (case z_abs => k_is); (case z_all => k_is); (case z_bool => k_is); (case z_enumerate => k_is)
    (case z_int => k_is); (case z_isinstance => k_is); (case z_len => k_is); (case z_list => k_is)
    (case z_range => k_is); (case z_str => k_is); (case z_sum => k_is); (case z_tuple => k_is)
    (case y_LETTERS => k_is); (case y_MAX_WORD => k_is)

