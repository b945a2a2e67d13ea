import PyProof.Rows.All
import Wide.All
import OpenK.AllK
import Wide.FinOn
import HandS.ForMost
import HandS.TupAny
import HandS.TupMul
import HandS.Exc
import HandS.ExcCtx
import HandS.Wide
import HandS.StrMore
import HandS.Style
import HandS.Flow
import PyProof.StrBlock2
import PyProof.ReprRoads
import HandS.NoneIn
import HandS.Deep
import PyProof.StrLawsFrom
import PyProof.Rows.StrRev
import HandS.IsInst
import HandS.Zip
import PyProof.EnumMake
import PyProof.Draws
import HandS.Star
import KE.GoesEnum
import KE.KDictZip
import HandS.DictTup
import HandS.NamedTupSort
import HandS.SortInts
import HandS.SetFor
import PyProof.P3In
import HandS.ExcIs
import HandS.ExcOwn
import HandS.ExcField
import HandS.Small
import KE.KExcInit
import KE.KExcIs
import KE.KExcLine
import HandS.Strs
import HandS.WideBits
import HandS.Replace
import HandS.ReplaceList
import PyProof.Rows.StrBetween
import HandS.Conv
import PyProof.CallStr
import PyProof.Rows.IntBool
import KE.DatumOrd
import HandS.Property
import KE.KOpsOwn
import KE.KCallOwn
import PyProof.Conv_bool
import PyProof.InstNe
import PyProof.StrLaws
import HandS.ExcValue
import PyProof.EqKinds
import PyProof.FactsAll.dict
import HandS.FStr
import PyProof.StrLawsChain
import PyProof.StrLawsTight
import PyProof.Rows.StrFacts2
import KE.IntTextLaws
import HandS.ReplaceLit
import HandS.Text
import PySem.Challenge.RW_carbonpad_k59_sheets_made
set_option Elab.async false
set_option linter.all false
set_option maxRecDepth 100000
set_option maxHeartbeats 1000000
namespace DL
open PySem PySem.Spec PyProof.Rows L2
/-- a tuple at p that nobody knows: it has no dict -/
def newT (H : Hp) (Q : VK) (vs : List V) : Prop := ∀ (p : Addr) (ob : Obj), H p = none → ob.dict = none → Q (.ref p) (upd H p (.frz ob (.tup vs)))
section
variable {X : Cx}
/-- the object just pushed -/
theorem fin_tup {pins : List (Addr × Obj)} {σ : L2.St} {H : Hp} {s : Shared} {Q : VK} {vs : List V} {its : List Value} (I : Inv X pins σ H s) (hz : vs.length ≤ sizeLine) (r : Vals vs its) (q : newT H Q vs) :
    EP X pins σ Q (.ref s.heap.objs.size) { s with heap := s.heap.push { cls := .type "tuple", data := .seq its.toArray } } :=
  ⟨.ref s.heap.objs.size, _, I.laid (t' := s.toks) (o := .frz { cls := .type "tuple", data := .seq its.toArray } (.tup vs)) (fun b ob q => Heap.get?_push_of_some _ q) (Nat.le_refl _) ⟨Heap.get?_push_size _ rfl, hz, its, r, IsTup.new _ _⟩, rfl, q _ _ (I.hok.fresh (Nat.le_refl _)) rfl⟩
/-- a display -/
def tTupZ (t : TA) : TE := fun σ H Q => t σ H fun xs H1 => xs.length ≤ sizeLine ∧ newT H1 Q xs
theorem pe_tupZ {es : List Expr} {t : TA} {x1 : Nat} {pos : Pos} (h : PA X es t) : PE X (.Tuple es x1 pos) (tTupZ t) := by
  refine ⟨fun pins s σ H Q I hq => ?_⟩
  refine wpAny_Tuple_spliced (thn (h.run pos pins s σ H _ I hq) fun us s1 ⟨xs, H1, I1, r, z, q⟩ => ⟨by rw [← r.length]; exact z, ?_⟩)
  exact fin_tup I1 z r q
/-- tuple(x) -/
def rTupZ (K : PySem.W.Frag) : List V → Hp → VK → Prop := fun xs H Q => ∃ p ys, xs = [.ref p] ∧ ((SqL K H p ys ∧ newT H Q ys) ∨ (SqT K H p ys ∧ Q (.ref p) H))
theorem call_tupZ : CallR X (.type "tuple") (rTupZ X.K) := by
  intro pins s σ H xs us Q I r h
  obtain ⟨p, ys, rfl, h⟩ := h
  obtain ⟨u, rfl, rx⟩ := vals1 r
  cases rx
  rcases h with ⟨hq, q⟩ | ⟨hq, q⟩
  · obtain ⟨its, r', pl, hz⟩ := I.list hq
    have hlen := r'.length
    refine call_tuple_list pl.isList (fun h' kp => ?_) (by simp only [List.size_toArray] <;> omega)
    have I1 : Inv X pins σ H { s with heap := h' } := I.kept (t' := s.toks) kp
    exact fin_tup I1 hz r' q
  · obtain ⟨its, r', pl, hz⟩ := I.tuple hq
    exact call_tuple_same pl ⟨.ref p, H, I, rfl, q⟩
/-- x + y -/
def rCatZ (K : PySem.W.Frag) : R2 := fun x y H Q => ∃ a b xs ys, x = .ref a ∧ y = .ref b ∧ SqT K H a xs ∧ SqT K H b ys ∧ xs.length + ys.length ≤ sizeLine ∧
  (xs = [] → Q (.ref b) H) ∧ (xs ≠ [] → ys = [] → Q (.ref a) H) ∧ (xs ≠ [] → ys ≠ [] → newT H Q (xs ++ ys))
theorem op_catZ : OpR X (binaryOp .Add) (rCatZ X.K) := by
  intro pins s σ H x y v u Q I rx ry h
  obtain ⟨a, b, xs, ys, rfl, rfl, ha, hb, hz, q0, q1, q2⟩ := h
  cases rx
  cases ry
  obtain ⟨its, r1, p1, _⟩ := I.tuple ha
  obtain ⟨its2, r2, p2, _⟩ := I.tuple hb
  by_cases hx : xs = []
  · subst hx
    cases r1
    exact cat_tup0 p1 p2 ⟨.ref b, H, I, rfl, q0 rfl⟩
  · refine HT.cat_tup p1 p2 (fun z => hx (r1.nil_iff.mp z)) (fun z => ⟨.ref a, H, I, rfl, q1 hx (r2.nil_iff.mp z)⟩) (fun z => ?_) (by rw [← r1.length, ← r2.length]; exact hz)
    exact fin_tup I (by rw [List.length_append]; exact hz) (r1.append r2) (q2 hx fun w => z (r2.nil_iff.mpr w))
/-- x[i:j] -/
def rSlZ (K : PySem.W.Frag) : V → Option Int → Option Int → Hp → VK → Prop := fun x lo hi H Q => ∃ a xs, x = .ref a ∧ SqT K H a xs ∧
  (HT.sIx xs.length 0 lo = 0 ∧ HT.sIx xs.length xs.length hi = xs.length → Q (.ref a) H) ∧ (¬ (HT.sIx xs.length 0 lo = 0 ∧ HT.sIx xs.length xs.length hi = xs.length) → newT H Q (cutV xs lo hi))
theorem sl_tupZ : SlR X (rSlZ X.K) := by
  intro pins s σ H x v vl vu lo hi sl Q I rx hs pl pu h
  obtain ⟨a, xs, rfl, hx, q1, q2⟩ := h
  cases rx
  obtain ⟨its, r, ht, hz⟩ := I.tuple hx
  have hlen : its.toArray.size = xs.length := by rw [List.size_toArray]; exact r.length.symm
  refine ⟨"tuple", _, PyProof.Rows.slot_tuple_getitem.lookup, ht.typeIs, ?_⟩
  by_cases hw : HT.sIx xs.length 0 lo = 0 ∧ HT.sIx xs.length xs.length hi = xs.length
  · exact getItem_tuple_whole ht hs pl pu (by rw [hlen]; exact hw) ⟨.ref a, H, I, rfl, q1 hw⟩
  · refine HT.getItem_tuple_cut ht hs pl pu (by rw [hlen]; exact hw) ?_ (by rw [hlen]; exact hz)
    rw [hlen]
    exact fin_tup I (Nat.le_trans (cutV_length xs lo hi) hz) ((r.drop (HT.sIx xs.length 0 lo)).take (HT.sIx xs.length xs.length hi - HT.sIx xs.length 0 lo)) (q2 hw)
/-- x * k, x not empty, 2 <= k -/
def rRepZ (K : PySem.W.Frag) : R2 := fun x y H Q => ∃ l k xs, x = .ref l ∧ y = .int k ∧ SqT K H l xs ∧ xs ≠ [] ∧ 2 ≤ k ∧ k ≤ 1000 ∧ xs.length ≤ 1000 ∧ newT H Q (List.replicate k.toNat xs).flatten
theorem op_repZ : OpR X (binaryOp .Mult) (rRepZ X.K) := by
  intro pins s σ H x y v u Q I rx ry h
  obtain ⟨l, k, xs, rfl, rfl, hT, hne, h1, h2, hz, q⟩ := h
  cases rx
  obtain ⟨t, rfl⟩ := ry
  obtain ⟨its, r, ⟨⟨cls, dd, data, sl⟩, ho, hc, n, hd⟩, hs⟩ := I.tuple hT
  simp only at hc hd
  subst hc hd
  have el : its.length = xs.length := r.length.symm
  have ne : its ≠ [] := fun e => hne (List.eq_nil_of_length_eq_zero (by rw [← el, e]; rfl))
  have em : its.toArray.isEmpty = false := by cases its with | nil => exact absurd rfl ne | cons a b => rfl
  have es : its.toArray.size = xs.length := by rw [List.size_toArray, el]
  have hm : ((its.toArray.size : Nat) : Int) * k ≤ 1000000 := by
    rw [es]
    have a1 : ((xs.length : Nat) : Int) * k ≤ 1000 * k := Int.mul_le_mul_of_nonneg_right (by omega) (by omega)
    omega
  have a1 : k.toNat * xs.length ≤ 1000 * 1000 := Nat.mul_le_mul (by omega) hz
  have fl : (List.replicate k.toNat its).flatten.length ≤ sizeLine := by rw [PyProof.Rows.lm_len_rep_flat, el, sizeLine_eq]; omega
  have d0 : (decide (k < -(2 ^ 63)) || decide (k ≥ 2 ^ 63)) = false := by rw [decide_eq_false (by omega), decide_eq_false (by omega)] <;> rfl
  have d1 : (its.toArray.isEmpty || k == 1) = false := by rw [em, Bool.false_or]; exact beq_eq_false_iff_ne.mpr (by omega)
  have d2 : (decide (k ≤ 0) || its.toArray.isEmpty) = false := by rw [em, Bool.or_false]; exact decide_eq_false (by omega)
  have d4 : Builtin.Tuple.tupleTooMany (((its.toArray.size : Nat) : Int) * k) = false := by unfold Builtin.Tuple.tupleTooMany; rw [sizeLine_eq]; exact decide_eq_false (by omega)
  refine wpAny_binaryOp_repeat_ref (T := "tuple") (U := "int") (by decide) ⟨_, ho, rfl⟩ (fun s' => typeIs_int s' k t) noFill_tuple_mul F.fills_int_mul F.slot_int_rmul repeat_tuple F.slot_int_index.lookup
    (call_meets F.slot_int_rmul (typeIs_int s k t) F.entry_int_rmul (F.args_int_rmul_2 _ _) (int_rmul_tuple k t l its.toArray n dd sl)
      ⟨ho, rfl, ⟨_, ho, rfl⟩, call_meets F.slot_tuple_mul ⟨_, ho, rfl⟩ F.entry_tuple_mul (F.args_tuple_mul_2 _ _) (tuple_mulW l its.toArray n dd sl k t d0 d1 d2 (by omega) d4 (by rw [size_rep, List.size_toArray]; exact fl)) ⟨ho, ?_⟩⟩)
  rw [size_rep]
  exact fin_tup I (by rw [PyProof.Rows.lm_len_rep_flat, sizeLine_eq]; omega) (r.rep k.toNat) q
end
end DL

namespace DL
open PySem PySem.Spec PyProof.Rows L2

/-- a text by its signs -/
abbrev S (l : List Nat) : Str := ⟨l.toArray⟩
/-- data as a tree; ref: an object that changes; obj: an own instance that does not; exn: an exception that was caught; gl: a def or a class of the module; scr: the script -/
inductive D where
  | non | bl (b : Bool) | int (i : Int) | str (x : List Nat) | tup (xs : List D) | lst (xs : List D)
  | dct (kvs : List (Key × D)) | scr (ns : List Int) | ref (a : Addr) | ty (n : String) | gl (x : Str) | pr (a b : D) | obj (c : Str) (fs : List (Str × D)) | exn (c : Str) (fs : List (Str × D))
/-- a tuple that is known to have no dict -/
def PlT (F : Hp) (a : Addr) (vs : List V) : Prop := ∃ ob : Obj, ob.dict = none ∧ F a = some (.frz ob (.tup vs))
/-- an object that changes -/
inductive MO where
  | lst (xs : List D) | ins (c : Str) (fs : List (Str × D)) | dct (kvs : List (Key × D)) | dtt (kvs : List (List Key × D)) | xd (fs : List (Str × D)) | exz (c : Str) (fs : List (Str × D))
abbrev Sto := Addr → Option MO
def sset (μ : Sto) (a : Addr) (o : MO) : Sto := fun b => if b = a then some o else μ b
theorem sset_same {μ : Sto} {a : Addr} {o : MO} : sset μ a o a = some o := if_pos rfl
theorem sset_ne {μ : Sto} {a b : Addr} {o : MO} (h : b ≠ a) : sset μ a o b = μ b := if_neg h
/-- what a slot holds: a value; a list of the frame's own, which nobody else knows -/
inductive DS where
  | val (d : D) | own (xs : List D)
abbrev DEnv := List (Option DS)

mutual
inductive Dt (K : PySem.W.Frag) (mg : Str → Option Value) (F : Hp) : V → D → Prop
  | non : Dt K mg F .non .non
  | bl (b : Bool) : Dt K mg F (.bl b) (.bl b)
  | int (i : Int) : Dt K mg F (.int i) (.int i)
  | str (x : List Nat) : Dt K mg F (.str (S x)) (.str x)
  | tup {a : Addr} {vs : List V} {ds : List D} : PlT F a vs → Dts K mg F vs ds → Dt K mg F (.ref a) (.tup ds)
  | lst {a : Addr} {vs : List V} {ds : List D} : F a = some (.lst vs) → Dts K mg F vs ds → Dt K mg F (.ref a) (.lst ds)
  | dct {a : Addr} {vs : List (Key × V)} {ds : List (Key × D)} : F a = some (.dK vs) → Dks K mg F vs ds → Dt K mg F (.ref a) (.dct ds)
  | scr {a : Addr} {ns : List Int} : SqL K F a (ns.map V.int) → Dt K mg F (.ref a) (.scr ns)
  | ref (a : Addr) : Dt K mg F (.ref a) (.ref a)
  | ty (n : String) : Dt K mg F (.ty n) (.ty n)
  | gl {x : Str} {a : Addr} : mg x = some (.ref a) → Dt K mg F (.ref a) (.gl x)
  | pr {a : Addr} {v w : V} {d e : D} : F a = some (.tup [v, w]) → Dt K mg F v d → Dt K mg F w e → Dt K mg F (.ref a) (.pr d e)
  | obj {a C dx : Addr} {c : Str} {vfs : List (Str × V)} {fs : List (Str × D)} : mg c = some (.ref C) → F a = some (.ins C dx vfs) → vfs.map (·.1) = fs.map (·.1) → Dts K mg F (vfs.map (·.2)) (fs.map (·.2)) → Dt K mg F (.ref a) (.obj c fs)
  | exn0 {a C : Addr} {c : Str} {oe : Obj} : mg c = some (.ref C) → F a = some (.frz oe (.own 0)) → Zc (.ref C) none oe → (∃ vs, oe.data = .fields vs) → Dt K mg F (.ref a) (.exn c [])
  | exn1 {a C dx : Addr} {c : Str} {oe : Obj} {vfs : List (Str × V)} {fs : List (Str × D)} : mg c = some (.ref C) → F a = some (.frz oe (.own 0)) → Zc (.ref C) (some dx) oe → (∃ vs, oe.data = .fields vs) → F dx = some (.xd vfs) → vfs.map (·.1) = fs.map (·.1) → Dts K mg F (vfs.map (·.2)) (fs.map (·.2)) → Dt K mg F (.ref a) (.exn c fs)
inductive Dts (K : PySem.W.Frag) (mg : Str → Option Value) (F : Hp) : List V → List D → Prop
  | nil : Dts K mg F [] []
  | cons {v : V} {vs : List V} {d : D} {ds : List D} : Dt K mg F v d → Dts K mg F vs ds → Dts K mg F (v :: vs) (d :: ds)
inductive Dks (K : PySem.W.Frag) (mg : Str → Option Value) (F : Hp) : List (Key × V) → List (Key × D) → Prop
  | nil : Dks K mg F [] []
  | cons {k : Key} {v : V} {vs : List (Key × V)} {d : D} {ds : List (Key × D)} : Dt K mg F v d → Dks K mg F vs ds → Dks K mg F ((k, v) :: vs) ((k, d) :: ds)
end

section
variable {K : PySem.W.Frag} {mg : Str → Option Value} {F F' H H' : Hp}
theorem SqT.mono' {a : Addr} {vs : List V} (hF : ∀ a o, F a = some o → F' a = some o) (h : SqT K F a vs) : SqT K F' a vs := by
  rcases h with (h | ⟨o, h⟩) | h
  · exact .inl (.inl (hF _ _ h))
  · exact .inl (.inr ⟨o, hF _ _ h⟩)
  · exact .inr h
theorem PlT.mono {a : Addr} {vs : List V} (hF : ∀ a o, F a = some o → F' a = some o) (h : PlT F a vs) : PlT F' a vs := let ⟨ob, h1, h2⟩ := h; ⟨ob, h1, hF _ _ h2⟩
theorem PlT.sq {a : Addr} {vs : List V} (h : PlT F a vs) : SqT K F a vs := let ⟨ob, _, h2⟩ := h; .inl (.inr ⟨ob, h2⟩)
theorem SqL.mono' {a : Addr} {vs : List V} (hF : ∀ a o, F a = some o → F' a = some o) (h : SqL K F a vs) : SqL K F' a vs := by
  rcases h with (h | ⟨o, h⟩) | h
  · exact .inl (.inl (hF _ _ h))
  · exact .inl (.inr ⟨o, hF _ _ h⟩)
  · exact .inr h
mutual
theorem Dt.mono (hF : ∀ a o, F a = some o → F' a = some o) : ∀ {v : V} {d : D}, Dt K mg F v d → Dt K mg F' v d
  | _, _, .non => .non
  | _, _, .bl b => .bl b
  | _, _, .int i => .int i
  | _, _, .str x => .str x
  | _, _, .tup h r => .tup (h.mono hF) (Dts.mono hF r)
  | _, _, .lst h r => .lst (hF _ _ h) (Dts.mono hF r)
  | _, _, .dct h r => .dct (hF _ _ h) (Dks.mono hF r)
  | _, _, .scr h => .scr (SqL.mono' hF h)
  | _, _, .ref a => .ref a
  | _, _, .ty n => .ty n
  | _, _, .gl h => .gl h
  | _, _, .pr h a b => .pr (hF _ _ h) (Dt.mono hF a) (Dt.mono hF b)
  | _, _, .obj h1 h2 h3 h4 => .obj h1 (hF _ _ h2) h3 (Dts.mono hF h4)
  | _, _, .exn0 h1 h2 h3 h4 => .exn0 h1 (hF _ _ h2) h3 h4
  | _, _, .exn1 h1 h2 h3 h4 h5 h6 h7 => .exn1 h1 (hF _ _ h2) h3 h4 (hF _ _ h5) h6 (Dts.mono hF h7)
theorem Dts.mono (hF : ∀ a o, F a = some o → F' a = some o) : ∀ {vs : List V} {ds : List D}, Dts K mg F vs ds → Dts K mg F' vs ds
  | _, _, .nil => .nil
  | _, _, .cons h r => .cons (Dt.mono hF h) (Dts.mono hF r)
theorem Dks.mono (hF : ∀ a o, F a = some o → F' a = some o) : ∀ {vs : List (Key × V)} {ds : List (Key × D)}, Dks K mg F vs ds → Dks K mg F' vs ds
  | _, _, .nil => .nil
  | _, _, .cons h r => .cons (Dt.mono hF h) (Dks.mono hF r)
end
theorem Dts.length : ∀ {vs : List V} {ds : List D}, Dts K mg F vs ds → vs.length = ds.length
  | _, _, .nil => rfl
  | _, _, .cons _ r => congrArg (· + 1) r.length
theorem Dts.get : ∀ {vs : List V} {ds : List D} {i : Nat} {d : D}, Dts K mg F vs ds → ds[i]? = some d → ∃ v, vs[i]? = some v ∧ Dt K mg F v d
  | _, _, _, _, .nil, e => by simp at e
  | _, _, 0, _, .cons r _, e => by simp at e; subst e; exact ⟨_, rfl, r⟩
  | _, _, i + 1, d, .cons _ t, e => by
    obtain ⟨u, h1, h2⟩ := Dts.get (i := i) (d := d) t (by simpa using e)
    exact ⟨u, by simpa using h1, h2⟩
theorem Dts.getV : ∀ {vs : List V} {ds : List D} {i : Nat} {v : V}, Dts K mg F vs ds → vs[i]? = some v → ∃ d, ds[i]? = some d ∧ Dt K mg F v d
  | _, _, _, _, .nil, e => by simp at e
  | _, _, 0, _, .cons r _, e => by simp at e; subst e; exact ⟨_, rfl, r⟩
  | _, _, i + 1, v, .cons _ t, e => by
    obtain ⟨u, h1, h2⟩ := Dts.getV (i := i) (v := v) t (by simpa using e)
    exact ⟨u, by simpa using h1, h2⟩
theorem Dts.append : ∀ {vs ws : List V} {ds es : List D}, Dts K mg F vs ds → Dts K mg F ws es → Dts K mg F (vs ++ ws) (ds ++ es)
  | _, _, _, _, .nil, s => s
  | _, _, _, _, .cons r t, s => .cons r (Dts.append t s)
theorem Dts.take : ∀ {vs : List V} {ds : List D} (n : Nat), Dts K mg F vs ds → Dts K mg F (vs.take n) (ds.take n)
  | _, _, 0, _ => .nil
  | _, _, _ + 1, .nil => .nil
  | _, _, n + 1, .cons r t => .cons r (Dts.take n t)
theorem Dts.drop : ∀ {vs : List V} {ds : List D} (n : Nat), Dts K mg F vs ds → Dts K mg F (vs.drop n) (ds.drop n)
  | _, _, 0, r => r
  | _, _, _ + 1, .nil => .nil
  | _, _, n + 1, .cons _ t => Dts.drop n t
theorem Dts.set {v : V} {d : D} (r : Dt K mg F v d) : ∀ {vs : List V} {ds : List D} (i : Nat), Dts K mg F vs ds → Dts K mg F (vs.set i v) (ds.set i d)
  | _, _, _, .nil => .nil
  | _, _, 0, .cons _ t => .cons r t
  | _, _, i + 1, .cons q t => .cons q (Dts.set r i t)
theorem Dts.revAux : ∀ {vs : List V} {ds : List D} {ws : List V} {es : List D}, Dts K mg F vs ds → Dts K mg F ws es → Dts K mg F (vs.reverseAux ws) (ds.reverseAux es)
  | _, _, _, _, .nil, s => s
  | v :: vs, d :: ds, ws, es, .cons a b, s => Dts.revAux (vs := vs) (ds := ds) (ws := v :: ws) (es := d :: es) b (.cons a s)
theorem Dts.reverse {vs : List V} {ds : List D} (r : Dts K mg F vs ds) : Dts K mg F vs.reverse ds.reverse := Dts.revAux r .nil
theorem Dts.one {v : V} {d : D} (h : Dt K mg F v d) : Dts K mg F [v] [d] := .cons h .nil
theorem Dts.ofInts : ∀ (ns : List Int), Dts K mg F (ns.map V.int) (ns.map D.int)
  | [] => .nil
  | n :: ns => .cons (.int n) (Dts.ofInts ns)
theorem Dts.bls : ∀ {vs : List V} {ns : List Bool}, Dts K mg F vs (ns.map D.bl) → vs = ns.map V.bl
  | _, [], .nil => rfl
  | _, n :: ns, .cons h r => by
    cases h
    rw [List.map_cons, ← Dts.bls r]
theorem Dts.strs : ∀ {vs : List V} {ns : List (List Nat)}, Dts K mg F vs (ns.map D.str) → vs = (ns.map S).map V.str
  | _, [], .nil => rfl
  | _, n :: ns, .cons h r => by
    cases h
    rw [List.map_cons, List.map_cons, ← Dts.strs r]
theorem Dks.append : ∀ {vs ws : List (Key × V)} {ds es : List (Key × D)}, Dks K mg F vs ds → Dks K mg F ws es → Dks K mg F (vs ++ ws) (ds ++ es)
  | _, _, _, _, .nil, s => s
  | _, _, _, _, .cons r t, s => .cons r (Dks.append t s)
theorem Dks.keys : ∀ {vs : List (Key × V)} {ds : List (Key × D)}, Dks K mg F vs ds → vs.map (·.1) = ds.map (·.1)
  | _, _, .nil => rfl
  | _, _, .cons (k := k) _ r => by rw [List.map_cons, List.map_cons, Dks.keys r]
end

section
variable (K : PySem.W.Frag) (mg : Str → Option Value)
def MOk (F H : Hp) (a : Addr) : MO → Prop
  | .lst xs => ∃ vs, H a = some (.lst vs) ∧ Dts K mg F vs xs
  | .ins c fs => ∃ C dx vfs, mg c = some (.ref C) ∧ H a = some (.ins C dx vfs) ∧ vfs.map (·.1) = fs.map (·.1) ∧ Dts K mg F (vfs.map (·.2)) (fs.map (·.2))
  | .dct kvs => ∃ vs, H a = some (.dK vs) ∧ Dks K mg F vs kvs
  | .dtt kvs => ∃ vs, H a = some (.dT vs) ∧ vs.map (·.1) = kvs.map (·.1) ∧ Dts K mg F (vs.map (·.2)) (kvs.map (·.2))
  | .xd fs => ∃ vfs, H a = some (.xd vfs) ∧ vfs.map (·.1) = fs.map (·.1) ∧ Dts K mg F (vfs.map (·.2)) (fs.map (·.2))
  | .exz c fs => ∃ C od oe ws, mg c = some (.ref C) ∧ H a = some (.frz oe (.own 0)) ∧ L2N.Zn (.ref C) od oe ∧ oe.data = .fields ws ∧ ((od = none ∧ fs = []) ∨ ∃ dx vfs, od = some dx ∧ F dx = some (.xd vfs) ∧ vfs.map (·.1) = fs.map (·.1) ∧ Dts K mg F (vfs.map (·.2)) (fs.map (·.2)))
/-- F: what never changes any more; μ: what may change -/
structure Ok (F : Hp) (μ : Sto) (H : Hp) : Prop where
  sub : ∀ a o, F a = some o → H a = some o
  dis : ∀ a m, μ a = some m → F a = none
  sto : ∀ a m, μ a = some m → MOk K mg F H a m
/-- behind a step: what never changes stands, what nobody else knows stands -/
structure Ext (F : Hp) (μ : Sto) (H : Hp) (F' : Hp) (μ' : Sto) (H' : Hp) : Prop where
  mono : ∀ a o, F a = some o → F' a = some o
  keep : ∀ a o, H a = some o → μ a = none → H' a = some o ∧ F' a = F a ∧ μ' a = none
  live : ∀ a, H' a = none → H a = none
def SOk (F : Hp) (μ : Sto) (H : Hp) (v : V) : DS → Prop
  | .val d => Dt K mg F v d
  | .own xs => ∃ a vs, v = .ref a ∧ F a = none ∧ μ a = none ∧ H a = some (.lst vs) ∧ Dts K mg F vs xs
structure Rel (F : Hp) (ρ : DEnv) (μ : Sto) (σ : L2.St) (H : Hp) : Prop where
  ok : Ok K mg F μ H
  len : ρ.length = σ.length
  slot : ∀ (i : Nat) (s : DS), ρ[i]? = some (some s) → ∃ v, σ[i]? = some (some v) ∧ SOk K mg F μ H v s
  apart : ∀ (i j : Nat) (xs ys : List D), ρ[i]? = some (some (DS.own xs)) → ρ[j]? = some (some (DS.own ys)) → σ[i]? = σ[j]? → i = j
end

section
variable {K : PySem.W.Frag} {mg : Str → Option Value} {F F' F'' H H' H'' : Hp} {μ μ' μ'' : Sto} {ρ : DEnv} {σ : L2.St}
theorem Ext.refl : Ext F μ H F μ H := ⟨fun _ _ e => e, fun _ _ e n => ⟨e, rfl, n⟩, fun _ e => e⟩
theorem Ext.trans (a : Ext F μ H F' μ' H') (b : Ext F' μ' H' F'' μ'' H'') : Ext F μ H F'' μ'' H'' :=
  ⟨fun x o e => b.mono x o (a.mono x o e), fun x o e n => by
    obtain ⟨h1, h2, h3⟩ := a.keep x o e n
    obtain ⟨g1, g2, g3⟩ := b.keep x o h1 h3
    exact ⟨g1, g2.trans h2, g3⟩, fun x e => a.live x (b.live x e)⟩
theorem upd_live {H : Hp} {p : Addr} {u : HO} : ∀ a, upd H p u a = none → H a = none := fun a e => by
  by_cases h : a = p
  · subst h; rw [upd_same] at e; cases e
  · rw [upd_ne h] at e; exact e
theorem SOk.ext {v : V} {s : DS} (e : Ext F μ H F' μ' H') (h : SOk K mg F μ H v s) : SOk K mg F' μ' H' v s := by
  cases s with
  | val d => exact Dt.mono e.mono h
  | own xs =>
    obtain ⟨a, vs, rfl, f, m, hh, d⟩ := h
    obtain ⟨h1, h2, h3⟩ := e.keep a _ hh m
    exact ⟨a, vs, rfl, h2.trans f, h3, h1, d.mono e.mono⟩
theorem Rel.ext (r : Rel K mg F ρ μ σ H) (e : Ext F μ H F' μ' H') (o : Ok K mg F' μ' H') : Rel K mg F' ρ μ' σ H' :=
  ⟨o, r.len, fun i s h => by
    obtain ⟨v, h1, h2⟩ := r.slot i s h
    exact ⟨v, h1, h2.ext e⟩, r.apart⟩
theorem Ok.fresh (o : Ok K mg F μ H) {p : Addr} (h : H p = none) : F p = none ∧ μ p = none := by
  constructor
  · cases e : F p with
    | none => rfl
    | some x =>
      have q := o.sub p x e
      rw [h] at q
      cases q
  · cases e : μ p with
    | none => rfl
    | some m =>
      have q := o.sto p m e
      cases m with
      | lst xs => obtain ⟨vs, h1, _⟩ := q; rw [h] at h1; cases h1
      | ins c fs => obtain ⟨_, _, _, _, h1, _⟩ := q; rw [h] at h1; cases h1
      | dct kvs => obtain ⟨vs, h1, _⟩ := q; rw [h] at h1; cases h1
      | dtt kvs => obtain ⟨vs, h1, _⟩ := q; rw [h] at h1; cases h1
      | xd fs => obtain ⟨vs, h1, _⟩ := q; rw [h] at h1; cases h1
      | exz c fs => obtain ⟨_, _, _, _, _, h1, _⟩ := q; rw [h] at h1; cases h1
theorem MOk.up {a : Addr} {m : MO} (h : MOk K mg F H a m) (hF : ∀ a o, F a = some o → F' a = some o) (hH : H' a = H a) : MOk K mg F' H' a m := by
  cases m with
  | lst xs => obtain ⟨vs, h1, h2⟩ := h; exact ⟨vs, hH.trans h1, h2.mono hF⟩
  | ins c fs => obtain ⟨C, dx, vfs, h0, h1, h2, h3⟩ := h; exact ⟨C, dx, vfs, h0, hH.trans h1, h2, h3.mono hF⟩
  | dct kvs => obtain ⟨vs, h1, h2⟩ := h; exact ⟨vs, hH.trans h1, h2.mono hF⟩
  | dtt kvs => obtain ⟨vs, h1, h2, h3⟩ := h; exact ⟨vs, hH.trans h1, h2, h3.mono hF⟩
  | xd fs => obtain ⟨vs, h1, h2, h3⟩ := h; exact ⟨vs, hH.trans h1, h2, h3.mono hF⟩
  | exz c fs =>
    obtain ⟨C, od, oe, ws, h1, h2, h3, h4, h5⟩ := h
    refine ⟨C, od, oe, ws, h1, hH.trans h2, h3, h4, ?_⟩
    rcases h5 with h5 | ⟨dx, vfs, k1, k2, k3, k4⟩
    · exact .inl h5
    · exact .inr ⟨dx, vfs, k1, hF _ _ k2, k3, k4.mono hF⟩
/-- a new object that never changes -/
theorem Ok.lay (o : Ok K mg F μ H) {p : Addr} (h : H p = none) (u : HO) : Ok K mg (upd F p u) μ (upd H p u) ∧ Ext F μ H (upd F p u) μ (upd H p u) := by
  obtain ⟨hf, hm⟩ := o.fresh h
  have mono : ∀ a x, F a = some x → upd F p u a = some x := fun a x e => by rw [upd_ne (ne_of_none e hf)]; exact e
  refine ⟨⟨fun a x e => ?_, fun a m e => ?_, fun a m e => ?_⟩, ⟨mono, fun a x e n => ?_, upd_live⟩⟩
  · by_cases ha : a = p
    · subst ha; rw [upd_same] at e ⊢; exact e
    · rw [upd_ne ha] at e ⊢; exact o.sub a x e
  · by_cases ha : a = p
    · subst ha; rw [hm] at e; cases e
    · rw [upd_ne ha]; exact o.dis a m e
  · have ha : a ≠ p := fun q => by subst q; rw [hm] at e; cases e
    exact (o.sto a m e).up mono (upd_ne ha)
  · have ha := ne_of_none e h
    rw [upd_ne ha, upd_ne ha]
    exact ⟨e, rfl, n⟩
/-- a new object that may change -/
theorem Ok.layM (o : Ok K mg F μ H) {p : Addr} (h : H p = none) (u : HO) (m : MO) (hm : MOk K mg F (upd H p u) p m) : Ok K mg F (sset μ p m) (upd H p u) ∧ Ext F μ H F (sset μ p m) (upd H p u) := by
  obtain ⟨hf, hn⟩ := o.fresh h
  refine ⟨⟨fun a x e => ?_, fun a m' e => ?_, fun a m' e => ?_⟩, ⟨fun _ _ e => e, fun a x e n => ?_, upd_live⟩⟩
  · rw [upd_ne (ne_of_none e hf)]; exact o.sub a x e
  · by_cases ha : a = p
    · subst ha; exact hf
    · rw [sset_ne ha] at e; exact o.dis a m' e
  · by_cases ha : a = p
    · subst ha; rw [sset_same] at e; cases e; exact hm
    · rw [sset_ne ha] at e; exact (o.sto a m' e).up (fun _ _ e => e) (upd_ne ha)
  · have ha := ne_of_none e h
    rw [upd_ne ha, sset_ne ha]
    exact ⟨e, rfl, n⟩
/-- an object that changes is changed -/
theorem Ok.write (o : Ok K mg F μ H) {p : Addr} {m0 : MO} (h : μ p = some m0) (u : HO) (m : MO) (hm : MOk K mg F (upd H p u) p m) : Ok K mg F (sset μ p m) (upd H p u) ∧ Ext F μ H F (sset μ p m) (upd H p u) := by
  have hf := o.dis p m0 h
  refine ⟨⟨fun a x e => ?_, fun a m' e => ?_, fun a m' e => ?_⟩, ⟨fun _ _ e => e, fun a x e n => ?_, upd_live⟩⟩
  · rw [upd_ne (ne_of_none e hf)]; exact o.sub a x e
  · by_cases ha : a = p
    · subst ha; exact hf
    · rw [sset_ne ha] at e; exact o.dis a m' e
  · by_cases ha : a = p
    · subst ha; rw [sset_same] at e; cases e; exact hm
    · rw [sset_ne ha] at e; exact (o.sto a m' e).up (fun _ _ e => e) (upd_ne ha)
  · have ha : a ≠ p := fun q => by subst q; rw [n] at h; cases h
    rw [upd_ne ha, sset_ne ha]
    exact ⟨e, rfl, n⟩
/-- a new object that nobody knows: the heap alone grows -/
theorem Ok.layN (o : Ok K mg F μ H) {p : Addr} (h : H p = none) (u : HO) : Ok K mg F μ (upd H p u) ∧ Ext F μ H F μ (upd H p u) := by
  obtain ⟨hf, hn⟩ := o.fresh h
  refine ⟨⟨fun a x e => ?_, o.dis, fun a m' e => ?_⟩, ⟨fun _ _ e => e, fun a x e n => ?_, upd_live⟩⟩
  · rw [upd_ne (ne_of_none e hf)]; exact o.sub a x e
  · have ha : a ≠ p := fun q => by subst q; rw [hn] at e; cases e
    exact (o.sto a m' e).up (fun _ _ e => e) (upd_ne ha)
  · rw [upd_ne (ne_of_none e h)]
    exact ⟨e, rfl, n⟩
/-- an object that nobody else knows is changed -/
theorem Ok.writeN (o : Ok K mg F μ H) {p : Addr} (hf : F p = none) (hn : μ p = none) (u : HO) : Ok K mg F μ (upd H p u) := by
  refine ⟨fun a x e => ?_, o.dis, fun a m' e => ?_⟩
  · rw [upd_ne (ne_of_none e hf)]; exact o.sub a x e
  · have ha : a ≠ p := fun q => by subst q; rw [hn] at e; cases e
    exact (o.sto a m' e).up (fun _ _ e => e) (upd_ne ha)
/-- .. and from then on it never changes -/
theorem Ok.freeze (o : Ok K mg F μ H) {p : Addr} {u : HO} (hf : F p = none) (hn : μ p = none) (hh : H p = some u) : Ok K mg (upd F p u) μ H := by
  have mono : ∀ a x, F a = some x → upd F p u a = some x := fun a x e => by rw [upd_ne (ne_of_none e hf)]; exact e
  refine ⟨fun a x e => ?_, fun a m e => ?_, fun a m e => ?_⟩
  · by_cases ha : a = p
    · subst ha; rw [upd_same] at e; rw [hh]; exact e
    · rw [upd_ne ha] at e; exact o.sub a x e
  · have ha : a ≠ p := fun q => by subst q; rw [hn] at e; cases e
    rw [upd_ne ha]; exact o.dis a m e
  · exact (o.sto a m e).up mono rfl
end

abbrev DK := D → Sto → Prop
/-- an expression's reading over data -/
abbrev TED := DEnv → Sto → DK → Prop
abbrev TTD := DEnv → Sto → (Bool → Sto → Prop) → Prop
abbrev TAD := DEnv → Sto → (List D → Sto → Prop) → Prop
structure DEnds where
  nx : DEnv → Sto → Prop
  rt : DK
  bk : DEnv → Sto → Prop := fun _ _ => False
  ct : DEnv → Sto → Prop := fun _ _ => False
abbrev TSD := DEnds → DEnv → Sto → Prop
section
variable (K : PySem.W.Frag) (mg : Str → Option Value)
def liftE (d : TED) : TE := fun σ H Q => ∃ F ρ μ Qd, Rel K mg F ρ μ σ H ∧ d ρ μ Qd ∧ ∀ v F' μ' H' dv, Ext F μ H F' μ' H' → Ok K mg F' μ' H' → Dt K mg F' v dv → Qd dv μ' → Q v H'
/-- a value that is only looked at: as a value, or a list of the frame's own -/
def Wk (F : Hp) (μ : Sto) (H : Hp) (v : V) (d : D) : Prop := Dt K mg F v d ∨ ∃ a vs xs, v = .ref a ∧ d = .lst xs ∧ F a = none ∧ μ a = none ∧ H a = some (.lst vs) ∧ Dts K mg F vs xs
def liftW (d : TED) : TE := fun σ H Q => ∃ F ρ μ Qd, Rel K mg F ρ μ σ H ∧ d ρ μ Qd ∧ ∀ v F' μ' H' dv, Ext F μ H F' μ' H' → Ok K mg F' μ' H' → Wk K mg F' μ' H' v dv → Qd dv μ' → Q v H'
/-- a new list that nobody knows -/
abbrev TFD := DEnv → Sto → (List D → Sto → Prop) → Prop
def liftF (d : TFD) : TE := fun σ H Q => ∃ F ρ μ Qd, Rel K mg F ρ μ σ H ∧ d ρ μ Qd ∧ ∀ p vs F' μ' H' ds, Ext F μ H F' μ' H' → Ok K mg F' μ' H' → H p = none → F' p = none → μ' p = none → H' p = some (.lst vs) → Dts K mg F' vs ds → Qd ds μ' → Q (.ref p) H'
def liftT (d : TTD) : TT := fun σ H Q => ∃ F ρ μ Qd, Rel K mg F ρ μ σ H ∧ d ρ μ Qd ∧ ∀ b F' μ' H', Ext F μ H F' μ' H' → Ok K mg F' μ' H' → Qd b μ' → Q b H'
def liftA (d : TAD) : TA := fun σ H Q => ∃ F ρ μ Qd, Rel K mg F ρ μ σ H ∧ d ρ μ Qd ∧ ∀ vs F' μ' H' ds, Ext F μ H F' μ' H' → Ok K mg F' μ' H' → Dts K mg F' vs ds → Qd ds μ' → Q vs H'
/-- .. whose values are only looked at -/
inductive Wks (F : Hp) (μ : Sto) (H : Hp) : List V → List D → Prop
  | nil : Wks F μ H [] []
  | cons {v : V} {vs : List V} {d : D} {ds : List D} : Wk K mg F μ H v d → Wks F μ H vs ds → Wks F μ H (v :: vs) (d :: ds)
def liftAW (d : TAD) : TA := fun σ H Q => ∃ F ρ μ Qd, Rel K mg F ρ μ σ H ∧ d ρ μ Qd ∧ ∀ vs F' μ' H' ds, Ext F μ H F' μ' H' → Ok K mg F' μ' H' → Wks K mg F' μ' H' vs ds → Qd ds μ' → Q vs H'
def FLe (F F' : Hp) : Prop := ∀ a o, F a = some o → F' a = some o
/-- the state at the def's entry -/
structure Bs where
  F : Hp
  μ : Sto
  H : Hp
/-- .. and a state within the def -/
structure RelB (B : Bs) (F : Hp) (ρ : DEnv) (μ : Sto) (σ : L2.St) (H : Hp) : Prop where
  rel : Rel K mg F ρ μ σ H
  ext : Ext B.F B.μ B.H F μ H
  new : ∀ (i : Nat) (xs : List D) (a : Addr), ρ[i]? = some (some (DS.own xs)) → σ[i]? = some (some (.ref a)) → B.H a = none
def liftS (B : Bs) (d : TSD) : TS := fun D σ H => ∃ F ρ μ Dd, RelB K mg B F ρ μ σ H ∧ d Dd ρ μ ∧
  (∀ F' ρ' μ' σ' H', FLe F F' → RelB K mg B F' ρ' μ' σ' H' → Dd.nx ρ' μ' → D.nx σ' H') ∧
  (∀ F' ρ' μ' σ' H', FLe F F' → RelB K mg B F' ρ' μ' σ' H' → Dd.bk ρ' μ' → D.bk σ' H') ∧
  (∀ F' ρ' μ' σ' H', FLe F F' → RelB K mg B F' ρ' μ' σ' H' → Dd.ct ρ' μ' → D.ct σ' H') ∧
  (∀ v F' μ' H' dv, Ext B.F B.μ B.H F' μ' H' → Ok K mg F' μ' H' → Dt K mg F' v dv → Dd.rt dv μ' → D.rt v H')
end
theorem FLe.rfl' {F : Hp} : FLe F F := fun _ _ e => e
theorem FLe.trans {F F' F'' : Hp} (h : FLe F F') (g : FLe F' F'') : FLe F F'' := fun a o e => g a o (h a o e)
theorem _root_.L2.PE.weaken {X : Cx} {e : Expr} {t t' : TE} (h : PE X e t) (w : ∀ σ H Q, t' σ H Q → t σ H Q) : PE X e t' := ⟨fun pins s σ H Q I q => h.run pins s σ H Q I (w σ H Q q)⟩
theorem _root_.L2.PT.weaken {X : Cx} {e : Expr} {t t' : TT} (h : PT X e t) (w : ∀ σ H Q, t' σ H Q → t σ H Q) : PT X e t' := ⟨fun pins s σ H Q I q => h.run pins s σ H Q I (w σ H Q q)⟩
theorem _root_.L2.PW.weaken {X : Cx} {e : Expr} {t t' : TT} (h : PW X e t) (w : ∀ σ H Q, t' σ H Q → t σ H Q) : PW X e t' := ⟨fun wh pins s σ H Q I q => h.run wh pins s σ H Q I (w σ H Q q)⟩
theorem _root_.L2.PA.weaken {X : Cx} {e : List Expr} {t t' : TA} (h : PA X e t) (w : ∀ σ H Q, t' σ H Q → t σ H Q) : PA X e t' := ⟨fun pos pins s σ H Q I q => h.run pos pins s σ H Q I (w σ H Q q)⟩
theorem _root_.L2.PS.weaken {X : Cx} {e : Stmt} {t t' : TS} (h : PS X e t) (w : ∀ D σ H, t' D σ H → t D σ H) : PS X e t' := ⟨fun pins s σ H D I q => h.run pins s σ H D I (w D σ H q)⟩
theorem _root_.L2.PSs.weaken {X : Cx} {e : List Stmt} {t t' : TS} (h : PSs X e t) (w : ∀ D σ H, t' D σ H → t D σ H) : PSs X e t' := ⟨fun pins s σ H D I q => h.run pins s σ H D I (w D σ H q)⟩

abbrev DE (X : Cx) (e : Expr) (d : TED) : Prop := PE X e (liftE X.K X.mg d)
abbrev DW (X : Cx) (e : Expr) (d : TED) : Prop := PE X e (liftW X.K X.mg d)
abbrev DF (X : Cx) (e : Expr) (d : TFD) : Prop := PE X e (liftF X.K X.mg d)
abbrev DT (X : Cx) (e : Expr) (d : TTD) : Prop := PT X e (liftT X.K X.mg d)
abbrev DPW (X : Cx) (e : Expr) (d : TTD) : Prop := PW X e (liftT X.K X.mg d)
abbrev DA (X : Cx) (es : List Expr) (d : TAD) : Prop := PA X es (liftA X.K X.mg d)
abbrev DAW (X : Cx) (es : List Expr) (d : TAD) : Prop := PA X es (liftAW X.K X.mg d)
abbrev DSt (X : Cx) (B : Bs) (st : Stmt) (d : TSD) : Prop := PS X st (liftS X.K X.mg B d)
abbrev DSs (X : Cx) (B : Bs) (st : List Stmt) (d : TSD) : Prop := PSs X st (liftS X.K X.mg B d)
end DL

namespace DL
open PySem PySem.Spec PyProof.Rows L2

section
variable {K : PySem.W.Frag} {mg : Str → Option Value} {F F' H H' : Hp} {μ μ' : Sto} {x : V}
theorem Wk.ext {d : D} (e : Ext F μ H F' μ' H') (h : Wk K mg F μ H x d) : Wk K mg F' μ' H' x d := by
  rcases h with h | ⟨a, vs, xs, rfl, rfl, f, m, hh, r⟩
  · exact .inl (h.mono e.mono)
  · obtain ⟨h1, h2, h3⟩ := e.keep a _ hh m
    exact .inr ⟨a, vs, xs, rfl, rfl, h2.trans f, h3, h1, r.mono e.mono⟩
theorem Wk.int {i : Int} (h : Wk K mg F μ H x (.int i)) : x = .int i := by
  rcases h with h | ⟨_, _, _, _, e, _⟩
  · cases h; rfl
  · cases e
theorem Wk.bl {i : Bool} (h : Wk K mg F μ H x (.bl i)) : x = .bl i := by
  rcases h with h | ⟨_, _, _, _, e, _⟩
  · cases h; rfl
  · cases e
theorem Wk.non (h : Wk K mg F μ H x .non) : x = .non := by
  rcases h with h | ⟨_, _, _, _, e, _⟩
  · cases h; rfl
  · cases e
theorem Wk.str {s : List Nat} (h : Wk K mg F μ H x (.str s)) : x = .str (S s) := by
  rcases h with h | ⟨_, _, _, _, e, _⟩
  · cases h; rfl
  · cases e
theorem Wk.ref {a : Addr} (h : Wk K mg F μ H x (.ref a)) : x = .ref a := by
  rcases h with h | ⟨_, _, _, _, e, _⟩
  · cases h; rfl
  · cases e
theorem Wk.ty {n : String} (h : Wk K mg F μ H x (.ty n)) : x = .ty n := by
  rcases h with h | ⟨_, _, _, _, e, _⟩
  · cases h; rfl
  · cases e
theorem SqT.sub (o : Ok K mg F μ H) {a : Addr} {vs : List V} (h : SqT K F a vs) : SqT K H a vs := SqT.mono' o.sub h
theorem Wk.tup (o : Ok K mg F μ H) {ds : List D} (h : Wk K mg F μ H x (.tup ds)) : ∃ a vs, x = .ref a ∧ SqT K H a vs ∧ PlT F a vs ∧ Dts K mg F vs ds := by
  rcases h with h | ⟨_, _, _, _, e, _⟩
  · cases h with
    | tup q r => exact ⟨_, _, rfl, SqT.sub o q.sq, q, r⟩
  · cases e
theorem Wk.lst (o : Ok K mg F μ H) {ds : List D} (h : Wk K mg F μ H x (.lst ds)) : ∃ a vs, x = .ref a ∧ H a = some (.lst vs) ∧ Dts K mg F vs ds := by
  rcases h with h | ⟨a, vs, xs, rfl, e, f, m, hh, r⟩
  · cases h with
    | lst q r => exact ⟨_, _, rfl, o.sub _ _ q, r⟩
  · cases e
    exact ⟨a, vs, rfl, hh, r⟩
theorem Wk.scr (o : Ok K mg F μ H) {ns : List Int} (h : Wk K mg F μ H x (.scr ns)) : ∃ a, x = .ref a ∧ SqL K H a (ns.map V.int) := by
  rcases h with h | ⟨a, vs, xs, rfl, e, f, m, hh, r⟩
  · cases h with
    | scr q => exact ⟨_, rfl, SqL.mono' o.sub q⟩
  · cases e
theorem Wk.dct (o : Ok K mg F μ H) {ds : List (Key × D)} (h : Wk K mg F μ H x (.dct ds)) : ∃ a vs, x = .ref a ∧ H a = some (.dK vs) ∧ Dks K mg F vs ds := by
  rcases h with h | ⟨a, vs, xs, rfl, e, f, m, hh, r⟩
  · cases h with
    | dct q r => exact ⟨_, _, rfl, o.sub _ _ q, r⟩
  · cases e
/-- a new tuple -/
theorem newTup (o : Ok K mg F μ H) {vs : List V} {ds : List D} (r : Dts K mg F vs ds) {p : Addr} {ob : Obj} (hp : H p = none) (ho : ob.dict = none) :
    Ext F μ H (upd F p (.frz ob (.tup vs))) μ (upd H p (.frz ob (.tup vs))) ∧ Ok K mg (upd F p (.frz ob (.tup vs))) μ (upd H p (.frz ob (.tup vs))) ∧ Dt K mg (upd F p (.frz ob (.tup vs))) (.ref p) (.tup ds) := by
  obtain ⟨h1, h2⟩ := o.lay hp (.frz ob (.tup vs))
  exact ⟨h2, h1, .tup ⟨ob, ho, upd_same⟩ (r.mono h2.mono)⟩
/-- a new list that never changes -/
theorem newLst (o : Ok K mg F μ H) {vs : List V} {ds : List D} (r : Dts K mg F vs ds) {p : Addr} (hp : H p = none) : Ext F μ H (upd F p (.lst vs)) μ (upd H p (.lst vs)) ∧ Ok K mg (upd F p (.lst vs)) μ (upd H p (.lst vs)) ∧ Dt K mg (upd F p (.lst vs)) (.ref p) (.lst ds) := by
  obtain ⟨h1, h2⟩ := o.lay hp (.lst vs)
  exact ⟨h2, h1, .lst upd_same (r.mono h2.mono)⟩
end

mutual
def D.py : D → PyData
  | .non => .none | .bl b => .bool b | .int i => .int i | .str x => .str (S x)
  | .tup xs => .tuple (D.pys xs) | .lst xs => .list (D.pys xs) | .scr ns => .list (ns.map .int)
  | _ => .none
def D.pys : List D → List PyData
  | [] => []
  | x :: xs => x.py :: D.pys xs
end
mutual
/-- data without dicts, objects -/
def D.flat : D → Bool
  | .non => true | .bl _ => true | .int _ => true | .str _ => true
  | .tup xs => D.flats xs | .lst xs => D.flats xs
  | _ => false
def D.flats : List D → Bool
  | [] => true
  | x :: xs => x.flat && D.flats xs
end
section
variable {K : PySem.W.Frag} {mg : Str → Option Value} {F H : Hp} {μ : Sto}
mutual
theorem Dt.dp (hF : ∀ a o, F a = some o → H a = some o) : ∀ {v : V} {d : D}, Dt K mg F v d → d.flat = true → Dp K H v d.py
  | _, _, .non, _ => .non
  | _, _, .bl b, _ => .bl b
  | _, _, .int i, _ => .int i
  | _, _, .str x, _ => .str (S x)
  | _, _, .tup h r, q => .tup (SqT.mono' hF h.sq) (Dts.dp hF r q)
  | _, _, .lst h r, q => .lst (.inl (.inl (hF _ _ h))) (Dts.dp hF r q)
  | _, _, .dct _ _, q => nomatch q
  | _, _, .scr _, q => nomatch q
  | _, _, .ref _, q => nomatch q
  | _, _, .ty _, q => nomatch q
  | _, _, .gl _, q => nomatch q
  | _, _, .pr _ _ _, q => nomatch q
  | _, _, .obj _ _ _ _, q => nomatch q
  | _, _, .exn0 _ _ _ _, q => nomatch q
  | _, _, .exn1 _ _ _ _ _ _ _, q => nomatch q
theorem Dts.dp (hF : ∀ a o, F a = some o → H a = some o) : ∀ {vs : List V} {ds : List D}, Dts K mg F vs ds → D.flats ds = true → DpAll K H vs (D.pys ds)
  | _, _, .nil, _ => .nil
  | _, _, .cons h r, q => .cons (Dt.dp hF h (Bool.and_eq_true_iff.mp q).1) (Dts.dp hF r (Bool.and_eq_true_iff.mp q).2)
end
theorem Wk.dp (o : Ok K mg F μ H) {v : V} {d : D} (h : Wk K mg F μ H v d) (q : d.flat = true) : Dp K H v d.py := by
  rcases h with h | ⟨a, vs, xs, rfl, rfl, f, m, hh, r⟩
  · exact Dt.dp o.sub h q
  · exact .lst (.inl (.inl hh)) (Dts.dp o.sub r q)
end

abbrev RD2 := D → D → Sto → DK → Prop
def OpS (K : PySem.W.Frag) (mg : Str → Option Value) (r : R2) (rd : RD2) : Prop :=
  ∀ (F : Hp) (μ : Sto) (H : Hp) (x y : V) (dx dy : D) (Qd : DK) (Q : VK), Ok K mg F μ H → Wk K mg F μ H x dx → Wk K mg F μ H y dy → rd dx dy μ Qd →
    (∀ v F' μ' H' dv, Ext F μ H F' μ' H' → Ok K mg F' μ' H' → Dt K mg F' v dv → Qd dv μ' → Q v H') → r x y H Q
@[simp] def dOp (rd : RD2) (a b : TED) : TED := fun ρ μ Q => a ρ μ fun x μ1 => b ρ μ1 fun y μ2 => rd x y μ2 Q
section
variable {X : Cx} {a b c e : Expr} {da db dc : TED} {pos : Pos} {K : PySem.W.Frag} {mg : Str → Option Value}
theorem lift_op {r : R2} {rd : RD2} (hs : OpS K mg r rd) {σ : L2.St} {H : Hp} {Q : VK} (h : liftE K mg (dOp rd da db) σ H Q) : tOp r (liftW K mg da) (liftW K mg db) σ H Q := by
  obtain ⟨F, ρ, μ, Qd, R, hd, k⟩ := h
  refine ⟨F, ρ, μ, _, R, hd, fun v F1 μ1 H1 dv e1 o1 w1 q1 => ?_⟩
  refine ⟨F1, ρ, μ1, _, R.ext e1 o1, q1, fun u F2 μ2 H2 du e2 o2 w2 q2 => ?_⟩
  exact hs F2 μ2 H2 v u dv du _ _ o2 (w1.ext e2) w2 q2 fun z F3 μ3 H3 dz e3 o3 w3 q3 => k z F3 μ3 H3 dz (e1.trans (e2.trans e3)) o3 w3 q3
theorem lift_W {d : TED} {σ : L2.St} {H : Hp} {Q : VK} (h : liftW K mg d σ H Q) : liftE K mg d σ H Q := by
  obtain ⟨F, ρ, μ, Qd, R, hd, k⟩ := h
  exact ⟨F, ρ, μ, Qd, R, hd, fun v F' μ' H' dv e o w q => k v F' μ' H' dv e o (.inl w) q⟩
theorem dw {d : TED} (h : DE X e d) : DW X e d := h.weaken fun _ _ _ q => lift_W q
theorem de_op {op : Operator} {r : R2} {rd : RD2} (ho : OpR X (binaryOp op) r) (hs : OpS X.K X.mg r rd) (ha : DW X a da) (hb : DW X b db) : DE X (.BinOp a op b pos) (dOp rd da db) :=
  (pe_op ho ha hb).weaken fun _ _ _ q => lift_op hs q
theorem de_cmp {op : CmpOp} {r : R2} {rd : RD2} (ho : OpR X (compareOp op) r) (hs : OpS X.K X.mg r rd) (ha : DW X a da) (hb : DW X b db) (hm : behindInMarks op b = false) : DE X (.Compare a [op] [b] pos) (dOp rd da db) :=
  (pe_cmpR ho ha hb hm).weaken fun _ _ _ q => lift_op hs q
/-- a test that is a value -/
def blK : D → (Bool → Prop) → Prop
  | .bl b, K => K b
  | _, _ => False
@[simp] theorem blK_1 : blK  (.bl b0) K0 = (K0 b0) := rfl
theorem blK_iff {x : D} {K : Bool → Prop} (h : blK x K) : ∃ b, x = .bl b ∧ K b := by
  cases x <;> first | exact h.elim | exact ⟨_, rfl, h⟩
@[simp] def dB (d : TED) : TTD := fun ρ μ Q => d ρ μ fun x μ1 => blK x fun b => Q b μ1
theorem dt_cmp {op : CmpOp} {r : R2} {rd : RD2} (ho : OpR X (compareOp op) r) (hs : OpS X.K X.mg r rd) (ha : DW X a da) (hb : DW X b db) (hm : behindInMarks op b = false) : DT X (.Compare a [op] [b] pos) (dB (dOp rd da db)) :=
  (pt_cmpR ho ha hb hm).weaken fun σ H Q q => by
    obtain ⟨F, ρ, μ, Qd, R, hd, k⟩ := q
    refine lift_op hs ⟨F, ρ, μ, _, R, hd, fun v F' μ' H' dv e o w q => ?_⟩
    obtain ⟨b, rfl, q⟩ := blK_iff q
    cases w
    exact ⟨b, rfl, k b F' μ' H' e o q⟩
theorem dt_val (h : DE X e da) (he : ∀ whole, isTrue e X.env whole = (do let v ← whole; standAt e.pos; holding [v] (truthy v)) := by intro _; rfl) : DT X e (dB da) :=
  (pt_val h he).weaken fun σ H Q q => by
    obtain ⟨F, ρ, μ, Qd, R, hd, k⟩ := q
    refine ⟨F, ρ, μ, _, R, hd, fun v F' μ' H' dv e o w q => ?_⟩
    obtain ⟨b, rfl, q⟩ := blK_iff q
    cases w
    exact ⟨b, rfl, k b F' μ' H' e o q⟩

@[simp] def dVar (i : Nat) : TED := fun ρ μ Q => ∃ d, ρ[i]? = some (some (.val d)) ∧ Q d μ
/-- .. only looked at -/
@[simp] def dLook (i : Nat) : TED := fun ρ μ Q => match ρ[i]? with | some (some (.val d)) => Q d μ | some (some (.own xs)) => Q (.lst xs) μ | _ => False
@[simp] def dC (d : D) : TED := fun _ μ Q => Q d μ
theorem de_var {i : Nat} {x : Str} (h : PE X (.Name x pos) (tVar i)) : DE X (.Name x pos) (dVar i) := h.weaken fun σ H Q q => by
  obtain ⟨F, ρ, μ, Qd, R, ⟨d, hd, q⟩, k⟩ := q
  obtain ⟨v, h1, h2⟩ := R.slot i _ hd
  exact ⟨v, h1, k v F μ H d .refl R.ok h2 q⟩
theorem dw_var {i : Nat} {x : Str} (h : PE X (.Name x pos) (tVar i)) : DW X (.Name x pos) (dLook i) := h.weaken fun σ H Q q => by
  obtain ⟨F, ρ, μ, Qd, R, q, k⟩ := q
  cases e : ρ[i]? with
  | none => simp [dLook, e] at q
  | some o =>
    cases o with
    | none => simp [dLook, e] at q
    | some s =>
      obtain ⟨v, h1, h2⟩ := R.slot i _ e
      cases s with
      | val d => exact ⟨v, h1, k v F μ H d .refl R.ok (.inl h2) (by simpa [dLook, e] using q)⟩
      | own xs =>
        obtain ⟨a, vs, rfl, f, m, hh, r⟩ := h2
        exact ⟨_, h1, k _ F μ H (.lst xs) .refl R.ok (.inr ⟨a, vs, xs, rfl, rfl, f, m, hh, r⟩) (by simpa [dLook, e] using q)⟩
theorem de_c {v : V} {d : D} (h : PE X e (tC v)) (hd : ∀ F, Dt X.K X.mg F v d) : DE X e (dC d) := h.weaken fun σ H Q q => by
  obtain ⟨F, ρ, μ, Qd, R, q, k⟩ := q
  exact k v F μ H d .refl R.ok (hd F) q
theorem de_int {i j pos} : DE X (.Constant (.int i) j pos) (dC (.int i)) := de_c pe_int fun _ => .int i
theorem de_bl {b j pos} : DE X (.Constant (.bool b) j pos) (dC (.bl b)) := de_c pe_bl fun _ => .bl b
theorem de_non {j pos} : DE X (.Constant .none j pos) (dC .non) := de_c pe_non fun _ => .non
theorem de_str {x : Str} {j pos} (s : List Nat) (h : x = S s := by decide +kernel) : DE X (.Constant (.str x) j pos) (dC (.str s)) := de_c pe_str fun _ => by subst h; exact .str s
theorem de_glob {x : Str} {v : V} {u : Value} {d : D} (hg : Gl X x) (hm : X.mg x = some u) (r : RelV v u) (hd : ∀ F, Dt X.K X.mg F v d) (hdb : (x == ("__debug__" : Str)) = false := by decide) : DE X (.Name x pos) (dC d) := de_c (pe_glob hg hm r hdb) hd

@[simp] def dNot (t : TTD) : TTD := fun ρ μ Q => t ρ μ fun b μ1 => Q (!b) μ1
@[simp] def dAnd (t u : TTD) : TTD := fun ρ μ Q => t ρ μ fun b μ1 => if b = true then u ρ μ1 Q else Q false μ1
@[simp] def dOr (t u : TTD) : TTD := fun ρ μ Q => t ρ μ fun b μ1 => if b = true then Q true μ1 else u ρ μ1 Q
@[simp] def dIf (t : TTD) (a b : TED) : TED := fun ρ μ Q => t ρ μ fun c μ1 => if c = true then a ρ μ1 Q else b ρ μ1 Q
variable {ta tb : TTD} {rest : List Expr}
theorem dt_not (h : DT X a ta) : DT X (.UnaryOp .Not a pos) (dNot ta) := (pt_not h).weaken fun σ H Q q => by
  obtain ⟨F, ρ, μ, Qd, R, hd, k⟩ := q
  exact ⟨F, ρ, μ, _, R, hd, fun b F' μ' H' e o q => k (!b) F' μ' H' e o q⟩
theorem dpw_and1 (ha : DT X a ta) : DPW X (.BoolOp .And [a] pos) ta := pw_and1 ha
theorem dpw_or1 (ha : DT X a ta) : DPW X (.BoolOp .Or [a] pos) ta := pw_or1 ha
theorem dpw_and (ha : DT X a ta) (hb : DPW X (.BoolOp .And (b :: rest) pos) tb) : DPW X (.BoolOp .And (a :: b :: rest) pos) (dAnd ta tb) := (pw_and ha hb).weaken fun σ H Q q => by
  obtain ⟨F, ρ, μ, Qd, R, hd, k⟩ := q
  refine ⟨F, ρ, μ, _, R, hd, fun b F1 μ1 H1 e1 o1 q1 => ?_⟩
  cases b with
  | true => exact ⟨F1, ρ, μ1, _, R.ext e1 o1, q1, fun c F2 μ2 H2 e2 o2 q2 => k c F2 μ2 H2 (e1.trans e2) o2 q2⟩
  | false => exact k false F1 μ1 H1 e1 o1 q1
theorem dpw_or (ha : DT X a ta) (hb : DPW X (.BoolOp .Or (b :: rest) pos) tb) : DPW X (.BoolOp .Or (a :: b :: rest) pos) (dOr ta tb) := (pw_or ha hb).weaken fun σ H Q q => by
  obtain ⟨F, ρ, μ, Qd, R, hd, k⟩ := q
  refine ⟨F, ρ, μ, _, R, hd, fun b F1 μ1 H1 e1 o1 q1 => ?_⟩
  cases b with
  | false => exact ⟨F1, ρ, μ1, _, R.ext e1 o1, q1, fun c F2 μ2 H2 e2 o2 q2 => k c F2 μ2 H2 (e1.trans e2) o2 q2⟩
  | true => exact k true F1 μ1 H1 e1 o1 q1
theorem DPW.dt (h : DPW X e ta) : DT X e ta := PW.pt h
/-- .. as values, all but the last True or False -/
@[simp] def dAndV (a b : TED) : TED := fun ρ μ Q => a ρ μ fun x μ1 => blK x fun c => if c = true then b ρ μ1 Q else Q (.bl false) μ1
@[simp] def dOrV (a b : TED) : TED := fun ρ μ Q => a ρ μ fun x μ1 => blK x fun c => if c = true then Q (.bl true) μ1 else b ρ μ1 Q
@[simp] def dNotV (a : TED) : TED := fun ρ μ Q => a ρ μ fun x μ1 => blK x fun c => Q (.bl (!c)) μ1
theorem de_one {op} (h : DE X a da) : DE X (.BoolOp op [a] pos) da := pe_one h
theorem de_and (ha : DE X a da) (hb : DE X (.BoolOp .And (b :: rest) pos) db) : DE X (.BoolOp .And (a :: b :: rest) pos) (dAndV da db) := (pe_and ha hb).weaken fun σ H Q q => by
  obtain ⟨F, ρ, μ, Qd, R, hd, k⟩ := q
  refine ⟨F, ρ, μ, _, R, hd, fun v F1 μ1 H1 dv e1 o1 w1 q1 => ?_⟩
  obtain ⟨c, rfl, q1⟩ := blK_iff q1
  cases w1
  refine ⟨c, rfl, ?_⟩
  cases c with
  | true => exact ⟨F1, ρ, μ1, _, R.ext e1 o1, q1, fun c F2 μ2 H2 d2 e2 o2 w2 q2 => k c F2 μ2 H2 d2 (e1.trans e2) o2 w2 q2⟩
  | false => exact k _ F1 μ1 H1 _ e1 o1 (.bl false) q1
theorem de_not (ha : DE X a da) : DE X (.UnaryOp .Not a pos) (dNotV da) := (pe_not ha).weaken fun σ H Q q => by
  obtain ⟨F, ρ, μ, Qd, R, hd, k⟩ := q
  refine ⟨F, ρ, μ, _, R, hd, fun v F1 μ1 H1 dv e1 o1 w1 q1 => ?_⟩
  obtain ⟨c, rfl, q1⟩ := blK_iff q1
  cases w1
  exact ⟨c, rfl, k _ F1 μ1 H1 _ e1 o1 (.bl _) q1⟩
theorem de_if {t : Expr} (ht : DT X t ta) (ha : DE X a da) (hb : DE X b db) : DE X (.IfExp t a b pos) (dIf ta da db) := (pe_ifExp ht ha hb).weaken fun σ H Q q => by
  obtain ⟨F, ρ, μ, Qd, R, hd, k⟩ := q
  refine ⟨F, ρ, μ, _, R, hd, fun c F1 μ1 H1 e1 o1 q1 => ?_⟩
  cases c with
  | true => exact ⟨F1, ρ, μ1, _, R.ext e1 o1, q1, fun c F2 μ2 H2 d2 e2 o2 w2 q2 => k c F2 μ2 H2 d2 (e1.trans e2) o2 w2 q2⟩
  | false => exact ⟨F1, ρ, μ1, _, R.ext e1 o1, q1, fun c F2 μ2 H2 d2 e2 o2 w2 q2 => k c F2 μ2 H2 d2 (e1.trans e2) o2 w2 q2⟩

@[simp] def dNeg (a : TED) : TED := fun ρ μ Q => a ρ μ fun x μ1 => ∃ i, x = .int i ∧ Q (.int (-i)) μ1
theorem de_neg (ha : DE X a da) : DE X (.UnaryOp .USub a pos) (dNeg da) := (pe_un un_neg ha).weaken fun σ H Q q => by
  obtain ⟨F, ρ, μ, Qd, R, hd, k⟩ := q
  refine ⟨F, ρ, μ, _, R, hd, fun v F1 μ1 H1 dv e1 o1 w1 q1 => ?_⟩
  obtain ⟨i, rfl, q1⟩ := q1
  cases w1
  exact ⟨i, rfl, k _ F1 μ1 H1 _ e1 o1 (.int _) q1⟩

@[simp] def dChain (r r' : RD2) (a b c : TED) : TED := fun ρ μ Q => a ρ μ fun x μ1 => b ρ μ1 fun y μ2 => r x y μ2 fun z μ3 => blK z fun k => (if k = true then c ρ μ3 fun w μ4 => r' y w μ4 Q else Q (.bl false) μ3)
theorem lift_chain {r r' : R2} {rd rd' : RD2} (hs : OpS K mg r rd) (hs' : OpS K mg r' rd') {σ : L2.St} {H : Hp} {Q : VK} (h : liftE K mg (dChain rd rd' da db dc) σ H Q) : tChain r r' (liftW K mg da) (liftW K mg db) (liftW K mg dc) σ H Q := by
  obtain ⟨F, ρ, μ, Qd, R, hd, k⟩ := h
  refine ⟨F, ρ, μ, _, R, hd, fun v F1 μ1 H1 dv e1 o1 w1 q1 => ?_⟩
  refine ⟨F1, ρ, μ1, _, R.ext e1 o1, q1, fun u F2 μ2 H2 du e2 o2 w2 q2 => ?_⟩
  refine hs F2 μ2 H2 v u dv du _ _ o2 (w1.ext e2) w2 q2 fun z F3 μ3 H3 dz e3 o3 w3 q3 => ?_
  obtain ⟨b, rfl, q3⟩ := blK_iff q3
  cases w3
  refine ⟨b, rfl, ?_⟩
  cases b with
  | false => exact k _ F3 μ3 H3 _ (e1.trans (e2.trans e3)) o3 (.bl false) q3
  | true =>
    refine ⟨F3, ρ, μ3, _, R.ext (e1.trans (e2.trans e3)) o3, q3, fun t F4 μ4 H4 dt e4 o4 w4 q4 => ?_⟩
    exact hs' F4 μ4 H4 u t du dt _ _ o4 ((w2.ext e3).ext e4) w4 q4 fun z F5 μ5 H5 dz e5 o5 w5 q5 => k z F5 μ5 H5 dz (e1.trans (e2.trans (e3.trans (e4.trans e5)))) o5 w5 q5
theorem de_chain {op op' : CmpOp} {r r' : R2} {rd rd' : RD2} (ho : OpR X (compareOp op) r) (hs : OpS X.K X.mg r rd) (ho' : OpR X (compareOp op') r') (hs' : OpS X.K X.mg r' rd') (ha : DW X a da) (hb : DW X b db) (hc : DW X c dc)
    (hm : lastMarks [op, op'] [b, c] = false := by with_unfolding_all rfl) : DE X (.Compare a [op, op'] [b, c] pos) (dChain rd rd' da db dc) :=
  (pe_chain ho ho' ha hb hc hm).weaken fun _ _ _ q => lift_chain hs hs' q
end
end DL

namespace DL
open PySem PySem.Spec PyProof.Rows L2

theorem S_len (l : List Nat) : (S l).length = l.length := by show l.toArray.size = l.length; simp
theorem S_app (l r : List Nat) : S l ++ S r = S (l ++ r) := by
  show (⟨l.toArray ++ r.toArray⟩ : Str) = ⟨(l ++ r).toArray⟩
  simp
theorem S_list (l : List Nat) : (S l).cps.toList = l := by simp
theorem S_inj {l r : List Nat} : S l = S r ↔ l = r := by
  constructor
  · intro h
    have := congrArg (fun z : Str => z.cps.toList) h
    simpa using this
  · intro h; rw [h]
theorem S_of (z : Str) : S z.cps.toList = z := by
  show (⟨z.cps.toList.toArray⟩ : Str) = z
  simp

/-- two whole numbers under a condition -/
def rdI (C : Int → Int → Prop) (g : Int → Int → D) : RD2
  | .int i, .int j, μ, Q => C i j ∧ Q (g i j) μ
  | _, _, _, _ => False
@[simp] theorem rdI_1 (C : Int → Int → Prop) (g : Int → Int → D) {i j : Int} {μ : Sto} {Q : DK} : rdI C g (.int i) (.int j) μ Q = (C i j ∧ Q (g i j) μ) := rfl
def mulOk (i j : Int) : Prop := (-18446744073709551616 < i ∧ i < 18446744073709551616) ∨ (-18446744073709551616 < j ∧ j < 18446744073709551616) ∨ i.natAbs.log2 + j.natAbs.log2 < 1000000
def powOk (i j : Int) : Prop := 0 ≤ j ∧ j ≤ 1000000 ∧ i.natAbs < 18446744073709551616
def divOk (j : Int) : Prop := 0 < j ∧ (j < 1073741824 ∨ j.natAbs.log2 < 9000)
@[simp] abbrev SZ : Nat := 16777216
def repl {α : Type} (n : Nat) (l : List α) : List α := (List.replicate n l).flatten
def rdAdd : RD2
  | .int i, .int j, μ, Q => Q (.int (i + j)) μ
  | .str s, .str t, μ, Q => s.length + t.length ≤ SZ ∧ Q (.str (s ++ t)) μ
  | .tup s, .tup t, μ, Q => s.length + t.length ≤ SZ ∧ Q (.tup (s ++ t)) μ
  | .lst s, .lst t, μ, Q => s.length + t.length ≤ SZ ∧ Q (.lst (s ++ t)) μ
  | .int i, .bl k, μ, Q => Q (.int (i + b2i k)) μ
  | .ref a, .lst t, μ, Q => ∃ s, μ a = some (.lst s) ∧ s.length + t.length ≤ SZ ∧ Q (.lst (s ++ t)) μ
  | _, _, _, _ => False
@[simp] theorem rdAdd_1 : rdAdd  (.int i0) (.int j0) μ0 Q0 = (Q0 (.int (i0 + j0)) μ0) := rfl
@[simp] theorem rdAdd_2 : rdAdd  (.str s0) (.str t0) μ0 Q0 = (s0.length + t0.length ≤ SZ ∧ Q0 (.str (s0 ++ t0)) μ0) := rfl
@[simp] theorem rdAdd_3 : rdAdd  (.tup s0) (.tup t0) μ0 Q0 = (s0.length + t0.length ≤ SZ ∧ Q0 (.tup (s0 ++ t0)) μ0) := rfl
@[simp] theorem rdAdd_4 : rdAdd  (.lst s0) (.lst t0) μ0 Q0 = (s0.length + t0.length ≤ SZ ∧ Q0 (.lst (s0 ++ t0)) μ0) := rfl
@[simp] theorem rdAdd_5 : rdAdd  (.int i0) (.bl k0) μ0 Q0 = (Q0 (.int (i0 + b2i k0)) μ0) := rfl
@[simp] theorem rdAdd_6 : rdAdd  (.ref a0) (.lst t0) μ0 Q0 = (∃ s, μ0 a0 = some (.lst s) ∧ s.length + t0.length ≤ SZ ∧ Q0 (.lst (s ++ t0)) μ0) := rfl
def rdSub : RD2 := rdI (fun _ _ => True) fun i j => .int (i - j)
def rdMul : RD2
  | .int i, .int j, μ, Q => mulOk i j ∧ Q (.int (i * j)) μ
  | .str s, .int n, μ, Q => n ≤ 1000000 ∧ -1000000 ≤ n ∧ s.length * n.toNat ≤ SZ ∧ Q (.str (repl n.toNat s)) μ
  | .tup s, .int n, μ, Q => -1000 ≤ n ∧ n ≤ 1000 ∧ s.length ≤ 1000 ∧ Q (.tup (repl n.toNat s)) μ
  | .lst s, .int n, μ, Q => n ≤ 1000000 ∧ -1000000 ≤ n ∧ s.length * n.toNat ≤ SZ ∧ Q (.lst (repl n.toNat s)) μ
  | _, _, _, _ => False
@[simp] theorem rdMul_1 : rdMul  (.int i0) (.int j0) μ0 Q0 = (mulOk i0 j0 ∧ Q0 (.int (i0 * j0)) μ0) := rfl
@[simp] theorem rdMul_2 : rdMul  (.str s0) (.int n0) μ0 Q0 = (n0 ≤ 1000000 ∧ -1000000 ≤ n0 ∧ s0.length * n0.toNat ≤ SZ ∧ Q0 (.str (repl n0.toNat s0)) μ0) := rfl
@[simp] theorem rdMul_3 : rdMul  (.tup s0) (.int n0) μ0 Q0 = (-1000 ≤ n0 ∧ n0 ≤ 1000 ∧ s0.length ≤ 1000 ∧ Q0 (.tup (repl n0.toNat s0)) μ0) := rfl
@[simp] theorem rdMul_4 : rdMul  (.lst s0) (.int n0) μ0 Q0 = (n0 ≤ 1000000 ∧ -1000000 ≤ n0 ∧ s0.length * n0.toNat ≤ SZ ∧ Q0 (.lst (repl n0.toNat s0)) μ0) := rfl
def rdMod : RD2 := rdI (fun _ j => 0 < j) fun i j => .int (i % j)
def rdDiv : RD2 := rdI (fun _ j => divOk j) fun i j => .int (i / j)
def rdPow : RD2 := rdI powOk fun i j => .int (i ^ j.toNat)
def rdShl : RD2 := rdI powOk fun i j => .int (i * 2 ^ j.toNat)
def rdShr : RD2 := rdI (fun _ j => 0 ≤ j) fun i j => .int (i / 2 ^ j.toNat)
def rdAnd : RD2 := rdI (fun _ _ => True) fun i j => .int (Builtin.bitAnd i j)
def rdLt : RD2
  | .int i, .int j, μ, Q => Q (.bl (decide (i < j))) μ
  | .str s, .str t, μ, Q => Q (.bl (decide (s < t))) μ
  | _, _, _, _ => False
@[simp] theorem rdLt_1 : rdLt  (.int i0) (.int j0) μ0 Q0 = (Q0 (.bl (decide (i0 < j0))) μ0) := rfl
@[simp] theorem rdLt_2 : rdLt  (.str s0) (.str t0) μ0 Q0 = (Q0 (.bl (decide (s0 < t0))) μ0) := rfl
def rdLe : RD2 := rdI (fun _ _ => True) fun i j => .bl (decide (i ≤ j))
def rdGt : RD2 := rdI (fun _ _ => True) fun i j => .bl (decide (j < i))
def rdGe : RD2 := rdI (fun _ _ => True) fun i j => .bl (decide (j ≤ i))
@[simp] theorem rdSub_i {i j : Int} {μ : Sto} {Q : DK} : rdSub (.int i) (.int j) μ Q = (Q (.int (i - j)) μ) := by simp [rdSub]
@[simp] theorem rdMod_i {i j : Int} {μ : Sto} {Q : DK} : rdMod (.int i) (.int j) μ Q = (0 < j ∧ Q (.int (i % j)) μ) := by simp [rdMod]
@[simp] theorem rdDiv_i {i j : Int} {μ : Sto} {Q : DK} : rdDiv (.int i) (.int j) μ Q = (divOk j ∧ Q (.int (i / j)) μ) := by simp [rdDiv]
@[simp] theorem rdPow_i {i j : Int} {μ : Sto} {Q : DK} : rdPow (.int i) (.int j) μ Q = (powOk i j ∧ Q (.int (i ^ j.toNat)) μ) := by simp [rdPow]
@[simp] theorem rdShl_i {i j : Int} {μ : Sto} {Q : DK} : rdShl (.int i) (.int j) μ Q = (powOk i j ∧ Q (.int (i * 2 ^ j.toNat)) μ) := by simp [rdShl]
@[simp] theorem rdShr_i {i j : Int} {μ : Sto} {Q : DK} : rdShr (.int i) (.int j) μ Q = (0 ≤ j ∧ Q (.int (i / 2 ^ j.toNat)) μ) := by simp [rdShr]
@[simp] theorem rdAnd_i {i j : Int} {μ : Sto} {Q : DK} : rdAnd (.int i) (.int j) μ Q = (Q (.int (Builtin.bitAnd i j)) μ) := by simp [rdAnd]
@[simp] theorem rdLe_i {i j : Int} {μ : Sto} {Q : DK} : rdLe (.int i) (.int j) μ Q = (Q (.bl (decide (i ≤ j))) μ) := by simp [rdLe]
@[simp] theorem rdGt_i {i j : Int} {μ : Sto} {Q : DK} : rdGt (.int i) (.int j) μ Q = (Q (.bl (decide (j < i))) μ) := by simp [rdGt]
@[simp] theorem rdGe_i {i j : Int} {μ : Sto} {Q : DK} : rdGe (.int i) (.int j) μ Q = (Q (.bl (decide (j ≤ i))) μ) := by simp [rdGe]
/-- are two data equal -/
def D.eqv (x y : D) : Bool := PyData.eqv x.py y.py
def scD : D → D → Bool
  | .int _, .int _ => true
  | .str _, .str _ => true
  | _, _ => false
def okEq (x y : D) : Prop := scD x y = true ∨ (x.flat = true ∧ y.flat = true ∧ SeqAt.shaped x.py = true ∧ SeqAt.shaped y.py = true)
@[simp] def rdEq : RD2 := fun x y μ Q => okEq x y ∧ Q (.bl (D.eqv x y)) μ
@[simp] def rdNe : RD2 := fun x y μ Q => okEq x y ∧ Q (.bl (!D.eqv x y)) μ
@[simp] def isNonD : D → Bool
  | .non => true
  | _ => false
def rdIs : RD2
  | x, .non, μ, Q => Q (.bl (isNonD x)) μ
  | _, _, _, _ => False
@[simp] theorem rdIs_1 : rdIs  x0 (.non) μ0 Q0 = (Q0 (.bl (isNonD x0)) μ0) := rfl
def rdIsNot : RD2
  | x, .non, μ, Q => Q (.bl (!isNonD x)) μ
  | _, _, _, _ => False
@[simp] theorem rdIsNot_1 : rdIsNot  x0 (.non) μ0 Q0 = (Q0 (.bl (!isNonD x0)) μ0) := rfl

section
variable {K : PySem.W.Frag} {mg : Str → Option Value}
theorem ops_I {C : Int → Int → Prop} {C' : Int → Int → Prop} {g : Int → Int → V} {g' : Int → Int → D} (hC : ∀ i j, C' i j → C i j) (hg : ∀ i j F, Dt K mg F (g i j) (g' i j)) : OpS K mg (rI C g) (rdI C' g') := by
  intro F μ H x y dx dy Qd Q o wx wy h k
  cases dx <;> cases dy <;> first | exact h.elim | skip
  obtain ⟨h1, h2⟩ := h
  exact ⟨_, _, wx.int, wy.int, hC _ _ h1, k _ F μ H _ .refl o (hg _ _ F) h2⟩
theorem ops_I0 {C' : Int → Int → Prop} {g : Int → Int → V} {g' : Int → Int → D} (hg : ∀ i j F, Dt K mg F (g i j) (g' i j)) : OpS K mg (rI0 g) (rdI C' g') := by
  intro F μ H x y dx dy Qd Q o wx wy h k
  cases dx <;> cases dy <;> first | exact h.elim | skip
  obtain ⟨h1, h2⟩ := h
  exact ⟨_, _, wx.int, wy.int, k _ F μ H _ .refl o (hg _ _ F) h2⟩
/-- one value, the heap as it stands -/
theorem fin0 {F : Hp} {μ : Sto} {H : Hp} {Qd : DK} {Q : VK} (o : Ok K mg F μ H) (k : ∀ v F' μ' H' dv, Ext F μ H F' μ' H' → Ok K mg F' μ' H' → Dt K mg F' v dv → Qd dv μ' → Q v H') {v : V} {d : D} (h : Dt K mg F v d) (q : Qd d μ) : Q v H :=
  k v F μ H d .refl o h q
def rAddA (K : PySem.W.Frag) : R2 := fun x y H Q => (rI0 (fun i j => .int (i + j)) x y H Q ∨ (∃ i j, x = .str i ∧ y = .str j ∧ i.length + j.length ≤ sizeLine ∧ Q (.str (i ++ j)) H)) ∨ ((rCatZ K x y H Q ∨ rCat x y H Q) ∨ (∃ i k, x = .int i ∧ y = .bl k ∧ Q (.int (i + b2i k)) H))
theorem op_addA {X : Cx} : OpR X (binaryOp .Add) (rAddA X.K) := .or (.or op_add op_add_str) (.or (.or op_catZ op_cat) op_add_ib)
theorem ops_add : OpS K mg (rAddA K) rdAdd := by
  intro F μ H x y dx dy Qd Q o wx wy h k
  cases dx <;> cases dy <;> first | exact h.elim | skip
  · exact .inr (.inr ⟨_, _, wx.int, wy.bl, fin0 o k (.int _) h⟩)
  · exact .inl (.inl ⟨_, _, wx.int, wy.int, fin0 o k (.int _) h⟩)
  · obtain ⟨h1, h2⟩ := h
    refine .inl (.inr ⟨_, _, wx.str, wy.str, ?_, ?_⟩)
    · rw [S_len, S_len, sizeLine_eq]; exact h1
    · rw [S_app]; exact fin0 o k (.str _) h2
  · obtain ⟨h1, h2⟩ := h
    obtain ⟨a, vs, rfl, ha, _, ra⟩ := wx.tup o
    obtain ⟨b, ws, rfl, hb, _, rb⟩ := wy.tup o
    refine .inr (.inl (.inl ⟨a, b, vs, ws, rfl, rfl, ha, hb, ?_, fun e => ?_, fun e1 e2 => ?_, fun e1 e2 p ob hp hob => ?_⟩))
    · rw [ra.length, rb.length, sizeLine_eq]; exact h1
    · subst e; cases ra
      rcases wy with wy | ⟨_, _, _, _, q, _⟩
      · exact fin0 o k wy h2
      · cases q
    · subst e2; cases rb
      rw [List.append_nil] at h2
      rcases wx with wx | ⟨_, _, _, _, q, _⟩
      · exact fin0 o k wx h2
      · cases q
    · obtain ⟨g1, g2, g3⟩ := newTup o (ra.append rb) hp hob
      exact k _ _ _ _ _ g1 g2 g3 h2
  · obtain ⟨h1, h2⟩ := h
    obtain ⟨a, vs, rfl, ha, ra⟩ := wx.lst o
    obtain ⟨b, ws, rfl, hb, rb⟩ := wy.lst o
    refine .inr (.inl (.inr ⟨a, b, vs, ws, rfl, rfl, ha, hb, ?_, fun p hp => ?_⟩))
    · rw [ra.length, rb.length, sizeLine_eq]; exact h1
    · obtain ⟨g1, g2, g3⟩ := newLst o (ra.append rb) hp
      exact k _ _ _ _ _ g1 g2 g3 h2
  · obtain ⟨us, h0, h1, h2⟩ := h
    cases wx.ref
    obtain ⟨vs, ha, ra⟩ := o.sto _ _ h0
    obtain ⟨b, ws, rfl, hb, rb⟩ := wy.lst o
    refine .inr (.inl (.inr ⟨_, b, vs, ws, rfl, rfl, ha, hb, ?_, fun p hp => ?_⟩))
    · rw [ra.length, rb.length, sizeLine_eq]; exact h1
    · obtain ⟨g1, g2, g3⟩ := newLst o (ra.append rb) hp
      exact k _ _ _ _ _ g1 g2 g3 h2
theorem ops_sub : OpS K mg (rI0 fun i j => .int (i - j)) rdSub := ops_I0 fun _ _ _ => .int _
theorem ops_mod : OpS K mg (rI (fun _ j => 0 < j) fun i j => .int (i % j)) rdMod := ops_I (fun _ _ h => h) fun _ _ _ => .int _
theorem ops_pow : OpS K mg (rI CPow fun i j => .int (i ^ j.toNat)) rdPow := ops_I (fun _ _ h => h) fun _ _ _ => .int _
def rDivA : R2 := fun x y H Q => rI CDiv (fun i j => .int (i / j)) x y H Q ∨ rI CDivW (fun i j => .int (i / j)) x y H Q
theorem op_divA {X : Cx} : OpR X (binaryOp .FloorDiv) rDivA := .or op_fdiv op_fdivW
theorem ops_div : OpS K mg rDivA rdDiv := by
  intro F μ H x y dx dy Qd Q o wx wy h k
  cases dx <;> cases dy <;> first | exact h.elim | skip
  obtain ⟨⟨h0, h1 | h1⟩, h2⟩ := h
  · exact .inl ⟨_, _, wx.int, wy.int, ⟨h0, h1⟩, fin0 o k (.int _) h2⟩
  · exact .inr ⟨_, _, wx.int, wy.int, ⟨h0, h1⟩, fin0 o k (.int _) h2⟩
/-- text * int -/
def rRepS : R2 := fun x y H Q => ∃ s n, x = .str s ∧ y = .int n ∧ PySem.MulOk s n ∧ Q (.str (PySem.Txt.mul s n)) H
theorem op_repS {X : Cx} : OpR X (binaryOp .Mult) rRepS := by
  intro pins s σ H x y v u Q I rx ry h
  obtain ⟨z, n, rfl, rfl, hm, q⟩ := h
  obtain ⟨t, rfl⟩ := rx
  obtain ⟨t', rfl⟩ := ry
  exact PySem.SB.mul hm fun t' k => ⟨.str _, H, I.tok _, ⟨_, rfl⟩, q⟩
theorem repl_one {α : Type} (l : List α) : repl 1 l = l := by simp [repl]
theorem flat_const {α : Type} (l : List α) : ∀ n : Nat, (List.replicate (n + 1) l).flatten = l ++ (List.replicate n l).flatten := fun n => by rw [List.replicate_succ, List.flatten_cons]
end
end DL

namespace DL
open PySem PySem.Spec PyProof.Rows L2
section
variable {K : PySem.W.Frag} {mg : Str → Option Value}

theorem foldl_arr (l : List Nat) : ∀ (n : Nat) (acc : List Nat), (List.replicate n l.toArray).foldl (· ++ ·) acc.toArray = (acc ++ repl n l).toArray := by
  intro n
  induction n with
  | zero => intro acc; simp [repl]
  | succ n ih =>
    intro acc
    rw [List.replicate_succ, List.foldl_cons, List.append_toArray, ih]
    simp [repl, List.replicate_succ]
theorem S_mul (l : List Nat) (n : Int) : PySem.Txt.mul (S l) n = S (repl n.toNat l) := by
  unfold PySem.Txt.mul
  by_cases h : n < 1
  · rw [if_pos h, show n.toNat = 0 by omega]
    rfl
  · rw [if_neg h]
    by_cases c : (n == 1 || (S l).length == 0) = true
    · rw [if_pos c]
      rcases Bool.or_eq_true_iff.mp c with c | c
      · have e : n = 1 := by simpa using c
        subst e
        show S l = S (repl 1 l)
        rw [repl_one]
      · have e : l = [] := by
          rw [S_len] at c
          exact List.eq_nil_of_length_eq_zero (by simpa using c)
        subst e
        simp [repl]
    · rw [if_neg c]
      have := foldl_arr l n.toNat []
      rw [List.nil_append] at this
      show (⟨List.foldl (fun x1 x2 => x1 ++ x2) #[] (List.replicate n.toNat l.toArray)⟩ : Str) = ⟨(repl n.toNat l).toArray⟩
      rw [← this]
theorem mulOk_S {l : List Nat} {n : Int} (h1 : n ≤ 1000000) (h2 : -1000000 ≤ n) (h3 : l.length * n.toNat ≤ SZ) : PySem.MulOk (S l) n := by
  refine ⟨?_, fun a b => ?_, fun a b => ?_⟩
  · rw [decide_eq_false (by omega), decide_eq_false (by omega)]; rfl
  · rw [S_len]
    intro c
    have h4 : (l.length : Int) * n ≤ SZ := by
      have : ((l.length * n.toNat : Nat) : Int) ≤ (SZ : Nat) := by exact_mod_cast h3
      rw [Int.natCast_mul, Int.toNat_of_nonneg (by omega)] at this
      exact this
    have h5 : (9223372036854775807 : Int) / n < l.length := c
    have h6 : (9223372036854775807 : Int) < l.length * n := by
      have := Int.lt_mul_of_ediv_lt (show (0 : Int) < n by omega) h5
      omega
    have : ((SZ : Nat) : Int) = 16777216 := rfl
    omega
  · rw [S_len]
    show Builtin.Str.tooLong _ = false
    unfold Builtin.Str.tooLong
    rw [sizeLine_eq]
    exact decide_eq_false (Nat.not_lt.mpr h3)
theorem tmul_same (l : Addr) (its : Array Value) (n : Nat) (dd : Option Addr) (sl : Array (Option Value)) (x : Int) (u : Tok) (c0 : (decide (x < -(2 ^ 63)) || decide (x ≥ 2 ^ 63)) = false) (c1 : (its.isEmpty || x == 1) = true) :
    Meets (Builtin.«tuple.__mul__» ⟨[.ref l, .int x u], []⟩) (fun _ R s => s.heap.get? l = some { cls := .type "tuple", dict := dd, data := .seq its n, slots := sl } ∧ R (.ok (.ret (Value.ref l))) s) :=
  .of_wp fun prog w A R s h => by
    obtain ⟨hp, g, d, tk, os⟩ := s
    obtain ⟨hl, h⟩ := h
    have f1 := AutoSeq1.idx_int
    wp_walk using wpAny_loadPart' hl
    repeat (first
      | (refine wpAny_ite_false (decide_eq_false (by rw [c0]; exact Bool.false_ne_true)) ?_; wp_walk using wpAny_loadPart' hl)
      | (refine wpAny_ite_true (decide_eq_true (by rw [c1])) ?_; wp_walk using wpAny_loadPart' hl))
    exact ⟨_, rfl, h⟩
theorem tmul_none (l : Addr) (its : Array Value) (n : Nat) (dd : Option Addr) (sl : Array (Option Value)) (x : Int) (u : Tok) (c0 : (decide (x < -(2 ^ 63)) || decide (x ≥ 2 ^ 63)) = false) (c1 : (its.isEmpty || x == 1) = false) (c2 : (decide (x ≤ 0) || its.isEmpty) = true) :
    Meets (Builtin.«tuple.__mul__» ⟨[.ref l, .int x u], []⟩) (fun _ R s => s.heap.get? l = some { cls := .type "tuple", dict := dd, data := .seq its n, slots := sl } ∧
      R (.ok (.ret (Value.ref s.heap.objs.size))) { s with heap := s.heap.push { cls := Value.type "tuple", data := Data.seq #[] }, toks := s.toks }) :=
  .of_wp fun prog w A R s h => by
    obtain ⟨hp, g, d, tk, os⟩ := s
    obtain ⟨hl, h⟩ := h
    have f1 := AutoSeq1.idx_int
    wp_walk using wpAny_loadPart' hl
    repeat (first
      | (refine wpAny_ite_false (decide_eq_false (by rw [c0]; exact Bool.false_ne_true)) ?_; wp_walk using wpAny_loadPart' hl)
      | (refine wpAny_ite_false (decide_eq_false (by rw [c1]; exact Bool.false_ne_true)) ?_; wp_walk using wpAny_loadPart' hl)
      | (refine wpAny_ite_true (decide_eq_true (by rw [c2])) ?_; wp_walk using wpAny_loadPart' hl))
    exact ⟨_, rfl, h⟩
def rRepT1 (K : PySem.W.Frag) : R2 := fun x y H Q => ∃ l k xs, x = .ref l ∧ y = .int k ∧ SqT K H l xs ∧ -1000 ≤ k ∧ k ≤ 1000 ∧ (k ≤ 1 ∨ xs = []) ∧ ((k = 1 ∨ xs = []) → Q (.ref l) H) ∧ (k ≤ 0 → xs ≠ [] → newT H Q [])
theorem op_repT1 {X : Cx} : OpR X (binaryOp .Mult) (rRepT1 X.K) := by
  intro pins s σ H x y v u Q I rx ry h
  obtain ⟨l, k, xs, rfl, rfl, hT, h1, h2, h3, qa, qb⟩ := h
  cases rx
  obtain ⟨t, rfl⟩ := ry
  obtain ⟨its, r, ⟨⟨cls, dd, data, sl⟩, ho, hc, n, hd⟩, hs⟩ := I.tuple hT
  simp only at hc hd
  subst hc hd
  have hle : its.length = xs.length := r.length.symm
  have c0 : (decide (k < -(2 ^ 63)) || decide (k ≥ 2 ^ 63)) = false := by
    rw [decide_eq_false (by omega), decide_eq_false (by omega)] <;> rfl
  have go : ∀ {RR : (Result → Shared → Prop) → Shared → Prop}, Meets (Builtin.«tuple.__mul__» ⟨[.ref l, .int k t], []⟩) (fun _ R s => s.heap.get? l = some { cls := .type "tuple", dict := dd, data := .seq its.toArray n, slots := sl } ∧ RR R s) →
      (∀ R : Result → Shared → Prop, (∀ v' s', EP X pins σ Q v' s' → R (.ok (.ret v')) s') → RR R s) → wpAny (model X.prog X.w) X.A (binaryOp .Mult (.ref l) (.int k t)) (EP X pins σ Q) X.xe s := fun {RR} hm hr =>
    wpAny_binaryOp_repeat_ref (T := "tuple") (U := "int") (by decide) ⟨_, ho, rfl⟩ (fun s' => typeIs_int s' k t) noFill_tuple_mul F.fills_int_mul F.slot_int_rmul repeat_tuple F.slot_int_index.lookup
      (call_meets F.slot_int_rmul (typeIs_int s k t) F.entry_int_rmul (F.args_int_rmul_2 _ _) (int_rmul_tuple k t l its.toArray n dd sl)
        ⟨ho, rfl, ⟨_, ho, rfl⟩, call_meets F.slot_tuple_mul ⟨_, ho, rfl⟩ F.entry_tuple_mul (F.args_tuple_mul_2 _ _) hm ⟨ho, hr _ fun v' s' z => z⟩⟩)
  by_cases hk : k = 1 ∨ xs = []
  · have c1 : (its.toArray.isEmpty || k == 1) = true := by
      rcases hk with hk | hk
      · subst hk; simp
      · subst hk
        have : its = [] := List.eq_nil_of_length_eq_zero hle
        subst this; rfl
    exact go (tmul_same l its.toArray n dd sl k t c0 c1) fun R hR => hR _ _ ⟨.ref l, H, I, rfl, qa hk⟩
  · have hn : its ≠ [] := fun e => hk (.inr (List.eq_nil_of_length_eq_zero (by rw [← hle, e]; rfl)))
    have hi : its.toArray.isEmpty = false := by
      cases its with
      | nil => exact absurd rfl hn
      | cons a b => rfl
    have hk0 : k ≤ 0 := by
      have : k ≠ 1 := fun e => hk (.inl e)
      rcases h3 with h3 | h3
      · omega
      · exact absurd (.inr h3) hk
    have c1 : (its.toArray.isEmpty || k == 1) = false := by
      rw [hi, Bool.false_or]
      exact beq_eq_false_iff_ne.mpr (by omega)
    have c2 : (decide (k ≤ 0) || its.toArray.isEmpty) = true := by rw [decide_eq_true hk0]; rfl
    exact go (tmul_none l its.toArray n dd sl k t c0 c1 c2) fun R hR => hR _ _ (fin_tup (its := []) I (Nat.zero_le _) .nil (qb hk0 fun e => hk (.inr e)))
def rMulA (K : PySem.W.Frag) : R2 := fun x y H Q => (rI CMul (fun i j => .int (i * j)) x y H Q ∨ rI CMulW (fun i j => .int (i * j)) x y H Q) ∨ ((rRepS x y H Q ∨ (rRepZ K x y H Q ∨ rRepT1 K x y H Q)) ∨ rRep x y H Q)
theorem op_mulA {X : Cx} : OpR X (binaryOp .Mult) (rMulA X.K) := .or (.or op_mul op_mulW) (.or (.or op_repS (.or op_repZ op_repT1)) op_rep)
theorem Dts.repl {F : Hp} {vs : List V} {ds : List D} (r : Dts K mg F vs ds) : ∀ n, Dts K mg F (List.replicate n vs).flatten (List.replicate n ds).flatten
  | 0 => .nil
  | n + 1 => by
    rw [flat_const, flat_const]
    exact r.append (Dts.repl r n)
theorem ops_mul : OpS K mg (rMulA K) rdMul := by
  intro F μ H x y dx dy Qd Q o wx wy h k
  cases dx <;> cases dy <;> first | exact h.elim | skip
  · obtain ⟨h1 | h1 | h1, h2⟩ := h
    · exact .inl (.inl ⟨_, _, wx.int, wy.int, .inl h1, fin0 o k (.int _) h2⟩)
    · exact .inl (.inl ⟨_, _, wx.int, wy.int, .inr h1, fin0 o k (.int _) h2⟩)
    · exact .inl (.inr ⟨_, _, wx.int, wy.int, h1, fin0 o k (.int _) h2⟩)
  · obtain ⟨h1, h2, h3, h4⟩ := h
    refine .inr (.inl (.inl ⟨_, _, wx.str, wy.int, mulOk_S h1 h2 h3, ?_⟩))
    rw [S_mul]
    exact fin0 o k (.str _) h4
  · rename_i sx nx
    obtain ⟨h1, h2, h4, h5⟩ := h
    obtain ⟨a, vs, rfl, ha, hf, ra⟩ := wx.tup o
    have wd : Dt K mg F (.ref a) (.tup sx) := .tup hf ra
    by_cases hs : nx ≤ 1 ∨ sx = []
    · have e0 : vs = [] ↔ sx = [] := by
        constructor
        · intro e; subst e; cases ra; rfl
        · intro e; subst e; cases ra; rfl
      refine .inr (.inl (.inr (.inr ⟨a, _, vs, rfl, wy.int, ha, h1, h2, hs.imp id e0.mpr, fun hk => ?_, fun hk hne p ob hp hob => ?_⟩)))
      · have : repl nx.toNat sx = sx := by
          rcases hk with hk | hk
          · subst hk; exact repl_one sx
          · rw [e0.mp hk]; simp [repl]
        rw [this] at h5
        exact fin0 o k wd h5
      · rw [show nx.toNat = 0 by omega] at h5
        obtain ⟨g1, g2, g3⟩ := newTup o (vs := []) (ds := []) .nil hp hob
        exact k _ _ _ _ _ g1 g2 g3 h5
    · refine .inr (.inl (.inr (.inl ⟨a, _, vs, rfl, wy.int, ha, fun e => hs ?_, by omega, by omega, by rw [ra.length]; exact h4, fun p ob hp hob => ?_⟩)))
      · subst e; cases ra; exact .inr rfl
      · obtain ⟨g1, g2, g3⟩ := newTup o (ra.repl _) hp hob
        exact k _ _ _ _ _ g1 g2 g3 h5
  · obtain ⟨h1, h2, h3, h5⟩ := h
    obtain ⟨a, vs, rfl, ha, ra⟩ := wx.lst o
    refine .inr (.inr ⟨a, _, vs, rfl, wy.int, ha, by omega, by omega, by rw [ra.length, sizeLine_eq]; exact h3, fun p hp => ?_⟩)
    obtain ⟨g1, g2, g3⟩ := newLst o (ra.repl _) hp
    exact k _ _ _ _ _ g1 g2 g3 h5

def rLtA : R2 := fun x y H Q => rI0 (fun i j => .bl (decide (i < j))) x y H Q ∨ ∃ i j, x = .str i ∧ y = .str j ∧ Q (.bl (decide (i.cps.toList < j.cps.toList))) H
theorem op_ltA {X : Cx} : OpR X (compareOp .Lt) rLtA := .or op_lt op_lt_str
theorem ops_lt : OpS K mg rLtA rdLt := by
  intro F μ H x y dx dy Qd Q o wx wy h k
  cases dx <;> cases dy <;> first | exact h.elim | skip
  · exact .inl ⟨_, _, wx.int, wy.int, fin0 o k (.bl _) h⟩
  · refine .inr ⟨_, _, wx.str, wy.str, ?_⟩
    rw [S_list, S_list]
    exact fin0 o k (.bl _) h
theorem ops_le : OpS K mg (rI0 fun i j => .bl (decide (i ≤ j))) rdLe := ops_I0 fun _ _ _ => .bl _
theorem ops_gt : OpS K mg (rI0 fun i j => .bl (decide (j < i))) rdGt := ops_I0 fun _ _ _ => .bl _
theorem ops_ge : OpS K mg (rI0 fun i j => .bl (decide (j ≤ i))) rdGe := ops_I0 fun _ _ _ => .bl _
abbrev r2Or (r r' : R2) : R2 := fun x y H Q => r x y H Q ∨ r' x y H Q
theorem op_eqA {X : Cx} (hu : X.A.units + 64 < cLine) : OpR X (compareOp .Eq) (r2Or (rEqD X.K) rEq) := .or (op_eqD hu) op_eq
theorem op_neA {X : Cx} (hu : X.A.units + 64 < cLine) : OpR X (compareOp .NotEq) (r2Or (rNeD X.K) rNe) := .or (op_neD hu) op_ne
theorem sc_dec {K : PySem.W.Frag} {mg : Str → Option Value} {F H : Hp} {μ : Sto} {x y : V} {dx dy : D} (wx : Wk K mg F μ H x dx) (wy : Wk K mg F μ H y dy) (h : scD dx dy = true) : scal x y = true ∧ decide (x = y) = D.eqv dx dy := by
  cases dx <;> cases dy <;> first | exact (Bool.false_ne_true h).elim | skip
  · rw [wx.int, wy.int]; exact ⟨rfl, dec_int⟩
  · rw [wx.str, wy.str]; exact ⟨rfl, dec_str⟩
theorem ops_eq : OpS K mg (r2Or (rEqD K) rEq) rdEq := by
  intro F μ H x y dx dy Qd Q o wx wy h k
  obtain ⟨h | ⟨f1, f2, s1, s2⟩, q⟩ := h
  · obtain ⟨g1, g2⟩ := sc_dec wx wy h
    exact .inr ⟨g1, by rw [g2]; exact fin0 o k (.bl _) q⟩
  · exact .inl ⟨_, _, wx.dp o f1, wy.dp o f2, s1, s2, fin0 o k (.bl _) q⟩
theorem ops_ne : OpS K mg (r2Or (rNeD K) rNe) rdNe := by
  intro F μ H x y dx dy Qd Q o wx wy h k
  obtain ⟨h | ⟨f1, f2, s1, s2⟩, q⟩ := h
  · obtain ⟨g1, g2⟩ := sc_dec wx wy h
    exact .inr ⟨g1, by rw [g2]; exact fin0 o k (.bl _) q⟩
  · exact .inl ⟨_, _, wx.dp o f1, wy.dp o f2, s1, s2, fin0 o k (.bl _) q⟩
/-- None, a bool, a whole number, a text -/
def D.sc : D → Bool
  | .non => true | .bl _ => true | .int _ => true | .str _ => true
  | _ => false
theorem Dt.sc {F : Hp} {v : V} {d : D} (h : Dt K mg F v d) (q : d.sc = true) : L2.flatV v = true := by
  cases h <;> first | rfl | cases q
theorem Dts.sc {F : Hp} : ∀ {vs : List V} {ds : List D}, Dts K mg F vs ds → ds.all D.sc = true → vs.all L2.flatV = true
  | _, _, .nil, _ => rfl
  | _, _, .cons h r, q => by
    rw [List.all_cons, Bool.and_eq_true_iff] at q ⊢
    exact ⟨h.sc q.1, Dts.sc r q.2⟩
theorem Dt.eqv {F F' : Hp} {v w : V} {d e : D} (h : Dt K mg F v d) (g : Dt K mg F' w e) (q : d.sc = true) (p : e.sc = true) : L2.eqV v w = D.eqv d e := by
  cases h <;> first | cases q | skip
  all_goals cases g <;> first | cases p | skip
  all_goals rfl
theorem Dts.any {F F' : Hp} {w : V} {e : D} (g : Dt K mg F' w e) (p : e.sc = true) : ∀ {vs : List V} {ds : List D}, Dts K mg F vs ds → ds.all D.sc = true → L2.inV w vs = ds.any fun z => D.eqv z e
  | _, _, .nil, _ => rfl
  | _, _, .cons h r, q => by
    rw [List.all_cons, Bool.and_eq_true_iff] at q
    have := Dts.any g p r q.2
    unfold L2.inV at this ⊢
    rw [List.any_cons, List.any_cons, this, h.eqv g q.1 p]
def rInA (K : PySem.W.Frag) (neg : Bool) : R2 := fun x y H Q => (∃ (c : Nat) (z : Str), x = .str ⟨#[c]⟩ ∧ y = .str z ∧ Q (.bl (if neg then !decide (c ∈ z.cps.toList) else decide (c ∈ z.cps.toList))) H) ∨ L2.rIn K neg x y H Q
theorem op_inA {X : Cx} : OpR X (compareOp .In) (rInA X.K false) := .or op_in_sign op_in_seq
theorem op_notInA {X : Cx} : OpR X (compareOp .NotIn) (rInA X.K true) := .or op_notIn_sign op_notIn_seq
/-- in: a sign in a text; a scalar in a list or tuple of scalars -/
@[simp] def inL (neg : Bool) (x : D) (ds : List D) (μ : Sto) (Q : DK) : Prop := x.sc = true ∧ ds.all D.sc = true ∧ Q (.bl (if neg then !(ds.any fun z => D.eqv z x) else ds.any fun z => D.eqv z x)) μ
def inS (neg : Bool) : D → List Nat → Sto → DK → Prop
  | .str [c], s, μ, Q => Q (.bl (if neg then !decide (c ∈ s) else decide (c ∈ s))) μ
  | _, _, _, _ => False
@[simp] theorem inS_1 (neg : Bool) {c : Nat} {s : List Nat} {μ : Sto} {Q : DK} : inS neg (.str [c]) s μ Q = (Q (.bl (if neg then !decide (c ∈ s) else decide (c ∈ s))) μ) := rfl
def rdInN (neg : Bool) : RD2
  | x, .str s, μ, Q => inS neg x s μ Q
  | x, .lst ds, μ, Q => inL neg x ds μ Q
  | x, .tup ds, μ, Q => inL neg x ds μ Q
  | _, _, _, _ => False
@[simp] theorem rdInN_1 (neg : Bool) {x : D} {s : List Nat} {μ : Sto} {Q : DK} : rdInN neg x (.str s) μ Q = inS neg x s μ Q := rfl
@[simp] theorem rdInN_2 (neg : Bool) {x : D} {s : List D} {μ : Sto} {Q : DK} : rdInN neg x (.lst s) μ Q = inL neg x s μ Q := rfl
@[simp] theorem rdInN_3 (neg : Bool) {x : D} {s : List D} {μ : Sto} {Q : DK} : rdInN neg x (.tup s) μ Q = inL neg x s μ Q := rfl
abbrev rdIn : RD2 := rdInN false
abbrev rdNotIn : RD2 := rdInN true
theorem Wk.val {F H : Hp} {μ : Sto} {x : V} {d : D} (h : Wk K mg F μ H x d) (q : d.sc = true) : Dt K mg F x d := by
  rcases h with h | ⟨a, vs, xs, rfl, rfl, _⟩
  · exact h
  · cases q
theorem ops_in (neg : Bool) : OpS K mg (rInA K neg) (rdInN neg) := by
  intro F μ H x y dx dy Qd Q o wx wy h k
  cases dy <;> first | exact h.elim | skip
  · have h' : inS neg dx _ μ Qd := h
    unfold inS at h'
    split at h'
    · refine .inl ⟨_, S _, wx.str, wy.str, ?_⟩
      rw [S_list]
      exact fin0 o k (.bl _) h'
    · exact h'.elim
  · obtain ⟨h1, h2, h3⟩ := h
    obtain ⟨a, vs, rfl, ha, _, ra⟩ := wy.tup o
    refine .inr ⟨a, vs, rfl, .inr ha, (wx.val h1).sc h1, ra.sc h2, ?_⟩
    rw [ra.any (wx.val h1) h1 h2]
    exact fin0 o k (.bl _) h3
  · obtain ⟨h1, h2, h3⟩ := h
    obtain ⟨a, vs, rfl, ha, ra⟩ := wy.lst o
    refine .inr ⟨a, vs, rfl, .inl (.inl (.inl ha)), (wx.val h1).sc h1, ra.sc h2, ?_⟩
    rw [ra.any (wx.val h1) h1 h2]
    exact fin0 o k (.bl _) h3

/-- x[i] -/
def rdIx : RD2
  | .lst ds, .int i, μ, Q => ∃ d, atI ds i = some d ∧ Q d μ
  | .tup ds, .int i, μ, Q => ∃ d, atI ds i = some d ∧ Q d μ
  | .str s, .int i, μ, Q => s.length ≤ SZ ∧ ∃ c, atI s i = some c ∧ Q (.str [c]) μ
  | .scr ns, .int i, μ, Q => ∃ n, atI ns i = some n ∧ Q (.int n) μ
  | .ref a, .int i, μ, Q => ∃ ds d, μ a = some (.lst ds) ∧ atI ds i = some d ∧ Q d μ
  | _, _, _, _ => False
@[simp] theorem rdIx_1 : rdIx  (.lst ds0) (.int i0) μ0 Q0 = (∃ d, atI ds0 i0 = some d ∧ Q0 d μ0) := rfl
@[simp] theorem rdIx_2 : rdIx  (.tup ds0) (.int i0) μ0 Q0 = (∃ d, atI ds0 i0 = some d ∧ Q0 d μ0) := rfl
@[simp] theorem rdIx_3 : rdIx  (.str s0) (.int i0) μ0 Q0 = (s0.length ≤ SZ ∧ ∃ c, atI s0 i0 = some c ∧ Q0 (.str [c]) μ0) := rfl
@[simp] theorem rdIx_4 : rdIx  (.scr ns0) (.int i0) μ0 Q0 = (∃ n, atI ns0 i0 = some n ∧ Q0 (.int n) μ0) := rfl
@[simp] theorem rdIx_5 : rdIx  (.ref a0) (.int i0) μ0 Q0 = (∃ ds d, μ0 a0 = some (.lst ds) ∧ atI ds i0 = some d ∧ Q0 d μ0) := rfl
theorem Dts.atI {F : Hp} {vs : List V} {ds : List D} {i : Int} {d : D} (r : Dts K mg F vs ds) (h : L2.atI ds i = some d) : ∃ v, L2.atI vs i = some v ∧ Dt K mg F v d := by
  unfold L2.atI at h ⊢
  rw [r.length]
  cases e : ixN ds.length i with
  | none => rw [e] at h; cases h
  | some j =>
    rw [e] at h
    exact r.get h
theorem atI_map {α β : Type} {f : α → β} {xs : List α} {i : Int} {x : α} (h : L2.atI xs i = some x) : L2.atI (xs.map f) i = some (f x) := by
  unfold L2.atI at h ⊢
  rw [List.length_map]
  cases e : ixN xs.length i with
  | none => rw [e] at h; cases h
  | some j =>
    rw [e] at h
    have h' : xs[j]? = some x := h
    show (xs.map f)[j]? = _
    rw [List.getElem?_map, h']
    rfl
theorem ops_ix : OpS K mg (rIx K) rdIx := by
  intro F μ H x y dx dy Qd Q o wx wy h k
  cases dx <;> cases dy <;> first | exact h.elim | skip
  · obtain ⟨h0, c, h1, h2⟩ := h
    refine .inr (.inr ⟨_, _, c, wx.str, wy.int, by rw [S_len, sizeLine_eq]; exact h0, by rw [S_list]; exact h1, fin0 o k (.str [c]) h2⟩)
  · obtain ⟨d, h1, h2⟩ := h
    obtain ⟨a, vs, rfl, ha, _, ra⟩ := wx.tup o
    obtain ⟨v, g1, g2⟩ := ra.atI h1
    exact .inr (.inl ⟨a, vs, _, v, rfl, wy.int, ha, g1, fin0 o k g2 h2⟩)
  · obtain ⟨d, h1, h2⟩ := h
    obtain ⟨a, vs, rfl, ha, ra⟩ := wx.lst o
    obtain ⟨v, g1, g2⟩ := ra.atI h1
    exact .inl ⟨a, vs, _, v, rfl, wy.int, .inl (.inl ha), g1, fin0 o k g2 h2⟩
  · obtain ⟨n, h1, h2⟩ := h
    obtain ⟨a, rfl, ha⟩ := wx.scr o
    exact .inl ⟨a, _, _, _, rfl, wy.int, ha, atI_map h1, fin0 o k (.int _) h2⟩
  · obtain ⟨ds, d, h0, h1, h2⟩ := h
    cases wx.ref
    obtain ⟨vs, ha, ra⟩ := o.sto _ _ h0
    obtain ⟨v, g1, g2⟩ := ra.atI h1
    exact .inl ⟨_, vs, _, v, rfl, wy.int, .inl (.inl ha), g1, fin0 o k g2 h2⟩
end
section
variable {X : Cx} {a b e : Expr} {da db : TED} {pos : Pos}
theorem de_ix (ha : DW X a da) (hb : DW X b db) (hs : PlainIx b) : DE X (.Subscript a b pos) (dOp rdIx da db) := (pe_ix ix_seq ha hb hs).weaken fun _ _ _ q => lift_op ops_ix q

abbrev TOD := DEnv → Sto → (Option Int → Sto → Prop) → Prop
def liftO (K : PySem.W.Frag) (mg : Str → Option Value) (d : TOD) : TO := fun σ H Q => ∃ F ρ μ Qd, Rel K mg F ρ μ σ H ∧ d ρ μ Qd ∧ ∀ b F' μ' H', Ext F μ H F' μ' H' → Ok K mg F' μ' H' → Qd b μ' → Q b H'
structure DO (X : Cx) (e : Option Expr) (d : TOD) : Prop where
  po : ∃ t, PO X e t ∧ ∀ σ H Q, liftO X.K X.mg d σ H Q → t σ H Q
@[simp] def dNoPart : TOD := fun _ μ Q => Q none μ
@[simp] def dPart (d : TED) : TOD := fun ρ μ Q => d ρ μ fun x μ1 => ∃ i, x = .int i ∧ Q (some i) μ1
theorem do_none : DO X none dNoPart := ⟨_, po_none, fun σ H Q q => by
  obtain ⟨F, ρ, μ, Qd, R, hd, k⟩ := q
  exact k none F μ H .refl R.ok hd⟩
theorem do_some (h : DE X e da) : DO X (some e) (dPart da) := ⟨_, po_some h, fun σ H Q q => by
  obtain ⟨F, ρ, μ, Qd, R, hd, k⟩ := q
  refine ⟨F, ρ, μ, _, R, hd, fun v F1 μ1 H1 dv e1 o1 w1 q1 => ?_⟩
  obtain ⟨i, rfl, q1⟩ := q1
  cases w1
  exact ⟨i, rfl, k _ F1 μ1 H1 e1 o1 q1⟩⟩
def cut {α : Type} (l : List α) (lo hi : Option Int) : List α := (l.drop (HT.sIx l.length 0 lo)).take (HT.sIx l.length l.length hi - HT.sIx l.length 0 lo)
def rdSl : D → Option Int → Option Int → Sto → DK → Prop
  | .str s, lo, hi, μ, Q => s.length ≤ SZ ∧ Q (.str (cut s lo hi)) μ
  | .tup ds, lo, hi, μ, Q => Q (.tup (cut ds lo hi)) μ
  | .lst ds, lo, hi, μ, Q => Q (.lst (cut ds lo hi)) μ
  | .scr ns, lo, hi, μ, Q => Q (.lst ((cut ns lo hi).map D.int)) μ
  | _, _, _, _, _ => False
@[simp] theorem rdSl_1 : rdSl  (.str s0) lo0 hi0 μ0 Q0 = (s0.length ≤ SZ ∧ Q0 (.str (cut s0 lo0 hi0)) μ0) := rfl
@[simp] theorem rdSl_2 : rdSl  (.tup ds0) lo0 hi0 μ0 Q0 = (Q0 (.tup (cut ds0 lo0 hi0)) μ0) := rfl
@[simp] theorem rdSl_3 : rdSl  (.lst ds0) lo0 hi0 μ0 Q0 = (Q0 (.lst (cut ds0 lo0 hi0)) μ0) := rfl
@[simp] theorem rdSl_4 : rdSl  (.scr ns0) lo0 hi0 μ0 Q0 = (Q0 (.lst ((cut ns0 lo0 hi0).map D.int)) μ0) := rfl
@[simp] def dSl (a : TED) (lo hi : TOD) : TED := fun ρ μ Q => a ρ μ fun x μ1 => lo ρ μ1 fun l μ2 => hi ρ μ2 fun u μ3 => rdSl x l u μ3 Q
theorem cutS_S (s : List Nat) (l u : Option Int) : cutS (S s) l u = S (cut s l u) := by unfold cutS cut; rw [S_list, S_len]
theorem cutV_cut (vs : List V) (lo hi : Option Int) : cutV vs lo hi = cut vs lo hi := rfl
theorem Dts.cut {K : PySem.W.Frag} {mg : Str → Option Value} {F : Hp} {vs : List V} {ds : List D} (r : Dts K mg F vs ds) (lo hi : Option Int) : Dts K mg F (cut vs lo hi) (cut ds lo hi) := by
  unfold DL.cut
  rw [r.length]
  exact (r.drop _).take _
theorem cut_map {α β : Type} (f : α → β) (l : List α) (lo hi : Option Int) : cut (l.map f) lo hi = (cut l lo hi).map f := by
  unfold cut
  rw [List.length_map, List.map_take, List.map_drop]
theorem cut_all {α : Type} {l : List α} {lo hi : Option Int} (h : HT.sIx l.length 0 lo = 0 ∧ HT.sIx l.length l.length hi = l.length) : cut l lo hi = l := by
  unfold cut
  rw [h.1, h.2]
  simp
def rSlAll (K : PySem.W.Frag) : V → Option Int → Option Int → Hp → VK → Prop := fun x lo hi H Q => (rSlS x lo hi H Q ∨ rSlZ K x lo hi H Q) ∨ rSlL K x lo hi H Q
theorem sl_all {X : Cx} : SlR X (rSlAll X.K) := .or (.or sl_str sl_tupZ) sl_list
variable {lo hi : Option Expr} {dl dh : TOD} {p2 : Pos}
theorem de_slice (ha : DW X a da) (hl : DO X lo dl) (hh : DO X hi dh) : DE X (.Subscript a (.Slice lo hi none p2) pos) (dSl da dl dh) := by
  obtain ⟨tl, pl, sl⟩ := hl
  obtain ⟨th, ph, sh⟩ := hh
  refine (pe_slice sl_all ha pl ph).weaken fun σ H Q q => ?_
  obtain ⟨F, ρ, μ, Qd, R, hd, k⟩ := q
  refine ⟨F, ρ, μ, _, R, hd, fun v F1 μ1 H1 dv e1 o1 w1 q1 => ?_⟩
  refine sl _ _ _ ⟨F1, ρ, μ1, _, R.ext e1 o1, q1, fun l F2 μ2 H2 e2 o2 q2 => ?_⟩
  refine sh _ _ _ ⟨F2, ρ, μ2, _, R.ext (e1.trans e2) o2, q2, fun u F3 μ3 H3 e3 o3 q3 => ?_⟩
  have w3 := (w1.ext e2).ext e3
  have k3 : ∀ z F' μ' H' dz, Ext F3 μ3 H3 F' μ' H' → Ok X.K X.mg F' μ' H' → Dt X.K X.mg F' z dz → Qd dz μ' → Q z H' := fun z F' μ' H' dz e o w q => k z F' μ' H' dz (e1.trans (e2.trans (e3.trans e))) o w q
  cases dv <;> first | exact q3.elim | skip
  · obtain ⟨h1, h2⟩ := q3
    refine .inl (.inl ⟨_, w3.str, by rw [S_len, sizeLine_eq]; exact h1, ?_⟩)
    rw [cutS_S]
    exact fin0 o3 k3 (.str _) h2
  · have q3' : Qd (.tup (cut _ l u)) μ3 := q3
    obtain ⟨a, vs, rfl, ha, hf, ra⟩ := w3.tup o3
    refine .inl (.inr ⟨a, vs, rfl, ha, fun c => ?_, fun c p ob hp hob => ?_⟩)
    · rw [ra.length] at c
      rw [cut_all c] at q3'
      rcases w3 with w3 | ⟨_, _, _, _, z, _⟩
      · exact fin0 o3 k3 w3 q3'
      · cases z
    · obtain ⟨g1, g2, g3⟩ := newTup o3 (ra.cut l u) hp hob
      exact k3 _ _ _ _ _ g1 g2 g3 q3'
  · have q3' : Qd (.lst (cut _ l u)) μ3 := q3
    obtain ⟨a, vs, rfl, ha, ra⟩ := w3.lst o3
    refine .inr ⟨a, vs, rfl, .inl (.inl ha), fun p hp => ?_⟩
    obtain ⟨g1, g2, g3⟩ := newLst o3 (ra.cut l u) hp
    exact k3 _ _ _ _ _ g1 g2 g3 q3'
  · obtain ⟨a, rfl, ha⟩ := w3.scr o3
    refine .inr ⟨a, _, rfl, ha, fun p hp => ?_⟩
    rw [cutV_cut, cut_map]
    obtain ⟨g1, g2, g3⟩ := newLst o3 (Dts.ofInts (K := X.K) (mg := X.mg) (F := F3) (cut _ l u)) hp
    exact k3 _ _ _ _ _ g1 g2 g3 q3

@[simp] def dNil : TAD := fun _ μ Q => Q [] μ
@[simp] def dCons (a : TED) (t : TAD) : TAD := fun ρ μ Q => a ρ μ fun x μ1 => t ρ μ1 fun xs μ2 => Q (x :: xs) μ2
variable {es : List Expr} {t : TAD}
theorem da_nil : DA X [] dNil := pa_nil.weaken fun σ H Q q => by
  obtain ⟨F, ρ, μ, Qd, R, hd, k⟩ := q
  exact k [] F μ H [] .refl R.ok .nil hd
theorem da_cons (h : DE X e da) (hr : DA X es t) (hs : starEach (e :: es) X.env = (false, eval e X.env) :: starEach es X.env := by rfl) : DA X (e :: es) (dCons da t) := (pa_cons h hr hs).weaken fun σ H Q q => by
  obtain ⟨F, ρ, μ, Qd, R, hd, k⟩ := q
  refine ⟨F, ρ, μ, _, R, hd, fun v F1 μ1 H1 dv e1 o1 w1 q1 => ?_⟩
  exact ⟨F1, ρ, μ1, _, R.ext e1 o1, q1, fun vs F2 μ2 H2 ds e2 o2 w2 q2 => k (v :: vs) F2 μ2 H2 (dv :: ds) (e1.trans e2) o2 (.cons (w1.mono e2.mono) w2) q2⟩
/-- the values only looked at -/
theorem daw_nil : DAW X [] dNil := pa_nil.weaken fun σ H Q q => by
  obtain ⟨F, ρ, μ, Qd, R, hd, k⟩ := q
  exact k [] F μ H [] .refl R.ok .nil hd
theorem Wks.ext {K : PySem.W.Frag} {mg : Str → Option Value} {F F' H H' : Hp} {μ μ' : Sto} (e : Ext F μ H F' μ' H') : ∀ {vs : List V} {ds : List D}, Wks K mg F μ H vs ds → Wks K mg F' μ' H' vs ds
  | _, _, .nil => .nil
  | _, _, .cons h r => .cons (h.ext e) (Wks.ext e r)
theorem daw_cons (h : DW X e da) (hr : DAW X es t) (hs : starEach (e :: es) X.env = (false, eval e X.env) :: starEach es X.env := by rfl) : DAW X (e :: es) (dCons da t) := (pa_cons h hr hs).weaken fun σ H Q q => by
  obtain ⟨F, ρ, μ, Qd, R, hd, k⟩ := q
  refine ⟨F, ρ, μ, _, R, hd, fun v F1 μ1 H1 dv e1 o1 w1 q1 => ?_⟩
  exact ⟨F1, ρ, μ1, _, R.ext e1 o1, q1, fun vs F2 μ2 H2 ds e2 o2 w2 q2 => k (v :: vs) F2 μ2 H2 (dv :: ds) (e1.trans e2) o2 (.cons (w1.ext e2) w2) q2⟩
@[simp] def dTup (t : TAD) : TED := fun ρ μ Q => t ρ μ fun xs μ1 => xs.length ≤ SZ ∧ Q (.tup xs) μ1
@[simp] def dLst (t : TAD) : TED := fun ρ μ Q => t ρ μ fun xs μ1 => xs.length ≤ SZ ∧ Q (.lst xs) μ1
@[simp] def dLstF (t : TAD) : TFD := fun ρ μ Q => t ρ μ fun xs μ1 => xs.length ≤ SZ ∧ Q xs μ1
theorem de_tup {x1} (h : DA X es t) : DE X (.Tuple es x1 pos) (dTup t) := (pe_tupZ h).weaken fun σ H Q q => by
  obtain ⟨F, ρ, μ, Qd, R, hd, k⟩ := q
  refine ⟨F, ρ, μ, _, R, hd, fun vs F1 μ1 H1 ds e1 o1 w1 q1 => ⟨by rw [w1.length, sizeLine_eq]; exact q1.1, fun p ob hp hob => ?_⟩⟩
  obtain ⟨g1, g2, g3⟩ := newTup o1 w1 hp hob
  exact k _ _ _ _ _ (e1.trans g1) g2 g3 q1.2
theorem de_lst (h : DA X es t) : DE X (.List es pos) (dLst t) := (pe_lst h).weaken fun σ H Q q => by
  obtain ⟨F, ρ, μ, Qd, R, hd, k⟩ := q
  refine ⟨F, ρ, μ, _, R, hd, fun vs F1 μ1 H1 ds e1 o1 w1 q1 => ⟨by rw [w1.length, sizeLine_eq]; exact q1.1, fun p hp => ?_⟩⟩
  obtain ⟨g1, g2, g3⟩ := newLst o1 w1 hp
  exact k _ _ _ _ _ (e1.trans g1) g2 g3 q1.2
theorem df_lst (h : DA X es t) : DF X (.List es pos) (dLstF t) := (pe_lst h).weaken fun σ H Q q => by
  obtain ⟨F, ρ, μ, Qd, R, hd, k⟩ := q
  refine ⟨F, ρ, μ, _, R, hd, fun vs F1 μ1 H1 ds e1 o1 w1 q1 => ⟨by rw [w1.length, sizeLine_eq]; exact q1.1, fun p hp => ?_⟩⟩
  obtain ⟨g1, g2⟩ := o1.layN hp (.lst vs)
  obtain ⟨f1, f2⟩ := o1.fresh hp
  have hp0 : H p = none := e1.live p hp
  exact k _ _ _ _ _ _ (e1.trans g2) g1 hp0 f1 f2 upd_same w1 q1.2
end
end DL

namespace DL
open PySem PySem.Spec PyProof.Rows L2
section
variable {K : PySem.W.Frag} {mg : Str → Option Value} {B : Bs} {F F' H H' : Hp} {μ μ' : Sto} {ρ : DEnv} {σ : L2.St}
theorem RelB.step (r : RelB K mg B F ρ μ σ H) (e : Ext F μ H F' μ' H') (o : Ok K mg F' μ' H') : RelB K mg B F' ρ μ' σ H' :=
  ⟨r.rel.ext e o, r.ext.trans e, r.new⟩
theorem RelB.set (r : RelB K mg B F ρ μ σ H) {i : Nat} {v : V} {d : D} (h : Dt K mg F v d) : RelB K mg B F (ρ.set i (some (.val d))) μ (σ.set i (some v)) H := by
  refine ⟨⟨r.rel.ok, by rw [List.length_set, List.length_set]; exact r.rel.len, fun j s e => ?_, fun j l xs ys e1 e2 e3 => ?_⟩, r.ext, fun j xs a e1 e2 => ?_⟩
  · by_cases hj : i = j
    · subst hj
      have hl : i < ρ.length := by
        have := (List.getElem?_eq_some_iff.mp e).1
        rwa [List.length_set] at this
      rw [List.getElem?_set_self hl] at e
      cases e
      exact ⟨v, List.getElem?_set_self (by rw [← r.rel.len]; exact hl), h⟩
    · rw [List.getElem?_set_ne hj] at e
      rw [List.getElem?_set_ne hj]
      exact r.rel.slot j s e
  · have n1 : i ≠ j := fun q => by
      subst q
      rw [List.getElem?_set_self (by have := (List.getElem?_eq_some_iff.mp e1).1; rwa [List.length_set] at this)] at e1
      cases e1
    have n2 : i ≠ l := fun q => by
      subst q
      rw [List.getElem?_set_self (by have := (List.getElem?_eq_some_iff.mp e2).1; rwa [List.length_set] at this)] at e2
      cases e2
    rw [List.getElem?_set_ne n1] at e1 e3
    rw [List.getElem?_set_ne n2] at e2 e3
    exact r.rel.apart j l xs ys e1 e2 e3
  · have n1 : i ≠ j := fun q => by
      subst q
      rw [List.getElem?_set_self (by have := (List.getElem?_eq_some_iff.mp e1).1; rwa [List.length_set] at this)] at e1
      cases e1
    rw [List.getElem?_set_ne n1] at e1 e2
    exact r.new j xs a e1 e2
/-- a slot takes a list that nobody knows -/
theorem RelB.setOwn (r : RelB K mg B F ρ μ σ H) {i : Nat} {p : Addr} {vs : List V} {ds : List D} (hf : F p = none) (hm : μ p = none) (hh : H p = some (.lst vs)) (h : Dts K mg F vs ds) (hb : B.H p = none)
    (hn : ∀ (j : Nat) (xs : List D), i ≠ j → ρ[j]? = some (some (DS.own xs)) → σ[j]? ≠ some (some (.ref p))) : RelB K mg B F (ρ.set i (some (.own ds))) μ (σ.set i (some (.ref p))) H := by
  have len : ∀ {j : Nat} {s : Option DS}, (ρ.set i (some (.own ds)))[j]? = some s → j < ρ.length := fun {j s} e => by
    have := (List.getElem?_eq_some_iff.mp e).1
    rwa [List.length_set] at this
  refine ⟨⟨r.rel.ok, by rw [List.length_set, List.length_set]; exact r.rel.len, fun j s e => ?_, fun j l xs ys e1 e2 e3 => ?_⟩, r.ext, fun j xs a e1 e2 => ?_⟩
  · by_cases hj : i = j
    · subst hj
      have hl := len e
      rw [List.getElem?_set_self hl] at e
      cases e
      exact ⟨_, List.getElem?_set_self (by rw [← r.rel.len]; exact hl), p, vs, rfl, hf, hm, hh, h⟩
    · rw [List.getElem?_set_ne hj] at e
      rw [List.getElem?_set_ne hj]
      exact r.rel.slot j s e
  · by_cases n1 : i = j
    · by_cases n2 : i = l
      · exact n1.symm.trans n2
      · subst n1
        rw [List.getElem?_set_ne n2] at e2 e3
        rw [List.getElem?_set_self (by rw [← r.rel.len]; exact len e1)] at e3
        exact absurd e3.symm (hn l ys n2 e2)
    · by_cases n2 : i = l
      · subst n2
        rw [List.getElem?_set_ne n1] at e1 e3
        rw [List.getElem?_set_self (by rw [← r.rel.len]; exact len e2)] at e3
        exact absurd e3 (hn j xs n1 e1)
      · rw [List.getElem?_set_ne n1] at e1 e3
        rw [List.getElem?_set_ne n2] at e2 e3
        exact r.rel.apart j l xs ys e1 e2 e3
  · by_cases n1 : i = j
    · subst n1
      rw [List.getElem?_set_self (by rw [← r.rel.len]; exact len e1)] at e2
      cases e2
      exact hb
    · rw [List.getElem?_set_ne n1] at e1 e2
      exact r.new j xs a e1 e2
theorem RelB.ownAt (r : RelB K mg B F ρ μ σ H) {i : Nat} {xs : List D} (h : ρ[i]? = some (some (.own xs))) : ∃ p vs, σ[i]? = some (some (.ref p)) ∧ F p = none ∧ μ p = none ∧ H p = some (.lst vs) ∧ Dts K mg F vs xs ∧ B.H p = none := by
  obtain ⟨v, h1, a, vs, rfl, hf, hm, hh, hd⟩ := r.rel.slot i _ h
  exact ⟨a, vs, h1, hf, hm, hh, hd, r.new i xs a h h1⟩
/-- a list of the frame's own is changed -/
theorem RelB.writeOwn (r : RelB K mg B F ρ μ σ H) {i : Nat} {xs ys : List D} {p : Addr} {vs ws : List V} (h : ρ[i]? = some (some (.own xs))) (hs : σ[i]? = some (some (.ref p))) (hf : F p = none) (hm : μ p = none) (hh : H p = some (.lst vs)) (hb : B.H p = none)
    (hd : Dts K mg F ws ys) : RelB K mg B F (ρ.set i (some (.own ys))) μ σ (upd H p (.lst ws)) := by
  have hi : i < ρ.length := (List.getElem?_eq_some_iff.mp h).1
  have other : ∀ (j : Nat) (zs : List D), i ≠ j → ρ[j]? = some (some (DS.own zs)) → σ[j]? ≠ some (some (.ref p)) := fun j zs hj e q => hj (r.rel.apart i j xs zs h e (hs.trans q.symm))
  have ok' := r.rel.ok.writeN hf hm (.lst ws)
  have r' : RelB K mg B F (ρ.set i none) μ σ (upd H p (.lst ws)) := by
    have nn : ∀ {j : Nat} {s : DS}, (ρ.set i none)[j]? = some (some s) → i ≠ j ∧ ρ[j]? = some (some s) := fun {j s} e => by
      by_cases hj : i = j
      · subst hj; rw [List.getElem?_set_self hi] at e; cases e
      · rw [List.getElem?_set_ne hj] at e; exact ⟨hj, e⟩
    refine ⟨⟨ok', by rw [List.length_set]; exact r.rel.len, fun j s e => ?_, fun j l as bs e1 e2 e3 => r.rel.apart j l as bs (nn e1).2 (nn e2).2 e3⟩, ⟨r.ext.mono, fun a o e n => ?_, fun a e => r.ext.live a (upd_live a e)⟩, fun j zs a e1 e2 => r.new j zs a (nn e1).2 e2⟩
    · obtain ⟨hj, e⟩ := nn e
      obtain ⟨v, h1, h2⟩ := r.rel.slot j s e
      refine ⟨v, h1, ?_⟩
      cases s with
      | val d => exact h2
      | own zs =>
        obtain ⟨a, us, rfl, g1, g2, g3, g4⟩ := h2
        have ha : a ≠ p := fun q => other j zs hj e (by rw [h1, q])
        exact ⟨a, us, rfl, g1, g2, by rw [upd_ne ha]; exact g3, g4⟩
    · obtain ⟨g1, g2, g3⟩ := r.ext.keep a o e n
      have ha : a ≠ p := fun q => by subst q; rw [hb] at e; cases e
      exact ⟨by rw [upd_ne ha]; exact g1, g2, g3⟩
  have := r'.setOwn (i := i) (p := p) (ds := ys) hf hm upd_same hd hb (fun j zs hj e => other j zs hj (by rw [List.getElem?_set_ne hj] at e; exact e))
  rw [List.set_set] at this
  have e2 : σ.set i (some (.ref p)) = σ := by
    apply List.ext_getElem?
    intro j
    by_cases hj : i = j
    · subst hj
      rw [List.getElem?_set_self (by rw [← r.rel.len]; exact hi), hs]
    · rw [List.getElem?_set_ne hj]
  rw [e2] at this
  exact this
/-- a list of the frame's own never changes any more -/
theorem RelB.freeze (r : RelB K mg B F ρ μ σ H) {i : Nat} {xs : List D} (h : ρ[i]? = some (some (.own xs))) : ∃ F', FLe F F' ∧ RelB K mg B F' (ρ.set i (some (.val (.lst xs)))) μ σ H ∧ (∃ v, σ[i]? = some (some v) ∧ Dt K mg F' v (.lst xs)) := by
  obtain ⟨p, vs, hs, hf, hm, hh, hd, hb⟩ := r.ownAt h
  have hi : i < ρ.length := (List.getElem?_eq_some_iff.mp h).1
  have ok' := r.rel.ok.freeze hf hm hh
  have mono : ∀ a x, F a = some x → upd F p (.lst vs) a = some x := fun a x e => by rw [upd_ne (ne_of_none e hf)]; exact e
  have dl : Dt K mg (upd F p (.lst vs)) (.ref p) (.lst xs) := .lst upd_same (hd.mono mono)
  refine ⟨upd F p (.lst vs), mono, ?_, _, hs, dl⟩
  have nn : ∀ {j : Nat} {s : DS}, (ρ.set i (some (.val (.lst xs))))[j]? = some (some s) → (i = j ∧ s = .val (.lst xs)) ∨ (i ≠ j ∧ ρ[j]? = some (some s)) := fun {j s} e => by
    by_cases hj : i = j
    · subst hj; rw [List.getElem?_set_self hi] at e; cases e; exact .inl ⟨rfl, rfl⟩
    · rw [List.getElem?_set_ne hj] at e; exact .inr ⟨hj, e⟩
  refine ⟨⟨ok', by rw [List.length_set]; exact r.rel.len, fun j s e => ?_, fun j l as bs e1 e2 e3 => ?_⟩, ⟨fun a x e => mono a x (r.ext.mono a x e), fun a x e n => ?_, r.ext.live⟩, fun j zs a e1 e2 => ?_⟩
  · rcases nn e with ⟨rfl, rfl⟩ | ⟨hj, e⟩
    · exact ⟨_, hs, dl⟩
    · obtain ⟨v, h1, h2⟩ := r.rel.slot j s e
      refine ⟨v, h1, ?_⟩
      cases s with
      | val d => exact Dt.mono mono h2
      | own zs =>
        obtain ⟨a, us, rfl, g1, g2, g3, g4⟩ := h2
        have ha : a ≠ p := fun q => hj (r.rel.apart i j xs zs h e (by rw [hs, h1, q]))
        exact ⟨a, us, rfl, by rw [upd_ne ha]; exact g1, g2, g3, g4.mono mono⟩
  · rcases nn e1 with ⟨_, q⟩ | ⟨_, e1⟩
    · cases q
    · rcases nn e2 with ⟨_, q⟩ | ⟨_, e2⟩
      · cases q
      · exact r.rel.apart j l as bs e1 e2 e3
  · obtain ⟨g1, g2, g3⟩ := r.ext.keep a x e n
    have ha : a ≠ p := fun q => by subst q; rw [hb] at e; cases e
    exact ⟨g1, by rw [upd_ne ha]; exact g2, g3⟩
  · rcases nn e1 with ⟨_, q⟩ | ⟨_, e1⟩
    · cases q
    · exact r.new j zs a e1 e2
end

section
variable {X : Cx} {B : Bs} {st : Stmt} {rest : List Stmt} {t u : TSD} {e : Expr} {d : TED} {pos : Pos}
@[simp] def dNext : TSD := fun D ρ μ => D.nx ρ μ
@[simp] def dSeq (t u : TSD) : TSD := fun D ρ μ => t { D with nx := u D } ρ μ
theorem ds_nil : DSs X B [] dNext := pss_nil.weaken fun D σ H h => by
  obtain ⟨F, ρ, μ, Dd, R, hd, kn, _⟩ := h
  exact kn F ρ μ σ H .rfl' R hd
theorem ds_cons (h1 : DSt X B st t) (h2 : DSs X B rest u) : DSs X B (st :: rest) (dSeq t u) := (pss_cons h1 h2).weaken fun D σ H h => by
  obtain ⟨F, ρ, μ, Dd, R, hd, kn, kb, kc, kr⟩ := h
  exact ⟨F, ρ, μ, { Dd with nx := u Dd }, R, hd, fun F' ρ' μ' σ' H' hF R' q => ⟨F', ρ', μ', Dd, R', q, fun F2 ρ2 μ2 σ2 H2 h2 => kn F2 ρ2 μ2 σ2 H2 (hF.trans h2), fun F2 ρ2 μ2 σ2 H2 h2 => kb F2 ρ2 μ2 σ2 H2 (hF.trans h2), fun F2 ρ2 μ2 σ2 H2 h2 => kc F2 ρ2 μ2 σ2 H2 (hF.trans h2), kr⟩, kb, kc, kr⟩
theorem ds_last (h1 : DSt X B st t) : DSs X B [st] t := pss_one h1
@[simp] def dBreak : TSD := fun D ρ μ => D.bk ρ μ
@[simp] def dCont : TSD := fun D ρ μ => D.ct ρ μ
theorem ds_break : DSt X B (.Break pos) dBreak := ps_break.weaken fun D σ H h => by
  obtain ⟨F, ρ, μ, Dd, R, hd, kn, kb, _⟩ := h
  exact kb F ρ μ σ H .rfl' R hd
/-- ghost: a list of the frame's own never changes any more -/
@[simp] def dFreeze (i : Nat) (t : TSD) : TSD := fun D ρ μ => ∃ xs, ρ[i]? = some (some (.own xs)) ∧ t D (ρ.set i (some (.val (.lst xs)))) μ
@[simp] def dDrop (d : TED) : TSD := fun D ρ μ => d ρ μ fun _ μ1 => D.nx ρ μ1
@[simp] def dRet (d : TED) : TSD := fun D ρ μ => d ρ μ D.rt
theorem ds_ret (he : DE X e d) : DSt X B (.Return (some e) pos) (dRet d) := (ps_ret he).weaken fun D σ H h => by
  obtain ⟨F, ρ, μ, Dd, R, hd, kn, kb, kc, kr⟩ := h
  exact ⟨F, ρ, μ, _, R.rel, hd, fun v F' μ' H' dv e o w q => kr v F' μ' H' dv (R.ext.trans e) o w q⟩
@[simp] def dIfS (c : TTD) (t u : TSD) : TSD := fun D ρ μ => c ρ μ fun b μ1 => if b = true then t D ρ μ1 else u D ρ μ1
theorem ds_if {c : Expr} {a b : List Stmt} {tc : TTD} (hc : DT X c tc) (ha : DSs X B a t) (hb : DSs X B b u) : DSt X B (.If c a b pos) (dIfS tc t u) := (ps_if hc ha hb).weaken fun D σ H h => by
  obtain ⟨F, ρ, μ, Dd, R, hd, kn, kb, kc, kr⟩ := h
  refine ⟨F, ρ, μ, _, R.rel, hd, fun b F' μ' H' e o q => ?_⟩
  cases b with
  | true => exact ⟨F', ρ, μ', Dd, R.step e o, q, fun F2 ρ2 μ2 σ2 H2 h2 => kn F2 ρ2 μ2 σ2 H2 (FLe.trans e.mono h2), fun F2 ρ2 μ2 σ2 H2 h2 => kb F2 ρ2 μ2 σ2 H2 (FLe.trans e.mono h2), fun F2 ρ2 μ2 σ2 H2 h2 => kc F2 ρ2 μ2 σ2 H2 (FLe.trans e.mono h2), kr⟩
  | false => exact ⟨F', ρ, μ', Dd, R.step e o, q, fun F2 ρ2 μ2 σ2 H2 h2 => kn F2 ρ2 μ2 σ2 H2 (FLe.trans e.mono h2), fun F2 ρ2 μ2 σ2 H2 h2 => kb F2 ρ2 μ2 σ2 H2 (FLe.trans e.mono h2), fun F2 ρ2 μ2 σ2 H2 h2 => kc F2 ρ2 μ2 σ2 H2 (FLe.trans e.mono h2), kr⟩

abbrev TGD := D → DEnv → (DEnv → Prop) → Prop
abbrev TGDs := List D → DEnv → (DEnv → Prop) → Prop
/-- ns: the slots that it may store to -/
def liftG (K : PySem.W.Frag) (mg : Str → Option Value) (B : Bs) (ns : List Nat) (g : TGD) : TG := fun v σ H Q => ∃ F ρ μ dv Qd, RelB K mg B F ρ μ σ H ∧ Dt K mg F v dv ∧ g dv ρ Qd ∧
  ∀ ρ' σ', RelB K mg B F ρ' μ σ' H → σ'.length = σ.length → (∀ j, j ∉ ns → σ'[j]? = σ[j]?) → Qd ρ' → Q σ' H
def liftGs (K : PySem.W.Frag) (mg : Str → Option Value) (B : Bs) (ns : List Nat) (g : TGDs) : TGs := fun vs σ H Q => ∃ F ρ μ ds Qd, RelB K mg B F ρ μ σ H ∧ Dts K mg F vs ds ∧ g ds ρ Qd ∧
  ∀ ρ' σ', RelB K mg B F ρ' μ σ' H → σ'.length = σ.length → (∀ j, j ∉ ns → σ'[j]? = σ[j]?) → Qd ρ' → Q σ' H
abbrev DG (X : Cx) (B : Bs) (tg : Expr) (ns : List Nat) (g : TGD) : Prop := PG X tg (liftG X.K X.mg B ns g)
abbrev DGs (X : Cx) (B : Bs) (ts : List Expr) (ns : List Nat) (g : TGDs) : Prop := PGs X ts (liftGs X.K X.mg B ns g)
theorem _root_.L2.PG.weaken {X : Cx} {e : Expr} {t t' : TG} (h : PG X e t) (w : ∀ v σ H Q, t' v σ H Q → t v σ H Q) : PG X e t' := ⟨fun pins s σ H v u Q I r q => h.run pins s σ H v u Q I r (w v σ H Q q)⟩
theorem _root_.L2.PGs.weaken {X : Cx} {e : List Expr} {t t' : TGs} (h : PGs X e t) (w : ∀ v σ H Q, t' v σ H Q → t v σ H Q) : PGs X e t' := ⟨fun pins s σ H v u Q I r q => h.run pins s σ H v u Q I r (w v σ H Q q)⟩
@[simp] def dName (i : Nat) : TGD := fun d ρ Q => Q (ρ.set i (some (.val d)))
theorem dg_name {i : Nat} {x : Str} (h : PG X (.Name x pos) (gName i)) : DG X B (.Name x pos) [i] (dName i) := h.weaken fun v σ H Q q => by
  obtain ⟨F, ρ, μ, dv, Qd, R, w, hd, k⟩ := q
  exact k _ _ (R.set w) (by rw [List.length_set]) (fun j hj => List.getElem?_set_ne fun z => hj (by simp [z])) hd
@[simp] def gdNil : TGDs
  | [], ρ, Q => Q ρ
  | _ :: _, _, _ => False
@[simp] def gdCons (g : TGD) (gs : TGDs) : TGDs
  | d :: r, ρ, Q => g d ρ fun ρ1 => gs r ρ1 Q
  | [], _, _ => False
theorem dgs_nil : DGs X B [] [] gdNil := pgs_nil.weaken fun vs σ H Q q => by
  obtain ⟨F, ρ, μ, ds, Qd, R, w, hd, k⟩ := q
  cases w with
  | nil => exact ⟨rfl, k ρ σ R rfl (fun _ _ => rfl) hd⟩
  | cons => exact hd.elim
theorem dgs_cons {es : List Expr} {n1 n2 : List Nat} {g : TGD} {gs : TGDs} (h1 : DG X B e n1 g) (h2 : DGs X B es n2 gs) (hs : (assignEach (e :: es) X.env).map (·.2) = assign e X.env :: (assignEach es X.env).map (·.2) := by rfl) :
    DGs X B (e :: es) (n1 ++ n2) (gdCons g gs) := (pgs_cons h1 h2 hs).weaken fun vs σ H Q q => by
  obtain ⟨F, ρ, μ, ds, Qd, R, w, hd, k⟩ := q
  cases w with
  | nil => exact hd.elim
  | cons wv ws =>
    refine ⟨_, _, rfl, F, ρ, μ, _, _, R, wv, hd, fun ρ1 σ1 R1 l1 f1 q1 => ?_⟩
    exact ⟨F, ρ1, μ, _, Qd, R1, ws, q1, fun ρ2 σ2 R2 l2 f2 q2 => k ρ2 σ2 R2 (l2.trans l1) (fun j hj => by
      rw [List.mem_append, not_or] at hj
      rw [f2 j hj.2, f1 j hj.1]) q2⟩
/-- (a, b, ..) = a tuple, a list of that length -/
@[simp] def dUnp (n : Nat) (gs : TGDs) : TGD
  | .tup ds, ρ, Q => ds.length = n ∧ gs ds ρ Q
  | .pr a b, ρ, Q => n = 2 ∧ gs [a, b] ρ Q
  | _, _, _ => False
@[simp] def dUnl (n : Nat) (gs : TGDs) : TGD
  | .lst ds, ρ, Q => ds.length = n ∧ gs ds ρ Q
  | _, _, _ => False
theorem dg_tup {es : List Expr} {k : Nat} {ns : List Nat} {gs : TGDs} {n : Nat} (hc : X.calm = true) (h : DGs X B es ns gs)
    (hn : (assignEach es X.env).length = n := by rfl) (hst : (assignEach es X.env).findIdx? (·.1) = none := by rfl) : DG X B (.Tuple es k pos) ns (dUnp n gs) := (pg_tup hc h hn hst).weaken fun v σ H Q q => by
  obtain ⟨F, ρ, μ, dv, Qd, R, w, hd, k⟩ := q
  cases dv <;> first | exact hd.elim | skip
  · obtain ⟨h1, h2⟩ := hd
    obtain ⟨a, vs, rfl, ha, hf, ra⟩ := Wk.tup R.rel.ok (μ := μ) (.inl w)
    exact ⟨a, vs, rfl, ha, ra.length.trans h1, F, ρ, μ, _, Qd, R, ra, h2, k⟩
  · obtain ⟨h1, h2⟩ := hd
    cases w with
    | pr hf r r2 => exact ⟨_, _, rfl, .inl (.inl (R.rel.ok.sub _ _ hf)), h1.symm, F, ρ, μ, _, Qd, R, .cons r (.cons r2 .nil), h2, k⟩
@[simp] def dAsg (d : TED) (g : TGD) : TSD := fun D ρ μ => d ρ μ fun x μ1 => g x ρ fun ρ1 => D.nx ρ1 μ1
theorem ds_asg {tg : Expr} {ns : List Nat} {g : TGD} (he : DE X e d) (hg : DG X B tg ns g) (hs : swapsWithSole [tg] e pos.line X.env = pure false := by rfl) (hw : swappedStores [tg] e X.env = pure none := by rfl)
    (h1 : (assignEach [tg] X.env).map (·.2) = [assign tg X.env] := by rfl) : DSt X B (.Assign [tg] e pos) (dAsg d g) := (ps_asg he hg hs hw h1).weaken fun D σ H h => by
  obtain ⟨F, ρ, μ, Dd, R, hd, kn, kb, kc, kr⟩ := h
  refine ⟨F, ρ, μ, _, R.rel, hd, fun v F' μ' H' dv e o w q => ?_⟩
  exact ⟨F', ρ, μ', dv, _, R.step e o, w, q, fun ρ1 σ1 R1 _ _ q1 => kn F' ρ1 μ' σ1 H' e.mono R1 q1⟩
@[simp] def dSet (i : Nat) (d : TED) : TSD := fun D ρ μ => d ρ μ fun x μ1 => D.nx (ρ.set i (some (.val x))) μ1
/-- x = a new list, x's own -/
@[simp] def dSetF (i : Nat) (d : TFD) : TSD := fun D ρ μ => d ρ μ fun xs μ1 => D.nx (ρ.set i (some (.own xs))) μ1
/-- x op= e -/
@[simp] def dAug (i : Nat) (r : RD2) (d : TED) : TSD := fun D ρ μ => ∃ x, ρ[i]? = some (some (.val x)) ∧ d ρ μ fun y μ1 => r x y μ1 fun z μ2 => D.nx (ρ.set i (some (.val z))) μ2
@[simp] def dApp (i : Nat) (d : TED) : TSD := fun E ρ μ => ∃ xs, ρ[i]? = some (some (.own xs)) ∧ d ρ μ fun y μ1 => xs.length < SZ ∧ E.nx (ρ.set i (some (.own (xs ++ [y])))) μ1
theorem ds_app {i : Nat} {x : Str} {p apos cpos : Pos} (h : ∀ t, PA X [e] t → PS X (.Expr (.Call (.Attribute (.Name x p) "append" apos) [e] [] cpos) pos) (tDrop (tBM X.K "list" rAppend (tVar i) t)))
    (he : DE X e d) (hs : starEach [e] X.env = (false, eval e X.env) :: starEach [] X.env := by rfl) : DSt X B (.Expr (.Call (.Attribute (.Name x p) "append" apos) [e] [] cpos) pos) (dApp i d) := (h _ (pa_cons he pa_nil hs)).weaken fun D σ H h => by
  obtain ⟨F, ρ, μ, Dd, R, ⟨xs, hx, hd⟩, kn, kb, kc, kr⟩ := h
  obtain ⟨q, vs, hs, hf, hm, hh, hds, hb⟩ := R.ownAt hx
  refine ⟨.ref q, hs, .inl ⟨rfl, _, .inl (.inl hh)⟩, F, ρ, μ, _, R.rel, hd, fun v F' μ' H' dv e o w hq => ?_⟩
  obtain ⟨h1, h2, h3⟩ := e.keep q _ hh hm
  refine ⟨q, vs, v, rfl, rfl, h1, by rw [hds.length, sizeLine_eq]; exact hq.1, ?_⟩
  exact kn F' _ μ' σ _ e.mono ((R.step e o).writeOwn hx hs (h2.trans hf) h3 h1 hb ((hds.mono e.mono).append (.one w))) hq.2
/-- x.extend(e) -/
@[simp] def dExt (i : Nat) (d : TED) : TSD := fun E ρ μ => ∃ xs, ρ[i]? = some (some (.own xs)) ∧ d ρ μ fun y μ1 => ∃ ys, y = .lst ys ∧ xs.length + ys.length ≤ SZ ∧ E.nx (ρ.set i (some (.own (xs ++ ys)))) μ1
/-- what a loop walks: the items, and what must stay true of what may change -/
abbrev TSrc := DEnv → Sto → (List D → (Sto → Prop) → Sto → Prop) → Prop
abbrev still : Sto → Prop := fun _ => True
/-- the iterator J yields the items -/
def ItD (K : PySem.W.Frag) (mg : Str → Option Value) (F : Hp) (J : It) (items : List D) (inv : Sto → Prop) : Prop :=
  ∀ (F1 : Hp) (μ1 : Sto) (H1 : Hp), (∀ a o, F a = some o → F1 a = some o) → Ok K mg F1 μ1 H1 → inv μ1 → ∀ i : Nat,
    (i < items.length → J.go i H1 ∧ ∀ x H2, J.yld i H1 x H2 → ∃ F2 d, Ext F1 μ1 H1 F2 μ1 H2 ∧ Ok K mg F2 μ1 H2 ∧ items[i]? = some d ∧ Dt K mg F2 x d) ∧
    (i = items.length → J.stop i H1)
def liftI (K : PySem.W.Frag) (mg : Str → Option Value) (d : TSrc) : TI := fun σ H R => ∃ F ρ μ Qd, Rel K mg F ρ μ σ H ∧ d ρ μ Qd ∧ ∀ J F' μ' H' items inv, Ext F μ H F' μ' H' → Ok K mg F' μ' H' → ItD K mg F' J items inv → Qd items inv μ' → R J H'
abbrev DI (X : Cx) (tg e : Expr) (d : TSrc) : Prop := PI X tg e (liftI X.K X.mg d)
theorem _root_.L2.PI.weaken {X : Cx} {tg e : Expr} {t t' : TI} (h : PI X tg e t) (w : ∀ σ H Q, t' σ H Q → t σ H Q) : PI X tg e t' := ⟨fun pins s σ H Q I q => h.run pins s σ H Q I (w σ H Q q)⟩
@[simp] def forD (g : TGD) (body : TSD) (E : DEnds) (inv : Sto → Prop) : List D → DEnv → Sto → Prop
  | [], ρ, μ => inv μ ∧ E.nx ρ μ
  | x :: xs, ρ, μ => inv μ ∧ g x ρ fun ρ1 => body { E with nx := forD g body E inv xs, ct := forD g body E inv xs, bk := E.nx } ρ1 μ
@[simp] def dFor (src : TSrc) (g : TGD) (body : TSD) : TSD := fun E ρ μ => src ρ μ fun items inv μ1 => forD g body E inv items ρ μ1
theorem ds_for {tg iter : Expr} {body : List Stmt} {src : TSrc} {ns : List Nat} {g : TGD} {tb : TSD} (hp : PassesOwn (model X.prog X.w) X.A X.env X.xe) (hc : X.calm = true) (hi : DI X tg iter src) (hg : DG X B tg ns g) (hb : DSs X B body tb)
    (hs : ∀ x, foldedSetIterable iter X.env x = pure x := by intro _; rfl) : DSt X B (.For tg iter body [] pos) (dFor src g tb) := (ps_for hp hc hi hg hb hs).weaken fun D σ H h => by
  obtain ⟨F, ρ, μ, Dd, R, hd, kn, kb, kc, kr⟩ := h
  refine ⟨F, ρ, μ, _, R.rel, hd, fun J F0 μ0 H0 items inv e0 o0 it q0 => ?_⟩
  refine ⟨fun i m σ1 H1 => ∃ F1 ρ1 μ1, m = items.length - i ∧ i ≤ items.length ∧ (∀ a o, F0 a = some o → F1 a = some o) ∧ RelB X.K X.mg B F1 ρ1 μ1 σ1 H1 ∧ forD g tb Dd inv (items.drop i) ρ1 μ1,
    ⟨items.length, F0, ρ, μ0, by simp, Nat.zero_le _, fun _ _ z => z, R.step e0 o0, by simpa using q0⟩, ?_⟩
  rintro i m σ1 H1 ⟨F1, ρ1, μ1, rfl, hi, hF, R1, q1⟩
  have hinv : inv μ1 := by
    cases hz : items.drop i with
    | nil => rw [hz] at q1; exact q1.1
    | cons x xs => rw [hz] at q1; exact q1.1
  obtain ⟨hgo, hstop⟩ := it F1 μ1 H1 hF R1.rel.ok hinv i
  by_cases hlt : i < items.length
  · obtain ⟨g1, g2⟩ := hgo hlt
    refine .inr ⟨g1, fun σ' H' => ∃ F' ρ' μ', (∀ a o, F0 a = some o → F' a = some o) ∧ RelB X.K X.mg B F' ρ' μ' σ' H' ∧ forD g tb Dd inv (items.drop (i + 1)) ρ' μ', fun σ' H' ⟨F', ρ', μ', a1, a2, a3⟩ => ⟨items.length - (i + 1), by omega, F', ρ', μ', rfl, hlt, a1, a2, a3⟩, fun x H2 hy => ?_⟩
    obtain ⟨F2, d, e2, o2, hx, wx⟩ := g2 x H2 hy
    have hdrop : items.drop i = d :: items.drop (i + 1) := by
      have hd := List.drop_eq_getElem_cons hlt
      rw [List.getElem?_eq_getElem hlt] at hx
      cases hx
      exact hd
    rw [hdrop] at q1
    refine ⟨F2, ρ1, μ1, d, _, R1.step e2 o2, wx, q1.2, fun ρ3 σ3 R3 _ _ q3 => ?_⟩
    have hF2 : FLe F0 F2 := fun a o z => e2.mono a o (hF a o z)
    have hF2' : FLe F F2 := fun a o z => hF2 a o (e0.mono a o z)
    exact ⟨F2, ρ3, μ1, _, R3, q3, fun F4 ρ4 μ4 σ4 H4 h4 R4 q4 => ⟨F4, ρ4, μ4, hF2.trans h4, R4, q4⟩, fun F4 ρ4 μ4 σ4 H4 h4 R4 q4 => kn F4 ρ4 μ4 σ4 H4 (hF2'.trans h4) R4 q4, fun F4 ρ4 μ4 σ4 H4 h4 R4 q4 => ⟨F4, ρ4, μ4, hF2.trans h4, R4, q4⟩, kr⟩
  · have : i = items.length := by omega
    subst this
    refine .inl ⟨hstop rfl, ?_⟩
    rw [List.drop_length] at q1
    exact kn F1 ρ1 μ1 σ1 H1 (fun a o z => hF a o (e0.mono a o z)) R1 q1.2
end
end DL

namespace DL
open PySem PySem.Spec PyProof.Rows L2
section
variable {K : PySem.W.Frag} {mg : Str → Option Value} {F : Hp}
theorem itd_list {a : Addr} {vs : List V} {ds : List D} (h : F a = some (.lst vs)) (r : Dts K mg F vs ds) : ItD K mg F (Itl K a) ds still := by
  intro F1 μ1 H1 hF o1 _ i
  have ha : SqL K H1 a vs := .inl (.inl (o1.sub _ _ (hF _ _ h)))
  refine ⟨fun hi => ⟨⟨vs, vs[i]'(by rw [r.length]; exact hi), ha, List.getElem?_eq_getElem _⟩, fun x H2 hy => ?_⟩, fun e => ⟨vs, ha, by rw [r.length, e]; exact Nat.le_refl _⟩⟩
  obtain ⟨rfl, hx⟩ := hy
  obtain ⟨d, hd, w⟩ := r.getV (hx vs ha)
  exact ⟨F1, d, .refl, o1, hd, w.mono hF⟩
/-- a list that changes, as long as it does not -/
theorem itd_ref (a : Addr) (ds : List D) : ItD K mg F (Itl K a) ds (fun μ => μ a = some (.lst ds)) := by
  intro F1 μ1 H1 hF o1 hi i
  obtain ⟨vs, h, r⟩ := o1.sto _ _ hi
  have ha : SqL K H1 a vs := .inl (.inl h)
  refine ⟨fun hi => ⟨⟨vs, vs[i]'(by rw [r.length]; exact hi), ha, List.getElem?_eq_getElem _⟩, fun x H2 hy => ?_⟩, fun e => ⟨vs, ha, by rw [r.length, e]; exact Nat.le_refl _⟩⟩
  obtain ⟨rfl, hx⟩ := hy
  obtain ⟨d, hd, w⟩ := r.getV (hx vs ha)
  exact ⟨F1, d, .refl, o1, hd, w⟩
theorem itd_scr {a : Addr} {ns : List Int} (h : SqL K F a (ns.map V.int)) : ItD K mg F (Itl K a) (ns.map D.int) still := by
  intro F1 μ1 H1 hF o1 _ i
  have ha : SqL K H1 a (ns.map V.int) := SqL.mono' (fun b u z => o1.sub _ _ (hF _ _ z)) h
  refine ⟨fun hi => ⟨⟨_, (ns.map V.int)[i]'(by simpa using hi), ha, List.getElem?_eq_getElem _⟩, fun x H2 hy => ?_⟩, fun e => ⟨_, ha, by simp [e]⟩⟩
  obtain ⟨rfl, hx⟩ := hy
  obtain ⟨d, hd, w⟩ := (Dts.ofInts (K := K) (mg := mg) (F := F1) ns).getV (hx _ ha)
  exact ⟨F1, d, .refl, o1, hd, w⟩
theorem itd_tup {a : Addr} {vs : List V} {ds : List D} (h : SqT K F a vs) (r : Dts K mg F vs ds) : ItD K mg F (Itt K a) ds still := by
  intro F1 μ1 H1 hF o1 _ i
  have ha : SqT K H1 a vs := SqT.mono' (fun b u z => o1.sub _ _ (hF _ _ z)) h
  refine ⟨fun hi => ⟨⟨vs, vs[i]'(by rw [r.length]; exact hi), ha, List.getElem?_eq_getElem _⟩, fun x H2 hy => ?_⟩, fun e => ⟨vs, ha, by rw [r.length, e]; exact Nat.le_refl _⟩⟩
  obtain ⟨rfl, hx⟩ := hy
  obtain ⟨d, hd, w⟩ := r.getV (hx vs ha)
  exact ⟨F1, d, .refl, o1, hd, w.mono hF⟩
def rngD (lo : Int) (n : Nat) : List D := (List.range n).map fun i => .int (lo + (i : Nat))
theorem itd_rng (lo : Int) (n : Nat) : ItD K mg F (Itr lo n) (rngD lo n) still := by
  intro F1 μ1 H1 hF o1 _ i
  unfold rngD
  refine ⟨fun hi => ⟨by show i < n; simpa using hi, fun x H2 hy => ?_⟩, fun e => by
    have e' : i = n := by simpa using e
    exact Nat.le_of_eq e'.symm⟩
  obtain ⟨rfl, rfl⟩ := hy
  have hi' : i < n := by simpa using hi
  refine ⟨F1, .int (lo + i), .refl, o1, ?_, .int _⟩
  rw [List.getElem?_map, List.getElem?_range hi']
  rfl
def strD (s : List Nat) : List D := s.map fun c => .str [c]
theorem itd_str (s : List Nat) : ItD K mg F (Its (S s)) (strD s) still := by
  intro F1 μ1 H1 hF o1 _ i
  have hs : (S s).cps.size = s.length := S_len s
  unfold strD
  refine ⟨fun hi => ⟨?_, fun x H2 hy => ?_⟩, fun e => ?_⟩
  · show i < (S s).cps.size
    rw [hs]; simpa using hi
  · obtain ⟨rfl, c, hc, rfl⟩ := hy
    refine ⟨F1, .str [c], .refl, o1, ?_, .str [c]⟩
    have hc' : s[i]? = some c := by simpa using hc
    rw [List.getElem?_map, hc']
    rfl
  · show (S s).cps.size ≤ i
    rw [hs]; simp at e; omega
end
section
variable {X : Cx} {tg : Expr} {e : Expr} {es : List Expr} {d : TED} {t : TAD} {p pos : Pos}
/-- the items of a list, a tuple, a text, the script -/
@[simp] def dEach (d : TED) : TSrc := fun ρ μ Q => d ρ μ fun x μ1 => match x with
  | .lst xs => Q xs still μ1
  | .tup xs => Q xs still μ1
  | .str s => Q (strD s) still μ1
  | .scr ns => Q (ns.map D.int) still μ1
  | .ref a => ∃ xs, μ1 a = some (.lst xs) ∧ Q xs (fun μ => μ a = some (.lst xs)) μ1
  | _ => False
def iAny (K : PySem.W.Frag) (te : TE) : TI := fun σ H R => te σ H fun x H1 => (∃ a, x = .ref a ∧ (∃ xs, SqL K H1 a xs) ∧ R (Itl K a) H1) ∨ (∃ a, x = .ref a ∧ (∃ xs, SqT K H1 a xs) ∧ R (Itt K a) H1) ∨ (∃ z, x = .str z ∧ R (Its z) H1)
theorem pi_any {l : Expr} {tl : TE} (hl : PE X l tl) : PI X tg l (iAny X.K tl) := by
  refine ⟨fun pins s σ H R I h => ?_⟩
  refine thn (hl.run pins s σ H _ I h) fun v s1 ⟨x, H1, I1, r1, q1⟩ => ?_
  rcases q1 with ⟨a, rfl, ⟨xs, hq⟩, q⟩ | ⟨a, rfl, ⟨xs, hq⟩, q⟩ | ⟨z, rfl, q⟩
  · cases r1
    obtain ⟨its, _, pl, _⟩ := I1.list hq
    exact wpAny_pyIter_list pl.isList (pi_one (tk := s1.toks) I1 _ (turn_list a _) ⟨_, Heap.get?_push_size _ rfl, rfl, rfl⟩ q)
  · cases r1
    obtain ⟨its, _, tp, _⟩ := I1.tuple hq
    exact wpAny_pyIter_tuple tp (pi_one (tk := s1.toks) I1 _ (turn_tuple a _) ⟨_, Heap.get?_push_size _ rfl, rfl, rfl⟩ q)
  · obtain ⟨t, rfl⟩ := r1
    cases ha : z.cps.all (· < 128)
    · exact wpAny_pyIter_wide ha (pi_one (tk := s1.toks) I1 _ (turn_str _ z t "str_iterator" (.inr rfl)) ⟨_, Heap.get?_push_size _ rfl, rfl, rfl⟩ q)
    · exact wpAny_pyIter_ascii ha (pi_one (tk := s1.toks) I1 _ (turn_str _ z t "str_ascii_iterator" (.inl rfl)) ⟨_, Heap.get?_push_size _ rfl, rfl, rfl⟩ q)
theorem di_each (h : DE X e d) : DI X tg e (dEach d) := (pi_any h).weaken fun σ H R q => by
  obtain ⟨F, ρ, μ, Qd, Rl, hd, k⟩ := q
  refine ⟨F, ρ, μ, _, Rl, hd, fun v F' μ' H' dv e o w q => ?_⟩
  cases dv <;> first | exact q.elim | skip
  · cases w
    exact .inr (.inr ⟨_, rfl, k _ F' μ' H' _ _ e o (itd_str _) q⟩)
  · cases w with
    | tup h r => exact .inr (.inl ⟨_, rfl, ⟨_, SqT.sub o h.sq⟩, k _ F' μ' H' _ _ e o (itd_tup h.sq r) q⟩)
  · cases w with
    | lst h r => exact .inl ⟨_, rfl, ⟨_, .inl (.inl (o.sub _ _ h))⟩, k _ F' μ' H' _ _ e o (itd_list h r) q⟩
  · cases w with
    | scr h => exact .inl ⟨_, rfl, ⟨_, SqL.mono' o.sub h⟩, k _ F' μ' H' _ _ e o (itd_scr h) q⟩
  · cases w
    obtain ⟨xs, hx, q⟩ := q
    obtain ⟨vs, ha, r⟩ := o.sto _ _ hx
    exact .inl ⟨_, rfl, ⟨_, .inl (.inl ha)⟩, k _ F' μ' H' _ _ e o (itd_ref _ _) q⟩
def rngOk (i : Int) : Prop := -4611686018427387904 ≤ i ∧ i < 4611686018427387904
@[simp] def dRng1 (t : TAD) : TSrc := fun ρ μ Q => t ρ μ fun xs μ1 => match xs with
  | [.int j] => rngOk j ∧ Q (rngD 0 j.toNat) still μ1
  | _ => False
@[simp] def dRng2 (t : TAD) : TSrc := fun ρ μ Q => t ρ μ fun xs μ1 => match xs with
  | [.int i, .int j] => rngOk i ∧ rngOk j ∧ Q (rngD i (j - i).toNat) still μ1
  | _ => False
theorem di_rng1 (hg : Gl X "range") (hm : X.mg "range" = none) (h : DA X [e] t) (hs : starEach [e] X.env = [(false, eval e X.env)] := by rfl) : DI X tg (.Call (.Name "range" p) [e] [] pos) (dRng1 t) := (pi_range1 hg hm h hs).weaken fun σ H R q => by
  obtain ⟨F, ρ, μ, Qd, Rl, hd, k⟩ := q
  refine ⟨F, ρ, μ, _, Rl, hd, fun vs F' μ' H' ds e o w q => ?_⟩
  split at q
  · cases w with
    | cons h r =>
      cases r
      cases h
      exact ⟨_, rfl, q.1.1, q.1.2, k _ F' μ' H' _ _ e o (itd_rng _ _) q.2⟩
  · exact q.elim
def enumD (k : Nat) : List D → List D
  | [] => []
  | x :: xs => .pr (.int k) x :: enumD (k + 1) xs
/-- enumerate of a list -/
@[simp] def dEnum (t : TAD) : TSrc := fun ρ μ Q => t ρ μ fun xs μ1 => match xs with
  | [.lst ds] => Q (enumD 0 ds) still μ1
  | [.ref a] => ∃ ds, μ1 a = some (.lst ds) ∧ Q (enumD 0 ds) (fun μ => μ a = some (.lst ds)) μ1
  | _ => False
@[simp] def wipeD (ρ : DEnv) : List Nat → DEnv
  | [] => ρ
  | v :: vs => (wipeD ρ vs).set v none
theorem wipeD_length (ρ : DEnv) : ∀ vs, (wipeD ρ vs).length = ρ.length
  | [] => rfl
  | v :: vs => by unfold wipeD; rw [List.length_set, wipeD_length ρ vs]
theorem set_none_some {α : Type} {l : List (Option α)} {v i : Nat} {x : α} (h : (l.set v none)[i]? = some (some x)) : v ≠ i ∧ l[i]? = some (some x) := by
  by_cases hv : v = i
  · subst hv
    have hl : v < l.length := by
      have := (List.getElem?_eq_some_iff.mp h).1
      rwa [List.length_set] at this
    rw [List.getElem?_set_self hl] at h
    cases h
  · rw [List.getElem?_set_ne hv] at h
    exact ⟨hv, h⟩
theorem wipeD_some {ρ : DEnv} {i : Nat} {x : DS} : ∀ {vs : List Nat}, (wipeD ρ vs)[i]? = some (some x) → ρ[i]? = some (some x) ∧ i ∉ vs
  | [], h => ⟨h, by simp⟩
  | v :: vs, h => by
    obtain ⟨h1, h2⟩ := set_none_some h
    obtain ⟨h3, h4⟩ := wipeD_some (vs := vs) h2
    refine ⟨h3, ?_⟩
    rw [List.mem_cons, not_or]
    exact ⟨fun q => h1 q.symm, h4⟩
theorem wipe_get {σ : L2.St} {i : Nat} : ∀ {vs : List Nat}, i ∉ vs → (wipe σ vs)[i]? = σ[i]?
  | [], _ => rfl
  | v :: vs, h => by
    rw [List.mem_cons, not_or] at h
    show ((wipe σ vs).set v none)[i]? = _
    rw [List.getElem?_set_ne (fun q => h.1 q.symm), wipe_get h.2]
theorem RelB.wipe {K : PySem.W.Frag} {mg : Str → Option Value} {B : Bs} {F H : Hp} {ρ : DEnv} {μ : Sto} {σ : L2.St} (r : RelB K mg B F ρ μ σ H) (vs : List Nat) : RelB K mg B F (wipeD ρ vs) μ (L2.wipe σ vs) H := by
  refine ⟨⟨r.rel.ok, by rw [wipeD_length, wipe_length]; exact r.rel.len, fun i s e => ?_, fun i j xs ys e1 e2 e3 => ?_⟩, r.ext, fun i xs a e1 e2 => ?_⟩
  · obtain ⟨e, n⟩ := wipeD_some e
    obtain ⟨v, h1, h2⟩ := r.rel.slot i s e
    exact ⟨v, by rw [wipe_get n]; exact h1, h2⟩
  · obtain ⟨e1, n1⟩ := wipeD_some e1
    obtain ⟨e2, n2⟩ := wipeD_some e2
    rw [wipe_get n1, wipe_get n2] at e3
    exact r.rel.apart i j xs ys e1 e2 e3
  · obtain ⟨e1, n1⟩ := wipeD_some e1
    rw [wipe_get n1] at e2
    exact r.new i xs a e1 e2
theorem wipe_eq {σ σ' : L2.St} {vs : List Nat} (hl : σ'.length = σ.length) (h : ∀ j, j ∉ vs → σ'[j]? = σ[j]?) : wipe σ' vs = wipe σ vs := by
  have inn : ∀ (τ : L2.St) (us : List Nat) (j : Nat), j ∈ us → j < τ.length → (wipe τ us)[j]? = some none := by
    intro τ us
    induction us with
    | nil => intro j h; cases h
    | cons u us ih =>
      intro j hj hl
      show ((wipe τ us).set u none)[j]? = _
      by_cases hu : u = j
      · subst hu
        exact List.getElem?_set_self (by rw [wipe_length]; exact hl)
      · rw [List.getElem?_set_ne hu]
        rcases List.mem_cons.mp hj with z | z
        · exact absurd z.symm hu
        · exact ih j z hl
  apply List.ext_getElem?
  intro j
  by_cases hj : j ∈ vs
  · by_cases hjl : j < σ.length
    · rw [inn σ vs j hj hjl, inn σ' vs j hj (by rw [hl]; exact hjl)]
    · rw [List.getElem?_eq_none (by rw [wipe_length]; omega), List.getElem?_eq_none (by rw [wipe_length]; omega)]
  · rw [wipe_get hj, wipe_get hj, h j hj]
structure DTs (X : Cx) (ifs : List Expr) (d : TTD) : Prop where
  run : PTs X ifs (liftT X.K X.mg d)
@[simp] def dYes : TTD := fun _ μ Q => Q true μ
theorem dts_nil : DTs X [] dYes := ⟨⟨fun pins s σ H Q I h => pts_nil.run pins s σ H Q I (by
  obtain ⟨F, ρ, μ, Qd, R, hd, k⟩ := h
  exact k true F μ H .refl R.ok hd)⟩⟩
theorem dts_one {c : Expr} {tc : TTD} (h : DT X c tc) : DTs X [c] tc := ⟨pts_one h⟩
/-- acc: what is made so far -/
@[simp] def lcD (vs : List Nat) (g : TGD) (c : TTD) (el : TED) (ρ : DEnv) (inv : Sto → Prop) (Q : List D → Sto → Prop) : List D → List D → Sto → Prop
  | [], acc, μ => inv μ ∧ Q acc μ
  | x :: xs, acc, μ => inv μ ∧ g x (wipeD ρ vs) fun ρ1 => c ρ1 μ fun b μ1 => if b = true then el ρ1 μ1 fun y μ2 => acc.length < SZ ∧ lcD vs g c el ρ inv Q xs (acc ++ [y]) μ2 else lcD vs g c el ρ inv Q xs acc μ1
@[simp] def dLc (vs : List Nat) (src : TSrc) (g : TGD) (c : TTD) (el : TED) : TFD := fun ρ μ Q => src ρ μ fun items inv μ1 => lcD vs g c el ρ inv Q items [] μ1
/-- a new list is a value -/
@[simp] def dF (d : TFD) : TED := fun ρ μ Q => d ρ μ fun xs μ1 => Q (.lst xs) μ1
theorem de_F {d : TFD} (h : DF X e d) : DE X e (dF d) := h.weaken fun σ H Q q => by
  obtain ⟨F, ρ, μ, Qd, R, hd, k⟩ := q
  refine ⟨F, ρ, μ, _, R, hd, fun p vs F' μ' H' ds e o hn hf hm hh w q => ?_⟩
  have mono : FLe F' (upd F' p (.lst vs)) := fun a x z => by rw [upd_ne (ne_of_none z hf)]; exact z
  refine k _ (upd F' p (.lst vs)) μ' H' _ ⟨fun a x z => mono a x (e.mono a x z), fun a x z n => ?_, e.live⟩ (o.freeze hf hm hh) (.lst upd_same (w.mono mono)) q
  obtain ⟨g1, g2, g3⟩ := e.keep a x z n
  have ha : a ≠ p := fun q => by subst q; rw [hn] at z; cases z
  exact ⟨g1, by rw [upd_ne ha]; exact g2, g3⟩
/-- the comprehension's reading over data gives the hand layer's -/
theorem lc_weak {K : PySem.W.Frag} {mg : Str → Option Value} {vs0 ns : List Nat} {src : TSrc} {g : TGD} {c : TTD} {el : TED} (hns : ∀ j ∈ ns, j ∈ vs0) {σ : L2.St} {H : Hp} {Q : VK} (q : liftF K mg (dLc vs0 src g c el) σ H Q) :
    tLc (liftI K mg src) (fun v σ H Q => ∃ B, liftG K mg B ns g v σ H Q) (liftT K mg c) (liftE K mg el) vs0 σ H Q := by
  obtain ⟨F, ρ, μ, Qd, R, hd, k⟩ := q
  refine ⟨F, ρ, μ, _, R, hd, fun J F0 μ0 H0 items inv e0 o0 it q0 L hL => ?_⟩
  obtain ⟨o1, e1⟩ := o0.layN hL (.lst [])
  obtain ⟨fL, mL⟩ := o0.fresh hL
  have B0 : ∀ {F' : Hp} {μ' : Sto} {H' : Hp}, Ext (fun _ => none) (fun _ => none) (fun _ => none) F' μ' H' := fun {F' μ' H'} => ⟨(fun a o z => nomatch z), (fun a o z => nomatch z), fun _ _ => rfl⟩
  have R0 : RelB K mg ⟨fun _ => none, fun _ => none, fun _ => none⟩ F0 ρ μ0 σ H0 := ⟨R.ext e0 o0, B0, fun _ _ _ _ _ => rfl⟩
  · refine ⟨fun i m H1 => ∃ F1 μ1 acc vs, m = items.length - i ∧ i ≤ items.length ∧ FLe F0 F1 ∧ Ext F0 μ0 H0 F1 μ1 H1 ∧ Ok K mg F1 μ1 H1 ∧ F1 L = none ∧ μ1 L = none ∧ H1 L = some (.lst vs) ∧ Dts K mg F1 vs acc ∧ lcD vs0 g c el ρ inv Qd (items.drop i) acc μ1,
      ⟨items.length, F0, μ0, [], [], by simp, Nat.zero_le _, .rfl', e1, o1, fL, mL, upd_same, .nil, by simpa using q0⟩, ?_⟩
    rintro i m H1 ⟨F1, μ1, acc, vs, rfl, hi', hF, x1, ok1, f1, m1, h1, w1, q1⟩
    have hinv : inv μ1 := by
      cases hz : items.drop i with
      | nil => rw [hz] at q1; exact q1.1
      | cons x xs => rw [hz] at q1; exact q1.1
    obtain ⟨hgo, hstop⟩ := it F1 μ1 H1 hF ok1 hinv i
    by_cases hlt : i < items.length
    · obtain ⟨g1, g2⟩ := hgo hlt
      refine .inr ⟨g1, fun H' => ∃ F' μ' acc vs, FLe F0 F' ∧ Ext F0 μ0 H0 F' μ' H' ∧ Ok K mg F' μ' H' ∧ F' L = none ∧ μ' L = none ∧ H' L = some (.lst vs) ∧ Dts K mg F' vs acc ∧ lcD vs0 g c el ρ inv Qd (items.drop (i + 1)) acc μ',
        fun H' ⟨F', μ', acc, vs, b1, b2, b3, b4, b5, b6, b7, b8⟩ => ⟨items.length - (i + 1), by omega, F', μ', acc, vs, rfl, hlt, b1, b2, b3, b4, b5, b6, b7, b8⟩, fun x H2 hy => ?_⟩
      obtain ⟨F2, d, e2, o2, hx, wx⟩ := g2 x H2 hy
      have hdrop : items.drop i = d :: items.drop (i + 1) := by
        have hd := List.drop_eq_getElem_cons hlt
        rw [List.getElem?_eq_getElem hlt] at hx
        cases hx
        exact hd
      rw [hdrop] at q1
      have e02 := x1.trans e2
      have Rw : RelB K mg ⟨fun _ => none, fun _ => none, fun _ => none⟩ F2 (wipeD ρ vs0) μ1 (wipe σ vs0) H2 := (R0.step e02 o2).wipe _
      refine ⟨⟨fun _ => none, fun _ => none, fun _ => none⟩, F2, _, μ1, d, _, Rw, wx, q1.2, fun ρ3 σ3 R3 l3 f3 q3 => ⟨?_, ?_⟩⟩
      · have z := wipe_eq (σ := wipe σ vs0) (σ' := σ3) (vs := vs0) l3 fun j hj => f3 j fun hn => hj (hns j hn)
        rw [z]
        exact wipe_eq (wipe_length _ _) fun j hj => wipe_get hj
      · obtain ⟨hL2, fL2, mL2⟩ := e2.keep L _ h1 m1
        refine ⟨F2, ρ3, μ1, _, R3.rel, q3, fun b F4 μ4 H4 e4 o4 q4 => ?_⟩
        obtain ⟨hL4, fL4, mL4⟩ := e4.keep L _ hL2 m1
        cases b with
        | false =>
          exact ⟨F4, μ4, acc, vs, (hF.trans e2.mono).trans e4.mono, e02.trans e4, o4, fL4.trans (fL2.trans f1), mL4, hL4, w1.mono (FLe.trans e2.mono e4.mono), q4⟩
        | true =>
          refine ⟨F4, ρ3, μ4, _, R3.rel.ext e4 o4, q4, fun y F5 μ5 H5 dy e5 o5 w5 q5 => ?_⟩
          obtain ⟨hL5, fL5, mL5⟩ := e5.keep L _ hL4 mL4
          have fn : F5 L = none := fL5.trans (fL4.trans (fL2.trans f1))
          refine ⟨vs, hL5, by rw [w1.length, sizeLine_eq]; exact q5.1, F5, μ5, _, _, ((hF.trans e2.mono).trans e4.mono).trans e5.mono, ?_, o5.writeN fn mL5 _, fn, mL5, upd_same, (w1.mono ((FLe.trans e2.mono e4.mono).trans e5.mono)).append (.one w5), q5.2⟩
          have ee := e02.trans (e4.trans e5)
          refine ⟨ee.mono, fun a o z n => ?_, fun a z => ee.live a (upd_live a z)⟩
          obtain ⟨b1, b2, b3⟩ := ee.keep a o z n
          have ha : a ≠ L := fun q => by subst q; rw [hL] at z; cases z
          exact ⟨by rw [upd_ne ha]; exact b1, b2, b3⟩
    · have : i = items.length := by omega
      subst this
      refine .inl ⟨hstop rfl, ?_⟩
      rw [List.drop_length] at q1
      exact k L vs F1 μ1 H1 acc (e0.trans x1) ok1 (e0.live L hL) f1 m1 h1 w1 q1.2

section
variable {elt iter : Expr} {ifs : List Expr} {scope : Scope} {own : List (Str × Nat)} {ns : List Nat} {src : TSrc} {g : TGD} {c : TTD} {el : TED}
theorem df_lc (hc : X.calm = true) (hN : X.N.Nodup) (hi : DI X tg iter src) (ok : BlkOk X.N X.env.scope scope own)
    (hns : ∀ j ∈ ns, j ∈ own.map (·.2))
    (hg : ∀ (s : Shared) (H : Hp) (C : Addr) (cl : List (Str × Addr)) (fp : List Addr) (B : Bs), DG (X.blk s H scope (compEnvC scope cl C X.env) fp) B tg ns g) (ht : ∀ (s : Shared) (H : Hp) (C : Addr) (cl : List (Str × Addr)) (fp : List Addr), DTs (X.blk s H scope (compEnvC scope cl C X.env) fp) ifs c)
    (he : ∀ (s : Shared) (H : Hp) (C : Addr) (cl : List (Str × Addr)) (fp : List Addr), DE (X.blk s H scope (compEnvC scope cl C X.env) fp) elt el) (hs : ∀ x, foldedSetIterable iter X.env x = pure x := by intro _; rfl) :
    DF X (.ListComp elt [⟨tg, iter, ifs, 0⟩] scope pos) (dLc (own.map (·.2)) src g c el) :=
  (pe_lc (g := fun v σ H Q => ∃ B, liftG X.K X.mg B ns g v σ H Q) (tt := liftT X.K X.mg c) (te := liftE X.K X.mg el) hc hN hi ok (fun s H C cl fp => ⟨fun pins s' σ H' v u Q I r ⟨B, q⟩ => (hg s H C cl fp B).run pins s' σ H' v u Q I r q⟩)
    (fun s H C cl fp => (ht s H C cl fp).run) he hs).weaken fun _ _ _ q => lc_weak hns q
/-- a result: a value, or a new list that nobody knows -/
abbrev TRD := DEnv → Sto → (DS → Sto → Prop) → Prop
@[simp] def dVal (d : TED) : TRD := fun ρ μ Q => d ρ μ fun x μ1 => Q (.val x) μ1
@[simp] def dOwn (d : TFD) : TRD := fun ρ μ Q => d ρ μ fun xs μ1 => Q (.own xs) μ1
/-- .. as it lies in the heap; it is not known ahead -/
def ROk (K : PySem.W.Frag) (mg : Str → Option Value) (H F' : Hp) (μ' : Sto) (H' : Hp) (v : V) : DS → Prop
  | .val d => Dt K mg F' v d
  | .own xs => ∃ p vs, v = .ref p ∧ H p = none ∧ F' p = none ∧ μ' p = none ∧ H' p = some (.lst vs) ∧ Dts K mg F' vs xs
def liftR (K : PySem.W.Frag) (mg : Str → Option Value) (d : TRD) : TE := fun σ H Q => ∃ F ρ μ Qd, Rel K mg F ρ μ σ H ∧ d ρ μ Qd ∧ ∀ v F' μ' H' s, Ext F μ H F' μ' H' → Ok K mg F' μ' H' → ROk K mg H F' μ' H' v s → Qd s μ' → Q v H'
abbrev DR (X : Cx) (e : Expr) (d : TRD) : Prop := PE X e (liftR X.K X.mg d)
theorem dr_E {d : TED} (h : DE X e d) : DR X e (dVal d) := h.weaken fun σ H Q q => by
  obtain ⟨F, ρ, μ, Qd, R, hd, k⟩ := q
  exact ⟨F, ρ, μ, _, R, hd, fun v F' μ' H' dv e o w q => k v F' μ' H' (.val dv) e o w q⟩
theorem dr_F {d : TFD} (h : DF X e d) : DR X e (dOwn d) := h.weaken fun σ H Q q => by
  obtain ⟨F, ρ, μ, Qd, R, hd, k⟩ := q
  exact ⟨F, ρ, μ, _, R, hd, fun p vs F' μ' H' ds e o h1 h2 h3 h4 h5 q => k _ F' μ' H' (.own ds) e o ⟨p, vs, rfl, h1, h2, h3, h4, h5⟩ q⟩
/-- a result is stored -/
theorem RelB.setR {K : PySem.W.Frag} {mg : Str → Option Value} {B : Bs} {F F' H H' : Hp} {μ μ' : Sto} {ρ : DEnv} {σ : L2.St} {i : Nat} {v : V} {s : DS} (R : RelB K mg B F ρ μ σ H) (R' : RelB K mg B F' ρ μ' σ H') (h : ROk K mg H F' μ' H' v s) :
    RelB K mg B F' (ρ.set i (some s)) μ' (σ.set i (some v)) H' := by
  cases s with
  | val d => exact R'.set h
  | own xs =>
    obtain ⟨p, vs, rfl, h1, h2, h3, h4, h5⟩ := h
    refine R'.setOwn h2 h3 h4 h5 (R.ext.live p h1) fun j ys hj e1 e2 => ?_
    obtain ⟨v, g1, a, us, rfl, g2, g3, g4, g5⟩ := R.rel.slot j _ e1
    rw [g1] at e2
    cases e2
    rw [h1] at g4
    cases g4
@[simp] def dSetR (i : Nat) (d : TRD) : TSD := fun E ρ μ => d ρ μ fun s μ1 => E.nx (ρ.set i (some s)) μ1
theorem ds_setR {B : Bs} {i : Nat} {x : Str} {d : TRD} (h : ∀ te, PE X e te → PS X (.Assign [.Name x p] e pos) (tAsg te (gName i))) (he : DR X e d) : DSt X B (.Assign [.Name x p] e pos) (dSetR i d) := (h _ he).weaken fun D σ H h => by
  obtain ⟨F, ρ, μ, Dd, R, hd, kn, kb, kc, kr⟩ := h
  exact ⟨F, ρ, μ, _, R.rel, hd, fun v F' μ' H' s e o w q => kn F' _ μ' _ H' e.mono (R.setR (R.step e o) w) q⟩
/-- x, y = a, b -/
@[simp] def dPar2 (i j : Nat) (a b : TRD) : TSD := fun E ρ μ => a ρ μ fun s μ1 => b ρ μ1 fun t μ2 => E.nx ((ρ.set i (some s)).set j (some t)) μ2
theorem ROk.ext {K : PySem.W.Frag} {mg : Str → Option Value} {H F H1 F2 H2 : Hp} {μ μ2 : Sto} {v : V} {s : DS} (h : ROk K mg H F μ H1 v s) (e : Ext F μ H1 F2 μ2 H2) : ROk K mg H F2 μ2 H2 v s := by
  cases s with
  | val d => exact Dt.mono e.mono h
  | own xs =>
    obtain ⟨p, vs, rfl, h1, h2, h3, h4, h5⟩ := h
    obtain ⟨g1, g2, g3⟩ := e.keep p _ h4 h3
    exact ⟨p, vs, rfl, h1, g2.trans h2, g3, g1, h5.mono e.mono⟩
/-- two results are stored, one behind the other -/
theorem RelB.setR2 {K : PySem.W.Frag} {mg : Str → Option Value} {B : Bs} {F F1 F2 H H1 H2 : Hp} {μ μ1 μ2 : Sto} {ρ ρ' : DEnv} {σ σ' : L2.St} {i : Nat} {v : V} {s : DS} (R : RelB K mg B F ρ μ σ H) (e1 : Ext F μ H F1 μ1 H1) (R' : RelB K mg B F2 ρ' μ2 σ' H2) (h : ROk K mg H1 F2 μ2 H2 v s)
    (old : ∀ (j : Nat) (xs : List D) (p : Addr), ρ'[j]? = some (some (DS.own xs)) → σ'[j]? = some (some (.ref p)) → H1 p ≠ none) :
    RelB K mg B F2 (ρ'.set i (some s)) μ2 (σ'.set i (some v)) H2 := by
  cases s with
  | val d => exact R'.set h
  | own xs =>
    obtain ⟨p, vs, rfl, h1, h2, h3, h4, h5⟩ := h
    exact R'.setOwn h2 h3 h4 h5 (R.ext.live p (e1.live p h1)) fun j ys hj q1 q2 => old j ys p q1 q2 h1
theorem ds_par2 {B : Bs} {i j : Nat} {x y : Str} {a b : Expr} {da db : TRD} {px py pt : Pos} {kt k2 pt2} (hij : i ≠ j)
    (h : ∀ ta, PA X [a, b] ta → PS X (.Assign [.Tuple [.Name x px, .Name y py] kt pt] (.Tuple [a, b] k2 pt2) pos) (tPar i j ta)) (ha : DR X a da) (hb : DR X b db)
    (hs : starEach [a, b] X.env = (false, eval a X.env) :: starEach [b] X.env := by rfl) (hs2 : starEach [b] X.env = (false, eval b X.env) :: starEach [] X.env := by rfl) :
    DSt X B (.Assign [.Tuple [.Name x px, .Name y py] kt pt] (.Tuple [a, b] k2 pt2) pos) (dPar2 i j da db) := (h _ (pa_cons ha (pa_cons hb pa_nil hs2) hs)).weaken fun E σ H h => by
  obtain ⟨F, ρ, μ, Dd, R, hd, kn, kb, kc, kr⟩ := h
  refine ⟨F, ρ, μ, _, R.rel, hd, fun v F1 μ1 H1 s e1 o1 w1 q1 => ?_⟩
  refine ⟨F1, ρ, μ1, _, R.rel.ext e1 o1, q1, fun u F2 μ2 H2 t e2 o2 w2 q2 => ⟨v, u, rfl, ?_⟩⟩
  have e12 := e1.trans e2
  have R2 := R.step e12 o2
  have R3 := R.setR (i := i) R2 (w1.ext e2)
  refine kn F2 _ μ2 _ H2 e12.mono (R.setR2 e1 R3 w2 fun l xs p z1 z2 => ?_) q2
  by_cases hl : i = l
  · subst hl
    have hi : i < ρ.length := by
      have := (List.getElem?_eq_some_iff.mp z1).1
      rwa [List.length_set] at this
    rw [List.getElem?_set_self hi] at z1
    cases z1
    obtain ⟨p', vs, rfl, g1, g2, g3, g4, g5⟩ := w1
    rw [List.getElem?_set_self (by rw [← R.rel.len]; exact hi)] at z2
    cases z2
    rw [g4]
    exact fun z => nomatch z
  · rw [List.getElem?_set_ne hl] at z1 z2
    obtain ⟨p', vs, g1, g2, g3, g4, _⟩ := R.ownAt z1
    rw [g1] at z2
    cases z2
    rw [(e1.keep p _ g4 g3).1]
    exact fun z => nomatch z
end
end
end DL

namespace DL
open PySem PySem.Spec PyProof.Rows L2

/-- no repr of a list, tuple or dict runs around -/
abbrev Quiet (A : Around) : Prop := A.guards = some []
/-- a def's promise, where no repr runs around -/
structure FnG (P : Program) (w : World) (K : PySem.W.Frag) (mg : Str → Option Value) (base : Heap) (CX : CXT) (k : Nat) (f : Addr) (fd : FuncData) (ps : List Str) (sp : Sp) : Prop where
  len : ∀ vs H Q E, sp vs H Q E → vs.length = ps.length
  run : ∀ (A : Around) (outer : List Env) (s : Shared) (H : Hp) (args : Args) (us : List Value) (vs : List V) (Q : VK) (E : XK), Quiet A → Room k A → Env0 P w K mg base A outer s H →
    BindsTo s fd args (ps.zip us) → Vals vs us → sp vs H Q E → codeAny (model P w) A (.call (.ref f) args) (CR CX outer P w H s Q E) s
section
variable {P : Program} {w : World} {K : PySem.W.Frag} {mg : Str → Option Value} {base : Heap} {CX : CXT} {j k : Nat} {f : Addr} {fd : FuncData} {ps : List Str} {sp : Sp}
theorem FnG.mono (F : FnG P w K mg base CX j f fd ps sp) (h : j ≤ k) : FnG P w K mg base CX k f fd ps sp where
  len := F.len
  run := fun A outer s H args us vs Q E g r => F.run A outer s H args us vs Q E g (r.mono h)
theorem FnG.of {name qual : Str} {st : Stmt} {N : List Str} (D : Fun K name qual st f fd) (S : FnScope N ps (defScope st)) (len : ∀ vs H Q E, sp vs H Q E → vs.length = ps.length)
    (body : ∀ (cdv : Value) (A : Around) (outer : List Env) (s : Shared) (H : Hp) (vs : List V) (Q : VK) (E : XK), Quiet (A.deeper (envOfC qual (defScope st) s.heap.objs.size f cdv)) → Room k (A.deeper (envOfC qual (defScope st) s.heap.objs.size f cdv)) →
      sp vs H Q E → ∃ t, PSs (cxOf CX P w K mg base N qual (defScope st) f cdv A outer s H E) (defBody st) t ∧ t { nx := fun _ H' => Q .non H', rt := Q } (L2.start N vs) H) :
    FnG P w K mg base CX (k + 1) f fd ps sp := by
  obtain ⟨oc, od, kV, doc, pm, an, cdv, ct, osl, rfl, hk, hcode⟩ := D.ex
  refine ⟨len, ?_⟩
  intro A outer s H args us vs Q E quiet room env bind rel hsp
  have n := len _ _ _ _ hsp
  have kin : K.In s.heap := env.mod.kin.keeps (fun b o z => (env.bs b o z).1)
  have free : s.heap.NoLimit := env.mod.nolimit.keeps (fun b o z => (env.bs b o z).1)
  refine codeAny_call_function room.depth (kin _ _ hk) rfl S.co S.gen rfl (PySem.W.codeRec_of kin hcode) (bind _ _ _ _ ?_)
  have loc : ∀ y ∈ ps.zip us, (defScope st).names.lookup y.1 = some .local ∨ ((defScope st).names.lookup y.1 = some .cell ∧ ((cellsFrom (s.heap.objs.size + 1) (defScope st).names []).lookup y.1).isSome = true) := by
    intro y hy
    rcases S.par y.1 (List.of_mem_zip hy).1 with q | q
    · exact Or.inl q
    · exact Or.inr ⟨q, PySem.W.cellsFrom_some _ _ _ (Or.inl q)⟩
  refine wpAny_newFunctionEnv_cells S.kind loc ?_
  intro env' he s1 x
  subst he
  refine ⟨free.keeps x.toInCall.keep, codeAny_func ?_⟩
  obtain ⟨t, ht, hq⟩ := body cdv A outer s H vs Q E quiet (room.deeper _) hsp
  have I := inv_start (CX := CX) (E := E) S room.hd env n rel x
  refine wpAny_mono (ht.run [] s1 _ H _ I hq) ?_ (fun _ _ z => z)
  intro fl s' hs
  match fl, hs with
  | .ret u, ⟨v, σ', H', J, rv, q⟩ => exact ⟨v, H', J.os, J.bare, J.base, J.hok, rv, q⟩
  | .next, ⟨σ', H', J, q⟩ => exact ⟨V.non, H', J.os, J.bare, J.base, J.hok, rfl, q⟩
  | .brk, ⟨_, _, _, q⟩ => exact q.elim
  | .cont, ⟨_, _, _, q⟩ => exact q.elim
end

/-- an exception over data: its class, its fields -/
abbrev DXK := Str → List (Str × D) → Sto → Prop
abbrev DSp := List D → Sto → DK → DXK → Prop
/-- an exception of a class of the module, as the hand layer tells it -/
def XD (K : PySem.W.Frag) (mg : Str → Option Value) (H0 : Hp) (F : Hp) (μ : Sto) (H : Hp) (cv : Value) (od : Option Addr) (c : Str) (fs : List (Str × D)) : Prop :=
  ∃ C, cv = .ref C ∧ mg c = some (.ref C) ∧ ((od = none ∧ fs = []) ∨ ∃ d vfs, od = some d ∧ fs ≠ [] ∧ H0 d = none ∧ F d = none ∧ μ d = none ∧ H d = some (.xd vfs) ∧ vfs.map (·.1) = fs.map (·.1) ∧ Dts K mg F (vfs.map (·.2)) (fs.map (·.2)))
def liftP (K : PySem.W.Frag) (mg : Str → Option Value) (S : DSp) : Sp := fun vs H Q E => ∃ F μ ds Qd Ed, Ok K mg F μ H ∧ Dts K mg F vs ds ∧ S ds μ Qd Ed ∧
  (∀ v F' μ' H' dv, Ext F μ H F' μ' H' → Ok K mg F' μ' H' → Dt K mg F' v dv → Qd dv μ' → Q v H') ∧
  (∀ cv od F' μ' H' c fs, Ext F μ H F' μ' H' → Ok K mg F' μ' H' → XD K mg H F' μ' H' cv od c fs → Ed c fs μ' → E cv od H')
abbrev noD : DXK := fun _ _ _ => False
/-- a call by position, where no repr runs around -/
def FR (P : Program) (w : World) (K : PySem.W.Frag) (mg : Str → Option Value) (base : Heap) (CX : CXT) (k : Nat) (f : Addr) (sp : Sp) : Prop :=
  ∀ (A : Around) (outer : List Env) (s : Shared) (H : Hp) (us : List Value) (vs : List V) (Q : VK) (E : XK), Quiet A → Room k A → Env0 P w K mg base A outer s H → Vals vs us → sp vs H Q E → codeAny (model P w) A (.call (.ref f) ⟨us, []⟩) (CR CX outer P w H s Q E) s
theorem FnG.toR {P : Program} {w : World} {K : PySem.W.Frag} {mg : Str → Option Value} {base : Heap} {CX : CXT} {k : Nat} {f : Addr} {fd : FuncData} {ps : List Str} {sp : Sp} (F : FnG P w K mg base CX k f fd ps sp) (hb : Binds K fd ps []) : FR P w K mg base CX k f sp := by
  intro A outer s H us vs Q E quiet room env r h
  have kin : K.In s.heap := env.mod.kin.keeps (fun b o z => (env.bs b o z).1)
  have n : (us ++ []).length = ps.length := by rw [List.append_nil, ← r.length]; exact F.len _ _ _ _ h
  have b := hb s us kin n
  rw [List.append_nil] at b
  exact F.run A outer s H ⟨us, []⟩ us vs Q E quiet room env b r h
/-- the def x of the module keeps the promise S, by at most level k -/
structure Cal (P : Program) (w : World) (K : PySem.W.Frag) (mg : Str → Option Value) (base : Heap) (CX : CXT) (k : Nat) (x : Str) (S : DSp) : Prop where
  ex : ∃ f, FR P w K mg base CX k f (liftP K mg S) ∧ mg x = some (.ref f) ∧ PySem.W.keepIn K (.ref f) = true
theorem Cal.mono {P : Program} {w : World} {K : PySem.W.Frag} {mg : Str → Option Value} {base : Heap} {CX : CXT} {j k : Nat} {x : Str} {S : DSp} (c : Cal P w K mg base CX j x S) (h : j ≤ k) : Cal P w K mg base CX k x S := by
  obtain ⟨f, F, r⟩ := c.ex
  exact ⟨f, fun A outer s H us vs Q E q rm => F A outer s H us vs Q E q (rm.mono h), r⟩
theorem Cal.imp {P : Program} {w : World} {K : PySem.W.Frag} {mg : Str → Option Value} {base : Heap} {CX : CXT} {k : Nat} {x : Str} {S S' : DSp} (c : Cal P w K mg base CX k x S) (h : ∀ ds μ Q E, S' ds μ Q E → S ds μ Q E) : Cal P w K mg base CX k x S' := by
  obtain ⟨f, F, r⟩ := c.ex
  have go : ∀ vs H Q E, liftP K mg S' vs H Q E → liftP K mg S vs H Q E := fun vs H Q E ⟨F, μ, ds, Qd, Ed, h1, h2, h3, h4⟩ => ⟨F, μ, ds, Qd, Ed, h1, h2, h _ _ _ _ h3, h4⟩
  exact ⟨f, fun A outer s H us vs Q E q rm e v z => F A outer s H us vs Q E q rm e v (go _ _ _ _ z), r⟩
/-- the slots at the entry -/
@[simp] def startD (n : Nat) (ds : List D) : DEnv := ds.map (fun d => some (.val d)) ++ List.replicate (n - ds.length) none
theorem start_rel {K : PySem.W.Frag} {mg : Str → Option Value} {F H : Hp} {μ : Sto} {vs : List V} {ds : List D} {N : List Str} (o : Ok K mg F μ H) (r : Dts K mg F vs ds) : RelB K mg ⟨F, μ, H⟩ F (startD N.length ds) μ (L2.start N vs) H := by
  have noOwn : ∀ (i : Nat) (xs : List D), (startD N.length ds)[i]? ≠ some (some (DS.own xs)) := fun i xs e => by
    unfold startD at e
    by_cases hi : i < ds.length
    · rw [List.getElem?_append_left (by simpa using hi), List.getElem?_map] at e
      cases z : ds[i]? with
      | none => rw [z] at e; cases e
      | some d => rw [z] at e; cases e
    · rw [List.getElem?_append_right (by simpa using hi), List.getElem?_replicate] at e
      split at e <;> cases e
  refine ⟨⟨o, ?_, fun i s e => ?_, fun i j xs ys e1 _ _ => absurd e1 (noOwn i xs)⟩, .refl, fun i xs a e _ => absurd e (noOwn i xs)⟩
  · unfold startD L2.start
    rw [List.length_append, List.length_append, List.length_map, List.length_map, List.length_replicate, List.length_replicate, r.length]
  · unfold startD at e
    by_cases hi : i < ds.length
    · rw [List.getElem?_append_left (by simpa using hi), List.getElem?_map] at e
      cases z : ds[i]? with
      | none => rw [z] at e; cases e
      | some d =>
        rw [z] at e; cases e
        obtain ⟨v, h1, h2⟩ := r.get z
        refine ⟨v, ?_, h2⟩
        unfold L2.start
        rw [List.getElem?_append_left (by rw [List.length_map, r.length]; exact hi), List.getElem?_map, h1]
        rfl
    · rw [List.getElem?_append_right (by simpa using hi), List.getElem?_replicate] at e
      split at e <;> cases e
section
variable {P : Program} {w : World} {K : PySem.W.Frag} {mg : Str → Option Value} {base : Heap} {k n : Nat} {f : Addr} {fd : FuncData} {ps : List Str} {S : DSp}
/-- a def that raises nothing, by its body over data -/
theorem FnG.ofD {name qual : Str} {st : Stmt} {N : List Str} (D : Fun K name qual st f fd) (Sc : FnScope N ps (defScope st)) (len : ∀ ds μ Q E, S ds μ Q E → ds.length = ps.length) (d : TSD)
    (hd : ∀ ds μ Q E, S ds μ Q E → d { nx := fun _ μ' => Q .non μ', rt := Q } (startD N.length ds) μ)
    (body : ∀ (cdv : Value) (A : Around) (outer : List Env) (s : Shared) (H : Hp) (E : XK) (B : Bs), Quiet (A.deeper (envOfC qual (defScope st) s.heap.objs.size f cdv)) → Room k (A.deeper (envOfC qual (defScope st) s.heap.objs.size f cdv)) →
      DSs (cxOf L2.CX0 P w K mg base N qual (defScope st) f cdv A outer s H E).nox B (defBody st) d) : FnG P w K mg base L2.CX0 (k + 1) f fd ps (liftP K mg S) := by
  refine FnG.of D Sc ?_ ?_
  · rintro vs H Q E ⟨F, μ, ds, Qd, Ed, _, h2, h3, _⟩
    exact h2.length.trans (len _ _ _ _ h3)
  · rintro cdv A outer s H vs Q E quiet room ⟨F, μ, ds, Qd, Ed, h1, h2, h3, h4, h5⟩
    refine ⟨_, PSs.nox (body cdv A outer s H E ⟨F, μ, H⟩ quiet room), ?_⟩
    refine ⟨F, startD N.length ds, μ, { nx := fun _ μ' => Qd .non μ', rt := Qd }, start_rel h1 h2, hd _ _ _ _ h3, ?_, fun _ _ _ _ _ _ _ z => z.elim, fun _ _ _ _ _ _ _ z => z.elim, ?_⟩
    · exact fun F' ρ' μ' σ' H' _ R q => h4 .non F' μ' H' .non R.ext R.rel.ok .non q
    · exact h4
theorem Cal.of {x : Str} (F : FnG P w K mg base L2.CX0 k f fd ps (liftP K mg S)) (hx : mg x = some (.ref f)) (hk : PySem.W.keepIn K (.ref f) = true) (hb : Binds K fd ps []) : Cal P w K mg base L2.CX0 k x S := ⟨f, F.toR hb, hx, hk⟩
end
section
variable {X : Cx} {k : Nat} {x : Str} {S : DSp} {e : Expr} {es : List Expr} {t : TAD} {p pos : Pos} {CX : CXT}
@[simp] def dCall (S : DSp) (t : TAD) (E : DXK) : TED := fun ρ μ Q => t ρ μ fun ds μ1 => S ds μ1 Q E
/-- the callee runs -/
theorem run_g {f : Addr} {sp : Sp} {E : XK} {pins : List (Addr × Obj)} {σ : L2.St} {H : Hp} {s : Shared} {Q : VK} {us : List Value} {vs : List V} (F : FR X.prog X.w X.K X.mg X.base CX k f sp) (quiet : Quiet X.A) (room : Room k X.A)
    (hx : Passes CX X E) (I : Inv X pins σ H s) (r : Vals vs us) (h : sp vs H Q E) : wpAny (model X.prog X.w) X.A (call (.ref f) us) (EP X pins σ Q) X.xe s := by
  refine wpAny_call (codeAny_mono (F X.A X.stack s H us vs Q E quiet room I.env0 r h) ?_)
  intro z s' hz
  match z, hz with
  | .error e, hz => exact hx pins σ H s e s' I hz
  | .ok (.ret u), hz => exact I.after hz
theorem de_call (c : Cal X.prog X.w X.K X.mg X.base L2.CX0 k x S) (quiet : Quiet X.A) (room : Room k X.A) (hg : Gl X x) (ha : DA X (e :: es) t) (hdb : (x == ("__debug__" : Str)) = false := by decide)
    (he : starEach (e :: es) X.env = (false, eval e X.env) :: starEach es X.env := by rfl) (hpl : (backTo pos (starEach es X.env)).any (·.1) = false := by rfl) : DE X (.Call (.Name x p) (e :: es) [] pos) (dCall S t noD) := by
  obtain ⟨f, F, hm, hk⟩ := c.ex
  refine ⟨fun pins s σ H Q I h => ?_⟩
  obtain ⟨F0, ρ, μ, Qd, R, hd, kk⟩ := h
  refine wpAny_Call_Name_kw (ld_glob I hg hm ?_ hdb)
  refine PySem.W.callWith_K (h₀ := X.base) I.ok.mod.kin hk (thn (ha.run pos pins s σ H (fun vs H1 => liftP X.K X.mg S vs H1 Q L2.E0) I ⟨F0, ρ, μ, _, R, hd, fun vs F1 μ1 H1 ds e1 o1 w1 q1 => ?_⟩) fun us s1 ⟨vs, H1, I1, r, q⟩ => ⟨I1.kIn, ?_⟩) he hpl
  · exact ⟨F1, μ1, ds, Qd, noD, o1, w1, q1, fun v F' μ' H' dv e o w q => kk v F' μ' H' dv (e1.trans e) o w q, fun _ _ _ _ _ _ _ _ _ _ z => z.elim⟩
  · exact run_g F quiet room L2.pass0 I1 r q
end
end DL

namespace DL
open PySem PySem.Spec PyProof.Rows L2
abbrev RDn := List D → Sto → DK → Prop
def CallS (K : PySem.W.Frag) (mg : Str → Option Value) (r : List V → Hp → VK → Prop) (rd : RDn) : Prop :=
  ∀ (F : Hp) (μ : Sto) (H : Hp) (vs : List V) (ds : List D) (Qd : DK) (Q : VK), Ok K mg F μ H → Wks K mg F μ H vs ds → rd ds μ Qd →
    (∀ v F' μ' H' dv, Ext F μ H F' μ' H' → Ok K mg F' μ' H' → Dt K mg F' v dv → Qd dv μ' → Q v H') → r vs H Q
@[simp] def dFn (rd : RDn) (t : TAD) : TED := fun ρ μ Q => t ρ μ fun ds μ1 => rd ds μ1 Q
section
variable {X : Cx} {x : Str} {p pos : Pos} {e : Expr} {es : List Expr} {t : TAD} {id T : String} {r : List V → Hp → VK → Prop} {rd : RDn}
theorem lift_fn {K : PySem.W.Frag} {mg : Str → Option Value} (hs : CallS K mg r rd) {σ : L2.St} {H : Hp} {Q : VK} (h : liftE K mg (dFn rd t) σ H Q) : tCB r (liftAW K mg t) σ H Q := by
  obtain ⟨F, ρ, μ, Qd, R, hd, k⟩ := h
  exact ⟨F, ρ, μ, _, R, hd, fun vs F1 μ1 H1 ds e1 o1 w1 q1 => hs F1 μ1 H1 vs ds Qd Q o1 w1 q1 fun v F2 μ2 H2 dv e2 o2 w2 q2 => k v F2 μ2 H2 dv (e1.trans e2) o2 w2 q2⟩
theorem de_fnB (hc : CallR X (.builtin id) r) (hs : CallS X.K X.mg r rd) (hg : Gl X x) (hm : X.mg x = none) (hv : bootBuiltins x = some (.builtin id)) (ha : DAW X (e :: es) t) (hn : x ≠ "__name__" := by decide) (hdb : (x == ("__debug__" : Str)) = false := by decide)
    (he : starEach (e :: es) X.env = (false, eval e X.env) :: starEach es X.env := by rfl) (hpl : (backTo pos (starEach es X.env)).any (·.1) = false := by rfl) : DE X (.Call (.Name x p) (e :: es) [] pos) (dFn rd t) :=
  (pe_callB hc hg hm hv ha hn hdb he hpl).weaken fun _ _ _ q => lift_fn hs q
theorem de_fnT (hc : CallR X (.type T) r) (hs : CallS X.K X.mg r rd) (hg : Gl X x) (hm : X.mg x = none) (hv : bootBuiltins x = some (.type T)) (ha : DAW X (e :: es) t) (hn : x ≠ "__name__" := by decide) (hdb : (x == ("__debug__" : Str)) = false := by decide)
    (he : starEach (e :: es) X.env = (false, eval e X.env) :: starEach es X.env := by rfl) (hpl : (backTo pos (starEach es X.env)).any (·.1) = false := by rfl) : DE X (.Call (.Name x p) (e :: es) [] pos) (dFn rd t) :=
  (pe_callTy hc hg hm hv ha hn hdb he hpl).weaken fun _ _ _ q => lift_fn hs q
end
section
variable {K : PySem.W.Frag} {mg : Str → Option Value} {F H : Hp} {μ : Sto}
theorem Wks.one {vs : List V} {d : D} (h : Wks K mg F μ H vs [d]) : ∃ v, vs = [v] ∧ Wk K mg F μ H v d := by
  cases h with
  | cons a b => cases b; exact ⟨_, rfl, a⟩
theorem Wks.two {vs : List V} {d e : D} (h : Wks K mg F μ H vs [d, e]) : ∃ v w, vs = [v, w] ∧ Wk K mg F μ H v d ∧ Wk K mg F μ H w e := by
  cases h with
  | cons a b =>
    obtain ⟨w, rfl, c⟩ := b.one
    exact ⟨_, _, rfl, a, c⟩
def refLst (μ : Sto) (a : Addr) : Option (List D) := match μ a with
  | some (.lst xs) => some xs
  | _ => none
theorem refLst_some {a : Addr} {xs : List D} (h : refLst μ a = some xs) : μ a = some (.lst xs) := by
  unfold refLst at h
  split at h
  · rename_i ys hy
    cases h
    exact hy
  · cases h
/-- a list that is read: as a value, the frame's own, the script, one that changes -/
@[simp] def lstOf (μ : Sto) : D → Option (List D)
  | .lst xs => some xs
  | .scr ns => some (ns.map D.int)
  | .ref a => refLst μ a
  | _ => none
/-- .. or a tuple -/
@[simp] def seqOf (μ : Sto) : D → Option (List D)
  | .tup xs => some xs
  | d => lstOf μ d
theorem Wk.list (o : Ok K mg F μ H) {v : V} {d : D} {xs : List D} (h : Wk K mg F μ H v d) (q : lstOf μ d = some xs) : ∃ a vs, v = .ref a ∧ SqL K H a vs ∧ Dts K mg F vs xs := by
  cases d <;> first | cases q; done | skip
  · cases q
    obtain ⟨a, vs, rfl, ha, r⟩ := h.lst o
    exact ⟨a, vs, rfl, .inl (.inl ha), r⟩
  · cases q
    obtain ⟨a, rfl, ha⟩ := h.scr o
    exact ⟨a, _, rfl, ha, Dts.ofInts _⟩
  · have q' := refLst_some q
    cases h.ref
    obtain ⟨vs, ha, r⟩ := o.sto _ _ q'
    exact ⟨_, vs, rfl, .inl (.inl ha), r⟩
theorem Wk.seq (o : Ok K mg F μ H) {v : V} {d : D} {xs : List D} (h : Wk K mg F μ H v d) (q : seqOf μ d = some xs) : ∃ a vs, v = .ref a ∧ (SqL K H a vs ∨ SqT K H a vs) ∧ Dts K mg F vs xs := by
  have other : ∀ q' : lstOf μ d = some xs, ∃ a vs, v = .ref a ∧ (SqL K H a vs ∨ SqT K H a vs) ∧ Dts K mg F vs xs := fun q' => by
    obtain ⟨a, vs, e, ha, r⟩ := h.list o q'
    exact ⟨a, vs, e, .inl ha, r⟩
  cases d with
  | tup ys =>
    cases q
    obtain ⟨a, vs, rfl, ha, _, r⟩ := h.tup o
    exact ⟨a, vs, rfl, .inr ha, r⟩
  | _ => exact other q

def rdLen : RDn
  | [.str s], μ, Q => s.length ≤ SZ ∧ Q (.int s.length) μ
  | [d], μ, Q => ∃ xs, seqOf μ d = some xs ∧ Q (.int xs.length) μ
  | _, _, _ => False
@[simp] theorem rdLen_1 : rdLen  [.str s0] μ0 Q0 = (s0.length ≤ SZ ∧ Q0 (.int s0.length) μ0) := rfl
@[simp] theorem rdLen_2 : rdLen  [.tup zs0] μ0 Q0 = (∃ xs, seqOf μ0 (.tup zs0) = some xs ∧ Q0 (.int xs.length) μ0) := rfl
@[simp] theorem rdLen_3 : rdLen  [.lst zs0] μ0 Q0 = (∃ xs, seqOf μ0 (.lst zs0) = some xs ∧ Q0 (.int xs.length) μ0) := rfl
@[simp] theorem rdLen_4 : rdLen  [.scr zs0] μ0 Q0 = (∃ xs, seqOf μ0 (.scr zs0) = some xs ∧ Q0 (.int xs.length) μ0) := rfl
@[simp] theorem rdLen_5 : rdLen  [.ref za0] μ0 Q0 = (∃ xs, seqOf μ0 (.ref za0) = some xs ∧ Q0 (.int xs.length) μ0) := rfl
def rLenA (K : PySem.W.Frag) : List V → Hp → VK → Prop := fun xs H Q => (∃ p ys, xs = [.ref p] ∧ (SqL K H p ys ∨ SqT K H p ys) ∧ Q (.int ys.length) H) ∨ (∃ z, xs = [.str z] ∧ z.length ≤ sizeLine ∧ Q (.int z.length) H)
theorem call_lenA {X : Cx} : CallR X (.builtin "len") (rLenA X.K) := .or call_len_seq call_len_str
theorem cs_len : CallS K mg (rLenA K) rdLen := by
  intro F μ H vs ds Qd Q o w h k
  unfold rdLen at h
  split at h
  · obtain ⟨v, rfl, wk⟩ := w.one
    refine .inr ⟨_, by rw [wk.str], by rw [S_len, sizeLine_eq]; exact h.1, ?_⟩
    rw [S_len]
    exact fin0 o k (.int _) h.2
  · obtain ⟨v, rfl, wk⟩ := w.one
    obtain ⟨xs, hx, h⟩ := h
    obtain ⟨a, us, rfl, ha, r⟩ := wk.seq o hx
    refine .inl ⟨a, us, rfl, ha, ?_⟩
    rw [r.length]
    exact fin0 o k (.int _) h
  · exact h.elim
def rdAbs : RDn
  | [.int i], μ, Q => Q (.int (if i < 0 then -i else i)) μ
  | _, _, _ => False
@[simp] theorem rdAbs_1 : rdAbs  [.int i0] μ0 Q0 = (Q0 (.int (if i0 < 0 then -i0 else i0)) μ0) := rfl
theorem cs_abs : CallS K mg (fun xs H Q => ∃ i, xs = [.int i] ∧ Q (.int (if i < 0 then -i else i)) H) rdAbs := by
  intro F μ H vs ds Qd Q o w h k
  unfold rdAbs at h
  split at h
  · obtain ⟨v, rfl, wk⟩ := w.one
    exact ⟨_, by rw [wk.int], fin0 o k (.int _) h⟩
  · exact h.elim
def rdInt : RDn
  | [.int i], μ, Q => Q (.int i) μ
  | [.bl k], μ, Q => Q (.int (if k then 1 else 0)) μ
  | _, _, _ => False
@[simp] theorem rdInt_1 : rdInt  [.int i0] μ0 Q0 = (Q0 (.int i0) μ0) := rfl
@[simp] theorem rdInt_2 : rdInt  [.bl k0] μ0 Q0 = (Q0 (.int (if k0 then 1 else 0)) μ0) := rfl
def rdTuple : RDn
  | [.tup xs], μ, Q => Q (.tup xs) μ
  | [d], μ, Q => ∃ xs, lstOf μ d = some xs ∧ Q (.tup xs) μ
  | _, _, _ => False
@[simp] theorem rdTuple_1 : rdTuple  [.tup xs0] μ0 Q0 = (Q0 (.tup xs0) μ0) := rfl
@[simp] theorem rdTuple_2 : rdTuple  [.lst zs0] μ0 Q0 = (∃ xs, lstOf μ0 (.lst zs0) = some xs ∧ Q0 (.tup xs) μ0) := rfl
@[simp] theorem rdTuple_3 : rdTuple  [.scr zs0] μ0 Q0 = (∃ xs, lstOf μ0 (.scr zs0) = some xs ∧ Q0 (.tup xs) μ0) := rfl
@[simp] theorem rdTuple_4 : rdTuple  [.ref za0] μ0 Q0 = (∃ xs, lstOf μ0 (.ref za0) = some xs ∧ Q0 (.tup xs) μ0) := rfl
theorem cs_tuple : CallS K mg (rTupZ K) rdTuple := by
  intro F μ H vs ds Qd Q o w h k
  unfold rdTuple at h
  split at h
  · obtain ⟨v, rfl, wk⟩ := w.one
    obtain ⟨a, us, rfl, ha, hf, r⟩ := wk.tup o
    exact ⟨a, us, rfl, .inr ⟨ha, fin0 o k (.tup hf r) h⟩⟩
  · obtain ⟨v, rfl, wk⟩ := w.one
    obtain ⟨xs, hx, h⟩ := h
    obtain ⟨a, us, rfl, ha, r⟩ := wk.list o hx
    refine ⟨a, us, rfl, .inl ⟨ha, fun l ob hl hob => ?_⟩⟩
    obtain ⟨g1, g2, g3⟩ := newTup o r hl hob
    exact k _ _ _ _ _ g1 g2 g3 h
  · exact h.elim
def rdList : RDn
  | [d], μ, Q => ∃ xs, seqOf μ d = some xs ∧ Q (.lst xs) μ
  | _, _, _ => False
@[simp] theorem rdList_1 : rdList  [.tup zs0] μ0 Q0 = (∃ xs, seqOf μ0 (.tup zs0) = some xs ∧ Q0 (.lst xs) μ0) := rfl
@[simp] theorem rdList_2 : rdList  [.lst zs0] μ0 Q0 = (∃ xs, seqOf μ0 (.lst zs0) = some xs ∧ Q0 (.lst xs) μ0) := rfl
@[simp] theorem rdList_3 : rdList  [.scr zs0] μ0 Q0 = (∃ xs, seqOf μ0 (.scr zs0) = some xs ∧ Q0 (.lst xs) μ0) := rfl
@[simp] theorem rdList_4 : rdList  [.ref za0] μ0 Q0 = (∃ xs, seqOf μ0 (.ref za0) = some xs ∧ Q0 (.lst xs) μ0) := rfl
def rdStr : RDn
  | [.int i], μ, Q => i.natAbs.log2 < 1920 ∧ Q (.str (toString i : Str).cps.toList) μ
  | _, _, _ => False
@[simp] theorem rdStr_1 : rdStr  [.int i0] μ0 Q0 = (i0.natAbs.log2 < 1920 ∧ Q0 (.str (toString i0 : Str).cps.toList) μ0) := rfl
def rdSum : RDn
  | [d], μ, Q => ∃ ns : List Int, lstOf μ d = some (ns.map D.int) ∧ Q (.int ns.sum) μ
  | _, _, _ => False
@[simp] theorem rdSum_1 : rdSum  [.lst zs0] μ0 Q0 = (∃ ns : List Int, lstOf μ0 (.lst zs0) = some (ns.map D.int) ∧ Q0 (.int ns.sum) μ0) := rfl
@[simp] theorem rdSum_2 : rdSum  [.scr zs0] μ0 Q0 = (∃ ns : List Int, lstOf μ0 (.scr zs0) = some (ns.map D.int) ∧ Q0 (.int ns.sum) μ0) := rfl
@[simp] theorem rdSum_3 : rdSum  [.ref za0] μ0 Q0 = (∃ ns : List Int, lstOf μ0 (.ref za0) = some (ns.map D.int) ∧ Q0 (.int ns.sum) μ0) := rfl
def rdAll : RDn
  | [d], μ, Q => ∃ bs : List Bool, lstOf μ d = some (bs.map D.bl) ∧ Q (.bl (bs.all id)) μ
  | _, _, _ => False
@[simp] theorem rdAll_1 : rdAll  [.lst zs0] μ0 Q0 = (∃ bs : List Bool, lstOf μ0 (.lst zs0) = some (bs.map D.bl) ∧ Q0 (.bl (bs.all id)) μ0) := rfl
@[simp] theorem rdAll_2 : rdAll  [.scr zs0] μ0 Q0 = (∃ bs : List Bool, lstOf μ0 (.scr zs0) = some (bs.map D.bl) ∧ Q0 (.bl (bs.all id)) μ0) := rfl
@[simp] theorem rdAll_3 : rdAll  [.ref za0] μ0 Q0 = (∃ bs : List Bool, lstOf μ0 (.ref za0) = some (bs.map D.bl) ∧ Q0 (.bl (bs.all id)) μ0) := rfl
theorem cs_all : CallS K mg (rAll K) rdAll := by
  intro F μ H vs ds Qd Q o w h k
  unfold rdAll at h
  split at h
  · obtain ⟨v, rfl, wk⟩ := w.one
    obtain ⟨ns, hx, h⟩ := h
    obtain ⟨a, us, rfl, ha, r⟩ := wk.list o hx
    rw [r.bls] at ha
    exact ⟨a, ns, rfl, ha, fin0 o k (.bl _) h⟩
  · exact h.elim
def rdAny : RDn
  | [d], μ, Q => ∃ bs : List Bool, lstOf μ d = some (bs.map D.bl) ∧ Q (.bl (bs.any id)) μ
  | _, _, _ => False
@[simp] theorem rdAny_1 : rdAny  [.lst zs0] μ0 Q0 = (∃ bs : List Bool, lstOf μ0 (.lst zs0) = some (bs.map D.bl) ∧ Q0 (.bl (bs.any id)) μ0) := rfl
@[simp] theorem rdAny_2 : rdAny  [.scr zs0] μ0 Q0 = (∃ bs : List Bool, lstOf μ0 (.scr zs0) = some (bs.map D.bl) ∧ Q0 (.bl (bs.any id)) μ0) := rfl
@[simp] theorem rdAny_3 : rdAny  [.ref za0] μ0 Q0 = (∃ bs : List Bool, lstOf μ0 (.ref za0) = some (bs.map D.bl) ∧ Q0 (.bl (bs.any id)) μ0) := rfl
def rdMax : RDn
  | [d], μ, Q => ∃ ns : List Int, lstOf μ d = some (ns.map D.int) ∧ 0 < ns.length ∧ ∀ m, m ∈ ns → (∀ y, y ∈ ns → y ≤ m) → Q (.int m) μ
  | [.int i, .int j], μ, Q => Q (.int (if j > i then j else i)) μ
  | _, _, _ => False
@[simp] theorem rdMax_1 : rdMax  [.lst zs0] μ0 Q0 = (∃ ns : List Int, lstOf μ0 (.lst zs0) = some (ns.map D.int) ∧ 0 < ns.length ∧ ∀ m, m ∈ ns → (∀ y, y ∈ ns → y ≤ m) → Q0 (.int m) μ0) := rfl
@[simp] theorem rdMax_2 : rdMax  [.scr zs0] μ0 Q0 = (∃ ns : List Int, lstOf μ0 (.scr zs0) = some (ns.map D.int) ∧ 0 < ns.length ∧ ∀ m, m ∈ ns → (∀ y, y ∈ ns → y ≤ m) → Q0 (.int m) μ0) := rfl
@[simp] theorem rdMax_3 : rdMax  [.ref za0] μ0 Q0 = (∃ ns : List Int, lstOf μ0 (.ref za0) = some (ns.map D.int) ∧ 0 < ns.length ∧ ∀ m, m ∈ ns → (∀ y, y ∈ ns → y ≤ m) → Q0 (.int m) μ0) := rfl
@[simp] theorem rdMax_4 : rdMax  [.int i0, .int j0] μ0 Q0 = (Q0 (.int (if j0 > i0 then j0 else i0)) μ0) := rfl
def rdMin : RDn
  | [d], μ, Q => ∃ ns : List Int, lstOf μ d = some (ns.map D.int) ∧ 0 < ns.length ∧ ∀ m, m ∈ ns → (∀ y, y ∈ ns → m ≤ y) → Q (.int m) μ
  | [.int i, .int j], μ, Q => Q (.int (if j < i then j else i)) μ
  | _, _, _ => False
@[simp] theorem rdMin_1 : rdMin  [.lst zs0] μ0 Q0 = (∃ ns : List Int, lstOf μ0 (.lst zs0) = some (ns.map D.int) ∧ 0 < ns.length ∧ ∀ m, m ∈ ns → (∀ y, y ∈ ns → m ≤ y) → Q0 (.int m) μ0) := rfl
@[simp] theorem rdMin_2 : rdMin  [.scr zs0] μ0 Q0 = (∃ ns : List Int, lstOf μ0 (.scr zs0) = some (ns.map D.int) ∧ 0 < ns.length ∧ ∀ m, m ∈ ns → (∀ y, y ∈ ns → m ≤ y) → Q0 (.int m) μ0) := rfl
@[simp] theorem rdMin_3 : rdMin  [.ref za0] μ0 Q0 = (∃ ns : List Int, lstOf μ0 (.ref za0) = some (ns.map D.int) ∧ 0 < ns.length ∧ ∀ m, m ∈ ns → (∀ y, y ∈ ns → m ≤ y) → Q0 (.int m) μ0) := rfl
@[simp] theorem rdMin_4 : rdMin  [.int i0, .int j0] μ0 Q0 = (Q0 (.int (if j0 < i0 then j0 else i0)) μ0) := rfl
end

mutual
/-- may be written out by repr -/
def D.shows : D → Bool
  | .non => true | .bl _ => true | .int i => decide (i.natAbs.log2 < 1920) | .str _ => true
  | .tup xs => D.showsAll xs | .lst xs => D.showsAll xs
  | _ => false
def D.showsAll : List D → Bool
  | [] => true
  | x :: xs => x.shows && D.showsAll xs
end
mutual
theorem D.shows_flat : ∀ d : D, d.shows = true → d.flat = true ∧ d.py.showable = true ∧ d.py.hasDict = false
  | .non, _ => ⟨rfl, rfl, rfl⟩
  | .bl _, _ => ⟨rfl, rfl, rfl⟩
  | .int _, h => ⟨rfl, h, rfl⟩
  | .str _, _ => ⟨rfl, rfl, rfl⟩
  | .tup xs, h => D.showsAll_flat xs h
  | .lst xs, h => D.showsAll_flat xs h
  | .dct _, h => nomatch h
  | .scr _, h => nomatch h
  | .ref _, h => nomatch h
  | .ty _, h => nomatch h
  | .gl _, h => nomatch h
theorem D.showsAll_flat : ∀ ds : List D, D.showsAll ds = true → D.flats ds = true ∧ PyData.showableAll (D.pys ds) = true ∧ PyData.hasDictAll (D.pys ds) = false
  | [], _ => ⟨rfl, rfl, rfl⟩
  | x :: xs, h => by
    have h' := Bool.and_eq_true_iff.mp h
    obtain ⟨a1, a2, a3⟩ := D.shows_flat x h'.1
    obtain ⟨b1, b2, b3⟩ := D.showsAll_flat xs h'.2
    refine ⟨?_, ?_, ?_⟩
    · show (x.flat && D.flats xs) = true
      rw [a1, b1]; rfl
    · show (x.py.showable && PyData.showableAll (D.pys xs)) = true
      rw [a2, b2]; rfl
    · show (x.py.hasDict || PyData.hasDictAll (D.pys xs)) = false
      rw [a3, b3]; rfl
end
/-- the text of repr -/
def D.rep (d : D) : List Nat := d.py.shown.cps.toList
def repOk (d : D) : Prop := d.shows = true ∧ d.py.depth ≤ 50 ∧ d.rep.length ≤ SZ
def rdRepr : RDn
  | [d], μ, Q => repOk d ∧ Q (.str d.rep) μ
  | _, _, _ => False
@[simp] theorem rdRepr_1 {d : D} {μ : Sto} {Q : DK} : rdRepr [d] μ Q = (repOk d ∧ Q (.str d.rep) μ) := rfl
def rReprA (K : PySem.W.Frag) : List V → Hp → VK → Prop := fun xs H Q => ∃ x d, xs = [x] ∧ Dp K H x d ∧ d.showable = true ∧ d.hasDict = false ∧ d.depth ≤ 50 ∧ d.shown.length ≤ sizeLine ∧ Q (.str d.shown) H
theorem call_reprA {X : Cx} (quiet : Quiet X.A) (hu : X.A.units + 64 < cLine) : CallR X (.builtin "repr") (rReprA X.K) := by
  intro pins s σ H xs us Q I r h
  obtain ⟨x, d, rfl, hd, hs, hn, hdep, hsz, q⟩ := h
  obtain ⟨u, rfl, ru⟩ := Vals.one r
  obtain ⟨as, reads⟩ := Dp.reads I d x u hd ru
  have done : ∀ (tk : Nat) (t : Tok), EP X pins σ Q (.str d.shown t) { s with toks := tk } := fun tk t => ⟨.str d.shown, H, I.tok _, ⟨_, rfl⟩, q⟩
  cases hd with
  | non => cases ru; exact PySem.P.repr_of_none (done _ _)
  | bl b => cases ru; exact PySem.P.repr_of_bool (done _ _)
  | int i =>
    obtain ⟨t, rfl⟩ := ru
    exact PySem.P.repr_of_int (of_decide_eq_true hs) (done _ _)
  | str z =>
    obtain ⟨t, rfl⟩ := ru
    exact PySem.P.repr_of_str (done _ _) hsz
  | lst h1 h2 =>
    cases ru
    exact repr_of_reads' reads hs (fun c => by rw [hn] at c; cases c) quiet (by omega) (fun _ _ e => e) (fun h' t tk keep => ⟨.str _, H, I.kept keep, ⟨_, rfl⟩, q⟩) hsz
  | tup h1 h2 =>
    cases ru
    exact repr_of_reads' reads hs (fun c => by rw [hn] at c; cases c) quiet (by omega) (fun _ _ e => e) (fun h' t tk keep => ⟨.str _, H, I.kept keep, ⟨_, rfl⟩, q⟩) hsz
theorem cs_repr {K : PySem.W.Frag} {mg : Str → Option Value} : CallS K mg (rReprA K) rdRepr := by
  intro F μ H vs ds Qd Q o w h k
  unfold rdRepr at h
  split at h
  · obtain ⟨v, rfl, wk⟩ := w.one
    obtain ⟨⟨h1, h2, h3⟩, q⟩ := h
    obtain ⟨f1, f2, f3⟩ := D.shows_flat _ h1
    refine ⟨v, _, rfl, wk.dp o f1, f2, f3, h2, by rw [sizeLine_eq, ← S_of (D.py _).shown, S_len]; exact h3, ?_⟩
    have := fin0 o k (.str (D.rep _)) q
    unfold D.rep at this
    rw [S_of] at this
    exact this
  · exact h.elim

abbrev RDm := D → List D → Sto → DK → Prop
def MtS (K : PySem.W.Frag) (mg : Str → Option Value) (r : V → List V → Hp → VK → Prop) (rd : RDm) : Prop :=
  ∀ (F : Hp) (μ : Sto) (H : Hp) (v : V) (vs : List V) (d : D) (ds : List D) (Qd : DK) (Q : VK), Ok K mg F μ H → Wk K mg F μ H v d → Wks K mg F μ H vs ds → rd d ds μ Qd →
    (∀ v F' μ' H' dv, Ext F μ H F' μ' H' → Ok K mg F' μ' H' → Dt K mg F' v dv → Qd dv μ' → Q v H') → r v vs H Q
/-- of which built-in type the receiver is -/
@[simp] def tyD (μ : Sto) (T : String) (d : D) : Prop := match d with
  | .str _ => T = "str"
  | .int _ => T = "int"
  | d => T = "list" ∧ ∃ xs, lstOf μ d = some xs
@[simp] def dMt (T : String) (rd : RDm) (o : TED) (t : TAD) : TED := fun ρ μ Q => o ρ μ fun x μ1 => tyD μ1 T x ∧ t ρ μ1 fun ds μ2 => rd x ds μ2 Q
theorem Wk.ty' {K : PySem.W.Frag} {mg : Str → Option Value} {F H : Hp} {μ : Sto} (o : Ok K mg F μ H) {T : String} {v : V} {d : D} (w : Wk K mg F μ H v d) (h : tyD μ T d) : tyV K T v H := by
  have other : (T = "list" ∧ ∃ xs, lstOf μ d = some xs) → tyV K T v H := fun ⟨e, xs, hx⟩ => by
    obtain ⟨a, vs, rfl, ha, r⟩ := w.list o hx
    exact .inl ⟨e, vs, ha⟩
  cases d with
  | str s => rw [w.str]; exact h
  | int i => rw [w.int]; exact h
  | _ => exact other h
section
variable {X : Cx} {o e : Expr} {es : List Expr} {d : TED} {t : TAD} {name : Str} {apos cpos : Pos} {T id : String} {r : V → List V → Hp → VK → Prop} {rd : RDm}
theorem de_mt (pa : PlainAttrs T) (slot : Slot T name id) (hty : typeOf (.builtin id) = pure (.type "method_descriptor")) (hm : MtR X id r) (hs : MtS X.K X.mg r rd) (ho : DW X o d) (ha : DAW X (e :: es) t)
    (hbase : attributeBase o name X.env (eval o X.env) = eval o X.env := by rfl)
    (hfew : ((backTo cpos (starEach (e :: es) X.env)).all (fun x => !x.1) && (backToKw cpos (keywordEach [] X.env)).all (fun x => x.1.isSome) && decide ((e :: es).length + ([] : List Keyword).length + (if ([] : List Keyword).isEmpty then 0 else 1) < 30)) = true := by rfl)
    (hline : (apos.endLine == cpos.line) = true := by rfl) (hst : starEach (e :: es) X.env = (false, eval e X.env) :: starEach es X.env := by rfl) (hplain : (backTo cpos (starEach es X.env)).any (·.1) = false := by rfl) :
    DE X (.Call (.Attribute o name apos) (e :: es) [] cpos) (dMt T rd d t) := (pe_bm pa slot hty hm ho ha hbase hfew hline hst hplain).weaken fun σ H Q q => by
  obtain ⟨F, ρ, μ, Qd, R, hd, k⟩ := q
  refine ⟨F, ρ, μ, _, R, hd, fun v F1 μ1 H1 dv e1 o1 w1 q1 => ⟨w1.ty' o1 q1.1, F1, ρ, μ1, _, R.ext e1 o1, q1.2, fun vs F2 μ2 H2 ds e2 o2 w2 q2 => ?_⟩⟩
  exact hs F2 μ2 H2 v vs dv ds Qd Q o2 (w1.ext e2) w2 q2 fun z F3 μ3 H3 dz e3 o3 w3 q3 => k z F3 μ3 H3 dz (e1.trans (e2.trans e3)) o3 w3 q3
theorem de_mt0 (pa : PlainAttrs T) (slot : Slot T name id) (hty : typeOf (.builtin id) = pure (.type "method_descriptor")) (hm : MtR X id r) (hs : MtS X.K X.mg r rd) (ho : DW X o d)
    (hbase : attributeBase o name X.env (eval o X.env) = eval o X.env := by rfl) (hline : (apos.endLine == cpos.line) = true := by rfl) : DE X (.Call (.Attribute o name apos) [] [] cpos) (dMt T rd d dNil) := (pe_bm0 pa slot hty hm ho hbase hline).weaken fun σ H Q q => by
  obtain ⟨F, ρ, μ, Qd, R, hd, k⟩ := q
  refine ⟨F, ρ, μ, _, R, hd, fun v F1 μ1 H1 dv e1 o1 w1 q1 => ⟨w1.ty' o1 q1.1, ?_⟩⟩
  exact hs F1 μ1 H1 v [] dv [] Qd Q o1 w1 .nil q1.2 fun z F3 μ3 H3 dz e3 o3 w3 q3 => k z F3 μ3 H3 dz (e1.trans e3) o3 w3 q3
end
/-- the texts joined -/
def joinL (sep : List Nat) : List (List Nat) → List Nat
  | [] => []
  | x :: r => x ++ (r.map fun y => sep ++ y).flatten
theorem join_S (sep : List Nat) (parts : List (List Nat)) : PySem.Txt.join (S sep) (parts.map S) = S (joinL sep parts) := by
  have go : ∀ (r : List (List Nat)) (acc : List Nat), (r.map S).foldl (fun acc p => acc ++ (S sep).cps ++ p.cps) acc.toArray = (acc ++ (r.map fun y => sep ++ y).flatten).toArray := by
    intro r
    induction r with
    | nil => intro acc; simp
    | cons x r ih =>
      intro acc
      rw [List.map_cons, List.foldl_cons]
      have e : acc.toArray ++ (S sep).cps ++ (S x).cps = (acc ++ sep ++ x).toArray := by simp
      rw [e, ih]
      simp
  show Builtin.Str.glued (S sep) (parts.map S) = _
  unfold Builtin.Str.glued
  cases parts with
  | nil => rfl
  | cons x r =>
    rw [List.map_cons]
    have := go r x
    show (⟨_⟩ : Str) = _
    rw [List.drop_one, List.tail_cons, List.headD_cons, this]
    rfl
theorem strs_len (parts : List (List Nat)) : ((parts.map S).map (·.length)).sum = (parts.map List.length).sum := by
  rw [List.map_map]
  exact congrArg List.sum (List.map_congr_left fun x _ => S_len x)
def rdJoin : RDm
  | .str sep, [d], μ, Q => ∃ parts : List (List Nat), seqOf μ d = some (parts.map D.str) ∧ (parts.map List.length).sum + parts.length * sep.length ≤ SZ ∧ Q (.str (joinL sep parts)) μ
  | _, _, _, _ => False
@[simp] theorem rdJoin_1 : rdJoin  (.str sep0) [.tup zs0] μ0 Q0 = (∃ parts : List (List Nat), seqOf μ0 (.tup zs0) = some (parts.map D.str) ∧ (parts.map List.length).sum + parts.length * sep0.length ≤ SZ ∧ Q0 (.str (joinL sep0 parts)) μ0) := rfl
@[simp] theorem rdJoin_2 : rdJoin  (.str sep0) [.lst zs0] μ0 Q0 = (∃ parts : List (List Nat), seqOf μ0 (.lst zs0) = some (parts.map D.str) ∧ (parts.map List.length).sum + parts.length * sep0.length ≤ SZ ∧ Q0 (.str (joinL sep0 parts)) μ0) := rfl
@[simp] theorem rdJoin_3 : rdJoin  (.str sep0) [.scr zs0] μ0 Q0 = (∃ parts : List (List Nat), seqOf μ0 (.scr zs0) = some (parts.map D.str) ∧ (parts.map List.length).sum + parts.length * sep0.length ≤ SZ ∧ Q0 (.str (joinL sep0 parts)) μ0) := rfl
@[simp] theorem rdJoin_4 : rdJoin  (.str sep0) [.ref za0] μ0 Q0 = (∃ parts : List (List Nat), seqOf μ0 (.ref za0) = some (parts.map D.str) ∧ (parts.map List.length).sum + parts.length * sep0.length ≤ SZ ∧ Q0 (.str (joinL sep0 parts)) μ0) := rfl
theorem ms_join {K : PySem.W.Frag} {mg : Str → Option Value} : MtS K mg (fun x xs H Q => ∃ a p, ∃ ys : List Str, x = .str a ∧ xs = [.ref p] ∧ (SqL K H p (ys.map V.str) ∨ SqT K H p (ys.map V.str)) ∧ (ys.map (·.length)).sum + ys.length * a.length ≤ 16777216 ∧ Q (.str (PySem.Txt.join a ys)) H) rdJoin := by
  intro F μ H v vs d ds Qd Q o w ws h k
  unfold rdJoin at h
  split at h
  · obtain ⟨u, rfl, wk⟩ := ws.one
    obtain ⟨parts, hx, hz, h⟩ := h
    obtain ⟨a, us, rfl, ha, r⟩ := wk.seq o hx
    rw [r.strs] at ha
    refine ⟨_, a, parts.map S, w.str, rfl, ha, ?_, ?_⟩
    · rw [strs_len, List.length_map, S_len]; exact hz
    · rw [join_S]
      exact fin0 o k (.str _) h
  · exact h.elim
/-- the first place of a sign from a place on, or -1 -/
def findI (s : List Nat) (c : Nat) (b : Nat) : Int := match (s.drop b).findIdx? (· == c) with
  | some k => ((b + k : Nat) : Int)
  | none => -1
def rdFind : RDm
  | .str s, [.str [c], .int i], μ, Q => 0 ≤ i ∧ Q (.int (findI s c i.toNat)) μ
  | _, _, _, _ => False
@[simp] theorem rdFind_1 : rdFind  (.str s0) [.str [c0], .int i0] μ0 Q0 = (0 ≤ i0 ∧ Q0 (.int (findI s0 c0 i0.toNat)) μ0) := rfl
theorem find3_S (s : List Nat) (c : Nat) (i : Int) (h : 0 ≤ i) : PySem.Txt.find3 (S s) ⟨#[c]⟩ i = findI s c i.toNat := by
  have hf : PySem.fromIndex (S s).length i = i.toNat := by
    unfold PySem.fromIndex
    rw [if_neg (by omega)]
    congr 1
    omega
  have hg : ∀ v, v < s.length → (S s).cps.getD v 0 = s.getD v 0 := fun v hv => by simp
  unfold findI
  cases e : (s.drop i.toNat).findIdx? (· == c) with
  | none =>
    rw [List.findIdx?_eq_none_iff] at e
    rcases PySem.StrLaws.find3_spec (S s) c i with ⟨h1, _⟩ | ⟨k, h1, h2, h3, h4, _⟩
    · exact h1
    · exfalso
      rw [hf] at h2
      rw [S_len] at h3
      rw [hg k h3] at h4
      have hm : s.getD k 0 ∈ s.drop i.toNat := by
        rw [List.getD_eq_getElem?_getD, List.getElem?_eq_getElem h3]
        simp only [Option.getD_some]
        rw [List.mem_drop_iff_getElem]
        exact ⟨k - i.toNat, by omega, by congr 1; omega⟩
      have := e _ hm
      rw [h4] at this
      simp at this
  | some j =>
    obtain ⟨hj, hj1, hj2⟩ := List.findIdx?_eq_some_iff_getElem.mp e
    rw [List.length_drop] at hj
    have hv : s.getD (i.toNat + j) 0 = c := by
      rw [List.getD_eq_getElem?_getD, List.getElem?_eq_getElem (by omega)]
      simp only [Option.getD_some]
      have := hj1
      rw [List.getElem_drop] at this
      simpa using this
    rcases PySem.StrLaws.find3_spec (S s) c i with ⟨_, h2⟩ | ⟨k, h1, h2, h3, h4, h5⟩
    · exfalso
      have := h2 (i.toNat + j) (by rw [hf]; omega) (by rw [S_len]; omega)
      rw [hg _ (by omega)] at this
      exact this hv
    · rw [h1]
      rw [hf] at h2
      rw [S_len] at h3
      rw [hg k h3] at h4
      have le1 : ¬ i.toNat + j < k := fun lt => by
        have := h5 (i.toNat + j) (by rw [hf]; omega) lt
        rw [hg _ (by omega)] at this
        exact this hv
      have le2 : ¬ k < i.toNat + j := fun lt => by
        have := hj2 (k - i.toNat) (by omega)
        rw [List.getElem_drop] at this
        have e2 : i.toNat + (k - i.toNat) = k := by omega
        simp only [e2] at this
        rw [List.getD_eq_getElem?_getD, List.getElem?_eq_getElem h3] at h4
        simp only [Option.getD_some] at h4
        rw [h4] at this
        simp at this
      have : k = i.toNat + j := by omega
      rw [this]
theorem ms_find {K : PySem.W.Frag} {mg : Str → Option Value} : MtS K mg (fun x xs H Q => ∃ (a b : Str) (i : Int), x = .str a ∧ xs = [.str b, .int i] ∧ Q (.int (PySem.Txt.find3 a b i)) H) rdFind := by
  intro F μ H v vs d ds Qd Q o w ws h k
  unfold rdFind at h
  split at h
  · obtain ⟨u, u', rfl, wk, wk'⟩ := ws.two
    refine ⟨_, _, _, w.str, by rw [wk.str, wk'.int], ?_⟩
    rw [find3_S _ _ _ h.1]
    exact fin0 o k (.int _) h.2
  · exact h.elim
end DL

namespace DL
open PySem PySem.Spec PyProof.Rows L2
section
variable {X : Cx} {B : Bs} {e o i : Expr} {es : List Expr} {d do' di : TED} {t : TAD} {p pos : Pos}
/-- a new list as one that changes -/
@[simp] def dM (d : TFD) : TED := fun ρ μ Q => d ρ μ fun xs μ1 => ∀ p, μ1 p = none → Q (.ref p) (sset μ1 p (.lst xs))
theorem de_M {d : TFD} (h : DF X e d) : DE X e (dM d) := h.weaken fun σ H Q q => by
  obtain ⟨F, ρ, μ, Qd, R, hd, k⟩ := q
  refine ⟨F, ρ, μ, _, R, hd, fun p vs F' μ' H' ds e o hn hf hm hh w q => ?_⟩
  refine k _ F' (sset μ' p (.lst ds)) H' _ ⟨e.mono, fun a x z n => ?_, e.live⟩ ⟨o.sub, fun a m z => ?_, fun a m z => ?_⟩ (.ref p) (q p hm)
  · obtain ⟨g1, g2, g3⟩ := e.keep a x z n
    have ha : a ≠ p := fun q => by subst q; rw [hn] at z; cases z
    exact ⟨g1, g2, by rw [sset_ne ha]; exact g3⟩
  · by_cases ha : a = p
    · subst ha; exact hf
    · rw [sset_ne ha] at z; exact o.dis a m z
  · by_cases ha : a = p
    · subst ha; rw [sset_same] at z; cases z; exact ⟨vs, hh, w⟩
    · rw [sset_ne ha] at z; exact o.sto a m z
section
variable {name : Str} {apos cpos : Pos} {T id : String} {r : V → List V → Hp → VK → Prop} {rd : RDm}
end
def rdApp : RDm
  | .ref a, [y], μ, Q => ∃ xs, μ a = some (.lst xs) ∧ xs.length < SZ ∧ Q .non (sset μ a (.lst (xs ++ [y])))
  | _, _, _, _ => False
@[simp] theorem rdApp_1 : rdApp  (.ref a0) [y0] μ0 Q0 = (∃ xs, μ0 a0 = some (.lst xs) ∧ xs.length < SZ ∧ Q0 .non (sset μ0 a0 (.lst (xs ++ [y0])))) := rfl
/-- pop() -/
def rdPop0 : RDm
  | .ref a, [], μ, Q => ∃ xs y, μ a = some (.lst xs) ∧ xs[xs.length - 1]? = some y ∧ Q y (sset μ a (.lst xs.dropLast))
  | _, _, _, _ => False
@[simp] theorem rdPop0_1 : rdPop0  (.ref a0) [] μ0 Q0 = (∃ xs y, μ0 a0 = some (.lst xs) ∧ xs[xs.length - 1]? = some y ∧ Q0 y (sset μ0 a0 (.lst xs.dropLast))) := rfl
/-- pop(i) -/
def rdPopAt : RDm
  | .ref a, [.int i], μ, Q => ∃ xs j y, μ a = some (.lst xs) ∧ -9223372036854775808 ≤ i ∧ i < 9223372036854775808 ∧ seqIndex? i xs.length = some j ∧ xs[j]? = some y ∧ Q y (sset μ a (.lst (xs.eraseIdx j)))
  | _, _, _, _ => False
@[simp] theorem rdPopAt_1 : rdPopAt  (.ref a0) [.int i0] μ0 Q0 = (∃ xs j y, μ0 a0 = some (.lst xs) ∧ -9223372036854775808 ≤ i0 ∧ i0 < 9223372036854775808 ∧ seqIndex? i0 xs.length = some j ∧ xs[j]? = some y ∧ Q0 y (sset μ0 a0 (.lst (xs.eraseIdx j)))) := rfl
theorem Dts.eraseIdx {K : PySem.W.Frag} {mg : Str → Option Value} {F : Hp} : ∀ {vs : List V} {ds : List D} (n : Nat), Dts K mg F vs ds → Dts K mg F (vs.eraseIdx n) (ds.eraseIdx n)
  | _, _, _, .nil => .nil
  | _, _, 0, .cons _ t => t
  | _, _, n + 1, .cons q t => .cons q (Dts.eraseIdx n t)
theorem Dts.dropLast {K : PySem.W.Frag} {mg : Str → Option Value} {F : Hp} {vs : List V} {ds : List D} (h : Dts K mg F vs ds) : Dts K mg F vs.dropLast ds.dropLast := by
  rw [List.dropLast_eq_take, List.dropLast_eq_take, h.length]
  exact h.take _
/-- o a list that changes -/
@[simp] def dPutM (d o i : TED) : TSD := fun E ρ μ => d ρ μ fun y μ1 => o ρ μ1 fun x μ2 => i ρ μ2 fun k μ3 => ∃ a xs n j, x = .ref a ∧ k = .int n ∧ μ3 a = some (.lst xs) ∧ ixN xs.length n = some j ∧ E.nx ρ (sset μ3 a (.lst (xs.set j y)))
theorem ds_putM {spos : Pos} (he : DE X e d) (ho : DE X o do') (hi : DW X i di)
    (ha : ∀ v, assign (.Subscript o i spos) X.env v = (do
      let ov ← holding [v] (eval o X.env)
      let iv ← holding [v, ov] (eval i X.env)
      standAt spos
      holding [v, ov, iv] (setItem ov iv v)
      release [v, ov, iv] []) := by intro _; rfl)
    (hs : swapsWithSole [.Subscript o i spos] e pos.line X.env = pure false := by rfl) (hw : swappedStores [.Subscript o i spos] e X.env = pure none := by rfl) (h1 : (assignEach [.Subscript o i spos] X.env).map (·.2) = [assign (.Subscript o i spos) X.env] := by rfl) :
    DSt X B (.Assign [.Subscript o i spos] e pos) (dPutM d do' di) := (ps_asg he (pg_sub ho hi set_list ha) hs hw h1).weaken fun E σ H h => by
  obtain ⟨F, ρ, μ, Dd, R, hd, kn, kb, kc, kr⟩ := h
  refine ⟨F, ρ, μ, _, R.rel, hd, fun v F1 μ1 H1 dv e1 o1 w1 q1 => ?_⟩
  refine ⟨F1, ρ, μ1, _, R.rel.ext e1 o1, q1, fun u F2 μ2 H2 du e2 o2 w2 q2 => ?_⟩
  refine ⟨F2, ρ, μ2, _, R.rel.ext (e1.trans e2) o2, q2, fun z F3 μ3 H3 dz e3 o3 w3 q3 => ?_⟩
  obtain ⟨a, xs, n, j, rfl, rfl, hx, hj, q⟩ := q3
  cases w2
  obtain ⟨us, hus, ru⟩ := o3.sto _ _ hx
  have e13 := e1.trans (e2.trans e3)
  obtain ⟨g1, g2⟩ := o3.write hx (.lst (us.set j v)) (.lst (xs.set j dv)) ⟨_, upd_same, ru.set ((w1.mono e2.mono).mono e3.mono) j⟩
  exact ⟨a, us, n, j, rfl, w3.int, hus, by rw [ru.length]; exact hj, kn F3 ρ _ σ _ (e13.trans g2).mono (R.step (e13.trans g2) g1) q⟩
/-- o a name of a list of the frame's own -/
@[simp] def dPut (sl : Nat) (d i : TED) : TSD := fun E ρ μ => ∃ xs, ρ[sl]? = some (some (.own xs)) ∧ d ρ μ fun y μ1 => i ρ μ1 fun k μ2 => ∃ n j, k = .int n ∧ ixN xs.length n = some j ∧ E.nx (ρ.set sl (some (.own (xs.set j y)))) μ2
end
end DL

namespace DL
open PySem PySem.Spec PyProof.Rows L2
theorem rev_S (s : List Nat) (u : Tok) : PySem.Txt.sliceBy (S s) none none (-1, u) = S s.reverse := by
  have h := PyProof.Rows.step_rev_list (S s) u
  have e : (List.range (S s).length).map (fun k => (S s).cps.getD ((S s).length - 1 - k) 0) = s.reverse := by
    rw [S_len]
    apply List.ext_getElem?
    intro i
    by_cases hi : i < s.length
    · rw [List.getElem?_map, List.getElem?_range hi, List.getElem?_reverse hi]
      have hj : s.length - 1 - i < s.length := by omega
      simp [List.getElem?_eq_getElem hj]
    · rw [List.getElem?_eq_none (by simp; omega), List.getElem?_eq_none (by simp; omega)]
  rw [e] at h
  rw [← S_of (PySem.Txt.sliceBy (S s) none none (-1, u)), h]
section
variable {X : Cx} {e : Expr} {d : TED} {t : TAD} {p pos : Pos}
def tRevS (te : TE) : TE := fun σ H Q => te σ H fun x H1 => ∃ z, x = .str (S z) ∧ z.length ≤ sizeLine ∧ Q (.str (S z.reverse)) H1
theorem pe_revS {te : TE} {k : Nat} {p1 p2 p3 : Pos} (he : PE X e te) : PE X (.Subscript e (.Slice none none (some (.UnaryOp .USub (.Constant (.int 1) k p1) p2)) p3) pos) (tRevS te) := by
  refine ⟨fun pins s σ H Q I h => Subscript_ (thn (he.run pins s σ H _ I h) ?_)⟩
  rintro v s1 ⟨x, H1, I1, r1, z, rfl, hz, q⟩
  obtain ⟨tk, rfl⟩ := r1
  have step : PO X (some (.UnaryOp .USub (.Constant (.int 1) k p1) p2)) (tPart (tUn (rU fun i => .int (-i)) (tC (.int 1)))) := po_some (pe_un un_neg pe_int)
  refine wpAny_Slice (thn (po_none.run pins s1 σ H1 (fun o H2 => o = none ∧ H2 = H1) I1 ⟨rfl, rfl⟩) ?_)
  rintro vl s2 ⟨l, H2, I2, pl, rfl, rfl⟩
  refine thn (po_none.run pins s2 σ H2 (fun o H3 => o = none ∧ H3 = H2) I2 ⟨rfl, rfl⟩) ?_
  rintro vu s3 ⟨u, H3, I3, pu, rfl, rfl⟩
  refine thn (step.run pins s3 σ H3 (fun o H4 => o = some (-1) ∧ H4 = H3) I3 ⟨1, rfl, -1, rfl, rfl, rfl⟩) ?_
  rintro vs s4 ⟨o, H4, I4, ps, rfl, rfl⟩
  cases pl
  cases pu
  obtain ⟨uk, rfl⟩ : ∃ uk, vs = .int (-1) uk := by cases ps; exact ⟨_, rfl⟩
  refine tail_any (ops := [.str (S z) tk, .ref s4.heap.objs.size]) (typeIs_str _ _ _) PySem.F.slot_str_getitem.lookup ?_ (by with_unfolding_all rfl)
  refine wpAny_getItem_str_slice (l := none) (u := none) (st := some (-1, uk)) ⟨_, Heap.get?_push_size _ rfl, rfl, rfl⟩ rfl (post_val_or_str ⟨?_, fun t' c => ?_⟩)
  · exact Nat.le_trans (PySem.Txt.sliceBy_le _ none none (-1, uk) (fun z => by cases z)) (by rw [S_len]; exact hz)
  · refine ⟨.str _, H4, I4.kept (fun b ob w => Heap.get?_push_of_some _ w), ⟨t', rfl⟩, ?_⟩
    have e := rev_S z uk
    show Q (V.str (PySem.Txt.sliceBy (S z) none none (-1, uk))) H4
    rw [e]
    exact q
@[simp] def dRev (d : TED) : TED := fun ρ μ Q => d ρ μ fun x μ1 => match x with
  | .str s => s.length ≤ SZ ∧ Q (.str s.reverse) μ1
  | _ => False
theorem de_rev {k : Nat} {p1 p2 p3 : Pos} (he : DW X e d) : DE X (.Subscript e (.Slice none none (some (.UnaryOp .USub (.Constant (.int 1) k p1) p2)) p3) pos) (dRev d) := (pe_revS he).weaken fun σ H Q q => by
  obtain ⟨F, ρ, μ, Qd, R, hd, k⟩ := q
  refine ⟨F, ρ, μ, _, R, hd, fun v F1 μ1 H1 dv e1 o1 w1 q1 => ?_⟩
  cases dv <;> first | exact q1.elim | skip
  exact ⟨_, w1.str, by rw [sizeLine_eq]; exact q1.1, k _ F1 μ1 H1 _ e1 o1 (.str _) q1.2⟩
@[simp] def dRevL (d : TED) : TED := fun ρ μ Q => d ρ μ fun x μ1 => ∃ xs, lstOf μ1 x = some xs ∧ Q (.lst xs.reverse) μ1
end
end DL

namespace DL
open PySem PySem.Spec PyProof.Rows L2
theorem forD_inv {g : TGD} {body : TSD} {E : DEnds} {inv : Sto → Prop} (P : List D → DEnv → Sto → Prop) (hi : ∀ xs ρ μ, P xs ρ μ → inv μ)
    (step : ∀ x xs ρ μ (n : DEnv → Sto → Prop), P (x :: xs) ρ μ → (∀ ρ' μ', P xs ρ' μ' → n ρ' μ') → g x ρ fun ρ1 => body { E with nx := n, ct := n, bk := E.nx } ρ1 μ) (done : ∀ ρ μ, P [] ρ μ → E.nx ρ μ) :
    ∀ items ρ μ, P items ρ μ → forD g body E inv items ρ μ := by
  intro items
  induction items with
  | nil => intro ρ μ h; exact ⟨hi _ _ _ h, done ρ μ h⟩
  | cons x xs ih => intro ρ μ h; exact ⟨hi _ _ _ h, step x xs ρ μ _ h ih⟩
/-- over a range from 0 -/
theorem forD_rng {g : TGD} {body : TSD} {E : DEnds} {n : Nat} (P : Nat → DEnv → Sto → Prop)
    (step : ∀ (i : Nat) ρ μ (k : DEnv → Sto → Prop), i < n → P i ρ μ → (∀ ρ' μ', P (i + 1) ρ' μ' → k ρ' μ') → g (.int i) ρ fun ρ1 => body { E with nx := k, ct := k, bk := E.nx } ρ1 μ) (done : ∀ ρ μ, P n ρ μ → E.nx ρ μ)
    {ρ : DEnv} {μ : Sto} (h0 : P 0 ρ μ) : forD g body E still (rngD 0 n) ρ μ := by
  refine forD_inv (fun xs ρ μ => ∃ i, i ≤ n ∧ xs = (rngD 0 n).drop i ∧ P i ρ μ) (fun _ _ _ _ => trivial) ?_ ?_ _ _ _ ⟨0, Nat.zero_le _, rfl, h0⟩
  · rintro x xs ρ μ k ⟨i, hi, e, hP⟩ hk
    have hl : (rngD 0 n).length = n := by simp [rngD]
    have hlt : i < n := by
      apply Decidable.byContradiction
      intro hc
      rw [List.drop_eq_nil_of_le (by omega)] at e
      cases e
    have hd := List.drop_eq_getElem_cons (l := rngD 0 n) (i := i) (by omega)
    rw [← e] at hd
    have hx : x = .int i := by
      rw [(List.cons.inj hd).1]
      simp [rngD]
    subst hx
    exact step i ρ μ k hlt hP fun ρ' μ' h => hk ρ' μ' ⟨i + 1, hlt, (List.cons.inj hd).2, h⟩
  · rintro ρ μ ⟨i, hi, e, hP⟩
    have hl : (rngD 0 n).length = n := by simp [rngD]
    have : i = n := by
      apply Decidable.byContradiction
      intro hc
      have hd := List.drop_eq_getElem_cons (l := rngD 0 n) (i := i) (by omega)
      rw [← e] at hd
      cases hd
    subst this
    exact done ρ μ hP
theorem lcD_inv {vs : List Nat} {g : TGD} {c : TTD} {el : TED} {ρ : DEnv} {inv : Sto → Prop} {Q : List D → Sto → Prop} (P : List D → List D → Sto → Prop) (hi : ∀ xs acc μ, P xs acc μ → inv μ)
    (step : ∀ x xs acc μ (n : List D → Sto → Prop), P (x :: xs) acc μ → (∀ acc' μ', P xs acc' μ' → n acc' μ') → g x (wipeD ρ vs) fun ρ1 => c ρ1 μ fun b μ1 => if b = true then el ρ1 μ1 fun y μ2 => acc.length < SZ ∧ n (acc ++ [y]) μ2 else n acc μ1)
    (done : ∀ acc μ, P [] acc μ → Q acc μ) : ∀ items acc μ, P items acc μ → lcD vs g c el ρ inv Q items acc μ := by
  intro items
  induction items with
  | nil => intro acc μ h; exact ⟨hi _ _ _ h, done acc μ h⟩
  | cons x xs ih => intro acc μ h; exact ⟨hi _ _ _ h, step x xs acc μ (fun a m => lcD vs g c el ρ inv Q xs a m) h ih⟩
/-- each item gives one, nothing changes -/
theorem lcD_map {vs : List Nat} {g : TGD} {el : TED} {ρ : DEnv} {Q : List D → Sto → Prop} {μ : Sto} (f : D → D) (items : List D) (hl : items.length ≤ SZ)
    (step : ∀ x ∈ items, ∀ k : D → Sto → Prop, k (f x) μ → g x (wipeD ρ vs) fun ρ1 => el ρ1 μ k) (done : Q (items.map f) μ) : lcD vs g dYes el ρ still Q items [] μ := by
  refine lcD_inv (fun xs acc μ' => μ' = μ ∧ ∃ pre, items = pre ++ xs ∧ acc = pre.map f) (fun _ _ _ _ => trivial) ?_ ?_ items [] μ ⟨rfl, [], rfl, rfl⟩
  · rintro x xs acc μ' n ⟨rfl, pre, e, rfl⟩ hn
    refine step x (by rw [e]; simp) _ ⟨?_, hn _ _ ⟨rfl, pre ++ [x], by simp [e], by simp⟩⟩
    rw [e] at hl
    simp at hl ⊢
    omega
  · rintro acc μ' ⟨rfl, pre, e, rfl⟩
    rw [List.append_nil] at e
    subst e
    exact done
/-- each item that fits gives one, nothing changes -/
theorem lcD_filter {vs : List Nat} {g : TGD} {c : TTD} {el : TED} {ρ : DEnv} {Q : List D → Sto → Prop} {μ : Sto} (p : D → Bool) (f : D → D) (items : List D) {inv : Sto → Prop} (hi : inv μ) (hl : items.length ≤ SZ)
    (step : ∀ x ∈ items, ∀ (k : D → Sto → Prop) (n : Sto → Prop), (p x = true → k (f x) μ) → (p x = false → n μ) → g x (wipeD ρ vs) fun ρ1 => c ρ1 μ fun b μ1 => if b = true then el ρ1 μ1 k else n μ1)
    (done : Q ((items.filter p).map f) μ) : lcD vs g c el ρ inv Q items [] μ := by
  refine lcD_inv (fun xs acc μ' => μ' = μ ∧ ∃ pre, items = pre ++ xs ∧ acc = (pre.filter p).map f) (fun _ _ _ h => h.1 ▸ hi) ?_ ?_ items [] μ ⟨rfl, [], rfl, rfl⟩
  · rintro x xs acc μ' n ⟨rfl, pre, e, rfl⟩ hn
    refine step x (by rw [e]; simp) _ (fun m => n _ m) (fun hp => ⟨?_, hn _ _ ⟨rfl, pre ++ [x], by simp [e], by simp [hp]⟩⟩) fun hp => hn _ _ ⟨rfl, pre ++ [x], by simp [e], by simp [hp]⟩
    have := List.length_filter_le p pre
    rw [e] at hl
    simp at hl ⊢
    omega
  · rintro acc μ' ⟨rfl, pre, e, rfl⟩
    rw [List.append_nil] at e
    subst e
    exact done
theorem strD_cons (c : Nat) (s : List Nat) : strD (c :: s) = .str [c] :: strD s := rfl
theorem strD_inv {x : D} {xs : List D} {s : List Nat} (h : x :: xs = strD s) : ∃ c r, s = c :: r ∧ x = .str [c] ∧ xs = strD r := by
  cases s with
  | nil => cases h
  | cons c r => rw [strD_cons] at h; cases h; exact ⟨c, r, rfl, rfl, rfl⟩
theorem strD_nil_inv {s : List Nat} (h : [] = strD s) : s = [] := by
  cases s with
  | nil => rfl
  | cons c r => cases h
end DL

namespace DL
open PySem PySem.Spec PyProof.Rows L2
mutual
/-- data of which repr and == speak -/
def D.ic : D → Prop
  | .non => True
  | .bl _ => True
  | .int i => i.natAbs < 2 ^ 300
  | .str s => ∀ c ∈ s, c < 1114112
  | .tup xs => D.ics xs
  | .lst xs => D.ics xs
  | .dct _ => False | .scr _ => False | .ref _ => False | .ty _ => False | .gl _ => False | .pr _ _ => False | .obj _ _ => False | .exn _ _ => False
def D.ics : List D → Prop
  | [] => True
  | x :: xs => x.ic ∧ D.ics xs
end
mutual
def D.wt : D → Nat
  | .int _ => 300
  | .str s => s.length
  | .tup xs => D.wts xs
  | .lst xs => D.wts xs
  | .non => 0 | .bl _ => 0 | .dct _ => 0 | .scr _ => 0 | .ref _ => 0 | .ty _ => 0 | .gl _ => 0 | .pr _ _ => 0 | .obj _ _ => 0 | .exn _ _ => 0
def D.wts : List D → Nat
  | [] => 0
  | x :: xs => x.wt + 1 + D.wts xs
end
mutual
def D.dp : D → Nat
  | .tup xs => D.dps xs + 1
  | .lst xs => D.dps xs + 1
  | .int _ => 0 | .str _ => 0 | .non => 0 | .bl _ => 0 | .dct _ => 0 | .scr _ => 0 | .ref _ => 0 | .ty _ => 0 | .gl _ => 0 | .pr _ _ => 0 | .obj _ _ => 0 | .exn _ _ => 0
def D.dps : List D → Nat
  | [] => 0
  | x :: xs => max x.dp (D.dps xs)
end
theorem log_lt {n k : Nat} (hk : 0 < k) (h : n < 2 ^ k) : n.log2 < k := by
  by_cases h0 : n = 0
  · subst h0; simpa using hk
  · exact (Nat.log2_lt h0).mpr h
theorem S_all {s : List Nat} (h : ∀ c ∈ s, c < 1114112) : (S s).cps.all (· < 0x110000) = true := by
  show s.toArray.all _ = true
  rw [List.all_toArray, List.all_eq_true]
  intro c hc
  simpa using h c hc
mutual
theorem D.ic_all : ∀ d : D, d.ic → d.shows = true ∧ d.py.canLay0 = true ∧ d.py.intsShort 302 = true ∧ d.py.weight ≤ d.wt ∧ d.py.depth = d.dp
  | .non, _ => ⟨rfl, rfl, rfl, Nat.le_refl _, rfl⟩
  | .bl _, _ => ⟨rfl, rfl, rfl, Nat.le_refl _, rfl⟩
  | .int i, h => by
    have hl := log_lt (by decide) h
    refine ⟨?_, rfl, ?_, ?_, rfl⟩
    · show decide _ = true
      simp only [decide_eq_true_eq]
      omega
    · show decide _ = true
      simp only [decide_eq_true_eq]
      have := int_text_length_le (a := i) (k := 300) (by decide) hl
      have e : (PyData.shown (.int i)).length = (toString i).length := by
        show (Str.ofString (toString i)).length = _
        rw [PySem.ofString_length]
      rw [e]
      omega
    · show (if i == 0 then 0 else _) ≤ 300
      split <;> omega
  | .str s, h => by
    refine ⟨rfl, S_all h, rfl, ?_, rfl⟩
    show s.toArray.size ≤ s.length
    simp
  | .tup xs, h => by
    obtain ⟨a, b, c, e, f⟩ := D.ics_all xs h
    exact ⟨a, b, c, e, by show _ + 1 = _ + 1; rw [f]⟩
  | .lst xs, h => by
    obtain ⟨a, b, c, e, f⟩ := D.ics_all xs h
    exact ⟨a, b, c, e, by show _ + 1 = _ + 1; rw [f]⟩
  | .dct _, h => h.elim
  | .scr _, h => h.elim
  | .ref _, h => h.elim
  | .ty _, h => h.elim
  | .gl _, h => h.elim
  | .pr _ _, h => h.elim
  | .obj _ _, h => h.elim
  | .exn _ _, h => h.elim
theorem D.ics_all : ∀ ds : List D, D.ics ds → D.showsAll ds = true ∧ PyData.canLayAll0 (D.pys ds) = true ∧ PyData.intsShortAll 302 (D.pys ds) = true ∧ PyData.weightAll (D.pys ds) ≤ D.wts ds ∧ PyData.depthAll (D.pys ds) = D.dps ds
  | [], _ => ⟨rfl, rfl, rfl, Nat.le_refl _, rfl⟩
  | x :: xs, h => by
    obtain ⟨a, b, c, e, f⟩ := D.ic_all x h.1
    obtain ⟨a', b', c', e', f'⟩ := D.ics_all xs h.2
    refine ⟨?_, ?_, ?_, ?_, ?_⟩
    · show (x.shows && D.showsAll xs) = true
      rw [a, a']; rfl
    · show (x.py.canLay0 && PyData.canLayAll0 (D.pys xs)) = true
      rw [b, b']; rfl
    · show (x.py.intsShort 302 && PyData.intsShortAll 302 (D.pys xs)) = true
      rw [c, c']; rfl
    · show x.py.weight + 1 + PyData.weightAll (D.pys xs) ≤ x.wt + 1 + D.wts xs
      omega
    · show max x.py.depth (PyData.depthAll (D.pys xs)) = max x.dp (D.dps xs)
      rw [f, f']
end
theorem repOk_of {d : D} (h : d.ic) (hw : d.wt ≤ 50000) (hd : d.dp ≤ 50) : repOk d := by
  obtain ⟨a, b, c, e, f⟩ := D.ic_all d h
  refine ⟨a, by omega, ?_⟩
  have h2 := PyData.shown_le 302 (by decide) d.py (PyData.leavesShort_of_canLay0 302 d.py b c)
  show d.py.shown.cps.toList.length ≤ SZ
  have e2 : d.py.shown.cps.toList.length = d.py.shown.length := by simp [Str.length]
  rw [e2]
  simp only [SZ]
  omega
theorem okEq_of {x y : D} (hx : x.ic) (hy : y.ic) (dx : x.dp ≤ 50) (dy : y.dp ≤ 50) : okEq x y := by
  have sh : ∀ d : D, d.ic → d.dp ≤ 50 → d.flat = true ∧ SeqAt.shaped d.py = true := fun d h hd => by
    obtain ⟨a, b, c, e, f⟩ := D.ic_all d h
    refine ⟨(D.shows_flat d a).1, ?_⟩
    unfold SeqAt.shaped
    rw [b]
    simp only [Bool.true_and, decide_eq_true_eq]
    omega
  exact .inr ⟨(sh x hx dx).1, (sh y hy dy).1, (sh x hx dx).2, (sh y hy dy).2⟩
@[simp] theorem okEq_int (i j : Int) : okEq (.int i) (.int j) := .inl rfl
@[simp] theorem okEq_str (s t : List Nat) : okEq (.str s) (.str t) := .inl rfl
@[simp] theorem okEq_bl (a b : Bool) : okEq (.bl a) (.bl b) := okEq_of trivial trivial (Nat.zero_le _) (Nat.zero_le _)
theorem ics_iff : ∀ xs : List D, D.ics xs ↔ ∀ x ∈ xs, x.ic
  | [] => by simp [D.ics]
  | x :: xs => by simp [D.ics, ics_iff xs]
theorem dps_le {k : Nat} : ∀ xs : List D, (∀ x ∈ xs, x.dp ≤ k) → D.dps xs ≤ k
  | [], _ => by simp [D.dps]
  | x :: xs, h => by
    have h1 := h x (by simp)
    have h2 := dps_le xs fun y hy => h y (by simp [hy])
    simp only [D.dps]
    omega
@[simp] theorem eqv_int (i j : Int) : D.eqv (.int i) (.int j) = decide (i = j) := by
  show (i == j) = _
  by_cases h : i = j <;> simp [h]
@[simp] theorem eqv_str (s t : List Nat) : D.eqv (.str s) (.str t) = decide (s = t) := by
  show (S s == S t) = _
  by_cases h : s = t
  · simp [h]
  · have : S s ≠ S t := fun e => h (S_inj.mp e)
    simp [h, this]
@[simp] theorem eqv_bl (a b : Bool) : D.eqv (.bl a) (.bl b) = (a == b) := rfl
@[simp] theorem eqv_non : D.eqv .non .non = true := rfl
def D.eqvs : List D → List D → Bool
  | [], [] => true
  | x :: xs, y :: ys => D.eqv x y && D.eqvs xs ys
  | _, _ => false
theorem eqvs_py : ∀ xs ys : List D, PyData.eqvAll (D.pys xs) (D.pys ys) = D.eqvs xs ys
  | [], [] => rfl
  | x :: xs, [] => rfl
  | [], y :: ys => rfl
  | x :: xs, y :: ys => by
    show (PyData.eqv x.py y.py && PyData.eqvAll (D.pys xs) (D.pys ys)) = _
    rw [eqvs_py xs ys]; rfl
@[simp] theorem eqv_lst (xs ys : List D) : D.eqv (.lst xs) (.lst ys) = D.eqvs xs ys := eqvs_py xs ys
@[simp] theorem eqv_tup (xs ys : List D) : D.eqv (.tup xs) (.tup ys) = D.eqvs xs ys := eqvs_py xs ys
@[simp] theorem eqvs_nil : D.eqvs [] [] = true := rfl
@[simp] theorem eqvs_cons (x y : D) (xs ys : List D) : D.eqvs (x :: xs) (y :: ys) = (D.eqv x y && D.eqvs xs ys) := rfl
theorem eqvs_nil_r (xs : List D) : D.eqvs xs [] = decide (xs = []) := by cases xs <;> rfl
abbrev nats (l : List Nat) : List D := l.map fun (n : Nat) => D.int n
theorem ints_flat : ∀ l : List Int, D.flats (l.map D.int) = true ∧ PyData.canLayAll0 (D.pys (l.map D.int)) = true ∧ PyData.depthAll (D.pys (l.map D.int)) = 0
  | [] => ⟨rfl, rfl, rfl⟩
  | x :: l => by
    obtain ⟨a, b, c⟩ := ints_flat l
    refine ⟨a, b, ?_⟩
    show max 0 (PyData.depthAll (D.pys (l.map D.int))) = 0
    rw [c]; rfl
/-- lists of whole numbers of any size may be compared -/
theorem okEq_ints (l r : List Int) : okEq (.lst (l.map D.int)) (.lst (r.map D.int)) := by
  have sh : ∀ l : List Int, SeqAt.shaped (D.lst (l.map D.int)).py = true := fun l => by
    obtain ⟨a, b, c⟩ := ints_flat l
    show (PyData.canLayAll0 (D.pys (l.map D.int)) && decide (PyData.depthAll (D.pys (l.map D.int)) + 1 ≤ 64)) = true
    rw [b, c]; rfl
  exact .inr ⟨(ints_flat l).1, (ints_flat r).1, sh l, sh r⟩
@[simp] theorem ixN_nat {n i : Nat} (h : i < n) : ixN n (i : Int) = some i := by
  unfold ixN
  rw [if_pos (by omega), if_pos (by omega)]
  rfl
theorem atI_nat {α : Type} (xs : List α) (i : Nat) : atI xs (i : Int) = xs[i]? := by
  unfold L2.atI
  by_cases h : i < xs.length
  · rw [ixN_nat h]; rfl
  · have : ixN xs.length (i : Int) = none := by
      unfold ixN
      rw [if_pos (by omega), if_neg (by omega)]
    rw [this, List.getElem?_eq_none (by omega)]
    rfl
@[simp] theorem atI_0 {α : Type} (x : α) (xs : List α) : atI (x :: xs) 0 = some x := atI_nat (x :: xs) 0
@[simp] theorem atI_1 {α : Type} (x y : α) (xs : List α) : atI (x :: y :: xs) 1 = some y := atI_nat (x :: y :: xs) 1
@[simp] theorem atI_2 {α : Type} (x y z : α) (xs : List α) : atI (x :: y :: z :: xs) 2 = some z := atI_nat (x :: y :: z :: xs) 2
@[simp] theorem ixN_0 (n : Nat) : ixN (n + 1) 0 = some 0 := ixN_nat (n := n + 1) (i := 0) (by omega)
@[simp] theorem ixN_1 (n : Nat) : ixN (n + 2) 1 = some 1 := ixN_nat (n := n + 2) (i := 1) (by omega)
@[simp] theorem ixN_2 (n : Nat) : ixN (n + 3) 2 = some 2 := ixN_nat (n := n + 3) (i := 2) (by omega)
theorem cut_take {α : Type} (l : List α) (n : Nat) : cut l none (some (n : Int)) = l.take n := by
  unfold cut
  rw [HT.sIx_nat, HT.sIx_none, List.drop_zero, Nat.sub_zero]
  by_cases h : n ≤ l.length
  · rw [Nat.min_eq_left h]
  · rw [Nat.min_eq_right (by omega), List.take_of_length_le (Nat.le_refl _), List.take_of_length_le (by omega)]
end DL

namespace DL
open PySem PySem.Spec PyProof.Rows L2
abbrev typs : List String := ["NoneType", "bool", "int", "str", "list", "tuple", "dict"]
def isiB (t T : String) : Bool := decide (t = T) || (decide (t = "bool") && decide (T = "int"))
theorem isi_kit : ∀ t ∈ typs, ∀ T ∈ typs, kitB t T = some (isiB t T) := by decide +kernel
@[simp] def isiD : D → String → Bool
  | .non, T => decide (T = "NoneType")
  | .bl _, T => decide (T = "bool") || decide (T = "int")
  | .int _, T => decide (T = "int")
  | .str _, T => decide (T = "str")
  | .tup _, T => decide (T = "tuple")
  | .lst _, T => decide (T = "list")
  | .scr _, T => decide (T = "list")
  | .dct _, T => decide (T = "dict")
  | _, _ => false
@[simp] def isiOk : D → Bool
  | .non | .bl _ | .int _ | .str _ | .tup _ | .lst _ | .scr _ | .dct _ => true
  | _ => false
def rdIsi : RDn
  | [d, .ty T], μ, Q => isiOk d = true ∧ T ∈ typs ∧ Q (.bl (isiD d T)) μ
  | _, _, _ => False
@[simp] theorem rdIsi_1 : rdIsi  [d0, .ty T0] μ0 Q0 = (isiOk d0 = true ∧ T0 ∈ typs ∧ Q0 (.bl (isiD d0 T0)) μ0) := rfl
section
variable {K : PySem.W.Frag} {mg : Str → Option Value} {F H : Hp} {μ : Sto}
theorem sqT_tyx {a : Addr} {vs : List V} (h : SqT K H a vs) : TyX K H (.ref a) (.type "tuple") := by
  rcases h with (h | ⟨o, h⟩) | ⟨o, z, n, h1, h2, _⟩
  · exact .base (.tup h)
  · exact .fTuple h
  · exact .kTuple h1 h2
theorem sqL_tyx {a : Addr} {vs : List V} (h : SqL K H a vs) : TyX K H (.ref a) (.type "list") := by
  rcases h with (h | ⟨o, h⟩) | ⟨o, z, n, h1, h2, _⟩
  · exact .base (.lst h)
  · exact .base (.frz h)
  · exact .kList h1 h2
theorem cs_isi : CallS K mg (rIsi K) rdIsi := by
  intro F μ H vs ds Qd Q o w h k
  unfold rdIsi at h
  split at h
  · rename_i d T
    obtain ⟨u, v, rfl, wk, wt⟩ := w.two
    obtain ⟨h1, h2, q⟩ := h
    have ev : v = .ty T := by
      rcases wt with wt | ⟨a, vs, xs, _, e, _⟩
      · cases wt; rfl
      · cases e
    subst ev
    have fin : ∀ (t : String), t ∈ typs → TyX K H u (.type t) → isiD d T = isiB t T → _ := fun t ht tx e => (⟨u, .ty T, .type t, .type T, isiB t T, rfl, .ty T, tx, kit_ty (isi_kit t ht T h2), fin0 o k (.bl _) (e ▸ q)⟩ : rIsi K [u, .ty T] H Q)
    cases d <;> first | exact (Bool.false_ne_true h1).elim | skip
    · cases wk.non; exact fin "NoneType" (by decide) (.base .non) (by simp [isiB, eq_comm])
    · cases wk.bl; exact fin "bool" (by decide) (.base (.bl _)) (by simp [isiB, eq_comm])
    · cases wk.int; exact fin "int" (by decide) (.base (.int _)) (by simp [isiB, eq_comm])
    · cases wk.str; exact fin "str" (by decide) (.base (.str _)) (by simp [isiB, eq_comm])
    · obtain ⟨a, vs, rfl, ha, _⟩ := wk.tup o; exact fin "tuple" (by decide) (sqT_tyx ha) (by simp [isiB, eq_comm])
    · obtain ⟨a, vs, rfl, ha, _⟩ := wk.lst o; exact fin "list" (by decide) (.base (.lst ha)) (by simp [isiB, eq_comm])
    · obtain ⟨a, vs, rfl, ha, _⟩ := wk.dct o; exact fin "dict" (by decide) (.base (.dK ha)) (by simp [isiB, eq_comm])
    · obtain ⟨a, rfl, ha⟩ := wk.scr o; exact fin "list" (by decide) (sqL_tyx ha) (by simp [isiB, eq_comm])
  · exact h.elim
end
section
variable {X : Cx} {x : Str} {T : String} {pos p : Pos} {e e2 : Expr} {t : TAD}
/-- the name of a built-in type -/
theorem de_tyN (hg : Gl X x) (hm : X.mg x = none) (hv : bootBuiltins x = some (.type T)) (hn : x ≠ "__name__" := by decide) (hd : (x == ("__debug__" : Str)) = false := by decide) : DE X (.Name x pos) (dC (.ty T)) :=
  de_c (pe_bltn (v := .ty T) hg hm hv rfl hn hd) fun _ => .ty T
def zipD (xs ys : List D) : List D := (xs.zip ys).map fun p => .pr p.1 p.2
@[simp] def dZip (t : TAD) : TSrc := fun ρ μ Q => t ρ μ fun xs μ1 => match xs with
  | [.tup xs, .tup ys] => Q (zipD xs ys) still μ1
  | [.lst xs, .lst ys] => Q (zipD xs ys) still μ1
  | _ => False
@[simp] def dNever : TSD := fun _ _ _ => False
end
section
variable {K : PySem.W.Frag} {mg : Str → Option Value}
def rdIsB : RD2
  | .bl a, .bl b, μ, Q => Q (.bl (decide (a = b))) μ
  | _, _, _, _ => False
@[simp] theorem rdIsB_1 : rdIsB  (.bl a0) (.bl b0) μ0 Q0 = (Q0 (.bl (decide (a0 = b0))) μ0) := rfl
def rdNotB : RD2
  | .bl a, .bl b, μ, Q => Q (.bl (!decide (a = b))) μ
  | _, _, _, _ => False
@[simp] theorem rdNotB_1 : rdNotB  (.bl a0) (.bl b0) μ0 Q0 = (Q0 (.bl (!decide (a0 = b0))) μ0) := rfl
theorem ops_notB : OpS K mg L2.rNotB rdNotB := by
  intro F μ H x y dx dy Qd Q o wx wy h k
  cases dx <;> cases dy <;> first | exact h.elim | skip
  exact ⟨_, _, wx.bl, wy.bl, fin0 o k (.bl _) h⟩
end
section
variable {X : Cx} {B : Bs} {pos : Pos}
/-- x, y, z = a, b, c: values -/
@[simp] def dPar3 (i j l : Nat) (t : TAD) : TSD := fun E ρ μ => t ρ μ fun xs μ1 => match xs with
  | [x, y, z] => E.nx (((ρ.set i (some (.val x))).set j (some (.val y))).set l (some (.val z))) μ1
  | _ => False
theorem ds_par3 {i j l : Nat} {x y z : Str} {a b c : Expr} {t : TAD} {px py pz pt : Pos} {kt k2 pt2}
    (h : ∀ ta, PA X [a, b, c] ta → PS X (.Assign [.Tuple [.Name x px, .Name y py, .Name z pz] kt pt] (.Tuple [a, b, c] k2 pt2) pos) (tPar3 i j l ta)) (ht : DA X [a, b, c] t) :
    DSt X B (.Assign [.Tuple [.Name x px, .Name y py, .Name z pz] kt pt] (.Tuple [a, b, c] k2 pt2) pos) (dPar3 i j l t) := (h _ ht).weaken fun E σ H h => by
  obtain ⟨F, ρ, μ, Dd, R, hd, kn, kb, kc, kr⟩ := h
  refine ⟨F, ρ, μ, _, R.rel, hd, fun vs F1 μ1 H1 ds e1 o1 w1 q1 => ?_⟩
  split at q1
  · cases w1 with
    | cons a1 w1 =>
      cases w1 with
      | cons a2 w1 =>
        cases w1 with
        | cons a3 w1 =>
          cases w1
          exact ⟨_, _, _, rfl, kn F1 _ μ1 _ H1 e1.mono ((((R.step e1 o1).set a1).set a2).set a3) q1⟩
  · exact q1.elim
end
end DL

namespace DL
open PySem PySem.Spec PyProof.Rows L2
/-- enumerate of a text -/
@[simp] def dEnumS (t : TAD) : TSrc := fun ρ μ Q => t ρ μ fun xs μ1 => match xs with
  | [.str s] => Q (enumD 0 (strD s)) still μ1
  | _ => False
section
variable {K : PySem.W.Frag} {mg : Str → Option Value}
def rdNeR : RD2
  | .ref a, .lst ys, μ, Q => ∃ xs, μ a = some (.lst xs) ∧ okEq (.lst xs) (.lst ys) ∧ Q (.bl (!D.eqv (.lst xs) (.lst ys))) μ
  | _, _, _, _ => False
@[simp] theorem rdNeR_1 : rdNeR  (.ref a0) (.lst ys0) μ0 Q0 = (∃ xs, μ0 a0 = some (.lst xs) ∧ okEq (.lst xs) (.lst ys0) ∧ Q0 (.bl (!D.eqv (.lst xs) (.lst ys0))) μ0) := rfl
theorem ops_neR : OpS K mg (r2Or (rNeD K) rNe) rdNeR := by
  intro F μ H x y dx dy Qd Q o wx wy h k
  cases dx <;> first | exact h.elim | skip
  cases dy <;> first | exact h.elim | skip
  rename_i a ys
  obtain ⟨xs, hx, ok, q⟩ := h
  cases wx.ref
  obtain ⟨vs, ha, ra⟩ := o.sto _ _ hx
  rcases ok with ok | ⟨f1, f2, s1, s2⟩
  · exact (Bool.false_ne_true ok).elim
  · exact .inl ⟨_, _, .lst (.inl (.inl ha)) (Dts.dp o.sub ra f1), wy.dp o f2, s1, s2, fin0 o k (.bl _) q⟩
end
end DL

namespace DL
open PySem PySem.Spec PyProof.Rows L2
theorem Dts.split {K : PySem.W.Frag} {mg : Str → Option Value} {F : Hp} {vs : List V} {ds : List D} (n : Nat) (r : Dts K mg F vs ds) : vs = vs.take n ++ vs.drop n ∧ Dts K mg F (vs.take n) (ds.take n) ∧ Dts K mg F (vs.drop n) (ds.drop n) := ⟨(List.take_append_drop n vs).symm, r.take n, r.drop n⟩
section
variable {P : Program} {w : World} {K : PySem.W.Frag} {mg : Str → Option Value} {base : Heap} {k : Nat} {f : Addr} {ps : List Str} {S : DSp}
end
/-- each item gives one, nothing changes -/
theorem lcD_list {α : Type} {vs : List Nat} {g : TGD} {el : TED} {ρ : DEnv} {Q : List D → Sto → Prop} {μ : Sto} {inv : Sto → Prop} (l : List α) (i r : α → D) (hi : inv μ) (hl : l.length ≤ SZ)
    (step : ∀ a ∈ l, ∀ k : D → Sto → Prop, k (r a) μ → g (i a) (wipeD ρ vs) fun ρ1 => el ρ1 μ k) (done : Q (l.map r) μ) : lcD vs g dYes el ρ inv Q (l.map i) [] μ := by
  refine lcD_inv (fun xs acc μ' => μ' = μ ∧ ∃ pre post, l = pre ++ post ∧ xs = post.map i ∧ acc = pre.map r) (fun _ _ _ h => h.1 ▸ hi) ?_ ?_ (l.map i) [] μ ⟨rfl, [], l, rfl, rfl, rfl⟩
  · rintro x xs acc μ' n ⟨rfl, pre, post, e, hx, rfl⟩ hn
    cases post with
    | nil => cases hx
    | cons a post =>
      rw [List.map_cons] at hx
      cases hx
      have := step a (by rw [e]; simp) (fun y m => (pre.map r).length < SZ ∧ n (pre.map r ++ [y]) m) ⟨by rw [e] at hl; simp at hl ⊢; omega, hn _ _ ⟨rfl, pre ++ [a], post, by simp [e], rfl, by simp⟩⟩
      simpa using this
  · rintro acc μ' ⟨rfl, pre, post, e, hx, rfl⟩
    cases post with
    | nil => rw [List.append_nil] at e; subst e; exact done
    | cons a post => cases hx
end DL

namespace DL
open PySem PySem.Spec PyProof.Rows L2
/-- enumerate of a tuple -/
@[simp] def dEnumT (t : TAD) : TSrc := fun ρ μ Q => t ρ μ fun xs μ1 => match xs with
  | [.tup s] => Q (enumD 0 s) still μ1
  | _ => False
theorem de_globS {X : Cx} {x : Str} {y : Str} {t : Tok} {pos : Pos} (s : List Nat) (hg : Gl X x) (hm : X.mg x = some (.str y t)) (h : y = S s := by decide +kernel) (hdb : (x == ("__debug__" : Str)) = false := by decide) : DE X (.Name x pos) (dC (.str s)) :=
  de_glob (v := .str y) hg hm ⟨_, rfl⟩ (fun F => by subst h; exact .str s) hdb
theorem de_globI {X : Cx} {x : Str} {i : Int} {t : Tok} {pos : Pos} (hg : Gl X x) (hm : X.mg x = some (.int i t)) (hdb : (x == ("__debug__" : Str)) = false := by decide) : DE X (.Name x pos) (dC (.int i)) :=
  de_glob (v := .int i) hg hm ⟨_, rfl⟩ (fun F => .int i) hdb
end DL

namespace DL
open PySem PySem.Spec PyProof.Rows L2
open RZ (nextOf_tuple_item nextOf_tuple_end call_zipT pyNext_zipT_item pyNext_zipT_end)
section
variable {prog : Program} {w : World} {A : Around} {E : Value → Shared → Prop} {s : Shared}
/-- the pairs laid so far -/
structure ZGot (xs ys : Array Value) (base : Nat) (h : Heap) (ts : List Addr) : Prop where
  low : ∀ t ∈ ts, base ≤ t
  nd : ts.Nodup
  pr : ∀ (j : Nat) (t : Addr), ts[j]? = some t → ∃ x y, xs[j]? = some x ∧ ys[j]? = some y ∧ IsPair h t x y
theorem ZGot.keep {xs ys : Array Value} {base : Nat} {h h' : Heap} {ts : List Addr} (g : ZGot xs ys base h ts) (k : ∀ t, base ≤ t → ∀ o, h.get? t = some o → h'.get? t = some o) : ZGot xs ys base h' ts :=
  ⟨g.low, g.nd, fun j t e => let ⟨x, y, a, b, c⟩ := g.pr j t e; ⟨x, y, a, b, k t (g.low t (List.mem_of_getElem? e)) _ c⟩⟩
theorem ZGot.more {xs ys : Array Value} {base : Nat} {h : Heap} {ts : List Addr} {p : Addr} {x y : Value} (g : ZGot xs ys base h ts) (hp : base ≤ p) (hn : p ∉ ts) (hx : xs[ts.length]? = some x) (hy : ys[ts.length]? = some y) (hq : IsPair h p x y) : ZGot xs ys base h (ts ++ [p]) := by
  refine ⟨fun t ht => ?_, ?_, fun j t e => ?_⟩
  · rcases List.mem_append.mp ht with h1 | h1
    · exact g.low t h1
    · rw [List.mem_singleton.mp h1]; exact hp
  · rw [List.nodup_append]
    exact ⟨g.nd, by simp, fun a ha b hb => by rw [List.mem_singleton.mp hb]; exact fun e => hn (e ▸ ha)⟩
  · rcases Nat.lt_or_ge j ts.length with h1 | h1
    · rw [List.getElem?_append_left h1] at e; exact g.pr j t e
    · rw [List.getElem?_append_right h1] at e
      have hj : j = ts.length := by
        rcases Nat.eq_or_lt_of_le h1 with q | q
        · exact q.symm
        · rw [List.getElem?_eq_none (by simp; omega)] at e; cases e
      subst hj
      rw [Nat.sub_self] at e
      cases e
      exact ⟨x, y, hx, hy, hq⟩
/-- where the iterator stands -/
structure ZSt (z TI TO i1 i2 l1 l2 : Addr) (xs ys : Array Value) (i : Nat) (h : Heap) : Prop where
  pTI : IsPair h TI (.ref i1) (.ref i2)
  g1 : h.IsTupleIter i1 l1 i
  g2 : h.IsTupleIter i2 l2 i
  t1 : h.IsTuple l1 xs
  t2 : h.IsTuple l2 ys
  st : (IsZip h z TI TO .none ∧ ∃ a b, IsPair h TO a b) ∨ ∃ T f oT, IsZipHeld h z TI TO T f ∧ h.get? T = some oT ∧ T ≠ z ∧ T ≠ i1 ∧ T ≠ i2
structure ZOff (z TI TO i1 i2 l1 l2 S : Addr) : Prop where
  z : S ≠ z
  TI : S ≠ TI
  TO : S ≠ TO
  i1 : S ≠ i1
  i2 : S ≠ i2
  l1 : S ≠ l1
  l2 : S ≠ l2
theorem ZSt.upd {z TI TO i1 i2 l1 l2 S : Addr} {xs ys : Array Value} {i : Nat} {h h' : Heap} (a : ZSt z TI TO i1 i2 l1 l2 xs ys i h) (n : ZOff z TI TO i1 i2 l1 l2 S) (k : ∀ b o, b ≠ S → h.get? b = some o → h'.get? b = some o) (hS : ∀ o, h.get? S = some o → ∃ o', h'.get? S = some o') : ZSt z TI TO i1 i2 l1 l2 xs ys i h' := by
  refine ⟨k _ _ n.TI.symm a.pTI, a.g1.at fun o e => k _ o n.i1.symm e, a.g2.at fun o e => k _ o n.i2.symm e, a.t1.at fun o e => k _ o n.l1.symm e, a.t2.at fun o e => k _ o n.l2.symm e, ?_⟩
  rcases a.st with ⟨q, x, y, r⟩ | ⟨T, f, oT, q, r, r1, r2, r3⟩
  · exact .inl ⟨k _ _ n.z.symm q, x, y, k _ _ n.TO.symm r⟩
  · refine .inr ?_
    by_cases hT : T = S
    · subst hT
      obtain ⟨o', ho'⟩ := hS _ r
      exact ⟨T, f, o', k _ _ n.z.symm q, ho', r1, r2, r3⟩
    · exact ⟨T, f, oT, k _ _ n.z.symm q, k _ _ hT r, r1, r2, r3⟩
end
section
variable {prog : Program} {w : World} {A : Around} {R : Result → Shared → Prop}
end
section
variable {prog : Program} {w : World} {A : Around} {E : Value → Shared → Prop} {s : Shared} {R : Result → Shared → Prop}
end
section
variable {prog : Program} {w : World} {A : Around} {E : Value → Shared → Prop} {s : Shared}
end
section
variable {X : Cx}
end
def zipT (xs ys : List D) : List D := (xs.zip ys).map fun p => .tup [p.1, p.2]
section
variable {K : PySem.W.Frag} {mg : Str → Option Value}
end
@[simp] def dLzipF (t : TAD) : TFD := fun ρ μ Q => t ρ μ fun ds μ1 => match ds with
  | [.tup xs, .tup ys] => Q (zipT xs ys) μ1
  | _ => False
section
variable {X : Cx} {e e2 : Expr} {t : TAD} {p p2 pos pos2 : Pos}
end
end DL

namespace DL
open PySem PySem.Spec PyProof.Rows L2
open RZ (nextOf_tuple_item nextOf_tuple_end)
/-- the iterator at i, which walks over the items xs that are kept at l -/
structure Wlk (i l : Addr) (xs : Array Value) where
  It : Nat → Heap → Prop
  Src : Heap → Prop
  it : ∀ {k h h'}, It k h → (∀ o, h.get? i = some o → h'.get? i = some o) → It k h'
  src : ∀ {h h'}, Src h → (∀ o, h.get? l = some o → h'.get? l = some o) → Src h'
  item : ∀ {prog : Program} {w : World} {A : Around} {E : Value → Shared → Prop} {s : Shared} {k : Nat} {x : Value} {Q : Value → Shared → Prop}, It k s.heap → Src s.heap → xs[k]? = some x →
    (∀ h', It (k + 1) h' → Heap.SameBut i s.heap h' → Q x { s with heap := h' }) → wpAny (model prog w) A (Builtin.SmallTypes.nextOf (.ref i)) Q E s
  fin : ∀ {prog : Program} {w : World} {A : Around} {E : Value → Shared → Prop} {s : Shared} {k : Nat} {Q : Value → Shared → Prop}, A.handled = none → It k s.heap → Src s.heap → xs[k]? = none →
    (∀ h' e, Heap.ExtBut i s.heap h' → (∃ o, h'.get? e = some o ∧ o.cls = .type "StopIteration") → E (.ref e) { s with heap := h' }) → wpAny (model prog w) A (Builtin.SmallTypes.nextOf (.ref i)) Q E s
def Wlk.list (i l : Addr) (xs : Array Value) : Wlk i l xs where
  It := fun k h => h.IsListIter i l k
  Src := fun h => h.IsList l xs
  it := fun a b => a.at b
  src := fun a b => a.at b
  item := fun a b c d => wpAny_nextOf_list_item a b c d
  fin := fun a b c d e => wpAny_nextOf_list_end a b c d e
def Wlk.tup (i l : Addr) (xs : Array Value) : Wlk i l xs where
  It := fun k h => h.IsTupleIter i l k
  Src := fun h => h.IsTuple l xs
  it := fun a b => a.at b
  src := fun a b => a.at b
  item := fun a b c d => nextOf_tuple_item a b c d
  fin := fun a b c d e => nextOf_tuple_end a b c d e
section
variable {prog : Program} {w : World} {A : Around} {E : Value → Shared → Prop} {s : Shared} {z TI TO i1 i2 l1 l2 : Addr} {k1 k2 : Nat} {xs ys : Array Value} {a b : Value}
end
section
variable {prog : Program} {w : World} {A : Around} {E : Value → Shared → Prop} {s : Shared}
end
section
variable {X : Cx} {e e2 : Expr} {p pos tpos : Pos} {elts : List Expr} {kk : Nat}
/-- zip of a list and a tuple -/
@[simp] def dZipM (t : TAD) : TSrc := fun ρ μ Q => t ρ μ fun xs μ1 => match xs with
  | [.lst xs, .tup ys] => Q (zipD xs ys) still μ1
  | _ => False
end
end DL

namespace DL
open PySem PySem.Spec PyProof.Rows L2
open TS (TupInts intsOf)
open PySem.W
section
variable {prog : Program} {w : World} {A : Around} {E : Value → Shared → Prop} {s : Shared}
end
abbrev tupD (q : List Nat) : D := .tup (nats q)
abbrev intL (q : List Nat) : List Int := q.map fun n : Nat => (n : Int)
@[simp] def dSortF (t : TAD) : TFD := fun ρ μ Q => t ρ μ fun ds μ1 => match ds with
  | [.lst xs] => ∃ ls : List (List Nat), xs = ([] :: ls).map tupD ∧ ∀ ls' : List (List Nat), ls'.Perm ([] :: ls) → ls'.Pairwise (fun p q => HT.lexLt (intL q) (intL p) = false) → Q (ls'.map tupD) μ1
  | _ => False
end DL

namespace DL
open PySem PySem.Spec PyProof.Rows L2
def rdCountL : RDm
  | .lst xs, [.int k], μ, Q => ∃ ns : List Int, xs = ns.map D.int ∧ Q (.int (ns.count k : Nat)) μ
  | _, _, _, _ => False
@[simp] theorem rdCountL_1 {xs : List D} {k : Int} {μ : Sto} {Q : DK} : rdCountL (.lst xs) [.int k] μ Q = (∃ ns : List Int, xs = ns.map D.int ∧ Q (.int (ns.count k : Nat)) μ) := rfl
end DL

namespace DL
open PySem PySem.Spec PyProof.Rows L2
def rdInDat (neg : Bool) : RD2
  | x, .lst ds, μ, Q => x.ic ∧ D.ics ds ∧ x.dp ≤ 50 ∧ Q (.bl (if neg then !(ds.any fun z => D.eqv z x) else ds.any fun z => D.eqv z x)) μ
  | _, _, _, _ => False
@[simp] theorem rdInDat_1 (neg : Bool) {x : D} {ds : List D} {μ : Sto} {Q : DK} : rdInDat neg x (.lst ds) μ Q = (x.ic ∧ D.ics ds ∧ x.dp ≤ 50 ∧ Q (.bl (if neg then !(ds.any fun z => D.eqv z x) else ds.any fun z => D.eqv z x)) μ) := rfl
end DL

namespace DL
open PySem PySem.Spec PyProof.Rows L2 PySem.W PySem.Calls
section
open Builtin Builtin.ObjectAttr
variable {prog : Program} {w : World} {A : Around} {R : Result → Shared → Prop} {hp : Heap} {g : Array GenState} {d : Drawn} {t : Nat} {os : OsState}
/-- self.name = v on a fresh exception of an own class -/
theorem set_first {B : String} {bmB : List Value} (SF : StoreFacts B bmB "object.__setattr__" "object") {K : Frag} {name : Str} {tk : Tok} {v : Value} {x C : Addr} {fv : Array Value}
    (X : K.In hp) (hx : hp.get? x = some { cls := .ref C, data := .fields fv }) (ho : excOver K C bmB = true) (hh : hasDictIn K C = true) (ha : findIn K (.ref C) name = some none)
    (hq : ∀ h' tk' dx, (∀ b o, b ≠ x → hp.get? b = some o → h'.get? b = some o) → hp.objs.size ≤ dx → dx ≠ x → h'.get? x = some { cls := .ref C, dict := some dx, data := .fields fv } →
      h'.Ns1 dx (fun y => if y = name then some v else none) → R (.ok (.ret .none)) ⟨h', g, d, tk', os⟩) :
    codeAny (model prog w) A (.call (.builtin "object.__setattr__") ⟨[.ref x, .str name tk, v], []⟩) R ⟨hp, g, d, t, os⟩ := by
  have I : W.InstAt hp x { cls := .ref C, data := .fields fv } C none := ⟨hx, rfl, rfl, trivial⟩
  have hxs : x ≠ hp.objs.size := Nat.ne_of_lt (Heap.lt_size hx)
  obtain ⟨cd, hcd, hd1⟩ := any_some hh
  have hcls : W.Looks (model prog w) hp (classData C) cd := W.looks_clsIn X hcd
  refine osa_openX (r := none) SF X I ho (by unfold takerIn; rw [ha]; rfl) fun b => ?_
  dsimp only
  obtain ⟨nm, bs, mro, ns, qn, hd, sn, sb, ab, col, del⟩ := cd
  dsimp only at hd1
  subst hd1
  unfold storeInOwnDict ownDictForStores
  repeat (first | with_reducible refine HandSPX.store_in_new ?_ ?_ | with_reducible refine wpAny_loadPart_at hx ?_ | with_reducible refine hcls.at ?_ | wp_step)
  · exact ⟨_, #[], _, (Heap.get?_update_ne _ _ _ _ hxs.symm).trans (Heap.get?_push_at rfl rfl), rfl, fun e he => absurd he (by simp), fun _ => rfl⟩
  · intro h' tk' hn' hs
    refine hq h' tk' hp.objs.size (fun b o hb ho => ?_) (Nat.le_refl _) hxs.symm ?_ hn'
    · exact (hs.2 b (Nat.ne_of_lt (Heap.lt_size ho))).trans ((Heap.get?_update_ne _ _ _ _ hb).trans (Heap.get?_push_of_some _ ho))
    · exact (hs.2 x hxs).trans (Heap.get?_update_self _ (Heap.get?_push_of_some _ hx) rfl)
end
def iA (f : Str) (p1 p2 : Pos) : Arguments := { posonlyargs := [], args := [{ arg := "self", annotation := none, pos := p1 }, { arg := f, annotation := none, pos := p2 }], vararg := none, kwonlyargs := [], kw_defaults := [], kwarg := none, defaults := [] }
def iB (f : Str) (q1 q2 q3 q4 : Pos) : List Stmt := [.Assign [.Attribute (.Name "self" q1) f q2] (.Name f q3) q4]
def iS (f : Str) : Scope := { kind := .function, names := [(PySem.Str.ofString "self", .local), (f, .local)], isGenerator := false, isCoroutine := false, more := [] }
/-- what a field's name must be -/
structure FldOk (f : Str) : Prop where
  bind : ∀ (qual : Str) (p1 p2 q1 q2 q3 q4 : Pos) (doc pm cdv ct : Value) (an : Option Addr) (a b : Value), bindArgs (fnOf "__init__" qual (iA f p1 p2) (iB f q1 q2 q3 q4) (iS f) .none .none doc pm an cdv ct) ⟨[a, b], []⟩ = pure [(("self" : Str), a), (f, b)]
  names : ∀ a b : Value, (([("self", a), (f, b)] : List (Str × Value)).all fun y => (iS f).names.lookup y.1 == some .local || (iS f).names.lookup y.1 == some .cell) = true
  loc0 : ∀ (qual : Str) (L c : Addr) (cd u v : Value), bindL (envOfC qual (iS f) L c cd).kindOf [(("self" : Str), u), (f, v)] (fun _ => none) "self" = some u
  loc1 : ∀ (qual : Str) (L c : Addr) (cd u v : Value), bindL (envOfC qual (iS f) L c cd).kindOf [(("self" : Str), u), (f, v)] (fun _ => none) f = some v
  kind0 : ∀ (qual : Str) (L c : Addr) (cd : Value), (envOfC qual (iS f) L c cd).kindOf "self" = some .local
  kind1 : ∀ (qual : Str) (L c : Addr) (cd : Value), (envOfC qual (iS f) L c cd).kindOf f = some .local
  dbg : (f == ("__debug__" : Str)) = false
theorem fld_value : FldOk "value" := ⟨fun _ _ _ _ _ _ _ _ _ _ _ _ _ _ => rfl, fun _ _ => rfl, fun _ _ _ _ _ _ => rfl, fun _ _ _ _ _ _ => rfl, fun _ _ _ _ => rfl, fun _ _ _ _ => rfl, by decide⟩
/-- what the written part says of the class x at C (one field f; a built-in base with the mro bmB) and of its __init__, at fI -/
structure OwnTxt (K : Frag) (mg : Str → Option Value) (x f : Str) (C fI : Addr) (B : String) (bmB : List Value) (newId initId : String) : Prop where
  fb : ExcBaseFacts B newId initId bmB
  sf : StoreFacts B bmB "object.__setattr__" "object"
  fo : FldOk f
  gC : mg x = some (.ref C)
  qI : excInitIn K C bmB newId = true
  qO : excOver K C bmB = true
  sa : findIn K (.ref C) "__setattr__" = some (some (.builtin "object.__setattr__"))
  noN : findIn K (.ref C) f = some none
  iC : findIn K (.ref C) "__init__" = some (some (.ref fI))
  tC : typeIn K (.ref fI) = some (.type "function")
  kC : keepIn K (.ref C) = true
  exC : subIn K (.ref C) (.type "BaseException") = some true
  tyC : typeIn K (.ref C) = some (.type "type")
  hdC : hasDictIn K C = true
  fn : ∃ (q : Str) (oc : Value) (od : Option Addr) (doc pm : Value) (an : Option Addr) (cdv ct : Value) (osl : Array (Option Value)) (p1 p2 q1 q2 q3 q4 : Pos),
    K.lookup fI = some ⟨oc, od, .func (fnOf "__init__" q (iA f p1 p2) (iB f q1 q2 q3 q4) (iS f) .none .none doc pm an cdv ct), osl⟩ ∧ codeIn K cdv q = true
/-- a local name's value -/
theorem ld_loc {M : Model} {s : Shared} {qual : Str} {scope : Scope} {L c : Addr} {cd : Value} {m : Str → Option Value} {y : Str} {pos : Pos} {v : Value} {Q : Value → Shared → Prop} {A : Around} {E : Value → Shared → Prop} (hn : s.heap.Ns L m) (hv : m y = some v)
    (hk : scope.kind = .function) (hl : (envOfC qual scope L c cd).kindOf y = some .local) (hd : (y == ("__debug__" : Str)) = false) (h : Q v s) :
    wpAny M A (eval (.Name y pos) (envOfC qual scope L c cd)) Q E s := wpAny_Name (wpAny_loadName_local hk hl hn hv h) hd
/-- an object of the class is made -/
structure NewExc (h h' : Heap) (e C dx : Addr) (f : Str) (v : Value) : Prop where
  keep : ∀ b o, h.get? b = some o → h'.get? b = some o
  new : h.objs.size ≤ e
  obj : ∃ t, h'.get? e = some { cls := .ref C, dict := some dx, data := .fields #[.ref t, .none, .none, .none, .bool false, .none] }
  dbig : h.objs.size ≤ dx
  dne : dx ≠ e
  ns : h'.Ns1 dx (fun y => if y = f then some v else none)
section
variable {prog : Program} {w : World} {A : Around} {R : Result → Shared → Prop} {s : Shared} {K : Frag} {mg : Str → Option Value} {C fI : Addr} {x f : Str} {B newId initId : String} {bmB : List Value}
theorem own_init (T : OwnTxt K mg x f C fI B bmB newId initId) {e t0 : Addr} {v : Value} (X : K.In s.heap) (hlim : s.heap.NoLimit) (hx : s.heap.get? e = some (HandSPX.excO C t0)) (hroom : A.depth < recursionLimit)
    (hq : ∀ h' tk dx, (∀ b o, b ≠ e → s.heap.get? b = some o → h'.get? b = some o) → s.heap.objs.size ≤ dx → dx ≠ e → h'.get? e = some { cls := .ref C, dict := some dx, data := .fields #[.ref t0, .none, .none, .none, .bool false, .none] } →
      h'.Ns1 dx (fun y => if y = f then some v else none) → R (.ok (.ret .none)) { s with heap := h', toks := tk }) :
    codeAny (model prog w) A (.call (.ref fI) ⟨[.ref e, v], []⟩) R s := by
  obtain ⟨q, oc, od, doc, pm, an, cdv, ct, osl, p1, p2, q1, q2, q3, q4, ho, hcd⟩ := T.fn
  refine Att.call_fn (binds := [("self", .ref e), (f, v)]) X hlim ho hcd hroom (BindsTo.of_eq (T.fo.bind _ _ _ _ _ _ _ _ _ _ _ _ _ _)) (T.fo.names _ _) (fun s₁ IC => ?_) rfl rfl rfl
  obtain ⟨h₁, tk₁, rfl⟩ := IC.toInCall.same
  have k : ∀ b o, s.heap.get? b = some o → h₁.get? b = some o := IC.toInCall.keep
  have hn := IC.toInCall.ns
  have X₁ : K.In h₁ := X.keeps k
  have hx₁ := k _ _ hx
  show wpAny _ _ (execs _ _) _ _ _
  refine wpAny_execs_cons (plainObj_wpAny_Assign_Attribute ?_)
  refine ld_loc hn (T.fo.loc1 _ _ _ _ _ _) rfl (T.fo.kind1 _ _ _ _) T.fo.dbg (ld_loc hn (T.fo.loc0 _ _ _ _ _ _) rfl (T.fo.kind0 _ _ _ _) (by decide) ?_)
  refine set_plain X₁ (ox := HandSPX.excO C t0) (od := none) ⟨hx₁, rfl, rfl, trivial⟩ T.sa ?_
  refine set_first T.sf X₁ hx₁ T.qO T.hdC T.noN (fun h₃ tk₃ dx k₃ dn dne hx₃ hn₃ => ?_)
  show wpAny _ _ (execs _ _) _ _ _
  have z : s.heap.objs.size < h₁.objs.size := hn.lt
  exact wpAny_execs_nil (hq h₃ tk₃ dx (fun b o hb y => k₃ b o hb (k b o y)) (Nat.le_of_lt (Nat.lt_of_lt_of_le z dn)) dne hx₃ hn₃)
theorem own_made (T : OwnTxt K mg x f C fI B bmB newId initId) {v : Value} (X : K.In s.heap) (hlim : s.heap.NoLimit) (hroom : A.depth + 1 < recursionLimit)
    (hq : ∀ h' tk e dx, NewExc s.heap h' e C dx f v → R (.ok (.ret (.ref e))) { s with heap := h', toks := tk }) :
    codeAny (model prog w) A (.call (.ref C) ⟨[v], []⟩) R s := by
  obtain ⟨nm, N, qn, bs, bm, hdct, sn, sub, ab, col, dd, k0, k1, k2, k3, k5, hC, hT⟩ := excInit_of X T.qI
  obtain ⟨hp, g, dr, tk, os⟩ := s
  have k : ∀ b o, hp.get? b = some o → ((hp.push (kdv_tup [v])).push (HandSPX.excO C hp.objs.size)).get? b = some o := fun b o y => Heap.get?_push_of_some _ (Heap.get?_push_of_some _ y)
  have hget : ((hp.push (kdv_tup [v])).push (HandSPX.excO C hp.objs.size)).get? (hp.objs.size + 1) = some (HandSPX.excO C hp.objs.size) := by heap_get
  refine HandSPX.call_own T.fb hT hC (looks_findIn X T.iC) (fun self => bind_fn X self T.tC) (by rw [sizeLine_eq]; exact (by decide : 1 ≤ 16777216)) ?_
  refine own_init (s := ⟨(hp.push (kdv_tup [v])).push (HandSPX.excO C hp.objs.size), g, dr, tk, os⟩) T (X.keeps k) (hlim.keeps k) hget (show A.depth + 1 < recursionLimit from hroom) fun h' tk' dx k' dn dne hx hns => ?_
  have old : ∀ b o, hp.get? b = some o → h'.get? b = some o := fun b o y => k' b o (Nat.ne_of_lt (Nat.lt_succ_of_lt (Heap.lt_size y))) (k b o y)
  have z : hp.objs.size ≤ dx := by
    have dn' := dn
    simp only [Heap.size_push] at dn'
    omega
  exact ⟨rfl, hq h' tk' (hp.objs.size + 1) dx ⟨old, Nat.le_succ _, ⟨_, hx⟩, z, dne, hns⟩⟩
end
theorem relO_fld {f : Str} {v : V} {v' : Value} (r : RelV v v') (y : Str) : RelO (List.lookup y [(f, v)]) (if y = f then some v' else none) := by
  by_cases h : y = f
  · subst h
    rw [if_pos rfl]
    have e : List.lookup y [(y, v)] = some v := by simp [List.lookup]
    rw [e]
    exact r
  · rw [if_neg h]
    have e : (y == f) = false := by simpa using h
    have e2 : List.lookup y [(f, v)] = none := by simp [List.lookup, e]
    rw [e2]
    trivial
section
variable {X : Cx} {C fI : Addr} {x f : Str} {B newId initId : String} {bmB : List Value}
/-- x(a): an exception with one field -/
def tMkF (C : Addr) (f : Str) (ta : TA) : L2.St → Hp → XK → Prop := fun σ H Q => ta σ H fun vs H1 => ∃ v, vs = [v] ∧ ∀ dx, H1 dx = none → Q (.ref C) (some dx) (upd H1 dx (.xd [(f, v)]))
theorem pmk_fld {a : Expr} {ta : TA} {p pos : Pos} {k : Nat} (T : OwnTxt X.K X.mg x f C fI B bmB newId initId) (hr : Room k X.A) (ha : PA X [a] ta) (hg : Gl X x) (hdb : (x == ("__debug__" : Str)) = false := by decide)
    (he : starEach (a :: []) X.env = (false, eval a X.env) :: starEach [] X.env := by rfl) (hpl : (backTo pos (starEach [] X.env)).any (·.1) = false := by rfl) :
    PMk X (.Call (.Name x p) [a] [] pos) (tMkF C f ta) := by
  intro pins s σ H Q I h
  refine wpAny_Call_Name_kw (ld_glob I hg T.gC ?_ hdb)
  refine PySem.W.callWith_K (h₀ := X.base) I.ok.mod.kin T.kC (thn (ha.run pos pins s σ H _ I h) fun us s1 hh => ?_) he hpl
  obtain ⟨vs, H1, I1, r1, v, ev, q1⟩ := hh
  subst ev
  refine ⟨I1.kIn, ?_⟩
  obtain ⟨v', rfl, rv⟩ := Vals.one r1
  show wpAny _ _ (call (.ref C) [v']) _ _ _
  have hlim := I1.nolimit
  obtain ⟨hp, g, dr, tk, os⟩ := s1
  refine wpAny_call (own_made T I1.kIn hlim (by have := hr.dp; omega) fun h' tk' e dx M => ?_)
  show MkP X pins σ Q (.ref e) ⟨h', g, dr, tk', os⟩
  obtain ⟨t1, hoe⟩ := M.obj
  obtain ⟨G, g1, g2⟩ := restrict h' fun b => decide (b ≠ e)
  have gk : ∀ b, b ≠ e → G.get? b = h'.get? b := fun b hb => g1 b (decide_eq_true hb)
  have ge : G.get? e = none := g2 e (by simp)
  have old : ∀ b o, hp.get? b = some o → G.get? b = some o := fun b o y => (gk b (Nat.ne_of_lt (Nat.lt_of_lt_of_le (Heap.lt_size y) M.new))).trans (M.keep b o y)
  have ob : ObjOk X.prog X.w (upd H1 dx (.xd [(f, v)])) G dx (.xd [(f, v)]) := ⟨_, M.ns.at (fun o y => (gk dx M.dne).trans y), fun y => relO_fld rv y⟩
  have J : Inv X pins σ (upd H1 dx (.xd [(f, v)])) ⟨G, g, dr, tk', os⟩ := I1.laid (t' := tk') old M.dbig ob
  refine ⟨e, _, _, ⟨G, g, dr, tk', os⟩, _, .ref C, some dx, rfl, J, fun b o y => ?_, ge, hoe, ⟨rfl, rfl⟩, rfl, rfl, ?_, rfl, I1.bare, raises_own T.exC T.tyC, q1 dx (I1.hok.fresh M.dbig)⟩
  · by_cases hb : b = e
    · have y' : G.get? b = some o := y
      rw [hb, ge] at y'
      cases y'
    · exact (gk b hb).symm.trans y
  · rw [upd_ne (Ne.symm M.dne)]
    exact I1.hok.fresh M.new
end
end DL

namespace DL
open PySem PySem.Spec PyProof.Rows L2
/-- an exception that is made, over data -/
abbrev TXD := DEnv → Sto → DXK → Prop
def liftX (K : PySem.W.Frag) (mg : Str → Option Value) (d : TXD) : L2.St → Hp → XK → Prop := fun σ H Q => ∃ F ρ μ Ed, Rel K mg F ρ μ σ H ∧ d ρ μ Ed ∧
  ∀ cv od F' μ' H' c fs, Ext F μ H F' μ' H' → Ok K mg F' μ' H' → XD K mg H F' μ' H' cv od c fs → Ed c fs μ' → Q cv od H'
abbrev DX (X : Cx) (e : Expr) (d : TXD) : Prop := PMk X e (liftX X.K X.mg d)
@[simp] def dMkF (c f : Str) (t : TAD) : TXD := fun ρ μ Q => t ρ μ fun ds μ1 => match ds with
  | [d] => Q c [(f, d)] μ1
  | _ => False
@[simp] def dMk0 (c : Str) : TXD := fun _ μ Q => Q c [] μ
/-- a class whose objects have one field; a class without -/
def FldCls (K : PySem.W.Frag) (mg : Str → Option Value) (x f : Str) : Prop := ∃ C fI B bmB newId initId, OwnTxt K mg x f C fI B bmB newId initId
section
variable {X : Cx} {x f : Str} {k : Nat} {a e : Expr} {t : TAD} {d : TXD} {p pos : Pos} {B : Bs}
theorem dx_fld (T : FldCls X.K X.mg x f) (hr : Room k X.A) (ha : DA X [a] t) (hg : Gl X x) (hdb : (x == ("__debug__" : Str)) = false := by decide)
    (he : starEach (a :: []) X.env = (false, eval a X.env) :: starEach [] X.env := by rfl) (hpl : (backTo pos (starEach [] X.env)).any (·.1) = false := by rfl) : DX X (.Call (.Name x p) [a] [] pos) (dMkF x f t) := by
  obtain ⟨C, fI, B, bmB, newId, initId, T⟩ := T
  intro pins s σ H Q I h
  refine pmk_fld T hr ha hg hdb he hpl pins s σ H Q I ?_
  obtain ⟨F, ρ, μ, Ed, R, hd, kk⟩ := h
  refine ⟨F, ρ, μ, _, R, hd, fun vs F1 μ1 H1 ds e1 o1 w1 q1 => ?_⟩
  match ds, w1, q1 with
  | [d], .cons (v := v) w .nil, q1 =>
    refine ⟨v, rfl, fun dx hdx => ?_⟩
    obtain ⟨o2, e2⟩ := o1.layN hdx (.xd [(f, v)])
    obtain ⟨hf, hm⟩ := o1.fresh hdx
    exact kk _ _ F1 μ1 _ x [(f, d)] (e1.trans e2) o2 ⟨C, rfl, T.gC, .inr ⟨dx, [(f, v)], rfl, by simp, e1.live dx hdx, hf, hm, upd_same, rfl, .cons w .nil⟩⟩ q1
theorem XD.mono {K : PySem.W.Frag} {mg : Str → Option Value} {H0 H1 F H : Hp} {μ : Sto} {cv : Value} {od : Option Addr} {c : Str} {fs : List (Str × D)} (h : ∀ a, H1 a = none → H0 a = none) (x : XD K mg H1 F μ H cv od c fs) : XD K mg H0 F μ H cv od c fs := by
  obtain ⟨C, h1, h2, h3⟩ := x
  refine ⟨C, h1, h2, ?_⟩
  rcases h3 with h3 | ⟨d, vfs, a1, a2, a3, a4⟩
  · exact .inl h3
  · exact .inr ⟨d, vfs, a1, a2, h d a3, a4⟩
/-- what is wished of an exception, at the slots -/
def liftWX (K : PySem.W.Frag) (mg : Str → Option Value) (B : Bs) (W : DEnv → DXK) : WX := fun cv od σ H => ∃ F ρ μ c fs, RelB K mg B F ρ μ σ H ∧ XD K mg B.H F μ H cv od c fs ∧ W ρ c fs μ
@[simp] def dRaise (d : TXD) (W : DEnv → DXK) : TSD := fun _ ρ μ => d ρ μ (W ρ)
theorem ds_raise {W : DEnv → DXK} (hc : X.calm = true) (tk : Takes X (liftWX X.K X.mg B W)) (he : DX X e d) : DSt X B (.Raise (some e) none pos) (dRaise d W) := (ps_raise hc tk he).weaken fun D σ H h => by
  obtain ⟨F, ρ, μ, Dd, R, hd, _⟩ := h
  exact ⟨F, ρ, μ, _, R.rel, hd, fun cv od F' μ' H' c fs e o x w => ⟨F', ρ, μ', c, fs, R.step e o, x.mono R.ext.live, w⟩⟩
end
section
variable {P : Program} {w : World} {K : PySem.W.Frag} {mg : Str → Option Value} {base : Heap} {k n : Nat} {f : Addr} {fd : FuncData} {ps : List Str} {S : DSp}
theorem FnG.ofX {name qual : Str} {st : Stmt} {N : List Str} (D : Fun K name qual st f fd) (Sc : FnScope N ps (defScope st)) (len : ∀ ds μ Q E, S ds μ Q E → ds.length = ps.length) (d : DXK → TSD)
    (hd : ∀ ds μ Q E, S ds μ Q E → d E { nx := fun _ μ' => Q .non μ', rt := Q } (startD N.length ds) μ)
    (body : ∀ (cdv : Value) (A : Around) (outer : List Env) (s : Shared) (H : Hp) (E : XK) (Ed : DXK) (B : Bs), Quiet (A.deeper (envOfC qual (defScope st) s.heap.objs.size f cdv)) → Room k (A.deeper (envOfC qual (defScope st) s.heap.objs.size f cdv)) →
      Takes (cxOf (L2.CX P w) P w K mg base N qual (defScope st) f cdv A outer s H E) (liftWX K mg B fun _ => Ed) →
      DSs (cxOf (L2.CX P w) P w K mg base N qual (defScope st) f cdv A outer s H E) B (defBody st) (d Ed)) : FnG P w K mg base (L2.CX P w) (k + 1) f fd ps (liftP K mg S) := by
  refine FnG.of D Sc ?_ ?_
  · rintro vs H Q E ⟨F, μ, ds, Qd, Ed, _, h2, h3, _⟩
    exact h2.length.trans (len _ _ _ _ h3)
  · rintro cdv A outer s H vs Q E quiet room ⟨F, μ, ds, Qd, Ed, h1, h2, h3, h4, h5⟩
    refine ⟨_, body cdv A outer s H E Ed ⟨F, μ, H⟩ quiet room ?_, ?_⟩
    · refine (takes_of rfl rfl rfl rfl).imp fun cv od σ H' w => ?_
      obtain ⟨F1, ρ1, μ1, c, fs, R, x, q⟩ := w
      exact h5 cv od F1 μ1 H' c fs R.ext R.rel.ok x q
    refine ⟨F, startD N.length ds, μ, { nx := fun _ μ' => Qd .non μ', rt := Qd }, start_rel h1 h2, hd _ _ _ _ h3, ?_, fun _ _ _ _ _ _ _ z => z.elim, fun _ _ _ _ _ _ _ z => z.elim, ?_⟩
    · exact fun F' ρ' μ' σ' H' _ R q => h4 .non F' μ' H' .non R.ext R.rel.ok .non q
    · exact h4
theorem Cal.ofX {x : Str} {CX : CXT} (F : FnG P w K mg base CX k f fd ps (liftP K mg S)) (hx : mg x = some (.ref f)) (hk : PySem.W.keepIn K (.ref f) = true) (hb : Binds K fd ps []) : Cal P w K mg base CX k x S := ⟨f, F.toR hb, hx, hk⟩
end
section
variable {X : Cx} {x : Str} {k : Nat} {a b e : Expr} {es : List Expr} {t : TAD} {tt : TTD} {d da db : TED} {p pos : Pos} {B : Bs} {S : DSp} {W : DEnv → DXK}
def liftEB (K : PySem.W.Frag) (mg : Str → Option Value) (B : Bs) (d : TED) : TE := fun σ H Q => ∃ F ρ μ Qd, RelB K mg B F ρ μ σ H ∧ d ρ μ Qd ∧ ∀ v F' μ' H' dv, Ext F μ H F' μ' H' → Ok K mg F' μ' H' → Dt K mg F' v dv → Qd dv μ' → Q v H'
abbrev DEB (X : Cx) (B : Bs) (e : Expr) (d : TED) : Prop := PE X e (liftEB X.K X.mg B d)
@[simp] def dCallX (S : DSp) (t : TAD) (W : DEnv → DXK) : TED := fun ρ μ Q => t ρ μ fun ds μ1 => S ds μ1 Q (W ρ)
theorem run_gx {CX : CXT} {f : Addr} {sp : Sp} {E : XK} {pins : List (Addr × Obj)} {σ : L2.St} {H : Hp} {s : Shared} {Q : VK} {us : List Value} {vs : List V} (F : FR X.prog X.w X.K X.mg X.base CX k f sp) (quiet : Quiet X.A) (room : Room k X.A)
    (hx : PassesAt CX X σ E) (I : Inv X pins σ H s) (r : Vals vs us) (h : sp vs H Q E) : wpAny (model X.prog X.w) X.A (call (.ref f) us) (EP X pins σ Q) X.xe s := by
  refine wpAny_call (codeAny_mono (F X.A X.stack s H us vs Q E quiet room I.env0 r h) ?_)
  intro z s' hz
  match z, hz with
  | .error e, hz => exact hx pins H s e s' I hz
  | .ok (.ret u), hz => exact I.after hz
theorem ds_retX (he : DEB X B e d) : DSt X B (.Return (some e) pos) (dRet d) := (ps_ret he).weaken fun D σ H h => by
  obtain ⟨F, ρ, μ, Dd, R, hd, kn, kb, kc, kr⟩ := h
  exact ⟨F, ρ, μ, _, R, hd, fun v F' μ' H' dv e o w q => kr v F' μ' H' dv (R.ext.trans e) o w q⟩
@[simp] def dExprX (d : TED) : TSD := fun D ρ μ => d ρ μ fun _ μ1 => D.nx ρ μ1
theorem ds_setX {i : Nat} {y : Str} (h : ∀ te, PE X e te → PS X (.Assign [.Name y p] e pos) (tAsg te (gName i))) (he : DEB X B e d) : DSt X B (.Assign [.Name y p] e pos) (dSetR i (dVal d)) := (h _ he).weaken fun D σ H h => by
  obtain ⟨F, ρ, μ, Dd, R, hd, kn, kb, kc, kr⟩ := h
  exact ⟨F, ρ, μ, _, R, hd, fun v F' μ' H' dv e o w q => kn F' _ μ' _ H' e.mono ((R.step e o).set w) q⟩
theorem dss_nox {st : List Stmt} {ds : TSD} (h : DSs X.nox B st ds) : DSs X B st ds := PSs.nox h
end
end DL

namespace DL
open PySem PySem.Spec PyProof.Rows L2
/-- the exception's own dict, in the store and out of it -/
def sdel (μ : Sto) (a : Addr) : Sto := fun b => if b = a then none else μ b
def excU (od : Option Addr) (μ : Sto) : Sto := match od with
  | none => μ
  | some d => sdel μ d
section
variable {K : PySem.W.Frag} {mg : Str → Option Value} {B : Bs} {F F' H H' : Hp} {μ μ' : Sto} {ρ : DEnv} {σ : L2.St}
theorem RelB.excU {od : Option Addr} (r : RelB K mg B F ρ μ σ H) : RelB K mg B F ρ (excU od μ) σ H := by
  cases od with
  | none => exact r
  | some d =>
    have le : ∀ {a : Addr}, μ a = none → sdel μ d a = none := fun {a} h => by
      unfold sdel
      split
      · rfl
      · exact h
    have ge : ∀ {a : Addr} {m : MO}, sdel μ d a = some m → μ a = some m := fun {a m} h => by
      unfold sdel at h
      split at h
      · cases h
      · exact h
    refine ⟨⟨⟨r.rel.ok.sub, fun a m e => r.rel.ok.dis a m (ge e), fun a m e => r.rel.ok.sto a m (ge e)⟩, r.rel.len, fun i s e => ?_, r.rel.apart⟩, ⟨r.ext.mono, fun a o e n => ?_, r.ext.live⟩, r.new⟩
    · obtain ⟨v, g1, g2⟩ := r.rel.slot i s e
      refine ⟨v, g1, ?_⟩
      cases s with
      | val d' => exact g2
      | own xs =>
        obtain ⟨a, vs, q1, q2, q3, q4, q5⟩ := g2
        exact ⟨a, vs, q1, q2, le q3, q4, q5⟩
    · obtain ⟨g1, g2, g3⟩ := r.ext.keep a o e n
      exact ⟨g1, g2, le g3⟩
/-- the base of a try: what never changes is that of now -/
theorem RelB.here (r : RelB K mg B F ρ μ σ H) : RelB K mg ⟨F, B.μ, B.H⟩ F ρ μ σ H :=
  ⟨r.rel, ⟨fun _ _ e => e, fun a o e n => ⟨(r.ext.keep a o e n).1, rfl, (r.ext.keep a o e n).2.2⟩, r.ext.live⟩, r.new⟩
theorem ext_back {F0 : Hp} {μ0 : Sto} {H0 : Hp} (r : Ext F0 μ0 H0 F μ H) {F1 : Hp} {μ1 : Sto} {H1 : Hp} (e : Ext F μ0 H0 F1 μ1 H1) : Ext F0 μ0 H0 F1 μ1 H1 :=
  ⟨fun a o h => e.mono a o (r.mono a o h), fun a o h n => by
    obtain ⟨g1, g2, g3⟩ := e.keep a o h n
    exact ⟨g1, g2.trans (r.keep a o h n).2.1, g3⟩, e.live⟩
theorem RelB.back {μ1 : Sto} {F1 H1 : Hp} {ρ1 : DEnv} {σ1 : L2.St} (r : RelB K mg B F ρ μ σ H) (q : RelB K mg ⟨F, B.μ, B.H⟩ F1 ρ1 μ1 σ1 H1) : RelB K mg B F1 ρ1 μ1 σ1 H1 := ⟨q.rel, ext_back r.ext q.ext, q.new⟩
end
/-- the ends of an except suite -/
def exD (i : Nat) (od : Option Addr) (E : DEnds) : DEnds := { nx := fun ρ μ => E.nx (ρ.set i none) (excU od μ), rt := fun d μ => E.rt d (excU od μ), bk := fun ρ μ => E.bk (ρ.set i none) (excU od μ), ct := fun ρ μ => E.ct (ρ.set i none) (excU od μ) }
@[simp] theorem exD_rt {i : Nat} {od : Option Addr} {E : DEnds} {d : D} {μ : Sto} : (exD i od E).rt d μ = E.rt d (excU od μ) := rfl
@[simp] theorem exD_nx {i : Nat} {od : Option Addr} {E : DEnds} {ρ : DEnv} {μ : Sto} : (exD i od E).nx ρ μ = E.nx (ρ.set i none) (excU od μ) := rfl
section
variable {X : Cx} {B : Bs} {x n : Str} {cv : Value} {i : Nat} {body suite : List Stmt} {b₀ : Stmt} {np pos pos' : Pos} {cat : Str → Option Bool} {tb : (DEnv → DXK) → TSD} {ts : Addr → Option Addr → Str → TSD} {Wout : DEnv → DXK}
end
end DL

namespace DL
open PySem PySem.Spec PyProof.Rows L2
structure XTab where
  own : List (Str × Str × Bool)
  blt : List (Str × String × Bool)
def XTab.get (T : XTab) (c q : Str) : Option Bool := (T.own.find? fun z => decide (z.1 = c) && decide (z.2.1 = q)).map (·.2.2)
def XTab.getT (T : XTab) (c : Str) (t : String) : Option Bool := (T.blt.find? fun z => decide (z.1 = c) && decide (z.2.1 = t)).map (·.2.2)
def isCls : D → Bool
  | .gl _ => true
  | .ty _ => true
  | _ => false
def XTab.any (T : XTab) (c : Str) : List D → Option Bool
  | [] => some false
  | .gl q :: r => match T.get c q with
    | some true => if r.all isCls then some true else none
    | some false => T.any c r
    | none => none
  | .ty t :: r => match T.getT c t with
    | some true => if r.all isCls then some true else none
    | some false => T.any c r
    | none => none
  | _ :: _ => none
structure XTabOk (K : PySem.W.Frag) (mg : Str → Option Value) (T : XTab) : Prop where
  own : ∀ z ∈ T.own, ∃ C Q, mg z.1 = some (.ref C) ∧ mg z.2.1 = some (.ref Q) ∧ PySem.W.kitOne K (.ref C) (.ref Q) = some z.2.2 ∧ PySem.W.exmOne K (.ref C) (.ref Q) = some z.2.2 ∧ ExcC K C
  blt : ∀ z ∈ T.blt, ∃ C, mg z.1 = some (.ref C) ∧ PySem.W.kitOne K (.ref C) (.type z.2.1) = some z.2.2 ∧ ExcC K C
section
variable {K : PySem.W.Frag} {mg : Str → Option Value} {T : XTab} {c q : Str} {t : String} {b : Bool} {C : Addr}
theorem XTabOk.get (h : XTabOk K mg T) (e : T.get c q = some b) (hc : mg c = some (.ref C)) : ∃ Q, mg q = some (.ref Q) ∧ PySem.W.kitOne K (.ref C) (.ref Q) = some b ∧ PySem.W.exmOne K (.ref C) (.ref Q) = some b ∧ ExcC K C := by
  unfold XTab.get at e
  obtain ⟨z, hz, rfl⟩ := Option.map_eq_some_iff.mp e
  have hm := List.mem_of_find?_eq_some hz
  have hp := List.find?_some hz
  rw [Bool.and_eq_true, decide_eq_true_eq, decide_eq_true_eq] at hp
  obtain ⟨rfl, rfl⟩ := hp
  obtain ⟨C', Q, h1, h2, h3⟩ := h.own z hm
  rw [hc] at h1
  cases h1
  exact ⟨Q, h2, h3⟩
theorem XTabOk.getT (h : XTabOk K mg T) (e : T.getT c t = some b) (hc : mg c = some (.ref C)) : PySem.W.kitOne K (.ref C) (.type t) = some b ∧ ExcC K C := by
  unfold XTab.getT at e
  obtain ⟨z, hz, rfl⟩ := Option.map_eq_some_iff.mp e
  have hm := List.mem_of_find?_eq_some hz
  have hp := List.find?_some hz
  rw [Bool.and_eq_true, decide_eq_true_eq, decide_eq_true_eq] at hp
  obtain ⟨rfl, rfl⟩ := hp
  obtain ⟨C', h1, h3⟩ := h.blt z hm
  rw [hc] at h1
  cases h1
  exact h3
theorem clsV_of {F : Hp} {v : V} {d : D} (h : isCls d = true) (r : Dt K mg F v d) : ∃ u, ClsV v u := by
  cases r <;> first | exact (Bool.false_ne_true h).elim | skip
  · exact ⟨_, .ty _⟩
  · exact ⟨_, .own _⟩
theorem clsVs_of {F : Hp} : ∀ {vs : List V} {ds : List D}, ds.all isCls = true → Dts K mg F vs ds → ∃ us, Paired ClsV vs us
  | _, _, _, .nil => ⟨[], .nil⟩
  | _, _, h, .cons r rs => by
    rw [List.all_cons, Bool.and_eq_true] at h
    obtain ⟨u, hu⟩ := clsV_of h.1 r
    obtain ⟨us, hus⟩ := clsVs_of h.2 rs
    exact ⟨u :: us, .cons hu hus⟩
theorem XTabOk.any (h : XTabOk K mg T) (hc : mg c = some (.ref C)) {F : Hp} : ∀ (ds : List D) (vs : List V) (b : Bool), T.any c ds = some b → Dts K mg F vs ds → ∃ us, Paired ClsV vs us ∧ PySem.W.kitAny K (.ref C) us = some b
  | [], vs, b, e, r => by
    cases r
    cases e
    exact ⟨[], .nil, rfl⟩
  | d :: ds, vs, b, e, r => by
    cases r with
    | cons r rs =>
      rename_i v vs
      have key : ∀ (g : Option Bool) (u : Value), (match g with | some true => if ds.all isCls then some true else none | some false => T.any c ds | none => none) = some b → ClsV v u → (∀ b', g = some b' → PySem.W.kitOne K (.ref C) u = some b') → ∃ us, Paired ClsV (v :: vs) us ∧ PySem.W.kitAny K (.ref C) us = some b := fun g u e hu hk => by
        match g, e, hk with
        | some true, e, hk =>
          dsimp only at e
          split at e
          · rename_i ha
            cases e
            obtain ⟨us, hus⟩ := clsVs_of ha rs
            exact ⟨u :: us, .cons hu hus, by unfold PySem.W.kitAny; rw [hk true rfl]⟩
          · cases e
        | some false, e, hk =>
          obtain ⟨us, hus, hka⟩ := XTabOk.any h hc ds vs b e rs
          exact ⟨u :: us, .cons hu hus, by unfold PySem.W.kitAny; rw [hk false rfl]; exact hka⟩
        | none, e, hk => cases e
      cases d <;> first | cases e; done | skip
      · rename_i n
        cases r
        exact key (T.getT c n) _ e (.ty n) fun b' hb => (h.getT hb hc).1
      · rename_i x
        cases r
        rename_i a ha
        refine key (T.get c x) _ e (.own a) fun b' hb => ?_
        obtain ⟨Q, h1, h2, _⟩ := h.get hb hc
        rw [ha] at h1
        cases h1
        exact h2
end
/-- the exception's dict is in the store -/
def excHas (od : Option Addr) (μ : Sto) : Prop := match od with
  | none => True
  | some d => ∃ fs, μ d = some (.xd fs)
def rdIsX (a : Addr) (od : Option Addr) (c : Str) (T : XTab) : RDn
  | [.ref x, .gl q], μ, Q => x = a ∧ excHas od μ ∧ ∃ b, T.get c q = some b ∧ Q (.bl b) μ
  | [.ref x, .ty t], μ, Q => x = a ∧ excHas od μ ∧ ∃ b, T.getT c t = some b ∧ Q (.bl b) μ
  | [.ref x, .tup cs], μ, Q => x = a ∧ cs ≠ [] ∧ excHas od μ ∧ ∃ b, T.any c cs = some b ∧ Q (.bl b) μ
  | _, _, _ => False
@[simp] theorem rdIsX_1 {a x : Addr} {od : Option Addr} {c q : Str} {T : XTab} {μ : Sto} {Q : DK} : rdIsX a od c T [.ref x, .gl q] μ Q = (x = a ∧ excHas od μ ∧ ∃ b, T.get c q = some b ∧ Q (.bl b) μ) := rfl
@[simp] theorem rdIsX_2 {a x : Addr} {od : Option Addr} {c : Str} {t : String} {T : XTab} {μ : Sto} {Q : DK} : rdIsX a od c T [.ref x, .ty t] μ Q = (x = a ∧ excHas od μ ∧ ∃ b, T.getT c t = some b ∧ Q (.bl b) μ) := rfl
@[simp] theorem rdIsX_3 {a x : Addr} {od : Option Addr} {c : Str} {cs : List D} {T : XTab} {μ : Sto} {Q : DK} : rdIsX a od c T [.ref x, .tup cs] μ Q = (x = a ∧ cs ≠ [] ∧ excHas od μ ∧ ∃ b, T.any c cs = some b ∧ Q (.bl b) μ) := rfl
section
variable {X : Cx} {a C : Addr} {od : Option Addr} {oe : Obj} {pn : List (Addr × Obj)} {x f c : Str} {e : Expr} {d : TED} {p pos : Pos}
/-- the name of a class of the module -/
theorem de_gl {X : Cx} {q : Str} {p : Pos} (hg : Gl X q) (hm : ∃ C, X.mg q = some (.ref C)) (hd : (q == ("__debug__" : Str)) = false := by decide) : DE X (.Name q p) (dC (.gl q)) := by
  obtain ⟨C, hm⟩ := hm
  exact de_c (pe_glob (v := .ref C) hg hm rfl hd) fun _ => .gl hm
/-- e.f, e the exception that the suite holds -/
@[simp] def dXf (a : Addr) (od : Option Addr) (c cB f : Str) (d : TED) : TED := fun ρ μ Q => d ρ μ fun x μ1 => x = .ref a ∧ c = cB ∧ ∃ dd fs v, od = some dd ∧ μ1 dd = some (.xd fs) ∧ fs.lookup f = some v ∧ Q v μ1
structure FldRd (K : PySem.W.Frag) (mg : Str → Option Value) (cB f : Str) : Prop where
  ex : ∃ C, mg cB = some (.ref C) ∧ XfC K C ∧ PySem.W.findIn K (.ref C) f = some none
theorem dts_lookup {K : PySem.W.Frag} {mg : Str → Option Value} {F : Hp} {f : Str} {v : D} : ∀ {vfs : List (Str × V)} {fs : List (Str × D)}, vfs.map (·.1) = fs.map (·.1) → Dts K mg F (vfs.map (·.2)) (fs.map (·.2)) → fs.lookup f = some v → ∃ w, vfs.lookup f = some w ∧ Dt K mg F w v
  | [], [], _, _, e => by cases e
  | [], _ :: _, e, _, _ => by cases e
  | _ :: _, [], e, _, _ => by cases e
  | (g, w) :: vfs, (g', v') :: fs, e, r, l => by
    rw [List.map_cons, List.map_cons] at e r
    obtain ⟨e1, e2⟩ := List.cons.inj e
    dsimp only at e1
    subst e1
    cases r with
    | cons r rs =>
      rw [List.lookup] at l ⊢
      split at l
      · cases l
        exact ⟨w, rfl, r⟩
      · exact dts_lookup e2 rs l
end
end DL

namespace DL
open PySem PySem.Spec PyProof.Rows L2
section
variable {P : Program} {w : World} {K : PySem.W.Frag} {mg : Str → Option Value} {base : Heap} {k : Nat} {f : Addr} {ps : List Str} {S : DSp}
end
theorem tk_none {X : Cx} {B : Bs} : ∀ B' : Bs, (∀ c d σ H, liftWX X.K X.mg B' (fun _ _ _ _ => False) c d σ H → liftWX X.K X.mg B (fun _ _ _ _ => False) c d σ H) → Takes X (liftWX X.K X.mg B' (fun _ _ _ _ => False)) := fun B' _ => by
  rintro u s' ⟨_, _, _, _, _, _, _, _, _, _, _, _, _, _, _, _, _, _, _, _, _, _, _, z⟩
  exact z.elim
section
variable {K : PySem.W.Frag} {mg : Str → Option Value} {C Q : Addr} {b : Bool}
theorem hcat_of {T : XTab} {x : Str} (h : XTabOk K mg T) (hq : mg x = some (.ref Q)) : ∀ c b C, T.get c x = some b → mg c = some (.ref C) → PySem.W.exmOne K (.ref C) (.ref Q) = some b := fun c b C e hc => by
  obtain ⟨Q', h1, _, h2, _⟩ := h.get e hc
  rw [hq] at h1
  cases h1
  exact h2
theorem kit_sub (hd : PySem.W.hasDictIn K Q = true) (ht : PySem.W.typeIn K (.ref Q) = some (.type "type")) (hs : PySem.W.subIn K (.ref C) (.ref Q) = some b) (hz : PySem.W.subIn K (.ref C) (.ref C) = some true) : PySem.W.kitOne K (.ref C) (.ref Q) = some b := by
  unfold PySem.W.kitOne
  by_cases e : C = Q
  · subst e
    rw [hz] at hs
    cases hs
    rw [if_pos (by simp)]
  · rw [if_neg (by simpa using e)]
    unfold PySem.W.kitCls
    obtain ⟨cd, hc, _⟩ := PySem.W.any_some hd
    have e2 : ((PySem.W.clsIn K Q).isSome && PySem.W.typeIn K (.ref Q) == some (.type "type")) = true := by rw [hc, ht] <;> rfl
    dsimp only
    rw [if_pos e2]
    exact hs
theorem kit_subT {t : String} (hm : PySem.W.kitMeta t = true) (hs : PySem.W.subIn K (.ref C) (.type t) = some b) : PySem.W.kitOne K (.ref C) (.type t) = some b := by
  unfold PySem.W.kitOne
  rw [if_neg (by simp)]
  unfold PySem.W.kitCls
  dsimp only
  rw [if_pos hm]
  exact hs
end
section
theorem takesN {X : Cx} : Takes X (fun _ _ _ _ => False) := fun _ _ x => by
  obtain ⟨_, _, _, _, _, _, _, _, _, _, _, _, _, _, _, _, z⟩ := x
  exact z.elim
variable {X : Cx} {x : Str} {k : Nat} {e : Expr} {es : List Expr} {t : TAD} {p pos : Pos} {S : DSp}
end
end DL

namespace DL
open PySem PySem.Spec PyProof.Rows L2
@[simp] def dStar (a : TED) (t : TAD) : TAD := fun ρ μ Q => a ρ μ fun x μ1 => match x with
  | .tup xs => t ρ μ1 fun ys μ2 => Q (xs ++ ys) μ2
  | .lst xs => t ρ μ1 fun ys μ2 => Q (xs ++ ys) μ2
  | _ => False
section
variable {X : Cx} {e : Expr} {es : List Expr} {da : TED} {t : TAD} {p : Pos}
end
def rngC (lo c : Int) (n : Nat) : List D := (List.range n).map fun k => .int (lo + (k : Nat) * c)
@[simp] def dRng3 (t : TAD) : TSrc := fun ρ μ Q => t ρ μ fun xs μ1 => match xs with
  | [.int i, .int j, .int c] => c = -1 ∧ rngOk i ∧ rngOk j ∧ Q (rngC i (-1) (i - j).toNat) still μ1
  | _ => False
section
variable {X : Cx} {tg e e2 e3 : Expr} {t : TAD} {p pos : Pos}
end
section
variable {X : Cx} {B : Bs}
@[simp] def dAugP (sl : Nat) (r : RD2) (i d : TED) : TSD := fun E ρ μ => ∃ xs, ρ[sl]? = some (some (.own xs)) ∧ i ρ μ fun k μ1 => ∃ n j x, k = .int n ∧ ixN xs.length n = some j ∧ xs[j]? = some x ∧ d ρ μ1 fun y μ2 => r x y μ2 fun z μ3 => E.nx (ρ.set sl (some (.own (xs.set j z)))) μ3
end
def rdIMul : RD2 := rdI (fun i j => (-18446744073709551616 < i ∧ i < 18446744073709551616) ∨ (-18446744073709551616 < j ∧ j < 18446744073709551616)) fun i j => .int (i * j)
@[simp] theorem rdIMul_i {i j : Int} {μ : Sto} {Q : DK} : rdIMul (.int i) (.int j) μ Q = (((-18446744073709551616 < i ∧ i < 18446744073709551616) ∨ (-18446744073709551616 < j ∧ j < 18446744073709551616)) ∧ Q (.int (i * j)) μ) := rfl
section
variable {X : Cx}
end
section
variable {X : Cx} {o e : Expr} {es : List Expr} {name : Str} {apos cpos : Pos} {id : String} {r : V → List V → Hp → VK → Prop} {rd : RDm} {to : TE} {t : TA} {d : TED} {ta : TAD}
@[simp] def dMtT (rd : RDm) (d : TED) (t : TAD) : TED := fun ρ μ Q => d ρ μ fun x μ1 => match x with
  | .tup xs => t ρ μ1 fun ys μ2 => rd (.tup xs) ys μ2 Q
  | _ => False
end
def rdIndexT : RDm
  | .tup xs, [.int k], μ, Q => ∃ (ns : List Int) (j : Nat), xs = ns.map D.int ∧ ns[j]? = some k ∧ (∀ m, m < j → ns[m]? ≠ some k) ∧ Q (.int j) μ
  | _, _, _, _ => False
def rdIndexL : RDm
  | .lst xs, [.int k], μ, Q => ∃ (ns : List Int) (j : Nat), xs = ns.map D.int ∧ ns[j]? = some k ∧ (∀ m, m < j → ns[m]? ≠ some k) ∧ Q (.int j) μ
  | _, _, _, _ => False
def rdIndexS : RDm
  | .str s, [.str [c]], μ, Q => ∃ j, s.findIdx? (· == c) = some j ∧ Q (.int j) μ
  | _, _, _, _ => False
@[simp] theorem rdIndexT_1 : rdIndexT (.tup xs) [.int k] μ Q = (∃ (ns : List Int) (j : Nat), xs = ns.map D.int ∧ ns[j]? = some k ∧ (∀ m, m < j → ns[m]? ≠ some k) ∧ Q (.int j) μ) := rfl
@[simp] theorem rdIndexL_1 : rdIndexL (.lst xs) [.int k] μ Q = (∃ (ns : List Int) (j : Nat), xs = ns.map D.int ∧ ns[j]? = some k ∧ (∀ m, m < j → ns[m]? ≠ some k) ∧ Q (.int j) μ) := rfl
@[simp] theorem rdIndexS_1 : rdIndexS (.str s) [.str [c]] μ Q = (∃ j, s.findIdx? (· == c) = some j ∧ Q (.int j) μ) := rfl
section
variable {K : PySem.W.Frag} {mg : Str → Option Value}
end
def rdDivmod : RDn
  | [.int i, .int j], μ, Q => divOk j ∧ Q (.pr (.int (i / j)) (.int (i % j))) μ
  | _, _, _ => False
@[simp] theorem rdDivmod_1 : rdDivmod [.int i, .int j] μ Q = (divOk j ∧ Q (.pr (.int (i / j)) (.int (i % j))) μ) := rfl
end DL

namespace DL
open PySem PySem.Spec PyProof.Rows L2
@[simp] def dAddF (a b : TED) : TFD := fun ρ μ Q => a ρ μ fun x μ1 => b ρ μ1 fun y μ2 => ∃ xs ys, x = .lst xs ∧ y = .lst ys ∧ xs.length + ys.length ≤ SZ ∧ Q (xs ++ ys) μ2
@[simp] def dMulF (a b : TED) : TFD := fun ρ μ Q => a ρ μ fun x μ1 => b ρ μ1 fun y μ2 => ∃ xs n, x = .lst xs ∧ y = .int n ∧ n ≤ 1000000 ∧ -1000000 ≤ n ∧ xs.length * n.toNat ≤ SZ ∧ Q (repl n.toNat xs) μ2
@[simp] def dListF (t : TAD) : TFD := fun ρ μ Q => t ρ μ fun ds μ1 => match ds with
  | [.tup xs] => Q xs μ1
  | [.lst xs] => Q xs μ1
  | _ => False
section
variable {X : Cx} {e f : Expr} {da db : TED} {pos p : Pos} {t : TAD}
end
def rdIAdd : RD2
  | .int i, .int j, μ, Q => Q (.int (i + j)) μ
  | .str s, .str t, μ, Q => s.length + t.length ≤ SZ ∧ Q (.str (s ++ t)) μ
  | _, _, _, _ => False
@[simp] theorem rdIAdd_1 : rdIAdd (.int i) (.int j) μ Q = Q (.int (i + j)) μ := rfl
@[simp] theorem rdIAdd_2 : rdIAdd (.str s) (.str t) μ Q = (s.length + t.length ≤ SZ ∧ Q (.str (s ++ t)) μ) := rfl
@[simp] def dPar4 (i j k l : Nat) (a b : TRD) (c d : TED) : TSD := fun E ρ μ => a ρ μ fun s μ1 => b ρ μ1 fun t μ2 => c ρ μ2 fun x μ3 => d ρ μ3 fun y μ4 => E.nx ((((ρ.set i (some s)).set j (some t)).set k (some (.val x))).set l (some (.val y))) μ4
section
variable {X : Cx} {B : Bs} {i j k l : Nat} {a b c d t1 t2 t3 t4 : Expr} {da db : TRD} {dc dd : TED} {pt pt2 pos : Pos} {kt k2 : Nat}
end
end DL

namespace DL
open PySem PySem.Spec PyProof.Rows L2
/-- the own lists of the frame are there -/
def Old (ρ : DEnv) (σ : L2.St) (H : Hp) : Prop := ∀ (j : Nat) (xs : List D) (p : Addr), ρ[j]? = some (some (DS.own xs)) → σ[j]? = some (some (V.ref p)) → H p ≠ none
theorem Old.of {K : PySem.W.Frag} {mg : Str → Option Value} {B : Bs} {F H : Hp} {μ : Sto} {ρ : DEnv} {σ : L2.St} (R : RelB K mg B F ρ μ σ H) : Old ρ σ H := fun j xs p z1 z2 => by
  obtain ⟨p2, vs, c1, c2, c3, c4, _⟩ := R.ownAt z1
  rw [c1] at z2
  cases z2
  rw [c4]
  exact fun z => nomatch z
theorem Old.own {K : PySem.W.Frag} {mg : Str → Option Value} {B : Bs} {F F1 H H1 : Hp} {μ μ1 : Sto} {ρ : DEnv} {σ : L2.St} (R : RelB K mg B F ρ μ σ H) (e : Ext F μ H F1 μ1 H1) : Old ρ σ H1 := fun j xs p z1 z2 => by
  obtain ⟨p2, vs, c1, c2, c3, c4, _⟩ := R.ownAt z1
  rw [c1] at z2
  cases z2
  rw [(e.keep p _ c4 c3).1]
  exact fun z => nomatch z
theorem Old.set {K : PySem.W.Frag} {mg : Str → Option Value} {F H0 H H2 : Hp} {μ : Sto} {ρ : DEnv} {σ : L2.St} {i : Nat} {v : V} {s : DS} (h : Old ρ σ H2) (hl : ρ.length = σ.length) (w : ROk K mg H0 F μ H v s) (hk : ∀ p, H p ≠ none → H0 p = none → H2 p ≠ none) :
    Old (ρ.set i (some s)) (σ.set i (some v)) H2 := fun j xs p z1 z2 => by
  by_cases hj : i = j
  · subst hj
    have hi : i < ρ.length := by
      have := (List.getElem?_eq_some_iff.mp z1).1
      rwa [List.length_set] at this
    rw [List.getElem?_set_self hi] at z1
    cases z1
    obtain ⟨p2, vs, rfl, c1, c2, c3, c4, c5⟩ := w
    rw [List.getElem?_set_self (by rw [← hl]; exact hi)] at z2
    cases z2
    exact hk _ (by rw [c4]; exact fun z => nomatch z) c1
  · rw [List.getElem?_set_ne hj] at z1 z2
    exact h j xs p z1 z2
theorem Old.ext {F F' H H' : Hp} {μ μ' : Sto} {ρ : DEnv} {σ : L2.St} (h : Old ρ σ H) (e : Ext F μ H F' μ' H') : Old ρ σ H' := fun j xs p z1 z2 z => h j xs p z1 z2 (e.live p z)
theorem Old.put {K : PySem.W.Frag} {mg : Str → Option Value} {F H0 H F2 H2 : Hp} {μ μ2 : Sto} {ρ : DEnv} {σ : L2.St} {i : Nat} {v : V} {s : DS} (h : Old ρ σ H2) (hl : ρ.length = σ.length) (w : ROk K mg H0 F μ H v s) (e : Ext F μ H F2 μ2 H2) :
    Old (ρ.set i (some s)) (σ.set i (some v)) H2 := h.set hl w fun p hp _ z => hp (e.live p z)
/-- x, y, z = a, b, c: results -/
@[simp] def dParR (i j l : Nat) (a b c : TRD) : TSD := fun E ρ μ => a ρ μ fun s μ1 => b ρ μ1 fun t μ2 => c ρ μ2 fun u μ3 => E.nx (((ρ.set i (some s)).set j (some t)).set l (some u)) μ3
section
variable {X : Cx} {B : Bs} {i j l : Nat} {a b c : Expr} {da db dc : TRD} {pos : Pos} {kt k2 : Nat}
end
end DL

namespace DL
open PySem PySem.Spec PyProof.Rows L2
section
variable {X : Cx} {B : Bs} {i j : Nat} {a b : Expr} {da db : TRD} {pos : Pos} {kt k2 : Nat}
end
end DL

namespace DL
open PySem PySem.Spec PyProof.Rows L2
def keyPy : Key → PyData
  | .inl i => .int i
  | .inr s => .str s
mutual
/-- data at a value, dicts with them -/
inductive Dq (K : PySem.W.Frag) (H : Hp) : V → PyData → Prop
  | non : Dq K H .non .none
  | bl (b : Bool) : Dq K H (.bl b) (.bool b)
  | int (i : Int) : Dq K H (.int i) (.int i)
  | str (x : Str) : Dq K H (.str x) (.str x)
  | lst {a : Addr} {xs : List V} {ds : List PyData} : SqL K H a xs → DqAll K H xs ds → Dq K H (.ref a) (.list ds)
  | tup {a : Addr} {xs : List V} {ds : List PyData} : SqT K H a xs → DqAll K H xs ds → Dq K H (.ref a) (.tuple ds)
  | dct {a : Addr} {kvs : List (Key × V)} {ds : List (PyData × PyData)} : H a = some (.dK kvs) → DqKv K H kvs ds → Dq K H (.ref a) (.dict ds)
inductive DqAll (K : PySem.W.Frag) (H : Hp) : List V → List PyData → Prop
  | nil : DqAll K H [] []
  | cons {v : V} {vs : List V} {d : PyData} {ds : List PyData} : Dq K H v d → DqAll K H vs ds → DqAll K H (v :: vs) (d :: ds)
inductive DqKv (K : PySem.W.Frag) (H : Hp) : List (Key × V) → List (PyData × PyData) → Prop
  | nil : DqKv K H [] []
  | cons {k : Key} {v : V} {kvs : List (Key × V)} {d : PyData} {ds : List (PyData × PyData)} : Dq K H v d → DqKv K H kvs ds → DqKv K H ((k, v) :: kvs) ((keyPy k, d) :: ds)
end
section
variable {X : Cx} {pins : List (Addr × Obj)} {σ : L2.St} {H : Hp} {s : Shared}
theorem keys_read {P : Program} {w : World} {h : Heap} : ∀ {es : List DictEntry} {kvs : List (Key × Value)}, Pairs (mixKind P w) es kvs → ReadsAll h (es.map (·.key)) (kvs.map fun kv => keyPy kv.1) []
  | _, _, .nil => .nil
  | _, _, .cons (e := e) (kv := kv) h1 _ r => by
    have ih := keys_read (h := h) r
    have one : Reads h e.key (keyPy kv.1) [] := by
      obtain ⟨k, v⟩ := kv
      rcases keyIs_shape h1 with ⟨i, t, e1, e2⟩ | ⟨x, t, e1, e2⟩
      · dsimp only at e1
        subst e1
        rw [e2]
        exact .int i t
      · dsimp only at e1
        subst e1
        rw [e2]
        exact .str x t
    exact .cons (as := []) (bs := []) one ih
theorem vals_are {P : Program} {w : World} : ∀ {es : List DictEntry} {kvs : List (Key × Value)}, Pairs (mixKind P w) es kvs → es.map (·.val) = kvs.map (·.2)
  | _, _, .nil => rfl
  | _, _, .cons _ h2 r => by rw [List.map_cons, List.map_cons, h2, vals_are r]
/-- what is read of a value, and how it is shown -/
def RP (P : Program) (w : World) (h : Heap) (v : Value) (d : PyData) : Prop := ∃ as bs, Reads h v d as ∧ ReadAtMost h d.depth bs ∧ ReprK P w bs h d.depth v d.shown
def RPA (P : Program) (w : World) (h : Heap) (vs : List Value) (ds : List PyData) : Prop := ∃ as bs, ReadsAll h vs ds as ∧ ReadAtMost h (PyData.depthAll ds) bs ∧ ReprAllK P w bs h (PyData.depthAll ds) vs (PyData.shownAll ds)
theorem rp_flat {P : Program} {w : World} {h : Heap} {v : Value} {d : PyData} (r : Reads h v d []) (hs : d.showable = true) (hz : d.shown.length ≤ sizeLine) : RP P w h v d := by
  obtain ⟨bs, h1, h2⟩ := ReprK.of_reads (prog := P) (w := w) r hs (fun _ z => nomatch z) hz
  exact ⟨[], bs, r, h1, h2⟩
theorem rpa_nil {P : Program} {w : World} {h : Heap} : RPA P w h [] [] := ⟨[], [], .nil, (fun _ z => nomatch z), .nil⟩
theorem rpa_cons {P : Program} {w : World} {h : Heap} {v : Value} {vs : List Value} {d : PyData} {ds : List PyData} (r : RP P w h v d) (rs : RPA P w h vs ds) : RPA P w h (v :: vs) (d :: ds) := by
  obtain ⟨as, b1, q1, m1, k1⟩ := r
  obtain ⟨cs, b2, q2, m2, k2⟩ := rs
  have l1 : d.depth ≤ PyData.depthAll (d :: ds) := Nat.le_max_left _ _
  have l2 : PyData.depthAll ds ≤ PyData.depthAll (d :: ds) := Nat.le_max_right _ _
  exact ⟨as ++ cs, b1 ++ b2, .cons q1 q2, (m1.mono l1).append (m2.mono l2), .cons ((k1.more fun b z => List.mem_append_left _ z).level_le l1) (k2.more_le (fun b z => List.mem_append_right _ z) l2)⟩
theorem deeper {h : Heap} {a : Addr} {d : PyData} {as bs : List Addr} {n : Nat} (r : Reads h (.ref a) d as) (hn : n < d.depth) (m : ReadAtMost h n bs) : a ∉ bs := not_mem_of_deeper r hn m
theorem rp_list {P : Program} {w : World} {h : Heap} {a : Addr} {o : Obj} {vs : Array Value} {n : Nat} {ds : List PyData} (h1 : h.get? a = some o) (h2 : o.cls = .type "list") (h3 : o.data = .seq vs n) (rs : RPA P w h vs.toList ds) : RP P w h (.ref a) (.list ds) := by
  obtain ⟨as, bs, q, m, k⟩ := rs
  have r : Reads h (.ref a) (.list ds) (a :: as) := Reads.list h1 h2 h3 q
  have lt : PyData.depthAll ds < (PyData.list ds).depth := by show _ < PyData.depthAll ds + 1; omega
  have hna := deeper r lt m
  refine ⟨_, a :: bs, r, ReadAtMost.cons r (Nat.le_refl _) (m.mono (Nat.le_of_lt lt)), ?_⟩
  show ReprK P w (a :: bs) h (PyData.depthAll ds + 1) (.ref a) (listText (PyData.shownAll ds))
  obtain ⟨l⟩ := vs
  cases l with
  | nil =>
    cases (show ReadsAll h [] ds as from q)
    show ReprK P w (a :: bs) h _ (.ref a) (listText [])
    rw [listText_nil]; exact ReprK.listEmpty h1 h2 h3
  | cons x l => exact ReprK.list h1 h2 h3 hna (by simpa using k.length_eq) fun i y e => k.item i y (by simpa using e)
theorem rp_tuple {P : Program} {w : World} {h : Heap} {a : Addr} {o : Obj} {vs : Array Value} {n : Nat} {ds : List PyData} (h1 : h.get? a = some o) (h2 : o.cls = .type "tuple") (h3 : o.data = .seq vs n) (rs : RPA P w h vs.toList ds) : RP P w h (.ref a) (.tuple ds) := by
  obtain ⟨as, bs, q, m, k⟩ := rs
  have r : Reads h (.ref a) (.tuple ds) as := Reads.tuple h1 h2 h3 q
  have lt : PyData.depthAll ds < (PyData.tuple ds).depth := by show _ < PyData.depthAll ds + 1; omega
  have hna := deeper r lt m
  exact ⟨_, a :: bs, r, ReadAtMost.cons r (Nat.le_refl _) (m.mono (Nat.le_of_lt lt)), ReprK.tuple h1 h2 h3 hna k⟩
theorem rp_dict {P : Program} {w : World} {h : Heap} {a : Addr} {o : Obj} {es : Array DictEntry} {n : Nat} {kvs : List (PyData × PyData)} (h1 : h.get? a = some o) (h2 : o.cls = .type "dict") (h3 : o.data = .dict es n) (hn : (a == sysModules) = false)
    (rk : RPA P w h (es.toList.map (·.key)) (kvs.map (·.1))) (rv : RPA P w h (es.toList.map (·.val)) (kvs.map (·.2))) : RP P w h (.ref a) (.dict kvs) := by
  obtain ⟨as, b1, q1, m1, k1⟩ := rk
  obtain ⟨cs, b2, q2, m2, k2⟩ := rv
  have r : Reads h (.ref a) (.dict kvs) (a :: as ++ cs) := Reads.dict h1 h2 h3 q1 q2
  have lt : PyData.depthKv kvs < (PyData.dict kvs).depth := by show _ < PyData.depthKv kvs + 1; omega
  have m := (m1.mono (PyData.depthAll_keys_le kvs)).append (m2.mono (PyData.depthAll_vals_le kvs))
  have hna := deeper r lt m
  refine ⟨_, a :: (b1 ++ b2), r, ReadAtMost.cons r (Nat.le_refl _) (m.mono (Nat.le_of_lt lt)), ?_⟩
  show ReprK P w (a :: (b1 ++ b2)) h (PyData.depthKv kvs + 1) (.ref a) (dictText (PyData.shownKv kvs))
  rw [PyData.shownKv_eq]
  exact ReprK.dict h1 h2 h3 hn hna (ReprEntriesK.of_two es.toList _ _ (k1.more_le (fun b z => List.mem_append_left _ z) (PyData.depthAll_keys_le kvs)) (k2.more_le (fun b z => List.mem_append_right _ z) (PyData.depthAll_vals_le kvs)))
/-- texts of texts are small -/
def Fits (d : PyData) : Prop := d.showable = true ∧ d.shown.length ≤ sizeLine
def FitsAll (ds : List PyData) : Prop := PyData.showableAll ds = true ∧ ∀ t ∈ PyData.shownAll ds, t.length ≤ sizeLine
theorem Fits.list {ds : List PyData} (h : Fits (.list ds)) : FitsAll ds := ⟨h.1, fun t ht => Nat.le_trans (listText_mem_le ht) h.2⟩
theorem Fits.tuple {ds : List PyData} (h : Fits (.tuple ds)) : FitsAll ds := ⟨h.1, fun t ht => Nat.le_trans (tupleText_mem_le ht) h.2⟩
theorem FitsAll.head {d : PyData} {ds : List PyData} (h : FitsAll (d :: ds)) : Fits d := ⟨(Bool.and_eq_true_iff.mp h.1).1, h.2 _ (List.mem_cons_self ..)⟩
theorem FitsAll.tail {d : PyData} {ds : List PyData} (h : FitsAll (d :: ds)) : FitsAll ds := ⟨(Bool.and_eq_true_iff.mp h.1).2, fun t ht => h.2 t (List.mem_cons_of_mem _ ht)⟩
theorem Fits.dict {kvs : List (PyData × PyData)} (h : Fits (.dict kvs)) : FitsAll (kvs.map (·.1)) ∧ FitsAll (kvs.map (·.2)) := by
  obtain ⟨a, b⟩ := PyData.showableKv_split kvs h.1
  refine ⟨⟨a, fun t ht => ?_⟩, b, fun t ht => ?_⟩
  · obtain ⟨p, hp, hl⟩ := PyData.shownKv_key_le kvs t ht
    exact Nat.le_trans hl (Nat.le_trans (dictText_mem_le hp) h.2)
  · obtain ⟨p, hp, hl⟩ := PyData.shownKv_val_le kvs t ht
    exact Nat.le_trans hl (Nat.le_trans (dictText_mem_le hp) h.2)
theorem rpa_keys {P : Program} {w : World} {h : Heap} : ∀ {ks : List Value} {ds : List PyData}, ReadsAll h ks ds [] → FitsAll ds → RPA P w h ks ds := fun {ks ds} r f => by
  obtain ⟨bs, h1, h2⟩ := ReprAllK.of_readsAll (prog := P) (w := w) r f.1 (fun _ z => nomatch z) f.2
  exact ⟨[], bs, r, h1, h2⟩
mutual
theorem Dq.rp (I : Inv X pins σ H s) : ∀ (d : PyData) (v : V) (u : Value), Dq X.K H v d → RelV v u → Fits d → RP X.prog X.w s.heap u d
  | .none, _, _, h, r, f => by
    cases h
    cases r
    exact rp_flat .none f.1 f.2
  | .bool b, _, _, h, r, f => by
    cases h
    cases r
    exact rp_flat (.bool b) f.1 f.2
  | .int i, _, _, h, r, f => by
    cases h
    obtain ⟨t, rfl⟩ := r
    exact rp_flat (.int i t) f.1 f.2
  | .str x, _, _, h, r, f => by
    cases h
    obtain ⟨t, rfl⟩ := r
    exact rp_flat (.str x t) f.1 f.2
  | .list ds, _, _, h, r, f => by
    cases h with
    | lst hs ha =>
      cases r
      obtain ⟨its, rv, ⟨o, n, ho, hc, _, hd⟩, _⟩ := I.list hs
      exact rp_list ho hc hd (by simpa using Dq.rpa I ds _ its ha rv f.list)
  | .tuple ds, _, _, h, r, f => by
    cases h with
    | tup hs ha =>
      cases r
      obtain ⟨its, rv, ⟨o, ho, hc, n, hd⟩, _⟩ := I.tuple hs
      exact rp_tuple ho hc hd (by simpa using Dq.rpa I ds _ its ha rv f.tuple)
  | .dict ds, _, _, h, r, f => by
    cases h with
    | dct he ha =>
      cases r
      obtain ⟨_, hns, vs, kv, o, es, ep, ho, hx, hd, hk, hp, _⟩ := dk_of I.hok he
      obtain ⟨ek, rv⟩ := Dq.rpv I ds _ vs ha kv f.dict.2
      have r1 := keys_read (h := s.heap) hp
      rw [ek] at r1
      exact rp_dict ho hx.1 hd hns (rpa_keys r1 f.dict.1) (by rw [vals_are hp]; exact rv)
theorem Dq.rpa (I : Inv X pins σ H s) : ∀ (ds : List PyData) (vs : List V) (us : List Value), DqAll X.K H vs ds → Vals vs us → FitsAll ds → RPA X.prog X.w s.heap us ds
  | [], _, _, h, r, f => by
    cases h
    cases r
    exact rpa_nil
  | d :: ds, _, _, h, r, f => by
    cases h with
    | cons h1 h2 =>
      cases r with
      | cons r1 r2 => exact rpa_cons (Dq.rp I d _ _ h1 r1 f.head) (Dq.rpa I ds _ _ h2 r2 f.tail)
theorem Dq.rpv (I : Inv X pins σ H s) : ∀ (ds : List (PyData × PyData)) (kvs : List (Key × V)) (vs : List (Key × Value)), DqKv X.K H kvs ds → KV kvs vs → FitsAll (ds.map (·.2)) → (vs.map fun kv => keyPy kv.1) = ds.map (·.1) ∧ RPA X.prog X.w s.heap (vs.map (·.2)) (ds.map (·.2))
  | [], _, _, h, r, f => by
    cases h
    cases r
    exact ⟨rfl, rpa_nil⟩
  | d :: ds, _, _, h, r, f => by
    cases h with
    | cons h1 h2 =>
      cases r with
      | cons r1 r2 =>
        obtain ⟨e2, q2⟩ := Dq.rpv I ds _ _ h2 r2 f.tail
        refine ⟨?_, rpa_cons (Dq.rp I _ _ _ h1 r1.2 f.head) q2⟩
        rw [List.map_cons, List.map_cons, e2, ← r1.1]
end
end
/-- the repr of an object, by its own rule -/
theorem call_rp {P : Program} {w : World} {A : Around} {E : Value → Shared → Prop} {s : Shared} {a : Addr} {d : PyData} {T idr : String} {Q : Value → Shared → Prop} (S : ShowsBy P w s.heap a d T idr) (hg : A.guards = some []) (hu : A.units + (d.depth + 1) < cLine)
    (hQ : ∀ h' u tk, (∀ b o, s.heap.get? b = some o → h'.get? b = some o) → Q (.str d.shown u) { s with heap := h', toks := tk }) : wpAny (model P w) A (call (.builtin "repr") [.ref a]) Q E s :=
  call_repr_slot (by omega) (S.typeIs s fun _ _ e => e) S.slotRepr (S.call A.in1 E s _ hg (show A.units + 1 + d.depth < cLine by omega) (fun _ _ e => e) fun h' u tk hk => ⟨_, _, rfl, hQ h' u tk hk⟩)
theorem shows_list {P : Program} {w : World} {h : Heap} {a : Addr} {o : Obj} {vs : Array Value} {n : Nat} {ds : List PyData} (h1 : h.get? a = some o) (h2 : o.cls = .type "list") (h3 : o.data = .seq vs n) (rs : RPA P w h vs.toList ds) (f : Fits (.list ds)) : ShowsBy P w h a (.list ds) "list" "list.__repr__" := by
  obtain ⟨as, bs, q, m, k⟩ := rs
  have lt : PyData.depthAll ds < (PyData.list ds).depth := by show _ < PyData.depthAll ds + 1; omega
  have hna := deeper (Reads.list h1 h2 h3 q) lt m
  refine ⟨F.slot_list_repr.toG, F.slot_list_str, F.slot_list_format, fun s hk => ⟨o, hk _ _ h1, h2⟩, fun A E s Q hg hu hk hQ => ?_⟩
  have hu' : A.units + (PyData.depthAll ds + 1) < cLine := hu
  obtain ⟨l⟩ := vs
  cases l with
  | nil =>
    cases (show ReadsAll h [] ds as from q)
    refine call_list_repr_empty ⟨o, hk _ _ h1, h2⟩ (hk _ _ h1) h3 ?_
    have := hQ s.heap
    rw [show (PyData.list []).shown = "[]" from listText_nil] at this
    exact this _ _ fun _ _ e => e
  | cons x l => exact call_list_reprK h1 h2 h3 hna (by simpa using k.length_eq) (fun i y e => k.item i y (by simpa using e)) hg (fun b _ => Clear.nil b) hu' hk hQ f.2
theorem shows_tuple {P : Program} {w : World} {h : Heap} {a : Addr} {o : Obj} {vs : Array Value} {n : Nat} {ds : List PyData} (h1 : h.get? a = some o) (h2 : o.cls = .type "tuple") (h3 : o.data = .seq vs n) (rs : RPA P w h vs.toList ds) (f : Fits (.tuple ds)) : ShowsBy P w h a (.tuple ds) "tuple" "tuple.__repr__" := by
  obtain ⟨as, bs, q, m, k⟩ := rs
  have lt : PyData.depthAll ds < (PyData.tuple ds).depth := by show _ < PyData.depthAll ds + 1; omega
  have hna := deeper (Reads.tuple h1 h2 h3 q) lt m
  exact ⟨F.slot_tuple_repr, F.slot_tuple_str, F.slot_tuple_format, fun s hk => ⟨o, hk _ _ h1, h2⟩, fun A E s Q hg hu hk hQ => call_tuple_reprK h1 h2 h3 hna k hg (fun b _ => Clear.nil b) (show A.units + (PyData.depthAll ds + 1) < cLine from hu) hk hQ f.2⟩
theorem shows_dict {P : Program} {w : World} {h : Heap} {a : Addr} {o : Obj} {es : Array DictEntry} {n : Nat} {kvs : List (PyData × PyData)} (h1 : h.get? a = some o) (h2 : o.cls = .type "dict") (h3 : o.data = .dict es n) (hn : (a == sysModules) = false)
    (rk : RPA P w h (es.toList.map (·.key)) (kvs.map (·.1))) (rv : RPA P w h (es.toList.map (·.val)) (kvs.map (·.2))) (f : Fits (.dict kvs)) : ShowsBy P w h a (.dict kvs) "dict" "dict.__repr__" := by
  obtain ⟨as, b1, q1, m1, k1⟩ := rk
  obtain ⟨cs, b2, q2, m2, k2⟩ := rv
  have lt : PyData.depthKv kvs < (PyData.dict kvs).depth := by show _ < PyData.depthKv kvs + 1; omega
  have hna := deeper (Reads.dict h1 h2 h3 q1 q2) lt ((m1.mono (PyData.depthAll_keys_le kvs)).append (m2.mono (PyData.depthAll_vals_le kvs)))
  refine ⟨F.slot_dict_repr, F.slot_dict_str, F.slot_dict_format, fun s hk => ⟨o, hk _ _ h1, h2⟩, fun A E s Q hg hu hk hQ => ?_⟩
  have hQ' : ∀ h' u tk, (∀ b o, s.heap.get? b = some o → h'.get? b = some o) → Q (.str (dictText (PyData.shownKv kvs)) u) { s with heap := h', toks := tk } := hQ
  have fz : (dictText (PyData.shownKv kvs)).length ≤ sizeLine := f.2
  rw [PyData.shownKv_eq] at hQ' fz
  exact call_dict_reprK h1 h2 h3 hn hna (ReprEntriesK.of_two es.toList _ _ (k1.more_le (fun b z => List.mem_append_left _ z) (PyData.depthAll_keys_le kvs)) (k2.more_le (fun b z => List.mem_append_right _ z) (PyData.depthAll_vals_le kvs))) hg (fun b _ => Clear.nil b) (show A.units + (PyData.depthKv kvs + 1) < cLine from hu) hk hQ' fz
section
variable {X : Cx} {pins : List (Addr × Obj)} {σ : L2.St} {H : Hp} {s : Shared}
theorem Dq.shows (I : Inv X pins σ H s) {d : PyData} {a : Addr} (h : Dq X.K H (.ref a) d) (f : Fits d) : ∃ T idr, ShowsBy X.prog X.w s.heap a d T idr := by
  cases h with
  | lst hs ha =>
    obtain ⟨its, rv, ⟨o, n, ho, hc, _, hd⟩, _⟩ := I.list hs
    exact ⟨_, _, shows_list ho hc hd (by simpa using Dq.rpa I _ _ its ha rv f.list) f⟩
  | tup hs ha =>
    obtain ⟨its, rv, ⟨o, ho, hc, n, hd⟩, _⟩ := I.tuple hs
    exact ⟨_, _, shows_tuple ho hc hd (by simpa using Dq.rpa I _ _ its ha rv f.tuple) f⟩
  | dct he ha =>
    obtain ⟨_, hns, vs, kv, o, es, ep, ho, hx, hd, hk, hp, _⟩ := dk_of I.hok he
    obtain ⟨ek, rv⟩ := Dq.rpv I _ _ vs ha kv f.dict.2
    have r1 := keys_read (h := s.heap) hp
    rw [ek] at r1
    exact ⟨_, _, shows_dict ho hx.1 hd hns (rpa_keys r1 f.dict.1) (by rw [vals_are hp]; exact rv) f⟩
end
mutual
def D.pyO : D → PyData
  | .non => .none
  | .bl b => .bool b
  | .int i => .int i
  | .str x => .str (S x)
  | .tup xs => .tuple (D.pysO xs)
  | .lst xs => .list (D.pysO xs)
  | .dct kvs => .dict (D.kvsO kvs)
  | _ => .none
def D.pysO : List D → List PyData
  | [] => []
  | x :: xs => x.pyO :: D.pysO xs
def D.kvsO : List (Key × D) → List (PyData × PyData)
  | [] => []
  | (k, v) :: r => (keyPy k, v.pyO) :: D.kvsO r
end
mutual
/-- plain data, dicts with them -/
def D.plain : D → Bool
  | .non => true
  | .bl _ => true
  | .int _ => true
  | .str _ => true
  | .tup xs => D.plains xs
  | .lst xs => D.plains xs
  | .dct kvs => D.plainKv kvs
  | _ => false
def D.plains : List D → Bool
  | [] => true
  | x :: xs => x.plain && D.plains xs
def D.plainKv : List (Key × D) → Bool
  | [] => true
  | (_, v) :: r => v.plain && D.plainKv r
end
section
variable {K : PySem.W.Frag} {mg : Str → Option Value} {F H : Hp} {μ : Sto}
mutual
theorem Dt.dq (hF : ∀ a o, F a = some o → H a = some o) : ∀ {v : V} {d : D}, Dt K mg F v d → d.plain = true → Dq K H v d.pyO
  | _, _, .non, _ => .non
  | _, _, .bl b, _ => .bl b
  | _, _, .int i, _ => .int i
  | _, _, .str x, _ => .str (S x)
  | _, _, .tup h r, q => .tup (SqT.mono' hF h.sq) (Dts.dq hF r q)
  | _, _, .lst h r, q => .lst (.inl (.inl (hF _ _ h))) (Dts.dq hF r q)
  | _, _, .dct h r, q => .dct (hF _ _ h) (Dks.dq hF r q)
  | _, _, .scr _, q => nomatch q
  | _, _, .ref _, q => nomatch q
  | _, _, .ty _, q => nomatch q
  | _, _, .gl _, q => nomatch q
  | _, _, .pr _ _ _, q => nomatch q
  | _, _, .obj _ _ _ _, q => nomatch q
  | _, _, .exn0 _ _ _ _, q => nomatch q
  | _, _, .exn1 _ _ _ _ _ _ _, q => nomatch q
theorem Dts.dq (hF : ∀ a o, F a = some o → H a = some o) : ∀ {vs : List V} {ds : List D}, Dts K mg F vs ds → D.plains ds = true → DqAll K H vs (D.pysO ds)
  | _, _, .nil, _ => .nil
  | _, _, .cons h r, q => .cons (Dt.dq hF h (Bool.and_eq_true_iff.mp q).1) (Dts.dq hF r (Bool.and_eq_true_iff.mp q).2)
theorem Dks.dq (hF : ∀ a o, F a = some o → H a = some o) : ∀ {vs : List (Key × V)} {ds : List (Key × D)}, Dks K mg F vs ds → D.plainKv ds = true → DqKv K H vs (D.kvsO ds)
  | _, _, .nil, _ => .nil
  | _, _, .cons h r, q => .cons (Dt.dq hF h (Bool.and_eq_true_iff.mp q).1) (Dks.dq hF r (Bool.and_eq_true_iff.mp q).2)
end
theorem Wk.dq (o : Ok K mg F μ H) {v : V} {d : D} (h : Wk K mg F μ H v d) (q : d.plain = true) : Dq K H v d.pyO := by
  rcases h with h | ⟨a, vs, xs, rfl, rfl, f, m, hh, r⟩
  · exact Dt.dq o.sub h q
  · exact .lst (.inl (.inl hh)) (Dts.dq o.sub r q)
end
/-- the text of repr -/
def D.repO (d : D) : List Nat := d.pyO.shown.cps.toList
def repOkB (d : D) : Bool := d.plain && d.pyO.showable && decide (d.pyO.depth ≤ 50) && decide (d.repO.length ≤ SZ)
def repOkO (d : D) : Prop := repOkB d = true
def rdReprO : RDn
  | [d], μ, Q => repOkO d ∧ Q (.str d.repO) μ
  | _, _, _ => False
@[simp] theorem rdReprO_1 {d : D} {μ : Sto} {Q : DK} : rdReprO [d] μ Q = (repOkO d ∧ Q (.str d.repO) μ) := rfl
def rReprO (K : PySem.W.Frag) : List V → Hp → VK → Prop := fun xs H Q => ∃ x d, xs = [x] ∧ Dq K H x d ∧ d.showable = true ∧ d.depth ≤ 50 ∧ d.shown.length ≤ sizeLine ∧ Q (.str d.shown) H
theorem call_reprO {X : Cx} (quiet : Quiet X.A) (hu : X.A.units + 64 < cLine) : CallR X (.builtin "repr") (rReprO X.K) := by
  intro pins s σ H xs us Q I r h
  obtain ⟨x, d, rfl, hd, hs, hdep, hsz, q⟩ := h
  obtain ⟨u, rfl, ru⟩ := Vals.one r
  have done : ∀ (tk : Nat) (t : Tok), EP X pins σ Q (.str d.shown t) { s with toks := tk } := fun tk t => ⟨.str d.shown, H, I.tok _, ⟨_, rfl⟩, q⟩
  have big : ∀ {a : Addr}, x = .ref a → u = .ref a → wpAny (model X.prog X.w) X.A (call (.builtin "repr") [u]) (EP X pins σ Q) X.xe s := fun {a} e1 e2 => by
    subst e1 e2
    obtain ⟨T, idr, S⟩ := Dq.shows I hd ⟨hs, hsz⟩
    exact call_rp S quiet (by omega) fun h' t tk keep => ⟨.str _, H, I.kept keep, ⟨_, rfl⟩, q⟩
  cases hd with
  | non => cases ru; exact PySem.P.repr_of_none (done _ _)
  | bl b => cases ru; exact PySem.P.repr_of_bool (done _ _)
  | int i => obtain ⟨t, rfl⟩ := ru; exact PySem.P.repr_of_int (of_decide_eq_true hs) (done _ _)
  | str z => obtain ⟨t, rfl⟩ := ru; exact PySem.P.repr_of_str (done _ _) hsz
  | lst h1 h2 => exact big rfl ru
  | tup h1 h2 => exact big rfl ru
  | dct h1 h2 => exact big rfl ru
theorem cs_reprO {K : PySem.W.Frag} {mg : Str → Option Value} : CallS K mg (rReprO K) rdReprO := by
  intro F μ H vs ds Qd Q o w h k
  unfold rdReprO at h
  split at h
  · obtain ⟨v, rfl, wk⟩ := w.one
    obtain ⟨h, q⟩ := h
    unfold repOkO repOkB at h
    simp only [Bool.and_eq_true, decide_eq_true_eq] at h
    obtain ⟨⟨⟨h1, h2⟩, h3⟩, h4⟩ := h
    refine ⟨v, _, rfl, wk.dq o h1, h2, h3, by rw [sizeLine_eq, ← S_of (D.pyO _).shown, S_len]; exact h4, ?_⟩
    have := fin0 o k (.str (D.repO _)) q
    unfold D.repO at this
    rw [S_of] at this
    exact this
  · exact h.elim
section
variable {X : Cx} {pos : Pos}
theorem de_dict0 : DE X (.Dict [] [] pos) (dC (.dct [])) := pe_dnewK.weaken fun σ H Q q => by
  obtain ⟨F, ρ, μ, Qd, R, hd, k⟩ := q
  intro p hp
  obtain ⟨o2, e2⟩ := R.ok.lay hp (.dK [])
  exact k _ _ μ _ _ e2 o2 (.dct upd_same .nil) hd
end
end DL

namespace DL
open PySem PySem.Spec PyProof.Rows L2
mutual
/-- like ic, with small integers -/
def D.sm : D → Prop
  | .non => True
  | .bl _ => True
  | .int i => i.natAbs < 2 ^ 60
  | .str s => ∀ c ∈ s, c < 1114112
  | .tup xs => D.sms xs
  | .lst xs => D.sms xs
  | .dct _ => False | .scr _ => False | .ref _ => False | .ty _ => False | .gl _ => False | .pr _ _ => False | .obj _ _ => False | .exn _ _ => False
def D.sms : List D → Prop
  | [] => True
  | x :: xs => x.sm ∧ D.sms xs
end
mutual
def D.wS : D → Nat
  | .int _ => 60
  | .str s => s.length
  | .tup xs => D.wSs xs
  | .lst xs => D.wSs xs
  | .non => 0 | .bl _ => 0 | .dct _ => 0 | .scr _ => 0 | .ref _ => 0 | .ty _ => 0 | .gl _ => 0 | .pr _ _ => 0 | .obj _ _ => 0 | .exn _ _ => 0
def D.wSs : List D → Nat
  | [] => 0
  | x :: xs => x.wS + 1 + D.wSs xs
end
mutual
theorem D.sm_all : ∀ d : D, d.sm → d.ic ∧ d.py.intsShort 62 = true ∧ d.py.weight ≤ d.wS
  | .non, _ => ⟨trivial, rfl, Nat.le_refl _⟩
  | .bl _, _ => ⟨trivial, rfl, Nat.le_refl _⟩
  | .int i, h => by
    have hl := log_lt (k := 60) (by decide) h
    refine ⟨Nat.lt_trans h (by decide), ?_, ?_⟩
    · show decide _ = true
      simp only [decide_eq_true_eq]
      have := int_text_length_le (a := i) (k := 60) (by decide) hl
      have e : (PyData.shown (.int i)).length = (toString i).length := by
        show (Str.ofString (toString i)).length = _
        rw [PySem.ofString_length]
      rw [e]
      omega
    · show (if i == 0 then 0 else _) ≤ 60
      split <;> omega
  | .str s, h => by
    refine ⟨h, rfl, ?_⟩
    show s.toArray.size ≤ s.length
    simp
  | .tup xs, h => D.sms_all xs h
  | .lst xs, h => D.sms_all xs h
  | .dct _, h => h.elim
  | .scr _, h => h.elim
  | .ref _, h => h.elim
  | .ty _, h => h.elim
  | .gl _, h => h.elim
  | .pr _ _, h => h.elim
  | .obj _ _, h => h.elim
  | .exn _ _, h => h.elim
theorem D.sms_all : ∀ ds : List D, D.sms ds → D.ics ds ∧ PyData.intsShortAll 62 (D.pys ds) = true ∧ PyData.weightAll (D.pys ds) ≤ D.wSs ds
  | [], _ => ⟨trivial, rfl, Nat.le_refl _⟩
  | x :: xs, h => by
    obtain ⟨a, c, e⟩ := D.sm_all x h.1
    obtain ⟨a', c', e'⟩ := D.sms_all xs h.2
    refine ⟨⟨a, a'⟩, ?_, ?_⟩
    · show (x.py.intsShort 62 && PyData.intsShortAll 62 (D.pys xs)) = true
      rw [c, c']; rfl
    · show x.py.weight + 1 + PyData.weightAll (D.pys xs) ≤ x.wS + 1 + D.wSs xs
      omega
end
theorem repOkS {d : D} (h : d.sm) (hw : d.wS ≤ 250000) (hd : d.dp ≤ 50) : repOk d := by
  obtain ⟨i, c2, e2⟩ := D.sm_all d h
  obtain ⟨a, b, c, e, f⟩ := D.ic_all d i
  refine ⟨a, by omega, ?_⟩
  have h2 := PyData.shown_le 62 (by decide) d.py (PyData.leavesShort_of_canLay0 62 d.py b c2)
  show d.py.shown.cps.toList.length ≤ SZ
  have e3 : d.py.shown.cps.toList.length = d.py.shown.length := by simp [Str.length]
  rw [e3]
  simp only [SZ]
  omega
/-- data that may be written out, of weight at most w and depth at most k -/
structure Shw (w k : Nat) (d : D) : Prop where
  sm : d.sm
  wt : d.wS ≤ w
  dp : d.dp ≤ k
theorem Shw.rep {w k : Nat} {d : D} (h : Shw w k d) (hw : w ≤ 250000) (hk : k ≤ 50) : repOk d := repOkS h.sm (Nat.le_trans h.wt hw) (Nat.le_trans h.dp hk)
theorem Shw.mono {w k w' k' : Nat} {d : D} (h : Shw w k d) (hw : w ≤ w') (hk : k ≤ k') : Shw w' k' d := ⟨h.sm, Nat.le_trans h.wt hw, Nat.le_trans h.dp hk⟩
end DL

namespace DL
open PySem PySem.Spec PyProof.Rows L2
structure Shx (t k : Nat) (d : D) : Prop where
  pl : d.plain = true
  sh : d.pyO.showable = true
  dp : d.pyO.depth ≤ k
  ln : d.pyO.shown.length ≤ t
def shxB (t k : Nat) (d : D) : Bool := d.plain && d.pyO.showable && decide (d.pyO.depth ≤ k) && decide (d.pyO.shown.length ≤ t)
theorem shx_dec {t k : Nat} {d : D} (h : shxB t k d = true) : Shx t k d := by
  unfold shxB at h
  simp only [Bool.and_eq_true, decide_eq_true_eq] at h
  exact ⟨h.1.1.1, h.1.1.2, h.1.2, h.2⟩
theorem Shx.mono {t k t' k' : Nat} {d : D} (h : Shx t k d) (ht : t ≤ t') (hk : k ≤ k') : Shx t' k' d := ⟨h.pl, h.sh, Nat.le_trans h.dp hk, Nat.le_trans h.ln ht⟩
theorem Shx.rep {t k : Nat} {d : D} (h : Shx t k d) (ht : t ≤ 16777216) (hk : k ≤ 50) : repOkO d := by
  obtain ⟨a, b, c, e⟩ := h
  unfold repOkO repOkB D.repO
  have e3 : d.pyO.shown.cps.toList.length = d.pyO.shown.length := by simp [Str.length]
  simp only [Bool.and_eq_true, decide_eq_true_eq]
  rw [e3]
  exact ⟨⟨⟨a, b⟩, by omega⟩, by show _ ≤ 16777216; omega⟩
theorem shx_all {t k : Nat} : ∀ xs : List D, (∀ x ∈ xs, Shx t k x) → D.plains xs = true ∧ PyData.showableAll (D.pysO xs) = true ∧ PyData.depthAll (D.pysO xs) ≤ k ∧ ((PyData.shownAll (D.pysO xs)).map (·.length)).sum ≤ xs.length * t ∧ (PyData.shownAll (D.pysO xs)).length = xs.length
  | [], _ => ⟨rfl, rfl, Nat.zero_le _, Nat.zero_le _, rfl⟩
  | x :: xs, h => by
    obtain ⟨a, b, c, e⟩ := h x (by simp)
    obtain ⟨a', b', c', e', f'⟩ := shx_all xs fun y hy => h y (by simp [hy])
    refine ⟨?_, ?_, Nat.max_le.mpr ⟨c, c'⟩, ?_, congrArg (· + 1) f'⟩
    · show (x.plain && D.plains xs) = true
      rw [a, a']; rfl
    · show (x.pyO.showable && PyData.showableAll (D.pysO xs)) = true
      rw [b, b']; rfl
    · show x.pyO.shown.length + ((PyData.shownAll (D.pysO xs)).map (·.length)).sum ≤ _
      rw [List.length_cons, Nat.add_mul]
      omega
theorem shx_tup {t k n : Nat} {xs : List D} (h : ∀ x ∈ xs, Shx t k x) (hl : xs.length ≤ n) : Shx (n * (t + 2) + 3) (k + 1) (.tup xs) := by
  obtain ⟨a, b, c, e, f⟩ := shx_all xs h
  refine ⟨a, b, Nat.succ_le_succ c, ?_⟩
  have h1 := tupleText_len_le (PyData.shownAll (D.pysO xs))
  have h2 : xs.length * (t + 2) ≤ n * (t + 2) := Nat.mul_le_mul_right _ hl
  rw [Nat.mul_add] at h2
  show (tupleText (PyData.shownAll (D.pysO xs))).length ≤ _
  omega
theorem shx_lst {t k n : Nat} {xs : List D} (h : ∀ x ∈ xs, Shx t k x) (hl : xs.length ≤ n) : Shx (n * (t + 2) + 3) (k + 1) (.lst xs) := by
  obtain ⟨a, b, c, e, f⟩ := shx_all xs h
  refine ⟨a, b, Nat.succ_le_succ c, ?_⟩
  have h1 := listText_len_le (PyData.shownAll (D.pysO xs))
  have h2 : xs.length * (t + 2) ≤ n * (t + 2) := Nat.mul_le_mul_right _ hl
  rw [Nat.mul_add] at h2
  show (listText (PyData.shownAll (D.pysO xs))).length ≤ _
  omega
theorem shx_bl (b : Bool) : Shx 5 0 (.bl b) := shx_dec (by cases b <;> decide +kernel)
theorem shx_str {s : List Nat} {n : Nat} (h : ∀ c ∈ s, c < 1114112) (hl : s.length ≤ n) : Shx (10 * n + 2) 0 (.str s) := by
  refine ⟨rfl, rfl, Nat.le_refl _, ?_⟩
  have := StrLaws.reprText_len (S s) (fun c hc => Nat.lt_trans (h c (by simpa using hc)) (by decide))
  have e : (S s).length = s.length := by simp [Str.length]
  show (reprText (S s)).length ≤ _
  omega
end DL

namespace DL
open PySem PySem.Spec PyProof.Rows L2
section
variable {prog : Program} {w : World} {A : Around} {E : Value → Shared → Prop} {s : Shared}
end
section
variable {X : Cx} {e : Expr} {d : TED} {p pos : Pos}
@[simp] def dRevT (d : TED) : TED := fun ρ μ Q => d ρ μ fun x μ1 => match x with
  | .tup xs => Q (.tup xs.reverse) μ1
  | _ => False
def rdListS : RDn
  | [.str s], μ, Q => s.length ≤ SZ ∧ Q (.lst (strD s)) μ
  | _, _, _ => False
@[simp] theorem rdListS_1 {s : List Nat} {μ : Sto} {Q : DK} : rdListS [.str s] μ Q = (s.length ≤ SZ ∧ Q (.lst (strD s)) μ) := rfl
theorem dts_rng {K : PySem.W.Frag} {mg : Str → Option Value} {F : Hp} (i : Int) : ∀ n : Nat, Dts K mg F ((List.range n).map fun j => V.int (i + (j : Nat))) (rngD i n) := fun n => by
  unfold rngD
  induction n with
  | zero => exact .nil
  | succ n ih =>
    rw [List.range_succ, List.map_append, List.map_append]
    exact ih.append (.cons (.int _) .nil)
def lrOk (i j : Int) : Prop := 0 ≤ i ∧ i ≤ 16777216 ∧ 0 ≤ j ∧ j ≤ 16777216
@[simp] def dLRngF (d : TED) : TFD := fun ρ μ Q => d ρ μ fun x μ1 => match x with
  | .int j => lrOk 0 j ∧ Q (rngD 0 j.toNat) μ1
  | _ => False
theorem df_lrng {p2 q2 : Pos} (hc : X.calm = true) (hg : Gl X "list") (hm : X.mg "list" = none) (hg2 : Gl X "range") (hm2 : X.mg "range" = none) (he : DW X e d)
    (na : starEach [e] X.env = (false, eval e X.env) :: starEach [] X.env := by rfl) (nb : starEach [.Call (.Name "range" p2) [e] [] q2] X.env = (false, eval (.Call (.Name "range" p2) [e] [] q2) X.env) :: starEach [] X.env := by rfl) :
    DF X (.Call (.Name "list" p) [.Call (.Name "range" p2) [e] [] q2] [] pos) (dLRngF d) := (pe_listRg hc hg hm (prg_1 hg2 hm2 he na) nb).weaken fun σ H Q q => by
  obtain ⟨F, ρ, μ, Qd, R, hd, k⟩ := q
  refine ⟨F, ρ, μ, _, R, hd, fun v F1 μ1 H1 dv e1 o1 w1 q1 => ?_⟩
  cases dv <;> first | exact q1.elim | skip
  rename_i j
  obtain ⟨⟨_, _, h3, h4⟩, q1⟩ := q1
  refine ⟨j, w1.int, RgOk.of_le (by omega) (by omega) (by omega) (by omega), fun p hp => ?_⟩
  have r := dts_rng (K := X.K) (mg := X.mg) (F := F1) 0 (j - 0).toNat
  rw [show (j - 0).toNat = j.toNat by omega] at r
  obtain ⟨g1, g2⟩ := o1.layN hp (.lst (rgV 0 j))
  obtain ⟨f1, f2⟩ := o1.fresh hp
  refine k _ _ _ _ _ _ (e1.trans g2) g1 (e1.live p hp) f1 f2 upd_same ?_ q1
  unfold rgV
  rw [show (j - 0).toNat = j.toNat by omega]
  exact r
@[simp] def dTRng (d : TED) : TED := fun ρ μ Q => d ρ μ fun x μ1 => match x with
  | .int j => lrOk 0 j ∧ Q (.tup (rngD 0 j.toNat)) μ1
  | _ => False
end
end DL

namespace DL
open PySem PySem.Spec PyProof.Rows L2
section
variable {X : Cx} {a : Expr} {p p2 q pos : Pos} {d : TED}
@[simp] def dSortSetF (d : TED) : TFD := fun ρ μ Q => d ρ μ fun x μ1 => match x with
  | .tup xs => ∃ ns : List Int, xs = ns.map D.int ∧ ns.length < 60 ∧ ∀ out : List Int, out.Pairwise (· < ·) → (∀ k, k ∈ out ↔ k ∈ ns) → Q (out.map D.int) μ1
  | _ => False
@[simp] def dLenSet (d : TED) : TED := fun ρ μ Q => d ρ μ fun x μ1 => match x with
  | .tup xs => ∃ ns : List Int, xs = ns.map D.int ∧ ns.length < 60 ∧ ∀ out : List Int, out.Nodup → (∀ k, k ∈ out ↔ k ∈ ns) → Q (.int out.length) μ1
  | _ => False
end
section
variable {X : Cx}
def rdNilC (f : Bool → Bool) : RD2
  | .lst xs, .lst ys, μ, Q => ys = [] ∧ Q (.bl (f xs.isEmpty)) μ
  | _, _, _, _ => False
@[simp] theorem rdNilC_1 {f : Bool → Bool} {xs : List D} {μ : Sto} {Q : DK} : rdNilC f (.lst xs) (.lst []) μ Q = Q (.bl (f xs.isEmpty)) μ := by
  show (([] : List D) = [] ∧ _) = _
  simp
end
end DL

namespace DL
open PySem PySem.Spec PyProof.Rows L2
def keyD : D → Option Key
  | .int i => some (.inl i)
  | .str s => some (.inr (S s))
  | _ => none
@[simp] theorem keyD_int (i : Int) : keyD (.int i) = some (.inl i) := rfl
def valD (kvs : List (Key × D)) (k : Key) : Option D := (kvs.find? fun kv => decide (kv.1 = k)).map (·.2)
def putD (kvs : List (Key × D)) (k : Key) (d : D) : List (Key × D) := if kvs.any fun kv => decide (kv.1 = k) then kvs.map fun kv => if kv.1 = k then (kv.1, d) else kv else kvs ++ [(k, d)]
section
variable {K : PySem.W.Frag} {mg : Str → Option Value} {F H : Hp} {μ : Sto}
theorem Wk.key (o : Ok K mg F μ H) {v : V} {d : D} {k : Key} (h : Wk K mg F μ H v d) (e : keyD d = some k) : v = kV k := by
  cases d <;> first | cases e; done | skip
  · cases e; exact h.int
  · cases e; exact h.str
theorem Dks.val : ∀ {vs : List (Key × V)} {ds : List (Key × D)}, Dks K mg F vs ds → ∀ k, (∀ d, valD ds k = some d → ∃ v, valV vs k = some v ∧ Dt K mg F v d) ∧ (valV vs k).isSome = (valD ds k).isSome
  | _, _, .nil, k => ⟨fun d h => (by cases h), rfl⟩
  | _, _, .cons (k := j) (v := v) (d := d) h r, k => by
    have ih := Dks.val r k
    by_cases e : j = k
    · subst e
      have e1 : ∀ ds, valD ((j, d) :: ds) j = some d := fun ds => by simp [valD]
      have e2 : ∀ vs, valV ((j, v) :: vs) j = some v := fun vs => by simp [valV]
      rw [e1, e2]
      exact ⟨fun d' h' => by cases h'; exact ⟨v, rfl, h⟩, rfl⟩
    · have e1 : ∀ ds, valD ((j, d) :: ds) k = valD ds k := fun ds => by simp [valD, e]
      have e2 : ∀ vs, valV ((j, v) :: vs) k = valV vs k := fun vs => by simp [valV, e]
      rw [e1, e2]
      exact ih
theorem Dks.len : ∀ {vs : List (Key × V)} {ds : List (Key × D)}, Dks K mg F vs ds → vs.length = ds.length
  | _, _, .nil => rfl
  | _, _, .cons _ r => congrArg (· + 1) (Dks.len r)
theorem Dks.any : ∀ {vs : List (Key × V)} {ds : List (Key × D)}, Dks K mg F vs ds → ∀ k, (vs.any fun kv => decide (kv.1 = k)) = ds.any fun kv => decide (kv.1 = k)
  | _, _, .nil, _ => rfl
  | _, _, .cons _ r, k => by rw [List.any_cons, List.any_cons, Dks.any r k]
theorem Dks.rep {v : V} {d : D} (h : Dt K mg F v d) (k : Key) : ∀ {vs : List (Key × V)} {ds : List (Key × D)}, Dks K mg F vs ds → Dks K mg F (vs.map fun kv => if kv.1 = k then (kv.1, v) else kv) (ds.map fun kv => if kv.1 = k then (kv.1, d) else kv)
  | _, _, .nil => .nil
  | _, _, .cons (k := j) g r => by
    rw [List.map_cons, List.map_cons]
    by_cases e : j = k
    · simp only [if_pos e]
      exact .cons h (Dks.rep h k r)
    · simp only [if_neg e]
      exact .cons g (Dks.rep h k r)
theorem Dks.app : ∀ {vs ws : List (Key × V)} {ds es : List (Key × D)}, Dks K mg F vs ds → Dks K mg F ws es → Dks K mg F (vs ++ ws) (ds ++ es)
  | _, _, _, _, .nil, s => s
  | _, _, _, _, .cons h r, s => .cons h (Dks.app r s)
theorem Dks.put {v : V} {d : D} (h : Dt K mg F v d) (k : Key) {vs : List (Key × V)} {ds : List (Key × D)} (r : Dks K mg F vs ds) : Dks K mg F (putK vs k v) (putD ds k d) := by
  unfold putK putD
  rw [r.any k]
  split
  · exact r.rep h k
  · exact r.app (.cons h .nil)
end
section
variable {X : Cx} {B : Bs} {e o i : Expr} {d do' di : TED} {p pos : Pos}
/-- {} as a dict that changes -/
@[simp] def dNewD : TED := fun _ μ Q => ∀ p, μ p = none → Q (.ref p) (sset μ p (.dct []))
/-- d[y] -/
@[simp] def dGetD (o i : TED) : TED := fun ρ μ Q => o ρ μ fun x μ1 => i ρ μ1 fun y μ2 => ∃ a kvs k d, x = .ref a ∧ μ2 a = some (.dct kvs) ∧ keyD y = some k ∧ valD kvs k = some d ∧ Q d μ2
/-- y in d, y not in d -/
@[simp] def dInD (neg : Bool) (i o : TED) : TED := fun ρ μ Q => i ρ μ fun y μ1 => o ρ μ1 fun x μ2 => ∃ a kvs k, x = .ref a ∧ μ2 a = some (.dct kvs) ∧ keyD y = some k ∧ Q (.bl (if neg then !(valD kvs k).isSome else (valD kvs k).isSome)) μ2
/-- d[y] = v -/
@[simp] def dPutD (d o i : TED) : TSD := fun E ρ μ => d ρ μ fun v μ1 => o ρ μ1 fun x μ2 => i ρ μ2 fun y μ3 => ∃ a kvs k, x = .ref a ∧ μ3 a = some (.dct kvs) ∧ keyD y = some k ∧ kvs.length < SZ ∧ E.nx ρ (sset μ3 a (.dct (putD kvs k v)))
end
end DL

namespace DL
open PySem PySem.Spec PyProof.Rows L2
abbrev txtD (kvs : List (List Nat × List Nat)) : List (Key × D) := kvs.map fun p => (.inr (S p.1), D.str p.2)
section
variable {X : Cx} {e o i : Expr} {d do' di : TED} {p pos : Pos}
@[simp] def dDctS (kvs : List (List Nat × List Nat)) : TED := dC (.dct (txtD kvs))
/-- d[y] of a dict that does not change -/
@[simp] def dGetF (o i : TED) : TED := fun ρ μ Q => o ρ μ fun x μ1 => i ρ μ1 fun y μ2 => ∃ kvs k d, x = .dct kvs ∧ keyD y = some k ∧ valD kvs k = some d ∧ Q d μ2
end
end DL

namespace DL
open PySem PySem.Spec PyProof.Rows L2
section
variable {X : Cx}
def rdNeNilT : RD2
  | .tup xs, .tup ys, μ, Q => ys = [] ∧ Q (.bl (!xs.isEmpty)) μ
  | _, _, _, _ => False
@[simp] theorem rdNeNilT_1 {xs : List D} {μ : Sto} {Q : DK} : rdNeNilT (.tup xs) (.tup []) μ Q = Q (.bl (!xs.isEmpty)) μ := by
  show (([] : List D) = [] ∧ _) = _
  simp
end
section
variable {X : Cx}
def rdAddN : RD2
  | .bl k, .int i, μ, Q => Q (.int (b2i k + i)) μ
  | x, y, μ, Q => rdAdd x y μ Q
@[simp] theorem rdAddN_1 {k : Bool} {i : Int} {μ : Sto} {Q : DK} : rdAddN (.bl k) (.int i) μ Q = Q (.int (b2i k + i)) μ := rfl
@[simp] theorem rdAddN_2 {i j : Int} {μ : Sto} {Q : DK} : rdAddN (.int i) (.int j) μ Q = Q (.int (i + j)) μ := rfl
@[simp] theorem rdAddN_3 {s t : List D} {μ : Sto} {Q : DK} : rdAddN (.tup s) (.tup t) μ Q = (s.length + t.length ≤ SZ ∧ Q (.tup (s ++ t)) μ) := rfl
@[simp] theorem rdAddN_4 {s t : List D} {μ : Sto} {Q : DK} : rdAddN (.lst s) (.lst t) μ Q = (s.length + t.length ≤ SZ ∧ Q (.lst (s ++ t)) μ) := rfl
def rdSubN : RD2
  | .bl k, .int i, μ, Q => Q (.int (b2i k - i)) μ
  | .int i, .bl k, μ, Q => Q (.int (i - b2i k)) μ
  | .int i, .int j, μ, Q => Q (.int (i - j)) μ
  | _, _, _, _ => False
@[simp] theorem rdSubN_1 {k : Bool} {i : Int} {μ : Sto} {Q : DK} : rdSubN (.bl k) (.int i) μ Q = Q (.int (b2i k - i)) μ := rfl
@[simp] theorem rdSubN_2 {k : Bool} {i : Int} {μ : Sto} {Q : DK} : rdSubN (.int i) (.bl k) μ Q = Q (.int (i - b2i k)) μ := rfl
@[simp] theorem rdSubN_3 {i j : Int} {μ : Sto} {Q : DK} : rdSubN (.int i) (.int j) μ Q = Q (.int (i - j)) μ := rfl
end
section
variable {K : PySem.W.Frag} {mg : Str → Option Value}
end
/-- str() of an int or a bool -/
def truD (b : Bool) : List Nat := if b then [84, 114, 117, 101] else [70, 97, 108, 115, 101]
def rdStrZ : RDn
  | [.int i], μ, Q => i.natAbs.log2 < 1920 ∧ Q (.str (toString i : Str).cps.toList) μ
  | [.bl b], μ, Q => Q (.str (truD b)) μ
  | _, _, _ => False
@[simp] theorem rdStrZ_1 {i : Int} {μ : Sto} {Q : DK} : rdStrZ [.int i] μ Q = (i.natAbs.log2 < 1920 ∧ Q (.str (toString i : Str).cps.toList) μ) := rfl
@[simp] theorem rdStrZ_2 {b : Bool} {μ : Sto} {Q : DK} : rdStrZ [.bl b] μ Q = Q (.str (truD b)) μ := rfl
/-- the promise that asks what never is -/
def noSp : DSp := fun _ _ _ _ => False
theorem Cal.nothing {P : Program} {w : World} {K : PySem.W.Frag} {mg : Str → Option Value} {base : Heap} {CX : CXT} {k : Nat} {x : Str} {f : Addr} (hm : mg x = some (.ref f)) (hk : PySem.W.keepIn K (.ref f) = true) : Cal P w K mg base CX k x noSp :=
  ⟨f, fun _ _ _ _ _ _ _ _ _ _ _ _ ⟨_, _, _, _, _, _, _, h, _⟩ => h.elim, hm, hk⟩
end DL

namespace DL
open PySem PySem.Spec PyProof.Rows L2
open PySem.W (Tup Datum DatumOrd minOf minD dataLt alike AlikeAll)
def keysD : List D → Option (List Key)
  | [] => some []
  | d :: ds => (keyD d).bind fun k => (keysD ds).map (k :: ·)
@[simp] theorem keysD_nil : keysD [] = some [] := rfl
@[simp] theorem keysD_cons (d : D) (ds : List D) : keysD (d :: ds) = (keyD d).bind fun k => (keysD ds).map (k :: ·) := rfl
def valT (kvs : List (List Key × D)) (k : List Key) : Option D := (kvs.find? fun kv => decide (kv.1 = k)).map (·.2)
def putT (kvs : List (List Key × D)) (k : List Key) (d : D) : List (List Key × D) := if kvs.any fun kv => decide (kv.1 = k) then kvs.map fun kv => if kv.1 = k then (kv.1, d) else kv else kvs ++ [(k, d)]
section
variable {K : PySem.W.Frag} {mg : Str → Option Value} {F H : Hp} {μ : Sto}
def KvT (K : PySem.W.Frag) (mg : Str → Option Value) (F : Hp) (vs : List (List Key × V)) (ds : List (List Key × D)) : Prop := vs.map (·.1) = ds.map (·.1) ∧ Dts K mg F (vs.map (·.2)) (ds.map (·.2))
theorem KvT.cases' {v : List Key × V} {vs : List (List Key × V)} {d : List Key × D} {ds : List (List Key × D)} (h : KvT K mg F (v :: vs) (d :: ds)) : v.1 = d.1 ∧ Dt K mg F v.2 d.2 ∧ KvT K mg F vs ds := by
  obtain ⟨h1, h2⟩ := h
  rw [List.map_cons, List.map_cons] at h1 h2
  injection h1 with a b
  cases h2 with
  | cons c e => exact ⟨a, c, b, e⟩
theorem KvT.len {vs : List (List Key × V)} {ds : List (List Key × D)} (h : KvT K mg F vs ds) : vs.length = ds.length := by
  have := congrArg List.length h.1
  simpa using this
theorem KvT.val : ∀ {vs : List (List Key × V)} {ds : List (List Key × D)}, KvT K mg F vs ds → ∀ k d, valT ds k = some d → ∃ v, valV vs k = some v ∧ Dt K mg F v d
  | [], [], _, k, d, e => by cases e
  | [], _ :: _, h, _, _, _ => absurd h.len (by simp)
  | _ :: _, [], h, _, _, _ => absurd h.len (by simp)
  | (j, v) :: vs, (j', d0) :: ds, h, k, d, e => by
    obtain ⟨h1, h2, h3⟩ := h.cases'
    have h1 : j = j' := h1
    subst h1
    by_cases ej : j = k
    · subst ej
      have e1 : valT ((j, d0) :: ds) j = some d0 := by simp [valT]
      have e2 : valV ((j, v) :: vs) j = some v := by simp [valV]
      rw [e1] at e; cases e
      exact ⟨v, e2, h2⟩
    · have e1 : valT ((j, d0) :: ds) k = valT ds k := by simp [valT, ej]
      have e2 : valV ((j, v) :: vs) k = valV vs k := by simp [valV, ej]
      rw [e1] at e; rw [e2]
      exact KvT.val h3 k d e
theorem KvT.any : ∀ {vs : List (List Key × V)} {ds : List (List Key × D)}, KvT K mg F vs ds → ∀ k, (vs.any fun kv => decide (kv.1 = k)) = ds.any fun kv => decide (kv.1 = k)
  | [], [], _, k => rfl
  | [], _ :: _, h, _ => absurd h.len (by simp)
  | _ :: _, [], h, _ => absurd h.len (by simp)
  | (j, v) :: vs, (j', d0) :: ds, h, k => by
    obtain ⟨h1, h2, h3⟩ := h.cases'
    rw [List.any_cons, List.any_cons, KvT.any h3 k, h1]
theorem KvT.cons {k : List Key} {v : V} {d : D} {vs : List (List Key × V)} {ds : List (List Key × D)} (h : Dt K mg F v d) (r : KvT K mg F vs ds) : KvT K mg F ((k, v) :: vs) ((k, d) :: ds) :=
  ⟨by rw [List.map_cons, List.map_cons, r.1], .cons h r.2⟩
theorem KvT.rep {v : V} {d : D} (h : Dt K mg F v d) (k : List Key) : ∀ {vs : List (List Key × V)} {ds : List (List Key × D)}, KvT K mg F vs ds → KvT K mg F (vs.map fun kv => if kv.1 = k then (kv.1, v) else kv) (ds.map fun kv => if kv.1 = k then (kv.1, d) else kv)
  | [], [], r => r
  | [], _ :: _, h => absurd h.len (by simp)
  | _ :: _, [], h => absurd h.len (by simp)
  | (j, w) :: vs, (j', d0) :: ds, r => by
    obtain ⟨h1, h2, h3⟩ := r.cases'
    have h1 : j = j' := h1
    subst h1
    rw [List.map_cons, List.map_cons]
    by_cases e : j = k
    · simp only [if_pos e]
      exact .cons h (KvT.rep h k h3)
    · simp only [if_neg e]
      exact .cons h2 (KvT.rep h k h3)
theorem KvT.app : ∀ {vs ws : List (List Key × V)} {ds es : List (List Key × D)}, KvT K mg F vs ds → KvT K mg F ws es → KvT K mg F (vs ++ ws) (ds ++ es) := fun h g =>
  ⟨by rw [List.map_append, List.map_append, h.1, g.1], by rw [List.map_append, List.map_append]; exact h.2.append g.2⟩
theorem KvT.put {v : V} {d : D} (h : Dt K mg F v d) (k : List Key) {vs : List (List Key × V)} {ds : List (List Key × D)} (r : KvT K mg F vs ds) : KvT K mg F (putK vs k v) (putT ds k d) := by
  unfold putK putT
  rw [r.any k]
  split
  · exact r.rep h k
  · exact r.app (.cons h ⟨rfl, .nil⟩)
theorem KvT.mono {F' : Hp} (hF : ∀ a o, F a = some o → F' a = some o) {vs : List (List Key × V)} {ds : List (List Key × D)} (r : KvT K mg F vs ds) : KvT K mg F' vs ds := ⟨r.1, r.2.mono hF⟩
end
section
variable {X : Cx} {B : Bs} {e o : Expr} {d do' : TED} {p pos kpos : Pos} {es : List Expr} {t : TAD} {kx : Nat}
/-- {} whose keys will be tuples -/
@[simp] def dNewT : TED := fun _ μ Q => ∀ p, μ p = none → Q (.ref p) (sset μ p (.dtt []))
/-- d[(y, z)] -/
@[simp] def dGetT (o : TED) (t : TAD) : TED := fun ρ μ Q => o ρ μ fun x μ1 => t ρ μ1 fun ys μ2 => ∃ a kvs k d, x = .ref a ∧ μ2 a = some (.dtt kvs) ∧ keysD ys = some k ∧ ys.length ≤ SZ ∧ valT kvs k = some d ∧ Q d μ2
/-- d[(y, z)] = v -/
@[simp] def dPutT (d o : TED) (t : TAD) : TSD := fun E ρ μ => d ρ μ fun v μ1 => o ρ μ1 fun x μ2 => t ρ μ2 fun ys μ3 => ∃ a kvs k, x = .ref a ∧ μ3 a = some (.dtt kvs) ∧ keysD ys = some k ∧ ys.length ≤ SZ ∧ kvs.length < SZ ∧ E.nx ρ (sset μ3 a (.dtt (putT kvs k v)))
end
section
variable {K : PySem.W.Frag} {mg : Str → Option Value}
/-- data of one form, as a list for min -/
def alikeD (xs : List D) : Prop := D.flats xs = true ∧ AlikeAll (D.pys xs) ∧ PyData.depthAll (D.pys xs) ≤ 60
def rdMinD : RDn
  | [.lst (x :: xs)], μ, Q => alikeD (x :: xs) ∧ ∀ d, d ∈ x :: xs → d.py = minD x.py (D.pys xs) → Q d μ
  | _, _, _ => False
@[simp] theorem rdMinD_1 : rdMinD [.lst (x0 :: xs0)] μ0 Q0 = (alikeD (x0 :: xs0) ∧ ∀ d, d ∈ x0 :: xs0 → d.py = minD x0.py (D.pys xs0) → Q0 d μ0) := rfl
end
class DatD (α : Type) [DecidableEq α] [DatumOrd α] where
  of : α → D
  flat : ∀ a, (of a).flat = true
  py : ∀ a, (of a).py = Datum.toD a
theorem flats_map {α : Type} [DecidableEq α] [DatumOrd α] [DatD α] : ∀ l : List α, D.flats (l.map DatD.of) = true
  | [] => rfl
  | a :: l => by rw [List.map_cons, D.flats, DatD.flat a, flats_map l]; rfl
theorem pys_of {α : Type} [DecidableEq α] [DatumOrd α] [DatD α] : ∀ l : List α, D.pys (l.map DatD.of) = l.map Datum.toD
  | [] => rfl
  | a :: l => by rw [List.map_cons, D.pys, DatD.py a, pys_of l]; rfl
instance : DatD Int := ⟨D.int, fun _ => rfl, fun _ => rfl⟩
instance {α β : Type} [DecidableEq α] [DatumOrd α] [DatD α] [DecidableEq β] [DatumOrd β] [DatD β] : DatD (α × β) :=
  ⟨fun p => .tup [DatD.of p.1, DatD.of p.2], fun p => by simp [D.flat, D.flats, DatD.flat], fun p => by simp [D.py, D.pys, DatD.py]; rfl⟩
instance {α : Type} [DecidableEq α] [DatumOrd α] [DatD α] : DatD (Tup α) :=
  ⟨fun p => .tup (p.items.map DatD.of), fun p => by simp only [D.flat]; exact flats_map _, fun p => by simp only [D.py]; rw [pys_of]; rfl⟩
end DL

namespace DL
open PySem PySem.Spec PyProof.Rows L2
section
variable {X : Cx} {e o a b t : Expr} {do' : TED} {p pos apos : Pos} {da db : TFD} {ta : TTD}
@[simp] def dBits (o : TED) : TED := fun ρ μ Q => o ρ μ fun x μ1 => ∃ i, x = .int i ∧ Q (.int (Builtin.Int.intBits i : Nat)) μ1
@[simp] def dIfF (t : TTD) (a b : TFD) : TFD := fun ρ μ Q => t ρ μ fun c μ1 => if c = true then a ρ μ1 Q else b ρ μ1 Q
end
end DL

namespace DL
open PySem PySem.Spec PyProof.Rows L2
section
variable {X : Cx} {ea eb ec ed ek ex : Expr} {da db dc dd dk dx : TED} {p pos apos dpos : Pos}
@[simp] def dDG (a b c d k x : TED) : TED := fun ρ μ Q => a ρ μ fun va μ1 => b ρ μ1 fun vb μ2 => c ρ μ2 fun vc μ3 => d ρ μ3 fun vd μ4 =>
  ∃ ia ib ic id : Int, va = .int ia ∧ vb = .int ib ∧ vc = .int ic ∧ vd = .int id ∧ k ρ μ4 fun vk μ5 => x ρ μ5 fun vx μ6 => ∃ ik ix : Int, vk = .int ik ∧ vx = .int ix ∧ Q (.int (if ik = ic then id else if ik = ia then ib else ix)) μ6
end
end DL

namespace DL
open PySem PySem.Spec PyProof.Rows L2
def putFD (f : Str) (v : D) : List (Str × D) → List (Str × D)
  | [] => [(f, v)]
  | (g, x) :: r => if g = f then (g, v) :: r else (g, x) :: putFD f v r
section
variable {K : PySem.W.Frag} {mg : Str → Option Value} {F H : Hp} {μ : Sto}
def FsR (K : PySem.W.Frag) (mg : Str → Option Value) (F : Hp) (vs : List (Str × V)) (ds : List (Str × D)) : Prop := vs.map (·.1) = ds.map (·.1) ∧ Dts K mg F (vs.map (·.2)) (ds.map (·.2))
theorem FsR.cases' {v : Str × V} {vs : List (Str × V)} {d : Str × D} {ds : List (Str × D)} (h : FsR K mg F (v :: vs) (d :: ds)) : v.1 = d.1 ∧ Dt K mg F v.2 d.2 ∧ FsR K mg F vs ds := by
  obtain ⟨h1, h2⟩ := h
  rw [List.map_cons, List.map_cons] at h1 h2
  injection h1 with a b
  cases h2 with
  | cons c e => exact ⟨a, c, b, e⟩
theorem FsR.len {vs : List (Str × V)} {ds : List (Str × D)} (h : FsR K mg F vs ds) : vs.length = ds.length := by
  have := congrArg List.length h.1
  simpa using this
theorem FsR.cons {k : Str} {v : V} {d : D} {vs : List (Str × V)} {ds : List (Str × D)} (h : Dt K mg F v d) (r : FsR K mg F vs ds) : FsR K mg F ((k, v) :: vs) ((k, d) :: ds) :=
  ⟨by rw [List.map_cons, List.map_cons, r.1], .cons h r.2⟩
theorem FsR.look : ∀ {vs : List (Str × V)} {ds : List (Str × D)}, FsR K mg F vs ds → ∀ f, (∀ d, ds.lookup f = some d → ∃ v, vs.lookup f = some v ∧ Dt K mg F v d) ∧ (ds.lookup f = none → vs.lookup f = none)
  | [], [], _, f => ⟨fun _ e => (by cases e), fun _ => rfl⟩
  | [], _ :: _, h, _ => absurd h.len (by simp)
  | _ :: _, [], h, _ => absurd h.len (by simp)
  | (j, v) :: vs, (j', d0) :: ds, h, f => by
    obtain ⟨h1, h2, h3⟩ := h.cases'
    have h1 : j = j' := h1
    subst h1
    have ih := FsR.look h3 f
    rw [List.lookup_cons, List.lookup_cons]
    cases hb : f == j with
    | true => exact ⟨fun d e => (by cases e; exact ⟨v, rfl, h2⟩), fun e => (by cases e)⟩
    | false => exact ih
theorem FsR.put {v : V} {d : D} (h : Dt K mg F v d) (f : Str) : ∀ {vs : List (Str × V)} {ds : List (Str × D)}, FsR K mg F vs ds → FsR K mg F (putF f v vs) (putFD f d ds)
  | [], [], r => .cons h r
  | [], _ :: _, h => absurd h.len (by simp)
  | _ :: _, [], h => absurd h.len (by simp)
  | (j, w) :: vs, (j', d0) :: ds, r => by
    obtain ⟨h1, h2, h3⟩ := r.cases'
    have h1 : j = j' := h1
    subst h1
    unfold putF putFD
    by_cases e : j = f
    · rw [if_pos e, if_pos e]; exact .cons h h3
    · rw [if_neg e, if_neg e]; exact .cons h2 (FsR.put h f h3)
theorem FsR.mono {F' : Hp} (hF : ∀ a o, F a = some o → F' a = some o) {vs : List (Str × V)} {ds : List (Str × D)} (r : FsR K mg F vs ds) : FsR K mg F' vs ds := ⟨r.1, r.2.mono hF⟩
theorem Ok.ins (o : Ok K mg F μ H) {a : Addr} {c : Str} {fs : List (Str × D)} (h : μ a = some (.ins c fs)) : ∃ C dx vfs, mg c = some (.ref C) ∧ H a = some (.ins C dx vfs) ∧ FsR K mg F vfs fs := by
  obtain ⟨C, dx, vfs, h1, h2, h3, h4⟩ := o.sto _ _ h
  exact ⟨C, dx, vfs, h1, h2, h3, h4⟩
/-- the class's objects have fields of their own of this name -/
def FldOf (K : PySem.W.Frag) (mg : Str → Option Value) (f c : Str) : Prop := ∃ C, mg c = some (.ref C) ∧ Cls K C ∧ NoAttr K C f
/-- an instance: its class, its fields -/
def insOf (μ : Sto) : D → Option (Str × List (Str × D))
  | .ref a => match μ a with
    | some (.ins c fs) => some (c, fs)
    | _ => none
  | .obj c fs => some (c, fs)
  | _ => none
@[simp] theorem insOf_obj {c : Str} {fs : List (Str × D)} : insOf μ (.obj c fs) = some (c, fs) := rfl
@[simp] theorem insOf_ref {a : Addr} {c : Str} {fs : List (Str × D)} : insOf μ (.ref a) = some (c, fs) ↔ μ a = some (.ins c fs) := by
  unfold insOf
  dsimp only
  split
  · rename_i c' fs' e
    rw [e]
    constructor
    · intro h; cases h; rfl
    · intro h; cases h; rfl
  · rename_i hn
    constructor
    · intro h; cases h
    · intro h; exact (hn _ _ h).elim
def insK : Option (Str × List (Str × D)) → (Str → List (Str × D) → Prop) → Prop
  | some (c, fs), k => k c fs
  | none, _ => False
@[simp] theorem insK_1 {c : Str} {fs : List (Str × D)} {k : Str → List (Str × D) → Prop} : insK (some (c, fs)) k = k c fs := rfl
theorem insK_iff {o : Option (Str × List (Str × D))} {k : Str → List (Str × D) → Prop} (h : insK o k) : ∃ c fs, o = some (c, fs) ∧ k c fs := by
  match o, h with
  | some (c, fs), h => exact ⟨c, fs, rfl, h⟩
theorem insOf_at {a : Addr} {c : Str} {fs : List (Str × D)} (h : μ a = some (.ins c fs)) : insOf μ (.ref a) = some (c, fs) := insOf_ref.mpr h
@[simp] theorem insOf_same {a : Addr} {c : Str} {fs : List (Str × D)} : insOf (sset μ a (.ins c fs)) (.ref a) = some (c, fs) := insOf_ref.mpr sset_same
def selK : List (Str × DSp) → Str → (DSp → Prop) → Prop
  | [], _, _ => False
  | (c', S) :: r, c, k => if c' = c then k S else selK r c k
@[simp] theorem selK_0 {c : Str} {k : DSp → Prop} : selK [] c k = False := rfl
@[simp] theorem selK_1 {c c' : Str} {S : DSp} {r : List (Str × DSp)} {k : DSp → Prop} : selK ((c', S) :: r) c k = if c' = c then k S else selK r c k := rfl
theorem selK_iff : ∀ {Ss : List (Str × DSp)} {c : Str} {k : DSp → Prop}, selK Ss c k → ∃ S, (c, S) ∈ Ss ∧ k S
  | (c', S) :: r, c, k, h => by
    rw [selK_1] at h
    split at h
    · rename_i e; subst e; exact ⟨S, List.mem_cons_self, h⟩
    · obtain ⟨S', h1, h2⟩ := selK_iff h
      exact ⟨S', List.mem_cons_of_mem _ h1, h2⟩
def fldK : List (Str × D) → Str → (D → Prop) → Prop
  | [], _, _ => False
  | (g, x) :: r, f, k => if g = f then k x else fldK r f k
@[simp] theorem fldK_0 {f : Str} {k : D → Prop} : fldK [] f k = False := rfl
@[simp] theorem fldK_1 {f g : Str} {x : D} {r : List (Str × D)} {k : D → Prop} : fldK ((g, x) :: r) f k = if g = f then k x else fldK r f k := rfl
theorem fldK_iff : ∀ {fs : List (Str × D)} {f : Str} {k : D → Prop}, fldK fs f k → ∃ v, fs.lookup f = some v ∧ k v
  | (g, x) :: r, f, k, h => by
    rw [fldK_1] at h
    rw [List.lookup_cons]
    split at h
    · rename_i e; subst e; exact ⟨x, by simp, h⟩
    · rename_i e
      obtain ⟨v, h1, h2⟩ := fldK_iff h
      have e' : (f == g) = false := beq_eq_false_iff_ne.mpr fun z => e z.symm
      exact ⟨v, by rw [e']; exact h1, h2⟩
/-- no field of that name -/
def noF (fs : List (Str × D)) (m : Str) : Prop := fs.lookup m = none
@[simp] theorem noF_0 {m : Str} : noF [] m = True := by simp [noF]
@[simp] theorem noF_1 {m g : Str} {x : D} {r : List (Str × D)} : noF ((g, x) :: r) m = (¬ g = m ∧ noF r m) := by
  unfold noF
  rw [List.lookup_cons]
  by_cases e : g = m
  · subst e; simp
  · have e' : (m == g) = false := beq_eq_false_iff_ne.mpr fun z => e z.symm
    rw [e']; simp [e]
@[simp] theorem putFD_0 {f : Str} {v : D} : putFD f v [] = [(f, v)] := rfl
@[simp] theorem putFD_1 {f g : Str} {v x : D} {r : List (Str × D)} : putFD f v ((g, x) :: r) = if g = f then (g, v) :: r else (g, x) :: putFD f v r := rfl
theorem insOf_v (o : Ok K mg F μ H) {v : V} {d : D} {c : Str} {fs : List (Str × D)} (w : Dt K mg F v d) (h : insOf μ d = some (c, fs)) :
    ∃ a C dx vfs, v = .ref a ∧ mg c = some (.ref C) ∧ H a = some (.ins C dx vfs) ∧ FsR K mg F vfs fs := by
  cases d <;> first | cases h; done | skip
  · cases w
    obtain ⟨C, dx, vfs, h1, h2, h3⟩ := o.ins (insOf_ref.mp h)
    exact ⟨_, C, dx, vfs, rfl, h1, h2, h3⟩
  · cases h
    cases w with
    | obj h1 h2 h3 h4 => exact ⟨_, _, _, _, rfl, h1, o.sub _ _ h2, h3, h4⟩
end
section
variable {X : Cx} {Bq : Bs}
abbrev RlT := Hp → DEnv → Sto → L2.St → Hp → Prop
def liftM (K : PySem.W.Frag) (mg : Str → Option Value) (Rl : RlT) (d : TED) : TE := fun σ H Q => ∃ F ρ μ Qd, Rl F ρ μ σ H ∧ d ρ μ Qd ∧ ∀ v F' μ' H' dv, Ext F μ H F' μ' H' → Ok K mg F' μ' H' → Dt K mg F' v dv → Qd dv μ' → Q v H'
structure Md (X : Cx) (Rl : RlT) (W : DEnv → DXK) : Prop where
  rel : ∀ F ρ μ σ H, Rl F ρ μ σ H → Rel X.K X.mg F ρ μ σ H
  step : ∀ F ρ μ σ H F' μ' H', Rl F ρ μ σ H → Ext F μ H F' μ' H' → Ok X.K X.mg F' μ' H' → Rl F' ρ μ' σ H'
  wish : ∀ σ, ∃ E : XK, PassesAt (L2.CX X.prog X.w) X σ E ∧ ∀ F ρ μ H, Rl F ρ μ σ H → ∀ cv od F' μ' H' c fs, Ext F μ H F' μ' H' → Ok X.K X.mg F' μ' H' → XD X.K X.mg H F' μ' H' cv od c fs → W ρ c fs μ' → E cv od H'
theorem Md.no : Md X (Rel X.K X.mg) (fun _ => noD) := ⟨fun _ _ _ _ _ h => h, fun _ _ _ _ _ _ _ _ h e o => h.ext e o, fun σ => ⟨_, passAt takesN σ, fun _ _ _ _ _ _ _ _ _ _ _ _ _ _ _ z => z.elim⟩⟩
theorem Md.x {W : DEnv → DXK} (tk : Takes X (liftWX X.K X.mg Bq W)) : Md X (RelB X.K X.mg Bq) W := ⟨fun _ _ _ _ _ h => h.rel, fun _ _ _ _ _ _ _ _ h e o => h.step e o, fun σ => ⟨_, passAt tk σ, fun F ρ μ H R cv od F' μ' H' c fs e o x w => ⟨F', ρ, μ', c, fs, R.step e o, x.mono R.ext.live, w⟩⟩⟩
end
theorem FR.up {P : Program} {w : World} {K : PySem.W.Frag} {mg : Str → Option Value} {base : Heap} {k : Nat} {f : Addr} {sp : Sp} (h : FR P w K mg base L2.CX0 k f sp) : FR P w K mg base (L2.CX P w) k f sp := by
  intro A outer s H us vs Q E q r e v z
  refine codeAny_mono (h A outer s H us vs Q E q r e v z) ?_
  intro r s' hz
  cases r with
  | error e => exact hz.elim
  | ok f => cases f <;> exact hz
section
variable {X : Cx} {B : Bs} {o e : Expr} {do' d : TED} {f m : Str} {pos pos' apos : Pos} {cs : List Str}
/-- o.f -/
@[simp] def dFld (cs : List Str) (f : Str) (o : TED) : TED := fun ρ μ Q => o ρ μ fun x μ1 => insK (insOf μ1 x) fun c fs => c ∈ cs ∧ fldK fs f fun v => Q v μ1
theorem de_fld (hc : ∀ c ∈ cs, FldOf X.K X.mg f c) (ho : DE X o do') (hb : attributeBase o f X.env (eval o X.env) = eval o X.env := by rfl) : DE X (.Attribute o f pos) (dFld cs f do') := (pe_fld ho hb).weaken fun σ H Q q => by
  obtain ⟨F, ρ, μ, Qd, R, hd, k⟩ := q
  refine ⟨F, ρ, μ, _, R, hd, fun v F1 μ1 H1 dv e1 o1 w1 q1 => ?_⟩
  obtain ⟨c, fs, hx, hm, q1⟩ := insK_iff q1
  obtain ⟨d, hl, q⟩ := fldK_iff q1
  obtain ⟨a, C, dx, vfs, rfl, g1, g2, g3⟩ := insOf_v o1 w1 hx
  obtain ⟨C', g4, g5, g6⟩ := hc c hm
  cases g1.symm.trans g4
  obtain ⟨v, g7, g8⟩ := (g3.look f).1 d hl
  exact ⟨a, C, dx, vfs, v, rfl, g2, g5, g6, g7, k _ F1 μ1 H1 _ e1 o1 g8 q⟩
/-- the address of an object that changes -/
def refK : D → (Addr → Prop) → Prop
  | .ref a, k => k a
  | _, _ => False
@[simp] theorem refK_1 {a : Addr} {k : Addr → Prop} : refK (.ref a) k = k a := rfl
theorem refK_iff {d : D} {k : Addr → Prop} (h : refK d k) : ∃ a, d = .ref a ∧ k a := by
  cases d <;> first | exact h.elim | exact ⟨_, rfl, h⟩
/-- o.f = v -/
@[simp] def dSetA (cs : List Str) (f : Str) (o d : TED) : TSD := fun E ρ μ => d ρ μ fun y μ1 => o ρ μ1 fun x μ2 => refK x fun a => insK (insOf μ2 (.ref a)) fun c fs => c ∈ cs ∧ fs.length < 1000 ∧ E.nx ρ (sset μ2 a (.ins c (putFD f y fs)))
theorem ds_setA (hc : ∀ c ∈ cs, FldOf X.K X.mg f c) (ho : DE X o do') (hd : DE X e d) (hs : swapsWith e (some (.Attribute o f pos')) pos.line X.env = pure false := by rfl) : DSt X B (.Assign [.Attribute o f pos'] e pos) (dSetA cs f do' d) := (ps_fld ho hd hs).weaken fun E σ H h => by
  obtain ⟨F, ρ, μ, Dd, R, hd, kn, kb, kc, kr⟩ := h
  refine ⟨F, ρ, μ, _, R.rel, hd, fun v F1 μ1 H1 dv e1 o1 w1 q1 => ?_⟩
  refine ⟨F1, ρ, μ1, _, R.rel.ext e1 o1, q1, fun u F2 μ2 H2 du e2 o2 w2 q2 => ?_⟩
  obtain ⟨a, rfl, q2⟩ := refK_iff q2
  obtain ⟨c, fs, hx, hm, hl, q⟩ := insK_iff q2
  have hx := insOf_ref.mp hx
  cases w2
  obtain ⟨C, dx, vfs, g1, g2, g3⟩ := o2.ins hx
  obtain ⟨C', g4, g5, g6⟩ := hc c hm
  cases g1.symm.trans g4
  have e12 := e1.trans e2
  have g3' := g3.put (w1.mono e2.mono) f
  obtain ⟨n1, n2⟩ := o2.write hx (.ins C dx (putF f v vfs)) (.ins c (putFD f dv fs)) ⟨C, dx, _, g1, upd_same, g3'.1, g3'.2⟩
  exact ⟨a, C, dx, vfs, rfl, g2, g5, g6, by rw [g3.len]; exact hl, kn F2 ρ _ σ _ (e12.trans n2).mono (R.step (e12.trans n2) n1) q⟩
end
/-- the method m of the class c keeps the promise S -/
def MCal (P : Program) (w : World) (K : PySem.W.Frag) (mg : Str → Option Value) (base : Heap) (k : Nat) (m : Str) (c : Str) (S : DSp) : Prop := ∃ C f, mg c = some (.ref C) ∧ Cls K C ∧ Meth K C m f ∧ FR P w K mg base (L2.CX P w) k f (liftP K mg S)
theorem MCal.mono {P : Program} {w : World} {K : PySem.W.Frag} {mg : Str → Option Value} {base : Heap} {j k : Nat} {m c : Str} {S : DSp} (h : MCal P w K mg base j m c S) (hk : j ≤ k) : MCal P w K mg base k m c S := by
  obtain ⟨C, f, h1, h2, h3, h4⟩ := h
  exact ⟨C, f, h1, h2, h3, fun A outer s H us vs Q E q rm => h4 A outer s H us vs Q E q (rm.mono hk)⟩
section
variable {X : Cx} {B : Bs} {o e : Expr} {es : List Expr} {do' d : TED} {t : TAD} {f m : Str} {pos pos' apos : Pos} {k : Nat} {Ss : List (Str × DSp)} {W : DEnv → DXK} {Rl : RlT}
/-- o.m(..) -/
@[simp] def dMeth (m : Str) (Ss : List (Str × DSp)) (o : TED) (t : TAD) (W : DEnv → DXK) : TED := fun ρ μ Q => o ρ μ fun x μ1 => insK (insOf μ1 x) fun c fs => noF fs m ∧ selK Ss c fun S => t ρ μ1 fun ds μ2 => S (x :: ds) μ2 Q (W ρ)
end
def PCal (P : Program) (w : World) (K : PySem.W.Frag) (mg : Str → Option Value) (base : Heap) (k : Nat) (f : Str) (c : Str) (S : DSp) : Prop := ∃ C p g, mg c = some (.ref C) ∧ Cls K C ∧ PropOf K C f p g ∧ FR P w K mg base (L2.CX P w) k g (liftP K mg S)
section
variable {X : Cx} {B : Bs} {o e : Expr} {es : List Expr} {do' d : TED} {t : TAD} {f m x : Str} {p pos pos' apos : Pos} {k : Nat} {Ss : List (Str × DSp)} {W : DEnv → DXK} {C pr g a dx : Addr} {fs : List (Str × V)} {sp : Sp} {Rl : RlT}
/-- a def is called one frame deeper -/
theorem run_in1 {f : Addr} {sp : Sp} {pins : List (Addr × Obj)} {σ : L2.St} {H : Hp} {s : Shared} {Q : VK} {E : XK} {us : List Value} {vs : List V} (F : FR X.prog X.w X.K X.mg X.base (L2.CX X.prog X.w) k f sp) (quiet : Quiet X.A) (room : Room (k + 1) X.A)
    (hE : PassesAt (L2.CX X.prog X.w) X σ E) (I : Inv X pins σ H s) (r : Vals vs us) (h : sp vs H Q E) : wpAny (model X.prog X.w) X.A.in1 (call (.ref f) us) (EP X pins σ Q) X.xe s := by
  refine wpAny_call (codeAny_mono (F X.A.in1 X.stack s H us vs Q E quiet room.in1 I.env0.in1 r h) fun z s' hz => ?_)
  match z, hz with
  | .error e, hz => exact hE pins H s e s' I hz
  | .ok (.ret u), hz => exact I.after hz
theorem getpropR {pins : List (Addr × Obj)} {σ : L2.St} {H : Hp} {s : Shared} {Q : VK} {b : Bool} {E' : Value → Shared → Prop} (I : Inv X pins σ H s) (ea : H a = some (.ins C dx fs)) (c : Cls X.K C) (hp : PropOf X.K C f pr g)
    (F : FR X.prog X.w X.K X.mg X.base (L2.CX X.prog X.w) k g sp) (quiet : Quiet X.A) (room : Room (k + 1) X.A) (h : sp [.ref a] H Q (fun _ _ _ => False)) :
    wpAny (model X.prog X.w) X.A (getAttr (.ref a) f b) (EP X pins σ Q) E' s := by
  obtain ⟨mA, O, _, _, _, _⟩ := ins_get I.hok ea
  obtain ⟨od, J, _⟩ := O.look
  obtain ⟨rest, hrec⟩ := hp.rec_
  have I1 := I.tok (s.toks + 1)
  have hc : (PySem.W.clsIn X.K C).isSome = true := by
    obtain ⟨cd, hc, _⟩ := PySem.W.any_some c.hd
    rw [hc]
    rfl
  refine PySem.W.get_bind I.kIn J (PySem.W.plainGet_of (c.get f)).1 (PySem.W.findObj_data hc hp.at_ hp.get hp.tak) (PySem.W.plainGet_of (c.get f)).2 (wpAny_call (PySem.W.prop_get (s := { s with toks := s.toks + 1 }) I.kIn hrec ?_))
  refine codeAny_mono (F X.A.in1 X.stack { s with toks := s.toks + 1 } H [.ref a] [.ref a] Q (fun _ _ _ => False) quiet room.in1 I1.env0.in1 (.cons rfl .nil) h) fun r s' hq => ?_
  cases r with
  | error er =>
    obtain ⟨_, _, _, _, _, _, _, _, _, _, _, _, z⟩ := hq
    exact z.elim
  | ok fl =>
    cases fl with
    | ret u =>
      obtain ⟨v, H', I3, rv, q3⟩ := I1.after hq
      show wpAny _ _ (handedOut u) _ _ _
      rw [PySem.W.handedOut_of (handed_of rv)]
      exact wpAny_pure ⟨v, H', I3, rv, q3⟩
    | next => exact False.elim hq
    | brk => exact False.elim hq
    | cont => exact False.elim hq
@[simp] def dProp (f : Str) (Ss : List (Str × DSp)) (o : TED) (_ : DEnv → DXK) : TED := fun ρ μ Q => o ρ μ fun x μ1 => insK (insOf μ1 x) fun c _ => selK Ss c fun S => S [x] μ1 Q noD
theorem dg_prop (M : Md X Rl W) (hc : ∀ p ∈ Ss, PCal X.prog X.w X.K X.mg X.base k f p.1 p.2) (quiet : Quiet X.A) (room : Room (k + 1) X.A) (ho : DE X o do') (hab : attributeBase o f X.env (eval o X.env) = eval o X.env := by rfl) : PE X (.Attribute o f pos) (liftM X.K X.mg Rl (dProp f Ss do' W)) := by
  refine ⟨fun pins s σ H Q I h => ?_⟩
  obtain ⟨F, ρ, μ, Qd, R0, hd, kk⟩ := h
  refine attr_of hab (thn (ho.run pins s σ H (fun x H1 => ∃ F1 μ1 dv, Ext F μ H F1 μ1 H1 ∧ Ok X.K X.mg F1 μ1 H1 ∧ Dt X.K X.mg F1 x dv ∧ ∃ c fs S, insOf μ1 dv = some (c, fs) ∧ (c, S) ∈ Ss ∧ S [dv] μ1 Qd noD) I
    ⟨F, ρ, μ, _, M.rel _ _ _ _ _ R0, hd, fun v F1 μ1 H1 dv e1 o1 w1 q1 => (by
      obtain ⟨c, fs, hx, q1⟩ := insK_iff q1
      obtain ⟨S, hm, q⟩ := selK_iff q1
      exact ⟨F1, μ1, dv, e1, o1, w1, c, fs, S, hx, hm, q⟩)⟩) fun u s1 ⟨x, H1, I1, rx, F1, μ1, dv, e1, o1, w1, c, fs, S, hx, hm, q⟩ => ?_)
  obtain ⟨a, C, dx, vfs, ex, g1, g2, g3⟩ := insOf_v o1 w1 hx
  subst ex
  obtain rfl : u = Value.ref a := rx
  obtain ⟨C', pr, g, g4, g5, g6, g7⟩ := hc _ hm
  cases g1.symm.trans g4
  refine getpropR I1 g2 g5 g6 g7 quiet room ?_
  exact ⟨F1, μ1, [dv], Qd, noD, o1, .cons w1 .nil, q, fun v F' μ' H' dv e3 o3 w3 q3 => kk v F' μ' H' dv (e1.trans e3) o3 w3 q3, fun _ _ _ _ _ _ _ _ _ _ z => z.elim⟩
end
/-- the class c is made; its __init__ keeps the promise S -/
def KCal (P : Program) (w : World) (K : PySem.W.Frag) (mg : Str → Option Value) (base : Heap) (k : Nat) (c : Str) (S : DSp) : Prop := ∃ C f, mg c = some (.ref C) ∧ Mk K C f ∧ FR P w K mg base (L2.CX P w) k f (liftP K mg S)
def serase (μ : Sto) (a : Addr) : Sto := fun b => if b = a then none else μ b
theorem serase_same {μ : Sto} {a : Addr} : serase μ a a = none := if_pos rfl
theorem serase_ne {μ : Sto} {a b : Addr} (h : b ≠ a) : serase μ a b = μ b := if_neg h
/-- a class whose objects never change: from the arguments either the fields or an exception -/
abbrev ZMk := List D → (List (Str × D)) ⊕ (Str × List (Str × D))
/-- .. what its __init__ promises -/
def zIni (c : Str) (dom : List D → Prop) (mk : ZMk) : DSp := fun ds μ Q E => ∃ x r, ds = .ref x :: r ∧ μ x = some (.ins c []) ∧ dom r ∧ match mk r with
  | .inl fs => Q .non (sset μ x (.ins c fs))
  | .inr (e, efs) => E e efs μ
/-- .. and the call -/
def zNew (c : Str) (dom : List D → Prop) (mk : ZMk) : DSp := fun ds μ Q E => dom ds ∧ match mk ds with
  | .inl fs => Q (.obj c fs) μ
  | .inr (e, efs) => E e efs μ
section
variable {X : Cx} {B : Bs} {e : Expr} {es : List Expr} {t : TAD} {x : Str} {p pos : Pos} {k : Nat} {S : DSp} {W : DEnv → DXK} {C f : Addr} {sp : Sp} {Rl : RlT}
theorem make_guards {A : Around} {C : Addr} {us : List Value} {kw : List (Str × Value)} : (A.under (.builtin "type.__call__" ⟨.ref C :: us, kw⟩)).guards = A.guards := by
  first | rfl | simp [Around.under, Code.weight, Code.isCreation, Code.isGuard, Code.isCaller, Code.frames, Code.isFrame, guardIds]
theorem run_makeR {CX : CXT} {E : XK} {pins : List (Addr × Obj)} {σ : L2.St} {H : Hp} {s : Shared} {Q : VK} {us : List Value} {vs : List V} (M : Mk X.K C f) (F : FR X.prog X.w X.K X.mg X.base CX k f sp) (quiet : Quiet X.A) (hr : Room (k + 1) X.A)
    (hx : PassesAt CX X σ E) (I : Inv X pins σ H s) (r : Vals vs us)
    (h : ∀ x dx, H x = none → H dx = none → dx ≠ x → sp (.ref x :: vs) (upd (upd H dx (.own x)) x (.ins C dx [])) (fun v H2 => v = .non ∧ Q (.ref x) H2) E) :
    wpAny (model X.prog X.w) X.A (call (.ref C) us) (EP X pins σ Q) X.xe s := by
  have h1 := I.hok.fresh (Nat.le_succ s.heap.objs.size)
  have h2 := I.hok.fresh (Nat.le_refl s.heap.objs.size)
  have hq := h (s.heap.objs.size + 1) s.heap.objs.size h1 h2 (Nat.ne_of_lt (Nat.lt_succ_self _))
  have I2 := Inv.made (C := C) I
  have r2 : Vals (V.ref (s.heap.objs.size + 1) :: vs) (Value.ref (s.heap.objs.size + 1) :: us) := .cons rfl r
  refine wpAny_call (make_map (f := f) I.kIn M.makes M.init (beq_iff_eq.mp M.fn) (codeAny_mono (F _ X.stack _ _ (Value.ref (s.heap.objs.size + 1) :: us) _ _ E (by show Around.guards _ = _; rw [make_guards]; exact quiet) (hr.make C us [])
    (I2.env0.make C us []) r2 hq) fun r s' hq' => ?_))
  cases r with
  | error e => exact hx pins _ _ e s' I2 hq'
  | ok fl =>
    cases fl with
    | ret u =>
      obtain ⟨v, H', I3, rv, ev, q3⟩ := I2.after hq'
      subst ev
      exact ⟨rv, ⟨V.ref (s.heap.objs.size + 1), H', I3, rfl, q3⟩⟩
    | next => exact False.elim hq'
    | brk => exact False.elim hq'
    | cont => exact False.elim hq'
/-- the place of a new instance -/
theorem Ok.mkIns {K : PySem.W.Frag} {mg : Str → Option Value} {F H : Hp} {μ : Sto} (o : Ok K mg F μ H) {a dx : Addr} {c : Str} {C : Addr} (hc : mg c = some (.ref C)) (ha : H a = none) (hdx : H dx = none) (ne : dx ≠ a) :
    Ok K mg F (sset μ a (.ins c [])) (upd (upd H dx (.own a)) a (.ins C dx [])) ∧ Ext F μ H F (sset μ a (.ins c [])) (upd (upd H dx (.own a)) a (.ins C dx [])) := by
  obtain ⟨n1, n2⟩ := o.layN hdx (.own a)
  obtain ⟨m1, m2⟩ := n1.layM (p := a) (by rw [upd_ne ne.symm]; exact ha) (.ins C dx []) (.ins c []) ⟨C, dx, [], hc, upd_same, rfl, .nil⟩
  exact ⟨m1, n2.trans m2⟩
/-- an object is forgotten -/
theorem Ok.forget {K : PySem.W.Frag} {mg : Str → Option Value} {F H : Hp} {μ : Sto} (o : Ok K mg F μ H) (a : Addr) : Ok K mg F (serase μ a) H := by
  refine ⟨o.sub, fun b m h => ?_, fun b m h => ?_⟩
  · by_cases e : b = a
    · subst e; rw [serase_same] at h; cases h
    · rw [serase_ne e] at h; exact o.dis b m h
  · by_cases e : b = a
    · subst e; rw [serase_same] at h; cases h
    · rw [serase_ne e] at h; exact o.sto b m h
theorem serase_sset {μ : Sto} {a : Addr} {m : MO} (h : μ a = none) : serase (sset μ a m) a = μ := by
  funext b
  by_cases e : b = a
  · subst e; rw [serase_same, h]
  · rw [serase_ne e, sset_ne e]
theorem sset_sset {μ : Sto} {a : Addr} {m n : MO} : sset (sset μ a m) a n = sset μ a n := by
  funext b
  by_cases e : b = a
  · subst e; rw [sset_same, sset_same]
  · rw [sset_ne e, sset_ne e, sset_ne e]
theorem Ext.forget {F F' H H' : Hp} {μ μ' : Sto} (e : Ext F μ H F' μ' H') (a : Addr) : Ext F μ H F' (serase μ' a) H' :=
  ⟨e.mono, fun b o h n => by
    obtain ⟨h1, h2, h3⟩ := e.keep b o h n
    refine ⟨h1, h2, ?_⟩
    by_cases q : b = a
    · subst q; exact serase_same
    · rw [serase_ne q]; exact h3, e.live⟩
@[simp] def dMake (c : Str) (S : DSp) (t : TAD) (W : DEnv → DXK) : TED := fun ρ μ Q => t ρ μ fun ds μ1 => ∀ x, μ1 x = none → S (.ref x :: ds) (sset μ1 x (.ins c [])) (fun v μ2 => v = .non ∧ Q (.ref x) μ2) (W ρ)
@[simp] def dMakeZ (c : Str) (dom : List D → Prop) (mk : ZMk) (t : TAD) (W : DEnv → DXK) : TED := fun ρ μ Q => t ρ μ fun ds μ1 => zNew c dom mk ds μ1 Q (W ρ)
theorem dg_makeZ {dom : List D → Prop} {mk : ZMk} (M : Md X Rl W) (c : KCal X.prog X.w X.K X.mg X.base k x (zIni x dom mk)) (quiet : Quiet X.A) (room : Room (k + 1) X.A) (hg : Gl X x) (ha : DA X (e :: es) t) (hdb : (x == ("__debug__" : Str)) = false := by decide)
    (he : starEach (e :: es) X.env = (false, eval e X.env) :: starEach es X.env := by rfl) (hpl : (backTo pos (starEach es X.env)).any (·.1) = false := by rfl) : PE X (.Call (.Name x p) (e :: es) [] pos) (liftM X.K X.mg Rl (dMakeZ x dom mk t W)) := by
  obtain ⟨C, f, hm, Mk', F⟩ := c
  refine ⟨fun pins s σ H Q I h => ?_⟩
  obtain ⟨F0, ρ, μ, Qd, R0, hd, kk⟩ := h
  obtain ⟨E, hE, kx⟩ := M.wish σ
  refine wpAny_Call_Name_kw (ld_glob I hg hm ?_ hdb)
  refine PySem.W.callWith_K (h₀ := X.base) I.ok.mod.kin Mk'.kp (thn (ha.run pos pins s σ H (fun vs H1 => ∀ a dx, H1 a = none → H1 dx = none → dx ≠ a → liftP X.K X.mg (zIni x dom mk) (V.ref a :: vs) (upd (upd H1 dx (.own a)) a (.ins C dx [])) (fun v H2 => v = .non ∧ Q (.ref a) H2) E) I ⟨F0, ρ, μ, _, M.rel _ _ _ _ _ R0, hd, fun vs F1 μ1 H1 ds e1 o1 w1 q1 => ?_⟩) fun us s1 ⟨vs, H1, I1, r, q⟩ => ⟨I1.kIn, ?_⟩) he hpl
  · intro a dx ha hdx ne
    obtain ⟨n1, n2⟩ := o1.mkIns hm ha hdx ne
    obtain ⟨hfa, hma⟩ := o1.fresh ha
    have R1 := M.step _ _ _ _ _ _ _ _ R0 (e1.trans n2) n1
    unfold zNew at q1
    obtain ⟨q0, q1⟩ := q1
    refine ⟨F1, _, .ref a :: ds, fun v μ2 => v = .non ∧ ∃ fs, mk ds = .inl fs ∧ μ2 = sset μ1 a (.ins x fs), fun c fs μ2 => mk ds = .inr (c, fs) ∧ μ2 = sset μ1 a (.ins x []), n1, .cons (.ref a) w1, ?_, fun v F' μ' H' dv e3 o3 w3 q3 => ?_, fun cv od F' μ' H' c fs e3 o3 xd q3 => ?_⟩
    · refine ⟨a, ds, rfl, sset_same, q0, ?_⟩
      generalize mk ds = r at q1 ⊢
      match r, q1 with
      | .inl fs, q1 => exact ⟨rfl, fs, rfl, sset_sset⟩
      | .inr (ec, efs), q1 => exact ⟨rfl, rfl⟩
    · obtain ⟨rfl, fs, em, rfl⟩ := q3
      cases w3
      rw [em] at q1
      obtain ⟨C', dx', vfs, g1, g2, g3⟩ := o3.ins (a := a) sset_same
      have o4 := o3.forget a
      rw [serase_sset hma] at o4
      have e4 := (e1.trans (n2.trans e3)).forget a
      rw [serase_sset hma] at e4
      have hF' : F' a = none := o3.dis a _ sset_same
      have o5 := o4.freeze hF' hma g2
      have mono : ∀ b y, F' b = some y → upd F' a (HO.ins C' dx' vfs) b = some y := fun b y e => by rw [upd_ne (ne_of_none e hF')]; exact e
      refine ⟨rfl, kk (.ref a) _ μ1 H' (.obj x fs) ⟨fun b y e => mono b y (e4.mono b y e), fun b y hb hn => ?_, e4.live⟩ o5 (.obj g1 upd_same g3.1 (g3.2.mono mono)) q1⟩
      obtain ⟨z1, z2, z3⟩ := e4.keep b y hb hn
      have hba : b ≠ a := fun q => by
        subst q
        have := e1.live b ha
        rw [hb] at this
        cases this
      exact ⟨z1, (upd_ne hba).trans z2, z3⟩
    · obtain ⟨em, rfl⟩ := q3
      rw [em] at q1
      have o4 := o3.forget a
      have e4 := (n2.trans e3).forget a
      rw [serase_sset hma] at o4 e4
      have R2 := M.step _ _ _ _ _ _ _ _ R0 e1 o1
      refine kx _ _ _ _ R2 cv od F' μ1 H' c fs e4 o4 ?_ q1
      obtain ⟨C', h1, h2, h3⟩ := xd
      refine ⟨C', h1, h2, ?_⟩
      rcases h3 with h3 | ⟨d, vfs, b1, b2, b3, b4, b5, b6, b7⟩
      · exact .inl h3
      · refine .inr ⟨d, vfs, b1, b2, n2.live d b3, b4, ?_, b6, b7⟩
        have hda : d ≠ a := fun q => by
          subst q
          rw [sset_same] at b5
          cases b5
        rw [sset_ne hda] at b5
        exact b5
  · exact run_makeR Mk' F quiet room hE I1 r q
end
end DL

namespace DL
open PySem PySem.Spec PyProof.Rows L2
/-- the special method m of the class c: its def keeps the promise S -/
def DCal (P : Program) (w : World) (K : PySem.W.Frag) (mg : Str → Option Value) (base : Heap) (k : Nat) (m c : Str) (S : DSp) : Prop :=
  ∃ C f, mg c = some (.ref C) ∧ PySem.W.findIn K (.ref C) m = some (some (.ref f)) ∧ PySem.W.isFn K (.ref f) = true ∧ PySem.W.fnIn K f = true ∧ PySem.W.selfFirst K C = true ∧ PySem.W.noSeq K C = true ∧ FR P w K mg base (L2.CX P w) k f (liftP K mg S)
structure SpM (X : Cx) (k : Nat) (m : Str) (C f : Addr) (sp : Sp) : Prop where
  at_ : PySem.W.findIn X.K (.ref C) m = some (some (.ref f))
  fn : PySem.W.isFn X.K (.ref f) = true
  fi : PySem.W.fnIn X.K f = true
  sf : PySem.W.selfFirst X.K C = true
  ns : PySem.W.noSeq X.K C = true
  run : FR X.prog X.w X.K X.mg X.base (L2.CX X.prog X.w) k f sp
/-- the special method is called at values -/
def rM (X : Cx) (k : Nat) (m : Str) (vs : List V) (H : Hp) (Q : VK) (E : XK) : Prop := ∃ a C dx fs f r sp, vs = .ref a :: r ∧ H a = some (.ins C dx fs) ∧ SpM X k m C f sp ∧ sp vs H Q E
/-- .. at data -/
def rdM (Ss : List (Str × DSp)) : List D → Sto → DK → DXK → Prop
  | x :: r, μ, Q, E => insK (insOf μ x) fun c _ => selK Ss c fun S => S (x :: r) μ Q E
  | [], _, _, _ => False
@[simp] theorem rdM_1 {Ss : List (Str × DSp)} {x : D} {r : List D} {μ : Sto} {Q : DK} {E : DXK} : rdM Ss (x :: r) μ Q E = insK (insOf μ x) fun c _ => selK Ss c fun S => S (x :: r) μ Q E := rfl
theorem rdM_iff {Ss : List (Str × DSp)} {x : D} {r : List D} {μ : Sto} {Q : DK} {E : DXK} (h : rdM Ss (x :: r) μ Q E) : ∃ c fs S, insOf μ x = some (c, fs) ∧ (c, S) ∈ Ss ∧ S (x :: r) μ Q E := by
  obtain ⟨c, fs, hx, h⟩ := insK_iff h
  obtain ⟨S, hm, q⟩ := selK_iff h
  exact ⟨c, fs, S, hx, hm, q⟩
abbrev EF : XK := fun _ _ _ => False
section
variable {X : Cx} {k : Nat} {m : Str} {Ss : List (Str × DSp)}
theorem rdM_v (hc : ∀ p ∈ Ss, DCal X.prog X.w X.K X.mg X.base k m p.1 p.2) {F H : Hp} {μ : Sto} {vs : List V} {ds : List D} {Qd : DK} {Ed : DXK} {Q : VK} {E : XK} (o : Ok X.K X.mg F μ H) (w : Dts X.K X.mg F vs ds) (h : rdM Ss ds μ Qd Ed)
    (kk : ∀ v F' μ' H' dv, Ext F μ H F' μ' H' → Ok X.K X.mg F' μ' H' → Dt X.K X.mg F' v dv → Qd dv μ' → Q v H')
    (kx : ∀ cv od F' μ' H' c fs, Ext F μ H F' μ' H' → Ok X.K X.mg F' μ' H' → XD X.K X.mg H F' μ' H' cv od c fs → Ed c fs μ' → E cv od H') : rM X k m vs H Q E := by
  unfold rdM at h
  split at h
  · obtain ⟨c, fs, S, hx, hm, q⟩ := rdM_iff h
    cases w with
    | cons w0 wr =>
      obtain ⟨a, C, dx, vfs, rfl, g1, g2, g3⟩ := insOf_v o w0 hx
      obtain ⟨C', f, g4, g5, g6, g7, g8, g9, g10⟩ := hc _ hm
      cases g1.symm.trans g4
      exact ⟨_, C, dx, vfs, f, _, _, rfl, g2, ⟨g5, g6, g7, g8, g9, g10⟩, F, μ, _, Qd, Ed, o, .cons w0 wr, q, kk, kx⟩
  · exact h.elim
theorem relV_noNI {v : V} {u : Value} (h : RelV v u) : u ≠ .notImplemented := by
  rintro rfl
  cases v <;> simp [L2.RelV] at h
theorem cmpBack {pins : List (Addr × Obj)} {σ : L2.St} {Q : VK} {u : Value} {s : Shared} (h : EP X pins σ Q u s) : PySem.W.CmpBack (EP X pins σ Q) u s := by
  obtain ⟨v, H', I, r, q⟩ := h
  have := relV_noNI r
  cases u <;> first | exact ⟨v, H', I, r, q⟩ | exact (this rfl).elim
/-- a value of a built-in type or an own instance -/
def TyY (K : PySem.W.Frag) (H : Hp) (y : V) (t : Value) : Prop := (∃ T, T ∈ typs ∧ t = .type T ∧ TyX K H y (.type T)) ∨ ∃ b C dx fs, y = .ref b ∧ H b = some (.ins C dx fs) ∧ t = .ref C
def okY (μ : Sto) (d : D) : Prop := isiOk d = true ∨ ∃ c fs, insOf μ d = some (c, fs)
theorem tyY_of {F H : Hp} {μ : Sto} {v : V} {d : D} (o : Ok X.K X.mg F μ H) (w : Dt X.K X.mg F v d) (h : okY μ d) : ∃ t, TyY X.K H v t ∧ ∀ c fs, insOf μ d = some (c, fs) → ∃ C, X.mg c = some (.ref C) ∧ t = .ref C := by
  rcases h with h | ⟨c, fs, h⟩
  · have fin : ∀ T, T ∈ typs → TyX X.K H v (.type T) → insOf μ d = none → ∃ t, TyY X.K H v t ∧ ∀ c fs, insOf μ d = some (c, fs) → ∃ C, X.mg c = some (.ref C) ∧ t = .ref C := fun T hT tx e => ⟨_, .inl ⟨T, hT, rfl, tx⟩, fun c fs z => (by rw [e] at z; cases z)⟩
    have wk : Wk X.K X.mg F μ H v d := .inl w
    cases d <;> first | exact (Bool.false_ne_true h).elim | skip
    · cases wk.non; exact fin "NoneType" (by decide) (.base .non) rfl
    · cases wk.bl; exact fin "bool" (by decide) (.base (.bl _)) rfl
    · cases wk.int; exact fin "int" (by decide) (.base (.int _)) rfl
    · cases wk.str; exact fin "str" (by decide) (.base (.str _)) rfl
    · obtain ⟨a, vs, rfl, ha, _⟩ := wk.tup o; exact fin "tuple" (by decide) (sqT_tyx ha) rfl
    · obtain ⟨a, vs, rfl, ha, _⟩ := wk.lst o; exact fin "list" (by decide) (.base (.lst ha)) rfl
    · obtain ⟨a, vs, rfl, ha, _⟩ := wk.dct o; exact fin "dict" (by decide) (.base (.dK ha)) rfl
    · obtain ⟨a, rfl, ha⟩ := wk.scr o; exact fin "list" (by decide) (sqL_tyx ha) rfl
  · obtain ⟨a, C, dx, vfs, rfl, g1, g2, g3⟩ := insOf_v o w h
    refine ⟨.ref C, .inr ⟨a, C, dx, vfs, rfl, g2, rfl⟩, fun c' fs' z => ?_⟩
    rw [h] at z
    cases z
    exact ⟨C, g1, rfl⟩
theorem tyY_look {pins : List (Addr × Obj)} {σ : L2.St} {H : Hp} {s : Shared} {y : V} {u t : Value} (I : Inv X pins σ H s) (r : RelV y u) (h : TyY X.K H y t) : PySem.W.Looks (model X.prog X.w) s.heap (typeOf u) t := by
  rcases h with ⟨T, _, rfl, tx⟩ | ⟨b, C, dx, fs, rfl, hb, rfl⟩
  · obtain ⟨P, Z, hP, _⟩ := kit_of I r tx
    exact Z.ty _ _ I.kIn hP
  · obtain rfl : u = Value.ref b := r
    obtain ⟨mA, J, _⟩ := ins_get I.hok hb
    obtain ⟨od, J, _⟩ := J.look
    exact J.type
theorem typs_sub {K : PySem.W.Frag} {C : Addr} : ∀ T ∈ typs, PySem.W.subIn K (.type T) (.ref C) = some false := by
  intro T hT
  simp only [typs, List.mem_cons, List.not_mem_nil, or_false] at hT
  rcases hT with rfl | rfl | rfl | rfl | rfl | rfl | rfl <;> kernel_rfl
/-- .. or an instance of the same class as x -/
def TyS (K : PySem.W.Frag) (H : Hp) (x y : V) : Prop := (∃ T, T ∈ typs ∧ TyX K H y (.type T)) ∨ ∃ a b C dx fs dy gs, x = .ref a ∧ H a = some (.ins C dx fs) ∧ y = .ref b ∧ H b = some (.ins C dy gs)
def okS (μ : Sto) (x y : D) : Prop := isiOk y = true ∨ ∃ c fs gs, insOf μ x = some (c, fs) ∧ insOf μ y = some (c, gs)
@[simp] theorem okS_obj {μ : Sto} {c : Str} {fs gs : List (Str × D)} : okS μ (.obj c fs) (.obj c gs) := .inr ⟨c, fs, gs, rfl, rfl⟩
theorem tyS_of {F H : Hp} {μ : Sto} {v u : V} {d e : D} (o : Ok X.K X.mg F μ H) (w : Dt X.K X.mg F v d) (w2 : Dt X.K X.mg F u e) (h : okS μ d e) : TyS X.K H v u := by
  rcases h with h | ⟨c, fs, gs, h1, h2⟩
  · obtain ⟨t, ⟨T, hT, rfl, tx⟩ | ⟨b, C, dx, fs, rfl, hb, rfl⟩, ht⟩ := tyY_of o w2 (.inl h)
    · exact .inl ⟨T, hT, tx⟩
    · cases e <;> first | exact (Bool.false_ne_true h).elim | skip
      all_goals (have wk : Wk X.K X.mg F μ H (.ref b) _ := .inl w2)
      · cases wk.non
      · cases wk.bl
      · cases wk.int
      · cases wk.str
      · obtain ⟨a, vs, e, ha, _⟩ := wk.tup o; cases e; exact .inl ⟨"tuple", by decide, sqT_tyx ha⟩
      · obtain ⟨a, vs, e, ha, _⟩ := wk.lst o; cases e; exact .inl ⟨"list", by decide, .base (.lst ha)⟩
      · obtain ⟨a, vs, e, ha, _⟩ := wk.dct o; cases e; exact .inl ⟨"dict", by decide, .base (.dK ha)⟩
      · obtain ⟨a, e, ha⟩ := wk.scr o; cases e; exact .inl ⟨"list", by decide, sqL_tyx ha⟩
  · obtain ⟨a, C, dx, vfs, rfl, g1, g2, g3⟩ := insOf_v o w h1
    obtain ⟨b, C', dy, ws, rfl, k1, k2, k3⟩ := insOf_v o w2 h2
    cases g1.symm.trans k1
    exact .inr ⟨a, b, C, dx, vfs, dy, ws, rfl, g2, rfl, k2⟩
/-- its type, as the library asks it -/
theorem tyS_look {pins : List (Addr × Obj)} {σ : L2.St} {H : Hp} {s : Shared} {a C dx : Addr} {fs : List (Str × V)} {y : V} {u : Value} (I : Inv X pins σ H s) (ha : H a = some (.ins C dx fs)) (r : RelV y u) (h : TyS X.K H (.ref a) y) :
    (∃ T, T ∈ typs ∧ PySem.W.Looks (model X.prog X.w) s.heap (typeOf u) (.type T)) ∨ PySem.W.Looks (model X.prog X.w) s.heap (typeOf u) (.ref C) := by
  rcases h with ⟨T, hT, tx⟩ | ⟨a', b, C', dx', fs', dy, gs, e, ha', rfl, hb⟩
  · exact .inl ⟨T, hT, tyY_look I r (.inl ⟨T, hT, rfl, tx⟩)⟩
  · cases e
    cases ha.symm.trans ha'
    exact .inr (tyY_look I r (.inr ⟨b, C, dy, gs, rfl, hb, rfl⟩))
theorem notFirst_of {K : PySem.W.Frag} {C : Addr} {t : Value} (h : (∃ T, T ∈ typs ∧ t = .type T) ∨ t = .ref C) : PySem.W.notFirst K C t = true := by
  unfold PySem.W.notFirst
  rcases h with ⟨T, hT, rfl⟩ | rfl
  · rw [typs_sub T hT]; simp
  · simp
/-- an instance, as the library sees it -/
theorem inst_of {pins : List (Addr × Obj)} {σ : L2.St} {H : Hp} {s : Shared} {a C dx : Addr} {fs : List (Str × V)} (I : Inv X pins σ H s) (ha : H a = some (.ins C dx fs)) : ∃ ox od, PySem.W.InstAt s.heap a ox C od := by
  obtain ⟨mA, J, _⟩ := ins_get I.hok ha
  obtain ⟨od, J, _⟩ := J.look
  exact ⟨_, _, J⟩
def rEqO (X : Cx) (k : Nat) : R2 := fun x y H Q => TyS X.K H x y ∧ rM X k "__eq__" [x, y] H Q EF
theorem op_eqO (quiet : Quiet X.A) (room : Room k X.A) : OpR X (compareOp .Eq) (rEqO X k) := by
  intro pins s σ H x y v u Q I rx ry h
  obtain ⟨ty, a, C, dx, fs, f, r, sp, e, ha, M, q⟩ := h
  cases e
  obtain rfl : v = Value.ref a := rx
  obtain ⟨ox, od, J⟩ := inst_of I ha
  obtain ⟨m', hF⟩ := I.fr
  have hb : ∃ t, PySem.W.Looks (model X.prog X.w) s.heap (typeOf u) t ∧ PySem.W.notFirst X.K C t = true := by
    rcases tyS_look I ha ry ty with ⟨T, hT, L⟩ | L
    · exact ⟨_, L, notFirst_of (.inl ⟨T, hT, rfl⟩)⟩
    · exact ⟨_, L, notFirst_of (.inr rfl)⟩
  obtain ⟨t, L, n⟩ := hb
  exact PySem.W.cmp_K (op := .Eq) (by have := room.units; omega) hF I.ok.mod.kin J L n M.at_ M.fn (wpAny_mono (run_gx (us := [.ref a, u]) (vs := [.ref a, y]) M.run quiet room (passAt takesN σ) I (.cons rfl (.cons ry .nil)) q) (fun r s' hr => cmpBack hr) fun _ _ e => e)
end
end DL

namespace DL
open PySem PySem.Spec PyProof.Rows L2
def OpSE (K : PySem.W.Frag) (mg : Str → Option Value) (r : R2) (rd : RD2) : Prop :=
  ∀ (F : Hp) (μ : Sto) (H : Hp) (x y : V) (dx dy : D) (Qd : DK) (Q : VK), Ok K mg F μ H → Dt K mg F x dx → Dt K mg F y dy → rd dx dy μ Qd →
    (∀ v F' μ' H' dv, Ext F μ H F' μ' H' → Ok K mg F' μ' H' → Dt K mg F' v dv → Qd dv μ' → Q v H') → r x y H Q
section
variable {X : Cx} {a b c e : Expr} {da db dc : TED} {pos : Pos} {K : PySem.W.Frag} {mg : Str → Option Value}
theorem lift_opE {r : R2} {rd : RD2} (hs : OpSE K mg r rd) {σ : L2.St} {H : Hp} {Q : VK} (h : liftE K mg (dOp rd da db) σ H Q) : tOp r (liftE K mg da) (liftE K mg db) σ H Q := by
  obtain ⟨F, ρ, μ, Qd, R, hd, k⟩ := h
  refine ⟨F, ρ, μ, _, R, hd, fun v F1 μ1 H1 dv e1 o1 w1 q1 => ⟨F1, ρ, μ1, _, R.ext e1 o1, q1, fun u F2 μ2 H2 du e2 o2 w2 q2 => ?_⟩⟩
  exact hs F2 μ2 H2 v u dv du _ _ o2 (w1.mono e2.mono) w2 q2 fun z F3 μ3 H3 dz e3 o3 w3 q3 => k z F3 μ3 H3 dz (e1.trans (e2.trans e3)) o3 w3 q3
theorem de_cmpO {op : CmpOp} {r : R2} {rd : RD2} (ho : OpR X (compareOp op) r) (hs : OpSE X.K X.mg r rd) (ha : DE X a da) (hb : DE X b db) (hm : behindInMarks op b = false) : DE X (.Compare a [op] [b] pos) (dOp rd da db) :=
  (pe_cmpR ho ha hb hm).weaken fun _ _ _ q => lift_opE hs q
theorem dt_cmpO {op : CmpOp} {r : R2} {rd : RD2} (ho : OpR X (compareOp op) r) (hs : OpSE X.K X.mg r rd) (ha : DE X a da) (hb : DE X b db) (hm : behindInMarks op b = false) : DT X (.Compare a [op] [b] pos) (dB (dOp rd da db)) :=
  (pt_cmpR ho ha hb hm).weaken fun σ H Q q => by
    obtain ⟨F, ρ, μ, Qd, R, hd, k⟩ := q
    refine lift_opE hs ⟨F, ρ, μ, _, R, hd, fun v F' μ' H' dv e o w q => ?_⟩
    obtain ⟨b, rfl, q⟩ := blK_iff q
    cases w
    exact ⟨b, rfl, k b F' μ' H' e o q⟩
end
section
variable {X : Cx} {k : Nat} {Ss : List (Str × DSp)}
@[simp] def rdInO (Ss : List (Str × DSp)) (neg : Bool) : RD2 := fun x y μ Q => rdM Ss [y, x] μ (fun v μ' => blK v fun b => Q (.bl (b != neg)) μ') noD
@[simp] def rdEqO (Ss : List (Str × DSp)) : RD2 := fun x y μ Q => okS μ x y ∧ rdM Ss [x, y] μ Q noD
theorem ops_eqO (hc : ∀ p ∈ Ss, DCal X.prog X.w X.K X.mg X.base k "__eq__" p.1 p.2) : OpSE X.K X.mg (rEqO X k) (rdEqO Ss) := by
  intro F μ H x y dx dy Qd Q o wx wy h kk
  exact ⟨tyS_of o wx wy h.1, rdM_v hc o (.cons wx (.cons wy .nil)) h.2 kk fun _ _ _ _ _ _ _ _ _ _ z => z.elim⟩
end
section
open PySem.W
variable {prog : Program} {w : World} {A : Around} {E : Value → Shared → Prop} {K : PySem.W.Frag} {x C L f : Addr} {h₀ : Heap} {m : Str → Option Value} {ox : Obj} {od : Option Obj}
end
section
variable {X : Cx} {a b : Expr} {da db : TED} {pos : Pos} {k : Nat} {Ss : List (Str × DSp)} {W : DEnv → DXK} {Rl : RlT}
@[simp] def dBinO (Ss : List (Str × DSp)) (a b : TED) (W : DEnv → DXK) : TED := fun ρ μ Q => a ρ μ fun x μ1 => b ρ μ1 fun y μ2 => okS μ2 x y ∧ rdM Ss [x, y] μ2 Q (W ρ)
@[simp] def dIxO (Ss : List (Str × DSp)) (a b : TED) (W : DEnv → DXK) : TED := fun ρ μ Q => a ρ μ fun x μ1 => b ρ μ1 fun y μ2 => rdM Ss [x, y] μ2 Q (W ρ)
theorem dg_ix (Mo : Md X Rl W) (hc : ∀ p ∈ Ss, DCal X.prog X.w X.K X.mg X.base k "__getitem__" p.1 p.2) (quiet : Quiet X.A) (room : Room (k + 1) X.A) (ha : DE X a da) (hb : DE X b db)
    (hs : ∀ (x : Addr) (i : Value), subscripted b true (.ref x) i = runValue (.builtin "lifetime.subscript" ⟨[.ref x, i], []⟩) := by intro x i; with_unfolding_all rfl) : PE X (.Subscript a b pos) (liftM X.K X.mg Rl (dIxO Ss da db W)) := by
  refine ⟨fun pins s σ H Q I h => ?_⟩
  obtain ⟨F, ρ, μ, Qd, R0, hd, kk⟩ := h
  obtain ⟨E, hE, kx⟩ := Mo.wish σ
  refine Subscript_ (binT ha hb I (R := fun x y H2 => rM X k "__getitem__" [x, y] H2 Q E) ?_ fun v u s2 x y H2 I2 rx ry q => ?_)
  · refine ⟨F, ρ, μ, _, Mo.rel _ _ _ _ _ R0, hd, fun v F1 μ1 H1 dv e1 o1 w1 q1 => ⟨F1, ρ, μ1, _, Mo.rel _ _ _ _ _ (Mo.step _ _ _ _ _ _ _ _ R0 e1 o1), q1, fun u F2 μ2 H2 du e2 o2 w2 q2 => ?_⟩⟩
    exact rdM_v hc o2 (.cons (w1.mono e2.mono) (.cons w2 .nil)) q2 (fun z F3 μ3 H3 dz e3 o3 w3 q3 => kk z F3 μ3 H3 dz (e1.trans (e2.trans e3)) o3 w3 q3) (kx _ _ _ _ (Mo.step _ _ _ _ _ _ _ _ R0 (e1.trans e2) o2))
  · obtain ⟨a', C, dx, fs, f, r, sp, e, ha', M, q⟩ := q
    cases e
    obtain rfl : v = Value.ref a' := rx
    obtain ⟨ox, od, J⟩ := inst_of I2 ha'
    obtain ⟨m', hF⟩ := I2.fr
    exact PySem.W.sub_K hF I2.ok.mod.kin J M.at_ M.fi M.fn (run_in1 (us := [.ref a', u]) (vs := [.ref a', y]) M.run quiet room hE I2 (.cons rfl (.cons ry .nil)) q) (hs _ _)
end
section
variable {X : Cx} {k : Nat} {Ss : List (Str × DSp)}
theorem Wk.ins {K : PySem.W.Frag} {mg : Str → Option Value} {F H : Hp} {μ : Sto} {v : V} {d : D} {c : Str} {fs : List (Str × D)} (w : Wk K mg F μ H v d) (h : insOf μ d = some (c, fs)) : Dt K mg F v d := by
  rcases w with w | ⟨_, _, _, _, rfl, _⟩
  · exact w
  · cases h
def rUnO (X : Cx) (k : Nat) (m : Str) (T : V → Hp → VK → Prop) : List V → Hp → VK → Prop := fun xs H Q => ∃ x, xs = [x] ∧ rM X k m [x] H (fun v H' => T v H' Q) EF
def rdUnO (Ss : List (Str × DSp)) (T : D → Sto → DK → Prop) : RDn
  | [x], μ, Q => rdM Ss [x] μ (fun v μ' => T v μ' Q) noD
  | _, _, _ => False
@[simp] theorem rdUnO_1 {T : D → Sto → DK → Prop} {x : D} {μ : Sto} {Q : DK} : rdUnO Ss T [x] μ Q = rdM Ss [x] μ (fun v μ' => T v μ' Q) noD := rfl
theorem cs_unO {m : Str} {T : V → Hp → VK → Prop} {T' : D → Sto → DK → Prop} (hc : ∀ p ∈ Ss, DCal X.prog X.w X.K X.mg X.base k m p.1 p.2)
    (hT : ∀ v d F μ H Qd Q, Ok X.K X.mg F μ H → Dt X.K X.mg F v d → T' d μ Qd → (∀ v F' μ' H' dv, Ext F μ H F' μ' H' → Ok X.K X.mg F' μ' H' → Dt X.K X.mg F' v dv → Qd dv μ' → Q v H') → T v H Q) : CallS X.K X.mg (rUnO X k m T) (rdUnO Ss T') := by
  intro F μ H vs ds Qd Q o w h kk
  unfold rdUnO at h
  split at h
  · obtain ⟨v, rfl, wk⟩ := w.one
    obtain ⟨c, fs, S, hx, hm, q⟩ := rdM_iff h
    refine ⟨v, rfl, rdM_v hc o (.cons (wk.ins hx) .nil) h (fun z F3 μ3 H3 dz e3 o3 w3 q3 => hT z dz F3 μ3 H3 Qd Q o3 w3 q3 fun z' F' μ' H' dv e o w q => kk z' F' μ' H' dv (e3.trans e) o w q) fun _ _ _ _ _ _ _ _ _ _ z => z.elim⟩
  · exact h.elim
@[simp] def tLenD : D → Sto → DK → Prop := fun v μ Q => ∃ n : Int, v = .int n ∧ 0 ≤ n ∧ n < 9223372036854775808 ∧ Q (.int n) μ
def tLenV : V → Hp → VK → Prop := fun v H Q => ∃ n : Int, v = .int n ∧ 0 ≤ n ∧ n < 9223372036854775808 ∧ Q (.int n) H
theorem call_lenO (quiet : Quiet X.A) (room : Room (k + 1) X.A) : CallR X (.builtin "len") (rUnO X k "__len__" tLenV) := by
  intro pins s σ H xs us Q I r h
  obtain ⟨x, rfl, a, C, dx, fs, f, rr, sp, e, ha, M, q⟩ := h
  cases e
  obtain rfl := Vals.ref1 r
  obtain ⟨ox, od, J⟩ := inst_of I ha
  obtain ⟨m', hF⟩ := I.fr
  refine PySem.W.len_K hF I.ok.mod.kin J M.at_ M.fn (wpAny_mono (run_in1 (us := [.ref a]) (vs := [.ref a]) M.run quiet room (passAt takesN σ) I (.cons rfl .nil) q) (fun r s' hr => ?_) fun _ _ e => e)
  obtain ⟨w, H', I', rw_, n, rfl, h0, h1, q'⟩ := hr
  obtain ⟨t, rfl⟩ := rw_
  exact ⟨⟨h0, by omega⟩, .int n, H', I'.tok _, ⟨_, rfl⟩, q'⟩
theorem cs_lenO (hc : ∀ p ∈ Ss, DCal X.prog X.w X.K X.mg X.base k "__len__" p.1 p.2) : CallS X.K X.mg (rUnO X k "__len__" tLenV) (rdUnO Ss tLenD) :=
  cs_unO hc fun v d F μ H Qd Q o w h kk => by
    obtain ⟨n, rfl, h0, h1, q⟩ := h
    cases w
    exact ⟨n, rfl, h0, h1, kk _ F μ H _ .refl o (.int _) q⟩
@[simp] def tStrD : D → Sto → DK → Prop := fun v μ Q => ∃ z, v = .str z ∧ Q (.str z) μ
def tStrV : V → Hp → VK → Prop := fun v H Q => ∃ z, v = .str z ∧ Q (.str z) H
theorem run_in2 {f : Addr} {sp : Sp} {pins : List (Addr × Obj)} {σ : L2.St} {H : Hp} {s : Shared} {Q : VK} {E : XK} {us : List Value} {vs : List V} (F : FR X.prog X.w X.K X.mg X.base (L2.CX X.prog X.w) k f sp) (quiet : Quiet X.A) (room : Room (k + 2) X.A)
    (hE : PassesAt (L2.CX X.prog X.w) X σ E) (I : Inv X pins σ H s) (r : Vals vs us) (h : sp vs H Q E) : wpAny (model X.prog X.w) X.A.in1.in1 (call (.ref f) us) (EP X pins σ Q) X.xe s := by
  refine wpAny_call (codeAny_mono (F X.A.in1.in1 X.stack s H us vs Q E quiet room.in1.in1 I.env0.in1.in1 r h) fun z s' hz => ?_)
  match z, hz with
  | .error e, hz => exact hE pins H s e s' I hz
  | .ok (.ret u), hz => exact I.after hz
theorem call_strO (quiet : Quiet X.A) (room : Room (k + 2) X.A) : CallR X (.type "str") (rUnO X k "__str__" tStrV) := by
  intro pins s σ H xs us Q I r h
  obtain ⟨x, rfl, a, C, dx, fs, f, rr, sp, e, ha, M, q⟩ := h
  cases e
  obtain rfl := Vals.ref1 r
  obtain ⟨ox, od, J⟩ := inst_of I ha
  refine PySem.W.kso_call (by have := room.in1.in1.units; omega) I.kIn J M.at_ M.fn (wpAny_mono (run_in2 (us := [.ref a]) (vs := [.ref a]) M.run quiet room (passAt takesN σ) I (.cons rfl .nil) q) (fun r s' hr => ?_) fun _ _ e => e)
  obtain ⟨w, H', I', rw_, z, rfl, q'⟩ := hr
  obtain ⟨t, rfl⟩ := rw_
  exact ⟨.str z, H', I', ⟨_, rfl⟩, q'⟩
theorem cs_strO (hc : ∀ p ∈ Ss, DCal X.prog X.w X.K X.mg X.base k "__str__" p.1 p.2) : CallS X.K X.mg (rUnO X k "__str__" tStrV) (rdUnO Ss tStrD) :=
  cs_unO hc fun v d F μ H Qd Q o w h kk => by
    obtain ⟨z, rfl, q⟩ := h
    cases w
    exact ⟨_, rfl, kk _ F μ H _ .refl o (.str _) q⟩
end
end DL

namespace DL
open PySem PySem.Spec PyProof.Rows L2
def noTyps (K : PySem.W.Frag) (C : Addr) : Bool := typs.all fun n => PySem.W.subIn K (.ref C) (.type n) == some false
/-- what isinstance asks of a class -/
structure InsC (K : PySem.W.Frag) (C : Addr) : Prop where
  cl : Cls K C
  ha : PySem.W.findIn K (.ref C) "__class__" = some (some (.builtin "object.__class__"))
  hn : PySem.W.specialIn K (.builtin "object.__class__") "__get__" = some (some (.builtin "getset_descriptor.__get__"))
  ht : PySem.W.takesIn K (.builtin "object.__class__") = some true
  hm : PySem.W.mroIn K C (.type "object") = some true
  ty : PySem.W.typeIn K (.ref C) = some (.type "type")
  no : noTyps K C = true
abbrev ITab := List ((Str × Str) × Bool)
/-- the answers, own class by own class -/
structure ITabOk (K : PySem.W.Frag) (mg : Str → Option Value) (T : ITab) : Prop where
  own : ∀ z ∈ T, ∃ C Q, mg z.1.1 = some (.ref C) ∧ mg z.1.2 = some (.ref Q) ∧ InsC K C ∧ InsC K Q ∧ PySem.W.kitOne K (.ref C) (.ref Q) = some z.2
def ITab.has (T : ITab) (q : Str) : Bool := T.any fun z => decide (z.1.2 = q)
def ITab.hasC (T : ITab) (c : Str) : Bool := T.any fun z => decide (z.1.1 = c)
def ITab.get (T : ITab) (c q : Str) : Option Bool := (T.find? fun z => decide (z.1.1 = c) && decide (z.1.2 = q)).map (·.2)
def isiF (T : ITab) (μ : Sto) (d : D) (q : Str) : Option Bool := if isiOk d = true then (if T.has q then some false else none) else (insOf μ d).bind fun z => T.get z.1 q
def isiG (T : ITab) (μ : Sto) (d : D) (t : String) : Option Bool := if isiOk d = true then some (isiD d t) else (insOf μ d).bind fun z => if T.hasC z.1 then some false else none
def optK : Option Bool → (Bool → Prop) → Prop
  | some b, k => k b
  | none, _ => False
@[simp] theorem optK_1 {b : Bool} {k : Bool → Prop} : optK (some b) k = k b := rfl
theorem optK_iff {o : Option Bool} {k : Bool → Prop} (h : optK o k) : ∃ b, o = some b ∧ k b := by
  cases o with
  | none => exact h.elim
  | some b => exact ⟨b, rfl, h⟩
def rdIsiO (T : ITab) : RDn
  | [d, .gl q], μ, Q => optK (isiF T μ d q) fun b => Q (.bl b) μ
  | [d, .ty t], μ, Q => t ∈ typs ∧ optK (isiG T μ d t) fun b => Q (.bl b) μ
  | _, _, _ => False
@[simp] theorem rdIsiO_1 {T : ITab} {d : D} {q : Str} {μ : Sto} {Q : DK} : rdIsiO T [d, .gl q] μ Q = optK (isiF T μ d q) fun b => Q (.bl b) μ := rfl
@[simp] theorem rdIsiO_2 {T : ITab} {d : D} {t : String} {μ : Sto} {Q : DK} : rdIsiO T [d, .ty t] μ Q = (t ∈ typs ∧ optK (isiG T μ d t) fun b => Q (.bl b) μ) := rfl
@[simp] theorem isiG_non {T : ITab} {μ : Sto} {t : String} {b : Bool} {i : Int} {s : List Nat} {xs : List D} {ns : List Int} {kvs : List (Key × D)} : isiG T μ .non t = some (isiD .non t) := rfl
@[simp] theorem isiG_bl {T : ITab} {μ : Sto} {t : String} {b : Bool} {i : Int} {s : List Nat} {xs : List D} {ns : List Int} {kvs : List (Key × D)} : isiG T μ (.bl b) t = some (isiD (.bl b) t) := rfl
@[simp] theorem isiG_int {T : ITab} {μ : Sto} {t : String} {b : Bool} {i : Int} {s : List Nat} {xs : List D} {ns : List Int} {kvs : List (Key × D)} : isiG T μ (.int i) t = some (isiD (.int i) t) := rfl
@[simp] theorem isiG_str {T : ITab} {μ : Sto} {t : String} {b : Bool} {i : Int} {s : List Nat} {xs : List D} {ns : List Int} {kvs : List (Key × D)} : isiG T μ (.str s) t = some (isiD (.str s) t) := rfl
@[simp] theorem isiG_tup {T : ITab} {μ : Sto} {t : String} {b : Bool} {i : Int} {s : List Nat} {xs : List D} {ns : List Int} {kvs : List (Key × D)} : isiG T μ (.tup xs) t = some (isiD (.tup xs) t) := rfl
@[simp] theorem isiG_lst {T : ITab} {μ : Sto} {t : String} {b : Bool} {i : Int} {s : List Nat} {xs : List D} {ns : List Int} {kvs : List (Key × D)} : isiG T μ (.lst xs) t = some (isiD (.lst xs) t) := rfl
@[simp] theorem isiG_scr {T : ITab} {μ : Sto} {t : String} {b : Bool} {i : Int} {s : List Nat} {xs : List D} {ns : List Int} {kvs : List (Key × D)} : isiG T μ (.scr ns) t = some (isiD (.scr ns) t) := rfl
@[simp] theorem isiG_dct {T : ITab} {μ : Sto} {t : String} {b : Bool} {i : Int} {s : List Nat} {xs : List D} {ns : List Int} {kvs : List (Key × D)} : isiG T μ (.dct kvs) t = some (isiD (.dct kvs) t) := rfl
section
variable {K : PySem.W.Frag} {mg : Str → Option Value} {T : ITab}
theorem tyX_of {F H : Hp} {μ : Sto} {v : V} {d : D} (o : Ok K mg F μ H) (w : Wk K mg F μ H v d) (h : isiOk d = true) : ∃ t, t ∈ typs ∧ TyX K H v (.type t) ∧ ∀ T, isiD d T = isiB t T := by
  cases d <;> first | exact (Bool.false_ne_true h).elim | skip
  · cases w.non; exact ⟨"NoneType", by decide, .base .non, fun T => by simp [isiB, eq_comm]⟩
  · cases w.bl; exact ⟨"bool", by decide, .base (.bl _), fun T => by simp [isiB, eq_comm]⟩
  · cases w.int; exact ⟨"int", by decide, .base (.int _), fun T => by simp [isiB, eq_comm]⟩
  · cases w.str; exact ⟨"str", by decide, .base (.str _), fun T => by simp [isiB, eq_comm]⟩
  · obtain ⟨a, vs, rfl, ha, _⟩ := w.tup o; exact ⟨"tuple", by decide, sqT_tyx ha, fun T => by simp [isiB, eq_comm]⟩
  · obtain ⟨a, vs, rfl, ha, _⟩ := w.lst o; exact ⟨"list", by decide, .base (.lst ha), fun T => by simp [isiB, eq_comm]⟩
  · obtain ⟨a, vs, rfl, ha, _⟩ := w.dct o; exact ⟨"dict", by decide, .base (.dK ha), fun T => by simp [isiB, eq_comm]⟩
  · obtain ⟨a, rfl, ha⟩ := w.scr o; exact ⟨"list", by decide, sqL_tyx ha, fun T => by simp [isiB, eq_comm]⟩
theorem InsC.isSome {C : Addr} (i : InsC K C) : (PySem.W.clsIn K C).isSome = true := by
  obtain ⟨cd, hc, _⟩ := PySem.W.any_some i.cl.hd
  rw [hc]; rfl
theorem kit_blt {Q : Addr} (i : InsC K Q) {t : String} (ht : t ∈ typs) : PySem.W.kitOne K (.type t) (.ref Q) = some false := by
  unfold PySem.W.kitOne
  rw [if_neg (by simp)]
  unfold PySem.W.kitCls
  dsimp only
  rw [i.isSome, i.ty, if_pos (by simp)]
  exact typs_sub t ht
theorem metaT : ∀ t ∈ typs, PySem.W.kitMeta t = true := by decide +kernel
theorem kit_ownT {C : Addr} (i : InsC K C) {t : String} (ht : t ∈ typs) : PySem.W.kitOne K (.ref C) (.type t) = some false := by
  refine kit_subT (metaT t ht) ?_
  have := List.all_eq_true.mp (show (typs.all fun n => PySem.W.subIn K (.ref C) (.type n) == some false) = true from i.no) t ht
  exact beq_iff_eq.mp this
theorem cs_isiO (hT : ITabOk K mg T) : CallS K mg (rIsi K) (rdIsiO T) := by
  intro F μ H vs ds Qd Q o w h k
  unfold rdIsiO at h
  split at h
  · rename_i d q
    obtain ⟨u, v, rfl, wk, wt⟩ := w.two
    obtain ⟨b, hb, q0⟩ := optK_iff h
    obtain ⟨A, rfl, hA⟩ : ∃ A, v = .ref A ∧ mg q = some (.ref A) := by
      rcases wt with wt | ⟨a, vs, xs, _, e, _⟩
      · cases wt with
        | gl e => exact ⟨_, rfl, e⟩
      · cases e
    unfold isiF at hb
    split at hb
    · rename_i hi
      split at hb <;> cases hb
      rename_i hh
      obtain ⟨z, hz, hq⟩ := List.any_eq_true.mp hh
      have hq := of_decide_eq_true hq
      obtain ⟨C, A', h1, h2, i1, i2, _⟩ := hT.own z hz
      rw [hq, hA] at h2
      cases h2
      obtain ⟨t, ht, tx, _⟩ := tyX_of o wk hi
      exact ⟨u, .ref A, .type t, .ref A, false, rfl, .own A, tx, kit_blt i2 ht, fin0 o k (.bl _) q0⟩
    · cases hx : insOf μ d with
      | none => rw [hx] at hb; cases hb
      | some z =>
        rw [hx] at hb
        obtain ⟨c, fs⟩ := z
        have hb : T.get c q = some b := hb
        unfold ITab.get at hb
        obtain ⟨y, hy, rfl⟩ := Option.map_eq_some_iff.mp hb
        have hm := List.mem_of_find?_eq_some hy
        have hp := List.find?_some hy
        rw [Bool.and_eq_true, decide_eq_true_eq, decide_eq_true_eq] at hp
        obtain ⟨rfl, rfl⟩ := hp
        obtain ⟨C, A', h1, h2, i1, i2, h3⟩ := hT.own y hm
        rw [hA] at h2
        cases h2
        obtain ⟨a, C', dx, vfs, rfl, g1, g2, g3⟩ := insOf_v o (wk.ins hx) hx
        cases h1.symm.trans g1
        exact ⟨.ref a, .ref A, .ref C, .ref A, y.2, rfl, .own A, .base (.ins g2 i1.cl i1.ha i1.hn i1.ht i1.hm), h3, fin0 o k (.bl _) q0⟩
  · rename_i d t
    obtain ⟨u, v, rfl, wk, wt⟩ := w.two
    obtain ⟨htt, h⟩ := h
    obtain ⟨b, hb, q0⟩ := optK_iff h
    have ev : v = .ty t := by
      rcases wt with wt | ⟨a, vs, xs, _, e, _⟩
      · cases wt; rfl
      · cases e
    subst ev
    unfold isiG at hb
    split at hb
    · rename_i hi
      cases hb
      obtain ⟨t', ht', tx, e⟩ := tyX_of o wk hi
      exact ⟨u, .ty t, .type t', .type t, isiB t' t, rfl, .ty t, tx, kit_ty (isi_kit t' ht' t htt), fin0 o k (.bl _) (e t ▸ q0)⟩
    · cases hx : insOf μ d with
      | none => rw [hx] at hb; cases hb
      | some z =>
        rw [hx] at hb
        obtain ⟨c, fs⟩ := z
        have hb : (if T.hasC c then some false else none) = some b := hb
        split at hb <;> cases hb
        rename_i hh
        obtain ⟨y, hy, hq⟩ := List.any_eq_true.mp hh
        have hq := of_decide_eq_true hq
        obtain ⟨C, A', h1, h2, i1, i2, _⟩ := hT.own y hy
        obtain ⟨a, C', dx, vfs, rfl, g1, g2, g3⟩ := insOf_v o (wk.ins hx) hx
        rw [hq, g1] at h1
        cases h1
        exact ⟨.ref a, .ty t, .ref C, .type t, false, rfl, .ty t, .base (.ins g2 i1.cl i1.ha i1.hn i1.ht i1.hm), kit_ownT i1 htt, fin0 o k (.bl _) q0⟩
  · exact h.elim
end
section
open Builtin PySem.W
variable {prog : Program} {w : World} {A : Around} {E : Value → Shared → Prop} {s : Shared} {K : PySem.W.Frag} {x C L f : Addr} {h₀ : Heap} {m : Str → Option Value} {ox : Obj} {od : Option Obj}
theorem bool_own {Q : Value → Shared → Prop} (Fr₀ : Fr h₀ L s.heap m) (X₀ : K.In h₀) (I : InstAt s.heap x ox C od) (hs : findIn K (.ref C) "__bool__" = some (some (.ref f))) (hf : isFn K (.ref f) = true)
    (h : wpAny (model prog w) A.in1.in1 (call (.ref f) [.ref x]) (PySem.W.BoolBack fun b => Q (.bool b)) E s) : wpAny (model prog w) A (call (.type "bool") [.ref x]) Q E s := by
  refine callType_codes (T := "bool") (newId := "bool.__new__") (Bi := Builtin.«object.__init__») (Q₁ := fun r s₁ => ∃ y, r = .bool y ∧ Q r s₁) PySem.F.called_bool (PySem.F.typeCall_bool_1 _) PySem.F.entry_object_init ?_ ?_
  · refine codeAny_of_tree ?_
    show wpAny _ A.in1.in1 (do checkBuiltinCall "bool.__new__" ⟨[.type "bool", .ref x], []⟩; again (.builtin "bool.__new__" ⟨[.type "bool", .ref x], []⟩)) _ _ s
    refine wpAny_bind (wpAny_of_eq (PySem.F.newCall_bool_1 _) (wpAny_pure ⟨plainId_quiet (by decide +kernel) _, codeAny_builtin PySem.F.entry_bool_new ?_⟩))
    rw [Around.under_plainId (by decide +kernel) _]
    have f1 := PySem.F.conv_sub_bool
    obtain ⟨hp, g, d, tk, os⟩ := s
    have tr : ∀ _ : Nat, wpAny (model prog w) A.in1.in1 (truthy (.ref x)) (fun b s' => ∃ y, (Value.bool b) = .bool y ∧ Q (.bool b) s') E ⟨hp, g, d, tk, os⟩ := fun _ =>
      truthy_K Fr₀ X₀ I hs hf (wpAny_mono h (fun r s' hr => by cases r <;> first | exact hr.elim | exact ⟨_, rfl, hr⟩) fun _ _ y => y)
    repeat (any_goals (first | assumption | (with_reducible refine wpAny_bind (wpAny_mono (tr tk) ?_ fun _ _ y => y)) | wp_step))
    exact fun a s z => wpAny_pure z
  · rintro obj s₁ ⟨y, rfl, hq⟩
    exact ⟨rfl, PySem.F.args_object_init_2 _ _, object_init_meets PySem.F.called_bool.init.lookup PySem.F.called_bool.made (by decide) prog w A.in1 _ s₁ ⟨rfl, rfl, hq⟩⟩
end
section
variable {X : Cx} {k : Nat} {Ss : List (Str × DSp)}
@[simp] def tBoolD : D → Sto → DK → Prop := fun v μ Q => ∃ b, v = .bl b ∧ Q (.bl b) μ
def tBoolV : V → Hp → VK → Prop := fun v H Q => ∃ b, v = .bl b ∧ Q (.bl b) H
theorem call_boolO (quiet : Quiet X.A) (room : Room (k + 2) X.A) : CallR X (.type "bool") (rUnO X k "__bool__" tBoolV) := by
  intro pins s σ H xs us Q I r h
  obtain ⟨x, rfl, a, C, dx, fs, f, rr, sp, e, ha, M, q⟩ := h
  cases e
  obtain rfl := Vals.ref1 r
  obtain ⟨ox, od, J⟩ := inst_of I ha
  obtain ⟨m', hF⟩ := I.fr
  refine bool_own hF I.ok.mod.kin J M.at_ M.fn (wpAny_mono (run_in2 (us := [.ref a]) (vs := [.ref a]) M.run quiet room (passAt takesN σ) I (.cons rfl .nil) q) (fun r s' hr => ?_) fun _ _ e => e)
  obtain ⟨w, H', I', rw_, b, rfl, q'⟩ := hr
  cases rw_
  exact ⟨.bl b, H', I', rfl, q'⟩
theorem cs_boolO (hc : ∀ p ∈ Ss, DCal X.prog X.w X.K X.mg X.base k "__bool__" p.1 p.2) : CallS X.K X.mg (rUnO X k "__bool__" tBoolV) (rdUnO Ss tBoolD) :=
  cs_unO hc fun v d F μ H Qd Q o w h kk => by
    obtain ⟨b, rfl, q⟩ := h
    cases w
    exact ⟨_, rfl, kk _ F μ H _ .refl o (.bl _) q⟩
/-- .. as DCal, and object's __ne__ -/
def NCal (P : Program) (w : World) (K : PySem.W.Frag) (mg : Str → Option Value) (base : Heap) (k : Nat) (c : Str) (S : DSp) : Prop :=
  DCal P w K mg base k "__eq__" c S ∧ ∃ C, mg c = some (.ref C) ∧ PySem.W.findIn K (.ref C) "__ne__" = some (some (.builtin "object.__ne__")) ∧ PySem.W.subIn K (.ref C) (.type "object") = some true
end
end DL

namespace DL
open PySem PySem.Spec PyProof.Rows L2
section
open Builtin PySem.W
variable {prog : Program} {w : World} {A : Around} {E : Value → Shared → Prop} {s : Shared} {K : PySem.W.Frag} {x C L f : Addr} {h₀ : Heap} {m : Str → Option Value} {ox : Obj} {od : Option Obj}
theorem ne_body {b : Value} {Q : Fin → Shared → Prop} (Xk : K.In s.heap) (I : InstAt s.heap x ox C od) (hu : A.units < cLine) (hs : findIn K (.ref C) "__eq__" = some (some (.ref f))) (hf : isFn K (.ref f) = true)
    (h : wpAny (model prog w) A (call (.ref f) [.ref x, b]) (PySem.W.BoolBack fun k s' => Q (.done (.ret (.bool (!k)))) s') E s) : wpAny (model prog w) A (Builtin.«object.__ne__» ⟨[.ref x, b], []⟩) Q E s := by
  unfold Builtin.«object.__ne__»
  repeat (first
    | with_reducible refine wpAny_cRoomFor hu ?_
    | (refine wpAny_bind (m := callSpecialIfBound? (.ref x) (Str.ofString "__eq__") [b]) (ifBound_K Xk I hs hf (wpAny_mono h (fun r s' hr => ?_) fun _ _ e => e)))
    | wp_step)
  cases r <;> first | exact hr.elim | skip
  repeat (first | exact hr | exact wpAny_pure hr | exact wpAny_truthy_bool hr | (refine wpAny_bind (m := truthy (.bool _)) (wpAny_truthy_bool ?_)) | wp_step)
theorem ne_try {b : Value} {Q : Value → Shared → Prop} (Xk : K.In s.heap) (I : InstAt s.heap x ox C od) (hu : A.in1.units < cLine) (hs : findIn K (.ref C) "__eq__" = some (some (.ref f))) (hf : isFn K (.ref f) = true)
    (hn : findIn K (.ref C) "__ne__" = some (some (.builtin "object.__ne__"))) (ho : subIn K (.ref C) (.type "object") = some true)
    (h : wpAny (model prog w) A.in1 (call (.ref f) [.ref x, b]) (PySem.W.BoolBack fun k => Q (.bool (!k))) E s) : wpAny (model prog w) A (tryCompare (.ref x) "__ne__" b) (fun r s' => ∃ v, r = some v ∧ Q v s') E s := by
  have S := PySem.F.cmp_object.ne
  have run : wpAny (model prog w) A (call (.builtin "object.__ne__") [.ref x, b]) (fun v s' => ∃ k, v = .bool k ∧ Q (.bool k) s') E s := by
    refine wpAny_call (codeAny_call_builtin S.plain PySem.F.cmpEntry_ne ?_)
    have body := ne_body (A := A.in1) (Q := fun fin s' => match fin with | .done f => wants (fun v s' => ∃ k, v = .bool k ∧ Q (.bool k) s') E (.ok f) s' | .again c => False) Xk I hu hs hf (wpAny_mono h (fun r s' z => by cases r <;> first | exact z.elim | exact ⟨_, rfl, z⟩) fun _ _ y => y)
    simp only [checkBuiltinCall, PySem.F.cmpKind_ne, PySem.F.cmpSplit_ne]
    refine wpAny_bind ?_
    unfold isInstance
    refine wpAny_bind (I.type.here ((looks_subIn Xk ho).here ?_))
    rw [if_neg (by simp)]
    have args := PySem.F.cmpArgs_ne (.ref x) b
    unfold argsOk at args
    have body' := wpAny_mono (A := A.in1) body (Q' := fun fin s' => match fin with
      | Fin.done f => (match (Except.ok f : Result) with | Except.ok (Flow.ret v) => ∃ k, v = Value.bool k ∧ Q (Value.bool k) s' | Except.ok a => False | Except.error e => E e s')
      | Fin.again c' => c'.quiet = true ∧ codeAny (model prog w) A c' (fun r s' => match r with | Except.ok (Flow.ret v) => ∃ k, v = Value.bool k ∧ Q (Value.bool k) s' | Except.ok a => False | Except.error e => E e s') s') (fun fin s' z => by
        cases fin with
        | done f => exact z
        | again c => exact z.elim) fun _ _ y => y
    cases hsig : Manifest.signature? "object.__ne__" with
    | none => exact wpAny_pure body'
    | some sig =>
      simp only [hsig] at args
      show wpAny _ _ (Bind.checkArgs "object.__ne__" sig ⟨[.ref x, b], []⟩) _ _ _
      rw [show Bind.checkArgs "object.__ne__" sig ⟨[.ref x, b], []⟩ = pure () from args]
      exact wpAny_pure body'
  unfold tryCompare
  refine wpAny_bind ?_
  simp only [callSpecialIfBound?, bindSpecialIfBound?]
  refine wpAny_holding (wpAny_bind (wpAny_bind (wpAny_bind (I.type.here ((looks_findIn Xk hn).here ?_)))))
  simp only [S.bind]
  refine wpAny_bind (wpAny_askSetting (wpAny_ite ?_))
  have fin : wpAny (model prog w) A (call (.builtin "object.__ne__") ([.ref x] ++ [b]) >>= fun v => pure (some v)) (fun r s' => ∃ k, r = some (.bool k) ∧ Q (.bool k) s') E s := wpAny_bind (wpAny_mono run (fun v s' z => by obtain ⟨k, rfl, q⟩ := z; exact wpAny_pure ⟨k, rfl, q⟩) fun _ _ y => y)
  have fin' : wpAny (model prog w) A (call (.builtin "object.__ne__") ([.ref x] ++ [b]) >>= fun v => pure (some v)) (fun a s' => wpAny (model prog w) A (match a with | some .notImplemented => pure none | none => pure none | some r => pure (some r)) (fun r s' => ∃ v, r = some v ∧ Q v s') E s') E s :=
    wpAny_mono fin (fun r s' z => by obtain ⟨k, rfl, q⟩ := z; exact wpAny_pure ⟨_, rfl, q⟩) fun _ _ y => y
  split
  · exact wpAny_bind (wpAny_pure (wpAny_pure fin'))
  · exact wpAny_tryCatch (wpAny_bind (wpAny_pure (wpAny_pure fin')))
theorem ne_own {b tb : Value} {Q : Value → Shared → Prop} (hu : A.in1.units < cLine) (Fr₀ : Fr h₀ L s.heap m) (X₀ : K.In h₀) (I : InstAt s.heap x ox C od) (hb : Looks (model prog w) s.heap (typeOf b) tb) (nf : notFirst K C tb = true)
    (hs : findIn K (.ref C) "__eq__" = some (some (.ref f))) (hf : isFn K (.ref f) = true)
    (hn : findIn K (.ref C) "__ne__" = some (some (.builtin "object.__ne__"))) (ho : subIn K (.ref C) (.type "object") = some true)
    (h : wpAny (model prog w) A.in1 (call (.ref f) [.ref x, b]) (PySem.W.BoolBack fun k => Q (.bool (!k))) E s) : wpAny (model prog w) A (richCompare .NotEq (.ref x) b) Q E s := by
  have Xk := X₀.keeps Fr₀.keep
  have two := ne_try Xk I hu hs hf hn ho h
  have hu' : A.units < cLine := Nat.lt_of_le_of_lt (Nat.le_succ _) hu
  unfold richCompare; simp only [oneThing_ref]
  refine wpAny_holding (wpAny_bind (wpAny_cRoomFor hu' (wpAny_bind (I.type.here (wpAny_bind (hb.here ?_))))))
  have fin : ∀ (g : Option Value → Sem Value), (∀ v, g (some v) = pure v) → wpAny (model prog w) A (tryCompare (.ref x) (cmpInfo .NotEq).2.1 b >>= g) Q E s := fun g hg => wpAny_bind (wpAny_mono two (fun r s' z => by obtain ⟨v, rfl, q⟩ := z; rw [hg]; exact wpAny_pure q) fun _ _ y => y)
  by_cases q : (Value.ref C != tb) = true
  · rw [if_pos q]
    have e : subIn K tb (.ref C) = some false := by
      unfold notFirst at nf
      rw [Bool.or_eq_true] at nf
      rcases nf with z | z
      · rw [beq_iff_eq.mp z] at q; simp at q
      · exact beq_iff_eq.mp z
    refine wpAny_bind ((looks_subIn Xk e).here ?_)
    exact fin _ fun v => rfl
  · rw [if_neg q]
    exact wpAny_bind (wpAny_pure (fin _ fun v => rfl))
end
section
variable {X : Cx} {k : Nat} {Ss : List (Str × DSp)}
def rNeO (X : Cx) (k : Nat) : R2 := fun x y H Q => TyS X.K H x y ∧ (∃ a C dx fs, x = .ref a ∧ H a = some (.ins C dx fs) ∧ PySem.W.findIn X.K (.ref C) "__ne__" = some (some (.builtin "object.__ne__")) ∧ PySem.W.subIn X.K (.ref C) (.type "object") = some true) ∧
  rM X k "__eq__" [x, y] H (fun v H' => ∃ b, v = .bl b ∧ Q (.bl (!b)) H') EF
theorem op_neO (quiet : Quiet X.A) (room : Room (k + 1) X.A) : OpR X (compareOp .NotEq) (rNeO X k) := by
  intro pins s σ H x y v u Q I rx ry h
  obtain ⟨ty, ⟨a, C, dx, fs, rfl, ha, n1, n2⟩, a', C', dx', fs', f, r, sp, e, ha', M, q⟩ := h
  cases e
  cases ha.symm.trans ha'
  obtain rfl : v = Value.ref a := rx
  obtain ⟨ox, od, J⟩ := inst_of I ha
  obtain ⟨m', hF⟩ := I.fr
  have hb : ∃ t, PySem.W.Looks (model X.prog X.w) s.heap (typeOf u) t ∧ PySem.W.notFirst X.K C t = true := by
    rcases tyS_look I ha ry ty with ⟨T, hT, L⟩ | L
    · exact ⟨_, L, notFirst_of (.inl ⟨T, hT, rfl⟩)⟩
    · exact ⟨_, L, notFirst_of (.inr rfl)⟩
  obtain ⟨t, L, n⟩ := hb
  refine ne_own (by have := room.in1.units; omega) hF I.ok.mod.kin J L n M.at_ M.fn n1 n2 (wpAny_mono (run_in1 (us := [.ref a, u]) (vs := [.ref a, y]) M.run quiet room (passAt takesN σ) I (.cons rfl (.cons ry .nil)) q) (fun r s' hr => ?_) fun _ _ e => e)
  obtain ⟨w, H', I', rw_, b, rfl, q'⟩ := hr
  cases rw_
  exact ⟨.bl _, H', I', rfl, q'⟩
@[simp] def rdNeO (Ss : List (Str × DSp)) : RD2 := fun x y μ Q => okS μ x y ∧ rdM Ss [x, y] μ (fun v μ' => blK v fun b => Q (.bl (!b)) μ') noD
theorem ops_neO (hc : ∀ p ∈ Ss, NCal X.prog X.w X.K X.mg X.base k p.1 p.2) : OpSE X.K X.mg (rNeO X k) (rdNeO Ss) := by
  intro F μ H x y dx dy Qd Q o wx wy h kk
  refine ⟨tyS_of o wx wy h.1, ?_, rdM_v (fun p hp => (hc p hp).1) o (.cons wx (.cons wy .nil)) h.2 (fun v F' μ' H' dv e o' w q => ?_) fun _ _ _ _ _ _ _ _ _ _ z => z.elim⟩
  · obtain ⟨c, fs, S, hx, hm, _⟩ := rdM_iff h.2
    obtain ⟨a, C, d, vfs, rfl, g1, g2, g3⟩ := insOf_v o wx hx
    obtain ⟨_, C', h1, h2, h3⟩ := hc _ hm
    cases g1.symm.trans h1
    exact ⟨a, C, d, vfs, rfl, g2, h2, h3⟩
  · obtain ⟨b, rfl, q⟩ := blK_iff q
    cases w
    exact ⟨b, rfl, kk _ F' μ' H' _ e o' (.bl _) q⟩
end
theorem FR.mono {P : Program} {w : World} {K : PySem.W.Frag} {mg : Str → Option Value} {base : Heap} {CX : CXT} {j k : Nat} {f : Addr} {sp : Sp} (h : FR P w K mg base CX j f sp) (hk : j ≤ k) : FR P w K mg base CX k f sp :=
  fun A outer s H us vs Q E q rm => h A outer s H us vs Q E q (rm.mono hk)
theorem kit_self {K : PySem.W.Frag} {C : Addr} : PySem.W.kitOne K (.ref C) (.ref C) = some true := by unfold PySem.W.kitOne; rw [if_pos (by simp)]
theorem noTyps_of {K : PySem.W.Frag} {C : Addr} (h1 : PySem.W.subIn K (.ref C) (.type "NoneType") = some false) (h2 : PySem.W.subIn K (.ref C) (.type "bool") = some false) (h3 : PySem.W.subIn K (.ref C) (.type "int") = some false) (h4 : PySem.W.subIn K (.ref C) (.type "str") = some false)
    (h5 : PySem.W.subIn K (.ref C) (.type "list") = some false) (h6 : PySem.W.subIn K (.ref C) (.type "tuple") = some false) (h7 : PySem.W.subIn K (.ref C) (.type "dict") = some false) : noTyps K C = true := by
  show (typs.all fun n => PySem.W.subIn K (.ref C) (.type n) == some false) = true
  simp [h1, h2, h3, h4, h5, h6, h7]
end DL

namespace DL
open PySem PySem.Spec PyProof.Rows L2
def rdEnds : RDm
  | .str s, [.str t], μ, Q => Q (.bl (decide (t <:+ s))) μ
  | _, _, _, _ => False
@[simp] theorem rdEnds_1 {s t : List Nat} {μ : Sto} {Q : DK} : rdEnds (.str s) [.str t] μ Q = Q (.bl (decide (t <:+ s))) μ := rfl
end DL

namespace DL
open PySem PySem.Spec PyProof.Rows L2
/-- the jar at j, its cells at c, at most b draws so far -/
def Jar (j c : Addr) (b : Nat) (μ : Sto) : Prop := ∃ (n : Nat) (cells : List Nat), n ≤ b ∧ j ≠ c ∧ μ j = some (.lst [.ref c, .int n]) ∧ μ c = some (.lst (cells.map fun x : Nat => D.int x)) ∧ cells.length ≤ 63
/-- nothing else has changed -/
def Same (j c : Addr) (μ μ' : Sto) : Prop := ∀ a, a ≠ j → a ≠ c → μ' a = μ a
theorem Jar.le {j c : Addr} {b b' : Nat} {μ : Sto} (h : Jar j c b μ) (le : b ≤ b') : Jar j c b' μ := by
  obtain ⟨n, cells, hn, r⟩ := h
  exact ⟨n, cells, Nat.le_trans hn le, r⟩
theorem Same.refl {j c : Addr} {μ : Sto} : Same j c μ μ := fun _ _ _ => rfl
theorem Same.trans {j c : Addr} {μ μ1 μ2 : Sto} (h : Same j c μ μ1) (g : Same j c μ1 μ2) : Same j c μ μ2 := fun a x y => (g a x y).trans (h a x y)
/-- what a drawing def promises: from a jar of at most b draws (b small) to one of at most b + k, result as R says -/
def drawSp (k : Nat) (pre : List D → (D → Prop) → Prop) : DSp := fun ds μ Q _ => ∃ j c b r, ds = .ref j :: r ∧ Jar j c b μ ∧ b + k ≤ 1000000 ∧ ∃ R, pre r R ∧ ∀ d μ', R d → Jar j c (b + k) μ' → Same j c μ μ' → Q d μ'
/-- since μ0: a jar of at most b draws, nothing else changed -/
def St (j c : Addr) (μ0 : Sto) (b : Nat) (μ : Sto) : Prop := Jar j c b μ ∧ Same j c μ0 μ
theorem St.le {j c : Addr} {b b' : Nat} {μ0 μ : Sto} (h : St j c μ0 b μ) (le : b ≤ b') : St j c μ0 b' μ := ⟨h.1.le le, h.2⟩
theorem draw_ok {k : Nat} {pre : List D → (D → Prop) → Prop} {j c : Addr} {b : Nat} {μ0 μ : Sto} {r : List D} {R : D → Prop} {Q : DK} {E : DXK} (h : St j c μ0 b μ) (hb : b + k ≤ 1000000) (hp : pre r R)
    (q : ∀ d μ', R d → St j c μ0 (b + k) μ' → Q d μ') : drawSp k pre (.ref j :: r) μ Q E := ⟨j, c, b, r, rfl, h.1, hb, R, hp, fun d μ' h1 h2 h3 => q d μ' h1 ⟨h2, h.2.trans h3⟩⟩
/-- the items of a list, a tuple, a text -/
inductive Items : D → List D → Prop
  | lst {xs : List D} : Items (.lst xs) xs
  | tup {xs : List D} : Items (.tup xs) xs
  | str {s : List Nat} : s.length ≤ SZ → Items (.str s) (strD s)
/-- a word of small letters -/
def Low (s : List Nat) : Prop := ∀ c ∈ s, 97 ≤ c ∧ c ≤ 122
theorem flat_ones : ∀ l : List Nat, (l.map fun c => [c]).flatten = l
  | [] => rfl
  | a :: r => by
    show [a] ++ (r.map fun c => [c]).flatten = a :: r
    rw [flat_ones r]; rfl
theorem joinL_nil (ls : List (List Nat)) : joinL [] ls = ls.flatten := by
  cases ls with
  | nil => rfl
  | cons a r =>
    show a ++ (r.map fun x => [] ++ x).flatten = (a :: r).flatten
    rw [List.flatten_cons]
    congr 2
    exact List.map_id' r
theorem joinL_ones (l : List Nat) : joinL [] (l.map fun c => [c]) = l := by rw [joinL_nil, flat_ones]
theorem Low.append {s t : List Nat} (h : Low s) (g : Low t) : Low (s ++ t) := fun c hc => (List.mem_append.mp hc).elim (h c) (g c)
theorem Low.take {s : List Nat} (h : Low s) (n : Nat) : Low (s.take n) := fun c hc => h c (List.mem_of_mem_take hc)
theorem Low.reverse {s : List Nat} (h : Low s) : Low s.reverse := fun c hc => h c (List.mem_reverse.mp hc)
theorem Low.repl {s : List Nat} (h : Low s) (n : Nat) : Low (repl n s) := fun c hc => by
  unfold DL.repl at hc
  obtain ⟨l, hl, hc⟩ := List.mem_flatten.mp hc
  rw [(List.mem_replicate.mp hl).2] at hc
  exact h c hc
theorem Low.lt {s : List Nat} (h : Low s) : ∀ c ∈ s, c < 1114112 := fun c hc => by have := h c hc; omega
/-- a text is joined from its signs -/
theorem sum_ones (l : List Nat) : ((l.map fun c => [c]).map List.length).sum = l.length := by
  induction l with
  | nil => rfl
  | cons a r ih => simp at ih ⊢; omega
theorem strD_map (l : List Nat) : strD l = (l.map fun c => [c]).map D.str := by unfold strD; rw [List.map_map]; rfl
theorem strD_app (l r : List Nat) : strD (l ++ r) = strD l ++ strD r := by simp [strD]
end DL

namespace DL
open PySem PySem.Spec PyProof.Rows L2
end DL

namespace DL
open PySem PySem.Spec PyProof.Rows L2
/-- the first pick, from a place on: places -/
def fp (one : List Nat) : List Nat → Nat → List Nat
  | [], _ => []
  | c :: r, b => match (one.drop b).findIdx? (· == c) with
    | some k => (b + k) :: fp one r (b + k + 1)
    | none => []

def sp_first_pick : DSp := fun ds μ Q _ => ∃ one other : List Nat, ds = [.str one, .str other] ∧ one.length ≤ 1000 ∧ other.length ≤ 1000 ∧ Q (.tup (nats (fp one other 0))) μ
/-- first_pick(one, other); slots 0:one 1:other 2:found 3:begin 4:letter 5:place -/
def b_first_pick : TSD :=
  (dSeq (dSetR 2 (dOwn (dLstF dNil)))
  (dSeq (dSetR 3 (dVal (dC (.int 0))))
  (dSeq (dFor (dEach (dVar 1)) (dName 4)
  (dSeq (dSetR 5 (dVal (dMt "str" rdFind (dLook 0) (dCons (dLook 4) (dCons (dLook 3) dNil)))))
  (dSeq (dIfS (dB (dOp rdLt (dLook 5) (dC (.int 0))))
  dBreak
  dNext)
  (dSeq (dApp 2 (dVar 5))
  (dSetR 3 (dVal (dOp rdAdd (dLook 5) (dC (.int 1)))))))))
  (dRet (dFn rdTuple (dCons (dLook 2) dNil))))))
theorem len_first_pick : ∀ ds μ Q E, sp_first_pick ds μ Q E → ds.length = 2 := by
  rintro ds μ Q E ⟨one, other, rfl, _⟩; rfl
theorem fp_cons (one : List Nat) (c : Nat) (r : List Nat) (b : Nat) : fp one (c :: r) b = match (one.drop b).findIdx? (· == c) with
    | some k => (b + k) :: fp one r (b + k + 1)
    | none => [] := rfl
theorem ok_first_pick : ∀ ds μ Q E, sp_first_pick ds μ Q E → b_first_pick { nx := fun _ μ' => Q .non μ', rt := Q } (startD 6 ds) μ := by
  rintro ds μ Q E ⟨one, other, rfl, h1, h2, q⟩
  simp [b_first_pick]
  refine forD_inv (fun xs ρ μ' => μ' = μ ∧ ∃ rest pre b L z x4 x5, xs = strD rest ∧ ρ = [some (.val (.str one)), some (.val (.str other)), some (.own L), some (.val (.int z)), x4, x5] ∧ L = nats pre ∧ z = ((b : Nat) : Int) ∧ pre ++ fp one rest b = fp one other 0 ∧ pre.length + rest.length ≤ 1000)
    (fun _ _ _ _ => trivial) ?_ ?_ _ _ _ ⟨rfl, other, [], 0, [], 0, none, none, rfl, rfl, rfl, rfl, rfl, by simpa using h2⟩
  · rintro x xs ρ μ' n ⟨rfl, rest, pre, b, L, z, x4, x5, hx, rfl, rfl, rfl, hp, hl⟩ hn
    obtain ⟨c, r, rfl, rfl, rfl⟩ := strD_inv hx
    rw [fp_cons] at hp
    simp [findI]
    cases e : (one.drop b).findIdx? (· == c) with
    | none =>
      rw [e] at hp
      simp at hp
      simp
      rw [hp]
      simpa [rdTuple, seqOf] using q
    | some k =>
      rw [e] at hp
      simp at hl
      simp [show ¬ ((b : Int) + k < 0) by omega]
      refine ⟨by omega, hn _ _ ⟨rfl, r, pre ++ [b + k], b + k + 1, _, _, _, _, rfl, rfl, by simp, by simp, by simpa using hp, by simp; omega⟩⟩
  · rintro ρ μ' ⟨rfl, rest, pre, b, L, z, x4, x5, hx, rfl, rfl, rfl, hp, hl⟩
    cases strD_nil_inv hx
    simp [fp] at hp
    simp [rdTuple, seqOf, hp]
    exact q
def sp_count_picked : DSp := fun ds μ Q _ => ∃ one other : List Nat, ds = [.str one, .str other] ∧ one.length ≤ 1000 ∧ other.length ≤ 1000 ∧ Q (.int (fp one other 0).length) μ
/-- count_picked(one, other); slots 0:one 1:other -/
def b_count_picked : TSD :=
  (dRet (dFn rdLen (dCons (dCall sp_first_pick (dCons (dVar 0) (dCons (dVar 1) dNil)) noD) dNil)))
theorem len_count_picked : ∀ ds μ Q E, sp_count_picked ds μ Q E → ds.length = 2 := by
  rintro ds μ Q E ⟨one, other, rfl, _⟩; rfl
theorem ok_count_picked : ∀ ds μ Q E, sp_count_picked ds μ Q E → b_count_picked { nx := fun _ μ' => Q .non μ', rt := Q } (startD 2 ds) μ := by
  rintro ds μ Q E ⟨one, other, rfl, h1, h2, q⟩
  simp [b_count_picked]
  exact ⟨one, other, rfl, h1, h2, by simpa [seqOf] using q⟩
def sp_price : DSp := fun ds μ Q _ => ∃ one other : List Nat, ds = [.str one, .str other] ∧ one.length ≤ 1000 ∧ other.length ≤ 1000 ∧ Q (.int (other.length - (fp one other 0).length)) μ
/-- price(one, other); slots 0:one 1:other -/
def b_price : TSD :=
  (dRet (dOp rdSub (dFn rdLen (dCons (dLook 1) dNil)) (dCall sp_count_picked (dCons (dVar 0) (dCons (dVar 1) dNil)) noD)))
theorem len_price : ∀ ds μ Q E, sp_price ds μ Q E → ds.length = 2 := by
  rintro ds μ Q E ⟨one, other, rfl, _⟩; rfl
theorem ok_price : ∀ ds μ Q E, sp_price ds μ Q E → b_price { nx := fun _ μ' => Q .non μ', rt := Q } (startD 2 ds) μ := by
  rintro ds μ Q E ⟨one, other, rfl, h1, h2, q⟩
  simp [b_price]
  exact ⟨by omega, one, other, rfl, h1, h2, by simpa using q⟩
end DL

namespace DL
open PySem PySem.Spec PyProof.Rows L2
end DL

namespace DL
open PySem PySem.Spec PyProof.Rows L2
def btw (v : D) (lo hi : Int) : Bool := match v with
  | .int i => decide (lo ≤ i) && decide (i ≤ hi)
  | _ => false
def sp_is_between : DSp := fun ds μ Q _ => ∃ (v : D) (lo hi : Int), ds = [v, .int lo, .int hi] ∧ isiOk v = true ∧ Q (.bl (btw v lo hi)) μ
/-- is_between(value, low, high); slots 0:value 1:low 2:high -/
def b_is_between : TSD :=
  (dRet (dAndV (dFn rdIsi (dCons (dLook 0) (dCons (dC (.ty "int")) dNil))) (dAndV (dNotV (dFn rdIsi (dCons (dLook 0) (dCons (dC (.ty "bool")) dNil)))) (dChain rdLe rdLe (dLook 1) (dLook 0) (dLook 2)))))
theorem len_is_between : ∀ ds μ Q E, sp_is_between ds μ Q E → ds.length = 3 := by
  rintro ds μ Q E ⟨v, lo, hi, rfl, _⟩; rfl
theorem ok_is_between : ∀ ds μ Q E, sp_is_between ds μ Q E → b_is_between { nx := fun _ μ' => Q .non μ', rt := Q } (startD 3 ds) μ := by
  rintro ds μ Q E ⟨v, lo, hi, rfl, hv, q⟩
  unfold b_is_between
  cases v <;> first | exact (Bool.false_ne_true hv).elim | skip
  case int i =>
    simp
    have q : Q (.bl (decide (lo ≤ i) && decide (i ≤ hi))) μ := q
    split
    · rename_i h; rw [decide_eq_true h] at q; simpa using q
    · rename_i h; rw [decide_eq_false h] at q; simpa using q
  all_goals
    unfold btw at q
    simp
    exact q
/-- the letters of one at the places l, one behind the other -/
def inc (l : List Nat) : Bool := (l.zip (l.drop 1)).all fun p => decide (p.1 < p.2)
end DL

namespace DL
open PySem PySem.Spec PyProof.Rows L2
@[simp] theorem inc_nil : inc [] = true := rfl
@[simp] theorem inc_one (x : Nat) : inc [x] = true := rfl
end DL

namespace DL
open PySem PySem.Spec PyProof.Rows L2
/-- the deck at j, its great cells at c, at most b draws without them so far -/
def Deck (j c : Addr) (b : Nat) (μ : Sto) : Prop := ∃ (n : Nat) (cells great : List Nat), n ≤ b ∧ j ≠ c ∧ cells ≠ [] ∧ cells.length ≤ 64 ∧ μ j = some (.lst [.ref c, .lst (nats cells), .int n]) ∧ μ c = some (.lst (nats great)) ∧ great.length ≤ 63
def StD (j c : Addr) (μ0 : Sto) (b : Nat) (μ : Sto) : Prop := Deck j c b μ ∧ Same j c μ0 μ
theorem Deck.le {j c : Addr} {b b' : Nat} {μ : Sto} (h : Deck j c b μ) (le : b ≤ b') : Deck j c b' μ := by
  obtain ⟨n, m, cells, hn, r⟩ := h
  exact ⟨n, m, cells, Nat.le_trans hn le, r⟩
theorem StD.le {j c : Addr} {b b' : Nat} {μ0 μ : Sto} (h : StD j c μ0 b μ) (le : b ≤ b') : StD j c μ0 b' μ := ⟨h.1.le le, h.2⟩
end DL

namespace DL
open PySem PySem.Spec PyProof.Rows L2
/-- a stroke: letter, force; or a tear -/
abbrev HI := Option (Nat × Nat)
end DL

namespace DL
open PySem PySem.Spec PyProof.Rows L2
end DL

namespace DL
open PySem PySem.Spec PyProof.Rows L2
/-- the words after a stroke -/
def wstroke (ws : List (List Nat)) (t c f : Nat) : List (List Nat) := ws.zipIdx.map fun p => if t ≤ p.2 ∧ p.2 < t + f then p.1 ++ [c] else p.1
/-- what the strokes write on sheet i, from the top sheet t on -/
def lt : List HI → Nat → Nat → List Nat
  | [], _, _ => []
  | none :: r, t, i => lt r (t + 1) i
  | some (c, f) :: r, t, i => if t ≤ i ∧ i < t + f then c :: lt r t i else lt r t i
def wr : List HI → Nat → List (List Nat) → List (List Nat)
  | [], _, ws => ws
  | none :: r, t, ws => wr r (t + 1) ws
  | some (c, f) :: r, t, ws => wr r t (wstroke ws t c f)
end DL

namespace DL
open PySem PySem.Spec PyProof.Rows L2
def isLet : D → Bool
  | .str [c] => decide (97 ≤ c) && decide (c ≤ 122)
  | _ => false
abbrev abcz : List Nat := [97, 98, 99, 100, 101, 102, 103, 104, 105, 106, 107, 108, 109, 110, 111, 112, 113, 114, 115, 116, 117, 118, 119, 120, 121, 122]
theorem mem_abcz (c : Nat) : c ∈ abcz ↔ 97 ≤ c ∧ c ≤ 122 := by
  simp [abcz]
  omega
/-- texts are not too long -/
def sOk : D → Prop
  | .str s => s.length ≤ SZ
  | _ => True
def sp_is_letter : DSp := fun ds μ Q _ => ∃ v : D, ds = [v] ∧ isiOk v = true ∧ sOk v ∧ Q (.bl (isLet v)) μ
/-- is_letter(value); slots 0:value -/
def b_is_letter : TSD :=
  (dRet (dAndV (dFn rdIsi (dCons (dLook 0) (dCons (dC (.ty "str")) dNil))) (dAndV (dOp rdEq (dFn rdLen (dCons (dLook 0) dNil)) (dC (.int 1))) (dOp rdIn (dLook 0) (dC (.str [97, 98, 99, 100, 101, 102, 103, 104, 105, 106, 107, 108, 109, 110, 111, 112, 113, 114, 115, 116, 117, 118, 119, 120, 121, 122]))))))
theorem len_is_letter : ∀ ds μ Q E, sp_is_letter ds μ Q E → ds.length = 1 := by
  rintro ds μ Q E ⟨v, rfl, _⟩; rfl
theorem ok_is_letter : ∀ ds μ Q E, sp_is_letter ds μ Q E → b_is_letter { nx := fun _ μ' => Q .non μ', rt := Q } (startD 1 ds) μ := by
  rintro ds μ Q E ⟨v, rfl, hv, hs, q⟩
  unfold b_is_letter
  cases v <;> first | exact (Bool.false_ne_true hv).elim | skip
  case str s =>
    have hs : s.length ≤ SZ := hs
    simp at hs ⊢
    refine ⟨hs, ?_⟩
    split
    · rename_i h1
      obtain ⟨c, rfl⟩ : ∃ c, s = [c] := by
        match s, h1 with
        | [c], _ => exact ⟨c, rfl⟩
      simp
      have e : isLet (.str [c]) = decide (c ∈ abcz) := by
        unfold isLet
        rw [Bool.eq_iff_iff, decide_eq_true_eq, mem_abcz]; simp
      rw [e] at q
      simpa using q
    · rename_i h1
      have e : isLet (.str s) = false := by
        unfold isLet
        split
        · rename_i c h; cases h; simp at h1
        · rfl
      rw [e] at q
      exact q
  all_goals
    simp
    exact q
end DL

namespace DL
open PySem PySem.Spec PyProof.Rows L2
end DL

namespace DL
open PySem PySem.Spec PyProof.Rows L2
end DL

namespace DL
open PySem PySem.Spec PyProof.Rows L2
def strokes (h : List HI) : Nat := (h.filter Option.isSome).length
end DL

namespace DL
open PySem PySem.Spec PyProof.Rows L2
end DL

namespace DL
open PySem PySem.Spec PyProof.Rows L2
/-- the whole numbers that come about -/
def intB (B : Nat) (i : Int) : Prop := i.natAbs ≤ 40 + B ∨ (i - 100000000000000000000000000000000000000000000000000000000000).natAbs ≤ B ∨ (i + 100000000000000000000000000000000000000000000000000000000000).natAbs ≤ B
theorem intB.mono {B C : Nat} {i : Int} (h : intB B i) (hc : B ≤ C) : intB C i := by unfold intB at h ⊢; omega
mutual
def D.okx (B : Nat) : D → Prop
  | .non => True
  | .bl _ => True
  | .int i => intB B i
  | .str s => ∀ c ∈ s, c < 1114112
  | .tup xs => D.okxs B xs
  | .lst xs => D.okxs B xs
  | .dct kvs => kvs = [] ∨ kvs = [(.inr (S [97]), .int 1)]
  | .scr _ => False | .ref _ => False | .ty _ => False | .gl _ => False | .pr _ _ => False | .obj _ _ => False | .exn _ _ => False
def D.okxs (B : Nat) : List D → Prop
  | [] => True
  | x :: xs => x.okx B ∧ D.okxs B xs
end
mutual
def D.wx : D → Nat
  | .str s => s.length + 1
  | .tup xs => 1 + D.wxs xs
  | .lst xs => 1 + D.wxs xs
  | .int _ => 1 | .non => 1 | .bl _ => 1 | .dct _ => 1 | .scr _ => 0 | .ref _ => 0 | .ty _ => 0 | .gl _ => 0 | .pr _ _ => 0 | .obj _ _ => 0 | .exn _ _ => 0
def D.wxs : List D → Nat
  | [] => 0
  | x :: xs => x.wx + 1 + D.wxs xs
end
mutual
def D.dx : D → Nat
  | .tup xs => D.dxs xs + 1
  | .lst xs => D.dxs xs + 1
  | .dct _ => 1
  | .str _ => 0 | .int _ => 0 | .non => 0 | .bl _ => 0 | .scr _ => 0 | .ref _ => 0 | .ty _ => 0 | .gl _ => 0 | .pr _ _ => 0 | .obj _ _ => 0 | .exn _ _ => 0
def D.dxs : List D → Nat
  | [] => 0
  | x :: xs => max x.dx (D.dxs xs)
end
theorem okxs_iff {B : Nat} : ∀ {xs : List D}, D.okxs B xs ↔ ∀ x ∈ xs, x.okx B
  | [] => ⟨fun _ _ h => (nomatch h), fun _ => trivial⟩
  | x :: xs => by
    show (x.okx B ∧ D.okxs B xs) ↔ _
    rw [okxs_iff (xs := xs)]
    simp
theorem dxs_le {k : Nat} : ∀ {xs : List D}, D.dxs xs ≤ k ↔ ∀ x ∈ xs, x.dx ≤ k
  | [] => by simp [D.dxs]
  | x :: xs => by
    show max x.dx (D.dxs xs) ≤ k ↔ _
    rw [Nat.max_le, dxs_le (xs := xs)]
    simp
mutual
theorem okx_mono {B C : Nat} (hc : B ≤ C) : ∀ d : D, d.okx B → d.okx C
  | .non, h => h
  | .bl _, h => h
  | .int _, h => intB.mono h hc
  | .str _, h => h
  | .tup xs, h => okxs_mono hc xs h
  | .lst xs, h => okxs_mono hc xs h
  | .dct _, h => h
  | .scr _, h => h
  | .ref _, h => h
  | .ty _, h => h
  | .gl _, h => h
  | .pr _ _, h => h
  | .obj _ _, h => h
  | .exn _ _, h => h
theorem okxs_mono {B C : Nat} (hc : B ≤ C) : ∀ xs : List D, D.okxs B xs → D.okxs C xs
  | [], h => h
  | x :: xs, h => ⟨okx_mono hc x h.1, okxs_mono hc xs h.2⟩
end
/-- a value: leaves of B, of weight w, of depth k -/
structure Vl (B w k : Nat) (d : D) : Prop where
  ok : d.okx B
  wt : d.wx ≤ w
  dp : d.dx ≤ k
theorem Vl.mono {B w k B' w' k' : Nat} {d : D} (h : Vl B w k d) (h1 : B ≤ B') (h2 : w ≤ w') (h3 : k ≤ k') : Vl B' w' k' d := ⟨okx_mono h1 d h.ok, Nat.le_trans h.wt h2, Nat.le_trans h.dp h3⟩
theorem Vl.tup {B w k : Nat} {xs : List D} (h : ∀ x ∈ xs, x.okx B ∧ x.dx ≤ k) (hw : D.wxs xs ≤ w) : Vl B (1 + w) (k + 1) (.tup xs) :=
  ⟨okxs_iff.mpr fun x hx => (h x hx).1, by show 1 + D.wxs xs ≤ _; omega, by show D.dxs xs + 1 ≤ _; have := dxs_le.mpr fun x hx => (h x hx).2; omega⟩
theorem Vl.lst {B w k : Nat} {xs : List D} (h : ∀ x ∈ xs, x.okx B ∧ x.dx ≤ k) (hw : D.wxs xs ≤ w) : Vl B (1 + w) (k + 1) (.lst xs) :=
  ⟨okxs_iff.mpr fun x hx => (h x hx).1, by show 1 + D.wxs xs ≤ _; omega, by show D.dxs xs + 1 ≤ _; have := dxs_le.mpr fun x hx => (h x hx).2; omega⟩
end DL

namespace DL
open PySem PySem.Spec PyProof.Rows L2
end DL

namespace DL
open PySem PySem.Spec PyProof.Rows L2
def isWd : D → Bool
  | .str s => decide (s.length ≤ 30) && s.all fun c => decide (97 ≤ c) && decide (c ≤ 122)
  | _ => false
def sp_is_word : DSp := fun ds μ Q _ => ∃ v : D, ds = [v] ∧ isiOk v = true ∧ sOk v ∧ Q (.bl (isWd v)) μ
/-- is_word(value); slots 0:value 1:sign -/
def b_is_word : TSD :=
  (dRet (dAndV (dFn rdIsi (dCons (dLook 0) (dCons (dC (.ty "str")) dNil))) (dAndV (dOp rdLe (dFn rdLen (dCons (dLook 0) dNil)) (dC (.int 30))) (dFn rdAll (dCons (dF (dLc [1] (dEach (dVar 0)) (dName 1) dYes (dCall sp_is_letter (dCons (dVar 1) dNil) noD))) dNil)))))
theorem ok_is_word : ∀ ds μ Q E, sp_is_word ds μ Q E → b_is_word { nx := fun _ μ' => Q .non μ', rt := Q } (startD 2 ds) μ := by
  rintro ds μ Q E ⟨v, rfl, hv, hs, q⟩
  unfold b_is_word
  cases v <;> first | exact (Bool.false_ne_true hv).elim | skip
  case str s =>
    have hs : s.length ≤ SZ := hs
    simp at hs ⊢
    refine ⟨hs, ?_⟩
    split
    · rename_i h1
      refine lcD_list s (fun c => D.str [c]) (fun c => D.bl (isLet (.str [c]))) trivial (by show _ ≤ 16777216; omega) (fun c hc k hk => ?_) ?_
      · simp
        exact ⟨_, rfl, rfl, by show 1 ≤ 16777216; omega, hk⟩
      · refine ⟨s.map fun c => isLet (.str [c]), by rw [List.map_map]; rfl, ?_⟩
        have e : isWd (.str s) = s.all fun c => decide (97 ≤ c) && decide (c ≤ 122) := by show (decide (s.length ≤ 30) && _) = _; rw [decide_eq_true (by omega)]; rfl
        have e2 : (s.map fun c => isLet (D.str [c])).all id = isWd (.str s) := by
          rw [e, List.all_map]; rfl
        first
          | (rw [e2]; exact q)
          | (rw [← e2] at q; simpa using q)
    · rename_i h1
      have e : isWd (.str s) = false := by show (decide (s.length ≤ 30) && _) = _; rw [decide_eq_false (by omega)]; rfl
      rw [e] at q
      exact q
  all_goals
    simp
    exact q
end DL

namespace DL
open PySem PySem.Spec PyProof.Rows L2
end DL

namespace DL
open PySem PySem.Spec PyProof.Rows L2
/-- a Sheet -/
def obS (w : List Nat) : D := .obj "Sheet" [("letters", .str w)]
@[simp] theorem insOf_S {μ : Sto} {w : List Nat} : insOf μ (obS w) = some (("Sheet" : Str), [(("letters" : Str), D.str w)]) := rfl
@[simp] theorem isiOk_S {w : List Nat} : isiOk (obS w) = false := rfl
@[simp] theorem okS_S {μ : Sto} {a b : List Nat} : okS μ (obS a) (obS b) := okS_obj
@[simp] theorem okS_i {μ : Sto} {x : D} {i : Int} : okS μ x (.int i) := .inl rfl
@[simp] theorem okS_s {μ : Sto} {x : D} {s : List Nat} : okS μ x (.str s) := .inl rfl
@[simp] theorem okS_n {μ : Sto} {x : D} : okS μ x .non := .inl rfl
@[simp] theorem okS_b {μ : Sto} {x : D} {b : Bool} : okS μ x (.bl b) := .inl rfl
@[simp] theorem okS_t {μ : Sto} {x : D} {xs : List D} : okS μ x (.tup xs) := .inl rfl
@[simp] theorem okS_l {μ : Sto} {x : D} {xs : List D} : okS μ x (.lst xs) := .inl rfl
theorem okS_d {μ : Sto} {x v : D} (h : isiOk v = true) : okS μ x v := .inl h
@[simp] theorem isWd_nil : isWd (.str []) = true := rfl
theorem obS_inj {a b : List Nat} : obS a = obS b ↔ a = b := by unfold obS; simp
def dom_Sheet : List D → Prop := fun ds => ∃ v, ds = [v] ∧ ((isiOk v = true ∧ sOk v) ∨ ∃ w, v = obS w)
def mk_Sheet : ZMk := fun ds => match ds with
  | [v] => if isWd v then .inl [("letters", v)] else .inr ("BadWord", [("value", v)])
  | _ => .inr ("BadWord", [])
theorem isWd_str {w : List Nat} : isWd (.str w) = true ↔ w.length ≤ 30 ∧ Low w := by
  show (decide (w.length ≤ 30) && _) = true ↔ _
  simp [Low]
/-- a Sheet of a word -/
theorem zNew_word {w : List Nat} {μ : Sto} {Q : DK} {E : DXK} (h1 : w.length ≤ 30) (h2 : Low w) (q : Q (obS w) μ) : zNew "Sheet" dom_Sheet mk_Sheet [.str w] μ Q E := by
  refine ⟨⟨_, rfl, .inl ⟨rfl, by show w.length ≤ 16777216; omega⟩⟩, ?_⟩
  show (match mk_Sheet [.str w] with | .inl fs => Q (.obj "Sheet" fs) μ | .inr (e, efs) => E e efs μ)
  rw [show mk_Sheet [.str w] = .inl [("letters", .str w)] from if_pos (isWd_str.mpr ⟨h1, h2⟩)]
  exact q
def sp_vis_word : DSp := fun ds μ Q _ => ∃ v : D, ds = [v] ∧ ((isiOk v = true ∧ sOk v) ∨ ∃ w, v = obS w) ∧ Q (.bl (isWd v)) μ
def sp_Sheet_init : DSp := zIni "Sheet" dom_Sheet mk_Sheet
def sp_Sheet_text : DSp := fun ds μ Q _ => ∃ w, ds = [obS w] ∧ Q (.str w) μ
def sp_Sheet_add : DSp := fun ds μ Q E => ∃ a b : List Nat, ds = [obS a, obS b] ∧ a.length ≤ 30 ∧ b.length ≤ 30 ∧ Low a ∧ Low b ∧ (if a.length + b.length ≤ 30 then Q (obS (a ++ b)) μ else E "TooLong" [("limit", .int 30)] μ)
def sp_Sheet_sub : DSp := fun ds μ Q _ => ∃ a b : List Nat, ds = [obS a, obS b] ∧ a.length ≤ 30 ∧ b.length ≤ 30 ∧ Low a ∧ Q (obS (a.drop (fp b a 0).length)) μ
def sp_Sheet_contains : DSp := fun ds μ Q _ => ∃ (a : List Nat) (v : D), ds = [obS a, v] ∧ a.length ≤ 30 ∧ ((isiOk v = true ∧ Q (.bl false) μ) ∨ ∃ b : List Nat, v = obS b ∧ b.length ≤ 30 ∧ Q (.bl (decide ((fp a b 0).length = b.length))) μ)
def sp_Sheet_getitem : DSp := fun ds μ Q E => ∃ (a : List Nat) (v : D), ds = [obS a, v] ∧ a.length ≤ 30 ∧ isiOk v = true ∧
  (btw v 0 (a.length - 1) = false → E "NoPlace" [("value", v)] μ) ∧ ∀ (i : Nat) (h : i < a.length), v = .int i → Q (.str [a[i]]) μ
def sp_Sheet_len : DSp := fun ds μ Q _ => ∃ w : List Nat, ds = [obS w] ∧ w.length ≤ 1000 ∧ Q (.int w.length) μ
def sp_Sheet_bool : DSp := fun ds μ Q _ => ∃ w : List Nat, ds = [obS w] ∧ w.length ≤ 1000 ∧ Q (.bl (decide (0 < w.length))) μ
def sp_Sheet_eq : DSp := fun ds μ Q _ => ∃ (a : List Nat) (v : D), ds = [obS a, v] ∧ ((isiOk v = true ∧ Q (.bl false) μ) ∨ ∃ b : List Nat, v = obS b ∧ Q (.bl (decide (a = b))) μ)
def itab_law : ITab := [(("Sheet", "Sheet"), true)]
/-- is_word(value); slots 0:value 1:sign -/
def b_vis_word : TSD :=
  (dRet (dAndV (dFn (rdIsiO itab_law) (dCons (dLook 0) (dCons (dC (.ty "str")) dNil))) (dAndV (dOp rdLe (dFn rdLen (dCons (dLook 0) dNil)) (dC (.int 30))) (dFn rdAll (dCons (dF (dLc [1] (dEach (dVar 0)) (dName 1) dYes (dCall sp_is_letter (dCons (dVar 1) dNil) noD))) dNil)))))
def b_Sheet_init_2 (E : DXK) : TSD :=
  (dSetA ["Sheet"] "letters" (dVar 0) (dVar 1))
/-- Sheet.__init__(self, text); slots 0:self 1:text -/
def b_Sheet_init (E : DXK) : TSD :=
  (dSeq (dIfS (dNot (dB (dCall sp_vis_word (dCons (dVar 1) dNil) noD)))
  (dRaise (dMkF "BadWord" "value" (dCons (dVar 1) dNil)) (fun _ => E))
  dNext)
  (b_Sheet_init_2 E))
/-- Sheet.text(self); slots 0:self -/
def b_Sheet_text : TSD :=
  (dRet (dFld ["Sheet"] "letters" (dVar 0)))
def b_Sheet_getitem_2 (E : DXK) : TSD :=
  (dRet (dOp rdIx (dFld ["Sheet"] "letters" (dVar 0)) (dLook 1)))
/-- Sheet.__getitem__(self, place); slots 0:self 1:place -/
def b_Sheet_getitem (E : DXK) : TSD :=
  (dSeq (dIfS (dNot (dB (dCall sp_is_between (dCons (dVar 1) (dCons (dC (.int 0)) (dCons (dOp rdSub (dFn rdLen (dCons (dFld ["Sheet"] "letters" (dVar 0)) dNil)) (dC (.int 1))) dNil))) noD)))
  (dRaise (dMkF "NoPlace" "value" (dCons (dVar 1) dNil)) (fun _ => E))
  dNext)
  (b_Sheet_getitem_2 E))
/-- Sheet.__len__(self); slots 0:self -/
def b_Sheet_len : TSD :=
  (dRet (dFn rdLen (dCons (dFld ["Sheet"] "letters" (dVar 0)) dNil)))
/-- Sheet.__bool__(self); slots 0:self -/
def b_Sheet_bool : TSD :=
  (dRet (dOp rdGt (dFn rdLen (dCons (dFld ["Sheet"] "letters" (dVar 0)) dNil)) (dC (.int 0))))
/-- Sheet.__eq__(self, other); slots 0:self 1:other -/
def b_Sheet_eq : TSD :=
  (dRet (dAndV (dFn (rdIsiO itab_law) (dCons (dLook 1) (dCons (dC (.gl "Sheet")) dNil))) (dOp rdEq (dFld ["Sheet"] "letters" (dVar 0)) (dFld ["Sheet"] "letters" (dVar 1)))))

@[simp] theorem isiF_S {μ : Sto} {w : List Nat} : isiF itab_law μ (obS w) "Sheet" = some true := rfl
@[simp] theorem isiG_S {μ : Sto} {w : List Nat} {t : String} : isiG itab_law μ (obS w) t = some false := rfl
theorem isiF_d {μ : Sto} {v : D} (h : isiOk v = true) : isiF itab_law μ v "Sheet" = some false := by unfold isiF; rw [if_pos h]; rfl
@[simp] theorem lk_letters {w : List Nat} : List.lookup ("letters" : Str) [(("letters" : Str), D.str w)] = some (.str w) := rfl
theorem len_vis_word : ∀ ds μ Q E, sp_vis_word ds μ Q E → ds.length = 1 := by
  rintro ds μ Q E ⟨v, rfl, _⟩; rfl
theorem ok_vis_word : ∀ ds μ Q E, sp_vis_word ds μ Q E → b_vis_word { nx := fun _ μ' => Q .non μ', rt := Q } (startD 2 ds) μ := by
  rintro ds μ Q E ⟨v, rfl, ⟨hv, hs⟩ | ⟨w, rfl⟩, q⟩
  · have old := ok_is_word [v] μ Q E ⟨v, rfl, hv, hs, q⟩
    unfold b_is_word at old
    unfold b_vis_word
    cases v <;> first | exact (Bool.false_ne_true hv).elim | skip
    all_goals
      simp at old ⊢
      exact old
  · unfold b_vis_word
    simp
    exact q
theorem len_Sheet_init : ∀ ds μ Q E, sp_Sheet_init ds μ Q E → ds.length = 2 := by
  rintro ds μ Q E ⟨x, r, rfl, _, ⟨v, rfl, _⟩, _⟩; rfl
theorem ok_Sheet_init : ∀ ds μ Q E, sp_Sheet_init ds μ Q E → b_Sheet_init E { nx := fun _ μ' => Q .non μ', rt := Q } (startD 2 ds) μ := by
  rintro ds μ Q E ⟨x, r, rfl, hx, ⟨v, rfl, hv⟩, q⟩
  have q : (match (if isWd v then .inl [("letters", v)] else .inr ("BadWord", [("value", v)]) : (List (Str × D)) ⊕ (Str × List (Str × D))) with | .inl fs => Q .non (sset μ x (.ins "Sheet" fs)) | .inr (e, efs) => E e efs μ) := q
  unfold b_Sheet_init b_Sheet_init_2
  simp
  refine ⟨v, rfl, hv, ?_⟩
  simp
  by_cases h : isWd v = true
  · rw [if_pos h] at q ⊢
    simp [insOf_at hx]
    exact q
  · rw [if_neg h] at q ⊢
    exact q
theorem len_Sheet_text : ∀ ds μ Q E, sp_Sheet_text ds μ Q E → ds.length = 1 := by
  rintro ds μ Q E ⟨w, rfl, _⟩; rfl
theorem ok_Sheet_text : ∀ ds μ Q E, sp_Sheet_text ds μ Q E → b_Sheet_text { nx := fun _ μ' => Q .non μ', rt := Q } (startD 1 ds) μ := by
  rintro ds μ Q E ⟨w, rfl, q⟩
  simp [b_Sheet_text]
  exact q
theorem btw_int {v : D} {lo hi : Int} (h : btw v lo hi = true) : ∃ i, v = .int i ∧ lo ≤ i ∧ i ≤ hi := by
  unfold btw at h
  split at h
  · simp at h; exact ⟨_, rfl, h.1, h.2⟩
  · cases h
theorem len_Sheet_getitem : ∀ ds μ Q E, sp_Sheet_getitem ds μ Q E → ds.length = 2 := by
  rintro ds μ Q E ⟨a, b, rfl, _⟩; rfl
theorem ok_Sheet_getitem : ∀ ds μ Q E, sp_Sheet_getitem ds μ Q E → b_Sheet_getitem E { nx := fun _ μ' => Q .non μ', rt := Q } (startD 2 ds) μ := by
  rintro ds μ Q E ⟨a, v, rfl, h1, h3, hx, q⟩
  unfold b_Sheet_getitem b_Sheet_getitem_2
  simp
  refine ⟨by omega, v, 0, (a.length : Int) - 1, rfl, h3, ?_⟩
  simp
  by_cases hb : btw v 0 ((a.length : Int) - 1) = true
  · rw [if_pos hb]
    obtain ⟨i, rfl, h4, h5⟩ := btw_int hb
    obtain ⟨n, rfl⟩ := Int.eq_ofNat_of_zero_le h4
    have q := q n (by omega) rfl
    simp
    refine ⟨by omega, a[n]'(by omega), ?_, q⟩
    rw [DL.atI_nat, List.getElem?_eq_getElem]
  · rw [if_neg hb]
    exact hx (by simpa using hb)
theorem len_Sheet_len : ∀ ds μ Q E, sp_Sheet_len ds μ Q E → ds.length = 1 := by
  rintro ds μ Q E ⟨w, rfl, _⟩; rfl
theorem ok_Sheet_len : ∀ ds μ Q E, sp_Sheet_len ds μ Q E → b_Sheet_len { nx := fun _ μ' => Q .non μ', rt := Q } (startD 1 ds) μ := by
  rintro ds μ Q E ⟨w, rfl, hw, q⟩
  simp [b_Sheet_len]
  exact ⟨by omega, q⟩
theorem len_Sheet_bool : ∀ ds μ Q E, sp_Sheet_bool ds μ Q E → ds.length = 1 := by
  rintro ds μ Q E ⟨w, rfl, _⟩; rfl
theorem ok_Sheet_bool : ∀ ds μ Q E, sp_Sheet_bool ds μ Q E → b_Sheet_bool { nx := fun _ μ' => Q .non μ', rt := Q } (startD 1 ds) μ := by
  rintro ds μ Q E ⟨w, rfl, hw, q⟩
  simp [b_Sheet_bool]
  exact ⟨by omega, q⟩
theorem len_Sheet_eq : ∀ ds μ Q E, sp_Sheet_eq ds μ Q E → ds.length = 2 := by
  rintro ds μ Q E ⟨a, b, rfl, _⟩; rfl
theorem ok_Sheet_eq : ∀ ds μ Q E, sp_Sheet_eq ds μ Q E → b_Sheet_eq { nx := fun _ μ' => Q .non μ', rt := Q } (startD 2 ds) μ := by
  rintro ds μ Q E ⟨a, v, rfl, ⟨hv, q⟩ | ⟨b, rfl, q⟩⟩
  · unfold b_Sheet_eq
    simp [isiF_d hv]
    exact q
  · unfold b_Sheet_eq
    simp
    exact q
section
variable {μ : Sto} {Q : DK} {E : DXK} {a b w : List Nat} {v : D}
@[simp] theorem sp_text_S : sp_Sheet_text [obS w] μ Q E = Q (.str w) μ := by
  unfold sp_Sheet_text
  refine propext ⟨fun ⟨w', e, q⟩ => ?_, fun q => ⟨w, rfl, q⟩⟩
  cases obS_inj.mp (List.cons.inj e).1; exact q
@[simp] theorem sp_len_S : sp_Sheet_len [obS w] μ Q E = (w.length ≤ 1000 ∧ Q (.int w.length) μ) := by
  unfold sp_Sheet_len
  refine propext ⟨fun ⟨w', e, q⟩ => ?_, fun q => ⟨w, rfl, q⟩⟩
  cases obS_inj.mp (List.cons.inj e).1; exact q
@[simp] theorem sp_bool_S : sp_Sheet_bool [obS w] μ Q E = (w.length ≤ 1000 ∧ Q (.bl (decide (0 < w.length))) μ) := by
  unfold sp_Sheet_bool
  refine propext ⟨fun ⟨w', e, q⟩ => ?_, fun q => ⟨w, rfl, q⟩⟩
  cases obS_inj.mp (List.cons.inj e).1; exact q
@[simp] theorem sp_add_S : sp_Sheet_add [obS a, obS b] μ Q E = (a.length ≤ 30 ∧ b.length ≤ 30 ∧ Low a ∧ Low b ∧ if a.length + b.length ≤ 30 then Q (obS (a ++ b)) μ else E "TooLong" [("limit", .int 30)] μ) := by
  unfold sp_Sheet_add
  refine propext ⟨fun ⟨a', b', e, q⟩ => ?_, fun q => ⟨a, b, rfl, q⟩⟩
  obtain ⟨e1, e2⟩ := List.cons.inj e
  cases obS_inj.mp e1; cases obS_inj.mp (List.cons.inj e2).1; exact q
@[simp] theorem sp_sub_S : sp_Sheet_sub [obS a, obS b] μ Q E = (a.length ≤ 30 ∧ b.length ≤ 30 ∧ Low a ∧ Q (obS (a.drop (fp b a 0).length)) μ) := by
  unfold sp_Sheet_sub
  refine propext ⟨fun ⟨a', b', e, q⟩ => ?_, fun q => ⟨a, b, rfl, q⟩⟩
  obtain ⟨e1, e2⟩ := List.cons.inj e
  cases obS_inj.mp e1; cases obS_inj.mp (List.cons.inj e2).1; exact q
@[simp] theorem sp_contains_S : sp_Sheet_contains [obS a, obS b] μ Q E = (a.length ≤ 30 ∧ b.length ≤ 30 ∧ Q (.bl (decide ((fp a b 0).length = b.length))) μ) := by
  unfold sp_Sheet_contains
  refine propext ⟨fun ⟨a', v, e, h, q⟩ => ?_, fun q => ⟨a, _, rfl, q.1, .inr ⟨b, rfl, q.2⟩⟩⟩
  obtain ⟨e1, e2⟩ := List.cons.inj e
  obtain ⟨e2, _⟩ := List.cons.inj e2
  cases obS_inj.mp e1
  subst e2
  rcases q with ⟨z, _⟩ | ⟨b', e3, q⟩
  · cases z
  · cases obS_inj.mp e3; exact ⟨h, q⟩
@[simp] theorem sp_eq_S : sp_Sheet_eq [obS a, obS b] μ Q E = Q (.bl (decide (a = b))) μ := by
  unfold sp_Sheet_eq
  refine propext ⟨fun ⟨a', v, e, q⟩ => ?_, fun q => ⟨a, _, rfl, .inr ⟨b, rfl, q⟩⟩⟩
  obtain ⟨e1, e2⟩ := List.cons.inj e
  obtain ⟨e2, _⟩ := List.cons.inj e2
  cases obS_inj.mp e1
  subst e2
  rcases q with ⟨z, _⟩ | ⟨b', e3, q⟩
  · cases z
  · cases obS_inj.mp e3; exact q
theorem sp_eq_d (h : isiOk v = true) : sp_Sheet_eq [obS a, v] μ Q E = Q (.bl false) μ := by
  unfold sp_Sheet_eq
  refine propext ⟨fun ⟨a', v', e, q⟩ => ?_, fun q => ⟨a, _, rfl, .inl ⟨h, q⟩⟩⟩
  obtain ⟨e1, e2⟩ := List.cons.inj e
  obtain ⟨e2, _⟩ := List.cons.inj e2
  subst e2
  rcases q with ⟨z, q⟩ | ⟨b', rfl, q⟩
  · exact q
  · cases h
@[simp] theorem zNew_S : zNew "Sheet" dom_Sheet mk_Sheet [.str w] μ Q E = (w.length ≤ SZ ∧ if isWd (.str w) = true then Q (obS w) μ else E "BadWord" [("value", .str w)] μ) := by
  have key : (match mk_Sheet [.str w] with | .inl fs => Q (.obj "Sheet" fs) μ | .inr (e, efs) => E e efs μ) = (if isWd (.str w) = true then Q (obS w) μ else E "BadWord" [("value", .str w)] μ) := by
    show (match (if isWd (.str w) then .inl [("letters", .str w)] else .inr ("BadWord", [("value", .str w)]) : (List (Str × D)) ⊕ (Str × List (Str × D))) with | .inl fs => Q (.obj "Sheet" fs) μ | .inr (e, efs) => E e efs μ) = _
    by_cases h : isWd (.str w) = true
    · rw [if_pos h, if_pos h]; rfl
    · rw [if_neg h, if_neg h]
  unfold zNew
  refine propext ⟨fun ⟨⟨v, e, hv⟩, q⟩ => ⟨?_, Eq.mp key q⟩, fun ⟨h, q⟩ => ⟨⟨_, rfl, .inl ⟨rfl, h⟩⟩, Eq.mpr key q⟩⟩
  cases (List.cons.inj e).1
  rcases hv with ⟨_, z⟩ | ⟨w', z⟩
  · exact z
  · cases z
end
@[simp] theorem sp_price_S {a b : List Nat} {μ : Sto} {Q : DK} {E : DXK} : sp_price [.str a, .str b] μ Q E = (a.length ≤ 1000 ∧ b.length ≤ 1000 ∧ Q (.int (b.length - (fp a b 0).length)) μ) := by
  unfold sp_price
  refine propext ⟨fun ⟨a', b', e, q⟩ => ?_, fun q => ⟨a, b, rfl, q⟩⟩
  obtain ⟨e1, e2⟩ := List.cons.inj e
  obtain ⟨e2, _⟩ := List.cons.inj e2
  cases e1; cases e2; exact q
theorem wd_low {w : List Nat} (h : Low w) (hl : w.length ≤ 30) : isWd (.str w) = true := isWd_str.mpr ⟨hl, h⟩
end DL

namespace DL
open PySem PySem.Spec PyProof.Rows L2
end DL

namespace DL
open PySem PySem.Spec PyProof.Rows L2
section
variable {X : Cx} {e f : Expr} {d g : TED} {p pos : Pos}
@[simp] def dStepL (d g : TED) : TED := fun ρ μ Q => d ρ μ fun x μ1 => g ρ μ1 fun i μ2 => ∃ xs, lstOf μ2 x = some xs ∧ ((i = .int (-1) ∧ Q (.lst xs.reverse) μ2) ∨ (i = .int 1 ∧ Q (.lst xs) μ2))
end
end DL

namespace DL
open PySem PySem.Spec PyProof.Rows L2
/-- _law_deck(script) -/
def sp_lawE_deck : DSp := fun ds μ Q _ => ∃ ns : List Int, ds = [.scr ns] ∧ ns.length ≤ 63 ∧ ∀ j c μ', Jar j c 0 μ' → μ j = none → μ c = none → Same j c μ μ' → Q (.ref j) μ'
/-- _law_deck(_law_script); slots 0:_law_script 1:_law_cell -/
def b_lawE_deck : TSD :=
  (dRet (dM (dLstF (dCons (dM (dLc [1] (dEach (dSl (dLook 0) dNoPart (dPart (dC (.int 61))))) (dName 1) dYes (dFn rdAbs (dCons (dLook 1) dNil)))) (dCons (dC (.int 0)) dNil)))))
theorem len_lawE_deck : ∀ ds μ Q E, sp_lawE_deck ds μ Q E → ds.length = 1 := by
  rintro ds μ Q E ⟨ns, rfl, _⟩; rfl
theorem ok_lawE_deck : ∀ ds μ Q E, sp_lawE_deck ds μ Q E → b_lawE_deck { nx := fun _ μ' => Q .non μ', rt := Q } (startD 2 ds) μ := by
  rintro ds μ Q E ⟨ns, rfl, hn, q⟩
  simp [b_lawE_deck]
  rw [show (61 : Int) = ((61 : Nat) : Int) from rfl, cut_take]
  refine lcD_map (fun x => match x with | .int i => .int (if i < 0 then -i else i) | d => d) _ (by simp; omega) ?_ ?_
  · intro x hx k hk
    obtain ⟨i, _, rfl⟩ := List.mem_map.mp hx
    simpa using hk
  · intro p hp p1 hp1
    have hne : p1 ≠ p := fun e => by subst e; rw [sset_same] at hp1; cases hp1
    refine q p1 p _ ⟨0, (ns.take 61).map (·.natAbs), Nat.le_refl _, hne, sset_same, ?_, by simp; omega⟩ (by rw [sset_ne hne] at hp1; exact hp1) hp fun a h1 h2 => by rw [sset_ne h1, sset_ne h2]
    rw [sset_ne hne.symm, sset_same]
    congr 2
    rw [List.map_map, List.map_map]
    refine List.map_congr_left fun i _ => ?_
    show D.int _ = D.int _
    congr 1
    show (if i < 0 then -i else i) = (i.natAbs : Int)
    split <;> omega
/-- _law_draw(deck, many) -/
def sp_lawE_draw : DSp := drawSp 1 fun r R => ∃ m : Nat, r = [.int m] ∧ 0 < m ∧ m < 1000000000 ∧ R = fun d => ∃ x : Nat, x < m ∧ d = .int x
def b_lawE_draw_3t_2 : TSD :=
  (dSetR 2 (dVal (dOp rdIx (dOp rdIx (dLook 0) (dC (.int 0))) (dLook 3))))
def b_lawE_draw_3t : TSD :=
  (dSeq (dSetR 3 (dVal (dOp rdMod (dOp rdIx (dLook 0) (dC (.int 1))) (dFn rdLen (dCons (dOp rdIx (dLook 0) (dC (.int 0))) dNil)))))
  b_lawE_draw_3t_2)
def b_lawE_draw_4t_2 : TSD :=
  (dRet (dOp rdMod (dLook 2) (dLook 1)))
def b_lawE_draw_4t : TSD :=
  (dSeq (dPutM (dOp rdDiv (dLook 2) (dLook 1)) (dOp rdIx (dLook 0) (dC (.int 0))) (dLook 3))
  b_lawE_draw_4t_2)
def b_lawE_draw_7 : TSD :=
  (dRet (dOp rdMod (dOp rdDiv (dLook 4) (dC (.int 16))) (dLook 1)))
def b_lawE_draw_6 : TSD :=
  (dSeq (dSetR 4 (dVal (dOp rdMod (dOp rdPow (dOp rdAdd (dLook 4) (dOp rdMul (dC (.int 86028121)) (dOp rdIx (dLook 0) (dC (.int 1))))) (dC (.int 3))) (dC (.int 2147483587)))))
  b_lawE_draw_7)
def b_lawE_draw_5 : TSD :=
  (dSeq (dSetR 4 (dVal (dOp rdMod (dOp rdPow (dOp rdAdd (dOp rdAdd (dOp rdMod (dLook 2) (dC (.int 2147483549))) (dOp rdMul (dC (.int 32452867)) (dOp rdIx (dLook 0) (dC (.int 1))))) (dC (.int 29))) (dC (.int 3))) (dC (.int 2147483629)))))
  b_lawE_draw_6)
def b_lawE_draw_4 : TSD :=
  (dSeq (dIfS (dB (dOp rdGe (dLook 2) (dOp rdPow (dC (.int 10)) (dC (.int 18)))))
  b_lawE_draw_4t
  dNext)
  b_lawE_draw_5)
def b_lawE_draw_3 : TSD :=
  (dSeq (dIfS (dB (dOp rdNeR (dOp rdIx (dLook 0) (dC (.int 0))) (dLst dNil)))
  b_lawE_draw_3t
  dNext)
  b_lawE_draw_4)
def b_lawE_draw_2 : TSD :=
  (dSeq (dAsg (dTup (dCons (dC (.int 0)) (dCons (dC (.int 0)) dNil))) (dUnp 2 (gdCons (dName 2) (gdCons (dName 3) gdNil))))
  b_lawE_draw_3)
/-- _law_draw(_law_deck_here, _law_many); slots 0:_law_deck_here 1:_law_many 2:_law_cell 3:_law_spot 4:_law_mixed_here -/
def b_lawE_draw : TSD :=
  (dSeq (dPutM (dOp rdAdd (dOp rdIx (dLook 0) (dC (.int 1))) (dC (.int 1))) (dVar 0) (dC (.int 1)))
  b_lawE_draw_2)
theorem len_lawE_draw : ∀ ds μ Q E, sp_lawE_draw ds μ Q E → ds.length = 2 := by
  rintro ds μ Q E ⟨j, c, b, r, rfl, _, _, R, ⟨m, rfl, _⟩, _⟩; rfl
theorem ok_lawE_draw : ∀ ds μ Q E, sp_lawE_draw ds μ Q E → b_lawE_draw { nx := fun _ μ' => Q .non μ', rt := Q } (startD 5 ds) μ := by
  rintro ds μ Q E ⟨j, c, b, r, rfl, ⟨n, cells, hn, hjc, hj, hc, hl⟩, hb, R, ⟨m, rfl, m0, m1, rfl⟩, q⟩
  unfold b_lawE_draw
  rw [dSeq]
  simp [hj, -dSeq]
  have hj1 : sset μ j (MO.lst [D.ref c, D.int (↑n + 1)]) j = some (.lst [D.ref c, D.int ((n + 1 : Nat) : Int)]) := sset_same
  have hc1 : sset μ j (MO.lst [D.ref c, D.int (↑n + 1)]) c = some (.lst (cells.map fun x : Nat => D.int x)) := by rw [sset_ne hjc.symm]; exact hc
  have s1 : Same j c μ (sset μ j (MO.lst [D.ref c, D.int (↑n + 1)])) := fun a h1 _ => sset_ne h1
  generalize sset μ j (MO.lst [D.ref c, D.int (↑n + 1)]) = μ1 at hj1 hc1 s1
  have r1 : refLst μ1 c = some (cells.map fun x : Nat => D.int x) := by unfold refLst; rw [hc1]
  have fin : ∀ v : Int, Q (D.int (v % (m : Int))) μ1 := fun v => by
    have h1 := Int.emod_nonneg v (b := (m : Int)) (by omega)
    have h2 := Int.emod_lt_of_pos v (b := (m : Int)) (by omega)
    exact q _ _ ⟨(v % (m : Int)).toNat, by omega, by congr 1; omega⟩ ⟨n + 1, cells, by omega, hjc, hj1, hc1, hl⟩ s1
  have tail : ∀ cell spot : Nat, ((10 : Int) ^ 18 ≤ cell → cells[spot]? = some cell) → b_lawE_draw_4 { nx := fun _ μ' => Q .non μ', rt := Q } [some (.val (.ref j)), some (.val (.int m)), some (.val (.int cell)), some (.val (.int spot)), none] μ1 := by
    intro cell spot hs
    unfold b_lawE_draw_4 b_lawE_draw_4t b_lawE_draw_4t_2
    rw [dSeq]
    simp [powOk, -dSeq]
    split
    · rename_i h18
      have hs := hs h18
      have hlt : spot < cells.length := (List.getElem?_eq_some_iff.mp hs).1
      simp [hj1, hc1, m0, divOk, hlt, show (m : Int) < 1073741824 by omega]
      refine q _ _ ⟨cell % m, Nat.mod_lt _ m0, rfl⟩ ⟨n + 1, cells.set spot (cell / m), by omega, hjc, by rw [sset_ne hjc]; exact hj1, ?_, by simpa using hl⟩ fun a h1 h2 => by rw [sset_ne h2]; exact s1 a h1 h2
      rw [sset_same]
      simp [List.map_set]
    · unfold b_lawE_draw_5 b_lawE_draw_6 b_lawE_draw_7
      simp [hj1, mulOk, divOk, powOk, m0]
      have b1 := Int.emod_nonneg (cell : Int) (b := 2147483549) (by omega)
      have b2 := Int.emod_lt_of_pos (cell : Int) (b := 2147483549) (by omega)
      have b3 := Int.emod_nonneg (((cell : Int) % 2147483549 + 32452867 * ((n : Int) + 1) + 29) ^ 3) (b := 2147483629) (by omega)
      have b4 := Int.emod_lt_of_pos (((cell : Int) % 2147483549 + 32452867 * ((n : Int) + 1) + 29) ^ 3) (b := 2147483629) (by omega)
      have b5 := Int.emod_nonneg (((cell : Int) % 2147483549 + 32452867 * ((n : Int) + 1) + 29) ^ 3 % 2147483629 + 86028121 * ((n : Int) + 1)) (b := 2147483587) (by omega)
      exact ⟨by omega, by omega, fin _⟩
  show b_lawE_draw_2 _ _ _
  unfold b_lawE_draw_2
  rw [dSeq]
  simp [-dSeq]
  unfold b_lawE_draw_3 b_lawE_draw_3t b_lawE_draw_3t_2
  rw [dSeq]
  have okk : okEq (.lst (cells.map fun x : Nat => D.int x)) (.lst []) := by
    have := okEq_ints (cells.map fun x : Nat => (x : Int)) []
    rwa [List.map_map] at this
  simp [hj1, r1, -dSeq]
  refine ⟨_, hc1, okk, ?_⟩
  rw [eqvs_nil_r]
  cases cells with
  | nil =>
    exact tail 0 0 (fun h => by omega)
  | cons z zs =>
    rw [if_neg (by simp)]
    rw [dSeq]
    have hp := Int.emod_nonneg ((n : Int) + 1) (b := (zs.length : Int) + 1) (by omega)
    have hp2 := Int.emod_lt_of_pos ((n : Int) + 1) (b := (zs.length : Int) + 1) (by omega)
    obtain ⟨sp, hsp⟩ : ∃ sp : Nat, ((n : Int) + 1) % ((zs.length : Int) + 1) = (sp : Int) := ⟨_, (Int.toNat_of_nonneg hp).symm⟩
    have hlt : sp < (z :: zs).length := by simp; omega
    simp [hj1, hc1, r1, divOk, -dSeq]
    refine ⟨D.int ((z :: zs)[sp] : Nat), ?_, ?_⟩
    · rw [hsp]
      show atI ((z :: zs).map fun x : Nat => D.int x) (sp : Int) = _
      rw [atI_nat, List.getElem?_map, List.getElem?_eq_getElem hlt]
      rfl
    · rw [hsp]
      exact tail _ _ (fun _ => by simp [hlt])
theorem dr_ok {j c : Addr} {b m : Nat} {μ0 μ : Sto} {Q : DK} {E : DXK} (h : St j c μ0 b μ) (hb : b + 1 ≤ 1000000) (m0 : 0 < m) (m1 : m < 1000000000) (q : ∀ (x : Nat) μ', x < m → St j c μ0 (b + 1) μ' → Q (.int x) μ') :
    sp_lawE_draw [.ref j, .int m] μ Q E := draw_ok h hb ⟨m, rfl, m0, m1, rfl⟩ fun d μ' ⟨x, hx, e⟩ h2 => e ▸ q x μ' hx h2
/-- the items of what is given: by value or a list that may change -/
def ItemsR (j c : Addr) (μ : Sto) (it : D) (xs : List D) : Prop := Items it xs ∨ ∃ a, it = .ref a ∧ a ≠ j ∧ a ≠ c ∧ μ a = some (.lst xs)
def sp_lawE_one : DSp := fun ds μ Q _ => ∃ j c b it xs, ds = [.ref j, it] ∧ Jar j c b μ ∧ b + 1 ≤ 1000000 ∧ ItemsR j c μ it xs ∧ xs ≠ [] ∧ xs.length < 1000000000 ∧ ∀ d μ', d ∈ xs → Jar j c (b + 1) μ' → Same j c μ μ' → Q d μ'
/-- _law_one(_law_deck_here, _law_items); slots 0:_law_deck_here 1:_law_items -/
def b_lawE_one : TSD :=
  (dRet (dOp rdIx (dLook 1) (dCall sp_lawE_draw (dCons (dVar 0) (dCons (dFn rdLen (dCons (dLook 1) dNil)) dNil)) noD)))
theorem len_lawE_one : ∀ ds μ Q E, sp_lawE_one ds μ Q E → ds.length = 2 := by
  rintro ds μ Q E ⟨j, c, b, it, xs, rfl, _⟩; rfl
theorem ok_lawE_one : ∀ ds μ Q E, sp_lawE_one ds μ Q E → b_lawE_one { nx := fun _ μ' => Q .non μ', rt := Q } (startD 2 ds) μ := by
  rintro ds μ Q E ⟨j, c, b, it, xs, rfl, hJ, hb, hi, h0, h1, q⟩
  have hl : 0 < xs.length := List.length_pos_iff.mpr h0
  have st : St j c μ b μ := ⟨hJ, .refl⟩
  unfold b_lawE_one
  rcases hi with hi | ⟨a, rfl, aj, ac, ha⟩
  · cases hi with
    | lst =>
      simp
      refine dr_ok st hb hl h1 fun x μ' hx s => ?_
      simp [atI_nat, hx]
      exact q _ _ (List.getElem_mem hx) s.1 s.2
    | tup =>
      simp
      refine dr_ok st hb hl h1 fun x μ' hx s => ?_
      simp [atI_nat, hx]
      exact q _ _ (List.getElem_mem hx) s.1 s.2
    | str hs =>
      rename_i s
      have e : (strD s).length = s.length := by simp [strD]
      rw [e] at hl h1
      simp at hs ⊢
      refine ⟨hs, dr_ok st hb hl h1 fun x μ' hx st => ?_⟩
      simp [atI_nat, hx, hs]
      exact q _ _ (List.mem_map.mpr ⟨_, List.getElem_mem hx, rfl⟩) st.1 st.2
  · have r1 : refLst μ a = some xs := by unfold refLst; rw [ha]
    simp [r1, ha]
    refine dr_ok st hb hl h1 fun x μ' hx s => ?_
    have ha' : μ' a = some (.lst xs) := by rw [s.2 a aj ac]; exact ha
    simp [ha', atI_nat, hx]
    exact q _ _ (List.getElem_mem hx) s.1 s.2
theorem one_ok {j c : Addr} {b : Nat} {μ0 μ : Sto} {it : D} {xs : List D} {Q : DK} {E : DXK} (h : St j c μ0 b μ) (hb : b + 1 ≤ 1000000) (hi : ItemsR j c μ it xs) (h0 : xs ≠ []) (h1 : xs.length < 1000000000) (q : ∀ x μ', x ∈ xs → St j c μ0 (b + 1) μ' → Q x μ') :
    sp_lawE_one [.ref j, it] μ Q E := ⟨j, c, b, it, xs, rfl, h.1, hb, hi, h0, h1, fun d μ' hx h2 h3 => q d μ' hx ⟨h2, h.2.trans h3⟩⟩
def sp_lawE_word : DSp := drawSp 40 fun r R => ∃ m : Nat, r = [.int m] ∧ m ≤ 30 ∧ R = fun d => ∃ s, d = .str s ∧ Low s ∧ s.length ≤ m
theorem word_dr {j c : Addr} {b m : Nat} {μ0 μ : Sto} {Q : DK} {E : DXK} (h : St j c μ0 b μ) (hb : b + 40 ≤ 1000000) (m1 : m ≤ 30) (q : ∀ (s : List Nat) μ', Low s → s.length ≤ m → St j c μ0 (b + 40) μ' → Q (.str s) μ') :
    sp_lawE_word [.ref j, .int m] μ Q E := draw_ok h hb ⟨m, rfl, m1, rfl⟩ fun d μ' ⟨s, e, h1, h2⟩ h3 => e ▸ q s μ' h1 h2 h3
def b_lawE_word_2 : TSD :=
  (dRet (dMt "str" rdJoin (dC (.str [])) (dCons (dF (dLc [3] (dRng1 (dCons (dCall sp_lawE_draw (dCons (dVar 0) (dCons (dOp rdAdd (dLook 1) (dC (.int 1))) dNil)) noD) dNil)) (dName 3) dYes (dCall sp_lawE_one (dCons (dVar 0) (dCons (dVar 2) dNil)) noD))) dNil)))
/-- _law_word(_law_deck_here, _law_most); slots 0:_law_deck_here 1:_law_most 2:_law_letters 3:_law_k -/
def b_lawE_word : TSD :=
  (dSeq (dSetR 2 (dVal (dCall sp_lawE_one (dCons (dVar 0) (dCons (dLst (dCons (dC (.str [97])) (dCons (dC (.str [97, 98])) (dCons (dC (.str [97, 98, 99])) (dCons (dC (.str [97, 98, 99])) (dCons (dC (.str [97, 98, 99, 100, 101, 102, 103, 104, 105, 106, 107, 108, 109, 110, 111, 112, 113, 114, 115, 116, 117, 118, 119, 120, 121, 122])) dNil)))))) dNil)) noD)))
  b_lawE_word_2)
theorem len_lawE_word : ∀ ds μ Q E, sp_lawE_word ds μ Q E → ds.length = 2 := by
  rintro ds μ Q E ⟨j, c, b, r, rfl, _, _, R, ⟨m, rfl, _⟩, _⟩; rfl
theorem ok_lawE_word : ∀ ds μ Q E, sp_lawE_word ds μ Q E → b_lawE_word { nx := fun _ μ' => Q .non μ', rt := Q } (startD 4 ds) μ := by
  rintro ds μ Q E ⟨j, c, b, r, rfl, hJ, hb, R, ⟨m, rfl, hm, rfl⟩, q⟩
  have s0 : St j c μ b μ := ⟨hJ, .refl⟩
  have fin : ∀ s μ', Low s → s.length ≤ m → St j c μ (b + 40) μ' → Q (.str s) μ' := fun s μ' h1 h2 h3 => q _ _ ⟨s, rfl, h1, h2⟩ h3.1 h3.2
  unfold b_lawE_word
  rw [dSeq]
  simp [-dSeq]
  refine one_ok s0 (by omega) (.inl .lst) (by simp) (by simp) fun x μ1 hx s1 => ?_
  have hx : ∃ nm, x = .str nm ∧ Low nm ∧ nm ≠ [] ∧ nm.length ≤ 30 := by
    simp at hx
    rcases hx with rfl | rfl | rfl | rfl <;> exact ⟨_, rfl, by intro c hc; simp at hc; omega, by simp, by simp⟩
  obtain ⟨nm, rfl, hlow, hne, hnl⟩ := hx
  unfold b_lawE_word_2
  simp [-dSeq]
  refine dr_ok (m := m + 1) s1 (by omega) (by omega) (by omega) fun size μ2 hsz s2 => ?_
  simp [rngOk, -dSeq]
  refine ⟨by omega, ?_⟩
  refine lcD_inv (fun xs acc μ' => ∃ l, acc = strD l ∧ Low l ∧ l.length + xs.length = size ∧ St j c μ (b + 2 + l.length) μ') (fun _ _ _ _ => trivial) ?_ ?_ _ _ _ ⟨[], rfl, (fun _ h => nomatch h), by simp [rngD], s2⟩
  · rintro x xs acc μ' n ⟨l, rfl, hl, hlen, st⟩ hn
    simp at hlen
    simp
    refine one_ok st (by omega) (.inl (.str (by simp; omega))) (by simpa [strD] using hne) (by simp [strD]; omega) fun y μ3 hy s3 => ?_
    obtain ⟨ch, hch, rfl⟩ := List.mem_map.mp hy
    refine ⟨by simp [strD]; omega, hn _ _ ⟨l ++ [ch], by rw [strD_app]; rfl, hl.append fun d hd => by simp at hd; subst hd; exact hlow _ hch, by simp; omega, ?_⟩⟩
    rw [List.length_append, ← Nat.add_assoc]
    exact s3
  rintro acc μ3 ⟨l, rfl, hl, hlen, s3⟩
  simp at hlen
  refine ⟨l.map fun c => [c], strD_map l, by rw [sum_ones]; omega, ?_⟩
  rw [joinL_ones]
  exact fin _ _ hl (by omega) (s3.le (by omega))
def sp_lawE_below : DSp := drawSp 80 fun r R => ∃ (w : List Nat) (m : Nat), r = [.str w, .int m] ∧ Low w ∧ w.length ≤ 30 ∧ m ≤ 30 ∧ R = fun d => ∃ s, d = .str s ∧ Low s ∧ s.length ≤ m
theorem below_dr {j c : Addr} {b m : Nat} {w : List Nat} {μ0 μ : Sto} {Q : DK} {E : DXK} (h : St j c μ0 b μ) (hb : b + 80 ≤ 1000000) (hw : Low w) (hwl : w.length ≤ 30) (m1 : m ≤ 30) (q : ∀ (s : List Nat) μ', Low s → s.length ≤ m → St j c μ0 (b + 80) μ' → Q (.str s) μ') :
    sp_lawE_below [.ref j, .str w, .int m] μ Q E := draw_ok h hb ⟨w, m, rfl, hw, hwl, m1, rfl⟩ fun d μ' ⟨s, e, h1, h2⟩ h3 => e ▸ q s μ' h1 h2 h3
def b_lawE_below_2 : TSD :=
  (dRet (dSl (dOp rdAdd (dLook 3) (dCall sp_lawE_word (dCons (dVar 0) (dCons (dC (.int 3)) dNil)) noD)) dNoPart (dPart (dVar 2))))
/-- _law_below(_law_deck_here, _law_word_here, _law_most); slots 0:_law_deck_here 1:_law_word_here 2:_law_most 3:_law_kept 4:_law_letter -/
def b_lawE_below : TSD :=
  (dSeq (dSetR 3 (dVal (dMt "str" rdJoin (dC (.str [])) (dCons (dF (dLc [4] (dEach (dVar 1)) (dName 4) (dB (dOp rdGt (dCall sp_lawE_draw (dCons (dVar 0) (dCons (dC (.int 4)) dNil)) noD) (dC (.int 0)))) (dVar 4))) dNil))))
  b_lawE_below_2)
theorem len_lawE_below : ∀ ds μ Q E, sp_lawE_below ds μ Q E → ds.length = 3 := by
  rintro ds μ Q E ⟨j, c, b, r, rfl, _, _, R, ⟨w, m, rfl, _⟩, _⟩; rfl
theorem ok_lawE_below : ∀ ds μ Q E, sp_lawE_below ds μ Q E → b_lawE_below { nx := fun _ μ' => Q .non μ', rt := Q } (startD 5 ds) μ := by
  rintro ds μ Q E ⟨j, c, b, r, rfl, hJ, hb, R, ⟨w, m, rfl, hw, hwl, hm, rfl⟩, q⟩
  have s0 : St j c μ b μ := ⟨hJ, .refl⟩
  have fin : ∀ s μ', Low s → s.length ≤ m → St j c μ (b + 80) μ' → Q (.str s) μ' := fun s μ' h1 h2 h3 => q _ _ ⟨s, rfl, h1, h2⟩ h3.1 h3.2
  unfold b_lawE_below
  rw [dSeq]
  simp [-dSeq]
  refine lcD_inv (fun xs acc μ' => ∃ l r, acc = strD l ∧ xs = strD r ∧ Low l ∧ Low r ∧ l.length + r.length ≤ 30 ∧ St j c μ (b + 30 - r.length) μ') (fun _ _ _ _ => trivial) ?_ ?_ _ _ _ ⟨[], w, rfl, rfl, (fun _ h => nomatch h), hw, by simpa using hwl, s0.le (by omega)⟩
  · rintro x xs acc μ' n ⟨l, r, rfl, hr, hl, hrl, hlen, st⟩ hn
    cases r with
    | nil => cases hr
    | cons ch r =>
      cases hr
      simp at hlen
      simp
      refine dr_ok (m := 4) (st.le (b' := b + 30 - r.length - 1) (by simp; omega)) (by omega) (by omega) (by omega) fun y μ3 hy s3 => ?_
      have s3 : St j c μ (b + 30 - r.length) μ3 := s3.le (by omega)
      have hr2 : Low r := fun d hd => hrl d (by simp [hd])
      simp
      split
      · refine ⟨by simp [strD]; omega, hn _ _ ⟨l ++ [ch], r, by rw [strD_app]; rfl, rfl, hl.append fun d hd => by simp at hd; subst hd; exact hrl _ (by simp), hr2, by simp; omega, s3⟩⟩
      · exact hn _ _ ⟨l, r, rfl, rfl, hl, hr2, by omega, s3⟩
  rintro acc μ3 ⟨l, r, rfl, hr, hl, hrl, hlen, s3⟩
  have hr0 : r = [] := by cases r with
    | nil => rfl
    | cons a b => cases hr
  subst hr0
  simp at hlen s3
  refine ⟨l.map fun c => [c], strD_map l, by rw [sum_ones]; omega, ?_⟩
  rw [joinL_ones]
  unfold b_lawE_below_2
  simp
  refine word_dr (m := 3) s3 (by omega) (by omega) fun t μ4 ht htl s4 => ?_
  simp
  rw [cut_take]
  exact ⟨by omega, fin _ _ ((hl.append ht).take m) (by rw [List.length_take]; omega) (s4.le (by omega))⟩
theorem Jar.put {j c p : Addr} {b : Nat} {μ : Sto} {o : MO} (h : Jar j c b μ) (pj : p ≠ j) (pc : p ≠ c) : Jar j c b (sset μ p o) := by
  obtain ⟨n, cells, h1, h2, hj, hc, h3⟩ := h
  exact ⟨n, cells, h1, h2, by rw [sset_ne pj.symm]; exact hj, by rw [sset_ne pc.symm]; exact hc, h3⟩
/-- an order of n sheets -/
def Ord (n : Nat) (o : List Nat) : Prop := o.length = n ∧ (∀ x ∈ o, x < n) ∧ o.Nodup
theorem Ord.of {n : Nat} {o : List Nat} (ho : o.Perm (List.range n)) : Ord n o :=
  ⟨by rw [ho.length_eq, List.length_range], fun x hx => List.mem_range.mp (ho.mem_iff.mp hx), ho.nodup_iff.mpr List.nodup_range⟩
end DL

namespace DL
open PySem PySem.Spec PyProof.Rows L2
theorem Ord.range (n : Nat) : Ord n (List.range n) := .of (.refl _)
/-- one more sheet -/
theorem Ord.more {n : Nat} {o : List Nat} (h : Ord n o) (a : Nat) : Ord (n + 1) (o.take a ++ n :: o.drop a) := by
  have p : (o.take a ++ n :: o.drop a).Perm (n :: o) := by
    have := List.perm_middle (a := n) (l₁ := o.take a) (l₂ := o.drop a)
    rwa [List.take_append_drop] at this
  refine ⟨by rw [p.length_eq, List.length_cons, h.1], fun x hx => ?_, p.nodup_iff.mpr (List.nodup_cons.mpr ⟨fun hn => ?_, h.2.2⟩)⟩
  · rcases List.mem_cons.mp (p.mem_iff.mp hx) with rfl | hx
    · omega
    · have := h.2.1 x hx; omega
  · have := h.2.1 n hn; omega
end DL

namespace DL
open PySem PySem.Spec PyProof.Rows L2
/-- odd values -/
def oddE : List D := [.non, .bl true, .bl false, .int (-1), .int 0, .int 1, .int 2, .int 30, .int 31, .int (10 ^ 60), .str [], .str [97], .str [97, 66], .str [48], .tup [], .tup [.int 0], .lst [.int 0], .dct [], .tup [.int 0, .int 1], .tup [.bl true],
  .tup [.str [97]], .lst [.str [97]], .str (List.replicate 31 97), .tup [.int 1, .int 0]]
/-- a value that may be asked and written out -/
def okV (v : D) : Bool := isiOk v && shxB 80 3 v
theorem okV_i {v : D} (h : okV v = true) : isiOk v = true := (Bool.and_eq_true_iff.mp h).1
theorem okV_s {v : D} (h : okV v = true) : Shx 80 3 v := shx_dec (Bool.and_eq_true_iff.mp h).2
theorem oddE_ok : ∀ v ∈ oddE, okV v = true := by decide +kernel
def sp_lawE_odd : DSp := drawSp 1 fun r R => r = [] ∧ R = fun d => d ∈ oddE
def sp_lawE_whole : DSp := fun ds μ Q _ => ∃ (v : D) (lo hi : Int), ds = [v, .int lo, .int hi] ∧ isiOk v = true ∧ Q (.bl (btw v lo hi)) μ
def b_lawE_odd_2 : TSD :=
  (dRet (dOp rdIx (dOp rdAdd (dLook 1) (dLst (dCons (dTup (dCons (dC (.str [97])) dNil)) (dCons (dLst (dCons (dC (.str [97])) dNil)) (dCons (dOp rdMul (dC (.str [97])) (dC (.int 31))) (dCons (dTup (dCons (dC (.int 1)) (dCons (dC (.int 0)) dNil))) dNil)))))) (dCall sp_lawE_draw (dCons (dVar 0) (dCons (dC (.int 24)) dNil)) noD)))
/-- _law_odd(_law_deck_here); slots 0:_law_deck_here 1:_law_some -/
def b_lawE_odd : TSD :=
  (dSeq (dSetR 1 (dVal (dLst (dCons (dC .non) (dCons (dC (.bl true)) (dCons (dC (.bl false)) (dCons (dNeg (dC (.int 1))) (dCons (dC (.int 0)) (dCons (dC (.int 1)) (dCons (dC (.int 2)) (dCons (dC (.int 30)) (dCons (dC (.int 31)) (dCons (dOp rdPow (dC (.int 10)) (dC (.int 60))) (dCons (dC (.str [])) (dCons (dC (.str [97])) (dCons (dC (.str [97, 66])) (dCons (dC (.str [48])) (dCons (dTup dNil) (dCons (dTup (dCons (dC (.int 0)) dNil)) (dCons (dLst (dCons (dC (.int 0)) dNil)) (dCons (dC (.dct [])) (dCons (dTup (dCons (dC (.int 0)) (dCons (dC (.int 1)) dNil))) (dCons (dTup (dCons (dC (.bl true)) dNil)) dNil)))))))))))))))))))))))
  b_lawE_odd_2)
/-- _law_whole(_law_value, _law_low, _law_high); slots 0:_law_value 1:_law_low 2:_law_high -/
def b_lawE_whole : TSD :=
  (dRet (dAndV (dFn rdIsi (dCons (dLook 0) (dCons (dC (.ty "int")) dNil))) (dAndV (dNotV (dFn rdIsi (dCons (dLook 0) (dCons (dC (.ty "bool")) dNil)))) (dChain rdLe rdLe (dLook 1) (dLook 0) (dLook 2)))))
theorem len_lawE_odd : ∀ ds μ Q E, sp_lawE_odd ds μ Q E → ds.length = 1 := by
  rintro ds μ Q E ⟨j, c, b, r, rfl, _, _, R, ⟨rfl, _⟩, _⟩; rfl
theorem ok_lawE_odd : ∀ ds μ Q E, sp_lawE_odd ds μ Q E → b_lawE_odd { nx := fun _ μ' => Q .non μ', rt := Q } (startD 2 ds) μ := by
  rintro ds μ Q E ⟨j, c, b, r, rfl, hJ, hb, R, ⟨rfl, rfl⟩, q⟩
  unfold b_lawE_odd
  rw [dSeq]
  simp [-dSeq, powOk]
  unfold b_lawE_odd_2
  simp
  refine dr_ok (m := 24) ⟨hJ, .refl⟩ hb (by omega) (by omega) fun x μ' hx s => ?_
  have e : ∀ y : Nat, y < 24 → ∃ d, atI oddE (y : Int) = some d ∧ d ∈ oddE := fun y hy => by
    have hl : y < oddE.length := hy
    exact ⟨oddE[y], by rw [atI_nat]; exact List.getElem?_eq_getElem hl, List.getElem_mem hl⟩
  obtain ⟨d, h1, h2⟩ := e x hx
  have e2 : repl 31 [97] = List.replicate 31 97 := by decide
  rw [e2]
  exact ⟨d, h1, q _ _ h2 s.1 s.2⟩
theorem oddE_dr {j c : Addr} {b : Nat} {μ0 μ : Sto} {Q : DK} {E : DXK} (h : St j c μ0 b μ) (hb : b + 1 ≤ 1000000) (q : ∀ x μ', x ∈ oddE → St j c μ0 (b + 1) μ' → Q x μ') : sp_lawE_odd [.ref j] μ Q E := draw_ok h hb ⟨rfl, rfl⟩ fun d μ' hx h2 => q d μ' hx h2
theorem len_lawE_whole : ∀ ds μ Q E, sp_lawE_whole ds μ Q E → ds.length = 3 := by
  rintro ds μ Q E ⟨v, lo, hi, rfl, _⟩; rfl
theorem ok_lawE_whole : ∀ ds μ Q E, sp_lawE_whole ds μ Q E → b_lawE_whole { nx := fun _ μ' => Q .non μ', rt := Q } (startD 3 ds) μ := by
  rintro ds μ Q E ⟨v, lo, hi, rfl, hv, q⟩
  unfold b_lawE_whole
  cases v <;> first | exact (Bool.false_ne_true hv).elim | skip
  case int i =>
    simp
    have q : Q (.bl (decide (lo ≤ i) && decide (i ≤ hi))) μ := q
    split
    · rename_i h; rw [decide_eq_true h] at q; simpa using q
    · rename_i h; rw [decide_eq_false h] at q; simpa using q
  all_goals
    unfold btw at q
    simp
    exact q
end DL

namespace DL
open PySem PySem.Spec PyProof.Rows L2
/-- the object at an address, as it is -/
abbrev kpO (oe : Obj) : HO := .frz oe (.own 0)
section
variable {X : Cx} {pins : List (Addr × Obj)} {σ : L2.St} {H : Hp} {s : Shared}
/-- an except suite's state, the exception tracked -/
theorem Inv.suiteT (I : Inv X pins σ H s) {xa : Addr} {xo : Obj} {xs : Array Value} (hxa : s.heap.get? xa = some xo) (hxd : xo.data = .fields xs) (hxn : H xa = none) (hxl : xa ≠ X.env.locals) (hx0 : X.s_0.heap.get? xa = none) (hxp : ∀ p ∈ X.pn ++ pins, p.1 ≠ xa) :
    Inv (X.suite xa (X.pn ++ pins)) [] σ (upd H xa (kpO xo)) s := by
  have okS := I.ok.suite xa (X.pn ++ pins)
  have hokS : HOk X.prog X.w (upd H xa (kpO xo)) s.heap := I.hok.laidN (fun _ _ z => z) hxn ⟨hxa, ⟨xo, hxa⟩⟩
  refine ⟨okS, I.os, I.bare, ⟨I.base.keep, I.base.slot, fun b o eb n hx => ?_, I.base.there, fun b ys eb => ?_, fun b o u eb => ?_, fun b qs eb => ?_⟩, I.loc, I.cell, ?_, fun y c ec => ?_, fun p hp => ?_, hokS, I.len⟩
  · have ne : b ≠ xa := fun z => by
      rw [z, hx0] at eb
      cases eb
    rw [upd_ne ne]
    exact I.base.free b o eb n hx
  · have z := I.base.tups b ys eb
    rw [upd_ne (ne_of_none z hxn)]
    exact z
  · have z := I.base.frzs b o u eb
    rw [upd_ne (ne_of_none z hxn)]
    exact z
  · obtain ⟨m, z⟩ := I.base.tbls b qs eb
    exact ⟨m, by rw [upd_ne (ne_of_none z hxn)]; exact z⟩
  · show upd H xa (kpO xo) X.env.locals = none
    rw [upd_ne (Ne.symm hxl)]
    exact I.free
  · have ne : c ≠ xa := fun z => by
      obtain ⟨v, oc, hoc, hv⟩ := I.cell y c ec
      rw [z, hxa] at hoc
      cases hoc
      rw [hxd] at hv
      cases hv
    show upd H xa (kpO xo) c = none
    rw [upd_ne ne]
    exact I.freeC y c ec
  · have hp' : p ∈ X.pn ++ pins := by
      have z : p ∈ (X.pn ++ pins) ++ ([] : List (Addr × Obj)) := hp
      rwa [List.append_nil] at z
    obtain ⟨k1, k2, k3, k4, k5⟩ := I.pin p hp'
    exact ⟨k1, by rw [upd_ne (hxp p hp')]; exact k2, k3, k4, k5⟩
theorem Inv.unsuiteT {xa : Addr} {pn' : List (Addr × Obj)} (I : Inv (X.suite xa (X.pn ++ pins)) pn' σ H s) (ok : X.Ok) : Inv X pins σ H s :=
  ⟨ok, I.os, I.bare, I.base, I.loc, I.cell, I.free, I.freeC, fun p hp => I.pin p (List.mem_append.mpr (.inl hp)), I.hok, I.len⟩
end
/-- the wish of a try's body; what never changes is asked of the suite -/
def wAsT (K : PySem.W.Frag) (cv : Value) (i : Nat) (ts : TS) (Wout : WX) (D : Ends) : WX := fun cls od σ H =>
  ∃ b, PySem.W.exmOne K cls cv = some b ∧ (b = true → ∀ (xa : Addr) (xo : Obj), H xa = none → Zc cls od xo → (∃ xs, xo.data = .fields xs) → ts { nx := fun σ1 H1 => D.nx (σ1.set i none) H1, rt := D.rt, bk := fun σ1 H1 => D.bk (σ1.set i none) H1, ct := fun σ1 H1 => D.ct (σ1.set i none) H1 } (σ.set i (some (.ref xa))) (upd H xa (kpO xo))) ∧ (b = false → Wout cls od σ H)
theorem sky_gone {B h : Heap} {l : List Env} {a L : Addr} {Z : Obj → Prop} (x : Sky B l a Z L h) : B.get? a = none := by
  rcases x with ⟨_, z, _⟩ | ⟨_, z, _⟩ | ⟨_, z, _⟩ <;> exact z
section
variable {X : Cx} {x n : Str} {cv : Value} {i : Nat} {body suite : List Stmt} {b₀ : Stmt} {np pos pos' : Pos} {tb : WX → TS} {ts : TS} {Wout : WX}
theorem ps_tryT (hs : X.stack = X.env :: X.outer) (hf : X.env.frame = some X.env.locals) (hex : X.ex = []) (hN : X.N.Nodup) (hi : X.N[i]? = some n) (hln : X.env.kindOf n = some .local) (hc : Names X x cv) (tk : Takes X Wout)
    (hb : ∀ (W : WX) (pn : List (Addr × Obj)) (xe : Value → Shared → Prop), Takes (X.tr pn xe) W → PSs (X.tr pn xe) body (tb W))
    (hsu : ∀ (xa : Addr) (pn : List (Addr × Obj)), PSs (X.suite xa pn) (b₀ :: suite) ts) :
    PS X (.Try body [.ExceptHandler (some (.Name x np)) (some n) (b₀ :: suite) pos'] [] [] pos) (fun D σ H => tb (wAsT X.K cv i ts Wout D) D σ H) := by
  refine ⟨fun pins s σ H D I h => ?_⟩
  have okX := I.ok
  have frX : X.A.frames = some (X.env :: X.outer) := by rw [okX.frames, hs]
  have locN : Loc X.env.scope n := .inl hln
  have body0 := (hb (wAsT X.K cv i ts Wout D) (X.pn ++ pins) (fun e s₁ => wpAny (model X.prog X.w) X.A (noteFrame e X.env) (fun _ s₂ => wpAny (model X.prog X.w) X.A (setFlight e none) (fun _ s₃ => wpAny (model X.prog X.w) X.A (handleBy e X.env [.ExceptHandler (some (.Name x np)) (some n) (b₀ :: suite) pos']) (SP X pins D) X.xe s₃) X.xe s₂) X.xe s₁) (fun u s' air => ?_)).run [] s σ H D (I.toTry _) h
  · refine wpAny_Try_except (wpAny_mono body0 (fun fl s1 hsp => ?_) fun _ _ z => z)
    cases fl with
    | next => obtain ⟨σ1, H1, J1, q1⟩ := hsp; exact wpAny_execs_nil ⟨σ1, H1, J1.ofTry okX, q1⟩
    | brk => obtain ⟨σ1, H1, J1, q1⟩ := hsp; exact ⟨σ1, H1, J1.ofTry okX, q1⟩
    | cont => obtain ⟨σ1, H1, J1, q1⟩ := hsp; exact ⟨σ1, H1, J1.ofTry okX, q1⟩
    | ret u => obtain ⟨v1, σ1, H1, J1, r1, q1⟩ := hsp; exact ⟨v1, σ1, H1, J1.ofTry okX, r1, q1⟩
  obtain ⟨xa, G, sI, pn1, σ1, H1, cls, od, rfl, J0, nG, up0, sky, hna, hos, hag, b, hcat, yes, no⟩ := air
  have J : Inv X pins σ1 H1 sI := J0.ofTry okX
  have skyX : Sky G (X.env :: X.outer) xa (Zc cls od) X.env.locals s'.heap := by rw [← hs]; exact sky
  have gone := sky_gone skyX
  show wpAny _ X.A (noteFrame (.ref xa) X.env) _ _ _
  refine Sky.land Zc.steady frX hf skyX fun g3 fly3 up3 => ?_
  have K3 : Inv X pins σ1 H1 { s' with heap := g3 } := J.landed nG fly3.1 (up0.trans up3) hos hag
  obtain ⟨o3, w3, get3, zc3, dat3⟩ := fly3.there
  have outF : xa ∉ frs (X.env :: X.outer) := fun hm => by
    obtain ⟨_, o', e', nf⟩ := fly3.2.2.1.mem hm
    rw [get3] at e'
    cases e'
    exact nf _ dat3
  have outL : xa ≠ X.env.locals := fun z => outF (List.mem_filterMap.mpr ⟨X.env, List.mem_cons_self, by rw [hf, z]⟩)
  have outS : xa ∉ X.fs := fun hm => by
    obtain ⟨ev, he, q⟩ := List.mem_filterMap.mp hm
    exact outF (List.mem_filterMap.mpr ⟨ev, List.mem_cons_of_mem _ he, q⟩)
  have out0 : sI.heap.get? xa = none := by
    cases q : sI.heap.get? xa with
    | none => rfl
    | some o =>
      have z := nG xa o q (by rw [hs]; exact outF)
      rw [gone] at z
      cases z
  have new0 : X.s_0.heap.get? xa = none := by
    cases q : X.s_0.heap.get? xa with
    | none => rfl
    | some o =>
      obtain ⟨o', z⟩ := J.base.there xa o q (by rw [hex]; exact fun z => nomatch z)
      rw [out0] at z
      cases z
  have newP : ∀ p ∈ X.pn ++ pins, p.1 ≠ xa := fun p hp z => by
    have q := (J.pin p hp).1
    rw [z, out0] at q
    cases q
  have S3 := K3.suite get3 dat3 hna outL outS
  refine wpAny_handleBy_cons (codeAny_handlers_test ?_) (fun q => by cases q)
  have LT : PySem.W.Looks (model X.prog X.w) g3 (typeOf (.ref xa)) cls := fun A Q E s k q => wpAny_typeOf_ref (k _ _ get3) (by rw [zc3.1]; exact q)
  have LM := PySem.W.exm_one (M := model X.prog X.w) K3.kIn LT hcat
  have test : ∀ {Q : Value → Shared → Prop} {E : Value → Shared → Prop}, Q cv { s' with heap := g3 } → wpAny (model X.prog X.w) (X.A.mark (some (.ref xa))) (eval (.Name x np) X.env) Q E { s' with heap := g3 } := fun {Q E} q => by
    obtain ⟨gX, dX, mX | ⟨mX, vX, nX⟩⟩ := hc
    · exact ld_glob (X := X.suite xa _) S3 gX mX q dX
    · exact ld_blt (X := X.suite xa _) S3 gX mX vX q nX dX
  refine test (LM.here ?_)
  cases b with
  | false =>
    show wpAny _ X.A (handleBy (.ref xa) X.env []) _ _ _
    obtain ⟨_, _, _, xo, xs, tr, _, _, gX, _, dX, fX, _⟩ := id fly3
    refine wpAny_handleBy_nil ?_
    unfold PySem.passOn
    refine wpAny_bind (wpAny_field gX dX fX ?_)
    rw [if_neg (show ¬ ((Value.ref tr == Value.none) = true) from by simp)]
    have finX : wpAny (model X.prog X.w) X.A (setFlight (.ref xa) X.env.frame) (fun _ s4 => wpAny (model X.prog X.w) X.A (throw (.ref xa) : Sem Flow) (SP X pins D) X.xe s4) X.xe { s' with heap := g3 } := by
      rw [hf]
      refine HandSPX.setFlight_upZ fly3 fun g4 held4 up4 => wpAny_throw (tk _ _ ?_)
      exact ⟨xa, G, sI, pins, σ1, H1, cls, od, rfl, J, nG, (up0.trans up3).trans up4, .inr (.inr (by rw [hs]; exact held4)), hna, hos, hag, no rfl⟩
    first
      | exact wpAny_bind (wpAny_pure (wpAny_bind finX))
      | exact wpAny_bind finX
  | true =>
    refine codeAny_handlers_suite_as (HandSPX.lands_againZ fly3 fun g4 fly4 up4 => ?_)
    have K4 : Inv X pins σ1 H1 { s' with heap := g4 } := J.landed nG fly4.1 ((up0.trans up3).trans up4) hos hag
    obtain ⟨o4, w4, get4, zc4, dat4⟩ := fly4.there
    have S4 := Inv.suiteT K4 get4 dat4 hna outL new0 newP
    refine store_ok (X := X.suite xa (X.pn ++ pins)) (v := .ref xa) S4 hN hi locN rfl (fun s5 S5 => ?_) (.inr hln)
    refine wpAny_mono ((hsu xa (X.pn ++ pins)).run [] s5 _ _ _ S5 (yes rfl xa o4 hna zc4 ⟨_, dat4⟩)) (fun fl s6 hsp => ?_) (fun _ _ z => False.elim z)
    have end_ : ∀ {σ6 : L2.St} {H6 : Hp} {Q : Shared → Prop}, Inv (X.suite xa (X.pn ++ pins)) [] σ6 H6 s6 → (∀ s7, Inv X pins (σ6.set i none) H6 s7 → Q s7) →
        wpAny (model X.prog X.w) X.A (do bindName X.env n .none; unbindBehindTheSuite X.env n pos') (fun _ s7 => Q s7) X.xe s6 := fun {σ6 H6 Q} S6 hq => gone_ok (Inv.unsuiteT S6 okX) hN hi hln hq
    cases fl with
    | next => obtain ⟨σ6, H6, S6, q6⟩ := hsp; exact end_ S6 fun s7 J7 => ⟨_, _, J7, q6⟩
    | brk => obtain ⟨σ6, H6, S6, q6⟩ := hsp; exact end_ S6 fun s7 J7 => ⟨_, _, J7, q6⟩
    | cont => obtain ⟨σ6, H6, S6, q6⟩ := hsp; exact end_ S6 fun s7 J7 => ⟨_, _, J7, q6⟩
    | ret u => obtain ⟨v6, σ6, H6, S6, r6, q6⟩ := hsp; exact end_ S6 fun s7 J7 => ⟨_, _, _, J7, r6, q6⟩
end
end DL

namespace DL
open PySem PySem.Spec PyProof.Rows L2
section
variable {K : PySem.W.Frag} {mg : Str → Option Value} {B : Bs} {F F' H H' : Hp} {μ μ' : Sto} {ρ : DEnv} {σ : L2.St}
/-- something that nobody owns is told never to change -/
theorem RelB.inF (r : RelB K mg B F ρ μ σ H) {p : Addr} {u : HO} (hB : B.H p = none) (hF : F p = none) (hm : μ p = none) (hH : H p = some u) (nl : ∀ vs, u ≠ .lst vs) : RelB K mg B (upd F p u) ρ μ σ H := by
  have mono : ∀ a o, F a = some o → upd F p u a = some o := fun a o e => by rw [upd_ne (ne_of_none e hF)]; exact e
  refine ⟨⟨⟨fun a o e => ?_, fun a m e => ?_, fun a m e => ?_⟩, r.rel.len, fun i s e => ?_, r.rel.apart⟩, ⟨fun a o e => mono a o (r.ext.mono a o e), fun a o e n => ?_, r.ext.live⟩, r.new⟩
  · by_cases ha : a = p
    · subst ha; rw [upd_same] at e; cases e; exact hH
    · rw [upd_ne ha] at e; exact r.rel.ok.sub a o e
  · have ha : a ≠ p := fun q => by subst q; rw [hm] at e; cases e
    rw [upd_ne ha]; exact r.rel.ok.dis a m e
  · exact (r.rel.ok.sto a m e).up mono rfl
  · obtain ⟨v, g1, g2⟩ := r.rel.slot i s e
    refine ⟨v, g1, ?_⟩
    cases s with
    | val d => exact Dt.mono mono g2
    | own xs =>
      obtain ⟨a, vs, q1, q2, q3, q4, q5⟩ := g2
      have ha : a ≠ p := fun q => by subst q; rw [hH] at q4; exact nl _ (Option.some.inj q4)
      exact ⟨a, vs, q1, (upd_ne ha).trans q2, q3, q4, q5.mono mono⟩
  · obtain ⟨g1, g2, g3⟩ := r.ext.keep a o e n
    have ha : a ≠ p := fun q => by subst q; rw [hB] at e; cases e
    exact ⟨g1, (upd_ne ha).trans g2, g3⟩
theorem RelB.exn {od : Option Addr} {cv : Value} {c : Str} {fs : List (Str × D)} {xa : Addr} {xo : Obj} (r : RelB K mg B F ρ μ σ H) (x : XD K mg B.H F μ H cv od c fs) (na : H xa = none) (hz : Zc cv od xo) (hf : ∃ xs, xo.data = .fields xs) :
    ∃ F', FLe F F' ∧ RelB K mg B F' ρ μ σ (upd H xa (kpO xo)) ∧ Dt K mg F' (.ref xa) (.exn c fs) := by
  obtain ⟨C, rfl, hc, ⟨rfl, rfl⟩ | ⟨d, vfs, rfl, h0, h1, h2, h3, h4, h5, h6⟩⟩ := x
  · obtain ⟨o, e⟩ := r.rel.ok.lay na (kpO xo)
    exact ⟨_, e.mono, r.step e o, .exn0 hc upd_same hz hf⟩
  · have r1 := r.inF h1 h2 h3 h4 fun vs z => by cases z
    have m1 : ∀ a o, F a = some o → upd F d (.xd vfs) a = some o := fun a o e => by rw [upd_ne (ne_of_none e h2)]; exact e
    obtain ⟨o, e⟩ := r1.rel.ok.lay na (kpO xo)
    have hd : d ≠ xa := fun q => by subst q; rw [na] at h4; cases h4
    exact ⟨_, fun a o h => e.mono a o (m1 a o h), r1.step e o, .exn1 hc upd_same hz hf ((upd_ne hd).trans upd_same) h5 (h6.mono fun a o h => e.mono a o (m1 a o h))⟩
end
/-- the ends of an except suite -/
def exE (i : Nat) (E : DEnds) : DEnds := { nx := fun ρ μ => E.nx (ρ.set i none) μ, rt := E.rt, bk := fun ρ μ => E.bk (ρ.set i none) μ, ct := fun ρ μ => E.ct (ρ.set i none) μ }
@[simp] theorem exE_rt {i : Nat} {E : DEnds} {d : D} {μ : Sto} : (exE i E).rt d μ = E.rt d μ := rfl
@[simp] theorem exE_nx {i : Nat} {E : DEnds} {ρ : DEnv} {μ : Sto} : (exE i E).nx ρ μ = E.nx (ρ.set i none) μ := rfl
@[simp] theorem exE_bk {i : Nat} {E : DEnds} {ρ : DEnv} {μ : Sto} : (exE i E).bk ρ μ = E.bk (ρ.set i none) μ := rfl
@[simp] theorem exE_ct {i : Nat} {E : DEnds} {ρ : DEnv} {μ : Sto} : (exE i E).ct ρ μ = E.ct (ρ.set i none) μ := rfl
def tryE (cat : Str → Option Bool) (i : Nat) (ts : TSD) (Wout : DEnv → DXK) (E : DEnds) : DEnv → DXK := fun ρ c fs μ =>
  ∃ b, cat c = some b ∧ (b = true → ts (exE i E) (ρ.set i (some (.val (.exn c fs)))) μ) ∧ (b = false → Wout ρ c fs μ)
def dTryE (cat : Str → Option Bool) (i : Nat) (tb : (DEnv → DXK) → TSD) (ts : TSD) (Wout : DEnv → DXK) : TSD := fun E ρ μ => tb (tryE cat i ts Wout E) E ρ μ
section
variable {X : Cx} {B : Bs} {x n : Str} {cv : Value} {i : Nat} {body suite : List Stmt} {b₀ : Stmt} {np pos pos' : Pos} {cat : Str → Option Bool} {tb : (DEnv → DXK) → TSD} {ts : TSD} {Wout : DEnv → DXK}
theorem ds_tryE (hs : X.stack = X.env :: X.outer) (hf : X.env.frame = some X.env.locals) (hex : X.ex = []) (hN : X.N.Nodup) (hi : X.N[i]? = some n) (hln : X.env.kindOf n = some .local) (hc : Names X x cv) (tk : ∀ B', (∀ c d σ H, liftWX X.K X.mg B' Wout c d σ H → liftWX X.K X.mg B Wout c d σ H) → Takes X (liftWX X.K X.mg B' Wout))
    (hcat : ∀ c b C, cat c = some b → X.mg c = some (.ref C) → PySem.W.exmOne X.K (.ref C) cv = some b)
    (hb : ∀ (B' : Bs) (W : DEnv → DXK) (pn : List (Addr × Obj)) (xe : Value → Shared → Prop), Takes (X.tr pn xe) (liftWX X.K X.mg B' W) → DSs (X.tr pn xe) B' body (tb W))
    (hsu : ∀ (B' : Bs) (xa : Addr) (pn : List (Addr × Obj)), DSs (X.suite xa pn) B' (b₀ :: suite) ts) :
    DSt X B (.Try body [.ExceptHandler (some (.Name x np)) (some n) (b₀ :: suite) pos'] [] [] pos) (dTryE cat i tb ts Wout) := by
  refine ⟨fun pins s σ H D I h => ?_⟩
  obtain ⟨F, ρ, μ, Dd, R, hd, kn, kb, kc, kr⟩ := h
  have imp : ∀ c d σ H, liftWX X.K X.mg ⟨F, B.μ, B.H⟩ Wout c d σ H → liftWX X.K X.mg B Wout c d σ H := fun c d σ' H' w => by
    obtain ⟨F1, ρ1, μ1, c1, fs, R1, x1, q⟩ := w
    exact ⟨F1, ρ1, μ1, c1, fs, R.back R1, x1, q⟩
  refine (ps_tryT (tb := fun W D σ H => ∃ Wd, (∀ c d σ H, liftWX X.K X.mg ⟨F, B.μ, B.H⟩ Wd c d σ H → W c d σ H) ∧ liftS X.K X.mg ⟨F, B.μ, B.H⟩ (tb Wd) D σ H)
    (ts := liftS X.K X.mg ⟨F, B.μ, B.H⟩ ts) (Wout := liftWX X.K X.mg ⟨F, B.μ, B.H⟩ Wout)
    hs hf hex hN hi hln hc (tk _ imp) (fun W pn xe tk' => ⟨fun pins s σ H D I ⟨Wd, im, h⟩ => (hb _ Wd pn xe (tk'.imp im)).run pins s σ H D I h⟩) (fun xa pn => hsu _ xa pn)).run pins s σ H D I ?_
  refine ⟨tryE cat i ts Wout Dd, fun cv' od σ' H' w => ?_, F, ρ, μ, Dd, R.here, hd, ?_, ?_, ?_, ?_⟩
  · obtain ⟨F', ρ', μ', c, fs, R', x', b, hcb, yes, no⟩ := w
    obtain ⟨C, e1, e2, _⟩ := id x'
    subst e1
    refine ⟨b, hcat c b C hcb e2, fun hb' xa xo na hz hf => ?_, fun hb' => ⟨F', ρ', μ', c, fs, R', x', no hb'⟩⟩
    obtain ⟨F2, fl2, R2, D2⟩ := R'.exn x' na hz hf
    refine ⟨F2, _, _, _, R2.set (i := i) D2, yes hb', ?_, ?_, ?_, ?_⟩
    · intro F3 ρ3 μ3 σ3 H3 fl R3 q
      exact kn F3 _ _ _ H3 (fun b o e => fl b o (fl2 b o (R'.ext.mono b o e))) (R.back (R3.wipe [i])) q
    · intro F3 ρ3 μ3 σ3 H3 fl R3 q
      exact kb F3 _ _ _ H3 (fun b o e => fl b o (fl2 b o (R'.ext.mono b o e))) (R.back (R3.wipe [i])) q
    · intro F3 ρ3 μ3 σ3 H3 fl R3 q
      exact kc F3 _ _ _ H3 (fun b o e => fl b o (fl2 b o (R'.ext.mono b o e))) (R.back (R3.wipe [i])) q
    · intro v F3 μ3 H3 dv e o w q
      exact kr v F3 _ H3 dv (ext_back R.ext e) o w q
  · exact fun F' ρ' μ' σ' H' fl R' q => kn F' ρ' μ' σ' H' fl (R.back R') q
  · exact fun F' ρ' μ' σ' H' fl R' q => kb F' ρ' μ' σ' H' fl (R.back R') q
  · exact fun F' ρ' μ' σ' H' fl R' q => kc F' ρ' μ' σ' H' fl (R.back R') q
  · exact fun v F' μ' H' dv e o w q => kr v F' μ' H' dv (ext_back R.ext e) o w q
end
def rdIsE (T : XTab) : RDn
  | [.exn c _, .gl q], μ, Q => ∃ b, T.get c q = some b ∧ Q (.bl b) μ
  | [.exn c _, .ty t], μ, Q => ∃ b, T.getT c t = some b ∧ Q (.bl b) μ
  | [.exn c _, .tup cs], μ, Q => cs ≠ [] ∧ ∃ b, T.any c cs = some b ∧ Q (.bl b) μ
  | _, _, _ => False
@[simp] theorem rdIsE_1 {c q : Str} {fs : List (Str × D)} {T : XTab} {μ : Sto} {Q : DK} : rdIsE T [.exn c fs, .gl q] μ Q = (∃ b, T.get c q = some b ∧ Q (.bl b) μ) := rfl
@[simp] theorem rdIsE_2 {c : Str} {t : String} {fs : List (Str × D)} {T : XTab} {μ : Sto} {Q : DK} : rdIsE T [.exn c fs, .ty t] μ Q = (∃ b, T.getT c t = some b ∧ Q (.bl b) μ) := rfl
@[simp] theorem rdIsE_3 {c : Str} {cs : List D} {fs : List (Str × D)} {T : XTab} {μ : Sto} {Q : DK} : rdIsE T [.exn c fs, .tup cs] μ Q = (cs ≠ [] ∧ ∃ b, T.any c cs = some b ∧ Q (.bl b) μ) := rfl
/-- an exception that stands in what never changes -/
def ExnAt (mg : Str → Option Value) (H : Hp) (a : Addr) (c : Str) (C : Addr) (od : Option Addr) : Prop := mg c = some (.ref C) ∧ ∃ oe, H a = some (kpO oe) ∧ Zc (.ref C) od oe ∧ (∃ vs, oe.data = .fields vs) ∧ ∀ dd, od = some dd → ∃ fs, H dd = some (.xd fs)
theorem exn_at {K : PySem.W.Frag} {mg : Str → Option Value} {F H : Hp} {μ : Sto} (o : Ok K mg F μ H) {v : V} {c : Str} {fs : List (Str × D)} (w : Dt K mg F v (.exn c fs)) : ∃ a C od, v = .ref a ∧ ExnAt mg H a c C od := by
  cases w with
  | exn0 h1 h2 h3 h4 => exact ⟨_, _, _, rfl, h1, _, o.sub _ _ h2, h3, h4, fun dd z => by cases z⟩
  | exn1 h1 h2 h3 h4 h5 h6 h7 => exact ⟨_, _, _, rfl, h1, _, o.sub _ _ h2, h3, h4, fun dd z => by cases z; exact ⟨_, o.sub _ _ h5⟩⟩
theorem inst_at {X : Cx} {pins : List (Addr × Obj)} {σ : L2.St} {H : Hp} {s : Shared} {mg : Str → Option Value} {a C : Addr} {c : Str} {od : Option Addr} (I : Inv X pins σ H s) (h : ExnAt mg H a c C od) : ∃ oe od', PySem.W.InstAt s.heap a oe C od' := by
  obtain ⟨_, oe, h1, h2, ⟨vs, h3⟩, h4⟩ := h
  have get := (I.hok a _ h1).1
  cases od with
  | none => exact ⟨oe, none, get, h2.1, by unfold PySem.W.notCls; rw [h3] <;> rfl, by rw [h2.2]; trivial⟩
  | some dd =>
    obtain ⟨fs, hfs⟩ := h4 dd rfl
    have hx : ObjOk X.prog X.w H s.heap dd (.xd fs) := I.hok dd _ hfs
    obtain ⟨mA, hns, hr⟩ := hx
    obtain ⟨o, ho, hl⟩ := lookIn_ns hns
    exact ⟨oe, some o, get, h2.1, by unfold PySem.W.notCls; rw [h3] <;> rfl, by rw [h2.2]; exact ho⟩
def rIsE (K : PySem.W.Frag) (mg : Str → Option Value) : List V → Hp → VK → Prop := fun xs H Q => ∃ (a C : Addr) (c : Str) (od : Option Addr) (cv : V) (b : Bool), xs = [.ref a, cv] ∧ ExnAt mg H a c C od ∧ ExcC K C ∧
  ((∃ u, ClsV cv u ∧ PySem.W.kitOne K (.ref C) u = some b) ∨ ∃ tp ob cs us, cv = .ref tp ∧ H tp = some (.frz ob (.tup cs)) ∧ Paired ClsV cs us ∧ PySem.W.kitAny K (.ref C) us = some b) ∧ Q (.bl b) H
theorem call_isE {X : Cx} : CallR X (.builtin "isinstance") (rIsE X.K X.mg) := by
  intro pins s σ H xs us Q I r h
  obtain ⟨a, C, c, od, cv, b, rfl, hat, EC, hcl, q⟩ := h
  obtain ⟨u1, u2, rfl, r1, r2⟩ := vals2 r
  obtain rfl : u1 = Value.ref a := r1
  obtain ⟨oe, od', J⟩ := inst_at I hat
  have KX := PySem.W.kitx_exc (K := X.K) (C := C) (x := a) (ox := oe) (od := od') (by obtain ⟨cd, hc, _⟩ := PySem.W.any_some EC.hd; rw [hc]; rfl) EC.hg EC.hk EC.hs EC.ha EC.hn EC.ht EC.hm
  rcases hcl with ⟨u, hu, hk⟩ | ⟨tp, ob, cs, us, rfl, hT, hp, hk⟩
  · have e2 := hu.eq r2
    subst e2
    exact PySem.W.kia_one KX I.kIn J hk (fun z => nomatch z) fun tk => ⟨.bl b, H, I.kept (t' := tk) fun _ _ z => z, rfl, q⟩
  · obtain rfl : u2 = Value.ref tp := r2
    obtain ⟨_, _, its, rv, o, h1, h2, n, h3⟩ := (show ObjOk X.prog X.w H s.heap tp (.frz ob (.tup cs)) from I.hok tp _ hT)
    have e3 := ClsV.all hp rv
    subst e3
    obtain ⟨oc, odd, dt, sl⟩ := o
    simp only at h2 h3
    subst h2 h3
    exact PySem.W.kia_tup KX I.kIn J h1 hk (fun z => nomatch z) fun tk => ⟨.bl b, H, I.kept (t' := tk) fun _ _ z => z, rfl, q⟩
theorem cs_isE {K : PySem.W.Frag} {mg : Str → Option Value} {T : XTab} (TX : XTabOk K mg T) : CallS K mg (rIsE K mg) (rdIsE T) := by
  intro F μ H vs ds Qd Q o w h k
  unfold rdIsE at h
  split at h
  · obtain ⟨u, v, rfl, wk, wt⟩ := w.two
    obtain ⟨b, h2, q⟩ := h
    rcases wk with wk | ⟨_, _, _, _, e, _⟩
    · obtain ⟨a, C, od, rfl, hat⟩ := exn_at o wk
      obtain ⟨Q', g1, g2, _, g3⟩ := TX.get h2 hat.1
      rcases wt with wt | ⟨_, _, _, _, e, _⟩
      · cases wt
        rename_i a' ha'
        rw [g1] at ha'
        cases ha'
        exact ⟨a, C, _, od, _, b, rfl, hat, g3, .inl ⟨_, .own _, g2⟩, fin0 o k (.bl _) q⟩
      · cases e
    · cases e
  · obtain ⟨u, v, rfl, wk, wt⟩ := w.two
    obtain ⟨b, h2, q⟩ := h
    rcases wk with wk | ⟨_, _, _, _, e, _⟩
    · obtain ⟨a, C, od, rfl, hat⟩ := exn_at o wk
      obtain ⟨g2, g3⟩ := TX.getT h2 hat.1
      rcases wt with wt | ⟨_, _, _, _, e, _⟩
      · cases wt
        exact ⟨a, C, _, od, _, b, rfl, hat, g3, .inl ⟨_, .ty _, g2⟩, fin0 o k (.bl _) q⟩
      · cases e
    · cases e
  · rename_i cs
    obtain ⟨u, v, rfl, wk, wt⟩ := w.two
    obtain ⟨hne, b, h2, q⟩ := h
    rcases wk with wk | ⟨_, _, _, _, e, _⟩
    · obtain ⟨a, C, od, rfl, hat⟩ := exn_at o wk
      obtain ⟨tp, vs, rfl, _, ⟨ob, _, hp⟩, hds⟩ := wt.tup o
      obtain ⟨us, g1, g2⟩ := TX.any hat.1 _ _ _ h2 hds
      have g3 : ExcC K C := by
        cases cs with
        | nil => exact absurd rfl hne
        | cons d cs =>
          cases d <;> first | cases h2; done | skip
          · rename_i n
            cases hg : T.getT _ n with
            | none => unfold XTab.any at h2; rw [hg] at h2; cases h2
            | some b' => exact (TX.getT hg hat.1).2
          · rename_i x
            cases hg : T.get _ x with
            | none => unfold XTab.any at h2; rw [hg] at h2; cases h2
            | some b' => exact (TX.get hg hat.1).choose_spec.2.2.2
      exact ⟨a, C, _, od, _, b, rfl, hat, g3, .inr ⟨tp, ob, vs, us, rfl, o.sub _ _ hp, g1, g2⟩, fin0 o k (.bl _) q⟩
    · cases e
  · exact h.elim
/-- e.f, of an exception of one of the classes cs -/
def fldE (cs : List Str) (f : Str) : D → (D → Prop) → Prop
  | .exn c fs, Q => c ∈ cs ∧ ∃ v, fs.lookup f = some v ∧ Q v
  | _, _ => False
@[simp] theorem fldE_1 {cs : List Str} {f c : Str} {fs : List (Str × D)} {Q : D → Prop} : fldE cs f (.exn c fs) Q = (c ∈ cs ∧ ∃ v, fs.lookup f = some v ∧ Q v) := rfl
@[simp] def dFldE (cs : List Str) (f : Str) (d : TED) : TED := fun ρ μ Q => d ρ μ fun x μ1 => fldE cs f x fun v => Q v μ1
section
variable {X : Cx} {f : Str} {e : Expr} {d : TED} {te : TE} {pos : Pos} {cs : List Str}
theorem pe_fldE (he : PE X e te) (hb : attributeBase e f X.env (eval e X.env) = eval e X.env) : PE X (.Attribute e f pos) (fun σ H Q => te σ H fun x H1 => ∃ (a C dd : Addr) (c : Str) (fs : List (Str × V)) (v : V), x = .ref a ∧ ExnAt X.mg H1 a c C (some dd) ∧ XfC X.K C ∧ PySem.W.findIn X.K (.ref C) f = some none ∧ H1 dd = some (.xd fs) ∧ fs.lookup f = some v ∧ Q v H1) := by
  refine ⟨fun pins s σ H Q I h => ?_⟩
  refine attr_of hb (thn (he.run pins s σ H _ I h) fun u s1 hh => ?_)
  obtain ⟨x, H1, I1, rx, a, C, dd, c, fs, v, rfl, hat, TC, hno, hdd, hl, q⟩ := hh
  obtain rfl : u = Value.ref a := rx
  obtain ⟨_, oe, h1, h2, ⟨vs, h3⟩, _⟩ := hat
  have get := (I1.hok a _ h1).1
  have hx : ObjOk X.prog X.w H1 s1.heap dd (.xd fs) := I1.hok dd _ hdd
  obtain ⟨mA, hns, hr⟩ := hx
  obtain ⟨od, ho, hlk⟩ := lookIn_ns hns
  obtain ⟨u, hu, ru⟩ := RelO.some_of (v := v) (o := mA f) (by rw [← hl]; exact hr f)
  have J : PySem.W.InstAt s1.heap a oe C (some od) := ⟨get, h2.1, by unfold PySem.W.notCls; rw [h3] <;> rfl, by rw [h2.2]; exact ho⟩
  exact HandSPX.exc_get I1.kIn J TC.ga TC.gg TC.exC (PySem.W.findObj_own TC.hdC hno rfl (by rw [hlk, hu])) (handed_of ru) ⟨v, H1, I1.tok _, ru, q⟩
theorem de_fldE (T : ∀ c ∈ cs, FldRd X.K X.mg c f) (he : DE X e d) (hb : attributeBase e f X.env (eval e X.env) = eval e X.env := by rfl) : DE X (.Attribute e f pos) (dFldE cs f d) := (pe_fldE he hb).weaken fun σ H Q h => by
  obtain ⟨F, ρ, μ, Qd, R, hd, kk⟩ := h
  refine ⟨F, ρ, μ, _, R, hd, fun v F1 μ1 H1 dv e1 o1 w1 q1 => ?_⟩
  cases dv <;> first | exact q1.elim | skip
  obtain ⟨hm, y, hl, q1⟩ := q1
  obtain ⟨CB, g1, g2, g3⟩ := (T _ hm).ex
  cases w1 with
  | exn0 h1 h2 h3 h4 => cases hl
  | exn1 h1 h2 h3 h4 h5 h6 h7 =>
    rw [g1] at h1
    cases h1
    obtain ⟨w, l1, l2⟩ := dts_lookup h6 h7 hl
    exact ⟨_, _, _, _, _, w, rfl, ⟨g1, _, o1.sub _ _ h2, h3, h4, fun dd z => by cases z; exact ⟨_, o1.sub _ _ h5⟩⟩, g2, g3, o1.sub _ _ h5, l1, kk w F1 μ1 H1 y e1 o1 l2 q1⟩
end
end DL

namespace DL
open PySem PySem.Spec PyProof.Rows L2
/-- room, whatever is handled -/
structure RoomW (k : Nat) (A : Around) : Prop where
  dp : A.depth + 3 * k + 5 < recursionLimit
  un : A.units + 16 * k + 200 < cLine
theorem RoomW.mono {j k : Nat} {A : Around} (r : RoomW k A) (h : j ≤ k) : RoomW j A := ⟨by have := r.dp; omega, by have := r.un; omega⟩
theorem RoomW.deeper {k : Nat} {A : Around} (r : RoomW (k + 1) A) (env : Env) : RoomW k (A.deeper env) :=
  ⟨by have h := r.dp; show A.depth + 1 + 3 * k + 5 < _; omega, by have h := r.un; show A.units + 3 + 16 * k + 200 < _; omega⟩
theorem RoomW.depth {k : Nat} {A : Around} (r : RoomW k A) : A.depth < recursionLimit := by have h := r.dp; omega
theorem RoomW.units {k : Nat} {A : Around} (r : RoomW k A) : A.units + 64 < cLine := by have h := r.un; omega
theorem Room.w {k : Nat} {A : Around} (r : Room k A) : RoomW k A := ⟨r.dp, r.un⟩
/-- a call by position, whatever is handled -/
def FRH (P : Program) (w : World) (K : PySem.W.Frag) (mg : Str → Option Value) (base : Heap) (k : Nat) (f : Addr) (sp : Sp) : Prop :=
  ∀ (A : Around) (outer : List Env) (s : Shared) (H : Hp) (us : List Value) (vs : List V) (Q : VK) (E : XK), Quiet A → RoomW k A → Env0 P w K mg base A outer s H → Vals vs us → sp vs H Q E → codeAny (model P w) A (.call (.ref f) ⟨us, []⟩) (CR L2.CX0 outer P w H s Q E) s
/-- the body of such a def -/
abbrev cxHot (P : Program) (w : World) (K : PySem.W.Frag) (mg : Str → Option Value) (base : Heap) (N : List Str) (qual : Str) (scope : Scope) (f : Addr) (cd : Value) (A : Around) (outer : List Env) (s : Shared) (H : Hp) (E : XK) : Cx :=
  { cxOf L2.CX0 P w K mg base N qual scope f cd A outer s H E with calm := false }
theorem hotInv {P : Program} {w : World} {K : PySem.W.Frag} {mg : Str → Option Value} {base : Heap} {N : List Str} {qual : Str} {scope : Scope} {f : Addr} {cd : Value} {A : Around} {outer : List Env} {s s' : Shared} {H H' : Hp} {E : XK} {pins : List (Addr × Obj)} {σ : L2.St}
    (I : Inv (cxOf L2.CX0 P w K mg base N qual scope f cd { A with handled := none } outer s H E) pins σ H' s') : Inv (cxHot P w K mg base N qual scope f cd A outer s H E) pins σ H' s' :=
  ⟨⟨I.ok.mod, I.ok.kind, I.ok.glob, I.ok.blt, I.ok.above, I.ok.inj, I.ok.has, I.ok.cab, fun z => Bool.noConfusion (show false = true from z), I.ok.frames, I.ok.stk, I.ok.exf, I.ok.bs, I.ok.bsz, I.ok.noex, I.ok.exfs, I.ok.funs, I.ok.frf⟩,
    I.os, I.bare, I.base, I.loc, I.cell, I.free, I.freeC, I.pin, I.hok, I.len⟩
section
variable {P : Program} {w : World} {K : PySem.W.Frag} {mg : Str → Option Value} {base : Heap} {k : Nat} {f : Addr} {fd : FuncData} {ps : List Str} {S : DSp}
theorem FRH.of {name qual : Str} {st : Stmt} {N : List Str} (Df : Fun K name qual st f fd) (Sc : FnScope N ps (defScope st)) (hb : Binds K fd ps []) (len : ∀ ds μ Q E, S ds μ Q E → ds.length = ps.length) (d : TSD)
    (hd : ∀ ds μ Q E, S ds μ Q E → d { nx := fun _ μ' => Q .non μ', rt := Q } (startD N.length ds) μ)
    (body : ∀ (cdv : Value) (A : Around) (outer : List Env) (s : Shared) (H : Hp) (E : XK) (B : Bs), Quiet (A.deeper (envOfC qual (defScope st) s.heap.objs.size f cdv)) → RoomW k (A.deeper (envOfC qual (defScope st) s.heap.objs.size f cdv)) →
      DSs (cxHot P w K mg base N qual (defScope st) f cdv A outer s H E).nox B (defBody st) d) : FRH P w K mg base (k + 1) f (liftP K mg S) := by
  obtain ⟨oc, od, kV, doc, pm, an, cdv, ct, osl, rfl, hk, hcode⟩ := Df.ex
  intro A outer s H us vs Q E quiet room env rel hsp
  obtain ⟨F, μ, ds, Qd, Ed, h1, h2, h3, h4, h5⟩ := hsp
  have n : vs.length = ps.length := h2.length.trans (len _ _ _ _ h3)
  have kin : K.In s.heap := env.mod.kin.keeps (fun b o z => (env.bs b o z).1)
  have free : s.heap.NoLimit := env.mod.nolimit.keeps (fun b o z => (env.bs b o z).1)
  have nu : (us ++ []).length = ps.length := by rw [List.append_nil, ← rel.length]; exact n
  have bind := hb s us kin nu
  rw [List.append_nil] at bind
  refine codeAny_call_function room.depth (kin _ _ hk) rfl Sc.co Sc.gen rfl (PySem.W.codeRec_of kin hcode) (bind _ _ _ _ ?_)
  have loc : ∀ y ∈ ps.zip us, (defScope st).names.lookup y.1 = some .local ∨ ((defScope st).names.lookup y.1 = some .cell ∧ ((cellsFrom (s.heap.objs.size + 1) (defScope st).names []).lookup y.1).isSome = true) := by
    intro y hy
    rcases Sc.par y.1 (List.of_mem_zip hy).1 with q | q
    · exact Or.inl q
    · exact Or.inr ⟨q, PySem.W.cellsFrom_some _ _ _ (Or.inl q)⟩
  refine wpAny_newFunctionEnv_cells Sc.kind loc ?_
  intro env' he s1 x
  subst he
  refine ⟨free.keeps x.toInCall.keep, codeAny_func ?_⟩
  have ht := PSs.nox (body cdv A outer s H E ⟨F, μ, H⟩ quiet (room.deeper _))
  have I := hotInv (A := A) (inv_start (CX := L2.CX0) (A := { A with handled := none }) (E := E) Sc rfl ⟨env.frames, env.mod, env.bs, env.bsz, env.funs, env.frf, env.hok, env.bare⟩ n rel x)
  have hq : liftS K mg ⟨F, μ, H⟩ d { nx := fun _ H' => Q .non H', rt := Q } (L2.start N vs) H := by
    refine ⟨F, startD N.length ds, μ, { nx := fun _ μ' => Qd .non μ', rt := Qd }, start_rel h1 h2, hd _ _ _ _ h3, ?_, fun _ _ _ _ _ _ _ z => z.elim, fun _ _ _ _ _ _ _ z => z.elim, ?_⟩
    · exact fun F' ρ' μ' σ' H' _ R q => h4 .non F' μ' H' .non R.ext R.rel.ok .non q
    · exact h4
  refine wpAny_mono (ht.run [] s1 _ H _ I hq) ?_ (fun _ _ z => z)
  intro fl s' hs
  match fl, hs with
  | .ret u, ⟨v, σ', H', J, rv, q⟩ => exact ⟨v, H', J.os, J.bare, J.base, J.hok, rv, q⟩
  | .next, ⟨σ', H', J, q⟩ => exact ⟨V.non, H', J.os, J.bare, J.base, J.hok, rfl, q⟩
  | .brk, ⟨_, _, _, q⟩ => exact q.elim
  | .cont, ⟨_, _, _, q⟩ => exact q.elim
end
section
variable {X : Cx} {k : Nat} {x : Str} {S : DSp} {e : Expr} {es : List Expr} {t : TAD} {p pos : Pos}
end
end DL

namespace DL
open PySem PySem.Spec PyProof.Rows L2
section
open Builtin PySem.W
variable {prog : Program} {w : World} {A : Around} {E : Value → Shared → Prop} {s : Shared} {K : Frag} {x C : Addr} {ox : Obj} {od : Option Obj} {l : Addr} {T : String}
/-- a built-in type's own comparison declines an own instance -/
def Declines (prog : Program) (w : World) (A : Around) (E : Value → Shared → Prop) (s : Shared) (u : Value) (x : Addr) (id : String) : Prop :=
  ∀ Q : Value → Shared → Prop, Q .notImplemented s → wpAny (model prog w) A (call (.builtin id) [u, .ref x]) Q E s
theorem isInst_no (Xk : K.In s.heap) (I : InstAt s.heap x ox C od) (hn : subIn K (.ref C) (.type T) = some false) {Q : Bool → Shared → Prop} (h : Q false s) : wpAny (model prog w) A (isInstance (.ref x) (.type T)) Q E s := by
  unfold isInstance
  exact wpAny_bind (I.type.here ((looks_subIn Xk hn).here h))
/-- an own instance, no subclass of the type T -/
def NotT (T : String) (K : Frag) (x : Addr) (s : Shared) : Prop := K.In s.heap ∧ ∃ ox C od, InstAt s.heap x ox C od ∧ subIn K (.ref C) (.type T) = some false
theorem decl_none : Declines prog w A E s .none x "NoneType.__eq__" := fun Q h =>
  call_gives F.slot_NoneType_eq rfl F.entry_NoneType_eq (F.args_NoneType_eq_2 _ _) (SeqAt.NoneType___eq___none_ref_0 x) h
theorem decl_list (hl : s.TypeIs (.ref l) "list") (n : NotT "list" K x s) : Declines prog w A E s (.ref l) x "list.__eq__" := fun Q h =>
  call_meets F.slot_list_eq hl F.entry_list_eq (F.args_list_eq_2 _ _) (S := fun _ R s => NotT "list" K x s ∧ R (.ok (.ret .notImplemented)) s) (fun prog w A R s h => by
    obtain ⟨⟨Xk, ox, C, od, I, hn⟩, h⟩ := h
    show wpAny _ _ (slotArgs "__eq__" 1 _ >>= _) _ _ _
    refine wpAny_bind (wpAny_pure ?_)
    dsimp only
    refine wpAny_bind (isInst_no Xk I hn ?_)
    exact wpAny_pure h) ⟨n, h⟩
theorem decl_tuple (hl : s.TypeIs (.ref l) "tuple") (n : NotT "tuple" K x s) : Declines prog w A E s (.ref l) x "tuple.__eq__" := fun Q h =>
  call_meets F.slot_tuple_eq hl F.entry_tuple_eq (F.args_tuple_eq_2 _ _) (S := fun _ R s => NotT "tuple" K x s ∧ R (.ok (.ret .notImplemented)) s) (fun prog w A R s h => by
    obtain ⟨⟨Xk, ox, C, od, I, hn⟩, h⟩ := h
    show wpAny _ _ (slotArgs "__eq__" 1 _ >>= _) _ _ _
    refine wpAny_bind (wpAny_pure ?_)
    dsimp only
    refine wpAny_bind (isInst_no Xk I hn ?_)
    exact wpAny_pure h) ⟨n, h⟩
theorem decl_dict (hl : s.TypeIs (.ref l) "dict") (n : NotT "dict" K x s) : Declines prog w A E s (.ref l) x "dict.__eq__" := fun Q h =>
  call_meets F.slot_dict_eq hl F.entry_dict_eq (F.args_dict_eq_2 _ _) (S := fun _ R s => NotT "dict" K x s ∧ R (.ok (.ret .notImplemented)) s) (fun prog w A R s h => by
    obtain ⟨⟨Xk, ox, C, od, I, hn⟩, h⟩ := h
    show wpAny _ _ (Dict.dictSlotArgs "__eq__" _ >>= _) _ _ _
    refine wpAny_bind (wpAny_bind (wpAny_pure ?_))
    refine wpAny_bind (wpAny_pure (wpAny_pure ?_))
    dsimp only
    refine wpAny_bind (isInst_no Xk I hn ?_)
    exact wpAny_bind (wpAny_rule (wpAny_pure h))) ⟨n, h⟩
/-- an own instance that holds no number and no text -/
def NoPrim (x : Addr) (s : Shared) : Prop := ∃ o, s.heap.get? x = some o ∧ (∀ v, o.data ≠ .prim v)
theorem decl_str {t : Str} {k : Tok} (n : NoPrim x s) : Declines prog w A E s (.str t k) x "str.__eq__" := fun Q h =>
  call_meets F.slot_str_eq (typeIs_str s t k) F.entry_str_eq (F.args_str_eq_2 _ _) (S := fun _ R s => NoPrim x s ∧ R (.ok (.ret .notImplemented)) s) (fun prog w A R s h => by
    obtain ⟨⟨o, ho, hd⟩, h⟩ := h
    have as : ∀ (A : Around) (E : Value → Shared → Prop) (Q : Option Str → Shared → Prop), Q none s → wpAny (model prog w) A (asStr? (.ref x)) Q E s := fun A E Q q => by
      unfold asStr?
      refine wpAny_bind (wpAny_load ho ?_)
      split
      · rename_i e; exact absurd e (hd _)
      · exact wpAny_pure q
    show wpAny _ _ (Str.strSlot "__eq__" 1 _ >>= _) _ _ _
    refine wpAny_bind (wpAny_bind (wpAny_pure ?_))
    refine wpAny_bind (wpAny_pure (wpAny_pure ?_))
    dsimp only
    refine wpAny_bind (as _ _ _ ?_)
    exact wpAny_bind (wpAny_rule (wpAny_pure h))) ⟨n, h⟩
theorem as_none {o : Obj} (ho : s.heap.get? x = some o) (hd : ∀ v, o.data ≠ .prim v) {Q : Option Int → Shared → Prop} (q : Q none s) : wpAny (model prog w) A (asInt? (.ref x)) Q E s := by
  unfold asInt?
  refine wpAny_bind (wpAny_load ho ?_)
  split
  · rename_i e; exact absurd e (hd _)
  · exact wpAny_pure q
theorem decl_int {i : Int} {k : Tok} (n : NoPrim x s) : Declines prog w A E s (.int i k) x "int.__eq__" := fun Q h =>
  call_meets F.slot_int_eq (typeIs_int s i k) F.entry_int_eq (F.args_int_eq_2 _ _) (S := fun _ R s => NoPrim x s ∧ R (.ok (.ret .notImplemented)) s) (fun prog w A R s h => by
    obtain ⟨⟨o, ho, hd⟩, h⟩ := h
    show wpAny _ _ (slotArgs "__eq__" 1 _ >>= _) _ _ _
    refine wpAny_bind (wpAny_pure ?_)
    refine wpAny_bind (wpAny_bind (wpAny_pure (wpAny_pure ?_)))
    dsimp only
    refine wpAny_bind (as_none ho hd ?_)
    exact wpAny_bind (wpAny_rule (wpAny_pure h))) ⟨n, h⟩
theorem decl_bool {b : Bool} (n : NoPrim x s) : Declines prog w A E s (.bool b) x "int.__eq__" := fun Q h =>
  call_meets F.slot_bool_eq rfl F.entry_int_eq (F.args_int_eq_2 _ _) (S := fun _ R s => NoPrim x s ∧ R (.ok (.ret .notImplemented)) s) (fun prog w A R s h => by
    obtain ⟨⟨o, ho, hd⟩, h⟩ := h
    show wpAny _ _ (slotArgs "__eq__" 1 _ >>= _) _ _ _
    refine wpAny_bind (wpAny_pure ?_)
    refine wpAny_bind (wpAny_bind (wpAny_pure (wpAny_pure ?_)))
    dsimp only
    refine wpAny_bind (as_none ho hd ?_)
    exact wpAny_bind (wpAny_rule (wpAny_pure h))) ⟨n, h⟩
/-- v == x, where v's type declines: x's own __eq__ answers -/
theorem eq_reflected {h₀ : Heap} {L f : Addr} {m : PySem.Str → Option Value} {id : String} {u : Value} {Q : Value → Shared → Prop} (hu : A.units < cLine) (F : Fr h₀ L s.heap m) (X₀ : K.In h₀) (I : InstAt s.heap x ox C od) (hT : s.TypeIs u T)
    (hsub : subIn K (.ref C) (.type T) = some false) (sl : Slot T (cmpInfo .Eq).2.1 id) (hd : Declines prog w A E s u x id)
    (hs : findIn K (.ref C) "__eq__" = some (some (.ref f))) (hf : isFn K (.ref f) = true)
    (h : wpAny (model prog w) A (call (.ref f) [.ref x, u]) (PySem.W.CmpBack Q) E s) : wpAny (model prog w) A (richCompare .Eq u (.ref x)) Q E s := by
  have Xk := X₀.keeps F.keep
  have one : wpAny (model prog w) A (tryCompare (.ref x) "__eq__" u) (fun r s' => ∃ v, r = some v ∧ Q v s') E s := by
    unfold tryCompare
    refine wpAny_bind (ifBound_K Xk I hs hf (wpAny_mono h (fun v s' hv => ?_) fun _ _ e => e))
    cases v <;> first | exact hv.elim | exact wpAny_pure ⟨_, rfl, hv⟩
  unfold richCompare
  simp only [hT.oneThing_none]
  refine wpAny_holding (wpAny_bind (wpAny_cRoomFor hu ?_))
  refine wpAny_bind (wpAny_typeOf hT (wpAny_bind (I.type.here ?_)))
  have ne : (Value.type T != Value.ref C) = true := bne_iff_ne.mpr fun z => by cases z
  rw [if_pos ne]
  refine wpAny_bind ((looks_subIn Xk hsub).here ?_)
  simp only [Bool.false_eq_true, if_false, Bool.not_false, if_true]
  refine wpAny_bind (m := tryCompare u _ (.ref x)) (wpAny_tryCompare_declines hT sl (hd _ ⟨rfl, ?_⟩))
  refine wpAny_bind (m := tryCompare (.ref x) _ u) (wpAny_mono one (fun r s' z => ?_) fun _ _ e => e)
  obtain ⟨v, rfl, hq⟩ := z
  exact wpAny_pure hq
end
section
variable {X : Cx} {k : Nat} {Ss : List (Str × DSp)}
def RCal (P : Program) (w : World) (K : PySem.W.Frag) (mg : Str → Option Value) (base : Heap) (k : Nat) (c : Str) (S : DSp) : Prop :=
  DCal P w K mg base k "__eq__" c S ∧ ∃ C, mg c = some (.ref C) ∧ noTyps K C = true
/-- a value whose type declines -/
inductive DecT (s : Shared) : Value → String → Prop
  | non : DecT s .none "NoneType"
  | bl (b : Bool) : DecT s (.bool b) "bool"
  | int (i : Int) (t : Tok) : DecT s (.int i t) "int"
  | str (x : PySem.Str) (t : Tok) : DecT s (.str x t) "str"
  | lst (a : Addr) (h : s.TypeIs (.ref a) "list") : DecT s (.ref a) "list"
  | tup (a : Addr) (h : s.TypeIs (.ref a) "tuple") : DecT s (.ref a) "tuple"
  | dct (a : Addr) (h : s.TypeIs (.ref a) "dict") : DecT s (.ref a) "dict"
theorem decT_of {pins : List (Addr × Obj)} {σ : L2.St} {H : Hp} {s : Shared} {x : V} {u : Value} {T : String} (I : Inv X pins σ H s) (rx : RelV x u) (hT : T ∈ typs) (ty : TyX X.K H x (.type T)) : DecT s u T := by
  generalize e : Value.type T = t at ty
  cases ty with
  | base b =>
    cases b with
    | non => cases e; cases (show u = Value.none from rx); exact .non
    | bl y => cases e; cases (show u = Value.bool y from rx); exact .bl _
    | int i => cases e; obtain ⟨t, q⟩ := (show ∃ t, u = Value.int i t from rx); cases q; exact .int _ _
    | str y => cases e; obtain ⟨t, q⟩ := (show ∃ t, u = Value.str y t from rx); cases q; exact .str _ _
    | flt y => cases e; exact absurd hT (by decide)
    | @lst a xs ea =>
      cases e
      cases (show u = Value.ref a from rx)
      obtain ⟨_, _, n, _, h1⟩ := (show ObjOk X.prog X.w H s.heap a (.lst xs) from I.hok a _ ea)
      exact .lst _ ⟨_, h1, rfl⟩
    | @frz a ob xs ea =>
      cases e
      cases (show u = Value.ref a from rx)
      obtain ⟨_, _, _, n, _, h1⟩ := (show ObjOk X.prog X.w H s.heap a (.frz ob (.lst xs)) from I.hok a _ ea)
      exact .lst _ ⟨_, h1, rfl⟩
    | @tup a xs ea =>
      cases e
      cases (show u = Value.ref a from rx)
      obtain ⟨_, _, _, o, h1, h2, _⟩ := (show ObjOk X.prog X.w H s.heap a (.tup xs) from I.hok a _ ea)
      exact .tup _ ⟨o, h1, h2⟩
    | @dK a kvs ea =>
      cases e
      cases (show u = Value.ref a from rx)
      obtain ⟨_, _, vs, _, o, es, ep, h1, h2, _⟩ := (show ObjOk X.prog X.w H s.heap a (.dK kvs) from I.hok a _ ea)
      exact .dct _ ⟨o, h1, h2.1⟩
    | @dT a kvs ea =>
      cases e
      cases (show u = Value.ref a from rx)
      obtain ⟨_, _, xs, _, o, es, ep, h1, h2, _⟩ := (show ObjOk X.prog X.w H s.heap a (.dT kvs) from I.hok a _ ea)
      exact .dct _ ⟨o, h1, h2.1⟩
    | ins => cases e
  | byt y => cases e; exact absurd hT (by decide)
  | set => cases e; exact absurd hT (by decide)
  | @kList a o ek c => cases e; cases (show u = Value.ref a from rx); exact .lst _ ⟨o, I.kIn _ _ ek, c⟩
  | @kTuple a o ek c => cases e; cases (show u = Value.ref a from rx); exact .tup _ ⟨o, I.kIn _ _ ek, c⟩
  | @kDict a o ek c => cases e; cases (show u = Value.ref a from rx); exact .dct _ ⟨o, I.kIn _ _ ek, c⟩
  | @fTuple a o xs ea =>
    cases e
    cases (show u = Value.ref a from rx)
    obtain ⟨_, _, _, _, o, h1, h2, _⟩ := (show ObjOk X.prog X.w H s.heap a (.frz o (.tup xs)) from I.hok a _ ea)
    exact .tup _ ⟨_, h1, h2⟩
  | @fDict a o kvs ea =>
    cases e
    cases (show u = Value.ref a from rx)
    obtain ⟨_, _, _, vs, _, o, es, ep, h1, h2, _⟩ := (show ObjOk X.prog X.w H s.heap a (.frz o (.dK kvs)) from I.hok a _ ea)
    exact .dct _ ⟨_, h1, h2.1⟩
/-- .. declines an own instance -/
theorem DecT.decl {K : PySem.W.Frag} {prog : Program} {w : World} {A : Around} {E : Value → Shared → Prop} {s : Shared} {u : Value} {T : String} {x C dx : Addr} {od : Option Obj} (d : DecT s u T) (Xk : K.In s.heap) (hx : s.heap.get? x = some (PySem.W.instObj C dx)) (I : PySem.W.InstAt s.heap x (PySem.W.instObj C dx) C od)
    (no : noTyps K C = true) : ∃ id, s.TypeIs u T ∧ PySem.W.subIn K (.ref C) (.type T) = some false ∧ Slot T (cmpInfo .Eq).2.1 id ∧ Declines prog w A E s u x id := by
  have sub : ∀ T ∈ typs, PySem.W.subIn K (.ref C) (.type T) = some false := fun T hT => by
    have := List.all_eq_true.mp no T hT
    exact beq_iff_eq.mp this
  have np : NoPrim x s := ⟨_, hx, fun v e => by cases e⟩
  cases d with
  | non => exact ⟨_, rfl, sub _ (by decide), F.slot_NoneType_eq, decl_none⟩
  | bl b => exact ⟨_, rfl, sub _ (by decide), F.slot_bool_eq, decl_bool np⟩
  | int i t => exact ⟨_, typeIs_int s i t, sub _ (by decide), F.slot_int_eq, decl_int np⟩
  | str y t => exact ⟨_, typeIs_str s y t, sub _ (by decide), F.slot_str_eq, decl_str np⟩
  | lst a h => exact ⟨_, h, sub _ (by decide), F.slot_list_eq, decl_list h ⟨Xk, _, _, _, I, sub _ (by decide)⟩⟩
  | tup a h => exact ⟨_, h, sub _ (by decide), F.slot_tuple_eq, decl_tuple h ⟨Xk, _, _, _, I, sub _ (by decide)⟩⟩
  | dct a h => exact ⟨_, h, sub _ (by decide), F.slot_dict_eq, decl_dict h ⟨Xk, _, _, _, I, sub _ (by decide)⟩⟩
def rEqR (X : Cx) (k : Nat) : R2 := fun x y H Q => (∃ T, T ∈ typs ∧ TyX X.K H x (.type T)) ∧ (∃ b C dx fs, y = .ref b ∧ H b = some (.ins C dx fs) ∧ noTyps X.K C = true) ∧ rM X k "__eq__" [y, x] H Q EF
theorem op_eqR (quiet : Quiet X.A) (room : Room k X.A) : OpR X (compareOp .Eq) (rEqR X k) := by
  intro pins s σ H x y v u Q I rx ry h
  obtain ⟨⟨T, hT, tx⟩, ⟨b, C, dx, fs, rfl, hb, no⟩, b', C', dx', fs', f, r, sp, e, hb', M, q⟩ := h
  cases e
  cases hb.symm.trans hb'
  obtain rfl : u = Value.ref b := ry
  obtain ⟨mA, J, _⟩ := ins_get I.hok hb
  obtain ⟨od, J', _⟩ := J.look
  obtain ⟨m', hF⟩ := I.fr
  obtain ⟨id, h1, h2, h3, h4⟩ := (decT_of I rx hT tx).decl (prog := X.prog) (w := X.w) (A := X.A) (E := X.xe) (I.kIn) J.obj J' no
  exact eq_reflected (by have := room.units; omega) hF I.ok.mod.kin J' h1 h2 h3 h4 M.at_ M.fn (wpAny_mono (run_gx (us := [.ref b, v]) (vs := [.ref b, x]) M.run quiet room (passAt takesN σ) I (.cons rfl (.cons rx .nil)) q) (fun r s' hr => cmpBack hr) fun _ _ e => e)
@[simp] def rdEqR (Ss : List (Str × DSp)) : RD2 := fun x y μ Q => isiOk x = true ∧ rdM Ss [y, x] μ Q noD
theorem ops_eqR (hc : ∀ p ∈ Ss, RCal X.prog X.w X.K X.mg X.base k p.1 p.2) : OpSE X.K X.mg (rEqR X k) (rdEqR Ss) := by
  intro F μ H x y dx dy Qd Q o wx wy h kk
  obtain ⟨t, ht, tx, _⟩ := tyX_of o (.inl wx) h.1
  refine ⟨⟨t, ht, tx⟩, ?_, rdM_v (fun p hp => (hc p hp).1) o (.cons wy (.cons wx .nil)) h.2 kk fun _ _ _ _ _ _ _ _ _ _ z => z.elim⟩
  obtain ⟨c, fs, S, hx, hm, _⟩ := rdM_iff h.2
  obtain ⟨a, C, d, vfs, rfl, g1, g2, g3⟩ := insOf_v o wy hx
  obtain ⟨_, C', h1, h2⟩ := hc _ hm
  cases g1.symm.trans h1
  exact ⟨a, C, d, vfs, rfl, g2, h2⟩
end
end DL

namespace DL
open PySem PySem.Spec PyProof.Rows L2
section
variable {X : Cx} {e fe : Expr} {es : List Expr} {do' : TED} {t : TAD} {pos : Pos} {k : Nat} {Ss : List (Str × DSp)} {W : DEnv → DXK} {Rl : RlT}
@[simp] def dCallO (Ss : List (Str × DSp)) (o : TED) (t : TAD) (W : DEnv → DXK) : TED := fun ρ μ Q => o ρ μ fun x μ1 => insK (insOf μ1 x) fun _ _ => t ρ μ1 fun ds μ2 => rdM Ss (x :: ds) μ2 Q (W ρ)
end
end DL

namespace DL
open PySem PySem.Spec PyProof.Rows L2
/-- {x}: a text or an int -/
def fmtK : D → (List Nat → Prop) → Prop
  | .str s, k => s.length ≤ SZ ∧ k s
  | .int i, k => i.natAbs.log2 < 1920 ∧ k (toString i : Str).cps.toList
  | _, _ => False
@[simp] theorem fmtK_1 {s : List Nat} {k : List Nat → Prop} : fmtK (.str s) k = (s.length ≤ SZ ∧ k s) := rfl
@[simp] theorem fmtK_2 {i : Int} {k : List Nat → Prop} : fmtK (.int i) k = (i.natAbs.log2 < 1920 ∧ k (toString i : Str).cps.toList) := rfl
def strK : D → (List Nat → Prop) → Prop
  | .str s, k => k s
  | _, _ => False
@[simp] theorem strK_1 {s : List Nat} {k : List Nat → Prop} : strK (.str s) k = k s := rfl
theorem strK_iff {d : D} {k : List Nat → Prop} (h : strK d k) : ∃ s, d = .str s ∧ k s := by
  cases d <;> first | exact h.elim | exact ⟨_, rfl, h⟩
@[simp] def dFmt (d : TED) : TED := fun ρ μ Q => d ρ μ fun x μ1 => fmtK x fun s => Q (.str s) μ1
/-- the parts, one behind the other -/
def dJs : List TED → List Nat → DEnv → Sto → (List Nat → Sto → Prop) → Prop
  | [], acc, _, μ, Q => Q acc μ
  | p :: ps, acc, ρ, μ, Q => p ρ μ fun x μ1 => strK x fun s => acc.length + s.length ≤ SZ ∧ dJs ps (acc ++ s) ρ μ1 Q
@[simp] theorem dJs_0 {acc : List Nat} {ρ : DEnv} {μ : Sto} {Q : List Nat → Sto → Prop} : dJs [] acc ρ μ Q = Q acc μ := rfl
@[simp] theorem dJs_1 {p : TED} {ps : List TED} {acc : List Nat} {ρ : DEnv} {μ : Sto} {Q : List Nat → Sto → Prop} : dJs (p :: ps) acc ρ μ Q = p ρ μ fun x μ1 => strK x fun s => acc.length + s.length ≤ SZ ∧ dJs ps (acc ++ s) ρ μ1 Q := rfl
@[simp] def dFs (ps : List TED) : TED := fun ρ μ Q => dJs ps [] ρ μ fun s μ1 => Q (.str s) μ1
section
variable {X : Cx} {e : Expr} {es : List Expr} {d p : TED} {ps : List TED} {pos : Pos}
theorem de_fmt (he : DE X e d) : DE X (.FormattedValue e (-1) none pos) (dFmt d) := (pe_fmt he).weaken fun σ H Q q => by
  obtain ⟨F, ρ, μ, Qd, R, hd, k⟩ := q
  refine ⟨F, ρ, μ, _, R, hd, fun v F1 μ1 H1 dv e1 o1 w1 q1 => ?_⟩
  cases dv <;> first | exact q1.elim | skip
  · rename_i i
    cases w1
    have h := Dt.str (K := X.K) (mg := X.mg) (F := F1) ((toString i : Str).cps.toList)
    rw [S_of] at h
    exact .inr ⟨i, rfl, q1.1, k _ F1 μ1 H1 _ e1 o1 h q1.2⟩
  · cases w1
    exact .inl ⟨_, rfl, by rw [S_len, sizeLine_eq]; exact q1.1, k _ F1 μ1 H1 _ e1 o1 (.str _) q1.2⟩
/-- the parts' judgements -/
inductive DJ (X : Cx) : List Expr → List TED → Prop where
  | nil : DJ X [] []
  | cons {e : Expr} {d : TED} {es : List Expr} {ps : List TED} (h : DE X e d) (r : DJ X es ps) : DJ X (e :: es) (d :: ps)
theorem DJ.pj {es : List Expr} {ps : List TED} (h : DJ X es ps) : ∃ ts, PJ X es ts ∧ ∀ (acc : List Nat) (σ : L2.St) (H : Hp) (Q : Str → Hp → Prop), (∃ F ρ μ Qd, Rel X.K X.mg F ρ μ σ H ∧ dJs ps acc ρ μ Qd ∧ ∀ s F' μ' H', Ext F μ H F' μ' H' → Ok X.K X.mg F' μ' H' → Qd s μ' → Q (S s) H') → tJs ts (S acc) σ H Q := by
  induction h with
  | nil => exact ⟨[], .nil, fun acc σ H Q ⟨F, ρ, μ, Qd, R, q, k⟩ => k acc F μ H .refl R.ok q⟩
  | @cons e d es ps he r ih =>
    obtain ⟨ts, h1, h2⟩ := ih
    refine ⟨_, .cons he h1, fun acc σ H Q ⟨F, ρ, μ, Qd, R, q, k⟩ => ?_⟩
    refine ⟨F, ρ, μ, _, R, q, fun v F1 μ1 H1 dv e1 o1 w1 q1 => ?_⟩
    obtain ⟨s, rfl, hl, q1⟩ := strK_iff q1
    cases w1
    refine ⟨_, rfl, by rw [S_app, S_len, sizeLine_eq, List.length_append]; exact hl, ?_⟩
    rw [S_app]
    exact h2 _ _ _ _ ⟨F1, ρ, μ1, Qd, R.ext e1 o1, q1, fun s F' μ' H' e2 o2 q2 => k s F' μ' H' (e1.trans e2) o2 q2⟩
theorem de_fs {v1 v2 : Expr} {rest : List Expr} (h : DJ X (v1 :: v2 :: rest) ps) : DE X (.JoinedStr (v1 :: v2 :: rest) pos) (dFs ps) := by
  obtain ⟨ts, h1, h2⟩ := h.pj
  refine (pe_joined h1).weaken fun σ H Q q => ?_
  obtain ⟨F, ρ, μ, Qd, R, hd, k⟩ := q
  exact h2 [] σ H _ ⟨F, ρ, μ, _, R, hd, fun s F' μ' H' e o q => k (.str (S s)) F' μ' H' _ e o (.str s) q⟩
end
end DL

namespace DL
open PySem PySem.Spec PyProof.Rows L2
/-- the parts between the signs c -/
def spl (c : Nat) (s : List Nat) : List (List Nat) := (Txt.split (S s) (S [c])).map fun p => p.cps.toList
def rdSplit : RDm
  | .str s, [.str [c]], μ, Q => s.length + 2 ≤ SZ ∧ Q (.lst ((spl c s).map D.str)) μ
  | _, _, _, _ => False
@[simp] theorem rdSplit_1 {s : List Nat} {c : Nat} {μ : Sto} {Q : DK} : rdSplit (.str s) [.str [c]] μ Q = (s.length + 2 ≤ SZ ∧ Q (.lst ((spl c s).map D.str)) μ) := rfl
/-- int(text of figures) -/
def rdIntS : RDn
  | [.str s], μ, Q => s ≠ [] ∧ (∀ c ∈ s, 48 ≤ c ∧ c ≤ 57) ∧ s.length ≤ 640 ∧ Q (.int ((NumText.digitsVal s : Nat) : Int)) μ
  | _, _, _ => False
@[simp] theorem rdIntS_1 {s : List Nat} {μ : Sto} {Q : DK} : rdIntS [.str s] μ Q = (s ≠ [] ∧ (∀ c ∈ s, 48 ≤ c ∧ c ≤ 57) ∧ s.length ≤ 640 ∧ Q (.int ((NumText.digitsVal s : Nat) : Int)) μ) := rfl
/-- text or other -/
@[simp] def dOrT (a b : TED) : TED := fun ρ μ Q => a ρ μ fun x μ1 => strK x fun s => s.length ≤ SZ ∧ if s = [] then b ρ μ1 Q else Q (.str s) μ1
end DL

namespace DL
open PySem PySem.Spec PyProof.Rows L2 CwR
/-- a value is evaluated, and a token is out behind it -/
def PEG (X : Cx) (e : Expr) (t : TE) : Prop := ∀ (pins : List (Addr × Obj)) (s : Shared) (σ : L2.St) (H : Hp) (Q : VK), Inv X pins σ H s → t σ H Q → wpAny (model X.prog X.w) X.A (eval e X.env) (fun u s' => 1 ≤ s'.toks ∧ EP X pins σ Q u s') X.xe s
section
variable {X : Cx} {e a o : Expr} {es : List Expr} {te to : TE} {t : TA} {da d do' : TED} {td : TAD} {pos c0 c1 apos : Pos} {y z : List Nat} {j k : Nat}
theorem PEG.weaken {t' : TE} (h : PEG X e te) (w : ∀ σ H Q, t' σ H Q → te σ H Q) : PEG X e t' := fun pins s σ H Q I q => h pins s σ H Q I (w σ H Q q)
theorem S_cps (x : Str) : S x.cps.toList = x := by
  obtain ⟨a⟩ := x
  show (⟨a.toList.toArray⟩ : Str) = ⟨a⟩
  simp
/-- the text with the parts replaced -/
def replL (x y z : List Nat) : List Nat := (Txt.replace (S x) (S y) (S z)).cps.toList
def replK (y z : List Nat) : D → (D → Prop) → Prop
  | .str x, Q => x.length + (x.length + 1) * z.length ≤ SZ ∧ Q (.str (replL x y z))
  | _, _ => False
@[simp] theorem replK_1 {x y z : List Nat} {Q : D → Prop} : replK y z (.str x) Q = (x.length + (x.length + 1) * z.length ≤ SZ ∧ Q (.str (replL x y z))) := rfl
@[simp] def dRepl (y z : List Nat) (d : TED) : TED := fun ρ μ Q => d ρ μ fun v μ1 => replK y z v fun w => Q w μ1
end
def upL (x : List Nat) : List Nat := (Txt.upper (S x)).cps.toList
def rdUpper : RDm
  | .str s, [], μ, Q => s.length ≤ 5592405 ∧ Q (.str (upL s)) μ
  | _, _, _, _ => False
@[simp] theorem rdUpper_1 {s : List Nat} {μ : Sto} {Q : DK} : rdUpper (.str s) [] μ Q = (s.length ≤ 5592405 ∧ Q (.str (upL s)) μ) := rfl
theorem ms_upper {K : PySem.W.Frag} {mg : Str → Option Value} : MtS K mg (fun x xs H Q => ∃ a, x = .str a ∧ xs = [] ∧ a.length ≤ 5592405 ∧ Q (.str (Txt.upper a)) H) rdUpper := by
  intro F μ H v vs d ds Qd Q o w ws h k
  unfold rdUpper at h
  split at h
  · rename_i s
    cases ws
    refine ⟨_, w.str, rfl, by rw [S_len]; exact h.1, ?_⟩
    have : (V.str (Txt.upper (S s))) = V.str (S (upL s)) := by unfold upL; rw [S_cps]
    rw [this]
    exact fin0 o k (.str _) h.2
  · exact h.elim
end DL

namespace DL
open PySem PySem.Spec PyProof.Rows L2
def sp_Sheet_str : DSp := fun ds μ Q _ => ∃ w : List Nat, ds = [obS w] ∧ w.length ≤ 1000 ∧ Q (.str ([34] ++ w ++ [34])) μ
/-- texts are of signs -/
def vOkB : D → Bool
  | .str s => decide (s.length ≤ 100) && s.all fun c => decide (c < 1114112)
  | _ => true
def vOk (v : D) : Prop := vOkB v = true
def sp_law_short : DSp := fun ds μ Q _ => ∃ v : D, ds = [v] ∧ isiOk v = true ∧ vOk v ∧ Q (.bl (isWd v)) μ
/-- what is told of a value -/
def madeD (v : D) : D := match v with
  | .str w => if isWd (.str w) then .tup [.str w, .int w.length, .bl (decide (0 < w.length)), .str ([34] ++ w ++ [34])] else .lst [.str w, .bl true]
  | v => .lst [v, .bl true]
def sp_law_made : DSp := fun ds μ Q _ => ∃ v : D, ds = [v] ∧ ((isiOk v = true ∧ sOk v) ∨ ∃ w, v = obS w) ∧ Q (madeD v) μ
def letD (a : List Nat) (v : D) : D := if btw v 0 (a.length - 1) then .str (match v with | .int i => (a[i.toNat]?).toList | _ => []) else .lst [v, .bl true]
def sp_law_letter : DSp := fun ds μ Q _ => ∃ (a : List Nat) (v : D), ds = [obS a, v] ∧ a.length ≤ 30 ∧ isiOk v = true ∧ Q (letD a v) μ
def sp_law_equal_right : DSp := fun ds μ Q _ => ∃ a b : List Nat, ds = [.str a, .str b] ∧ a.length ≤ 30 ∧ b.length ≤ 30 ∧ Low a ∧ Low b ∧ Q (.bl true) μ
def sp_law : DSp := fun ds μ Q _ => ∃ ns : List Int, ds = [.scr ns] ∧ ns.length ≤ 63 ∧ ∀ μ', Q (.bl true) μ'
def tab_law : XTab := ⟨[("BadWord", "BadLetter", false), ("BadWord", "BadNumber", false), ("BadWord", "BadOrder", false), ("BadWord", "BadWord", true), ("BadWord", "NoIndex", false), ("BadWord", "NoPlace", false), ("BadWord", "NoSheet", false), ("BadWord", "PadError", true), ("BadWord", "TooLong", false), ("NoPlace", "BadLetter", false), ("NoPlace", "BadNumber", false), ("NoPlace", "BadOrder", false), ("NoPlace", "BadWord", false), ("NoPlace", "NoIndex", false), ("NoPlace", "NoPlace", true), ("NoPlace", "NoSheet", false), ("NoPlace", "PadError", false), ("NoPlace", "TooLong", false)], [("BadWord", "LookupError", false), ("BadWord", "ValueError", true), ("NoPlace", "LookupError", true), ("NoPlace", "ValueError", false)]⟩
/-- Sheet.__str__(self); slots 0:self -/
def b_Sheet_str : TSD :=
  (dRet (dFs [(dC (.str [34])), (dFmt (dFld ["Sheet"] "letters" (dVar 0))), (dC (.str [34]))]))
def b_law_short_2 : TSD :=
  (dRet (dOp rdEq (dF (dLc [1] (dEach (dVar 0)) (dName 1) (dB (dOp rdNotIn (dLook 1) (dC (.str [97, 98, 99, 100, 101, 102, 103, 104, 105, 106, 107, 108, 109, 110, 111, 112, 113, 114, 115, 116, 117, 118, 119, 120, 121, 122])))) (dVar 1))) (dLst dNil)))
/-- _law_short(_law_value); slots 0:_law_value 1:_law_sign -/
def b_law_short : TSD :=
  (dSeq (dIfS (dOr (dNot (dB (dFn (rdIsiO itab_law) (dCons (dLook 0) (dCons (dC (.ty "str")) dNil))))) (dB (dOp rdGt (dFn rdLen (dCons (dLook 0) dNil)) (dC (.int 30)))))
  (dRet (dC (.bl false)))
  dNext)
  b_law_short_2)
/-- _law_made(_law_value); slots 0:_law_value 1:_law_sheet 2:error 3:_law_others -/
def b_law_made : TSD :=
  (dTryE (fun c => tab_law.get c "PadError") 2 (fun W => (dSeq (dSetR 1 (dVal (dMakeZ "Sheet" dom_Sheet mk_Sheet (dCons (dVar 0) dNil) W)))
  (dRet (dTup (dCons (dProp "text" [("Sheet", sp_Sheet_text)] (dVar 1) (fun _ => noD)) (dCons (dFn (rdUnO [("Sheet", sp_Sheet_len)] tLenD) (dCons (dLook 1) dNil)) (dCons (dFn (rdUnO [("Sheet", sp_Sheet_bool)] tBoolD) (dCons (dLook 1) dNil)) (dCons (dFn (rdUnO [("Sheet", sp_Sheet_str)] tStrD) (dCons (dLook 1) dNil)) dNil)))))))) (dSeq (dSetR 3 (dVal (dFn (rdIsE tab_law) (dCons (dLook 2) (dCons (dTup (dCons (dC (.gl "BadLetter")) (dCons (dC (.gl "BadNumber")) (dCons (dC (.gl "BadOrder")) (dCons (dC (.gl "TooLong")) (dCons (dC (.ty "LookupError")) dNil)))))) dNil)))))
  (dRet (dIf (dAnd (dB (dFn (rdIsE tab_law) (dCons (dLook 2) (dCons (dC (.gl "BadWord")) dNil)))) (dNot (dB (dVar 3)))) (dLst (dCons (dFldE ["BadWord", "NoPlace"] "value" (dVar 2)) (dCons (dFn (rdIsE tab_law) (dCons (dLook 2) (dCons (dC (.ty "ValueError")) dNil))) dNil))) (dC (.str [111, 116, 104, 101, 114]))))) (fun _ _ _ _ => False))
/-- _law_letter(_law_sheet, _law_value); slots 0:_law_sheet 1:_law_value 2:error 3:_law_others -/
def b_law_letter : TSD :=
  (dTryE (fun c => tab_law.get c "NoPlace") 2 (fun W => (dRet (dIxO [("Sheet", sp_Sheet_getitem)] (dVar 0) (dVar 1) W))) (dSeq (dSetR 3 (dVal (dFn (rdIsE tab_law) (dCons (dLook 2) (dCons (dTup (dCons (dC (.gl "PadError")) (dCons (dC (.ty "ValueError")) (dCons (dC (.gl "NoIndex")) (dCons (dC (.gl "NoSheet")) dNil))))) dNil)))))
  (dRet (dLst (dCons (dFldE ["BadWord", "NoPlace"] "value" (dVar 2)) (dCons (dAndV (dFn (rdIsE tab_law) (dCons (dLook 2) (dCons (dC (.ty "LookupError")) dNil))) (dNotV (dVar 3))) dNil))))) (fun _ _ _ _ => False))
def b_law_equal_right_3 : TSD :=
  (dRet (dOp rdEq (dFn rdRepr (dCons (dLook 5) dNil)) (dFn rdRepr (dCons (dLst (dCons (dVar 4) (dCons (dVar 4) (dCons (dNotV (dVar 4)) (dCons (dC (.bl true)) dNil))))) dNil))))
def b_law_equal_right_2 : TSD :=
  (dSeq (dSetR 5 (dVal (dLst (dCons (dOp (rdEqO [("Sheet", sp_Sheet_eq)]) (dVar 2) (dVar 3)) (dCons (dOp (rdEqO [("Sheet", sp_Sheet_eq)]) (dVar 3) (dVar 2)) (dCons (dOp (rdNeO [("Sheet", sp_Sheet_eq)]) (dVar 2) (dVar 3)) (dCons (dOp (rdEqO [("Sheet", sp_Sheet_eq)]) (dVar 2) (dMakeZ "Sheet" dom_Sheet mk_Sheet (dCons (dVar 0) dNil) (fun _ => noD))) dNil)))))))
  b_law_equal_right_3)
/-- _law_equal_right(_law_one_here, _law_other); slots 0:_law_one_here 1:_law_other 2:_law_first 3:_law_second 4:_law_due 5:_law_found -/
def b_law_equal_right : TSD :=
  (dSeq (dPar3 2 3 4 (dCons (dMakeZ "Sheet" dom_Sheet mk_Sheet (dCons (dVar 0) dNil) (fun _ => noD)) (dCons (dMakeZ "Sheet" dom_Sheet mk_Sheet (dCons (dVar 1) dNil) (fun _ => noD)) (dCons (dOp rdEq (dLook 0) (dLook 1)) dNil))))
  b_law_equal_right_2)
def b_law_2l_4l_2t : TSD :=
  (dSetR 9 (dVal (dTup (dCons (dVar 8) (dCons (dFn rdLen (dCons (dLook 8) dNil)) (dCons (dOp rdNe (dLook 8) (dC (.str []))) (dCons (dOp rdAdd (dOp rdAdd (dC (.str [34])) (dLook 8)) (dC (.str [34]))) dNil)))))))
def b_law_2l_4l_4 : TSD :=
  (dIfS (dOr (dB (dOp rdNe (dFn rdReprO (dCons (dLst (dCons (dCall sp_law_made (dCons (dVar 8) dNil) noD) (dCons (dCall sp_law_made (dCons (dVar 8) dNil) noD) dNil))) dNil)) (dFn rdReprO (dCons (dLst (dCons (dVar 9) (dCons (dVar 9) dNil))) dNil)))) (dB (dOp rdNe (dFn rdReprO (dCons (dLook 8) dNil)) (dLook 10))))
  (dRet (dC (.bl false)))
  dNext)
def b_law_2l_4l_3 : TSD :=
  (dSeq (dSetR 10 (dVal (dFn rdReprO (dCons (dLook 8) dNil))))
  b_law_2l_4l_4)
def b_law_2l_4l_2 : TSD :=
  (dSeq (dIfS (dB (dCall sp_law_short (dCons (dVar 8) dNil) noD))
  b_law_2l_4l_2t
  dNext)
  b_law_2l_4l_3)
def b_law_2l_4l : TSD :=
  (dSeq (dSetR 9 (dVal (dLst (dCons (dVar 8) (dCons (dC (.bl true)) dNil)))))
  b_law_2l_4l_2)
def b_law_2l_6l_2 : TSD :=
  (dIfS (dB (dOp rdNe (dFn rdReprO (dCons (dCall sp_law_letter (dCons (dVar 11) (dCons (dVar 8) dNil)) noD) dNil)) (dFn rdReprO (dCons (dLook 9) dNil))))
  (dRet (dC (.bl false)))
  dNext)
def b_law_2l_6l : TSD :=
  (dSeq (dSetR 9 (dVal (dIf (dB (dCall sp_lawE_whole (dCons (dVar 8) (dCons (dC (.int 0)) (dCons (dOp rdSub (dFn rdLen (dCons (dLook 3) dNil)) (dC (.int 1))) dNil))) noD)) (dOp rdIx (dLook 3) (dLook 8)) (dLst (dCons (dVar 8) (dCons (dC (.bl true)) dNil))))))
  b_law_2l_6l_2)
def b_law_2l_7l : TSD :=
  (dIfS (dNot (dB (dCall sp_law_equal_right (dCons (dVar 3) (dCons (dVar 12) dNil)) noD)))
  (dRet (dC (.bl false)))
  dNext)
def b_law_2l_8l : TSD :=
  (dIfS (dB (dOp rdNe (dFn rdReprO (dCons (dLst (dCons (dOp (rdEqO [("Sheet", sp_Sheet_eq)]) (dVar 11) (dVar 8)) (dCons (dOp (rdEqR [("Sheet", sp_Sheet_eq)]) (dVar 8) (dVar 11)) (dCons (dOp (rdNeO [("Sheet", sp_Sheet_eq)]) (dVar 11) (dVar 8)) dNil)))) dNil)) (dFn rdReprO (dCons (dLst (dCons (dC (.bl false)) (dCons (dC (.bl false)) (dCons (dC (.bl true)) dNil)))) dNil))))
  (dRet (dC (.bl false)))
  dNext)
def b_law_2l_10 : TSD :=
  (dIfS (dOr (dB (dOp rdNe (dProp "text" [("Sheet", sp_Sheet_text)] (dVar 11) (fun _ => noD)) (dLook 3))) (dOr (dNot (dB (dFn (rdIsiO itab_law) (dCons (dLook 13) (dCons (dC (.ty "list")) dNil))))) (dOr (dNot (dB (dOp (rdEqO [("Sheet", sp_Sheet_eq)]) (dOp rdIx (dLook 13) (dC (.int 0))) (dVar 11)))) (dB (dOp rdNotB (dOp rdIx (dLook 13) (dC (.int 1))) (dC (.bl true)))))))
  (dRet (dC (.bl false)))
  dNext)
def b_law_2l_9 : TSD :=
  (dSeq (dSetR 13 (dVal (dCall sp_law_made (dCons (dVar 11) dNil) noD)))
  b_law_2l_10)
def b_law_2l_8 : TSD :=
  (dSeq (dFor (dEach (dLst (dCons (dVar 3) (dCons (dTup (dCons (dVar 3) dNil)) (dCons (dLst (dCons (dVar 3) dNil)) (dCons (dFn rdLen (dCons (dLook 3) dNil)) (dCons (dC .non) (dCons (dFn (rdUnO [("Sheet", sp_Sheet_str)] tStrD) (dCons (dLook 11) dNil)) (dCons (dLst (dCons (dVar 11) dNil)) (dCons (dCall sp_lawE_odd (dCons (dVar 1) dNil) noD) dNil)))))))))) (dName 8)
  b_law_2l_8l)
  b_law_2l_9)
def b_law_2l_7 : TSD :=
  (dSeq (dFor (dEach (dLst (dCons (dVar 3) (dCons (dVar 4) (dCons (dRev (dLook 3)) (dCons (dSl (dLook 3) dNoPart (dPart (dNeg (dC (.int 1))))) (dCons (dCall sp_lawE_below (dCons (dVar 1) (dCons (dVar 3) (dCons (dC (.int 30)) dNil))) noD) dNil))))))) (dName 12)
  b_law_2l_7l)
  b_law_2l_8)
def b_law_2l_6 : TSD :=
  (dSeq (dFor (dEach (dOp rdAdd (dF (dLRngF (dC (.int 32)))) (dLst (dCons (dNeg (dC (.int 1))) (dCons (dC (.bl true)) (dCons (dC (.bl false)) (dCons (dC .non) (dCons (dC (.str [48])) (dCons (dTup (dCons (dC (.int 0)) dNil)) (dCons (dLst (dCons (dC (.int 0)) dNil)) (dCons (dOp rdPow (dC (.int 10)) (dC (.int 60))) (dCons (dCall sp_lawE_odd (dCons (dVar 1) dNil) noD) dNil)))))))))))) (dName 8)
  b_law_2l_6l)
  b_law_2l_7)
def b_law_2l_5 : TSD :=
  (dSeq (dSetR 11 (dVal (dMakeZ "Sheet" dom_Sheet mk_Sheet (dCons (dVar 3) dNil) (fun _ => noD))))
  b_law_2l_6)
def b_law_2l_4 : TSD :=
  (dSeq (dFor (dEach (dOp rdAdd (dLook 7) (dLst (dCons (dC (.str [])) (dCons (dOp rdMul (dC (.str [97])) (dC (.int 30))) (dCons (dOp rdMul (dC (.str [97])) (dC (.int 31))) (dCons (dC .non) (dCons (dCall sp_lawE_odd (dCons (dVar 1) dNil) noD) (dCons (dCall sp_lawE_odd (dCons (dVar 1) dNil) noD) dNil))))))))) (dName 8)
  b_law_2l_4l)
  b_law_2l_5)
def b_law_2l_3 : TSD :=
  (dSeq (dSetR 7 (dVal (dLst (dCons (dVar 3) (dCons (dOp rdAdd (dOp rdAdd (dSl (dLook 3) dNoPart (dPart (dVar 5))) (dLook 6)) (dSl (dLook 3) (dPart (dVar 5)) dNoPart)) (dCons (dMt "str" rdUpper (dLook 3) dNil) (dCons (dSl (dOp rdAdd (dLook 3) (dOp rdMul (dC (.str [97])) (dC (.int 31)))) dNoPart (dPart (dC (.int 31)))) (dCons (dLst (dCons (dVar 3) dNil)) (dCons (dTup (dCons (dVar 3) dNil)) dNil)))))))))
  b_law_2l_4)
def b_law_2l_2 : TSD :=
  (dSeq (dPar2 5 6 (dVal (dCall sp_lawE_draw (dCons (dVar 1) (dCons (dOp rdAdd (dFn rdLen (dCons (dLook 3) dNil)) (dC (.int 1))) dNil)) noD)) (dVal (dCall sp_lawE_one (dCons (dVar 1) (dCons (dLst (dCons (dC (.str [65])) (dCons (dC (.str [32])) (dCons (dC (.str [45])) (dCons (dC (.str [48])) (dCons (dC (.str [10])) (dCons (dC (.str [97])) (dCons (dC (.str [])) dNil)))))))) dNil)) noD)))
  b_law_2l_3)
def b_law_2l : TSD :=
  (dSeq (dPar2 3 4 (dVal (dCall sp_lawE_word (dCons (dVar 1) (dCons (dOp rdIx (dLst (dCons (dC (.int 30)) (dCons (dC (.int 4)) dNil))) (dOp rdMod (dLook 2) (dC (.int 2)))) dNil)) noD)) (dVal (dCall sp_lawE_word (dCons (dVar 1) (dCons (dC (.int 4)) dNil)) noD)))
  b_law_2l_2)
def b_law_3 : TSD :=
  (dRet (dC (.bl true)))
def b_law_2 : TSD :=
  (dSeq (dFor (dRng1 (dCons (dC (.int 8)) dNil)) (dName 2)
  b_law_2l)
  b_law_3)
/-- law(_law_script); slots 0:_law_script 1:_law_deck_here 2:_law_turn 3:_law_word_here 4:_law_beside 5:_law_spot 6:_law_sign 7:_law_values 8:_law_value 9:_law_due 10:_law_kept 11:_law_sheet 12:_law_other 13:_law_told -/
def b_law : TSD :=
  (dSeq (dSetR 1 (dVal (dCall sp_lawE_deck (dCons (dVar 0) dNil) noD)))
  b_law_2)
theorem len_Sheet_str : ∀ ds μ Q E, sp_Sheet_str ds μ Q E → ds.length = 1 := by
  rintro ds μ Q E ⟨w, rfl, _⟩; rfl
theorem ok_Sheet_str : ∀ ds μ Q E, sp_Sheet_str ds μ Q E → b_Sheet_str { nx := fun _ μ' => Q .non μ', rt := Q } (startD 1 ds) μ := by
  rintro ds μ Q E ⟨w, rfl, hw, q⟩
  simp [b_Sheet_str]
  exact ⟨by omega, by omega, by omega, by simpa using q⟩
@[simp] theorem sp_str_S {w : List Nat} {μ : Sto} {Q : DK} {E : DXK} : sp_Sheet_str [obS w] μ Q E = (w.length ≤ 1000 ∧ Q (.str ([34] ++ w ++ [34])) μ) := by
  unfold sp_Sheet_str
  refine propext ⟨fun ⟨w', e, q⟩ => ?_, fun q => ⟨w, rfl, q⟩⟩
  cases obS_inj.mp (List.cons.inj e).1; exact q
theorem vOk_s {s : List Nat} (h : vOk (.str s)) : s.length ≤ 100 ∧ ∀ c ∈ s, c < 1114112 := by
  unfold vOk vOkB at h
  rw [Bool.and_eq_true_iff, decide_eq_true_eq, List.all_eq_true] at h
  exact ⟨h.1, fun c hc => of_decide_eq_true (h.2 c hc)⟩
theorem vOk_of {s : List Nat} (h : s.length ≤ 100) (g : ∀ c ∈ s, c < 1114112) : vOk (.str s) := by
  unfold vOk vOkB
  rw [Bool.and_eq_true_iff, decide_eq_true_eq, List.all_eq_true]
  exact ⟨h, fun c hc => decide_eq_true (g c hc)⟩
theorem len_law_short : ∀ ds μ Q E, sp_law_short ds μ Q E → ds.length = 1 := by
  rintro ds μ Q E ⟨w, rfl, _⟩; rfl
theorem isWd_lng {s : List Nat} (h : 30 < s.length) : isWd (.str s) = false := by
  rw [Bool.eq_false_iff]
  intro h2
  have := (isWd_str.mp h2).1
  omega
theorem ok_law_short : ∀ ds μ Q E, sp_law_short ds μ Q E → b_law_short { nx := fun _ μ' => Q .non μ', rt := Q } (startD 2 ds) μ := by
  rintro ds μ Q E ⟨v, rfl, hv, hs, q⟩
  unfold b_law_short
  rw [dSeq]
  cases v <;> first | exact (Bool.false_ne_true hv).elim | skip
  case str s =>
    obtain ⟨hs, hic⟩ := vOk_s hs
    simp [-dSeq]
    refine ⟨by omega, ?_⟩
    split
    · rename_i h1
      rw [isWd_lng (by omega)] at q
      exact q
    · rename_i h1
      unfold b_law_short_2
      simp
      refine lcD_filter (fun x => match x with | .str [c] => !decide (c ∈ abcz) | _ => false) (fun x => x) _ trivial (by simp [strD]; omega) ?_ ?_
      · intro x hx k n g1 g2
        obtain ⟨c, hc, rfl⟩ := List.mem_map.mp hx
        simp
        split
        · rename_i h; exact g1 (by simpa using h)
        · rename_i h; exact g2 (by simpa using h)
      · have ef : ((strD s).filter fun x => match x with | .str [c] => !decide (c ∈ abcz) | _ => false).map (fun x => x) = strD (s.filter fun c => !decide (c ∈ abcz)) := by
          rw [List.map_id']
          unfold strD
          rw [List.filter_map]
          rfl
        have hic : okEq (D.lst (List.map (fun x => x) (List.filter (fun x => match x with | .str [c] => !decide (c ∈ abcz) | _ => false) (strD s)))) (D.lst []) := by
          rw [ef]
          have h1 : ∀ x ∈ strD (s.filter fun c => !decide (c ∈ abcz)), x.ic := fun x hx => by
            obtain ⟨c, hc, rfl⟩ := List.mem_map.mp hx
            intro d hd
            simp at hd
            subst hd
            exact hic _ (List.mem_filter.mp hc).1
          have h2 := dps_le (k := 0) (strD (s.filter fun c => !decide (c ∈ abcz))) fun x hx => by
            obtain ⟨c, hc, rfl⟩ := List.mem_map.mp hx
            exact Nat.le_refl _
          exact okEq_of (x := .lst (strD _)) ((ics_iff _).mpr h1) trivial (by show D.dps _ + 1 ≤ 50; omega) (by decide)
        refine ⟨hic, ?_⟩
        have e : D.eqvs (List.map (fun x => x) (List.filter (fun x => match x with | .str [c] => !decide (c ∈ abcz) | _ => false) (strD s))) [] = isWd (.str s) := by
          rw [ef, eqvs_nil_r]
          by_cases hf : s.filter (fun c => !decide (c ∈ abcz)) = []
          · rw [hf]
            refine Eq.trans (by rfl) (isWd_str.mpr ⟨by omega, fun c hc => ?_⟩).symm
            have := List.filter_eq_nil_iff.mp hf c hc
            simp only [Bool.not_eq_true', decide_eq_false_iff_not, Classical.not_not] at this
            have := (mem_abcz c).mp this
            omega
          · have h1 : isWd (.str s) = false := by
              rw [Bool.eq_false_iff]
              intro h
              refine hf (List.filter_eq_nil_iff.mpr fun c hc => ?_)
              have := (isWd_str.mp h).2 c hc
              have := (mem_abcz c).mpr (by omega)
              simp only [Bool.not_eq_true', decide_eq_false_iff_not, Classical.not_not]
              exact this
            rw [h1]
            refine decide_eq_false fun h => hf ?_
            unfold strD at h
            exact List.map_eq_nil_iff.mp h
        rw [e]
        exact q
  all_goals
    simp [-dSeq]
    exact q
theorem len_law_made : ∀ ds μ Q E, sp_law_made ds μ Q E → ds.length = 1 := by
  rintro ds μ Q E ⟨w, rfl, _⟩; rfl
theorem ok_law_made : ∀ ds μ Q E, sp_law_made ds μ Q E → b_law_made { nx := fun _ μ' => Q .non μ', rt := Q } (startD 4 ds) μ := by
  rintro ds μ Q E ⟨v, rfl, hv, q⟩
  unfold b_law_made
  simp [dTryE]
  by_cases hw : isWd v = true
  · have hd : ∃ w, v = .str w := by
      cases v <;> first | exact ⟨_, rfl⟩ | exact (Bool.false_ne_true hw).elim
    obtain ⟨w, rfl⟩ := hd
    obtain ⟨w1, w2⟩ := isWd_str.mp hw
    refine zNew_word w1 w2 ?_
    have e : madeD (.str w) = .tup [.str w, .int w.length, .bl (decide (0 < w.length)), .str ([34] ++ w ++ [34])] := if_pos hw
    rw [e] at q
    simp
    refine ⟨by omega, by omega, by omega, ?_⟩
    rcases w with _ | ⟨c, w⟩
    · exact .inl ⟨rfl, by omega, q⟩
    · exact .inr ⟨by simp, by omega, by simpa using q⟩
  · have e : madeD v = .lst [v, .bl true] := by
      unfold madeD
      split
      · exact if_neg hw
      · rfl
    rw [e] at q
    refine ⟨⟨v, rfl, hv⟩, ?_⟩
    rw [show mk_Sheet [v] = .inr ("BadWord", [("value", v)]) from if_neg hw]
    refine ⟨true, by decide, fun _ => ?_, nofun⟩
    simp
    exact .inl ⟨by decide, .inr ⟨by decide, .inr ⟨by decide, q⟩⟩⟩
theorem len_law_letter : ∀ ds μ Q E, sp_law_letter ds μ Q E → ds.length = 2 := by
  rintro ds μ Q E ⟨a, w, rfl, _⟩; rfl
theorem ok_law_letter : ∀ ds μ Q E, sp_law_letter ds μ Q E → b_law_letter { nx := fun _ μ' => Q .non μ', rt := Q } (startD 4 ds) μ := by
  rintro ds μ Q E ⟨a, v, rfl, h1, hv, q⟩
  unfold b_law_letter
  simp [dTryE]
  refine ⟨a, v, rfl, h1, hv, fun hb => ?_, fun i hi e => ?_⟩
  · have e : letD a v = .lst [v, .bl true] := by unfold letD; rw [if_neg (by rw [hb]; exact Bool.false_ne_true)]
    rw [e] at q
    refine ⟨true, by decide, fun _ => ?_, nofun⟩
    simp
    exact .inl ⟨by decide, .inr ⟨by decide, q⟩⟩
  · subst e
    have e : letD a (.int i) = .str [a[i]] := by
      have hb : btw (.int i) 0 (a.length - 1) = true := by show (decide (0 ≤ (i : Int)) && decide ((i : Int) ≤ (a.length : Int) - 1)) = true; rw [decide_eq_true (by omega), decide_eq_true (by omega)]; rfl
      unfold letD
      rw [if_pos hb]
      simp [hi]
    rw [← e]; exact q
theorem len_law_equal_right : ∀ ds μ Q E, sp_law_equal_right ds μ Q E → ds.length = 2 := by
  rintro ds μ Q E ⟨a, w, rfl, _⟩; rfl
theorem ok_law_equal_right : ∀ ds μ Q E, sp_law_equal_right ds μ Q E → b_law_equal_right { nx := fun _ μ' => Q .non μ', rt := Q } (startD 6 ds) μ := by
  rintro ds μ Q E ⟨a, b, rfl, h1, h2, h3, h4, q⟩
  unfold b_law_equal_right
  rw [dSeq]
  simp [-dSeq, wd_low h3 h1, wd_low h4 h2]
  refine ⟨by omega, by omega, ?_⟩
  unfold b_law_equal_right_2
  rw [dSeq]
  simp [-dSeq, wd_low h3 h1]
  refine ⟨by omega, ?_⟩
  unfold b_law_equal_right_3
  have e : decide (b = a) = decide (a = b) := decide_eq_decide.mpr ⟨Eq.symm, Eq.symm⟩
  rw [e]
  generalize decide (a = b) = t
  simp
  cases t
  · exact ⟨repOk_of (by refine ⟨?_, ?_, ?_, ?_, ?_⟩ <;> trivial) (by decide) (by decide), q⟩
  · exact ⟨repOk_of (by refine ⟨?_, ?_, ?_, ?_, ?_⟩ <;> trivial) (by decide) (by decide), q⟩
theorem len_law : ∀ ds μ Q E, sp_law ds μ Q E → ds.length = 1 := by
  rintro ds μ Q E ⟨ns, rfl, _⟩; rfl
theorem low_lt {s : List Nat} (h : Low s) : ∀ c ∈ s, c < 1114112 := fun c hc => by have := h c hc; omega
theorem up1w : ∀ c, c < 128 → ∀ d ∈ (Unicode.upperOf c), d < 128 := by decide +kernel
theorem upm {x : List Nat} {c : Nat} (h : c ∈ upL x) : ∃ d ∈ x, c ∈ Unicode.upperOf d := by
  unfold upL Txt.upper placed at h
  rw [Array.mem_toList_iff] at h
  simp at h
  obtain ⟨l, ⟨a, ⟨i, hi, rfl⟩, rfl⟩, hc⟩ := h
  exact ⟨x[i], List.getElem_mem _, by simpa using hc⟩
theorem cutm {α : Type} {l : List α} {a b : Option Int} {x : α} (h : x ∈ cut l a b) : x ∈ l := by
  unfold cut at h
  exact List.mem_of_mem_drop (List.mem_of_mem_take h)
theorem cutl {α : Type} (l : List α) (a b : Option Int) : (cut l a b).length ≤ l.length := by
  unfold cut
  rw [List.length_take, List.length_drop]
  omega
/-- a value that this law tries -/
structure TryV (v : D) : Prop where
  i : isiOk v = true
  s : Shx 2000 4 v
  o : vOk v
theorem vOk_sOk {v : D} (h : vOk v) : sOk v := by
  cases v <;> first | trivial | skip
  exact Nat.le_trans (vOk_s h).1 (by decide)
theorem tryV_odd : ∀ v ∈ oddE, vOkB v = true := by decide +kernel
theorem TryV.odd {v : D} (h : v ∈ oddE) : TryV v := ⟨okV_i (oddE_ok v h), (okV_s (oddE_ok v h)).mono (by omega) (by omega), tryV_odd v h⟩
theorem TryV.str {s : List Nat} (h : s.length ≤ 100) (g : ∀ c ∈ s, c < 1114112) : TryV (.str s) := ⟨rfl, (shx_str g h).mono (by omega) (by omega), vOk_of h g⟩
theorem TryV.lst {s : List Nat} (h : s.length ≤ 100) (g : ∀ c ∈ s, c < 1114112) : TryV (.lst [.str s]) :=
  ⟨rfl, (shx_lst (t := 1002) (n := 1) (k := 0) (fun x hx => by rw [List.mem_singleton.mp hx]; exact shx_str g h) (Nat.le_refl _)).mono (by omega) (by omega), rfl⟩
theorem TryV.tup {s : List Nat} (h : s.length ≤ 100) (g : ∀ c ∈ s, c < 1114112) : TryV (.tup [.str s]) :=
  ⟨rfl, (shx_tup (t := 1002) (n := 1) (k := 0) (fun x hx => by rw [List.mem_singleton.mp hx]; exact shx_str g h) (Nat.le_refl _)).mono (by omega) (by omega), rfl⟩
theorem made_S {v : D} {μ : Sto} {Q : DK} {E : DXK} (h : TryV v) (q : Q (madeD v) μ) : sp_law_made [v] μ Q E := ⟨v, rfl, .inl ⟨h.i, vOk_sOk h.o⟩, q⟩
theorem shx_le30 : ∀ n, n < 31 → shxB 100 0 (.int (n : Nat)) = true := by decide +kernel
theorem shx_pair {v : D} (h : Shx 2000 4 v) : Shx 5000 5 (.lst [v, .bl true]) :=
  (shx_lst (t := 2000) (n := 2) (k := 4) (fun x hx => by
    simp only [List.mem_cons, List.not_mem_nil, or_false] at hx
    rcases hx with rfl | rfl
    · exact h
    · exact (shx_bl _).mono (by omega) (Nat.zero_le _)) (Nat.le_refl _)).mono (by omega) (Nat.le_refl _)
theorem shx_made {v : D} (h : TryV v) : Shx 5000 5 (madeD v) := by
  unfold madeD
  split
  · rename_i w
    split
    · rename_i hw
      obtain ⟨w1, w2⟩ := isWd_str.mp hw
      have ic := low_lt w2
      refine (shx_tup (t := 400) (n := 4) (k := 0) (fun x hx => ?_) (Nat.le_refl _)).mono (by omega) (by omega)
      simp only [List.mem_cons, List.not_mem_nil, or_false] at hx
      rcases hx with rfl | rfl | rfl | rfl
      · exact (shx_str (n := 30) ic w1).mono (by omega) (Nat.le_refl _)
      · exact (shx_dec (shx_le30 _ (by omega))).mono (by omega) (Nat.le_refl _)
      · exact (shx_bl _).mono (by omega) (Nat.le_refl _)
      · refine (shx_str (n := 32) (fun c hc => ?_) (by simp; omega)).mono (by omega) (Nat.le_refl _)
        simp at hc
        rcases hc with rfl | hc | rfl
        · decide
        · exact ic c hc
        · decide
    · exact shx_pair h.s
  · exact shx_pair h.s
theorem ok_law : ∀ ds μ Q E, sp_law ds μ Q E → b_law { nx := fun _ μ' => Q .non μ', rt := Q } (startD 14 ds) μ := by
  rintro ds μ Q E ⟨ns, rfl, hn, q⟩
  unfold b_law
  rw [dSeq]
  simp [-dSeq]
  refine ⟨ns, rfl, hn, fun j c μ1 hJ _ _ _ => ?_⟩
  dsimp only
  unfold b_law_2
  rw [dSeq]
  simp [rngOk, -dSeq]
  refine forD_rng (fun i ρ μ' => (∃ x2 x3 x4 x5 x6 x7 x8 x9 x10 x11 x12 x13, ρ = [some (.val (.scr ns)), some (.val (.ref j)), x2, x3, x4, x5, x6, x7, x8, x9, x10, x11, x12, x13]) ∧ Jar j c (2000 * i) μ') ?_ ?_ ⟨⟨_, _, _, _, _, _, _, _, _, _, _, _, rfl⟩, hJ⟩
  · rintro i ρ μ2 n hi ⟨⟨x2, x3, x4, x5, x6, x7, x8, x9, x10, x11, x12, x13, rfl⟩, hJ2⟩ hnx
    simp [-dSeq]
    unfold b_law_2l
    rw [dSeq]
    simp [-dSeq]
    obtain ⟨m1, hm1, e1⟩ : ∃ m : Nat, m ≤ 30 ∧ atI [D.int 30, D.int 4] ((i : Int) % 2) = some (.int m) := by
      rcases (show (i : Int) % 2 = 0 ∨ (i : Int) % 2 = 1 by omega) with h | h <;> rw [h]
      · exact ⟨30, by omega, rfl⟩
      · exact ⟨4, by omega, rfl⟩
    refine ⟨_, e1, word_dr (μ0 := μ2) ⟨hJ2, .refl⟩ (by omega) hm1 fun w μ3 hw hwl s3 => word_dr (m := 4) s3 (by omega) (by omega) fun u μ4 hu hul s4 => ?_⟩
    have hw30 : w.length ≤ 30 := by omega
    have hu30 : u.length ≤ 30 := by omega
    have hwi := low_lt hw
    show b_law_2l_2 _ _ _
    unfold b_law_2l_2
    rw [dSeq]
    simp [-dSeq]
    refine ⟨by omega, dr_ok (m := w.length + 1) s4 (by omega) (by omega) (by omega) fun k μ5 hk s5 => one_ok s5 (by omega) (.inl .lst) (by simp) (by simp) fun sg μ6 hsg s6 => ?_⟩
    obtain ⟨g, rfl, hgl, hgi⟩ : ∃ g : List Nat, sg = .str g ∧ g.length ≤ 1 ∧ ∀ c ∈ g, c < 1114112 := by
      simp only [List.mem_cons, List.not_mem_nil, or_false] at hsg
      rcases hsg with rfl | rfl | rfl | rfl | rfl | rfl | rfl <;> exact ⟨_, rfl, by decide, by decide⟩
    show b_law_2l_3 _ _ _
    unfold b_law_2l_3
    rw [dSeq]
    simp [-dSeq]
    have c1 := cutl w none (some (k : Int))
    have c2 := cutl w (some (k : Int)) none
    have r31 : (repl 31 [97]).length = 31 := by decide
    refine ⟨by omega, by omega, by omega, by omega, by omega, by omega, ?_⟩
    have t2 : TryV (.str (cut w none (some (k : Int)) ++ (g ++ cut w (some (k : Int)) none))) := by
      refine .str (by rw [List.length_append, List.length_append]; omega) fun c hc => ?_
      rcases List.mem_append.mp hc with h | h
      · exact hwi c (cutm h)
      · rcases List.mem_append.mp h with h | h
        · exact hgi c h
        · exact hwi c (cutm h)
    have t3 : TryV (.str (upL w)) := by
      refine .str ?_ fun c hc => ?_
      · have h1 : (Txt.upper (S w)).length ≤ 3 * (S w).length := len_upper (S w)
        rw [S_len w] at h1
        have e : (upL w).length = (Txt.upper (S w)).length := Array.length_toList
        rw [e]; exact Nat.le_trans h1 (by omega)
      · obtain ⟨d, hd, h2⟩ := upm hc
        have := hw d hd
        have := up1w d (by omega) c h2
        omega
    have t4 : TryV (.str (cut (w ++ repl 31 [97]) none (some 31))) := by
      have := cutl (w ++ repl 31 [97]) none (some 31)
      rw [List.length_append, r31] at this
      refine .str (by omega) fun c hc => ?_
      rcases List.mem_append.mp (cutm hc) with h | h
      · exact hwi c h
      · exact (by decide : ∀ c ∈ repl 31 [97], c < 1114112) c h
    have tw : TryV (.str w) := .str (by omega) hwi
    have tl : TryV (.lst [.str w]) := .lst (by omega) hwi
    have tt : TryV (.tup [.str w]) := .tup (by omega) hwi
    generalize D.str (cut w none (some (k : Int)) ++ (g ++ cut w (some (k : Int)) none)) = v2 at t2 ⊢
    generalize D.str (upL w) = v3 at t3 ⊢
    generalize D.str (cut (w ++ repl 31 [97]) none (some 31)) = v4 at t4 ⊢
    unfold b_law_2l_4
    rw [dSeq]
    simp [-dSeq, -forD]
    refine oddE_dr s6 (by omega) fun o1 μ7 ho1 s7 => oddE_dr s7 (by omega) fun o2 μ8 ho2 s8 => ?_
    have tvs : ∀ v ∈ [D.str w, v2, v3, v4, D.lst [D.str w], D.tup [D.str w], D.str [], D.str (repl 30 [97]), D.str (repl 31 [97]), D.non, o1, o2], TryV v := fun v hv => by
      simp only [List.mem_cons, List.not_mem_nil, or_false] at hv
      rcases hv with rfl | rfl | rfl | rfl | rfl | rfl | rfl | rfl | rfl | rfl | rfl | rfl
      · exact tw
      · exact t2
      · exact t3
      · exact t4
      · exact tl
      · exact tt
      · exact .str (by decide) (by decide)
      · exact .str (by decide) (by decide)
      · exact .str (by decide) (by decide)
      · exact ⟨rfl, shx_dec (by decide +kernel), rfl⟩
      · exact .odd ho1
      · exact .odd ho2
    generalize [D.str w, v2, v3, v4, D.lst [D.str w], D.tup [D.str w], D.str [], D.str (repl 30 [97]), D.str (repl 31 [97]), D.non, o1, o2] = vals at tvs ⊢
    generalize [D.str w, v2, v3, v4, D.lst [D.str w], D.tup [D.str w]] = vl
    refine forD_inv (fun rest ρ μ' => μ' = μ8 ∧ (∀ v ∈ rest, TryV v) ∧ ∃ y8 y9 y10, ρ = [some (.val (.scr ns)), some (.val (.ref j)), some (.val (.int (i : Nat))), some (.val (.str w)), some (.val (.str u)), some (.val (.int (k : Nat))), some (.val (.str g)), some (.val (.lst vl)), y8, y9, y10, x11, x12, x13]) (fun _ _ _ _ => trivial) ?_ ?_ _ _ _ ⟨rfl, tvs, _, _, _, rfl⟩
    · rintro v rest ρ μ' nx2 ⟨rfl, hv, y8, y9, y10, rfl⟩ hn2
      have tv := hv v (by simp)
      simp [-dSeq]
      unfold b_law_2l_4l
      rw [dSeq]
      simp [-dSeq]
      unfold b_law_2l_4l_2
      rw [dSeq]
      simp [-dSeq]
      refine ⟨v, rfl, tv.i, tv.o, ?_⟩
      have r1 : repOkO v := tv.s.rep (by omega) (by omega)
      have r2 : repOkO (.lst [madeD v, madeD v]) := (shx_lst (n := 2) (fun x hx => by
        simp only [List.mem_cons, List.not_mem_nil, or_false, or_self] at hx
        subst hx; exact shx_made tv) (Nat.le_refl _)).rep (by omega) (by omega)
      have fin : ∀ d : D, d = madeD v → b_law_2l_4l_3 { nx := nx2, rt := Q, bk := b_law_2l_5 { nx := n, rt := Q, bk := b_law_3 { nx := fun x μ' => Q D.non μ', rt := Q }, ct := n }, ct := nx2 }
          [some (.val (.scr ns)), some (.val (.ref j)), some (.val (.int (i : Nat))), some (.val (.str w)), some (.val (.str u)), some (.val (.int (k : Nat))), some (.val (.str g)), some (.val (.lst vl)), some (.val v), some (.val d), y10, x11, x12, x13] μ' := by
        rintro d rfl
        unfold b_law_2l_4l_3
        rw [dSeq]
        simp [-dSeq]
        refine ⟨r1, ?_⟩
        unfold b_law_2l_4l_4
        simp
        refine made_S tv (made_S tv ?_)
        simp
        refine ⟨r2, ?_⟩
        exact ⟨r1, hn2 _ _ ⟨rfl, fun x hx' => hv x (by simp [hx']), _, _, _, rfl⟩⟩
      by_cases hw : isWd v = true
      · have hd : ∃ w, v = .str w := by
          cases v <;> first | exact ⟨_, rfl⟩ | exact (Bool.false_ne_true hw).elim
        obtain ⟨w', rfl⟩ := hd
        obtain ⟨w1, w2⟩ := isWd_str.mp hw
        rw [hw]
        simp
        unfold b_law_2l_4l_2t
        simp
        refine ⟨by omega, by omega, by omega, ?_⟩
        refine fin _ ?_
        have e2 : (!decide (w' = [])) = decide (0 < w'.length) := by cases w' <;> simp
        rw [e2]
        exact (if_pos hw).symm
      · have hw' : isWd v = false := by simpa using hw
        rw [hw']
        simp
        refine fin _ ?_
        unfold madeD
        split
        · exact (if_neg hw).symm
        · rfl
    · rintro ρ μ' ⟨rfl, _, y8, y9, y10, rfl⟩
      dsimp only
      unfold b_law_2l_5
      rw [dSeq]
      simp [-dSeq, wd_low hw hw30]
      refine ⟨by omega, ?_⟩
      unfold b_law_2l_6
      rw [dSeq]
      simp [-dSeq, -forD, powOk, rngOk]
      refine ⟨by unfold lrOk; decide, oddE_dr s8 (by omega) fun o3 μ9 ho3 s9 => ⟨by decide, ?_⟩⟩
      have hall : ∀ v ∈ rngD 0 32 ++ [D.int (-1), D.bl true, D.bl false, D.non, D.str [48], D.tup [D.int 0], D.lst [D.int 0], D.int 1000000000000000000000000000000000000000000000000000000000000, o3], okV v = true := fun v hv => by
        rcases List.mem_append.mp hv with hv | hv
        · exact (show ∀ v ∈ rngD 0 32, okV v = true by decide +kernel) v hv
        simp only [List.mem_cons, List.not_mem_nil, or_false] at hv
        rcases hv with rfl | rfl | rfl | rfl | rfl | rfl | rfl | rfl | rfl
        all_goals first | exact oddE_ok _ ho3 | decide +kernel
      generalize rngD 0 32 ++ [D.int (-1), D.bl true, D.bl false, D.non, D.str [48], D.tup [D.int 0], D.lst [D.int 0], D.int 1000000000000000000000000000000000000000000000000000000000000, o3] = vals2 at hall ⊢
      refine forD_inv (fun rest ρ μ' => μ' = μ9 ∧ (∀ v ∈ rest, okV v = true) ∧ ∃ z8 z9, ρ = [some (.val (.scr ns)), some (.val (.ref j)), some (.val (.int (i : Nat))), some (.val (.str w)), some (.val (.str u)), some (.val (.int (k : Nat))), some (.val (.str g)), some (.val (.lst vl)), z8, z9, y10, some (.val (obS w)), x12, x13]) (fun _ _ _ _ => trivial) ?_ ?_ _ _ _ ⟨rfl, hall, _, _, rfl⟩
      · rintro v rest ρ μ' nx2 ⟨rfl, hv, z8, z9, rfl⟩ hn2
        have hg := hv v (by simp)
        have g1 := okV_i hg
        simp [-dSeq]
        unfold b_law_2l_6l
        rw [dSeq]
        simp [-dSeq]
        have rp : repOkO (letD w v) := by
          unfold letD
          split
          · refine (shx_str (n := 1) (fun c hc => ?_) ?_).rep (by omega) (by omega)
            · split at hc
              · rw [Option.mem_toList] at hc
                exact hwi c (List.mem_of_getElem? hc)
              · cases hc
            · split
              · rename_i q _
                cases w[q.toNat]? <;> simp
              · simp
          · exact (shx_pair ((okV_s hg).mono (by omega) (by omega))).rep (by omega) (by omega)
        have fin : ∀ d : D, d = letD w v → b_law_2l_6l_2 { nx := nx2, rt := Q, bk := b_law_2l_7 { nx := n, rt := Q, bk := b_law_3 { nx := fun x μ' => Q D.non μ', rt := Q }, ct := n }, ct := nx2 }
            [some (.val (.scr ns)), some (.val (.ref j)), some (.val (.int (i : Nat))), some (.val (.str w)), some (.val (.str u)), some (.val (.int (k : Nat))), some (.val (.str g)), some (.val (.lst vl)), some (.val v), some (.val d), y10, some (.val (obS w)), x12, x13] μ' := by
          rintro d rfl
          unfold b_law_2l_6l_2
          simp
          refine ⟨w, v, rfl, hw30, g1, ?_⟩
          simp
          exact ⟨rp, hn2 _ _ ⟨rfl, fun x hx' => hv x (by simp [hx']), _, _, rfl⟩⟩
        refine ⟨by omega, v, 0, (w.length : Int) - 1, rfl, g1, ?_⟩
        simp
        by_cases hb : btw v 0 ((w.length : Int) - 1) = true
        · rw [if_pos hb]
          obtain ⟨z, rfl, z0, z1⟩ := btw_int hb
          obtain ⟨z, rfl⟩ := Int.eq_ofNat_of_zero_le z0
          have hz : z < w.length := by omega
          simp
          refine ⟨by omega, w[z], by rw [atI_nat, List.getElem?_eq_getElem hz], fin _ ?_⟩
          unfold letD
          rw [if_pos hb]
          simp [hz]
        · rw [if_neg hb]
          refine fin _ ?_
          unfold letD
          rw [if_neg hb]
      · rintro ρ μ' ⟨rfl, _, z8, z9, rfl⟩
        dsimp only
        unfold b_law_2l_7
        rw [dSeq]
        simp [-dSeq, -forD]
        refine ⟨by omega, below_dr (m := 30) s9 (by omega) hw hw30 (by omega) fun z μ10 hz hzl s10 => ?_⟩
        have htx : ∀ v ∈ [D.str w, D.str u, D.str w.reverse, D.str (cut w none (some (-1))), D.str z], ∃ x : List Nat, v = .str x ∧ x.length ≤ 30 ∧ Low x := fun v hv => by
          have := cutl w none (some (-1))
          simp only [List.mem_cons, List.not_mem_nil, or_false] at hv
          rcases hv with rfl | rfl | rfl | rfl | rfl
          · exact ⟨_, rfl, hw30, hw⟩
          · exact ⟨_, rfl, hu30, hu⟩
          · exact ⟨_, rfl, by rw [List.length_reverse]; exact hw30, fun c hc => hw c (List.mem_reverse.mp hc)⟩
          · exact ⟨_, rfl, by omega, fun c hc => hw c (cutm hc)⟩
          · exact ⟨_, rfl, hzl, hz⟩
        refine forD_inv (fun rest ρ μ' => μ' = μ10 ∧ (∀ v ∈ rest, ∃ x : List Nat, v = .str x ∧ x.length ≤ 30 ∧ Low x) ∧ ∃ z12, ρ = [some (.val (.scr ns)), some (.val (.ref j)), some (.val (.int (i : Nat))), some (.val (.str w)), some (.val (.str u)), some (.val (.int (k : Nat))), some (.val (.str g)), some (.val (.lst vl)), z8, z9, y10, some (.val (obS w)), z12, x13]) (fun _ _ _ _ => trivial) ?_ ?_ _ _ _ ⟨rfl, htx, _, rfl⟩
        · rintro v rest ρ μ' nx2 ⟨rfl, hv, z12, rfl⟩ hn2
          obtain ⟨x, rfl, x1, x2⟩ := hv v (by simp)
          simp [-dSeq]
          unfold b_law_2l_7l
          simp
          refine ⟨w, x, rfl, hw30, x1, hw, x2, ?_⟩
          exact hn2 _ _ ⟨rfl, fun x hx' => hv x (by simp [hx']), _, rfl⟩
        · rintro ρ μ' ⟨rfl, _, z12, rfl⟩
          dsimp only
          unfold b_law_2l_8
          rw [dSeq]
          simp [-dSeq, -forD]
          refine ⟨by omega, by omega, oddE_dr s10 (by omega) fun o4 μ11 ho4 s11 => ?_⟩
          have hvs : ∀ v ∈ [D.str w, D.tup [D.str w], D.lst [D.str w], D.int (w.length : Nat), D.non, D.str (34 :: (w ++ [34])), D.lst [obS w], o4], isiOk v = true := fun v hv => by
            simp only [List.mem_cons, List.not_mem_nil, or_false] at hv
            rcases hv with rfl | rfl | rfl | rfl | rfl | rfl | rfl | rfl
            all_goals first | exact okV_i (oddE_ok _ ho4) | rfl
          refine forD_inv (fun rest ρ μ' => μ' = μ11 ∧ (∀ v ∈ rest, isiOk v = true) ∧ ∃ z8, ρ = [some (.val (.scr ns)), some (.val (.ref j)), some (.val (.int (i : Nat))), some (.val (.str w)), some (.val (.str u)), some (.val (.int (k : Nat))), some (.val (.str g)), some (.val (.lst vl)), z8, z9, y10, some (.val (obS w)), z12, x13]) (fun _ _ _ _ => trivial) ?_ ?_ _ _ _ ⟨rfl, hvs, _, rfl⟩
          · rintro v rest ρ μ' nx2 ⟨rfl, hv, z8, rfl⟩ hn2
            have vi := hv v (by simp)
            simp [-dSeq]
            unfold b_law_2l_8l
            simp [okS_d vi, sp_eq_d vi]
            exact ⟨vi, by show repOkB _ = true; decide +kernel, hn2 _ _ ⟨rfl, fun x hx' => hv x (by simp [hx']), _, rfl⟩⟩
          · rintro ρ μ' ⟨rfl, _, z8, rfl⟩
            dsimp only
            unfold b_law_2l_9
            rw [dSeq]
            simp [-dSeq]
            refine ⟨obS w, rfl, .inr ⟨w, rfl⟩, ?_⟩
            show b_law_2l_10 _ _ _
            unfold b_law_2l_10
            rw [show madeD (obS w) = .lst [obS w, .bl true] from rfl]
            simp
            exact hnx _ _ ⟨⟨_, _, _, _, _, _, _, _, _, _, _, _, rfl⟩, s11.1.le (by omega)⟩
  · rintro ρ μ2 ⟨⟨x2, x3, x4, x5, x6, x7, x8, x9, x10, x11, x12, x13, rfl⟩, hJ2⟩
    dsimp only
    unfold b_law_3
    simp
    exact q _
end DL

namespace DL
open PySem PySem.Spec PyProof.Rows L2
/-- the heap that shows the script alone, where the module does not own it -/
def Hscr (K : PySem.W.Frag) (a : Addr) (o : Obj) (xs : List V) : Hp := fun b => if b = a ∧ K.lookup a = none then some (.frz o (.lst xs)) else none
theorem Hscr_some {K : PySem.W.Frag} {a b : Addr} {o : Obj} {xs : List V} {u : HO} (h : Hscr K a o xs b = some u) : b = a ∧ K.lookup a = none ∧ u = .frz o (.lst xs) := by
  unfold Hscr at h
  split at h
  · rename_i c
    exact ⟨c.1, c.2, (Option.some.inj h).symm⟩
  · cases h
theorem Hscr_none {K : PySem.W.Frag} {a b : Addr} {o : Obj} {xs : List V} (h : ¬ (b = a ∧ K.lookup a = none)) : Hscr K a o xs b = none := if_neg h
theorem end_g {l : PySem.W.OpenLaw} {n k : Nat} {q : Program} {loose : List Str} {XP : (Str → Option Value) → Heap → Prop} {YP : World → Heap → Prop} {d : DefRec} {K : Params → PySem.W.Frag} {S : DSp} {x : Str}
    (hn : l.most = some n) (hn2 : n ≤ sizeLine) (hdf : d.params.defaults = []) (hr : Room k callerA) (hY : ∀ (w : World) (h : Heap), YP w h → (K w.params).In h)
    (F : ∀ (w : World) (mg : Str → Option Value) (fa : Addr) (h : Heap), (K w.params).In h → h.Ns mainGlobals mg → mg d.name = some (.ref fa) →
      ∃ fd : FuncData, (∀ (s : Shared) (u : Value), BindsTo s fd ⟨[u], []⟩ [(x, u)]) ∧ ∀ base : Heap, (K w.params).In base → base.Ns mainGlobals mg → FnG l.prog w (K w.params) mg base L2.CX0 k fa fd [x] (liftP (K w.params) mg S))
    (hS : ∀ ns : List Int, ns.length ≤ n → S [.scr ns] (fun _ => none) (fun v _ => v = .bl true) noD) : PySem.W.WalkO q loose XP YP l.row.toRowW d [] (fun f vs => PySem.call f vs) := by
  refine Att.attach_call hn hdf ?_
  intro w s0 s1 mg mb fa o pm cd doc a vs ns G Y ho hd hcd hmg hobj hints hlen hgens
  have KX := hY w _ Y
  obtain ⟨fd, bind, FF⟩ := F w mg fa _ KX G.T.g hmg
  generalize K w.params = K at KX FF
  -- the heap
  let so : Obj := { cls := .type "list", data := .seq vs.toArray }
  let H : Hp := Hscr K a so (ns.map V.int)
  have rel : Vals (ns.map V.int) vs := vals_ints hints
  have small : (ns.map V.int).length ≤ sizeLine := by
    rw [List.length_map]
    exact Nat.le_trans hlen hn2
  have ok : HOk l.prog w H s1.heap := by
    intro b u hb
    obtain ⟨rfl, _, rfl⟩ := Hscr_some hb
    exact ⟨hobj, small, vs, _, rel, hobj⟩
  have shown : SqL K H a (ns.map V.int) := by
    cases hk : K.lookup a with
    | none => exact Or.inl (Or.inr ⟨so, if_pos ⟨rfl, hk⟩⟩)
    | some ob =>
      have hob := KX a ob hk
      rw [hobj] at hob
      cases hob
      refine Or.inr ⟨_, vs.toArray, _, hk, rfl, rfl, rfl, ?_, by simpa using rel⟩
      rw [List.size_toArray, hints.length]
      exact Nat.le_trans hlen hn2
  -- what is not the script stands in the base
  have notscr : ∀ {b : Addr} {ob : Obj}, s1.heap.get? b = some ob → (∀ z m, ob.data ≠ .seq z m) → H b = none := by
    intro b ob hb hne
    refine Hscr_none ?_
    rintro ⟨rfl, _⟩
    rw [hobj] at hb
    cases hb
    exact hne _ _ rfl
  have ns' : ∀ {b : Addr} {m : Str → Option Value}, s1.heap.Ns b m → (hidT s1.heap H).Ns b m := by
    rintro b m ⟨ob, es, ep, h1, h2, h3⟩
    exact ⟨ob, es, ep, hidT_get h1 (notscr h1 (fun z m e => by rw [h2] at e; cases e)), h2, h3⟩
  have kin : K.In (hidT s1.heap H) := by
    intro b ob hb
    refine hidT_get (KX b ob hb) (Hscr_none ?_)
    rintro ⟨rfl, hk⟩
    rw [hb] at hk
    cases hk
  obtain ⟨mc, l1, l2⟩ := G.T.nolimit
  have md : Mod K mg (hidT s1.heap H) := ⟨kin, ns' G.T.g, ⟨mb, ns' G.T.b, G.T.builtins⟩, ⟨mc, ns' l1, l2⟩⟩
  have env : Env0 l.prog w K mg (hidT s1.heap H) callerA [] s1 H :=
    { frames := rfl, mod := md, bs := fun _ _ e => of_hidT e, bsz := Nat.le_of_eq (hidT_size _ _), funs := trivial, frf := fun b hb => (List.not_mem_nil hb).elim, hok := ok, bare := .of_eq hgens }
  have F0 := FF _ kin (ns' G.T.g)
  have promise : liftP K mg S [.ref a] H (fun v _ => v = .bl true) L2.E0 := by
    refine ⟨H, fun _ => none, [.scr ns], _, noD, ⟨fun _ _ e => e, (fun _ _ e => nomatch e), (fun _ _ e => nomatch e)⟩, .one (.scr shown), hS ns hlen, ?_, fun _ _ _ _ _ _ _ _ _ _ z => z.elim⟩
    rintro v F' μ' H' dv _ _ hv rfl
    cases hv
    rfl
  refine codeAny_mono (F0.run callerA [] s1 H ⟨[.ref a], []⟩ [.ref a] [.ref a] _ _ rfl hr env (bind s1 (.ref a)) (.cons rfl .nil) promise) ?_
  intro r s' h
  match r, h with
  | .ok (.ret u), ⟨v, H', hos, hbare, un, ok', rv, hv⟩ =>
    subst hv
    cases rv
    refine ⟨rfl, OldK.of_keep ?_, hos, hbare⟩
    intro b ob hb
    by_cases hc : H b = none
    · exact un.keep b ob hb hc (fun z => (List.not_mem_nil z).elim) (fun z => (List.not_mem_nil z).elim)
    · obtain ⟨u, hu⟩ := Option.ne_none_iff_exists'.mp hc
      obtain ⟨rfl, _, rfl⟩ := Hscr_some hu
      obtain ⟨e2, _⟩ := ok' _ _ (un.frzs _ _ _ hu)
      rw [hobj] at hb
      cases hb
      exact e2
end DL

namespace DL
open PySem PySem.Spec PyProof.Rows L2
theorem end_law : ∀ ns : List Int, ns.length ≤ 63 → sp_law [.scr ns] (fun _ => none) (fun v _ => v = .bl true) noD := fun ns h => ⟨ns, rfl, h, fun _ => rfl⟩
def topS (i : Nat) : Stmt := PySem.Challenge.pw_carbonpad_k59_sheets_made.main.body.getD i (.Pass ⟨0, 0, 0, 0⟩)
section
variable {P : Program} {w : World} {K : PySem.W.Frag} {mg : Str → Option Value} {base : Heap}
abbrev s_is_between : Stmt := topS 13
theorem sc_is_between : FnScope ["value", "low", "high"] ["value", "low", "high"] (defScope s_is_between) := ⟨rfl, rfl, rfl, by decide +kernel, rfl, by decide +kernel, by decide +kernel⟩
theorem fn_is_between {f : Addr} {fd : FuncData} (F : Fun K "is_between" "is_between" s_is_between f fd) (m_bool : mg "bool" = none) (m_int : mg "int" = none) (m_isinstance : mg "isinstance" = none) : FnG P w K mg base L2.CX0 1 f fd ["value", "low", "high"] (liftP K mg sp_is_between) := by
  refine FnG.ofD (k := 0) F sc_is_between len_is_between b_is_between ok_is_between fun cdv A outer s H E B quiet room => ?_
  have nd := sc_is_between.nd
  exact (ds_last (ds_ret (de_and (de_fnB call_isi cs_isi (by rfl) m_isinstance (by decide +kernel) (daw_cons (dw_var (pv 0)) (daw_cons (dw (de_tyN (by rfl) m_int (by decide +kernel))) daw_nil))) (de_and (de_not (de_fnB call_isi cs_isi (by rfl) m_isinstance (by decide +kernel) (daw_cons (dw_var (pv 0)) (daw_cons (dw (de_tyN (by rfl) m_bool (by decide +kernel))) daw_nil)))) (de_one (de_chain op_le ops_le op_le ops_le (dw_var (pv 1)) (dw_var (pv 0)) (dw_var (pv 2))))))))
abbrev s_is_letter : Stmt := topS 14
theorem sc_is_letter : FnScope ["value"] ["value"] (defScope s_is_letter) := ⟨rfl, rfl, rfl, by decide +kernel, rfl, by decide +kernel, by decide +kernel⟩
theorem fn_is_letter {f : Addr} {fd : FuncData} (F : Fun K "is_letter" "is_letter" s_is_letter f fd) (m_isinstance : mg "isinstance" = none) (m_len : mg "len" = none) (m_str : mg "str" = none) {t_LETTERS : Tok} (g_LETTERS : mg "LETTERS" = some (.str "abcdefghijklmnopqrstuvwxyz" t_LETTERS)) : FnG P w K mg base L2.CX0 1 f fd ["value"] (liftP K mg sp_is_letter) := by
  refine FnG.ofD (k := 0) F sc_is_letter len_is_letter b_is_letter ok_is_letter fun cdv A outer s H E B quiet room => ?_
  have nd := sc_is_letter.nd
  exact (ds_last (ds_ret (de_and (de_fnB call_isi cs_isi (by rfl) m_isinstance (by decide +kernel) (daw_cons (dw_var (pv 0)) (daw_cons (dw (de_tyN (by rfl) m_str (by decide +kernel))) daw_nil))) (de_and (de_cmp (op_eqA room.units) ops_eq (dw (de_fnB call_lenA cs_len (by rfl) m_len (by decide +kernel) (daw_cons (dw_var (pv 0)) daw_nil))) (dw de_int) (nomark _)) (de_one (de_cmp op_inA (ops_in false) (dw_var (pv 0)) (dw (de_globS [97, 98, 99, 100, 101, 102, 103, 104, 105, 106, 107, 108, 109, 110, 111, 112, 113, 114, 115, 116, 117, 118, 119, 120, 121, 122] (by rfl) g_LETTERS)) (by rfl)))))))
abbrev s_vis_word : Stmt := topS 15
theorem sc_vis_word : FnScope ["value", "sign"] ["value"] (defScope s_vis_word) := ⟨rfl, rfl, rfl, by decide +kernel, rfl, by decide +kernel, by decide +kernel⟩
theorem fn_vis_word {f : Addr} {fd : FuncData} (F : Fun K "is_word" "is_word" s_vis_word f fd) (m_all : mg "all" = none) (m_isinstance : mg "isinstance" = none) (m_len : mg "len" = none) (m_str : mg "str" = none) {t_MAX_WORD : Tok} (g_MAX_WORD : mg "MAX_WORD" = some (.int 30 t_MAX_WORD)) (c_is_letter : Cal P w K mg base L2.CX0 1 "is_letter" sp_is_letter) (itab : ITabOk K mg itab_law) : FnG P w K mg base L2.CX0 2 f fd ["value"] (liftP K mg sp_vis_word) := by
  refine FnG.ofD (k := 1) F sc_vis_word len_vis_word b_vis_word ok_vis_word fun cdv A outer s H E B quiet room => ?_
  have nd := sc_vis_word.nd
  exact (ds_last (ds_ret (de_and (de_fnB call_isi (cs_isiO itab) (by rfl) m_isinstance (by decide +kernel) (daw_cons (dw_var (pv 0)) (daw_cons (dw (de_tyN (by rfl) m_str (by decide +kernel))) daw_nil))) (de_and (de_cmp op_le ops_le (dw (de_fnB call_lenA cs_len (by rfl) m_len (by decide +kernel) (daw_cons (dw_var (pv 0)) daw_nil))) (dw (de_globI (by rfl) g_MAX_WORD)) (nomark _)) (de_one (de_fnB (cr_all rfl) cs_all (by rfl) m_all (by decide +kernel) (daw_cons (dw (de_F (df_lc (own := [("sign", 1)]) (ns := [1]) rfl nd (di_each (de_var (pv 0))) (blkOk_by (by kernel_rfl)) (by decide) (fun _ _ _ _ _ _ => (dg_name (pg_name (i := 1) nd rfl (by first | exact Or.inl rfl | exact Or.inr rfl)))) (fun _ _ _ _ _ => dts_nil) (fun _ _ _ _ _ => (de_call c_is_letter quiet (room.mono (by decide)) (by rfl) (da_cons (de_var (pv 1)) da_nil)))))) daw_nil)))))))
abbrev s_first_pick : Stmt := topS 17
theorem sc_first_pick : FnScope ["one", "other", "found", "begin", "letter", "place"] ["one", "other"] (defScope s_first_pick) := ⟨rfl, rfl, rfl, by decide +kernel, rfl, by decide +kernel, by decide +kernel⟩
theorem fn_first_pick {f : Addr} {fd : FuncData} (F : Fun K "first_pick" "first_pick" s_first_pick f fd) (m_tuple : mg "tuple" = none) : FnG P w K mg base L2.CX0 1 f fd ["one", "other"] (liftP K mg sp_first_pick) := by
  refine FnG.ofD (k := 0) F sc_first_pick len_first_pick b_first_pick ok_first_pick fun cdv A outer s H E B quiet room => ?_
  have nd := sc_first_pick.nd
  exact (ds_cons (ds_setR (fun _ h => ps_set (i := 2) nd rfl (by first | exact Or.inl rfl | exact Or.inr rfl) h) (dr_F (df_lst da_nil)))
  (ds_cons (ds_setR (fun _ h => ps_set (i := 3) nd rfl (by first | exact Or.inl rfl | exact Or.inr rfl) h) (dr_E de_int))
  (ds_cons (ds_for PassesOwn.never rfl (di_each (de_var (pv 1))) (dg_name (pg_name (i := 4) nd rfl (by first | exact Or.inl rfl | exact Or.inr rfl)))
  (ds_cons (ds_setR (fun _ h => ps_set (i := 5) nd rfl (by first | exact Or.inl rfl | exact Or.inr rfl) h) (dr_E (de_mt PySem.F.plainAttrs_str PySem.F.slot_str_find PySem.F.type_str_find mt_find3 ms_find (dw_var (pv 0)) (daw_cons (dw_var (pv 4)) (daw_cons (dw_var (pv 3)) daw_nil)))))
  (ds_cons (ds_if (dt_cmp op_ltA ops_lt (dw_var (pv 5)) (dw de_int) (nomark _))
  (ds_last ds_break)
  ds_nil)
  (ds_cons (ds_app (fun _ h => ps_expr (pe_bm PySem.F.plainAttrs_list PySem.F.slot_list_append PySem.F.type_list_append mt_append (pv 2) h)) (de_var (pv 5)))
  (ds_last (ds_setR (fun _ h => ps_set (i := 3) nd rfl (by first | exact Or.inl rfl | exact Or.inr rfl) h) (dr_E (de_op op_addA ops_add (dw_var (pv 5)) (dw de_int)))))))))
  (ds_last (ds_ret (de_fnT call_tupZ cs_tuple (by rfl) m_tuple (by decide +kernel) (daw_cons (dw_var (pv 2)) daw_nil)))))))
abbrev s_count_picked : Stmt := topS 18
theorem sc_count_picked : FnScope ["one", "other"] ["one", "other"] (defScope s_count_picked) := ⟨rfl, rfl, rfl, by decide +kernel, rfl, by decide +kernel, by decide +kernel⟩
theorem fn_count_picked {f : Addr} {fd : FuncData} (F : Fun K "count_picked" "count_picked" s_count_picked f fd) (m_len : mg "len" = none) (c_first_pick : Cal P w K mg base L2.CX0 1 "first_pick" sp_first_pick) : FnG P w K mg base L2.CX0 2 f fd ["one", "other"] (liftP K mg sp_count_picked) := by
  refine FnG.ofD (k := 1) F sc_count_picked len_count_picked b_count_picked ok_count_picked fun cdv A outer s H E B quiet room => ?_
  have nd := sc_count_picked.nd
  exact (ds_last (ds_ret (de_fnB call_lenA cs_len (by rfl) m_len (by decide +kernel) (daw_cons (dw (de_call c_first_pick quiet (room.mono (by decide)) (by rfl) (da_cons (de_var (pv 0)) (da_cons (de_var (pv 1)) da_nil)))) daw_nil))))
abbrev s_price : Stmt := topS 19
theorem sc_price : FnScope ["one", "other"] ["one", "other"] (defScope s_price) := ⟨rfl, rfl, rfl, by decide +kernel, rfl, by decide +kernel, by decide +kernel⟩
theorem fn_price {f : Addr} {fd : FuncData} (F : Fun K "price" "price" s_price f fd) (m_len : mg "len" = none) (c_count_picked : Cal P w K mg base L2.CX0 2 "count_picked" sp_count_picked) : FnG P w K mg base L2.CX0 3 f fd ["one", "other"] (liftP K mg sp_price) := by
  refine FnG.ofD (k := 2) F sc_price len_price b_price ok_price fun cdv A outer s H E B quiet room => ?_
  have nd := sc_price.nd
  exact (ds_last (ds_ret (de_op op_sub ops_sub (dw (de_fnB call_lenA cs_len (by rfl) m_len (by decide +kernel) (daw_cons (dw_var (pv 1)) daw_nil))) (dw (de_call c_count_picked quiet (room.mono (by decide)) (by rfl) (da_cons (de_var (pv 0)) (da_cons (de_var (pv 1)) da_nil)))))))
abbrev s_Sheet_init : Stmt := inClass (topS 21) 0
theorem sc_Sheet_init : FnScope ["self", "text"] ["self", "text"] (defScope s_Sheet_init) := ⟨rfl, rfl, rfl, by decide +kernel, rfl, by decide +kernel, by decide +kernel⟩
theorem fn_Sheet_init {f : Addr} {fd : FuncData} (F : Fun K "__init__" "Sheet.__init__" s_Sheet_init f fd) (c_vis_word : Cal P w K mg base L2.CX0 2 "is_word" sp_vis_word) (x_BadWord : FldCls K mg "BadWord" "value") (o_fld_letters : ∀ c ∈ (["Sheet"] : List Str), FldOf K mg "letters" c) : FnG P w K mg base (L2.CX P w) 4 f fd ["self", "text"] (liftP K mg sp_Sheet_init) := by
  refine FnG.ofX (k := 3) F sc_Sheet_init len_Sheet_init b_Sheet_init ok_Sheet_init fun cdv A outer s H E Ed B quiet room tk => ?_
  have nd := sc_Sheet_init.nd
  exact (ds_cons (ds_if (dt_not (dt_val (de_call c_vis_word quiet (room.mono (by decide)) (by rfl) (da_cons (de_var (pv 1)) da_nil))))
  (ds_last (ds_raise rfl tk (dx_fld x_BadWord room (da_cons (de_var (pv 1)) da_nil) (by rfl))))
  ds_nil)
  (dss_nox (ds_last (ds_setA o_fld_letters (de_var (pv 0)) (de_var (pv 1))))))
abbrev s_Sheet_text : Stmt := inClass (topS 21) 1
theorem sc_Sheet_text : FnScope ["self"] ["self"] (defScope s_Sheet_text) := ⟨rfl, rfl, rfl, by decide +kernel, rfl, by decide +kernel, by decide +kernel⟩
theorem fn_Sheet_text {f : Addr} {fd : FuncData} (F : Fun K "text" "Sheet.text" s_Sheet_text f fd) (o_fld_letters : ∀ c ∈ (["Sheet"] : List Str), FldOf K mg "letters" c) : FnG P w K mg base L2.CX0 1 f fd ["self"] (liftP K mg sp_Sheet_text) := by
  refine FnG.ofD (k := 0) F sc_Sheet_text len_Sheet_text b_Sheet_text ok_Sheet_text fun cdv A outer s H E B quiet room => ?_
  have nd := sc_Sheet_text.nd
  exact (ds_last (ds_ret (de_fld o_fld_letters (de_var (pv 0)))))
abbrev s_Sheet_getitem : Stmt := inClass (topS 21) 6
theorem sc_Sheet_getitem : FnScope ["self", "place"] ["self", "place"] (defScope s_Sheet_getitem) := ⟨rfl, rfl, rfl, by decide +kernel, rfl, by decide +kernel, by decide +kernel⟩
theorem fn_Sheet_getitem {f : Addr} {fd : FuncData} (F : Fun K "__getitem__" "Sheet.__getitem__" s_Sheet_getitem f fd) (m_len : mg "len" = none) (c_is_between : Cal P w K mg base L2.CX0 1 "is_between" sp_is_between) (x_NoPlace : FldCls K mg "NoPlace" "value") (o_fld_letters : ∀ c ∈ (["Sheet"] : List Str), FldOf K mg "letters" c) : FnG P w K mg base (L2.CX P w) 3 f fd ["self", "place"] (liftP K mg sp_Sheet_getitem) := by
  refine FnG.ofX (k := 2) F sc_Sheet_getitem len_Sheet_getitem b_Sheet_getitem ok_Sheet_getitem fun cdv A outer s H E Ed B quiet room tk => ?_
  have nd := sc_Sheet_getitem.nd
  exact (ds_cons (ds_if (dt_not (dt_val (de_call c_is_between quiet (room.mono (by decide)) (by rfl) (da_cons (de_var (pv 1)) (da_cons de_int (da_cons (de_op op_sub ops_sub (dw (de_fnB call_lenA cs_len (by rfl) m_len (by decide +kernel) (daw_cons (dw (de_fld o_fld_letters (de_var (pv 0)))) daw_nil))) (dw de_int)) da_nil))))))
  (ds_last (ds_raise rfl tk (dx_fld x_NoPlace room (da_cons (de_var (pv 1)) da_nil) (by rfl))))
  ds_nil)
  (dss_nox (ds_last (ds_ret (de_ix (dw (de_fld o_fld_letters (de_var (pv 0)))) (dw_var (pv 1)) (fun _ _ => rfl))))))
abbrev s_Sheet_len : Stmt := inClass (topS 21) 8
theorem sc_Sheet_len : FnScope ["self"] ["self"] (defScope s_Sheet_len) := ⟨rfl, rfl, rfl, by decide +kernel, rfl, by decide +kernel, by decide +kernel⟩
theorem fn_Sheet_len {f : Addr} {fd : FuncData} (F : Fun K "__len__" "Sheet.__len__" s_Sheet_len f fd) (m_len : mg "len" = none) (o_fld_letters : ∀ c ∈ (["Sheet"] : List Str), FldOf K mg "letters" c) : FnG P w K mg base L2.CX0 1 f fd ["self"] (liftP K mg sp_Sheet_len) := by
  refine FnG.ofD (k := 0) F sc_Sheet_len len_Sheet_len b_Sheet_len ok_Sheet_len fun cdv A outer s H E B quiet room => ?_
  have nd := sc_Sheet_len.nd
  exact (ds_last (ds_ret (de_fnB call_lenA cs_len (by rfl) m_len (by decide +kernel) (daw_cons (dw (de_fld o_fld_letters (de_var (pv 0)))) daw_nil))))
abbrev s_Sheet_bool : Stmt := inClass (topS 21) 9
theorem sc_Sheet_bool : FnScope ["self"] ["self"] (defScope s_Sheet_bool) := ⟨rfl, rfl, rfl, by decide +kernel, rfl, by decide +kernel, by decide +kernel⟩
theorem fn_Sheet_bool {f : Addr} {fd : FuncData} (F : Fun K "__bool__" "Sheet.__bool__" s_Sheet_bool f fd) (m_len : mg "len" = none) (o_fld_letters : ∀ c ∈ (["Sheet"] : List Str), FldOf K mg "letters" c) : FnG P w K mg base L2.CX0 1 f fd ["self"] (liftP K mg sp_Sheet_bool) := by
  refine FnG.ofD (k := 0) F sc_Sheet_bool len_Sheet_bool b_Sheet_bool ok_Sheet_bool fun cdv A outer s H E B quiet room => ?_
  have nd := sc_Sheet_bool.nd
  exact (ds_last (ds_ret (de_cmp op_gt ops_gt (dw (de_fnB call_lenA cs_len (by rfl) m_len (by decide +kernel) (daw_cons (dw (de_fld o_fld_letters (de_var (pv 0)))) daw_nil))) (dw de_int) (nomark _))))
abbrev s_Sheet_eq : Stmt := inClass (topS 21) 10
theorem sc_Sheet_eq : FnScope ["self", "other"] ["self", "other"] (defScope s_Sheet_eq) := ⟨rfl, rfl, rfl, by decide +kernel, rfl, by decide +kernel, by decide +kernel⟩
theorem fn_Sheet_eq {f : Addr} {fd : FuncData} (F : Fun K "__eq__" "Sheet.__eq__" s_Sheet_eq f fd) (m_isinstance : mg "isinstance" = none) (o_fld_letters : ∀ c ∈ (["Sheet"] : List Str), FldOf K mg "letters" c) {A_Sheet : Addr} (og_Sheet : mg "Sheet" = some (.ref A_Sheet)) (itab : ITabOk K mg itab_law) : FnG P w K mg base L2.CX0 1 f fd ["self", "other"] (liftP K mg sp_Sheet_eq) := by
  refine FnG.ofD (k := 0) F sc_Sheet_eq len_Sheet_eq b_Sheet_eq ok_Sheet_eq fun cdv A outer s H E B quiet room => ?_
  have nd := sc_Sheet_eq.nd
  exact (ds_last (ds_ret (de_and (de_fnB call_isi (cs_isiO itab) (by rfl) m_isinstance (by decide +kernel) (daw_cons (dw_var (pv 1)) (daw_cons (dw (de_gl (by rfl) ⟨_, og_Sheet⟩)) daw_nil))) (de_one (de_cmp (op_eqA room.units) ops_eq (dw (de_fld o_fld_letters (de_var (pv 0)))) (dw (de_fld o_fld_letters (de_var (pv 1)))) (nomark _))))))
abbrev s_Sheet_str : Stmt := inClass (topS 21) 11
theorem sc_Sheet_str : FnScope ["self"] ["self"] (defScope s_Sheet_str) := ⟨rfl, rfl, rfl, by decide +kernel, rfl, by decide +kernel, by decide +kernel⟩
theorem fn_Sheet_str {f : Addr} {fd : FuncData} (F : Fun K "__str__" "Sheet.__str__" s_Sheet_str f fd) (o_fld_letters : ∀ c ∈ (["Sheet"] : List Str), FldOf K mg "letters" c) : FnG P w K mg base L2.CX0 1 f fd ["self"] (liftP K mg sp_Sheet_str) := by
  refine FnG.ofD (k := 0) F sc_Sheet_str len_Sheet_str b_Sheet_str ok_Sheet_str fun cdv A outer s H E B quiet room => ?_
  have nd := sc_Sheet_str.nd
  exact (ds_last (ds_ret (de_fs (DJ.cons (de_str [34]) (DJ.cons (de_fmt (de_fld o_fld_letters (de_var (pv 0)))) (DJ.cons (de_str [34]) DJ.nil))))))
abbrev s_lawE_deck : Stmt := topS 23
theorem sc_lawE_deck : FnScope ["_law_script", "_law_cell"] ["_law_script"] (defScope s_lawE_deck) := ⟨rfl, rfl, rfl, by decide +kernel, rfl, by decide +kernel, by decide +kernel⟩
theorem fn_lawE_deck {f : Addr} {fd : FuncData} (F : Fun K "_law_deck" "_law_deck" s_lawE_deck f fd) (m_abs : mg "abs" = none) : FnG P w K mg base L2.CX0 1 f fd ["_law_script"] (liftP K mg sp_lawE_deck) := by
  refine FnG.ofD (k := 0) F sc_lawE_deck len_lawE_deck b_lawE_deck ok_lawE_deck fun cdv A outer s H E B quiet room => ?_
  have nd := sc_lawE_deck.nd
  exact (ds_last (ds_ret (de_M (df_lst (da_cons (de_M (df_lc (own := [("_law_cell", 1)]) (ns := [1]) rfl nd (di_each (de_slice (dw_var (pv 0)) do_none (do_some de_int))) (blkOk_by (by kernel_rfl)) (by decide) (fun _ _ _ _ _ _ => (dg_name (pg_name (i := 1) nd rfl (by first | exact Or.inl rfl | exact Or.inr rfl)))) (fun _ _ _ _ _ => dts_nil) (fun _ _ _ _ _ => (de_fnB call_abs cs_abs (by rfl) m_abs (by decide +kernel) (daw_cons (dw_var (pv 1)) daw_nil))))) (da_cons de_int da_nil))))))
abbrev s_lawE_draw : Stmt := topS 24
theorem sc_lawE_draw : FnScope ["_law_deck_here", "_law_many", "_law_cell", "_law_spot", "_law_mixed"] ["_law_deck_here", "_law_many"] (defScope s_lawE_draw) := ⟨rfl, rfl, rfl, by decide +kernel, rfl, by decide +kernel, by decide +kernel⟩
theorem fn_lawE_draw {f : Addr} {fd : FuncData} (F : Fun K "_law_draw" "_law_draw" s_lawE_draw f fd) (m_len : mg "len" = none) : FnG P w K mg base L2.CX0 1 f fd ["_law_deck_here", "_law_many"] (liftP K mg sp_lawE_draw) := by
  refine FnG.ofD (k := 0) F sc_lawE_draw len_lawE_draw b_lawE_draw ok_lawE_draw fun cdv A outer s H E B quiet room => ?_
  have nd := sc_lawE_draw.nd
  exact (ds_cons (ds_putM (de_op op_addA ops_add (dw (de_ix (dw_var (pv 0)) (dw de_int) (fun _ _ => rfl))) (dw de_int)) (de_var (pv 0)) (dw de_int))
  (ds_cons (ds_asg (de_tup (da_cons de_int (da_cons de_int da_nil))) (dg_tup rfl (dgs_cons (dg_name (pg_name (i := 2) nd rfl (by first | exact Or.inl rfl | exact Or.inr rfl))) (dgs_cons (dg_name (pg_name (i := 3) nd rfl (by first | exact Or.inl rfl | exact Or.inr rfl))) dgs_nil))))
  (ds_cons (ds_if (dt_cmp (op_neA room.units) ops_neR (dw (de_ix (dw_var (pv 0)) (dw de_int) (fun _ _ => rfl))) (dw (de_lst da_nil)) (nomark _))
  (ds_cons (ds_setR (fun _ h => ps_set (i := 3) nd rfl (by first | exact Or.inl rfl | exact Or.inr rfl) h) (dr_E (de_op op_mod ops_mod (dw (de_ix (dw_var (pv 0)) (dw de_int) (fun _ _ => rfl))) (dw (de_fnB call_lenA cs_len (by rfl) m_len (by decide +kernel) (daw_cons (dw (de_ix (dw_var (pv 0)) (dw de_int) (fun _ _ => rfl))) daw_nil))))))
  (ds_last (ds_setR (fun _ h => ps_set (i := 2) nd rfl (by first | exact Or.inl rfl | exact Or.inr rfl) h) (dr_E (de_ix (dw (de_ix (dw_var (pv 0)) (dw de_int) (fun _ _ => rfl))) (dw_var (pv 3)) (fun _ _ => rfl))))))
  ds_nil)
  (ds_cons (ds_if (dt_cmp op_ge ops_ge (dw_var (pv 2)) (dw (de_op op_pow ops_pow (dw de_int) (dw de_int))) (nomark _))
  (ds_cons (ds_putM (de_op op_divA ops_div (dw_var (pv 2)) (dw_var (pv 1))) (de_ix (dw_var (pv 0)) (dw de_int) (fun _ _ => rfl)) (dw_var (pv 3)))
  (ds_last (ds_ret (de_op op_mod ops_mod (dw_var (pv 2)) (dw_var (pv 1))))))
  ds_nil)
  (ds_cons (ds_setR (fun _ h => ps_set (i := 4) nd rfl (by first | exact Or.inl rfl | exact Or.inr rfl) h) (dr_E (de_op op_mod ops_mod (dw (de_op op_pow ops_pow (dw (de_op op_addA ops_add (dw (de_op op_addA ops_add (dw (de_op op_mod ops_mod (dw_var (pv 2)) (dw de_int))) (dw (de_op op_mulA ops_mul (dw de_int) (dw (de_ix (dw_var (pv 0)) (dw de_int) (fun _ _ => rfl))))))) (dw de_int))) (dw de_int))) (dw de_int))))
  (ds_cons (ds_setR (fun _ h => ps_set (i := 4) nd rfl (by first | exact Or.inl rfl | exact Or.inr rfl) h) (dr_E (de_op op_mod ops_mod (dw (de_op op_pow ops_pow (dw (de_op op_addA ops_add (dw_var (pv 4)) (dw (de_op op_mulA ops_mul (dw de_int) (dw (de_ix (dw_var (pv 0)) (dw de_int) (fun _ _ => rfl))))))) (dw de_int))) (dw de_int))))
  (ds_last (ds_ret (de_op op_mod ops_mod (dw (de_op op_divA ops_div (dw_var (pv 4)) (dw de_int))) (dw_var (pv 1)))))))))))
abbrev s_lawE_one : Stmt := topS 25
theorem sc_lawE_one : FnScope ["_law_deck_here", "_law_items"] ["_law_deck_here", "_law_items"] (defScope s_lawE_one) := ⟨rfl, rfl, rfl, by decide +kernel, rfl, by decide +kernel, by decide +kernel⟩
theorem fn_lawE_one {f : Addr} {fd : FuncData} (F : Fun K "_law_one" "_law_one" s_lawE_one f fd) (m_len : mg "len" = none) (c_lawE_draw : Cal P w K mg base L2.CX0 1 "_law_draw" sp_lawE_draw) : FnG P w K mg base L2.CX0 2 f fd ["_law_deck_here", "_law_items"] (liftP K mg sp_lawE_one) := by
  refine FnG.ofD (k := 1) F sc_lawE_one len_lawE_one b_lawE_one ok_lawE_one fun cdv A outer s H E B quiet room => ?_
  have nd := sc_lawE_one.nd
  exact (ds_last (ds_ret (de_ix (dw_var (pv 1)) (dw (de_call c_lawE_draw quiet (room.mono (by decide)) (by rfl) (da_cons (de_var (pv 0)) (da_cons (de_fnB call_lenA cs_len (by rfl) m_len (by decide +kernel) (daw_cons (dw_var (pv 1)) daw_nil)) da_nil)))) (fun _ _ => rfl))))
abbrev s_lawE_word : Stmt := topS 26
theorem sc_lawE_word : FnScope ["_law_deck_here", "_law_most", "_law_letters", "_law_k"] ["_law_deck_here", "_law_most"] (defScope s_lawE_word) := ⟨rfl, rfl, rfl, by decide +kernel, rfl, by decide +kernel, by decide +kernel⟩
theorem fn_lawE_word {f : Addr} {fd : FuncData} (F : Fun K "_law_word" "_law_word" s_lawE_word f fd) (m_range : mg "range" = none) (c_lawE_draw : Cal P w K mg base L2.CX0 1 "_law_draw" sp_lawE_draw) (c_lawE_one : Cal P w K mg base L2.CX0 2 "_law_one" sp_lawE_one) : FnG P w K mg base L2.CX0 3 f fd ["_law_deck_here", "_law_most"] (liftP K mg sp_lawE_word) := by
  refine FnG.ofD (k := 2) F sc_lawE_word len_lawE_word b_lawE_word ok_lawE_word fun cdv A outer s H E B quiet room => ?_
  have nd := sc_lawE_word.nd
  exact (ds_cons (ds_setR (fun _ h => ps_set (i := 2) nd rfl (by first | exact Or.inl rfl | exact Or.inr rfl) h) (dr_E (de_call c_lawE_one quiet (room.mono (by decide)) (by rfl) (da_cons (de_var (pv 0)) (da_cons (de_lst (da_cons (de_str [97]) (da_cons (de_str [97, 98]) (da_cons (de_str [97, 98, 99]) (da_cons (de_str [97, 98, 99]) (da_cons (de_str [97, 98, 99, 100, 101, 102, 103, 104, 105, 106, 107, 108, 109, 110, 111, 112, 113, 114, 115, 116, 117, 118, 119, 120, 121, 122]) da_nil)))))) da_nil)))))
  (ds_last (ds_ret (de_mt PySem.F.plainAttrs_str PySem.F.slot_str_join PySem.F.type_str_join mt_join ms_join (dw (de_str [])) (daw_cons (dw (de_F (df_lc (own := [("_law_k", 3)]) (ns := [3]) rfl nd (di_rng1 (by rfl) m_range (da_cons (de_call c_lawE_draw quiet (room.mono (by decide)) (by rfl) (da_cons (de_var (pv 0)) (da_cons (de_op op_addA ops_add (dw_var (pv 1)) (dw de_int)) da_nil))) da_nil)) (blkOk_by (by kernel_rfl)) (by decide) (fun _ _ _ _ _ _ => (dg_name (pg_name (i := 3) nd rfl (by first | exact Or.inl rfl | exact Or.inr rfl)))) (fun _ _ _ _ _ => dts_nil) (fun _ _ _ _ _ => (de_call c_lawE_one quiet (room.mono (by decide)) (by rfl) (da_cons (de_var (pv 0)) (da_cons (de_var (pv 2)) da_nil))))))) daw_nil)))))
abbrev s_lawE_below : Stmt := topS 27
theorem sc_lawE_below : FnScope ["_law_deck_here", "_law_word_here", "_law_most", "_law_kept", "_law_letter_here"] ["_law_deck_here", "_law_word_here", "_law_most"] (defScope s_lawE_below) := ⟨rfl, rfl, rfl, by decide +kernel, rfl, by decide +kernel, by decide +kernel⟩
theorem fn_lawE_below {f : Addr} {fd : FuncData} (F : Fun K "_law_below" "_law_below" s_lawE_below f fd) (c_lawE_draw : Cal P w K mg base L2.CX0 1 "_law_draw" sp_lawE_draw) (c_lawE_word : Cal P w K mg base L2.CX0 3 "_law_word" sp_lawE_word) : FnG P w K mg base L2.CX0 4 f fd ["_law_deck_here", "_law_word_here", "_law_most"] (liftP K mg sp_lawE_below) := by
  refine FnG.ofD (k := 3) F sc_lawE_below len_lawE_below b_lawE_below ok_lawE_below fun cdv A outer s H E B quiet room => ?_
  have nd := sc_lawE_below.nd
  exact (ds_cons (ds_setR (fun _ h => ps_set (i := 3) nd rfl (by first | exact Or.inl rfl | exact Or.inr rfl) h) (dr_E (de_mt PySem.F.plainAttrs_str PySem.F.slot_str_join PySem.F.type_str_join mt_join ms_join (dw (de_str [])) (daw_cons (dw (de_F (df_lc (own := [("_law_letter_here", 4)]) (ns := [4]) rfl nd (di_each (de_var (pv 1))) (blkOk_by (by kernel_rfl)) (by decide) (fun _ _ _ _ _ _ => (dg_name (pg_name (i := 4) nd rfl (by first | exact Or.inl rfl | exact Or.inr rfl)))) (fun _ _ _ _ _ => (dts_one (dt_cmp op_gt ops_gt (dw (de_call c_lawE_draw quiet (room.mono (by decide)) (by rfl) (da_cons (de_var (pv 0)) (da_cons de_int da_nil)))) (dw de_int) (nomark _)))) (fun _ _ _ _ _ => (de_var (pv 4)))))) daw_nil))))
  (ds_last (ds_ret (de_slice (dw (de_op op_addA ops_add (dw_var (pv 3)) (dw (de_call c_lawE_word quiet (room.mono (by decide)) (by rfl) (da_cons (de_var (pv 0)) (da_cons de_int da_nil)))))) do_none (do_some (de_var (pv 2)))))))
abbrev s_lawE_odd : Stmt := topS 28
theorem sc_lawE_odd : FnScope ["_law_deck_here", "_law_some"] ["_law_deck_here"] (defScope s_lawE_odd) := ⟨rfl, rfl, rfl, by decide +kernel, rfl, by decide +kernel, by decide +kernel⟩
theorem fn_lawE_odd {f : Addr} {fd : FuncData} (F : Fun K "_law_odd" "_law_odd" s_lawE_odd f fd) (c_lawE_draw : Cal P w K mg base L2.CX0 1 "_law_draw" sp_lawE_draw) : FnG P w K mg base L2.CX0 2 f fd ["_law_deck_here"] (liftP K mg sp_lawE_odd) := by
  refine FnG.ofD (k := 1) F sc_lawE_odd len_lawE_odd b_lawE_odd ok_lawE_odd fun cdv A outer s H E B quiet room => ?_
  have nd := sc_lawE_odd.nd
  exact (ds_cons (ds_setR (fun _ h => ps_set (i := 1) nd rfl (by first | exact Or.inl rfl | exact Or.inr rfl) h) (dr_E (de_lst (da_cons de_non (da_cons de_bl (da_cons de_bl (da_cons (de_neg de_int) (da_cons de_int (da_cons de_int (da_cons de_int (da_cons de_int (da_cons de_int (da_cons (de_op op_pow ops_pow (dw de_int) (dw de_int)) (da_cons (de_str []) (da_cons (de_str [97]) (da_cons (de_str [97, 66]) (da_cons (de_str [48]) (da_cons (de_tup da_nil) (da_cons (de_tup (da_cons de_int da_nil)) (da_cons (de_lst (da_cons de_int da_nil)) (da_cons de_dict0 (da_cons (de_tup (da_cons de_int (da_cons de_int da_nil))) (da_cons (de_tup (da_cons de_bl da_nil)) da_nil)))))))))))))))))))))))
  (ds_last (ds_ret (de_ix (dw (de_op op_addA ops_add (dw_var (pv 1)) (dw (de_lst (da_cons (de_tup (da_cons (de_str [97]) da_nil)) (da_cons (de_lst (da_cons (de_str [97]) da_nil)) (da_cons (de_op op_mulA ops_mul (dw (de_str [97])) (dw de_int)) (da_cons (de_tup (da_cons de_int (da_cons de_int da_nil))) da_nil)))))))) (dw (de_call c_lawE_draw quiet (room.mono (by decide)) (by rfl) (da_cons (de_var (pv 0)) (da_cons de_int da_nil)))) (fun _ _ => rfl)))))
abbrev s_lawE_whole : Stmt := topS 29
theorem sc_lawE_whole : FnScope ["_law_value", "_law_low", "_law_high"] ["_law_value", "_law_low", "_law_high"] (defScope s_lawE_whole) := ⟨rfl, rfl, rfl, by decide +kernel, rfl, by decide +kernel, by decide +kernel⟩
theorem fn_lawE_whole {f : Addr} {fd : FuncData} (F : Fun K "_law_whole" "_law_whole" s_lawE_whole f fd) (m_bool : mg "bool" = none) (m_int : mg "int" = none) (m_isinstance : mg "isinstance" = none) : FnG P w K mg base L2.CX0 1 f fd ["_law_value", "_law_low", "_law_high"] (liftP K mg sp_lawE_whole) := by
  refine FnG.ofD (k := 0) F sc_lawE_whole len_lawE_whole b_lawE_whole ok_lawE_whole fun cdv A outer s H E B quiet room => ?_
  have nd := sc_lawE_whole.nd
  exact (ds_last (ds_ret (de_and (de_fnB call_isi cs_isi (by rfl) m_isinstance (by decide +kernel) (daw_cons (dw_var (pv 0)) (daw_cons (dw (de_tyN (by rfl) m_int (by decide +kernel))) daw_nil))) (de_and (de_not (de_fnB call_isi cs_isi (by rfl) m_isinstance (by decide +kernel) (daw_cons (dw_var (pv 0)) (daw_cons (dw (de_tyN (by rfl) m_bool (by decide +kernel))) daw_nil)))) (de_one (de_chain op_le ops_le op_le ops_le (dw_var (pv 1)) (dw_var (pv 0)) (dw_var (pv 2))))))))
abbrev s_law_short : Stmt := topS 30
theorem sc_law_short : FnScope ["_law_value", "_law_sign"] ["_law_value"] (defScope s_law_short) := ⟨rfl, rfl, rfl, by decide +kernel, rfl, by decide +kernel, by decide +kernel⟩
theorem fn_law_short {f : Addr} {fd : FuncData} (F : Fun K "_law_short" "_law_short" s_law_short f fd) (m_isinstance : mg "isinstance" = none) (m_len : mg "len" = none) (m_str : mg "str" = none) (itab : ITabOk K mg itab_law) : FnG P w K mg base L2.CX0 1 f fd ["_law_value"] (liftP K mg sp_law_short) := by
  refine FnG.ofD (k := 0) F sc_law_short len_law_short b_law_short ok_law_short fun cdv A outer s H E B quiet room => ?_
  have nd := sc_law_short.nd
  exact (ds_cons (ds_if (DPW.dt (dpw_or (dt_not (dt_val (de_fnB call_isi (cs_isiO itab) (by rfl) m_isinstance (by decide +kernel) (daw_cons (dw_var (pv 0)) (daw_cons (dw (de_tyN (by rfl) m_str (by decide +kernel))) daw_nil))))) (dpw_or1 (dt_cmp op_gt ops_gt (dw (de_fnB call_lenA cs_len (by rfl) m_len (by decide +kernel) (daw_cons (dw_var (pv 0)) daw_nil))) (dw de_int) (nomark _)))))
  (ds_last (ds_ret de_bl))
  ds_nil)
  (ds_last (ds_ret (de_cmp (op_eqA room.units) ops_eq (dw (de_F (df_lc (own := [("_law_sign", 1)]) (ns := [1]) rfl nd (di_each (de_var (pv 0))) (blkOk_by (by kernel_rfl)) (by decide) (fun _ _ _ _ _ _ => (dg_name (pg_name (i := 1) nd rfl (by first | exact Or.inl rfl | exact Or.inr rfl)))) (fun _ _ _ _ _ => (dts_one (dt_cmp op_notInA (ops_in true) (dw_var (pv 1)) (dw (de_str [97, 98, 99, 100, 101, 102, 103, 104, 105, 106, 107, 108, 109, 110, 111, 112, 113, 114, 115, 116, 117, 118, 119, 120, 121, 122])) (by rfl)))) (fun _ _ _ _ _ => (de_var (pv 1)))))) (dw (de_lst da_nil)) (nomark _)))))
abbrev s_law_made : Stmt := topS 31
theorem sc_law_made : FnScope ["_law_value", "_law_sheet", "error", "_law_others"] ["_law_value"] (defScope s_law_made) := ⟨rfl, rfl, rfl, by decide +kernel, rfl, by decide +kernel, by decide +kernel⟩
theorem fn_law_made {f : Addr} {fd : FuncData} (F : Fun K "_law_made" "_law_made" s_law_made f fd) (m_LookupError : mg "LookupError" = none) (m_ValueError : mg "ValueError" = none) (m_bool : mg "bool" = none) (m_isinstance : mg "isinstance" = none) (m_len : mg "len" = none) (m_str : mg "str" = none) {A_BadLetter : Addr} (q_BadLetter : mg "BadLetter" = some (.ref A_BadLetter)) {A_BadNumber : Addr} (q_BadNumber : mg "BadNumber" = some (.ref A_BadNumber)) {A_BadOrder : Addr} (q_BadOrder : mg "BadOrder" = some (.ref A_BadOrder)) {A_BadWord : Addr} (q_BadWord : mg "BadWord" = some (.ref A_BadWord)) {A_PadError : Addr} (q_PadError : mg "PadError" = some (.ref A_PadError)) {A_TooLong : Addr} (q_TooLong : mg "TooLong" = some (.ref A_TooLong)) (r_BadWord_value : FldRd K mg "BadWord" "value") (r_NoPlace_value : FldRd K mg "NoPlace" "value") (xt : XTabOk K mg tab_law) (o_make_Sheet : KCal P w K mg base 4 "Sheet" (zIni "Sheet" dom_Sheet mk_Sheet)) (o_prop_text : ∀ p ∈ ([("Sheet", sp_Sheet_text)] : List (Str × DSp)), PCal P w K mg base 1 "text" p.1 p.2) (o_spec_bool : ∀ p ∈ ([("Sheet", sp_Sheet_bool)] : List (Str × DSp)), DCal P w K mg base 1 "__bool__" p.1 p.2) (o_spec_len : ∀ p ∈ ([("Sheet", sp_Sheet_len)] : List (Str × DSp)), DCal P w K mg base 1 "__len__" p.1 p.2) (o_spec_str : ∀ p ∈ ([("Sheet", sp_Sheet_str)] : List (Str × DSp)), DCal P w K mg base 1 "__str__" p.1 p.2) : FnG P w K mg base L2.CX0 6 f fd ["_law_value"] (liftP K mg sp_law_made) := by
  refine FnG.ofD (k := 5) F sc_law_made len_law_made b_law_made ok_law_made fun cdv A outer s H E B quiet room => ?_
  have nd := sc_law_made.nd
  exact (ds_last (ds_tryE rfl rfl rfl nd rfl rfl ⟨by rfl, by decide, .inl q_PadError⟩ tk_none (hcat_of xt q_PadError) (fun B' W pn xe tk' => (ds_cons (ds_setX (fun _ h => ps_set (i := 1) nd rfl (by first | exact Or.inl rfl | exact Or.inr rfl) h) (dg_makeZ (Md.x tk') o_make_Sheet quiet (room.mono (by decide)) (by rfl) (da_cons (de_var (pv 0)) da_nil)))
  (dss_nox (ds_last (ds_ret (de_tup (da_cons (dg_prop Md.no o_prop_text quiet (room.mono (by decide)) (de_var (pv 1))) (da_cons (de_fnB (call_lenO quiet (room.mono (by decide))) (cs_lenO o_spec_len) (by rfl) m_len (by decide +kernel) (daw_cons (dw_var (pv 1)) daw_nil)) (da_cons (de_fnT (call_boolO quiet (room.mono (by decide))) (cs_boolO o_spec_bool) (by rfl) m_bool (by decide +kernel) (daw_cons (dw_var (pv 1)) daw_nil)) (da_cons (de_fnT (call_strO quiet (room.mono (by decide))) (cs_strO o_spec_str) (by rfl) m_str (by decide +kernel) (daw_cons (dw_var (pv 1)) daw_nil)) da_nil)))))))))) (fun B' xa pn => (ds_cons (ds_setR (fun _ h => ps_set (i := 3) nd rfl (by first | exact Or.inl rfl | exact Or.inr rfl) h) (dr_E (de_fnB call_isE (cs_isE xt) (by rfl) m_isinstance (by decide +kernel) (daw_cons (dw_var (pv 2)) (daw_cons (dw (de_tup (da_cons (de_gl (by rfl) ⟨_, q_BadLetter⟩) (da_cons (de_gl (by rfl) ⟨_, q_BadNumber⟩) (da_cons (de_gl (by rfl) ⟨_, q_BadOrder⟩) (da_cons (de_gl (by rfl) ⟨_, q_TooLong⟩) (da_cons (de_tyN (by rfl) m_LookupError (by decide +kernel)) da_nil))))))) daw_nil)))))
  (ds_last (ds_ret (de_if (DPW.dt (dpw_and (dt_val (de_fnB call_isE (cs_isE xt) (by rfl) m_isinstance (by decide +kernel) (daw_cons (dw_var (pv 2)) (daw_cons (dw (de_gl (by rfl) ⟨_, q_BadWord⟩)) daw_nil)))) (dpw_and1 (dt_not (dt_val (de_var (pv 3))))))) (de_lst (da_cons (de_fldE (List.forall_mem_cons.mpr ⟨r_BadWord_value, (List.forall_mem_cons.mpr ⟨r_NoPlace_value, (fun _ h => nomatch h)⟩)⟩) (de_var (pv 2))) (da_cons (de_fnB call_isE (cs_isE xt) (by rfl) m_isinstance (by decide +kernel) (daw_cons (dw_var (pv 2)) (daw_cons (dw (de_tyN (by rfl) m_ValueError (by decide +kernel))) daw_nil))) da_nil))) (de_str [111, 116, 104, 101, 114]))))))))
abbrev s_law_letter : Stmt := topS 32
theorem sc_law_letter : FnScope ["_law_sheet", "_law_value", "error", "_law_others"] ["_law_sheet", "_law_value"] (defScope s_law_letter) := ⟨rfl, rfl, rfl, by decide +kernel, rfl, by decide +kernel, by decide +kernel⟩
theorem fn_law_letter {f : Addr} {fd : FuncData} (F : Fun K "_law_letter" "_law_letter" s_law_letter f fd) (m_LookupError : mg "LookupError" = none) (m_ValueError : mg "ValueError" = none) (m_isinstance : mg "isinstance" = none) {A_NoIndex : Addr} (q_NoIndex : mg "NoIndex" = some (.ref A_NoIndex)) {A_NoPlace : Addr} (q_NoPlace : mg "NoPlace" = some (.ref A_NoPlace)) {A_NoSheet : Addr} (q_NoSheet : mg "NoSheet" = some (.ref A_NoSheet)) {A_PadError : Addr} (q_PadError : mg "PadError" = some (.ref A_PadError)) (r_BadWord_value : FldRd K mg "BadWord" "value") (r_NoPlace_value : FldRd K mg "NoPlace" "value") (xt : XTabOk K mg tab_law) (o_spec_getitem : ∀ p ∈ ([("Sheet", sp_Sheet_getitem)] : List (Str × DSp)), DCal P w K mg base 3 "__getitem__" p.1 p.2) : FnG P w K mg base L2.CX0 5 f fd ["_law_sheet", "_law_value"] (liftP K mg sp_law_letter) := by
  refine FnG.ofD (k := 4) F sc_law_letter len_law_letter b_law_letter ok_law_letter fun cdv A outer s H E B quiet room => ?_
  have nd := sc_law_letter.nd
  exact (ds_last (ds_tryE rfl rfl rfl nd rfl rfl ⟨by rfl, by decide, .inl q_NoPlace⟩ tk_none (hcat_of xt q_NoPlace) (fun B' W pn xe tk' => (ds_last (ds_retX (dg_ix (Md.x tk') o_spec_getitem quiet (room.mono (by decide)) (de_var (pv 0)) (de_var (pv 1)))))) (fun B' xa pn => (ds_cons (ds_setR (fun _ h => ps_set (i := 3) nd rfl (by first | exact Or.inl rfl | exact Or.inr rfl) h) (dr_E (de_fnB call_isE (cs_isE xt) (by rfl) m_isinstance (by decide +kernel) (daw_cons (dw_var (pv 2)) (daw_cons (dw (de_tup (da_cons (de_gl (by rfl) ⟨_, q_PadError⟩) (da_cons (de_tyN (by rfl) m_ValueError (by decide +kernel)) (da_cons (de_gl (by rfl) ⟨_, q_NoIndex⟩) (da_cons (de_gl (by rfl) ⟨_, q_NoSheet⟩) da_nil)))))) daw_nil)))))
  (ds_last (ds_ret (de_lst (da_cons (de_fldE (List.forall_mem_cons.mpr ⟨r_BadWord_value, (List.forall_mem_cons.mpr ⟨r_NoPlace_value, (fun _ h => nomatch h)⟩)⟩) (de_var (pv 2))) (da_cons (de_and (de_fnB call_isE (cs_isE xt) (by rfl) m_isinstance (by decide +kernel) (daw_cons (dw_var (pv 2)) (daw_cons (dw (de_tyN (by rfl) m_LookupError (by decide +kernel))) daw_nil))) (de_one (de_not (de_var (pv 3))))) da_nil)))))))))
abbrev s_law_equal_right : Stmt := topS 33
theorem sc_law_equal_right : FnScope ["_law_one_here", "_law_other", "_law_first", "_law_second", "_law_due", "_law_found"] ["_law_one_here", "_law_other"] (defScope s_law_equal_right) := ⟨rfl, rfl, rfl, by decide +kernel, rfl, by decide +kernel, by decide +kernel⟩
theorem fn_law_equal_right {f : Addr} {fd : FuncData} (F : Fun K "_law_equal_right" "_law_equal_right" s_law_equal_right f fd) (m_repr : mg "repr" = none) (o_make_Sheet : KCal P w K mg base 4 "Sheet" (zIni "Sheet" dom_Sheet mk_Sheet)) (o_ne_eq : ∀ p ∈ ([("Sheet", sp_Sheet_eq)] : List (Str × DSp)), NCal P w K mg base 1 p.1 p.2) (o_spec_eq : ∀ p ∈ ([("Sheet", sp_Sheet_eq)] : List (Str × DSp)), DCal P w K mg base 1 "__eq__" p.1 p.2) : FnG P w K mg base L2.CX0 6 f fd ["_law_one_here", "_law_other"] (liftP K mg sp_law_equal_right) := by
  refine FnG.ofD (k := 5) F sc_law_equal_right len_law_equal_right b_law_equal_right ok_law_equal_right fun cdv A outer s H E B quiet room => ?_
  have nd := sc_law_equal_right.nd
  exact (ds_cons (ds_par3 (fun _ h => ps_par3 (i := 2) (j := 3) (l := 4) rfl nd rfl rfl rfl (by decide) (by decide) (by decide) rfl rfl rfl h (by rfl)) (da_cons (dg_makeZ Md.no o_make_Sheet quiet (room.mono (by decide)) (by rfl) (da_cons (de_var (pv 0)) da_nil)) (da_cons (dg_makeZ Md.no o_make_Sheet quiet (room.mono (by decide)) (by rfl) (da_cons (de_var (pv 1)) da_nil)) (da_cons (de_cmp (op_eqA room.units) ops_eq (dw_var (pv 0)) (dw_var (pv 1)) (nomark _)) da_nil))))
  (ds_cons (ds_setR (fun _ h => ps_set (i := 5) nd rfl (by first | exact Or.inl rfl | exact Or.inr rfl) h) (dr_E (de_lst (da_cons (de_cmpO (op_eqO quiet (room.mono (by decide))) (ops_eqO o_spec_eq) (de_var (pv 2)) (de_var (pv 3)) (nomark _)) (da_cons (de_cmpO (op_eqO quiet (room.mono (by decide))) (ops_eqO o_spec_eq) (de_var (pv 3)) (de_var (pv 2)) (nomark _)) (da_cons (de_cmpO (op_neO quiet (room.mono (by decide))) (ops_neO o_ne_eq) (de_var (pv 2)) (de_var (pv 3)) (nomark _)) (da_cons (de_cmpO (op_eqO quiet (room.mono (by decide))) (ops_eqO o_spec_eq) (de_var (pv 2)) (dg_makeZ Md.no o_make_Sheet quiet (room.mono (by decide)) (by rfl) (da_cons (de_var (pv 0)) da_nil)) (nomark _)) da_nil)))))))
  (ds_last (ds_ret (de_cmp (op_eqA room.units) ops_eq (dw (de_fnB (call_reprA quiet room.units) cs_repr (by rfl) m_repr (by decide +kernel) (daw_cons (dw_var (pv 5)) daw_nil))) (dw (de_fnB (call_reprA quiet room.units) cs_repr (by rfl) m_repr (by decide +kernel) (daw_cons (dw (de_lst (da_cons (de_var (pv 4)) (da_cons (de_var (pv 4)) (da_cons (de_not (de_var (pv 4))) (da_cons de_bl da_nil)))))) daw_nil))) (nomark _))))))
abbrev s_law : Stmt := topS 34
theorem sc_law : FnScope ["_law_script", "_law_deck_here", "_law_turn", "_law_word_here", "_law_beside", "_law_spot", "_law_sign", "_law_values", "_law_value", "_law_due", "_law_kept", "_law_sheet", "_law_other", "_law_told"] ["_law_script"] (defScope s_law) := ⟨rfl, rfl, rfl, by decide +kernel, rfl, by decide +kernel, by decide +kernel⟩
theorem fn_law {f : Addr} {fd : FuncData} (F : Fun K "law" "law" s_law f fd) (m_isinstance : mg "isinstance" = none) (m_len : mg "len" = none) (m_list : mg "list" = none) (m_range : mg "range" = none) (m_repr : mg "repr" = none) (m_str : mg "str" = none) (c_lawE_below : Cal P w K mg base L2.CX0 4 "_law_below" sp_lawE_below) (c_lawE_deck : Cal P w K mg base L2.CX0 1 "_law_deck" sp_lawE_deck) (c_lawE_draw : Cal P w K mg base L2.CX0 1 "_law_draw" sp_lawE_draw) (c_law_equal_right : Cal P w K mg base L2.CX0 6 "_law_equal_right" sp_law_equal_right) (c_law_letter : Cal P w K mg base L2.CX0 5 "_law_letter" sp_law_letter) (c_law_made : Cal P w K mg base L2.CX0 6 "_law_made" sp_law_made) (c_lawE_odd : Cal P w K mg base L2.CX0 2 "_law_odd" sp_lawE_odd) (c_lawE_one : Cal P w K mg base L2.CX0 2 "_law_one" sp_lawE_one) (c_law_short : Cal P w K mg base L2.CX0 1 "_law_short" sp_law_short) (c_lawE_whole : Cal P w K mg base L2.CX0 1 "_law_whole" sp_lawE_whole) (c_lawE_word : Cal P w K mg base L2.CX0 3 "_law_word" sp_lawE_word) (o_make_Sheet : KCal P w K mg base 4 "Sheet" (zIni "Sheet" dom_Sheet mk_Sheet)) (o_ne_eq : ∀ p ∈ ([("Sheet", sp_Sheet_eq)] : List (Str × DSp)), NCal P w K mg base 1 p.1 p.2) (o_prop_text : ∀ p ∈ ([("Sheet", sp_Sheet_text)] : List (Str × DSp)), PCal P w K mg base 1 "text" p.1 p.2) (o_rfl_eq : ∀ p ∈ ([("Sheet", sp_Sheet_eq)] : List (Str × DSp)), RCal P w K mg base 1 p.1 p.2) (o_spec_eq : ∀ p ∈ ([("Sheet", sp_Sheet_eq)] : List (Str × DSp)), DCal P w K mg base 1 "__eq__" p.1 p.2) (o_spec_str : ∀ p ∈ ([("Sheet", sp_Sheet_str)] : List (Str × DSp)), DCal P w K mg base 1 "__str__" p.1 p.2) (itab : ITabOk K mg itab_law) : FnG P w K mg base L2.CX0 7 f fd ["_law_script"] (liftP K mg sp_law) := by
  refine FnG.ofD (k := 6) F sc_law len_law b_law ok_law fun cdv A outer s H E B quiet room => ?_
  have nd := sc_law.nd
  exact (ds_cons (ds_setR (fun _ h => ps_set (i := 1) nd rfl (by first | exact Or.inl rfl | exact Or.inr rfl) h) (dr_E (de_call c_lawE_deck quiet (room.mono (by decide)) (by rfl) (da_cons (de_var (pv 0)) da_nil))))
  (ds_cons (ds_for PassesOwn.never rfl (di_rng1 (by rfl) m_range (da_cons de_int da_nil)) (dg_name (pg_name (i := 2) nd rfl (by first | exact Or.inl rfl | exact Or.inr rfl)))
  (ds_cons (ds_par2 (by decide) (fun _ h => ps_par (i := 3) (j := 4) rfl nd rfl rfl (by decide) rfl rfl h (by rfl)) (dr_E (de_call c_lawE_word quiet (room.mono (by decide)) (by rfl) (da_cons (de_var (pv 1)) (da_cons (de_ix (dw (de_lst (da_cons de_int (da_cons de_int da_nil)))) (dw (de_op op_mod ops_mod (dw_var (pv 2)) (dw de_int))) (fun _ _ => rfl)) da_nil)))) (dr_E (de_call c_lawE_word quiet (room.mono (by decide)) (by rfl) (da_cons (de_var (pv 1)) (da_cons de_int da_nil)))))
  (ds_cons (ds_par2 (by decide) (fun _ h => ps_par (i := 5) (j := 6) rfl nd rfl rfl (by decide) rfl rfl h (by rfl)) (dr_E (de_call c_lawE_draw quiet (room.mono (by decide)) (by rfl) (da_cons (de_var (pv 1)) (da_cons (de_op op_addA ops_add (dw (de_fnB call_lenA cs_len (by rfl) m_len (by decide +kernel) (daw_cons (dw_var (pv 3)) daw_nil))) (dw de_int)) da_nil)))) (dr_E (de_call c_lawE_one quiet (room.mono (by decide)) (by rfl) (da_cons (de_var (pv 1)) (da_cons (de_lst (da_cons (de_str [65]) (da_cons (de_str [32]) (da_cons (de_str [45]) (da_cons (de_str [48]) (da_cons (de_str [10]) (da_cons (de_str [97]) (da_cons (de_str []) da_nil)))))))) da_nil)))))
  (ds_cons (ds_setR (fun _ h => ps_set (i := 7) nd rfl (by first | exact Or.inl rfl | exact Or.inr rfl) h) (dr_E (de_lst (da_cons (de_var (pv 3)) (da_cons (de_op op_addA ops_add (dw (de_op op_addA ops_add (dw (de_slice (dw_var (pv 3)) do_none (do_some (de_var (pv 5))))) (dw_var (pv 6)))) (dw (de_slice (dw_var (pv 3)) (do_some (de_var (pv 5))) do_none))) (da_cons (de_mt0 PySem.F.plainAttrs_str PySem.F.slot_str_upper PySem.F.type_str_upper mt_upper ms_upper (dw_var (pv 3))) (da_cons (de_slice (dw (de_op op_addA ops_add (dw_var (pv 3)) (dw (de_op op_mulA ops_mul (dw (de_str [97])) (dw de_int))))) do_none (do_some de_int)) (da_cons (de_lst (da_cons (de_var (pv 3)) da_nil)) (da_cons (de_tup (da_cons (de_var (pv 3)) da_nil)) da_nil)))))))))
  (ds_cons (ds_for PassesOwn.never rfl (di_each (de_op op_addA ops_add (dw_var (pv 7)) (dw (de_lst (da_cons (de_str []) (da_cons (de_op op_mulA ops_mul (dw (de_str [97])) (dw de_int)) (da_cons (de_op op_mulA ops_mul (dw (de_str [97])) (dw de_int)) (da_cons de_non (da_cons (de_call c_lawE_odd quiet (room.mono (by decide)) (by rfl) (da_cons (de_var (pv 1)) da_nil)) (da_cons (de_call c_lawE_odd quiet (room.mono (by decide)) (by rfl) (da_cons (de_var (pv 1)) da_nil)) da_nil)))))))))) (dg_name (pg_name (i := 8) nd rfl (by first | exact Or.inl rfl | exact Or.inr rfl)))
  (ds_cons (ds_setR (fun _ h => ps_set (i := 9) nd rfl (by first | exact Or.inl rfl | exact Or.inr rfl) h) (dr_E (de_lst (da_cons (de_var (pv 8)) (da_cons de_bl da_nil)))))
  (ds_cons (ds_if (dt_val (de_call c_law_short quiet (room.mono (by decide)) (by rfl) (da_cons (de_var (pv 8)) da_nil)))
  (ds_last (ds_setR (fun _ h => ps_set (i := 9) nd rfl (by first | exact Or.inl rfl | exact Or.inr rfl) h) (dr_E (de_tup (da_cons (de_var (pv 8)) (da_cons (de_fnB call_lenA cs_len (by rfl) m_len (by decide +kernel) (daw_cons (dw_var (pv 8)) daw_nil)) (da_cons (de_cmp (op_neA room.units) ops_ne (dw_var (pv 8)) (dw (de_str [])) (nomark _)) (da_cons (de_op op_addA ops_add (dw (de_op op_addA ops_add (dw (de_str [34])) (dw_var (pv 8)))) (dw (de_str [34]))) da_nil))))))))
  ds_nil)
  (ds_cons (ds_setR (fun _ h => ps_set (i := 10) nd rfl (by first | exact Or.inl rfl | exact Or.inr rfl) h) (dr_E (de_fnB (call_reprO quiet room.units) cs_reprO (by rfl) m_repr (by decide +kernel) (daw_cons (dw_var (pv 8)) daw_nil))))
  (ds_last (ds_if (DPW.dt (dpw_or (dt_cmp (op_neA room.units) ops_ne (dw (de_fnB (call_reprO quiet room.units) cs_reprO (by rfl) m_repr (by decide +kernel) (daw_cons (dw (de_lst (da_cons (de_call c_law_made quiet (room.mono (by decide)) (by rfl) (da_cons (de_var (pv 8)) da_nil)) (da_cons (de_call c_law_made quiet (room.mono (by decide)) (by rfl) (da_cons (de_var (pv 8)) da_nil)) da_nil)))) daw_nil))) (dw (de_fnB (call_reprO quiet room.units) cs_reprO (by rfl) m_repr (by decide +kernel) (daw_cons (dw (de_lst (da_cons (de_var (pv 9)) (da_cons (de_var (pv 9)) da_nil)))) daw_nil))) (nomark _)) (dpw_or1 (dt_cmp (op_neA room.units) ops_ne (dw (de_fnB (call_reprO quiet room.units) cs_reprO (by rfl) m_repr (by decide +kernel) (daw_cons (dw_var (pv 8)) daw_nil))) (dw_var (pv 10)) (nomark _)))))
  (ds_last (ds_ret de_bl))
  ds_nil))))))
  (ds_cons (ds_setR (fun _ h => ps_set (i := 11) nd rfl (by first | exact Or.inl rfl | exact Or.inr rfl) h) (dr_E (dg_makeZ Md.no o_make_Sheet quiet (room.mono (by decide)) (by rfl) (da_cons (de_var (pv 3)) da_nil))))
  (ds_cons (ds_for PassesOwn.never rfl (di_each (de_op op_addA ops_add (dw (de_F (df_lrng rfl (by rfl) m_list (by rfl) m_range (dw de_int)))) (dw (de_lst (da_cons (de_neg de_int) (da_cons de_bl (da_cons de_bl (da_cons de_non (da_cons (de_str [48]) (da_cons (de_tup (da_cons de_int da_nil)) (da_cons (de_lst (da_cons de_int da_nil)) (da_cons (de_op op_pow ops_pow (dw de_int) (dw de_int)) (da_cons (de_call c_lawE_odd quiet (room.mono (by decide)) (by rfl) (da_cons (de_var (pv 1)) da_nil)) da_nil))))))))))))) (dg_name (pg_name (i := 8) nd rfl (by first | exact Or.inl rfl | exact Or.inr rfl)))
  (ds_cons (ds_setR (fun _ h => ps_set (i := 9) nd rfl (by first | exact Or.inl rfl | exact Or.inr rfl) h) (dr_E (de_if (dt_val (de_call c_lawE_whole quiet (room.mono (by decide)) (by rfl) (da_cons (de_var (pv 8)) (da_cons de_int (da_cons (de_op op_sub ops_sub (dw (de_fnB call_lenA cs_len (by rfl) m_len (by decide +kernel) (daw_cons (dw_var (pv 3)) daw_nil))) (dw de_int)) da_nil))))) (de_ix (dw_var (pv 3)) (dw_var (pv 8)) (fun _ _ => rfl)) (de_lst (da_cons (de_var (pv 8)) (da_cons de_bl da_nil))))))
  (ds_last (ds_if (dt_cmp (op_neA room.units) ops_ne (dw (de_fnB (call_reprO quiet room.units) cs_reprO (by rfl) m_repr (by decide +kernel) (daw_cons (dw (de_call c_law_letter quiet (room.mono (by decide)) (by rfl) (da_cons (de_var (pv 11)) (da_cons (de_var (pv 8)) da_nil)))) daw_nil))) (dw (de_fnB (call_reprO quiet room.units) cs_reprO (by rfl) m_repr (by decide +kernel) (daw_cons (dw_var (pv 9)) daw_nil))) (nomark _))
  (ds_last (ds_ret de_bl))
  ds_nil))))
  (ds_cons (ds_for PassesOwn.never rfl (di_each (de_lst (da_cons (de_var (pv 3)) (da_cons (de_var (pv 4)) (da_cons (de_rev (dw_var (pv 3))) (da_cons (de_slice (dw_var (pv 3)) do_none (do_some (de_neg de_int))) (da_cons (de_call c_lawE_below quiet (room.mono (by decide)) (by rfl) (da_cons (de_var (pv 1)) (da_cons (de_var (pv 3)) (da_cons de_int da_nil)))) da_nil))))))) (dg_name (pg_name (i := 12) nd rfl (by first | exact Or.inl rfl | exact Or.inr rfl)))
  (ds_last (ds_if (dt_not (dt_val (de_call c_law_equal_right quiet (room.mono (by decide)) (by rfl) (da_cons (de_var (pv 3)) (da_cons (de_var (pv 12)) da_nil)))))
  (ds_last (ds_ret de_bl))
  ds_nil)))
  (ds_cons (ds_for PassesOwn.never rfl (di_each (de_lst (da_cons (de_var (pv 3)) (da_cons (de_tup (da_cons (de_var (pv 3)) da_nil)) (da_cons (de_lst (da_cons (de_var (pv 3)) da_nil)) (da_cons (de_fnB call_lenA cs_len (by rfl) m_len (by decide +kernel) (daw_cons (dw_var (pv 3)) daw_nil)) (da_cons de_non (da_cons (de_fnT (call_strO quiet (room.mono (by decide))) (cs_strO o_spec_str) (by rfl) m_str (by decide +kernel) (daw_cons (dw_var (pv 11)) daw_nil)) (da_cons (de_lst (da_cons (de_var (pv 11)) da_nil)) (da_cons (de_call c_lawE_odd quiet (room.mono (by decide)) (by rfl) (da_cons (de_var (pv 1)) da_nil)) da_nil)))))))))) (dg_name (pg_name (i := 8) nd rfl (by first | exact Or.inl rfl | exact Or.inr rfl)))
  (ds_last (ds_if (dt_cmp (op_neA room.units) ops_ne (dw (de_fnB (call_reprO quiet room.units) cs_reprO (by rfl) m_repr (by decide +kernel) (daw_cons (dw (de_lst (da_cons (de_cmpO (op_eqO quiet (room.mono (by decide))) (ops_eqO o_spec_eq) (de_var (pv 11)) (de_var (pv 8)) (nomark _)) (da_cons (de_cmpO (op_eqR quiet (room.mono (by decide))) (ops_eqR o_rfl_eq) (de_var (pv 8)) (de_var (pv 11)) (nomark _)) (da_cons (de_cmpO (op_neO quiet (room.mono (by decide))) (ops_neO o_ne_eq) (de_var (pv 11)) (de_var (pv 8)) (nomark _)) da_nil))))) daw_nil))) (dw (de_fnB (call_reprO quiet room.units) cs_reprO (by rfl) m_repr (by decide +kernel) (daw_cons (dw (de_lst (da_cons de_bl (da_cons de_bl (da_cons de_bl da_nil))))) daw_nil))) (nomark _))
  (ds_last (ds_ret de_bl))
  ds_nil)))
  (ds_cons (ds_setR (fun _ h => ps_set (i := 13) nd rfl (by first | exact Or.inl rfl | exact Or.inr rfl) h) (dr_E (de_call c_law_made quiet (room.mono (by decide)) (by rfl) (da_cons (de_var (pv 11)) da_nil))))
  (ds_last (ds_if (DPW.dt (dpw_or (dt_cmp (op_neA room.units) ops_ne (dw (dg_prop Md.no o_prop_text quiet (room.mono (by decide)) (de_var (pv 11)))) (dw_var (pv 3)) (nomark _)) (dpw_or (dt_not (dt_val (de_fnB call_isi (cs_isiO itab) (by rfl) m_isinstance (by decide +kernel) (daw_cons (dw_var (pv 13)) (daw_cons (dw (de_tyN (by rfl) m_list (by decide +kernel))) daw_nil))))) (dpw_or (dt_not (dt_cmpO (op_eqO quiet (room.mono (by decide))) (ops_eqO o_spec_eq) (de_ix (dw_var (pv 13)) (dw de_int) (fun _ _ => rfl)) (de_var (pv 11)) (nomark _))) (dpw_or1 (dt_cmp L2.op_notBl ops_notB (dw (de_ix (dw_var (pv 13)) (dw de_int) (fun _ _ => rfl))) (dw de_bl) (nomark _)))))))
  (ds_last (ds_ret de_bl))
  ds_nil))))))))))))
  (ds_last (ds_ret de_bl))))
end
theorem all_mk {P : Program} {w : World} {K : PySem.W.Frag} {h : Heap} {mg : Str → Option Value} {fa : Addr} (X : K.In h) (G : h.Ns mainGlobals mg) (hfa : mg "law" = some (.ref fa))
    {A_Sheet : Addr}
    {f0 : Addr} {od0 an0 : Option Addr} {sl0 : Array (Option Value)} {oc0 kV0 dc0 pm0 cd0 ct0 : Value}
    {f1 : Addr} {od1 an1 : Option Addr} {sl1 : Array (Option Value)} {oc1 kV1 dc1 pm1 cd1 ct1 : Value}
    {f2 : Addr} {od2 an2 : Option Addr} {sl2 : Array (Option Value)} {oc2 kV2 dc2 pm2 cd2 ct2 : Value}
    {f3 : Addr} {od3 an3 : Option Addr} {sl3 : Array (Option Value)} {oc3 kV3 dc3 pm3 cd3 ct3 : Value}
    {f4 : Addr} {od4 an4 : Option Addr} {sl4 : Array (Option Value)} {oc4 kV4 dc4 pm4 cd4 ct4 : Value}
    {f5 : Addr} {od5 an5 : Option Addr} {sl5 : Array (Option Value)} {oc5 kV5 dc5 pm5 cd5 ct5 : Value}
    {f6 : Addr} {od6 an6 : Option Addr} {sl6 : Array (Option Value)} {oc6 kV6 dc6 pm6 cd6 ct6 : Value}
    {f7 : Addr} {od7 an7 : Option Addr} {sl7 : Array (Option Value)} {oc7 kV7 dc7 pm7 cd7 ct7 : Value}
    {pr7 : Addr} {ps7 : List Value}
    {f8 : Addr} {od8 an8 : Option Addr} {sl8 : Array (Option Value)} {oc8 kV8 dc8 pm8 cd8 ct8 : Value}
    {f9 : Addr} {od9 an9 : Option Addr} {sl9 : Array (Option Value)} {oc9 kV9 dc9 pm9 cd9 ct9 : Value}
    {f10 : Addr} {od10 an10 : Option Addr} {sl10 : Array (Option Value)} {oc10 kV10 dc10 pm10 cd10 ct10 : Value}
    {f11 : Addr} {od11 an11 : Option Addr} {sl11 : Array (Option Value)} {oc11 kV11 dc11 pm11 cd11 ct11 : Value}
    {f12 : Addr} {od12 an12 : Option Addr} {sl12 : Array (Option Value)} {oc12 kV12 dc12 pm12 cd12 ct12 : Value}
    {f13 : Addr} {od13 an13 : Option Addr} {sl13 : Array (Option Value)} {oc13 kV13 dc13 pm13 cd13 ct13 : Value}
    {f14 : Addr} {od14 an14 : Option Addr} {sl14 : Array (Option Value)} {oc14 kV14 dc14 pm14 cd14 ct14 : Value}
    {f15 : Addr} {od15 an15 : Option Addr} {sl15 : Array (Option Value)} {oc15 kV15 dc15 pm15 cd15 ct15 : Value}
    {f16 : Addr} {od16 an16 : Option Addr} {sl16 : Array (Option Value)} {oc16 kV16 dc16 pm16 cd16 ct16 : Value}
    {f17 : Addr} {od17 an17 : Option Addr} {sl17 : Array (Option Value)} {oc17 kV17 dc17 pm17 cd17 ct17 : Value}
    {f18 : Addr} {od18 an18 : Option Addr} {sl18 : Array (Option Value)} {oc18 kV18 dc18 pm18 cd18 ct18 : Value}
    {f19 : Addr} {od19 an19 : Option Addr} {sl19 : Array (Option Value)} {oc19 kV19 dc19 pm19 cd19 ct19 : Value}
    {f20 : Addr} {od20 an20 : Option Addr} {sl20 : Array (Option Value)} {oc20 kV20 dc20 pm20 cd20 ct20 : Value}
    {f21 : Addr} {od21 an21 : Option Addr} {sl21 : Array (Option Value)} {oc21 kV21 dc21 pm21 cd21 ct21 : Value}
    {f22 : Addr} {od22 an22 : Option Addr} {sl22 : Array (Option Value)} {oc22 kV22 dc22 pm22 cd22 ct22 : Value}
    {f23 : Addr} {od23 an23 : Option Addr} {sl23 : Array (Option Value)} {oc23 kV23 dc23 pm23 cd23 ct23 : Value}
    {f24 : Addr} {od24 an24 : Option Addr} {sl24 : Array (Option Value)} {oc24 kV24 dc24 pm24 cd24 ct24 : Value}
    {t_LETTERS : Tok}
    {t_MAX_WORD : Tok}
    {A_BadLetter : Addr}
    {A_BadNumber : Addr}
    {A_BadOrder : Addr}
    {A_BadWord : Addr}
    {A_NoIndex : Addr}
    {A_NoPlace : Addr}
    {A_NoSheet : Addr}
    {A_PadError : Addr}
    {A_TooLong : Addr}
    {I_BadWord : Addr} {xod_BadWord xan_BadWord : Option Addr} {xsl_BadWord : Array (Option Value)} {xoc_BadWord xdc_BadWord xpm_BadWord xcd_BadWord xct_BadWord : Value} {xp1_BadWord xp2_BadWord xq1_BadWord xq2_BadWord xq3_BadWord xq4_BadWord : Pos}
    {I_NoPlace : Addr} {xod_NoPlace xan_NoPlace : Option Addr} {xsl_NoPlace : Array (Option Value)} {xoc_NoPlace xdc_NoPlace xpm_NoPlace xcd_NoPlace xct_NoPlace : Value} {xp1_NoPlace xp2_NoPlace xq1_NoPlace xq2_NoPlace xq3_NoPlace xq4_NoPlace : Pos}
    (oa_Sheet : PySem.W.nsIn K mainGlobals "Sheet" = some (some (.ref A_Sheet)))
    (od_Sheet : PySem.W.plainGet K A_Sheet Str.empty = true)
    (oh_Sheet : PySem.W.hasDictIn K A_Sheet = true)
    (oo_Sheet : PySem.W.plainOver K A_Sheet = true)
    (os_Sheet : PySem.W.findIn K (.ref A_Sheet) "__setattr__" = some (some (.builtin "object.__setattr__")))
    (om_Sheet : PySem.W.makesIn K A_Sheet = true)
    (ok_Sheet : PySem.W.keepIn K (.ref A_Sheet) = true)
    (of_Sheet : PySem.W.selfFirst K A_Sheet = true)
    (on_Sheet : PySem.W.noSeq K A_Sheet = true)
    (ox_Sheet : PySem.W.findIn K (.ref A_Sheet) "__class__" = some (some (.builtin "object.__class__")))
    (or_Sheet : PySem.W.mroIn K A_Sheet (.type "object") = some true)
    (oty_Sheet : PySem.W.typeIn K (.ref A_Sheet) = some (.type "type"))
    (oz_Sheet : PySem.W.subIn K (.ref A_Sheet) (.ref A_Sheet) = some true)
    (obNoneType_Sheet : PySem.W.subIn K (.ref A_Sheet) (.type "NoneType") = some false)
    (obbool_Sheet : PySem.W.subIn K (.ref A_Sheet) (.type "bool") = some false)
    (obint_Sheet : PySem.W.subIn K (.ref A_Sheet) (.type "int") = some false)
    (obstr_Sheet : PySem.W.subIn K (.ref A_Sheet) (.type "str") = some false)
    (oblist_Sheet : PySem.W.subIn K (.ref A_Sheet) (.type "list") = some false)
    (obtuple_Sheet : PySem.W.subIn K (.ref A_Sheet) (.type "tuple") = some false)
    (obdict_Sheet : PySem.W.subIn K (.ref A_Sheet) (.type "dict") = some false)
    (oe_Sheet : PySem.W.findIn K (.ref A_Sheet) "__ne__" = some (some (.builtin "object.__ne__")))
    (oj_Sheet : PySem.W.subIn K (.ref A_Sheet) (.type "object") = some true)
    (ofletters_Sheet : PySem.W.findIn K (.ref A_Sheet) "letters" = some none)
    (a0 : PySem.W.nsIn K mainGlobals "is_between" = some (some (.ref f0))) (l0 : K.lookup f0 = some ⟨oc0, od0, .func (PySem.W.fnOf "is_between" "is_between" (defArgs s_is_between) (defBody s_is_between) (defScope s_is_between) .none kV0 dc0 pm0 an0 cd0 ct0), sl0⟩) (c0 : PySem.W.codeIn K cd0 "is_between" = true) (k0 : PySem.W.keepIn K (.ref f0) = true)
    (a1 : PySem.W.nsIn K mainGlobals "is_letter" = some (some (.ref f1))) (l1 : K.lookup f1 = some ⟨oc1, od1, .func (PySem.W.fnOf "is_letter" "is_letter" (defArgs s_is_letter) (defBody s_is_letter) (defScope s_is_letter) .none kV1 dc1 pm1 an1 cd1 ct1), sl1⟩) (c1 : PySem.W.codeIn K cd1 "is_letter" = true) (k1 : PySem.W.keepIn K (.ref f1) = true)
    (a2 : PySem.W.nsIn K mainGlobals "is_word" = some (some (.ref f2))) (l2 : K.lookup f2 = some ⟨oc2, od2, .func (PySem.W.fnOf "is_word" "is_word" (defArgs s_vis_word) (defBody s_vis_word) (defScope s_vis_word) .none kV2 dc2 pm2 an2 cd2 ct2), sl2⟩) (c2 : PySem.W.codeIn K cd2 "is_word" = true) (k2 : PySem.W.keepIn K (.ref f2) = true)
    (a3 : PySem.W.nsIn K mainGlobals "first_pick" = some (some (.ref f3))) (l3 : K.lookup f3 = some ⟨oc3, od3, .func (PySem.W.fnOf "first_pick" "first_pick" (defArgs s_first_pick) (defBody s_first_pick) (defScope s_first_pick) .none kV3 dc3 pm3 an3 cd3 ct3), sl3⟩) (c3 : PySem.W.codeIn K cd3 "first_pick" = true) (k3 : PySem.W.keepIn K (.ref f3) = true)
    (a4 : PySem.W.nsIn K mainGlobals "count_picked" = some (some (.ref f4))) (l4 : K.lookup f4 = some ⟨oc4, od4, .func (PySem.W.fnOf "count_picked" "count_picked" (defArgs s_count_picked) (defBody s_count_picked) (defScope s_count_picked) .none kV4 dc4 pm4 an4 cd4 ct4), sl4⟩) (c4 : PySem.W.codeIn K cd4 "count_picked" = true) (k4 : PySem.W.keepIn K (.ref f4) = true)
    (a5 : PySem.W.nsIn K mainGlobals "price" = some (some (.ref f5))) (l5 : K.lookup f5 = some ⟨oc5, od5, .func (PySem.W.fnOf "price" "price" (defArgs s_price) (defBody s_price) (defScope s_price) .none kV5 dc5 pm5 an5 cd5 ct5), sl5⟩) (c5 : PySem.W.codeIn K cd5 "price" = true) (k5 : PySem.W.keepIn K (.ref f5) = true)
    (a6 : PySem.W.findIn K (.ref A_Sheet) "__init__" = some (some (.ref f6))) (i6 : PySem.W.isFn K (.ref f6) = true) (n6 : PySem.W.fnIn K f6 = true)
    (l6 : K.lookup f6 = some ⟨oc6, od6, .func (PySem.W.fnOf "__init__" "Sheet.__init__" (defArgs s_Sheet_init) (defBody s_Sheet_init) (defScope s_Sheet_init) .none kV6 dc6 pm6 an6 cd6 ct6), sl6⟩) (c6 : PySem.W.codeIn K cd6 "Sheet.__init__" = true) (k6 : PySem.W.keepIn K (.ref f6) = true)
    (a7 : PySem.W.findIn K (.ref A_Sheet) "text" = some (some (.ref pr7))) (pg7 : PySem.W.specialIn K (.ref pr7) "__get__" = some (some (.builtin "property.__get__"))) (pt7 : PySem.W.takesIn K (.ref pr7) = some true) (pv7 : PySem.W.recIn K pr7 "property" = some (.ref f7 :: ps7))
    (l7 : K.lookup f7 = some ⟨oc7, od7, .func (PySem.W.fnOf "text" "Sheet.text" (defArgs s_Sheet_text) (defBody s_Sheet_text) (defScope s_Sheet_text) .none kV7 dc7 pm7 an7 cd7 ct7), sl7⟩) (c7 : PySem.W.codeIn K cd7 "Sheet.text" = true) (k7 : PySem.W.keepIn K (.ref f7) = true)
    (a8 : PySem.W.findIn K (.ref A_Sheet) "__getitem__" = some (some (.ref f8))) (i8 : PySem.W.isFn K (.ref f8) = true) (n8 : PySem.W.fnIn K f8 = true)
    (l8 : K.lookup f8 = some ⟨oc8, od8, .func (PySem.W.fnOf "__getitem__" "Sheet.__getitem__" (defArgs s_Sheet_getitem) (defBody s_Sheet_getitem) (defScope s_Sheet_getitem) .none kV8 dc8 pm8 an8 cd8 ct8), sl8⟩) (c8 : PySem.W.codeIn K cd8 "Sheet.__getitem__" = true) (k8 : PySem.W.keepIn K (.ref f8) = true)
    (a9 : PySem.W.findIn K (.ref A_Sheet) "__len__" = some (some (.ref f9))) (i9 : PySem.W.isFn K (.ref f9) = true) (n9 : PySem.W.fnIn K f9 = true)
    (l9 : K.lookup f9 = some ⟨oc9, od9, .func (PySem.W.fnOf "__len__" "Sheet.__len__" (defArgs s_Sheet_len) (defBody s_Sheet_len) (defScope s_Sheet_len) .none kV9 dc9 pm9 an9 cd9 ct9), sl9⟩) (c9 : PySem.W.codeIn K cd9 "Sheet.__len__" = true) (k9 : PySem.W.keepIn K (.ref f9) = true)
    (a10 : PySem.W.findIn K (.ref A_Sheet) "__bool__" = some (some (.ref f10))) (i10 : PySem.W.isFn K (.ref f10) = true) (n10 : PySem.W.fnIn K f10 = true)
    (l10 : K.lookup f10 = some ⟨oc10, od10, .func (PySem.W.fnOf "__bool__" "Sheet.__bool__" (defArgs s_Sheet_bool) (defBody s_Sheet_bool) (defScope s_Sheet_bool) .none kV10 dc10 pm10 an10 cd10 ct10), sl10⟩) (c10 : PySem.W.codeIn K cd10 "Sheet.__bool__" = true) (k10 : PySem.W.keepIn K (.ref f10) = true)
    (a11 : PySem.W.findIn K (.ref A_Sheet) "__eq__" = some (some (.ref f11))) (i11 : PySem.W.isFn K (.ref f11) = true) (n11 : PySem.W.fnIn K f11 = true)
    (l11 : K.lookup f11 = some ⟨oc11, od11, .func (PySem.W.fnOf "__eq__" "Sheet.__eq__" (defArgs s_Sheet_eq) (defBody s_Sheet_eq) (defScope s_Sheet_eq) .none kV11 dc11 pm11 an11 cd11 ct11), sl11⟩) (c11 : PySem.W.codeIn K cd11 "Sheet.__eq__" = true) (k11 : PySem.W.keepIn K (.ref f11) = true)
    (a12 : PySem.W.findIn K (.ref A_Sheet) "__str__" = some (some (.ref f12))) (i12 : PySem.W.isFn K (.ref f12) = true) (n12 : PySem.W.fnIn K f12 = true)
    (l12 : K.lookup f12 = some ⟨oc12, od12, .func (PySem.W.fnOf "__str__" "Sheet.__str__" (defArgs s_Sheet_str) (defBody s_Sheet_str) (defScope s_Sheet_str) .none kV12 dc12 pm12 an12 cd12 ct12), sl12⟩) (c12 : PySem.W.codeIn K cd12 "Sheet.__str__" = true) (k12 : PySem.W.keepIn K (.ref f12) = true)
    (a13 : PySem.W.nsIn K mainGlobals "_law_deck" = some (some (.ref f13))) (l13 : K.lookup f13 = some ⟨oc13, od13, .func (PySem.W.fnOf "_law_deck" "_law_deck" (defArgs s_lawE_deck) (defBody s_lawE_deck) (defScope s_lawE_deck) .none kV13 dc13 pm13 an13 cd13 ct13), sl13⟩) (c13 : PySem.W.codeIn K cd13 "_law_deck" = true) (k13 : PySem.W.keepIn K (.ref f13) = true)
    (a14 : PySem.W.nsIn K mainGlobals "_law_draw" = some (some (.ref f14))) (l14 : K.lookup f14 = some ⟨oc14, od14, .func (PySem.W.fnOf "_law_draw" "_law_draw" (defArgs s_lawE_draw) (defBody s_lawE_draw) (defScope s_lawE_draw) .none kV14 dc14 pm14 an14 cd14 ct14), sl14⟩) (c14 : PySem.W.codeIn K cd14 "_law_draw" = true) (k14 : PySem.W.keepIn K (.ref f14) = true)
    (a15 : PySem.W.nsIn K mainGlobals "_law_one" = some (some (.ref f15))) (l15 : K.lookup f15 = some ⟨oc15, od15, .func (PySem.W.fnOf "_law_one" "_law_one" (defArgs s_lawE_one) (defBody s_lawE_one) (defScope s_lawE_one) .none kV15 dc15 pm15 an15 cd15 ct15), sl15⟩) (c15 : PySem.W.codeIn K cd15 "_law_one" = true) (k15 : PySem.W.keepIn K (.ref f15) = true)
    (a16 : PySem.W.nsIn K mainGlobals "_law_word" = some (some (.ref f16))) (l16 : K.lookup f16 = some ⟨oc16, od16, .func (PySem.W.fnOf "_law_word" "_law_word" (defArgs s_lawE_word) (defBody s_lawE_word) (defScope s_lawE_word) .none kV16 dc16 pm16 an16 cd16 ct16), sl16⟩) (c16 : PySem.W.codeIn K cd16 "_law_word" = true) (k16 : PySem.W.keepIn K (.ref f16) = true)
    (a17 : PySem.W.nsIn K mainGlobals "_law_below" = some (some (.ref f17))) (l17 : K.lookup f17 = some ⟨oc17, od17, .func (PySem.W.fnOf "_law_below" "_law_below" (defArgs s_lawE_below) (defBody s_lawE_below) (defScope s_lawE_below) .none kV17 dc17 pm17 an17 cd17 ct17), sl17⟩) (c17 : PySem.W.codeIn K cd17 "_law_below" = true) (k17 : PySem.W.keepIn K (.ref f17) = true)
    (a18 : PySem.W.nsIn K mainGlobals "_law_odd" = some (some (.ref f18))) (l18 : K.lookup f18 = some ⟨oc18, od18, .func (PySem.W.fnOf "_law_odd" "_law_odd" (defArgs s_lawE_odd) (defBody s_lawE_odd) (defScope s_lawE_odd) .none kV18 dc18 pm18 an18 cd18 ct18), sl18⟩) (c18 : PySem.W.codeIn K cd18 "_law_odd" = true) (k18 : PySem.W.keepIn K (.ref f18) = true)
    (a19 : PySem.W.nsIn K mainGlobals "_law_whole" = some (some (.ref f19))) (l19 : K.lookup f19 = some ⟨oc19, od19, .func (PySem.W.fnOf "_law_whole" "_law_whole" (defArgs s_lawE_whole) (defBody s_lawE_whole) (defScope s_lawE_whole) .none kV19 dc19 pm19 an19 cd19 ct19), sl19⟩) (c19 : PySem.W.codeIn K cd19 "_law_whole" = true) (k19 : PySem.W.keepIn K (.ref f19) = true)
    (a20 : PySem.W.nsIn K mainGlobals "_law_short" = some (some (.ref f20))) (l20 : K.lookup f20 = some ⟨oc20, od20, .func (PySem.W.fnOf "_law_short" "_law_short" (defArgs s_law_short) (defBody s_law_short) (defScope s_law_short) .none kV20 dc20 pm20 an20 cd20 ct20), sl20⟩) (c20 : PySem.W.codeIn K cd20 "_law_short" = true) (k20 : PySem.W.keepIn K (.ref f20) = true)
    (a21 : PySem.W.nsIn K mainGlobals "_law_made" = some (some (.ref f21))) (l21 : K.lookup f21 = some ⟨oc21, od21, .func (PySem.W.fnOf "_law_made" "_law_made" (defArgs s_law_made) (defBody s_law_made) (defScope s_law_made) .none kV21 dc21 pm21 an21 cd21 ct21), sl21⟩) (c21 : PySem.W.codeIn K cd21 "_law_made" = true) (k21 : PySem.W.keepIn K (.ref f21) = true)
    (a22 : PySem.W.nsIn K mainGlobals "_law_letter" = some (some (.ref f22))) (l22 : K.lookup f22 = some ⟨oc22, od22, .func (PySem.W.fnOf "_law_letter" "_law_letter" (defArgs s_law_letter) (defBody s_law_letter) (defScope s_law_letter) .none kV22 dc22 pm22 an22 cd22 ct22), sl22⟩) (c22 : PySem.W.codeIn K cd22 "_law_letter" = true) (k22 : PySem.W.keepIn K (.ref f22) = true)
    (a23 : PySem.W.nsIn K mainGlobals "_law_equal_right" = some (some (.ref f23))) (l23 : K.lookup f23 = some ⟨oc23, od23, .func (PySem.W.fnOf "_law_equal_right" "_law_equal_right" (defArgs s_law_equal_right) (defBody s_law_equal_right) (defScope s_law_equal_right) .none kV23 dc23 pm23 an23 cd23 ct23), sl23⟩) (c23 : PySem.W.codeIn K cd23 "_law_equal_right" = true) (k23 : PySem.W.keepIn K (.ref f23) = true)
    (a24 : PySem.W.nsIn K mainGlobals "law" = some (some (.ref f24))) (l24 : K.lookup f24 = some ⟨oc24, od24, .func (PySem.W.fnOf "law" "law" (defArgs s_law) (defBody s_law) (defScope s_law) .none kV24 dc24 pm24 an24 cd24 ct24), sl24⟩) (c24 : PySem.W.codeIn K cd24 "law" = true) (k24 : PySem.W.keepIn K (.ref f24) = true)
    (z_LookupError : PySem.W.nsIn K mainGlobals "LookupError" = some none)
    (z_ValueError : PySem.W.nsIn K mainGlobals "ValueError" = some none)
    (z_abs : PySem.W.nsIn K mainGlobals "abs" = some none)
    (z_all : PySem.W.nsIn K mainGlobals "all" = some none)
    (z_bool : PySem.W.nsIn K mainGlobals "bool" = some none)
    (z_int : PySem.W.nsIn K mainGlobals "int" = some none)
    (z_isinstance : PySem.W.nsIn K mainGlobals "isinstance" = some none)
    (z_len : PySem.W.nsIn K mainGlobals "len" = some none)
    (z_list : PySem.W.nsIn K mainGlobals "list" = some none)
    (z_range : PySem.W.nsIn K mainGlobals "range" = some none)
    (z_repr : PySem.W.nsIn K mainGlobals "repr" = some none)
    (z_str : PySem.W.nsIn K mainGlobals "str" = some none)
    (z_tuple : PySem.W.nsIn K mainGlobals "tuple" = some none)
    (y_LETTERS : PySem.W.nsIn K mainGlobals "LETTERS" = some (some (.str "abcdefghijklmnopqrstuvwxyz" t_LETTERS)))
    (y_MAX_WORD : PySem.W.nsIn K mainGlobals "MAX_WORD" = some (some (.int 30 t_MAX_WORD)))
    (ka_BadLetter : PySem.W.nsIn K mainGlobals "BadLetter" = some (some (.ref A_BadLetter))) (kt_BadLetter : PySem.W.typeIn K (.ref A_BadLetter) = some (.type "type")) (kh_BadLetter : PySem.W.hasDictIn K A_BadLetter = true) (ke_BadLetter : PySem.W.subIn K (.ref A_BadLetter) (.type "BaseException") = some true)
    (ka_BadNumber : PySem.W.nsIn K mainGlobals "BadNumber" = some (some (.ref A_BadNumber))) (kt_BadNumber : PySem.W.typeIn K (.ref A_BadNumber) = some (.type "type")) (kh_BadNumber : PySem.W.hasDictIn K A_BadNumber = true) (ke_BadNumber : PySem.W.subIn K (.ref A_BadNumber) (.type "BaseException") = some true)
    (ka_BadOrder : PySem.W.nsIn K mainGlobals "BadOrder" = some (some (.ref A_BadOrder))) (kt_BadOrder : PySem.W.typeIn K (.ref A_BadOrder) = some (.type "type")) (kh_BadOrder : PySem.W.hasDictIn K A_BadOrder = true) (ke_BadOrder : PySem.W.subIn K (.ref A_BadOrder) (.type "BaseException") = some true)
    (ka_BadWord : PySem.W.nsIn K mainGlobals "BadWord" = some (some (.ref A_BadWord))) (kt_BadWord : PySem.W.typeIn K (.ref A_BadWord) = some (.type "type")) (kh_BadWord : PySem.W.hasDictIn K A_BadWord = true) (ke_BadWord : PySem.W.subIn K (.ref A_BadWord) (.type "BaseException") = some true)
    (ka_NoIndex : PySem.W.nsIn K mainGlobals "NoIndex" = some (some (.ref A_NoIndex))) (kt_NoIndex : PySem.W.typeIn K (.ref A_NoIndex) = some (.type "type")) (kh_NoIndex : PySem.W.hasDictIn K A_NoIndex = true) (ke_NoIndex : PySem.W.subIn K (.ref A_NoIndex) (.type "BaseException") = some true)
    (ka_NoPlace : PySem.W.nsIn K mainGlobals "NoPlace" = some (some (.ref A_NoPlace))) (kt_NoPlace : PySem.W.typeIn K (.ref A_NoPlace) = some (.type "type")) (kh_NoPlace : PySem.W.hasDictIn K A_NoPlace = true) (ke_NoPlace : PySem.W.subIn K (.ref A_NoPlace) (.type "BaseException") = some true)
    (ka_NoSheet : PySem.W.nsIn K mainGlobals "NoSheet" = some (some (.ref A_NoSheet))) (kt_NoSheet : PySem.W.typeIn K (.ref A_NoSheet) = some (.type "type")) (kh_NoSheet : PySem.W.hasDictIn K A_NoSheet = true) (ke_NoSheet : PySem.W.subIn K (.ref A_NoSheet) (.type "BaseException") = some true)
    (ka_PadError : PySem.W.nsIn K mainGlobals "PadError" = some (some (.ref A_PadError))) (kt_PadError : PySem.W.typeIn K (.ref A_PadError) = some (.type "type")) (kh_PadError : PySem.W.hasDictIn K A_PadError = true) (ke_PadError : PySem.W.subIn K (.ref A_PadError) (.type "BaseException") = some true)
    (ka_TooLong : PySem.W.nsIn K mainGlobals "TooLong" = some (some (.ref A_TooLong))) (kt_TooLong : PySem.W.typeIn K (.ref A_TooLong) = some (.type "type")) (kh_TooLong : PySem.W.hasDictIn K A_TooLong = true) (ke_TooLong : PySem.W.subIn K (.ref A_TooLong) (.type "BaseException") = some true)
    (kk_BadWord : PySem.W.keepIn K (.ref A_BadWord) = true) (kg_BadWord : PySem.W.findIn K (.ref A_BadWord) "__getattribute__" = some (some (.builtin "BaseException.__getattribute__"))) (kj_BadWord : PySem.W.findIn K (.ref A_BadWord) "__getattr__" = some none) (kc_BadWord : PySem.W.findIn K (.ref A_BadWord) "__class__" = some (some (.builtin "object.__class__"))) (km_BadWord : PySem.W.mroIn K A_BadWord (.type "object") = some true) (kz_BadWord : PySem.W.subIn K (.ref A_BadWord) (.ref A_BadWord) = some true)
    (ks_BadWord : PySem.W.findIn K (.ref A_BadWord) "__setattr__" = some (some (.builtin "object.__setattr__"))) (ki_BadWord : PySem.W.findIn K (.ref A_BadWord) "__init__" = some (some (.ref I_BadWord))) (kf_BadWord : PySem.W.typeIn K (.ref I_BadWord) = some (.type "function")) (kn_BadWord : PySem.W.findIn K (.ref A_BadWord) "value" = some none)
    (kl_BadWord : K.lookup I_BadWord = some ⟨xoc_BadWord, xod_BadWord, .func (PySem.W.fnOf "__init__" "BadWord.__init__" (iA "value" xp1_BadWord xp2_BadWord) (iB "value" xq1_BadWord xq2_BadWord xq3_BadWord xq4_BadWord) (iS "value") .none .none xdc_BadWord xpm_BadWord xan_BadWord xcd_BadWord xct_BadWord), xsl_BadWord⟩) (kd_BadWord : PySem.W.codeIn K xcd_BadWord "BadWord.__init__" = true)
    (kq_BadWord : PySem.W.excInitIn K A_BadWord [.type "ValueError", .type "Exception", .type "BaseException", .type "object"] "ValueError.__new__" = true) (ko_BadWord : PySem.W.excOver K A_BadWord [.type "ValueError", .type "Exception", .type "BaseException", .type "object"] = true)
    (kk_NoPlace : PySem.W.keepIn K (.ref A_NoPlace) = true) (kg_NoPlace : PySem.W.findIn K (.ref A_NoPlace) "__getattribute__" = some (some (.builtin "BaseException.__getattribute__"))) (kj_NoPlace : PySem.W.findIn K (.ref A_NoPlace) "__getattr__" = some none) (kc_NoPlace : PySem.W.findIn K (.ref A_NoPlace) "__class__" = some (some (.builtin "object.__class__"))) (km_NoPlace : PySem.W.mroIn K A_NoPlace (.type "object") = some true) (kz_NoPlace : PySem.W.subIn K (.ref A_NoPlace) (.ref A_NoPlace) = some true)
    (ks_NoPlace : PySem.W.findIn K (.ref A_NoPlace) "__setattr__" = some (some (.builtin "object.__setattr__"))) (ki_NoPlace : PySem.W.findIn K (.ref A_NoPlace) "__init__" = some (some (.ref I_NoPlace))) (kf_NoPlace : PySem.W.typeIn K (.ref I_NoPlace) = some (.type "function")) (kn_NoPlace : PySem.W.findIn K (.ref A_NoPlace) "value" = some none)
    (kl_NoPlace : K.lookup I_NoPlace = some ⟨xoc_NoPlace, xod_NoPlace, .func (PySem.W.fnOf "__init__" "NoPlace.__init__" (iA "value" xp1_NoPlace xp2_NoPlace) (iB "value" xq1_NoPlace xq2_NoPlace xq3_NoPlace xq4_NoPlace) (iS "value") .none .none xdc_NoPlace xpm_NoPlace xan_NoPlace xcd_NoPlace xct_NoPlace), xsl_NoPlace⟩) (kd_NoPlace : PySem.W.codeIn K xcd_NoPlace "NoPlace.__init__" = true)
    (kq_NoPlace : PySem.W.excInitIn K A_NoPlace [.type "LookupError", .type "Exception", .type "BaseException", .type "object"] "LookupError.__new__" = true) (ko_NoPlace : PySem.W.excOver K A_NoPlace [.type "LookupError", .type "Exception", .type "BaseException", .type "object"] = true)
    (kp_BadWord_BadLetter : PySem.W.subIn K (.ref A_BadWord) (.ref A_BadLetter) = some false)
    (kp_BadWord_BadNumber : PySem.W.subIn K (.ref A_BadWord) (.ref A_BadNumber) = some false)
    (kp_BadWord_BadOrder : PySem.W.subIn K (.ref A_BadWord) (.ref A_BadOrder) = some false)
    (kp_BadWord_NoIndex : PySem.W.subIn K (.ref A_BadWord) (.ref A_NoIndex) = some false)
    (kp_BadWord_NoPlace : PySem.W.subIn K (.ref A_BadWord) (.ref A_NoPlace) = some false)
    (kp_BadWord_NoSheet : PySem.W.subIn K (.ref A_BadWord) (.ref A_NoSheet) = some false)
    (kp_BadWord_PadError : PySem.W.subIn K (.ref A_BadWord) (.ref A_PadError) = some true)
    (kp_BadWord_TooLong : PySem.W.subIn K (.ref A_BadWord) (.ref A_TooLong) = some false)
    (kp_NoPlace_BadLetter : PySem.W.subIn K (.ref A_NoPlace) (.ref A_BadLetter) = some false)
    (kp_NoPlace_BadNumber : PySem.W.subIn K (.ref A_NoPlace) (.ref A_BadNumber) = some false)
    (kp_NoPlace_BadOrder : PySem.W.subIn K (.ref A_NoPlace) (.ref A_BadOrder) = some false)
    (kp_NoPlace_BadWord : PySem.W.subIn K (.ref A_NoPlace) (.ref A_BadWord) = some false)
    (kp_NoPlace_NoIndex : PySem.W.subIn K (.ref A_NoPlace) (.ref A_NoIndex) = some false)
    (kp_NoPlace_NoSheet : PySem.W.subIn K (.ref A_NoPlace) (.ref A_NoSheet) = some false)
    (kp_NoPlace_PadError : PySem.W.subIn K (.ref A_NoPlace) (.ref A_PadError) = some false)
    (kp_NoPlace_TooLong : PySem.W.subIn K (.ref A_NoPlace) (.ref A_TooLong) = some false)
    (kp_BadWord_LookupError : PySem.W.subIn K (.ref A_BadWord) (.type "LookupError") = some false)
    (kp_BadWord_ValueError : PySem.W.subIn K (.ref A_BadWord) (.type "ValueError") = some true)
    (kp_NoPlace_LookupError : PySem.W.subIn K (.ref A_NoPlace) (.type "LookupError") = some true)
    (kp_NoPlace_ValueError : PySem.W.subIn K (.ref A_NoPlace) (.type "ValueError") = some false)
    (kS : PySem.W.specialIn K (.builtin "object.__class__") "__get__" = some (some (.builtin "getset_descriptor.__get__"))) (kT : PySem.W.takesIn K (.builtin "object.__class__") = some true) :
    ∃ fd : FuncData, (∀ (s : Shared) (v : Value), BindsTo s fd ⟨[v], []⟩ [("_law_script", v)]) ∧ ∀ base : Heap, K.In base → base.Ns mainGlobals mg → FnG P w K mg base L2.CX0 7 fa fd ["_law_script"] (liftP K mg sp_law) := by
  have e := hfa.symm.trans (PySem.W.mg_of X G a24)
  cases e
  have F0 := fun_mk (st := s_is_between) l0 c0 k0
  have G0 := PySem.W.mg_of X G a0
  have F1 := fun_mk (st := s_is_letter) l1 c1 k1
  have G1 := PySem.W.mg_of X G a1
  have F2 := fun_mk (st := s_vis_word) l2 c2 k2
  have G2 := PySem.W.mg_of X G a2
  have F3 := fun_mk (st := s_first_pick) l3 c3 k3
  have G3 := PySem.W.mg_of X G a3
  have F4 := fun_mk (st := s_count_picked) l4 c4 k4
  have G4 := PySem.W.mg_of X G a4
  have F5 := fun_mk (st := s_price) l5 c5 k5
  have G5 := PySem.W.mg_of X G a5
  have F6 := fun_mk (st := s_Sheet_init) l6 c6 k6
  have F7 := fun_mk (st := s_Sheet_text) l7 c7 k7
  have F8 := fun_mk (st := s_Sheet_getitem) l8 c8 k8
  have F9 := fun_mk (st := s_Sheet_len) l9 c9 k9
  have F10 := fun_mk (st := s_Sheet_bool) l10 c10 k10
  have F11 := fun_mk (st := s_Sheet_eq) l11 c11 k11
  have F12 := fun_mk (st := s_Sheet_str) l12 c12 k12
  have F13 := fun_mk (st := s_lawE_deck) l13 c13 k13
  have G13 := PySem.W.mg_of X G a13
  have F14 := fun_mk (st := s_lawE_draw) l14 c14 k14
  have G14 := PySem.W.mg_of X G a14
  have F15 := fun_mk (st := s_lawE_one) l15 c15 k15
  have G15 := PySem.W.mg_of X G a15
  have F16 := fun_mk (st := s_lawE_word) l16 c16 k16
  have G16 := PySem.W.mg_of X G a16
  have F17 := fun_mk (st := s_lawE_below) l17 c17 k17
  have G17 := PySem.W.mg_of X G a17
  have F18 := fun_mk (st := s_lawE_odd) l18 c18 k18
  have G18 := PySem.W.mg_of X G a18
  have F19 := fun_mk (st := s_lawE_whole) l19 c19 k19
  have G19 := PySem.W.mg_of X G a19
  have F20 := fun_mk (st := s_law_short) l20 c20 k20
  have G20 := PySem.W.mg_of X G a20
  have F21 := fun_mk (st := s_law_made) l21 c21 k21
  have G21 := PySem.W.mg_of X G a21
  have F22 := fun_mk (st := s_law_letter) l22 c22 k22
  have G22 := PySem.W.mg_of X G a22
  have F23 := fun_mk (st := s_law_equal_right) l23 c23 k23
  have G23 := PySem.W.mg_of X G a23
  have F24 := fun_mk (st := s_law) l24 c24 k24
  have m_LookupError := PySem.W.mg_none_of X G z_LookupError
  have m_ValueError := PySem.W.mg_none_of X G z_ValueError
  have m_abs := PySem.W.mg_none_of X G z_abs
  have m_all := PySem.W.mg_none_of X G z_all
  have m_bool := PySem.W.mg_none_of X G z_bool
  have m_int := PySem.W.mg_none_of X G z_int
  have m_isinstance := PySem.W.mg_none_of X G z_isinstance
  have m_len := PySem.W.mg_none_of X G z_len
  have m_list := PySem.W.mg_none_of X G z_list
  have m_range := PySem.W.mg_none_of X G z_range
  have m_repr := PySem.W.mg_none_of X G z_repr
  have m_str := PySem.W.mg_none_of X G z_str
  have m_tuple := PySem.W.mg_none_of X G z_tuple
  have g_LETTERS := PySem.W.mg_of X G y_LETTERS
  have g_MAX_WORD := PySem.W.mg_of X G y_MAX_WORD
  have q_BadLetter := PySem.W.mg_of X G ka_BadLetter
  have q_BadNumber := PySem.W.mg_of X G ka_BadNumber
  have q_BadOrder := PySem.W.mg_of X G ka_BadOrder
  have q_BadWord := PySem.W.mg_of X G ka_BadWord
  have q_NoIndex := PySem.W.mg_of X G ka_NoIndex
  have q_NoPlace := PySem.W.mg_of X G ka_NoPlace
  have q_NoSheet := PySem.W.mg_of X G ka_NoSheet
  have q_PadError := PySem.W.mg_of X G ka_PadError
  have q_TooLong := PySem.W.mg_of X G ka_TooLong
  have e_BadWord : ExcC K A_BadWord := ⟨kg_BadWord, kj_BadWord, ke_BadWord, kh_BadWord, kc_BadWord, kS, kT, km_BadWord⟩
  have x_BadWord : FldCls K mg "BadWord" "value" := ⟨A_BadWord, I_BadWord, "ValueError", [.type "ValueError", .type "Exception", .type "BaseException", .type "object"], "ValueError.__new__", "ValueError.__init__", ⟨PySem.F.excBase_ValueError, PySem.F.store_ValueError, fld_value, q_BadWord, kq_BadWord, ko_BadWord, ks_BadWord, kn_BadWord, ki_BadWord, kf_BadWord, kk_BadWord, ke_BadWord, kt_BadWord, kh_BadWord, ⟨_, _, _, _, _, _, _, _, _, _, _, _, _, _, _, kl_BadWord, kd_BadWord⟩⟩⟩
  have r_BadWord_value : FldRd K mg "BadWord" "value" := ⟨A_BadWord, q_BadWord, ⟨kg_BadWord, kj_BadWord, ke_BadWord, kh_BadWord⟩, kn_BadWord⟩
  have e_NoPlace : ExcC K A_NoPlace := ⟨kg_NoPlace, kj_NoPlace, ke_NoPlace, kh_NoPlace, kc_NoPlace, kS, kT, km_NoPlace⟩
  have x_NoPlace : FldCls K mg "NoPlace" "value" := ⟨A_NoPlace, I_NoPlace, "LookupError", [.type "LookupError", .type "Exception", .type "BaseException", .type "object"], "LookupError.__new__", "LookupError.__init__", ⟨PySem.F.excBase_LookupError, PySem.F.store_LookupError, fld_value, q_NoPlace, kq_NoPlace, ko_NoPlace, ks_NoPlace, kn_NoPlace, ki_NoPlace, kf_NoPlace, kk_NoPlace, ke_NoPlace, kt_NoPlace, kh_NoPlace, ⟨_, _, _, _, _, _, _, _, _, _, _, _, _, _, _, kl_NoPlace, kd_NoPlace⟩⟩⟩
  have r_NoPlace_value : FldRd K mg "NoPlace" "value" := ⟨A_NoPlace, q_NoPlace, ⟨kg_NoPlace, kj_NoPlace, ke_NoPlace, kh_NoPlace⟩, kn_NoPlace⟩
  have xt : XTabOk K mg tab_law := ⟨List.forall_mem_cons.mpr ⟨⟨A_BadWord, A_BadLetter, q_BadWord, q_BadLetter, kit_sub kh_BadLetter kt_BadLetter kp_BadWord_BadLetter kz_BadWord, PySem.W.exm_ref ke_BadLetter kh_BadLetter kt_BadLetter kp_BadWord_BadLetter, e_BadWord⟩, List.forall_mem_cons.mpr ⟨⟨A_BadWord, A_BadNumber, q_BadWord, q_BadNumber, kit_sub kh_BadNumber kt_BadNumber kp_BadWord_BadNumber kz_BadWord, PySem.W.exm_ref ke_BadNumber kh_BadNumber kt_BadNumber kp_BadWord_BadNumber, e_BadWord⟩, List.forall_mem_cons.mpr ⟨⟨A_BadWord, A_BadOrder, q_BadWord, q_BadOrder, kit_sub kh_BadOrder kt_BadOrder kp_BadWord_BadOrder kz_BadWord, PySem.W.exm_ref ke_BadOrder kh_BadOrder kt_BadOrder kp_BadWord_BadOrder, e_BadWord⟩, List.forall_mem_cons.mpr ⟨⟨A_BadWord, A_BadWord, q_BadWord, q_BadWord, kit_sub kh_BadWord kt_BadWord kz_BadWord kz_BadWord, PySem.W.exm_ref ke_BadWord kh_BadWord kt_BadWord kz_BadWord, e_BadWord⟩, List.forall_mem_cons.mpr ⟨⟨A_BadWord, A_NoIndex, q_BadWord, q_NoIndex, kit_sub kh_NoIndex kt_NoIndex kp_BadWord_NoIndex kz_BadWord, PySem.W.exm_ref ke_NoIndex kh_NoIndex kt_NoIndex kp_BadWord_NoIndex, e_BadWord⟩, List.forall_mem_cons.mpr ⟨⟨A_BadWord, A_NoPlace, q_BadWord, q_NoPlace, kit_sub kh_NoPlace kt_NoPlace kp_BadWord_NoPlace kz_BadWord, PySem.W.exm_ref ke_NoPlace kh_NoPlace kt_NoPlace kp_BadWord_NoPlace, e_BadWord⟩, List.forall_mem_cons.mpr ⟨⟨A_BadWord, A_NoSheet, q_BadWord, q_NoSheet, kit_sub kh_NoSheet kt_NoSheet kp_BadWord_NoSheet kz_BadWord, PySem.W.exm_ref ke_NoSheet kh_NoSheet kt_NoSheet kp_BadWord_NoSheet, e_BadWord⟩, List.forall_mem_cons.mpr ⟨⟨A_BadWord, A_PadError, q_BadWord, q_PadError, kit_sub kh_PadError kt_PadError kp_BadWord_PadError kz_BadWord, PySem.W.exm_ref ke_PadError kh_PadError kt_PadError kp_BadWord_PadError, e_BadWord⟩, List.forall_mem_cons.mpr ⟨⟨A_BadWord, A_TooLong, q_BadWord, q_TooLong, kit_sub kh_TooLong kt_TooLong kp_BadWord_TooLong kz_BadWord, PySem.W.exm_ref ke_TooLong kh_TooLong kt_TooLong kp_BadWord_TooLong, e_BadWord⟩, List.forall_mem_cons.mpr ⟨⟨A_NoPlace, A_BadLetter, q_NoPlace, q_BadLetter, kit_sub kh_BadLetter kt_BadLetter kp_NoPlace_BadLetter kz_NoPlace, PySem.W.exm_ref ke_BadLetter kh_BadLetter kt_BadLetter kp_NoPlace_BadLetter, e_NoPlace⟩, List.forall_mem_cons.mpr ⟨⟨A_NoPlace, A_BadNumber, q_NoPlace, q_BadNumber, kit_sub kh_BadNumber kt_BadNumber kp_NoPlace_BadNumber kz_NoPlace, PySem.W.exm_ref ke_BadNumber kh_BadNumber kt_BadNumber kp_NoPlace_BadNumber, e_NoPlace⟩, List.forall_mem_cons.mpr ⟨⟨A_NoPlace, A_BadOrder, q_NoPlace, q_BadOrder, kit_sub kh_BadOrder kt_BadOrder kp_NoPlace_BadOrder kz_NoPlace, PySem.W.exm_ref ke_BadOrder kh_BadOrder kt_BadOrder kp_NoPlace_BadOrder, e_NoPlace⟩, List.forall_mem_cons.mpr ⟨⟨A_NoPlace, A_BadWord, q_NoPlace, q_BadWord, kit_sub kh_BadWord kt_BadWord kp_NoPlace_BadWord kz_NoPlace, PySem.W.exm_ref ke_BadWord kh_BadWord kt_BadWord kp_NoPlace_BadWord, e_NoPlace⟩, List.forall_mem_cons.mpr ⟨⟨A_NoPlace, A_NoIndex, q_NoPlace, q_NoIndex, kit_sub kh_NoIndex kt_NoIndex kp_NoPlace_NoIndex kz_NoPlace, PySem.W.exm_ref ke_NoIndex kh_NoIndex kt_NoIndex kp_NoPlace_NoIndex, e_NoPlace⟩, List.forall_mem_cons.mpr ⟨⟨A_NoPlace, A_NoPlace, q_NoPlace, q_NoPlace, kit_sub kh_NoPlace kt_NoPlace kz_NoPlace kz_NoPlace, PySem.W.exm_ref ke_NoPlace kh_NoPlace kt_NoPlace kz_NoPlace, e_NoPlace⟩, List.forall_mem_cons.mpr ⟨⟨A_NoPlace, A_NoSheet, q_NoPlace, q_NoSheet, kit_sub kh_NoSheet kt_NoSheet kp_NoPlace_NoSheet kz_NoPlace, PySem.W.exm_ref ke_NoSheet kh_NoSheet kt_NoSheet kp_NoPlace_NoSheet, e_NoPlace⟩, List.forall_mem_cons.mpr ⟨⟨A_NoPlace, A_PadError, q_NoPlace, q_PadError, kit_sub kh_PadError kt_PadError kp_NoPlace_PadError kz_NoPlace, PySem.W.exm_ref ke_PadError kh_PadError kt_PadError kp_NoPlace_PadError, e_NoPlace⟩, List.forall_mem_cons.mpr ⟨⟨A_NoPlace, A_TooLong, q_NoPlace, q_TooLong, kit_sub kh_TooLong kt_TooLong kp_NoPlace_TooLong kz_NoPlace, PySem.W.exm_ref ke_TooLong kh_TooLong kt_TooLong kp_NoPlace_TooLong, e_NoPlace⟩, fun _ h => nomatch h⟩⟩⟩⟩⟩⟩⟩⟩⟩⟩⟩⟩⟩⟩⟩⟩⟩⟩, List.forall_mem_cons.mpr ⟨⟨A_BadWord, q_BadWord, kit_subT (by decide +kernel) kp_BadWord_LookupError, e_BadWord⟩, List.forall_mem_cons.mpr ⟨⟨A_BadWord, q_BadWord, kit_subT (by decide +kernel) kp_BadWord_ValueError, e_BadWord⟩, List.forall_mem_cons.mpr ⟨⟨A_NoPlace, q_NoPlace, kit_subT (by decide +kernel) kp_NoPlace_LookupError, e_NoPlace⟩, List.forall_mem_cons.mpr ⟨⟨A_NoPlace, q_NoPlace, kit_subT (by decide +kernel) kp_NoPlace_ValueError, e_NoPlace⟩, fun _ h => nomatch h⟩⟩⟩⟩⟩
  have og_Sheet := PySem.W.mg_of X G oa_Sheet
  have ocl_Sheet : Cls K A_Sheet := ⟨od_Sheet, oh_Sheet, oo_Sheet, os_Sheet⟩
  have oi_Sheet : InsC K A_Sheet := ⟨ocl_Sheet, ox_Sheet, kS, kT, or_Sheet, oty_Sheet, noTyps_of obNoneType_Sheet obbool_Sheet obint_Sheet obstr_Sheet oblist_Sheet obtuple_Sheet obdict_Sheet⟩
  have o_fld_letters : ∀ c ∈ (["Sheet"] : List Str), FldOf K mg "letters" c := List.forall_mem_cons.mpr ⟨⟨A_Sheet, og_Sheet, ocl_Sheet, ofletters_Sheet⟩, fun _ h => nomatch h⟩
  have itab : ITabOk K mg itab_law := ⟨List.forall_mem_cons.mpr ⟨⟨A_Sheet, A_Sheet, og_Sheet, og_Sheet, oi_Sheet, oi_Sheet, kit_self⟩, fun _ h => nomatch h⟩⟩
  refine ⟨PySem.W.fnOf "law" "law" (defArgs s_law) (defBody s_law) (defScope s_law) .none kV24 dc24 pm24 an24 cd24 ct24, fun s v => .of_eq rfl, fun base _ _ => ?_⟩
  have b0 := F0.binds (ps := ["value", "low", "high"]) fun _ _ _ _ _ _ us hl => match us, hl with | [_, _, _], _ => rfl
  have c_is_between : Cal P w K mg base L2.CX0 1 "is_between" sp_is_between := Cal.of (fn_is_between F0 m_bool m_int m_isinstance) G0 k0 b0
  have b1 := F1.binds (ps := ["value"]) fun _ _ _ _ _ _ us hl => match us, hl with | [_], _ => rfl
  have c_is_letter : Cal P w K mg base L2.CX0 1 "is_letter" sp_is_letter := Cal.of (fn_is_letter F1 m_isinstance m_len m_str g_LETTERS) G1 k1 b1
  have b3 := F3.binds (ps := ["one", "other"]) fun _ _ _ _ _ _ us hl => match us, hl with | [_, _], _ => rfl
  have c_first_pick : Cal P w K mg base L2.CX0 1 "first_pick" sp_first_pick := Cal.of (fn_first_pick F3 m_tuple) G3 k3 b3
  have b7 := F7.binds (ps := ["self"]) fun _ _ _ _ _ _ us hl => match us, hl with | [_], _ => rfl
  have r_Sheet_text : FR P w K mg base (L2.CX P w) 1 f7 (liftP K mg sp_Sheet_text) := ((fn_Sheet_text F7 o_fld_letters).toR b7).up
  have b9 := F9.binds (ps := ["self"]) fun _ _ _ _ _ _ us hl => match us, hl with | [_], _ => rfl
  have r_Sheet_len : FR P w K mg base (L2.CX P w) 1 f9 (liftP K mg sp_Sheet_len) := ((fn_Sheet_len F9 m_len o_fld_letters).toR b9).up
  have b10 := F10.binds (ps := ["self"]) fun _ _ _ _ _ _ us hl => match us, hl with | [_], _ => rfl
  have r_Sheet_bool : FR P w K mg base (L2.CX P w) 1 f10 (liftP K mg sp_Sheet_bool) := ((fn_Sheet_bool F10 m_len o_fld_letters).toR b10).up
  have b11 := F11.binds (ps := ["self", "other"]) fun _ _ _ _ _ _ us hl => match us, hl with | [_, _], _ => rfl
  have r_Sheet_eq : FR P w K mg base (L2.CX P w) 1 f11 (liftP K mg sp_Sheet_eq) := ((fn_Sheet_eq F11 m_isinstance o_fld_letters og_Sheet itab).toR b11).up
  have b12 := F12.binds (ps := ["self"]) fun _ _ _ _ _ _ us hl => match us, hl with | [_], _ => rfl
  have r_Sheet_str : FR P w K mg base (L2.CX P w) 1 f12 (liftP K mg sp_Sheet_str) := ((fn_Sheet_str F12 o_fld_letters).toR b12).up
  have b13 := F13.binds (ps := ["_law_script"]) fun _ _ _ _ _ _ us hl => match us, hl with | [_], _ => rfl
  have c_lawE_deck : Cal P w K mg base L2.CX0 1 "_law_deck" sp_lawE_deck := Cal.of (fn_lawE_deck F13 m_abs) G13 k13 b13
  have b14 := F14.binds (ps := ["_law_deck_here", "_law_many"]) fun _ _ _ _ _ _ us hl => match us, hl with | [_, _], _ => rfl
  have c_lawE_draw : Cal P w K mg base L2.CX0 1 "_law_draw" sp_lawE_draw := Cal.of (fn_lawE_draw F14 m_len) G14 k14 b14
  have b19 := F19.binds (ps := ["_law_value", "_law_low", "_law_high"]) fun _ _ _ _ _ _ us hl => match us, hl with | [_, _, _], _ => rfl
  have c_lawE_whole : Cal P w K mg base L2.CX0 1 "_law_whole" sp_lawE_whole := Cal.of (fn_lawE_whole F19 m_bool m_int m_isinstance) G19 k19 b19
  have b20 := F20.binds (ps := ["_law_value"]) fun _ _ _ _ _ _ us hl => match us, hl with | [_], _ => rfl
  have c_law_short : Cal P w K mg base L2.CX0 1 "_law_short" sp_law_short := Cal.of (fn_law_short F20 m_isinstance m_len m_str itab) G20 k20 b20
  have b2 := F2.binds (ps := ["value"]) fun _ _ _ _ _ _ us hl => match us, hl with | [_], _ => rfl
  have c_vis_word : Cal P w K mg base L2.CX0 2 "is_word" sp_vis_word := Cal.of (fn_vis_word F2 m_all m_isinstance m_len m_str g_MAX_WORD c_is_letter itab) G2 k2 b2
  have b4 := F4.binds (ps := ["one", "other"]) fun _ _ _ _ _ _ us hl => match us, hl with | [_, _], _ => rfl
  have c_count_picked : Cal P w K mg base L2.CX0 2 "count_picked" sp_count_picked := Cal.of (fn_count_picked F4 m_len c_first_pick) G4 k4 b4
  have b15 := F15.binds (ps := ["_law_deck_here", "_law_items"]) fun _ _ _ _ _ _ us hl => match us, hl with | [_, _], _ => rfl
  have c_lawE_one : Cal P w K mg base L2.CX0 2 "_law_one" sp_lawE_one := Cal.of (fn_lawE_one F15 m_len c_lawE_draw) G15 k15 b15
  have b18 := F18.binds (ps := ["_law_deck_here"]) fun _ _ _ _ _ _ us hl => match us, hl with | [_], _ => rfl
  have c_lawE_odd : Cal P w K mg base L2.CX0 2 "_law_odd" sp_lawE_odd := Cal.of (fn_lawE_odd F18 c_lawE_draw) G18 k18 b18
  have b5 := F5.binds (ps := ["one", "other"]) fun _ _ _ _ _ _ us hl => match us, hl with | [_, _], _ => rfl
  have c_price : Cal P w K mg base L2.CX0 3 "price" sp_price := Cal.of (fn_price F5 m_len c_count_picked) G5 k5 b5
  have b8 := F8.binds (ps := ["self", "place"]) fun _ _ _ _ _ _ us hl => match us, hl with | [_, _], _ => rfl
  have r_Sheet_getitem : FR P w K mg base (L2.CX P w) 3 f8 (liftP K mg sp_Sheet_getitem) := (fn_Sheet_getitem F8 m_len c_is_between x_NoPlace o_fld_letters).toR b8
  have b16 := F16.binds (ps := ["_law_deck_here", "_law_most"]) fun _ _ _ _ _ _ us hl => match us, hl with | [_, _], _ => rfl
  have c_lawE_word : Cal P w K mg base L2.CX0 3 "_law_word" sp_lawE_word := Cal.of (fn_lawE_word F16 m_range c_lawE_draw c_lawE_one) G16 k16 b16
  have b6 := F6.binds (ps := ["self", "text"]) fun _ _ _ _ _ _ us hl => match us, hl with | [_, _], _ => rfl
  have r_Sheet_init : FR P w K mg base (L2.CX P w) 4 f6 (liftP K mg sp_Sheet_init) := (fn_Sheet_init F6 c_vis_word x_BadWord o_fld_letters).toR b6
  have b17 := F17.binds (ps := ["_law_deck_here", "_law_word_here", "_law_most"]) fun _ _ _ _ _ _ us hl => match us, hl with | [_, _, _], _ => rfl
  have c_lawE_below : Cal P w K mg base L2.CX0 4 "_law_below" sp_lawE_below := Cal.of (fn_lawE_below F17 c_lawE_draw c_lawE_word) G17 k17 b17
  have o_spec_getitem : ∀ p ∈ ([("Sheet", sp_Sheet_getitem)] : List (Str × DSp)), DCal P w K mg base 3 "__getitem__" p.1 p.2 := List.forall_mem_cons.mpr ⟨⟨A_Sheet, f8, og_Sheet, a8, i8, n8, of_Sheet, on_Sheet, (r_Sheet_getitem.mono (by decide))⟩, fun _ h => nomatch h⟩
  have b22 := F22.binds (ps := ["_law_sheet", "_law_value"]) fun _ _ _ _ _ _ us hl => match us, hl with | [_, _], _ => rfl
  have c_law_letter : Cal P w K mg base L2.CX0 5 "_law_letter" sp_law_letter := Cal.of (fn_law_letter F22 m_LookupError m_ValueError m_isinstance q_NoIndex q_NoPlace q_NoSheet q_PadError r_BadWord_value r_NoPlace_value xt o_spec_getitem) G22 k22 b22
  have o_make_Sheet : KCal P w K mg base 4 "Sheet" (zIni "Sheet" dom_Sheet mk_Sheet) := ⟨A_Sheet, f6, og_Sheet, ⟨om_Sheet, a6, i6, ok_Sheet⟩, r_Sheet_init⟩
  have o_prop_text : ∀ p ∈ ([("Sheet", sp_Sheet_text)] : List (Str × DSp)), PCal P w K mg base 1 "text" p.1 p.2 := List.forall_mem_cons.mpr ⟨⟨A_Sheet, pr7, f7, og_Sheet, ocl_Sheet, ⟨a7, pg7, pt7, ⟨_, pv7⟩⟩, (r_Sheet_text.mono (by decide))⟩, fun _ h => nomatch h⟩
  have o_spec_bool : ∀ p ∈ ([("Sheet", sp_Sheet_bool)] : List (Str × DSp)), DCal P w K mg base 1 "__bool__" p.1 p.2 := List.forall_mem_cons.mpr ⟨⟨A_Sheet, f10, og_Sheet, a10, i10, n10, of_Sheet, on_Sheet, (r_Sheet_bool.mono (by decide))⟩, fun _ h => nomatch h⟩
  have o_spec_len : ∀ p ∈ ([("Sheet", sp_Sheet_len)] : List (Str × DSp)), DCal P w K mg base 1 "__len__" p.1 p.2 := List.forall_mem_cons.mpr ⟨⟨A_Sheet, f9, og_Sheet, a9, i9, n9, of_Sheet, on_Sheet, (r_Sheet_len.mono (by decide))⟩, fun _ h => nomatch h⟩
  have o_spec_str : ∀ p ∈ ([("Sheet", sp_Sheet_str)] : List (Str × DSp)), DCal P w K mg base 1 "__str__" p.1 p.2 := List.forall_mem_cons.mpr ⟨⟨A_Sheet, f12, og_Sheet, a12, i12, n12, of_Sheet, on_Sheet, (r_Sheet_str.mono (by decide))⟩, fun _ h => nomatch h⟩
  have b21 := F21.binds (ps := ["_law_value"]) fun _ _ _ _ _ _ us hl => match us, hl with | [_], _ => rfl
  have c_law_made : Cal P w K mg base L2.CX0 6 "_law_made" sp_law_made := Cal.of (fn_law_made F21 m_LookupError m_ValueError m_bool m_isinstance m_len m_str q_BadLetter q_BadNumber q_BadOrder q_BadWord q_PadError q_TooLong r_BadWord_value r_NoPlace_value xt o_make_Sheet o_prop_text o_spec_bool o_spec_len o_spec_str) G21 k21 b21
  have o_ne_eq : ∀ p ∈ ([("Sheet", sp_Sheet_eq)] : List (Str × DSp)), NCal P w K mg base 1 p.1 p.2 := List.forall_mem_cons.mpr ⟨⟨⟨A_Sheet, f11, og_Sheet, a11, i11, n11, of_Sheet, on_Sheet, (r_Sheet_eq.mono (by decide))⟩, A_Sheet, og_Sheet, oe_Sheet, oj_Sheet⟩, fun _ h => nomatch h⟩
  have o_spec_eq : ∀ p ∈ ([("Sheet", sp_Sheet_eq)] : List (Str × DSp)), DCal P w K mg base 1 "__eq__" p.1 p.2 := List.forall_mem_cons.mpr ⟨⟨A_Sheet, f11, og_Sheet, a11, i11, n11, of_Sheet, on_Sheet, (r_Sheet_eq.mono (by decide))⟩, fun _ h => nomatch h⟩
  have b23 := F23.binds (ps := ["_law_one_here", "_law_other"]) fun _ _ _ _ _ _ us hl => match us, hl with | [_, _], _ => rfl
  have c_law_equal_right : Cal P w K mg base L2.CX0 6 "_law_equal_right" sp_law_equal_right := Cal.of (fn_law_equal_right F23 m_repr o_make_Sheet o_ne_eq o_spec_eq) G23 k23 b23
  have o_rfl_eq : ∀ p ∈ ([("Sheet", sp_Sheet_eq)] : List (Str × DSp)), RCal P w K mg base 1 p.1 p.2 := List.forall_mem_cons.mpr ⟨⟨⟨A_Sheet, f11, og_Sheet, a11, i11, n11, of_Sheet, on_Sheet, (r_Sheet_eq.mono (by decide))⟩, A_Sheet, og_Sheet, oi_Sheet.no⟩, fun _ h => nomatch h⟩
  exact fn_law F24 m_isinstance m_len m_list m_range m_repr m_str c_lawE_below c_lawE_deck c_lawE_draw c_law_equal_right c_law_letter c_law_made c_lawE_odd c_lawE_one c_law_short c_lawE_whole c_lawE_word o_make_Sheet o_ne_eq o_prop_text o_rfl_eq o_spec_eq o_spec_str itab
end DL
open PySem PySem.W PyProof.Rows
set_option maxHeartbeats 0 in
theorem PySem.Challenge.cw_carbonpad_k59_sheets_made_holds : PySem.Challenge.rw_carbonpad_k59_sheets_made.Holds := by
  w_on; o_law; k_head; (case hw => w_witness2)
  k_fill
  refine DL.end_g (l := PySem.Challenge.rw_carbonpad_k59_sheets_made) (n := 63) (k := 7) (x := "_law_script") (S := DL.sp_law) rfl (by decide) rfl ⟨rfl, by decide, by decide⟩ (fun w h Y => PySem.W.kIn_of Y) ?F DL.end_law
  case F =>
    intro w mg fa h KX G hmg
    refine' DL.all_mk KX G hmg ?oa_Sheet ?od_Sheet ?oh_Sheet ?oo_Sheet ?os_Sheet ?om_Sheet ?ok_Sheet ?of_Sheet ?on_Sheet ?ox_Sheet ?or_Sheet ?oty_Sheet ?oz_Sheet ?obNoneType_Sheet ?obbool_Sheet ?obint_Sheet ?obstr_Sheet ?oblist_Sheet ?obtuple_Sheet ?obdict_Sheet ?oe_Sheet ?oj_Sheet ?ofletters_Sheet ?a0 ?l0 ?c0 ?k0 ?a1 ?l1 ?c1 ?k1 ?a2 ?l2 ?c2 ?k2 ?a3 ?l3 ?c3 ?k3 ?a4 ?l4 ?c4 ?k4 ?a5 ?l5 ?c5 ?k5 ?a6 ?i6 ?n6 ?l6 ?c6 ?k6 ?a7 ?pg7 ?pt7 ?pv7 ?l7 ?c7 ?k7 ?a8 ?i8 ?n8 ?l8 ?c8 ?k8 ?a9 ?i9 ?n9 ?l9 ?c9 ?k9 ?a10 ?i10 ?n10 ?l10 ?c10 ?k10 ?a11 ?i11 ?n11 ?l11 ?c11 ?k11 ?a12 ?i12 ?n12 ?l12 ?c12 ?k12 ?a13 ?l13 ?c13 ?k13 ?a14 ?l14 ?c14 ?k14 ?a15 ?l15 ?c15 ?k15 ?a16 ?l16 ?c16 ?k16 ?a17 ?l17 ?c17 ?k17 ?a18 ?l18 ?c18 ?k18 ?a19 ?l19 ?c19 ?k19 ?a20 ?l20 ?c20 ?k20 ?a21 ?l21 ?c21 ?k21 ?a22 ?l22 ?c22 ?k22 ?a23 ?l23 ?c23 ?k23 ?a24 ?l24 ?c24 ?k24 ?z_LookupError ?z_ValueError ?z_abs ?z_all ?z_bool ?z_int ?z_isinstance ?z_len ?z_list ?z_range ?z_repr ?z_str ?z_tuple ?y_LETTERS ?y_MAX_WORD ?ka_BadLetter ?kt_BadLetter ?kh_BadLetter ?ke_BadLetter ?ka_BadNumber ?kt_BadNumber ?kh_BadNumber ?ke_BadNumber ?ka_BadOrder ?kt_BadOrder ?kh_BadOrder ?ke_BadOrder ?ka_BadWord ?kt_BadWord ?kh_BadWord ?ke_BadWord ?ka_NoIndex ?kt_NoIndex ?kh_NoIndex ?ke_NoIndex ?ka_NoPlace ?kt_NoPlace ?kh_NoPlace ?ke_NoPlace ?ka_NoSheet ?kt_NoSheet ?kh_NoSheet ?ke_NoSheet ?ka_PadError ?kt_PadError ?kh_PadError ?ke_PadError ?ka_TooLong ?kt_TooLong ?kh_TooLong ?ke_TooLong ?kk_BadWord ?kg_BadWord ?kj_BadWord ?kc_BadWord ?km_BadWord ?kz_BadWord ?ks_BadWord ?ki_BadWord ?kf_BadWord ?kn_BadWord ?kl_BadWord ?kd_BadWord ?kq_BadWord ?ko_BadWord ?kk_NoPlace ?kg_NoPlace ?kj_NoPlace ?kc_NoPlace ?km_NoPlace ?kz_NoPlace ?ks_NoPlace ?ki_NoPlace ?kf_NoPlace ?kn_NoPlace ?kl_NoPlace ?kd_NoPlace ?kq_NoPlace ?ko_NoPlace ?kp_BadWord_BadLetter ?kp_BadWord_BadNumber ?kp_BadWord_BadOrder ?kp_BadWord_NoIndex ?kp_BadWord_NoPlace ?kp_BadWord_NoSheet ?kp_BadWord_PadError ?kp_BadWord_TooLong ?kp_NoPlace_BadLetter ?kp_NoPlace_BadNumber ?kp_NoPlace_BadOrder ?kp_NoPlace_BadWord ?kp_NoPlace_NoIndex ?kp_NoPlace_NoSheet ?kp_NoPlace_PadError ?kp_NoPlace_TooLong ?kp_BadWord_LookupError ?kp_BadWord_ValueError ?kp_NoPlace_LookupError ?kp_NoPlace_ValueError ?kS ?kT
    (case oa_Sheet => k_is); (case od_Sheet => k_is); (case oh_Sheet => k_is); (case oo_Sheet => k_is)
    (case os_Sheet => k_is); (case om_Sheet => k_is); (case ok_Sheet => k_is); (case of_Sheet => k_is)
    (case on_Sheet => k_is); (case ox_Sheet => k_is); (case or_Sheet => k_is); (case oty_Sheet => k_is)
    (case oz_Sheet => k_is); (case obNoneType_Sheet => k_is); (case obbool_Sheet => k_is); (case obint_Sheet => k_is)
    (case obstr_Sheet => k_is); (case oblist_Sheet => k_is); (case obtuple_Sheet => k_is); (case obdict_Sheet => k_is)
    (case oe_Sheet => k_is); (case oj_Sheet => k_is); (case ofletters_Sheet => k_is); (case a0 => k_is)
    (case l0 => k_is); (case c0 => k_is); (case k0 => k_is); (case a1 => k_is)
    (case l1 => k_is); (case c1 => k_is); (case k1 => k_is); (case a2 => k_is)
    (case l2 => k_is); (case c2 => k_is); (case k2 => k_is); (case a3 => k_is)
    (case l3 => k_is); (case c3 => k_is); (case k3 => k_is); (case a4 => k_is)
    (case l4 => k_is); (case c4 => k_is); (case k4 => k_is); (case a5 => k_is)
    (case l5 => k_is); (case c5 => k_is); (case k5 => k_is); (case a6 => k_is)
    (case i6 => k_is); (case n6 => k_is); (case l6 => k_is); (case c6 => k_is)
    (case k6 => k_is); (case a7 => k_is); (case pg7 => k_is); (case pt7 => k_is)
    (case pv7 => k_is); (case l7 => k_is); (case c7 => k_is); (case k7 => k_is)
    (case a8 => k_is); (case i8 => k_is); (case n8 => k_is); (case l8 => k_is)
    (case c8 => k_is); (case k8 => k_is); (case a9 => k_is); (case i9 => k_is)
    (case n9 => k_is); (case l9 => k_is); (case c9 => k_is); (case k9 => k_is)
    (case a10 => k_is); (case i10 => k_is); (case n10 => k_is); (case l10 => k_is)
    (case c10 => k_is); (case k10 => k_is); (case a11 => k_is); (case i11 => k_is)
    (case n11 => k_is); (case l11 => k_is); (case c11 => k_is); (case k11 => k_is)
    (case a12 => k_is); (case i12 => k_is); (case n12 => k_is); (case l12 => k_is)
    (case c12 => k_is); (case k12 => k_is); (case a13 => k_is); (case l13 => k_is)
    (case c13 => k_is); (case k13 => k_is); (case a14 => k_is); (case l14 => k_is)
    (case c14 => k_is); (case k14 => k_is); (case a15 => k_is); (case l15 => k_is)
    (case c15 => k_is); (case k15 => k_is); (case a16 => k_is); (case l16 => k_is)
    (case c16 => k_is); (case k16 => k_is); (case a17 => k_is); (case l17 => k_is)
    (case c17 => k_is); (case k17 => k_is); (case a18 => k_is); (case l18 => k_is)
    (case c18 => k_is); (case k18 => k_is); (case a19 => k_is); (case l19 => k_is)
    (case c19 => k_is); (case k19 => k_is); (case a20 => k_is); (case l20 => k_is)
    (case c20 => k_is); (case k20 => k_is); (case a21 => k_is); (case l21 => k_is)
    (case c21 => k_is); (case k21 => k_is); (case a22 => k_is); (case l22 => k_is)
    (case c22 => k_is); (case k22 => k_is); (case a23 => k_is); (case l23 => k_is)
    (case c23 => k_is); (case k23 => k_is); (case a24 => k_is); (case l24 => k_is)
    (case c24 => k_is); (case k24 => k_is); (case z_LookupError => k_is); (case z_ValueError => k_is)
    (case z_abs => k_is); (case z_all => k_is); (case z_bool => k_is); (case z_int => k_is)
    (case z_isinstance => k_is); (case z_len => k_is); (case z_list => k_is); (case z_range => k_is)
    (case z_repr => k_is); (case z_str => k_is); (case z_tuple => k_is); (case y_LETTERS => k_is)
    (case y_MAX_WORD => k_is); (case ka_BadLetter => k_is); (case kt_BadLetter => k_is); (case kh_BadLetter => k_is)
    (case ke_BadLetter => k_is); (case ka_BadNumber => k_is); (case kt_BadNumber => k_is); (case kh_BadNumber => k_is)
    (case ke_BadNumber => k_is); (case ka_BadOrder => k_is); (case kt_BadOrder => k_is); (case kh_BadOrder => k_is)
    (case ke_BadOrder => k_is); (case ka_BadWord => k_is); (case kt_BadWord => k_is); (case kh_BadWord => k_is)
    (case ke_BadWord => k_is); (case ka_NoIndex => k_is); (case kt_NoIndex => k_is); (case kh_NoIndex => k_is)
    (case ke_NoIndex => k_is); (case ka_NoPlace => k_is); (case kt_NoPlace => k_is); (case kh_NoPlace => k_is)
    (case ke_NoPlace => k_is); (case ka_NoSheet => k_is); (case kt_NoSheet => k_is); (case kh_NoSheet => k_is)
    (case ke_NoSheet => k_is); (case ka_PadError => k_is); (case kt_PadError => k_is); (case kh_PadError => k_is)
    (case ke_PadError => k_is); (case ka_TooLong => k_is); (case kt_TooLong => k_is); (case kh_TooLong => k_is)
    (case ke_TooLong => k_is); (case kk_BadWord => k_is); (case kg_BadWord => k_is); (case kj_BadWord => k_is)
    (case kc_BadWord => k_is); (case km_BadWord => k_is); (case kz_BadWord => k_is); (case ks_BadWord => k_is)
    (case ki_BadWord => k_is); (case kf_BadWord => k_is); (case kn_BadWord => k_is); (case kl_BadWord => k_is)
    (case kd_BadWord => k_is); (case kq_BadWord => kx_is); (case ko_BadWord => kx_is); (case kk_NoPlace => k_is)
    (case kg_NoPlace => k_is); (case kj_NoPlace => k_is); (case kc_NoPlace => k_is); (case km_NoPlace => k_is)
    (case kz_NoPlace => k_is); (case ks_NoPlace => k_is); (case ki_NoPlace => k_is); (case kf_NoPlace => k_is)
    (case kn_NoPlace => k_is); (case kl_NoPlace => k_is); (case kd_NoPlace => k_is); (case kq_NoPlace => kx_is)
    (case ko_NoPlace => kx_is); (case kp_BadWord_BadLetter => k_is); (case kp_BadWord_BadNumber => k_is); (case kp_BadWord_BadOrder => k_is)
    (case kp_BadWord_NoIndex => k_is); (case kp_BadWord_NoPlace => k_is); (case kp_BadWord_NoSheet => k_is); (case kp_BadWord_PadError => k_is)
    (case kp_BadWord_TooLong => k_is); (case kp_NoPlace_BadLetter => k_is); (case kp_NoPlace_BadNumber => k_is); (case kp_NoPlace_BadOrder => k_is)
    (case kp_NoPlace_BadWord => k_is); (case kp_NoPlace_NoIndex => k_is); (case kp_NoPlace_NoSheet => k_is); (case kp_NoPlace_PadError => k_is)
    (case kp_NoPlace_TooLong => k_is); (case kp_BadWord_LookupError => k_is); (case kp_BadWord_ValueError => k_is); (case kp_NoPlace_LookupError => k_is)
    (case kp_NoPlace_ValueError => k_is); (case kS => k_is); (case kT => k_is)

