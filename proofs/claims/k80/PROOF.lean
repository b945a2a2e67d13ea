import PyProof.Rows.All
import Wide.All
import OpenK.AllK
import Wide.FinOn
import HandS.ForMost
import HandS.TupAny
import HandS.TupMul
import HandS.Exc
import HandS.Wide
import HandS.StrMore
import HandS.Style
import HandS.Flow
import PyProof.StrBlock2
import PyProof.ReprRoads
import HandS.NoneIn
import HandS.Deep
import PyProof.StrLawsFrom
import PyProof.Rows.StrRev
import HandS.IsInst
import HandS.Zip
import PyProof.EnumMake
import PyProof.Draws
import HandS.Star
import KE.GoesEnum
import KE.KDictZip
import HandS.DictTup
import HandS.NamedTupSort
import HandS.SortInts
import HandS.SetFor
import PyProof.P3In
import HandS.ExcIs
import HandS.ExcOwn
import HandS.ExcField
import HandS.Small
import KE.KExcInit
import KE.KExcIs
import KE.KExcLine
import HandS.Strs
import HandS.WideBits
import HandS.Replace
import HandS.ReplaceList
import PyProof.Rows.StrBetween
import HandS.Conv
import PyProof.CallStr
import PyProof.Rows.IntBool
import KE.DatumOrd
import HandS.Property
import KE.KOpsOwn
import KE.KCallOwn
import PyProof.Conv_bool
import PyProof.InstNe
import PyProof.StrLaws
import HandS.FStr
import PyProof.StrLawsChain
import PyProof.StrLawsTight
import PyProof.Rows.StrFacts2
import KE.IntTextLaws
import HandS.ReplaceLit
import HandS.Text
import HandS.ExcValue
import PySem.Challenge.RW_carbonpad_k80_histories_that_are_wrong
set_option Elab.async false
set_option linter.all false
set_option maxRecDepth 100000
set_option maxHeartbeats 1000000
namespace DL
open PySem PySem.Spec PyProof.Rows L2
/-- a tuple at p that nobody knows: it has no dict -/
def newT (H : Hp) (Q : VK) (vs : List V) : Prop := ∀ (p : Addr) (ob : Obj), H p = none → ob.dict = none → Q (.ref p) (upd H p (.frz ob (.tup vs)))
section
variable {X : Cx}
/-- the object just pushed -/
theorem fin_tup {pins : List (Addr × Obj)} {σ : L2.St} {H : Hp} {s : Shared} {Q : VK} {vs : List V} {its : List Value} (I : Inv X pins σ H s) (hz : vs.length ≤ sizeLine) (r : Vals vs its) (q : newT H Q vs) :
    EP X pins σ Q (.ref s.heap.objs.size) { s with heap := s.heap.push { cls := .type "tuple", data := .seq its.toArray } } :=
  ⟨.ref s.heap.objs.size, _, I.laid (t' := s.toks) (o := .frz { cls := .type "tuple", data := .seq its.toArray } (.tup vs)) (fun b ob q => Heap.get?_push_of_some _ q) (Nat.le_refl _) ⟨Heap.get?_push_size _ rfl, hz, its, r, IsTup.new _ _⟩, rfl, q _ _ (I.hok.fresh (Nat.le_refl _)) rfl⟩
/-- a display -/
def tTupZ (t : TA) : TE := fun σ H Q => t σ H fun xs H1 => xs.length ≤ sizeLine ∧ newT H1 Q xs
theorem pe_tupZ {es : List Expr} {t : TA} {x1 : Nat} {pos : Pos} (h : PA X es t) : PE X (.Tuple es x1 pos) (tTupZ t) := by
  refine ⟨fun pins s σ H Q I hq => ?_⟩
  refine wpAny_Tuple_spliced (thn (h.run pos pins s σ H _ I hq) fun us s1 ⟨xs, H1, I1, r, z, q⟩ => ⟨by rw [← r.length]; exact z, ?_⟩)
  exact fin_tup I1 z r q
/-- tuple(x) -/
def rTupZ (K : PySem.W.Frag) : List V → Hp → VK → Prop := fun xs H Q => ∃ p ys, xs = [.ref p] ∧ ((SqL K H p ys ∧ newT H Q ys) ∨ (SqT K H p ys ∧ Q (.ref p) H))
theorem call_tupZ : CallR X (.type "tuple") (rTupZ X.K) := by
  intro pins s σ H xs us Q I r h
  obtain ⟨p, ys, rfl, h⟩ := h
  obtain ⟨u, rfl, rx⟩ := vals1 r
  cases rx
  rcases h with ⟨hq, q⟩ | ⟨hq, q⟩
  · obtain ⟨its, r', pl, hz⟩ := I.list hq
    have hlen := r'.length
    refine call_tuple_list pl.isList (fun h' kp => ?_) (by simp only [List.size_toArray] <;> omega)
    have I1 : Inv X pins σ H { s with heap := h' } := I.kept (t' := s.toks) kp
    exact fin_tup I1 hz r' q
  · obtain ⟨its, r', pl, hz⟩ := I.tuple hq
    exact call_tuple_same pl ⟨.ref p, H, I, rfl, q⟩
/-- x + y -/
def rCatZ (K : PySem.W.Frag) : R2 := fun x y H Q => ∃ a b xs ys, x = .ref a ∧ y = .ref b ∧ SqT K H a xs ∧ SqT K H b ys ∧ xs.length + ys.length ≤ sizeLine ∧
  (xs = [] → Q (.ref b) H) ∧ (xs ≠ [] → ys = [] → Q (.ref a) H) ∧ (xs ≠ [] → ys ≠ [] → newT H Q (xs ++ ys))
theorem op_catZ : OpR X (binaryOp .Add) (rCatZ X.K) := by
  intro pins s σ H x y v u Q I rx ry h
  obtain ⟨a, b, xs, ys, rfl, rfl, ha, hb, hz, q0, q1, q2⟩ := h
  cases rx
  cases ry
  obtain ⟨its, r1, p1, _⟩ := I.tuple ha
  obtain ⟨its2, r2, p2, _⟩ := I.tuple hb
  by_cases hx : xs = []
  · subst hx
    cases r1
    exact cat_tup0 p1 p2 ⟨.ref b, H, I, rfl, q0 rfl⟩
  · refine HT.cat_tup p1 p2 (fun z => hx (r1.nil_iff.mp z)) (fun z => ⟨.ref a, H, I, rfl, q1 hx (r2.nil_iff.mp z)⟩) (fun z => ?_) (by rw [← r1.length, ← r2.length]; exact hz)
    exact fin_tup I (by rw [List.length_append]; exact hz) (r1.append r2) (q2 hx fun w => z (r2.nil_iff.mpr w))
/-- x[i:j] -/
def rSlZ (K : PySem.W.Frag) : V → Option Int → Option Int → Hp → VK → Prop := fun x lo hi H Q => ∃ a xs, x = .ref a ∧ SqT K H a xs ∧
  (HT.sIx xs.length 0 lo = 0 ∧ HT.sIx xs.length xs.length hi = xs.length → Q (.ref a) H) ∧ (¬ (HT.sIx xs.length 0 lo = 0 ∧ HT.sIx xs.length xs.length hi = xs.length) → newT H Q (cutV xs lo hi))
theorem sl_tupZ : SlR X (rSlZ X.K) := by
  intro pins s σ H x v vl vu lo hi sl Q I rx hs pl pu h
  obtain ⟨a, xs, rfl, hx, q1, q2⟩ := h
  cases rx
  obtain ⟨its, r, ht, hz⟩ := I.tuple hx
  have hlen : its.toArray.size = xs.length := by rw [List.size_toArray]; exact r.length.symm
  refine ⟨"tuple", _, PyProof.Rows.slot_tuple_getitem.lookup, ht.typeIs, ?_⟩
  by_cases hw : HT.sIx xs.length 0 lo = 0 ∧ HT.sIx xs.length xs.length hi = xs.length
  · exact getItem_tuple_whole ht hs pl pu (by rw [hlen]; exact hw) ⟨.ref a, H, I, rfl, q1 hw⟩
  · refine HT.getItem_tuple_cut ht hs pl pu (by rw [hlen]; exact hw) ?_ (by rw [hlen]; exact hz)
    rw [hlen]
    exact fin_tup I (Nat.le_trans (cutV_length xs lo hi) hz) ((r.drop (HT.sIx xs.length 0 lo)).take (HT.sIx xs.length xs.length hi - HT.sIx xs.length 0 lo)) (q2 hw)
/-- x * k, x not empty, 2 <= k -/
def rRepZ (K : PySem.W.Frag) : R2 := fun x y H Q => ∃ l k xs, x = .ref l ∧ y = .int k ∧ SqT K H l xs ∧ xs ≠ [] ∧ 2 ≤ k ∧ k ≤ 1000 ∧ xs.length ≤ 1000 ∧ newT H Q (List.replicate k.toNat xs).flatten
theorem op_repZ : OpR X (binaryOp .Mult) (rRepZ X.K) := by
  intro pins s σ H x y v u Q I rx ry h
  obtain ⟨l, k, xs, rfl, rfl, hT, hne, h1, h2, hz, q⟩ := h
  cases rx
  obtain ⟨t, rfl⟩ := ry
  obtain ⟨its, r, ⟨⟨cls, dd, data, sl⟩, ho, hc, n, hd⟩, hs⟩ := I.tuple hT
  simp only at hc hd
  subst hc hd
  have el : its.length = xs.length := r.length.symm
  have ne : its ≠ [] := fun e => hne (List.eq_nil_of_length_eq_zero (by rw [← el, e]; rfl))
  have em : its.toArray.isEmpty = false := by cases its with | nil => exact absurd rfl ne | cons a b => rfl
  have es : its.toArray.size = xs.length := by rw [List.size_toArray, el]
  have hm : ((its.toArray.size : Nat) : Int) * k ≤ 1000000 := by
    rw [es]
    have a1 : ((xs.length : Nat) : Int) * k ≤ 1000 * k := Int.mul_le_mul_of_nonneg_right (by omega) (by omega)
    omega
  have a1 : k.toNat * xs.length ≤ 1000 * 1000 := Nat.mul_le_mul (by omega) hz
  have fl : (List.replicate k.toNat its).flatten.length ≤ sizeLine := by rw [PyProof.Rows.lm_len_rep_flat, el, sizeLine_eq]; omega
  have d0 : (decide (k < -(2 ^ 63)) || decide (k ≥ 2 ^ 63)) = false := by rw [decide_eq_false (by omega), decide_eq_false (by omega)] <;> rfl
  have d1 : (its.toArray.isEmpty || k == 1) = false := by rw [em, Bool.false_or]; exact beq_eq_false_iff_ne.mpr (by omega)
  have d2 : (decide (k ≤ 0) || its.toArray.isEmpty) = false := by rw [em, Bool.or_false]; exact decide_eq_false (by omega)
  have d4 : Builtin.Tuple.tupleTooMany (((its.toArray.size : Nat) : Int) * k) = false := by unfold Builtin.Tuple.tupleTooMany; rw [sizeLine_eq]; exact decide_eq_false (by omega)
  refine wpAny_binaryOp_repeat_ref (T := "tuple") (U := "int") (by decide) ⟨_, ho, rfl⟩ (fun s' => typeIs_int s' k t) noFill_tuple_mul F.fills_int_mul F.slot_int_rmul repeat_tuple F.slot_int_index.lookup
    (call_meets F.slot_int_rmul (typeIs_int s k t) F.entry_int_rmul (F.args_int_rmul_2 _ _) (int_rmul_tuple k t l its.toArray n dd sl)
      ⟨ho, rfl, ⟨_, ho, rfl⟩, call_meets F.slot_tuple_mul ⟨_, ho, rfl⟩ F.entry_tuple_mul (F.args_tuple_mul_2 _ _) (tuple_mulW l its.toArray n dd sl k t d0 d1 d2 (by omega) d4 (by rw [size_rep, List.size_toArray]; exact fl)) ⟨ho, ?_⟩⟩)
  rw [size_rep]
  exact fin_tup I (by rw [PyProof.Rows.lm_len_rep_flat, sizeLine_eq]; omega) (r.rep k.toNat) q
end
end DL

namespace DL
open PySem PySem.Spec PyProof.Rows L2

/-- a text by its signs -/
abbrev S (l : List Nat) : Str := ⟨l.toArray⟩
/-- data as a tree; ref: an object that changes; obj: an own instance that does not; exn: an exception that was caught; gl: a def or a class of the module; scr: the script -/
inductive D where
  | non | bl (b : Bool) | int (i : Int) | str (x : List Nat) | tup (xs : List D) | lst (xs : List D)
  | dct (kvs : List (Key × D)) | scr (ns : List Int) | ref (a : Addr) | ty (n : String) | gl (x : Str) | pr (a b : D) | obj (c : Str) (fs : List (Str × D)) | exn (c : Str) (fs : List (Str × D))
/-- a tuple that is known to have no dict -/
def PlT (F : Hp) (a : Addr) (vs : List V) : Prop := ∃ ob : Obj, ob.dict = none ∧ F a = some (.frz ob (.tup vs))
/-- an object that changes -/
inductive MO where
  | lst (xs : List D) | ins (c : Str) (fs : List (Str × D)) | dct (kvs : List (Key × D)) | dtt (kvs : List (List Key × D)) | xd (fs : List (Str × D))
abbrev Sto := Addr → Option MO
def sset (μ : Sto) (a : Addr) (o : MO) : Sto := fun b => if b = a then some o else μ b
theorem sset_same {μ : Sto} {a : Addr} {o : MO} : sset μ a o a = some o := if_pos rfl
theorem sset_ne {μ : Sto} {a b : Addr} {o : MO} (h : b ≠ a) : sset μ a o b = μ b := if_neg h
/-- what a slot holds: a value; a list of the frame's own, which nobody else knows -/
inductive DS where
  | val (d : D) | own (xs : List D)
abbrev DEnv := List (Option DS)

mutual
inductive Dt (K : PySem.W.Frag) (mg : Str → Option Value) (F : Hp) : V → D → Prop
  | non : Dt K mg F .non .non
  | bl (b : Bool) : Dt K mg F (.bl b) (.bl b)
  | int (i : Int) : Dt K mg F (.int i) (.int i)
  | str (x : List Nat) : Dt K mg F (.str (S x)) (.str x)
  | tup {a : Addr} {vs : List V} {ds : List D} : PlT F a vs → Dts K mg F vs ds → Dt K mg F (.ref a) (.tup ds)
  | lst {a : Addr} {vs : List V} {ds : List D} : F a = some (.lst vs) → Dts K mg F vs ds → Dt K mg F (.ref a) (.lst ds)
  | dct {a : Addr} {vs : List (Key × V)} {ds : List (Key × D)} : F a = some (.dK vs) → Dks K mg F vs ds → Dt K mg F (.ref a) (.dct ds)
  | scr {a : Addr} {ns : List Int} : SqL K F a (ns.map V.int) → Dt K mg F (.ref a) (.scr ns)
  | ref (a : Addr) : Dt K mg F (.ref a) (.ref a)
  | ty (n : String) : Dt K mg F (.ty n) (.ty n)
  | gl {x : Str} {a : Addr} : mg x = some (.ref a) → Dt K mg F (.ref a) (.gl x)
  | pr {a : Addr} {v w : V} {d e : D} : F a = some (.tup [v, w]) → Dt K mg F v d → Dt K mg F w e → Dt K mg F (.ref a) (.pr d e)
  | obj {a C dx : Addr} {c : Str} {vfs : List (Str × V)} {fs : List (Str × D)} : mg c = some (.ref C) → F a = some (.ins C dx vfs) → vfs.map (·.1) = fs.map (·.1) → Dts K mg F (vfs.map (·.2)) (fs.map (·.2)) → Dt K mg F (.ref a) (.obj c fs)
  | exn0 {a C : Addr} {c : Str} {oe : Obj} : mg c = some (.ref C) → F a = some (.frz oe (.own 0)) → Zc (.ref C) none oe → (∃ vs, oe.data = .fields vs) → Dt K mg F (.ref a) (.exn c [])
  | exn1 {a C dx : Addr} {c : Str} {oe : Obj} {vfs : List (Str × V)} {fs : List (Str × D)} : mg c = some (.ref C) → F a = some (.frz oe (.own 0)) → Zc (.ref C) (some dx) oe → (∃ vs, oe.data = .fields vs) → F dx = some (.xd vfs) → vfs.map (·.1) = fs.map (·.1) → Dts K mg F (vfs.map (·.2)) (fs.map (·.2)) → Dt K mg F (.ref a) (.exn c fs)
inductive Dts (K : PySem.W.Frag) (mg : Str → Option Value) (F : Hp) : List V → List D → Prop
  | nil : Dts K mg F [] []
  | cons {v : V} {vs : List V} {d : D} {ds : List D} : Dt K mg F v d → Dts K mg F vs ds → Dts K mg F (v :: vs) (d :: ds)
inductive Dks (K : PySem.W.Frag) (mg : Str → Option Value) (F : Hp) : List (Key × V) → List (Key × D) → Prop
  | nil : Dks K mg F [] []
  | cons {k : Key} {v : V} {vs : List (Key × V)} {d : D} {ds : List (Key × D)} : Dt K mg F v d → Dks K mg F vs ds → Dks K mg F ((k, v) :: vs) ((k, d) :: ds)
end

section
variable {K : PySem.W.Frag} {mg : Str → Option Value} {F F' H H' : Hp}
theorem SqT.mono' {a : Addr} {vs : List V} (hF : ∀ a o, F a = some o → F' a = some o) (h : SqT K F a vs) : SqT K F' a vs := by
  rcases h with (h | ⟨o, h⟩) | h
  · exact .inl (.inl (hF _ _ h))
  · exact .inl (.inr ⟨o, hF _ _ h⟩)
  · exact .inr h
theorem PlT.mono {a : Addr} {vs : List V} (hF : ∀ a o, F a = some o → F' a = some o) (h : PlT F a vs) : PlT F' a vs := let ⟨ob, h1, h2⟩ := h; ⟨ob, h1, hF _ _ h2⟩
theorem PlT.sq {a : Addr} {vs : List V} (h : PlT F a vs) : SqT K F a vs := let ⟨ob, _, h2⟩ := h; .inl (.inr ⟨ob, h2⟩)
theorem SqL.mono' {a : Addr} {vs : List V} (hF : ∀ a o, F a = some o → F' a = some o) (h : SqL K F a vs) : SqL K F' a vs := by
  rcases h with (h | ⟨o, h⟩) | h
  · exact .inl (.inl (hF _ _ h))
  · exact .inl (.inr ⟨o, hF _ _ h⟩)
  · exact .inr h
mutual
theorem Dt.mono (hF : ∀ a o, F a = some o → F' a = some o) : ∀ {v : V} {d : D}, Dt K mg F v d → Dt K mg F' v d
  | _, _, .non => .non
  | _, _, .bl b => .bl b
  | _, _, .int i => .int i
  | _, _, .str x => .str x
  | _, _, .tup h r => .tup (h.mono hF) (Dts.mono hF r)
  | _, _, .lst h r => .lst (hF _ _ h) (Dts.mono hF r)
  | _, _, .dct h r => .dct (hF _ _ h) (Dks.mono hF r)
  | _, _, .scr h => .scr (SqL.mono' hF h)
  | _, _, .ref a => .ref a
  | _, _, .ty n => .ty n
  | _, _, .gl h => .gl h
  | _, _, .pr h a b => .pr (hF _ _ h) (Dt.mono hF a) (Dt.mono hF b)
  | _, _, .obj h1 h2 h3 h4 => .obj h1 (hF _ _ h2) h3 (Dts.mono hF h4)
  | _, _, .exn0 h1 h2 h3 h4 => .exn0 h1 (hF _ _ h2) h3 h4
  | _, _, .exn1 h1 h2 h3 h4 h5 h6 h7 => .exn1 h1 (hF _ _ h2) h3 h4 (hF _ _ h5) h6 (Dts.mono hF h7)
theorem Dts.mono (hF : ∀ a o, F a = some o → F' a = some o) : ∀ {vs : List V} {ds : List D}, Dts K mg F vs ds → Dts K mg F' vs ds
  | _, _, .nil => .nil
  | _, _, .cons h r => .cons (Dt.mono hF h) (Dts.mono hF r)
theorem Dks.mono (hF : ∀ a o, F a = some o → F' a = some o) : ∀ {vs : List (Key × V)} {ds : List (Key × D)}, Dks K mg F vs ds → Dks K mg F' vs ds
  | _, _, .nil => .nil
  | _, _, .cons h r => .cons (Dt.mono hF h) (Dks.mono hF r)
end
theorem Dts.length : ∀ {vs : List V} {ds : List D}, Dts K mg F vs ds → vs.length = ds.length
  | _, _, .nil => rfl
  | _, _, .cons _ r => congrArg (· + 1) r.length
theorem Dts.get : ∀ {vs : List V} {ds : List D} {i : Nat} {d : D}, Dts K mg F vs ds → ds[i]? = some d → ∃ v, vs[i]? = some v ∧ Dt K mg F v d
  | _, _, _, _, .nil, e => by simp at e
  | _, _, 0, _, .cons r _, e => by simp at e; subst e; exact ⟨_, rfl, r⟩
  | _, _, i + 1, d, .cons _ t, e => by
    obtain ⟨u, h1, h2⟩ := Dts.get (i := i) (d := d) t (by simpa using e)
    exact ⟨u, by simpa using h1, h2⟩
theorem Dts.getV : ∀ {vs : List V} {ds : List D} {i : Nat} {v : V}, Dts K mg F vs ds → vs[i]? = some v → ∃ d, ds[i]? = some d ∧ Dt K mg F v d
  | _, _, _, _, .nil, e => by simp at e
  | _, _, 0, _, .cons r _, e => by simp at e; subst e; exact ⟨_, rfl, r⟩
  | _, _, i + 1, v, .cons _ t, e => by
    obtain ⟨u, h1, h2⟩ := Dts.getV (i := i) (v := v) t (by simpa using e)
    exact ⟨u, by simpa using h1, h2⟩
theorem Dts.append : ∀ {vs ws : List V} {ds es : List D}, Dts K mg F vs ds → Dts K mg F ws es → Dts K mg F (vs ++ ws) (ds ++ es)
  | _, _, _, _, .nil, s => s
  | _, _, _, _, .cons r t, s => .cons r (Dts.append t s)
theorem Dts.take : ∀ {vs : List V} {ds : List D} (n : Nat), Dts K mg F vs ds → Dts K mg F (vs.take n) (ds.take n)
  | _, _, 0, _ => .nil
  | _, _, _ + 1, .nil => .nil
  | _, _, n + 1, .cons r t => .cons r (Dts.take n t)
theorem Dts.drop : ∀ {vs : List V} {ds : List D} (n : Nat), Dts K mg F vs ds → Dts K mg F (vs.drop n) (ds.drop n)
  | _, _, 0, r => r
  | _, _, _ + 1, .nil => .nil
  | _, _, n + 1, .cons _ t => Dts.drop n t
theorem Dts.set {v : V} {d : D} (r : Dt K mg F v d) : ∀ {vs : List V} {ds : List D} (i : Nat), Dts K mg F vs ds → Dts K mg F (vs.set i v) (ds.set i d)
  | _, _, _, .nil => .nil
  | _, _, 0, .cons _ t => .cons r t
  | _, _, i + 1, .cons q t => .cons q (Dts.set r i t)
theorem Dts.revAux : ∀ {vs : List V} {ds : List D} {ws : List V} {es : List D}, Dts K mg F vs ds → Dts K mg F ws es → Dts K mg F (vs.reverseAux ws) (ds.reverseAux es)
  | _, _, _, _, .nil, s => s
  | v :: vs, d :: ds, ws, es, .cons a b, s => Dts.revAux (vs := vs) (ds := ds) (ws := v :: ws) (es := d :: es) b (.cons a s)
theorem Dts.reverse {vs : List V} {ds : List D} (r : Dts K mg F vs ds) : Dts K mg F vs.reverse ds.reverse := Dts.revAux r .nil
theorem Dts.one {v : V} {d : D} (h : Dt K mg F v d) : Dts K mg F [v] [d] := .cons h .nil
theorem Dts.ints : ∀ {vs : List V} {ns : List Int}, Dts K mg F vs (ns.map D.int) → vs = ns.map V.int
  | _, [], .nil => rfl
  | _, n :: ns, .cons h r => by
    cases h
    rw [List.map_cons, ← Dts.ints r]
theorem Dts.ofInts : ∀ (ns : List Int), Dts K mg F (ns.map V.int) (ns.map D.int)
  | [] => .nil
  | n :: ns => .cons (.int n) (Dts.ofInts ns)
theorem Dts.bls : ∀ {vs : List V} {ns : List Bool}, Dts K mg F vs (ns.map D.bl) → vs = ns.map V.bl
  | _, [], .nil => rfl
  | _, n :: ns, .cons h r => by
    cases h
    rw [List.map_cons, ← Dts.bls r]
theorem Dts.strs : ∀ {vs : List V} {ns : List (List Nat)}, Dts K mg F vs (ns.map D.str) → vs = (ns.map S).map V.str
  | _, [], .nil => rfl
  | _, n :: ns, .cons h r => by
    cases h
    rw [List.map_cons, List.map_cons, ← Dts.strs r]
theorem Dts.ofStrs : ∀ (ns : List (List Nat)), Dts K mg F ((ns.map S).map V.str) (ns.map D.str)
  | [] => .nil
  | n :: ns => .cons (.str n) (Dts.ofStrs ns)
theorem Dks.append : ∀ {vs ws : List (Key × V)} {ds es : List (Key × D)}, Dks K mg F vs ds → Dks K mg F ws es → Dks K mg F (vs ++ ws) (ds ++ es)
  | _, _, _, _, .nil, s => s
  | _, _, _, _, .cons r t, s => .cons r (Dks.append t s)
theorem Dks.keys : ∀ {vs : List (Key × V)} {ds : List (Key × D)}, Dks K mg F vs ds → vs.map (·.1) = ds.map (·.1)
  | _, _, .nil => rfl
  | _, _, .cons (k := k) _ r => by rw [List.map_cons, List.map_cons, Dks.keys r]
end

section
variable (K : PySem.W.Frag) (mg : Str → Option Value)
def MOk (F H : Hp) (a : Addr) : MO → Prop
  | .lst xs => ∃ vs, H a = some (.lst vs) ∧ Dts K mg F vs xs
  | .ins c fs => ∃ C dx vfs, mg c = some (.ref C) ∧ H a = some (.ins C dx vfs) ∧ vfs.map (·.1) = fs.map (·.1) ∧ Dts K mg F (vfs.map (·.2)) (fs.map (·.2))
  | .dct kvs => ∃ vs, H a = some (.dK vs) ∧ Dks K mg F vs kvs
  | .dtt kvs => ∃ vs, H a = some (.dT vs) ∧ vs.map (·.1) = kvs.map (·.1) ∧ Dts K mg F (vs.map (·.2)) (kvs.map (·.2))
  | .xd fs => ∃ vfs, H a = some (.xd vfs) ∧ vfs.map (·.1) = fs.map (·.1) ∧ Dts K mg F (vfs.map (·.2)) (fs.map (·.2))
/-- F: what never changes any more; μ: what may change -/
structure Ok (F : Hp) (μ : Sto) (H : Hp) : Prop where
  sub : ∀ a o, F a = some o → H a = some o
  dis : ∀ a m, μ a = some m → F a = none
  sto : ∀ a m, μ a = some m → MOk K mg F H a m
/-- behind a step: what never changes stands, what nobody else knows stands -/
structure Ext (F : Hp) (μ : Sto) (H : Hp) (F' : Hp) (μ' : Sto) (H' : Hp) : Prop where
  mono : ∀ a o, F a = some o → F' a = some o
  keep : ∀ a o, H a = some o → μ a = none → H' a = some o ∧ F' a = F a ∧ μ' a = none
  live : ∀ a, H' a = none → H a = none
def SOk (F : Hp) (μ : Sto) (H : Hp) (v : V) : DS → Prop
  | .val d => Dt K mg F v d
  | .own xs => ∃ a vs, v = .ref a ∧ F a = none ∧ μ a = none ∧ H a = some (.lst vs) ∧ Dts K mg F vs xs
structure Rel (F : Hp) (ρ : DEnv) (μ : Sto) (σ : L2.St) (H : Hp) : Prop where
  ok : Ok K mg F μ H
  len : ρ.length = σ.length
  slot : ∀ (i : Nat) (s : DS), ρ[i]? = some (some s) → ∃ v, σ[i]? = some (some v) ∧ SOk K mg F μ H v s
  apart : ∀ (i j : Nat) (xs ys : List D), ρ[i]? = some (some (DS.own xs)) → ρ[j]? = some (some (DS.own ys)) → σ[i]? = σ[j]? → i = j
end

section
variable {K : PySem.W.Frag} {mg : Str → Option Value} {F F' F'' H H' H'' : Hp} {μ μ' μ'' : Sto} {ρ : DEnv} {σ : L2.St}
theorem Ext.refl : Ext F μ H F μ H := ⟨fun _ _ e => e, fun _ _ e n => ⟨e, rfl, n⟩, fun _ e => e⟩
theorem Ext.trans (a : Ext F μ H F' μ' H') (b : Ext F' μ' H' F'' μ'' H'') : Ext F μ H F'' μ'' H'' :=
  ⟨fun x o e => b.mono x o (a.mono x o e), fun x o e n => by
    obtain ⟨h1, h2, h3⟩ := a.keep x o e n
    obtain ⟨g1, g2, g3⟩ := b.keep x o h1 h3
    exact ⟨g1, g2.trans h2, g3⟩, fun x e => a.live x (b.live x e)⟩
theorem upd_live {H : Hp} {p : Addr} {u : HO} : ∀ a, upd H p u a = none → H a = none := fun a e => by
  by_cases h : a = p
  · subst h; rw [upd_same] at e; cases e
  · rw [upd_ne h] at e; exact e
theorem SOk.ext {v : V} {s : DS} (e : Ext F μ H F' μ' H') (h : SOk K mg F μ H v s) : SOk K mg F' μ' H' v s := by
  cases s with
  | val d => exact Dt.mono e.mono h
  | own xs =>
    obtain ⟨a, vs, rfl, f, m, hh, d⟩ := h
    obtain ⟨h1, h2, h3⟩ := e.keep a _ hh m
    exact ⟨a, vs, rfl, h2.trans f, h3, h1, d.mono e.mono⟩
theorem Rel.ext (r : Rel K mg F ρ μ σ H) (e : Ext F μ H F' μ' H') (o : Ok K mg F' μ' H') : Rel K mg F' ρ μ' σ H' :=
  ⟨o, r.len, fun i s h => by
    obtain ⟨v, h1, h2⟩ := r.slot i s h
    exact ⟨v, h1, h2.ext e⟩, r.apart⟩
theorem Ok.fresh (o : Ok K mg F μ H) {p : Addr} (h : H p = none) : F p = none ∧ μ p = none := by
  constructor
  · cases e : F p with
    | none => rfl
    | some x =>
      have q := o.sub p x e
      rw [h] at q
      cases q
  · cases e : μ p with
    | none => rfl
    | some m =>
      have q := o.sto p m e
      cases m with
      | lst xs => obtain ⟨vs, h1, _⟩ := q; rw [h] at h1; cases h1
      | ins c fs => obtain ⟨_, _, _, _, h1, _⟩ := q; rw [h] at h1; cases h1
      | dct kvs => obtain ⟨vs, h1, _⟩ := q; rw [h] at h1; cases h1
      | dtt kvs => obtain ⟨vs, h1, _⟩ := q; rw [h] at h1; cases h1
      | xd fs => obtain ⟨vs, h1, _⟩ := q; rw [h] at h1; cases h1
theorem MOk.up {a : Addr} {m : MO} (h : MOk K mg F H a m) (hF : ∀ a o, F a = some o → F' a = some o) (hH : H' a = H a) : MOk K mg F' H' a m := by
  cases m with
  | lst xs => obtain ⟨vs, h1, h2⟩ := h; exact ⟨vs, hH.trans h1, h2.mono hF⟩
  | ins c fs => obtain ⟨C, dx, vfs, h0, h1, h2, h3⟩ := h; exact ⟨C, dx, vfs, h0, hH.trans h1, h2, h3.mono hF⟩
  | dct kvs => obtain ⟨vs, h1, h2⟩ := h; exact ⟨vs, hH.trans h1, h2.mono hF⟩
  | dtt kvs => obtain ⟨vs, h1, h2, h3⟩ := h; exact ⟨vs, hH.trans h1, h2, h3.mono hF⟩
  | xd fs => obtain ⟨vs, h1, h2, h3⟩ := h; exact ⟨vs, hH.trans h1, h2, h3.mono hF⟩
/-- a new object that never changes -/
theorem Ok.lay (o : Ok K mg F μ H) {p : Addr} (h : H p = none) (u : HO) : Ok K mg (upd F p u) μ (upd H p u) ∧ Ext F μ H (upd F p u) μ (upd H p u) := by
  obtain ⟨hf, hm⟩ := o.fresh h
  have mono : ∀ a x, F a = some x → upd F p u a = some x := fun a x e => by rw [upd_ne (ne_of_none e hf)]; exact e
  refine ⟨⟨fun a x e => ?_, fun a m e => ?_, fun a m e => ?_⟩, ⟨mono, fun a x e n => ?_, upd_live⟩⟩
  · by_cases ha : a = p
    · subst ha; rw [upd_same] at e ⊢; exact e
    · rw [upd_ne ha] at e ⊢; exact o.sub a x e
  · by_cases ha : a = p
    · subst ha; rw [hm] at e; cases e
    · rw [upd_ne ha]; exact o.dis a m e
  · have ha : a ≠ p := fun q => by subst q; rw [hm] at e; cases e
    exact (o.sto a m e).up mono (upd_ne ha)
  · have ha := ne_of_none e h
    rw [upd_ne ha, upd_ne ha]
    exact ⟨e, rfl, n⟩
/-- an object that changes is changed -/
theorem Ok.write (o : Ok K mg F μ H) {p : Addr} {m0 : MO} (h : μ p = some m0) (u : HO) (m : MO) (hm : MOk K mg F (upd H p u) p m) : Ok K mg F (sset μ p m) (upd H p u) ∧ Ext F μ H F (sset μ p m) (upd H p u) := by
  have hf := o.dis p m0 h
  refine ⟨⟨fun a x e => ?_, fun a m' e => ?_, fun a m' e => ?_⟩, ⟨fun _ _ e => e, fun a x e n => ?_, upd_live⟩⟩
  · rw [upd_ne (ne_of_none e hf)]; exact o.sub a x e
  · by_cases ha : a = p
    · subst ha; exact hf
    · rw [sset_ne ha] at e; exact o.dis a m' e
  · by_cases ha : a = p
    · subst ha; rw [sset_same] at e; cases e; exact hm
    · rw [sset_ne ha] at e; exact (o.sto a m' e).up (fun _ _ e => e) (upd_ne ha)
  · have ha : a ≠ p := fun q => by subst q; rw [n] at h; cases h
    rw [upd_ne ha, sset_ne ha]
    exact ⟨e, rfl, n⟩
/-- a new object that nobody knows: the heap alone grows -/
theorem Ok.layN (o : Ok K mg F μ H) {p : Addr} (h : H p = none) (u : HO) : Ok K mg F μ (upd H p u) ∧ Ext F μ H F μ (upd H p u) := by
  obtain ⟨hf, hn⟩ := o.fresh h
  refine ⟨⟨fun a x e => ?_, o.dis, fun a m' e => ?_⟩, ⟨fun _ _ e => e, fun a x e n => ?_, upd_live⟩⟩
  · rw [upd_ne (ne_of_none e hf)]; exact o.sub a x e
  · have ha : a ≠ p := fun q => by subst q; rw [hn] at e; cases e
    exact (o.sto a m' e).up (fun _ _ e => e) (upd_ne ha)
  · rw [upd_ne (ne_of_none e h)]
    exact ⟨e, rfl, n⟩
/-- an object that nobody else knows is changed -/
theorem Ok.writeN (o : Ok K mg F μ H) {p : Addr} (hf : F p = none) (hn : μ p = none) (u : HO) : Ok K mg F μ (upd H p u) := by
  refine ⟨fun a x e => ?_, o.dis, fun a m' e => ?_⟩
  · rw [upd_ne (ne_of_none e hf)]; exact o.sub a x e
  · have ha : a ≠ p := fun q => by subst q; rw [hn] at e; cases e
    exact (o.sto a m' e).up (fun _ _ e => e) (upd_ne ha)
/-- .. and from then on it never changes -/
theorem Ok.freeze (o : Ok K mg F μ H) {p : Addr} {u : HO} (hf : F p = none) (hn : μ p = none) (hh : H p = some u) : Ok K mg (upd F p u) μ H := by
  have mono : ∀ a x, F a = some x → upd F p u a = some x := fun a x e => by rw [upd_ne (ne_of_none e hf)]; exact e
  refine ⟨fun a x e => ?_, fun a m e => ?_, fun a m e => ?_⟩
  · by_cases ha : a = p
    · subst ha; rw [upd_same] at e; rw [hh]; exact e
    · rw [upd_ne ha] at e; exact o.sub a x e
  · have ha : a ≠ p := fun q => by subst q; rw [hn] at e; cases e
    rw [upd_ne ha]; exact o.dis a m e
  · exact (o.sto a m e).up mono rfl
end

abbrev DK := D → Sto → Prop
/-- an expression's reading over data -/
abbrev TED := DEnv → Sto → DK → Prop
abbrev TTD := DEnv → Sto → (Bool → Sto → Prop) → Prop
abbrev TAD := DEnv → Sto → (List D → Sto → Prop) → Prop
structure DEnds where
  nx : DEnv → Sto → Prop
  rt : DK
  bk : DEnv → Sto → Prop := fun _ _ => False
  ct : DEnv → Sto → Prop := fun _ _ => False
abbrev TSD := DEnds → DEnv → Sto → Prop
section
variable (K : PySem.W.Frag) (mg : Str → Option Value)
def liftE (d : TED) : TE := fun σ H Q => ∃ F ρ μ Qd, Rel K mg F ρ μ σ H ∧ d ρ μ Qd ∧ ∀ v F' μ' H' dv, Ext F μ H F' μ' H' → Ok K mg F' μ' H' → Dt K mg F' v dv → Qd dv μ' → Q v H'
/-- a value that is only looked at: as a value, or a list of the frame's own -/
def Wk (F : Hp) (μ : Sto) (H : Hp) (v : V) (d : D) : Prop := Dt K mg F v d ∨ ∃ a vs xs, v = .ref a ∧ d = .lst xs ∧ F a = none ∧ μ a = none ∧ H a = some (.lst vs) ∧ Dts K mg F vs xs
def liftW (d : TED) : TE := fun σ H Q => ∃ F ρ μ Qd, Rel K mg F ρ μ σ H ∧ d ρ μ Qd ∧ ∀ v F' μ' H' dv, Ext F μ H F' μ' H' → Ok K mg F' μ' H' → Wk K mg F' μ' H' v dv → Qd dv μ' → Q v H'
/-- a new list that nobody knows -/
abbrev TFD := DEnv → Sto → (List D → Sto → Prop) → Prop
def liftF (d : TFD) : TE := fun σ H Q => ∃ F ρ μ Qd, Rel K mg F ρ μ σ H ∧ d ρ μ Qd ∧ ∀ p vs F' μ' H' ds, Ext F μ H F' μ' H' → Ok K mg F' μ' H' → H p = none → F' p = none → μ' p = none → H' p = some (.lst vs) → Dts K mg F' vs ds → Qd ds μ' → Q (.ref p) H'
def liftT (d : TTD) : TT := fun σ H Q => ∃ F ρ μ Qd, Rel K mg F ρ μ σ H ∧ d ρ μ Qd ∧ ∀ b F' μ' H', Ext F μ H F' μ' H' → Ok K mg F' μ' H' → Qd b μ' → Q b H'
def liftA (d : TAD) : TA := fun σ H Q => ∃ F ρ μ Qd, Rel K mg F ρ μ σ H ∧ d ρ μ Qd ∧ ∀ vs F' μ' H' ds, Ext F μ H F' μ' H' → Ok K mg F' μ' H' → Dts K mg F' vs ds → Qd ds μ' → Q vs H'
/-- .. whose values are only looked at -/
inductive Wks (F : Hp) (μ : Sto) (H : Hp) : List V → List D → Prop
  | nil : Wks F μ H [] []
  | cons {v : V} {vs : List V} {d : D} {ds : List D} : Wk K mg F μ H v d → Wks F μ H vs ds → Wks F μ H (v :: vs) (d :: ds)
def liftAW (d : TAD) : TA := fun σ H Q => ∃ F ρ μ Qd, Rel K mg F ρ μ σ H ∧ d ρ μ Qd ∧ ∀ vs F' μ' H' ds, Ext F μ H F' μ' H' → Ok K mg F' μ' H' → Wks K mg F' μ' H' vs ds → Qd ds μ' → Q vs H'
def FLe (F F' : Hp) : Prop := ∀ a o, F a = some o → F' a = some o
/-- the state at the def's entry -/
structure Bs where
  F : Hp
  μ : Sto
  H : Hp
/-- .. and a state within the def -/
structure RelB (B : Bs) (F : Hp) (ρ : DEnv) (μ : Sto) (σ : L2.St) (H : Hp) : Prop where
  rel : Rel K mg F ρ μ σ H
  ext : Ext B.F B.μ B.H F μ H
  new : ∀ (i : Nat) (xs : List D) (a : Addr), ρ[i]? = some (some (DS.own xs)) → σ[i]? = some (some (.ref a)) → B.H a = none
def liftS (B : Bs) (d : TSD) : TS := fun D σ H => ∃ F ρ μ Dd, RelB K mg B F ρ μ σ H ∧ d Dd ρ μ ∧
  (∀ F' ρ' μ' σ' H', FLe F F' → RelB K mg B F' ρ' μ' σ' H' → Dd.nx ρ' μ' → D.nx σ' H') ∧
  (∀ F' ρ' μ' σ' H', FLe F F' → RelB K mg B F' ρ' μ' σ' H' → Dd.bk ρ' μ' → D.bk σ' H') ∧
  (∀ F' ρ' μ' σ' H', FLe F F' → RelB K mg B F' ρ' μ' σ' H' → Dd.ct ρ' μ' → D.ct σ' H') ∧
  (∀ v F' μ' H' dv, Ext B.F B.μ B.H F' μ' H' → Ok K mg F' μ' H' → Dt K mg F' v dv → Dd.rt dv μ' → D.rt v H')
end
theorem FLe.rfl' {F : Hp} : FLe F F := fun _ _ e => e
theorem FLe.trans {F F' F'' : Hp} (h : FLe F F') (g : FLe F' F'') : FLe F F'' := fun a o e => g a o (h a o e)
theorem _root_.L2.PE.weaken {X : Cx} {e : Expr} {t t' : TE} (h : PE X e t) (w : ∀ σ H Q, t' σ H Q → t σ H Q) : PE X e t' := ⟨fun pins s σ H Q I q => h.run pins s σ H Q I (w σ H Q q)⟩
theorem _root_.L2.PT.weaken {X : Cx} {e : Expr} {t t' : TT} (h : PT X e t) (w : ∀ σ H Q, t' σ H Q → t σ H Q) : PT X e t' := ⟨fun pins s σ H Q I q => h.run pins s σ H Q I (w σ H Q q)⟩
theorem _root_.L2.PW.weaken {X : Cx} {e : Expr} {t t' : TT} (h : PW X e t) (w : ∀ σ H Q, t' σ H Q → t σ H Q) : PW X e t' := ⟨fun wh pins s σ H Q I q => h.run wh pins s σ H Q I (w σ H Q q)⟩
theorem _root_.L2.PA.weaken {X : Cx} {e : List Expr} {t t' : TA} (h : PA X e t) (w : ∀ σ H Q, t' σ H Q → t σ H Q) : PA X e t' := ⟨fun pos pins s σ H Q I q => h.run pos pins s σ H Q I (w σ H Q q)⟩
theorem _root_.L2.PS.weaken {X : Cx} {e : Stmt} {t t' : TS} (h : PS X e t) (w : ∀ D σ H, t' D σ H → t D σ H) : PS X e t' := ⟨fun pins s σ H D I q => h.run pins s σ H D I (w D σ H q)⟩
theorem _root_.L2.PSs.weaken {X : Cx} {e : List Stmt} {t t' : TS} (h : PSs X e t) (w : ∀ D σ H, t' D σ H → t D σ H) : PSs X e t' := ⟨fun pins s σ H D I q => h.run pins s σ H D I (w D σ H q)⟩

abbrev DE (X : Cx) (e : Expr) (d : TED) : Prop := PE X e (liftE X.K X.mg d)
abbrev DW (X : Cx) (e : Expr) (d : TED) : Prop := PE X e (liftW X.K X.mg d)
abbrev DF (X : Cx) (e : Expr) (d : TFD) : Prop := PE X e (liftF X.K X.mg d)
abbrev DT (X : Cx) (e : Expr) (d : TTD) : Prop := PT X e (liftT X.K X.mg d)
abbrev DPW (X : Cx) (e : Expr) (d : TTD) : Prop := PW X e (liftT X.K X.mg d)
abbrev DA (X : Cx) (es : List Expr) (d : TAD) : Prop := PA X es (liftA X.K X.mg d)
abbrev DAW (X : Cx) (es : List Expr) (d : TAD) : Prop := PA X es (liftAW X.K X.mg d)
abbrev DSt (X : Cx) (B : Bs) (st : Stmt) (d : TSD) : Prop := PS X st (liftS X.K X.mg B d)
abbrev DSs (X : Cx) (B : Bs) (st : List Stmt) (d : TSD) : Prop := PSs X st (liftS X.K X.mg B d)
end DL

namespace DL
open PySem PySem.Spec PyProof.Rows L2

section
variable {K : PySem.W.Frag} {mg : Str → Option Value} {F F' H H' : Hp} {μ μ' : Sto} {x : V}
theorem Wk.ext {d : D} (e : Ext F μ H F' μ' H') (h : Wk K mg F μ H x d) : Wk K mg F' μ' H' x d := by
  rcases h with h | ⟨a, vs, xs, rfl, rfl, f, m, hh, r⟩
  · exact .inl (h.mono e.mono)
  · obtain ⟨h1, h2, h3⟩ := e.keep a _ hh m
    exact .inr ⟨a, vs, xs, rfl, rfl, h2.trans f, h3, h1, r.mono e.mono⟩
theorem Wk.int {i : Int} (h : Wk K mg F μ H x (.int i)) : x = .int i := by
  rcases h with h | ⟨_, _, _, _, e, _⟩
  · cases h; rfl
  · cases e
theorem Wk.bl {i : Bool} (h : Wk K mg F μ H x (.bl i)) : x = .bl i := by
  rcases h with h | ⟨_, _, _, _, e, _⟩
  · cases h; rfl
  · cases e
theorem Wk.non (h : Wk K mg F μ H x .non) : x = .non := by
  rcases h with h | ⟨_, _, _, _, e, _⟩
  · cases h; rfl
  · cases e
theorem Wk.str {s : List Nat} (h : Wk K mg F μ H x (.str s)) : x = .str (S s) := by
  rcases h with h | ⟨_, _, _, _, e, _⟩
  · cases h; rfl
  · cases e
theorem Wk.ref {a : Addr} (h : Wk K mg F μ H x (.ref a)) : x = .ref a := by
  rcases h with h | ⟨_, _, _, _, e, _⟩
  · cases h; rfl
  · cases e
theorem Wk.ty {n : String} (h : Wk K mg F μ H x (.ty n)) : x = .ty n := by
  rcases h with h | ⟨_, _, _, _, e, _⟩
  · cases h; rfl
  · cases e
theorem SqT.sub (o : Ok K mg F μ H) {a : Addr} {vs : List V} (h : SqT K F a vs) : SqT K H a vs := SqT.mono' o.sub h
theorem Wk.tup (o : Ok K mg F μ H) {ds : List D} (h : Wk K mg F μ H x (.tup ds)) : ∃ a vs, x = .ref a ∧ SqT K H a vs ∧ PlT F a vs ∧ Dts K mg F vs ds := by
  rcases h with h | ⟨_, _, _, _, e, _⟩
  · cases h with
    | tup q r => exact ⟨_, _, rfl, SqT.sub o q.sq, q, r⟩
  · cases e
theorem Wk.lst (o : Ok K mg F μ H) {ds : List D} (h : Wk K mg F μ H x (.lst ds)) : ∃ a vs, x = .ref a ∧ H a = some (.lst vs) ∧ Dts K mg F vs ds := by
  rcases h with h | ⟨a, vs, xs, rfl, e, f, m, hh, r⟩
  · cases h with
    | lst q r => exact ⟨_, _, rfl, o.sub _ _ q, r⟩
  · cases e
    exact ⟨a, vs, rfl, hh, r⟩
theorem Wk.scr (o : Ok K mg F μ H) {ns : List Int} (h : Wk K mg F μ H x (.scr ns)) : ∃ a, x = .ref a ∧ SqL K H a (ns.map V.int) := by
  rcases h with h | ⟨a, vs, xs, rfl, e, f, m, hh, r⟩
  · cases h with
    | scr q => exact ⟨_, rfl, SqL.mono' o.sub q⟩
  · cases e
theorem Wk.dct (o : Ok K mg F μ H) {ds : List (Key × D)} (h : Wk K mg F μ H x (.dct ds)) : ∃ a vs, x = .ref a ∧ H a = some (.dK vs) ∧ Dks K mg F vs ds := by
  rcases h with h | ⟨a, vs, xs, rfl, e, f, m, hh, r⟩
  · cases h with
    | dct q r => exact ⟨_, _, rfl, o.sub _ _ q, r⟩
  · cases e
/-- a new tuple -/
theorem newTup (o : Ok K mg F μ H) {vs : List V} {ds : List D} (r : Dts K mg F vs ds) {p : Addr} {ob : Obj} (hp : H p = none) (ho : ob.dict = none) :
    Ext F μ H (upd F p (.frz ob (.tup vs))) μ (upd H p (.frz ob (.tup vs))) ∧ Ok K mg (upd F p (.frz ob (.tup vs))) μ (upd H p (.frz ob (.tup vs))) ∧ Dt K mg (upd F p (.frz ob (.tup vs))) (.ref p) (.tup ds) := by
  obtain ⟨h1, h2⟩ := o.lay hp (.frz ob (.tup vs))
  exact ⟨h2, h1, .tup ⟨ob, ho, upd_same⟩ (r.mono h2.mono)⟩
/-- a pair that is only unpacked -/
theorem newPr (o : Ok K mg F μ H) {v w : V} {d e : D} (r : Dt K mg F v d) (r2 : Dt K mg F w e) {p : Addr} (hp : H p = none) : Ext F μ H (upd F p (.tup [v, w])) μ (upd H p (.tup [v, w])) ∧ Ok K mg (upd F p (.tup [v, w])) μ (upd H p (.tup [v, w])) ∧ Dt K mg (upd F p (.tup [v, w])) (.ref p) (.pr d e) := by
  obtain ⟨h1, h2⟩ := o.lay hp (.tup [v, w])
  exact ⟨h2, h1, .pr upd_same (r.mono h2.mono) (r2.mono h2.mono)⟩
/-- a new list that never changes -/
theorem newLst (o : Ok K mg F μ H) {vs : List V} {ds : List D} (r : Dts K mg F vs ds) {p : Addr} (hp : H p = none) : Ext F μ H (upd F p (.lst vs)) μ (upd H p (.lst vs)) ∧ Ok K mg (upd F p (.lst vs)) μ (upd H p (.lst vs)) ∧ Dt K mg (upd F p (.lst vs)) (.ref p) (.lst ds) := by
  obtain ⟨h1, h2⟩ := o.lay hp (.lst vs)
  exact ⟨h2, h1, .lst upd_same (r.mono h2.mono)⟩
end

mutual
def D.py : D → PyData
  | .non => .none | .bl b => .bool b | .int i => .int i | .str x => .str (S x)
  | .tup xs => .tuple (D.pys xs) | .lst xs => .list (D.pys xs) | .scr ns => .list (ns.map .int)
  | _ => .none
def D.pys : List D → List PyData
  | [] => []
  | x :: xs => x.py :: D.pys xs
end
mutual
/-- data without dicts, objects -/
def D.flat : D → Bool
  | .non => true | .bl _ => true | .int _ => true | .str _ => true
  | .tup xs => D.flats xs | .lst xs => D.flats xs
  | _ => false
def D.flats : List D → Bool
  | [] => true
  | x :: xs => x.flat && D.flats xs
end
section
variable {K : PySem.W.Frag} {mg : Str → Option Value} {F H : Hp} {μ : Sto}
mutual
theorem Dt.dp (hF : ∀ a o, F a = some o → H a = some o) : ∀ {v : V} {d : D}, Dt K mg F v d → d.flat = true → Dp K H v d.py
  | _, _, .non, _ => .non
  | _, _, .bl b, _ => .bl b
  | _, _, .int i, _ => .int i
  | _, _, .str x, _ => .str (S x)
  | _, _, .tup h r, q => .tup (SqT.mono' hF h.sq) (Dts.dp hF r q)
  | _, _, .lst h r, q => .lst (.inl (.inl (hF _ _ h))) (Dts.dp hF r q)
  | _, _, .dct _ _, q => nomatch q
  | _, _, .scr _, q => nomatch q
  | _, _, .ref _, q => nomatch q
  | _, _, .ty _, q => nomatch q
  | _, _, .gl _, q => nomatch q
  | _, _, .pr _ _ _, q => nomatch q
  | _, _, .obj _ _ _ _, q => nomatch q
  | _, _, .exn0 _ _ _ _, q => nomatch q
  | _, _, .exn1 _ _ _ _ _ _ _, q => nomatch q
theorem Dts.dp (hF : ∀ a o, F a = some o → H a = some o) : ∀ {vs : List V} {ds : List D}, Dts K mg F vs ds → D.flats ds = true → DpAll K H vs (D.pys ds)
  | _, _, .nil, _ => .nil
  | _, _, .cons h r, q => .cons (Dt.dp hF h (Bool.and_eq_true_iff.mp q).1) (Dts.dp hF r (Bool.and_eq_true_iff.mp q).2)
end
theorem Wk.dp (o : Ok K mg F μ H) {v : V} {d : D} (h : Wk K mg F μ H v d) (q : d.flat = true) : Dp K H v d.py := by
  rcases h with h | ⟨a, vs, xs, rfl, rfl, f, m, hh, r⟩
  · exact Dt.dp o.sub h q
  · exact .lst (.inl (.inl hh)) (Dts.dp o.sub r q)
end

abbrev RD2 := D → D → Sto → DK → Prop
def OpS (K : PySem.W.Frag) (mg : Str → Option Value) (r : R2) (rd : RD2) : Prop :=
  ∀ (F : Hp) (μ : Sto) (H : Hp) (x y : V) (dx dy : D) (Qd : DK) (Q : VK), Ok K mg F μ H → Wk K mg F μ H x dx → Wk K mg F μ H y dy → rd dx dy μ Qd →
    (∀ v F' μ' H' dv, Ext F μ H F' μ' H' → Ok K mg F' μ' H' → Dt K mg F' v dv → Qd dv μ' → Q v H') → r x y H Q
@[simp] def dOp (rd : RD2) (a b : TED) : TED := fun ρ μ Q => a ρ μ fun x μ1 => b ρ μ1 fun y μ2 => rd x y μ2 Q
section
variable {X : Cx} {a b c e : Expr} {da db dc : TED} {pos : Pos} {K : PySem.W.Frag} {mg : Str → Option Value}
theorem lift_op {r : R2} {rd : RD2} (hs : OpS K mg r rd) {σ : L2.St} {H : Hp} {Q : VK} (h : liftE K mg (dOp rd da db) σ H Q) : tOp r (liftW K mg da) (liftW K mg db) σ H Q := by
  obtain ⟨F, ρ, μ, Qd, R, hd, k⟩ := h
  refine ⟨F, ρ, μ, _, R, hd, fun v F1 μ1 H1 dv e1 o1 w1 q1 => ?_⟩
  refine ⟨F1, ρ, μ1, _, R.ext e1 o1, q1, fun u F2 μ2 H2 du e2 o2 w2 q2 => ?_⟩
  exact hs F2 μ2 H2 v u dv du _ _ o2 (w1.ext e2) w2 q2 fun z F3 μ3 H3 dz e3 o3 w3 q3 => k z F3 μ3 H3 dz (e1.trans (e2.trans e3)) o3 w3 q3
theorem lift_W {d : TED} {σ : L2.St} {H : Hp} {Q : VK} (h : liftW K mg d σ H Q) : liftE K mg d σ H Q := by
  obtain ⟨F, ρ, μ, Qd, R, hd, k⟩ := h
  exact ⟨F, ρ, μ, Qd, R, hd, fun v F' μ' H' dv e o w q => k v F' μ' H' dv e o (.inl w) q⟩
theorem dw {d : TED} (h : DE X e d) : DW X e d := h.weaken fun _ _ _ q => lift_W q
theorem de_op {op : Operator} {r : R2} {rd : RD2} (ho : OpR X (binaryOp op) r) (hs : OpS X.K X.mg r rd) (ha : DW X a da) (hb : DW X b db) : DE X (.BinOp a op b pos) (dOp rd da db) :=
  (pe_op ho ha hb).weaken fun _ _ _ q => lift_op hs q
theorem de_cmp {op : CmpOp} {r : R2} {rd : RD2} (ho : OpR X (compareOp op) r) (hs : OpS X.K X.mg r rd) (ha : DW X a da) (hb : DW X b db) (hm : behindInMarks op b = false) : DE X (.Compare a [op] [b] pos) (dOp rd da db) :=
  (pe_cmpR ho ha hb hm).weaken fun _ _ _ q => lift_op hs q
/-- a test that is a value -/
def blK : D → (Bool → Prop) → Prop
  | .bl b, K => K b
  | _, _ => False
@[simp] theorem blK_1 : blK  (.bl b0) K0 = (K0 b0) := rfl
theorem blK_iff {x : D} {K : Bool → Prop} (h : blK x K) : ∃ b, x = .bl b ∧ K b := by
  cases x <;> first | exact h.elim | exact ⟨_, rfl, h⟩
@[simp] def dB (d : TED) : TTD := fun ρ μ Q => d ρ μ fun x μ1 => blK x fun b => Q b μ1
theorem dt_cmp {op : CmpOp} {r : R2} {rd : RD2} (ho : OpR X (compareOp op) r) (hs : OpS X.K X.mg r rd) (ha : DW X a da) (hb : DW X b db) (hm : behindInMarks op b = false) : DT X (.Compare a [op] [b] pos) (dB (dOp rd da db)) :=
  (pt_cmpR ho ha hb hm).weaken fun σ H Q q => by
    obtain ⟨F, ρ, μ, Qd, R, hd, k⟩ := q
    refine lift_op hs ⟨F, ρ, μ, _, R, hd, fun v F' μ' H' dv e o w q => ?_⟩
    obtain ⟨b, rfl, q⟩ := blK_iff q
    cases w
    exact ⟨b, rfl, k b F' μ' H' e o q⟩
theorem dt_val (h : DE X e da) (he : ∀ whole, isTrue e X.env whole = (do let v ← whole; standAt e.pos; holding [v] (truthy v)) := by intro _; rfl) : DT X e (dB da) :=
  (pt_val h he).weaken fun σ H Q q => by
    obtain ⟨F, ρ, μ, Qd, R, hd, k⟩ := q
    refine ⟨F, ρ, μ, _, R, hd, fun v F' μ' H' dv e o w q => ?_⟩
    obtain ⟨b, rfl, q⟩ := blK_iff q
    cases w
    exact ⟨b, rfl, k b F' μ' H' e o q⟩

@[simp] def dVar (i : Nat) : TED := fun ρ μ Q => ∃ d, ρ[i]? = some (some (.val d)) ∧ Q d μ
/-- .. only looked at -/
@[simp] def dLook (i : Nat) : TED := fun ρ μ Q => match ρ[i]? with | some (some (.val d)) => Q d μ | some (some (.own xs)) => Q (.lst xs) μ | _ => False
@[simp] def dC (d : D) : TED := fun _ μ Q => Q d μ
theorem de_var {i : Nat} {x : Str} (h : PE X (.Name x pos) (tVar i)) : DE X (.Name x pos) (dVar i) := h.weaken fun σ H Q q => by
  obtain ⟨F, ρ, μ, Qd, R, ⟨d, hd, q⟩, k⟩ := q
  obtain ⟨v, h1, h2⟩ := R.slot i _ hd
  exact ⟨v, h1, k v F μ H d .refl R.ok h2 q⟩
theorem dw_var {i : Nat} {x : Str} (h : PE X (.Name x pos) (tVar i)) : DW X (.Name x pos) (dLook i) := h.weaken fun σ H Q q => by
  obtain ⟨F, ρ, μ, Qd, R, q, k⟩ := q
  cases e : ρ[i]? with
  | none => simp [dLook, e] at q
  | some o =>
    cases o with
    | none => simp [dLook, e] at q
    | some s =>
      obtain ⟨v, h1, h2⟩ := R.slot i _ e
      cases s with
      | val d => exact ⟨v, h1, k v F μ H d .refl R.ok (.inl h2) (by simpa [dLook, e] using q)⟩
      | own xs =>
        obtain ⟨a, vs, rfl, f, m, hh, r⟩ := h2
        exact ⟨_, h1, k _ F μ H (.lst xs) .refl R.ok (.inr ⟨a, vs, xs, rfl, rfl, f, m, hh, r⟩) (by simpa [dLook, e] using q)⟩
theorem de_c {v : V} {d : D} (h : PE X e (tC v)) (hd : ∀ F, Dt X.K X.mg F v d) : DE X e (dC d) := h.weaken fun σ H Q q => by
  obtain ⟨F, ρ, μ, Qd, R, q, k⟩ := q
  exact k v F μ H d .refl R.ok (hd F) q
theorem de_int {i j pos} : DE X (.Constant (.int i) j pos) (dC (.int i)) := de_c pe_int fun _ => .int i
theorem de_bl {b j pos} : DE X (.Constant (.bool b) j pos) (dC (.bl b)) := de_c pe_bl fun _ => .bl b
theorem de_non {j pos} : DE X (.Constant .none j pos) (dC .non) := de_c pe_non fun _ => .non
theorem de_str {x : Str} {j pos} (s : List Nat) (h : x = S s := by decide +kernel) : DE X (.Constant (.str x) j pos) (dC (.str s)) := de_c pe_str fun _ => by subst h; exact .str s
theorem de_glob {x : Str} {v : V} {u : Value} {d : D} (hg : Gl X x) (hm : X.mg x = some u) (r : RelV v u) (hd : ∀ F, Dt X.K X.mg F v d) (hdb : (x == ("__debug__" : Str)) = false := by decide) : DE X (.Name x pos) (dC d) := de_c (pe_glob hg hm r hdb) hd

@[simp] def dNot (t : TTD) : TTD := fun ρ μ Q => t ρ μ fun b μ1 => Q (!b) μ1
@[simp] def dAnd (t u : TTD) : TTD := fun ρ μ Q => t ρ μ fun b μ1 => if b = true then u ρ μ1 Q else Q false μ1
@[simp] def dOr (t u : TTD) : TTD := fun ρ μ Q => t ρ μ fun b μ1 => if b = true then Q true μ1 else u ρ μ1 Q
@[simp] def dIf (t : TTD) (a b : TED) : TED := fun ρ μ Q => t ρ μ fun c μ1 => if c = true then a ρ μ1 Q else b ρ μ1 Q
variable {ta tb : TTD} {rest : List Expr}
theorem dt_not (h : DT X a ta) : DT X (.UnaryOp .Not a pos) (dNot ta) := (pt_not h).weaken fun σ H Q q => by
  obtain ⟨F, ρ, μ, Qd, R, hd, k⟩ := q
  exact ⟨F, ρ, μ, _, R, hd, fun b F' μ' H' e o q => k (!b) F' μ' H' e o q⟩
theorem dpw_and1 (ha : DT X a ta) : DPW X (.BoolOp .And [a] pos) ta := pw_and1 ha
theorem dpw_or1 (ha : DT X a ta) : DPW X (.BoolOp .Or [a] pos) ta := pw_or1 ha
theorem dpw_and (ha : DT X a ta) (hb : DPW X (.BoolOp .And (b :: rest) pos) tb) : DPW X (.BoolOp .And (a :: b :: rest) pos) (dAnd ta tb) := (pw_and ha hb).weaken fun σ H Q q => by
  obtain ⟨F, ρ, μ, Qd, R, hd, k⟩ := q
  refine ⟨F, ρ, μ, _, R, hd, fun b F1 μ1 H1 e1 o1 q1 => ?_⟩
  cases b with
  | true => exact ⟨F1, ρ, μ1, _, R.ext e1 o1, q1, fun c F2 μ2 H2 e2 o2 q2 => k c F2 μ2 H2 (e1.trans e2) o2 q2⟩
  | false => exact k false F1 μ1 H1 e1 o1 q1
theorem dpw_or (ha : DT X a ta) (hb : DPW X (.BoolOp .Or (b :: rest) pos) tb) : DPW X (.BoolOp .Or (a :: b :: rest) pos) (dOr ta tb) := (pw_or ha hb).weaken fun σ H Q q => by
  obtain ⟨F, ρ, μ, Qd, R, hd, k⟩ := q
  refine ⟨F, ρ, μ, _, R, hd, fun b F1 μ1 H1 e1 o1 q1 => ?_⟩
  cases b with
  | false => exact ⟨F1, ρ, μ1, _, R.ext e1 o1, q1, fun c F2 μ2 H2 e2 o2 q2 => k c F2 μ2 H2 (e1.trans e2) o2 q2⟩
  | true => exact k true F1 μ1 H1 e1 o1 q1
theorem DPW.dt (h : DPW X e ta) : DT X e ta := PW.pt h
/-- .. as values, all but the last True or False -/
@[simp] def dAndV (a b : TED) : TED := fun ρ μ Q => a ρ μ fun x μ1 => blK x fun c => if c = true then b ρ μ1 Q else Q (.bl false) μ1
@[simp] def dOrV (a b : TED) : TED := fun ρ μ Q => a ρ μ fun x μ1 => blK x fun c => if c = true then Q (.bl true) μ1 else b ρ μ1 Q
@[simp] def dNotV (a : TED) : TED := fun ρ μ Q => a ρ μ fun x μ1 => blK x fun c => Q (.bl (!c)) μ1
theorem de_one {op} (h : DE X a da) : DE X (.BoolOp op [a] pos) da := pe_one h
theorem de_and (ha : DE X a da) (hb : DE X (.BoolOp .And (b :: rest) pos) db) : DE X (.BoolOp .And (a :: b :: rest) pos) (dAndV da db) := (pe_and ha hb).weaken fun σ H Q q => by
  obtain ⟨F, ρ, μ, Qd, R, hd, k⟩ := q
  refine ⟨F, ρ, μ, _, R, hd, fun v F1 μ1 H1 dv e1 o1 w1 q1 => ?_⟩
  obtain ⟨c, rfl, q1⟩ := blK_iff q1
  cases w1
  refine ⟨c, rfl, ?_⟩
  cases c with
  | true => exact ⟨F1, ρ, μ1, _, R.ext e1 o1, q1, fun c F2 μ2 H2 d2 e2 o2 w2 q2 => k c F2 μ2 H2 d2 (e1.trans e2) o2 w2 q2⟩
  | false => exact k _ F1 μ1 H1 _ e1 o1 (.bl false) q1
theorem de_if {t : Expr} (ht : DT X t ta) (ha : DE X a da) (hb : DE X b db) : DE X (.IfExp t a b pos) (dIf ta da db) := (pe_ifExp ht ha hb).weaken fun σ H Q q => by
  obtain ⟨F, ρ, μ, Qd, R, hd, k⟩ := q
  refine ⟨F, ρ, μ, _, R, hd, fun c F1 μ1 H1 e1 o1 q1 => ?_⟩
  cases c with
  | true => exact ⟨F1, ρ, μ1, _, R.ext e1 o1, q1, fun c F2 μ2 H2 d2 e2 o2 w2 q2 => k c F2 μ2 H2 d2 (e1.trans e2) o2 w2 q2⟩
  | false => exact ⟨F1, ρ, μ1, _, R.ext e1 o1, q1, fun c F2 μ2 H2 d2 e2 o2 w2 q2 => k c F2 μ2 H2 d2 (e1.trans e2) o2 w2 q2⟩

@[simp] def dNeg (a : TED) : TED := fun ρ μ Q => a ρ μ fun x μ1 => ∃ i, x = .int i ∧ Q (.int (-i)) μ1
theorem de_neg (ha : DE X a da) : DE X (.UnaryOp .USub a pos) (dNeg da) := (pe_un un_neg ha).weaken fun σ H Q q => by
  obtain ⟨F, ρ, μ, Qd, R, hd, k⟩ := q
  refine ⟨F, ρ, μ, _, R, hd, fun v F1 μ1 H1 dv e1 o1 w1 q1 => ?_⟩
  obtain ⟨i, rfl, q1⟩ := q1
  cases w1
  exact ⟨i, rfl, k _ F1 μ1 H1 _ e1 o1 (.int _) q1⟩

@[simp] def dChain (r r' : RD2) (a b c : TED) : TED := fun ρ μ Q => a ρ μ fun x μ1 => b ρ μ1 fun y μ2 => r x y μ2 fun z μ3 => blK z fun k => (if k = true then c ρ μ3 fun w μ4 => r' y w μ4 Q else Q (.bl false) μ3)
theorem lift_chain {r r' : R2} {rd rd' : RD2} (hs : OpS K mg r rd) (hs' : OpS K mg r' rd') {σ : L2.St} {H : Hp} {Q : VK} (h : liftE K mg (dChain rd rd' da db dc) σ H Q) : tChain r r' (liftW K mg da) (liftW K mg db) (liftW K mg dc) σ H Q := by
  obtain ⟨F, ρ, μ, Qd, R, hd, k⟩ := h
  refine ⟨F, ρ, μ, _, R, hd, fun v F1 μ1 H1 dv e1 o1 w1 q1 => ?_⟩
  refine ⟨F1, ρ, μ1, _, R.ext e1 o1, q1, fun u F2 μ2 H2 du e2 o2 w2 q2 => ?_⟩
  refine hs F2 μ2 H2 v u dv du _ _ o2 (w1.ext e2) w2 q2 fun z F3 μ3 H3 dz e3 o3 w3 q3 => ?_
  obtain ⟨b, rfl, q3⟩ := blK_iff q3
  cases w3
  refine ⟨b, rfl, ?_⟩
  cases b with
  | false => exact k _ F3 μ3 H3 _ (e1.trans (e2.trans e3)) o3 (.bl false) q3
  | true =>
    refine ⟨F3, ρ, μ3, _, R.ext (e1.trans (e2.trans e3)) o3, q3, fun t F4 μ4 H4 dt e4 o4 w4 q4 => ?_⟩
    exact hs' F4 μ4 H4 u t du dt _ _ o4 ((w2.ext e3).ext e4) w4 q4 fun z F5 μ5 H5 dz e5 o5 w5 q5 => k z F5 μ5 H5 dz (e1.trans (e2.trans (e3.trans (e4.trans e5)))) o5 w5 q5
theorem de_chain {op op' : CmpOp} {r r' : R2} {rd rd' : RD2} (ho : OpR X (compareOp op) r) (hs : OpS X.K X.mg r rd) (ho' : OpR X (compareOp op') r') (hs' : OpS X.K X.mg r' rd') (ha : DW X a da) (hb : DW X b db) (hc : DW X c dc)
    (hm : lastMarks [op, op'] [b, c] = false := by with_unfolding_all rfl) : DE X (.Compare a [op, op'] [b, c] pos) (dChain rd rd' da db dc) :=
  (pe_chain ho ho' ha hb hc hm).weaken fun _ _ _ q => lift_chain hs hs' q
theorem dt_chain {op op' : CmpOp} {r r' : R2} {rd rd' : RD2} (ho : OpR X (compareOp op) r) (hs : OpS X.K X.mg r rd) (ho' : OpR X (compareOp op') r') (hs' : OpS X.K X.mg r' rd') (ha : DW X a da) (hb : DW X b db) (hc : DW X c dc)
    (hm : lastMarks [op, op'] [b, c] = false := by with_unfolding_all rfl) : DT X (.Compare a [op, op'] [b, c] pos) (dB (dChain rd rd' da db dc)) :=
  (pt_chain ho ho' ha hb hc hm).weaken fun σ H Q q => by
    obtain ⟨F, ρ, μ, Qd, R, hd, k⟩ := q
    refine lift_chain hs hs' ⟨F, ρ, μ, _, R, hd, fun v F' μ' H' dv e o w q => ?_⟩
    obtain ⟨b, rfl, q⟩ := blK_iff q
    cases w
    exact ⟨b, rfl, k b F' μ' H' e o q⟩
end
end DL

namespace DL
open PySem PySem.Spec PyProof.Rows L2

theorem S_len (l : List Nat) : (S l).length = l.length := by show l.toArray.size = l.length; simp
theorem S_app (l r : List Nat) : S l ++ S r = S (l ++ r) := by
  show (⟨l.toArray ++ r.toArray⟩ : Str) = ⟨(l ++ r).toArray⟩
  simp
theorem S_list (l : List Nat) : (S l).cps.toList = l := by simp
theorem S_inj {l r : List Nat} : S l = S r ↔ l = r := by
  constructor
  · intro h
    have := congrArg (fun z : Str => z.cps.toList) h
    simpa using this
  · intro h; rw [h]
theorem S_of (z : Str) : S z.cps.toList = z := by
  show (⟨z.cps.toList.toArray⟩ : Str) = z
  simp

/-- two whole numbers under a condition -/
def rdI (C : Int → Int → Prop) (g : Int → Int → D) : RD2
  | .int i, .int j, μ, Q => C i j ∧ Q (g i j) μ
  | _, _, _, _ => False
@[simp] theorem rdI_1 (C : Int → Int → Prop) (g : Int → Int → D) {i j : Int} {μ : Sto} {Q : DK} : rdI C g (.int i) (.int j) μ Q = (C i j ∧ Q (g i j) μ) := rfl
def mulOk (i j : Int) : Prop := (-18446744073709551616 < i ∧ i < 18446744073709551616) ∨ (-18446744073709551616 < j ∧ j < 18446744073709551616) ∨ i.natAbs.log2 + j.natAbs.log2 < 1000000
def powOk (i j : Int) : Prop := 0 ≤ j ∧ j ≤ 1000000 ∧ i.natAbs < 18446744073709551616
def divOk (j : Int) : Prop := 0 < j ∧ (j < 1073741824 ∨ j.natAbs.log2 < 9000)
@[simp] abbrev SZ : Nat := 16777216
def repl {α : Type} (n : Nat) (l : List α) : List α := (List.replicate n l).flatten
def rdAdd : RD2
  | .int i, .int j, μ, Q => Q (.int (i + j)) μ
  | .str s, .str t, μ, Q => s.length + t.length ≤ SZ ∧ Q (.str (s ++ t)) μ
  | .tup s, .tup t, μ, Q => s.length + t.length ≤ SZ ∧ Q (.tup (s ++ t)) μ
  | .lst s, .lst t, μ, Q => s.length + t.length ≤ SZ ∧ Q (.lst (s ++ t)) μ
  | .int i, .bl k, μ, Q => Q (.int (i + b2i k)) μ
  | .ref a, .lst t, μ, Q => ∃ s, μ a = some (.lst s) ∧ s.length + t.length ≤ SZ ∧ Q (.lst (s ++ t)) μ
  | _, _, _, _ => False
@[simp] theorem rdAdd_1 : rdAdd  (.int i0) (.int j0) μ0 Q0 = (Q0 (.int (i0 + j0)) μ0) := rfl
@[simp] theorem rdAdd_2 : rdAdd  (.str s0) (.str t0) μ0 Q0 = (s0.length + t0.length ≤ SZ ∧ Q0 (.str (s0 ++ t0)) μ0) := rfl
@[simp] theorem rdAdd_3 : rdAdd  (.tup s0) (.tup t0) μ0 Q0 = (s0.length + t0.length ≤ SZ ∧ Q0 (.tup (s0 ++ t0)) μ0) := rfl
@[simp] theorem rdAdd_4 : rdAdd  (.lst s0) (.lst t0) μ0 Q0 = (s0.length + t0.length ≤ SZ ∧ Q0 (.lst (s0 ++ t0)) μ0) := rfl
@[simp] theorem rdAdd_5 : rdAdd  (.int i0) (.bl k0) μ0 Q0 = (Q0 (.int (i0 + b2i k0)) μ0) := rfl
@[simp] theorem rdAdd_6 : rdAdd  (.ref a0) (.lst t0) μ0 Q0 = (∃ s, μ0 a0 = some (.lst s) ∧ s.length + t0.length ≤ SZ ∧ Q0 (.lst (s ++ t0)) μ0) := rfl
def rdSub : RD2 := rdI (fun _ _ => True) fun i j => .int (i - j)
def rdMul : RD2
  | .int i, .int j, μ, Q => mulOk i j ∧ Q (.int (i * j)) μ
  | .str s, .int n, μ, Q => n ≤ 1000000 ∧ -1000000 ≤ n ∧ s.length * n.toNat ≤ SZ ∧ Q (.str (repl n.toNat s)) μ
  | .tup s, .int n, μ, Q => -1000 ≤ n ∧ n ≤ 1000 ∧ s.length ≤ 1000 ∧ Q (.tup (repl n.toNat s)) μ
  | .lst s, .int n, μ, Q => n ≤ 1000000 ∧ -1000000 ≤ n ∧ s.length * n.toNat ≤ SZ ∧ Q (.lst (repl n.toNat s)) μ
  | _, _, _, _ => False
@[simp] theorem rdMul_1 : rdMul  (.int i0) (.int j0) μ0 Q0 = (mulOk i0 j0 ∧ Q0 (.int (i0 * j0)) μ0) := rfl
@[simp] theorem rdMul_2 : rdMul  (.str s0) (.int n0) μ0 Q0 = (n0 ≤ 1000000 ∧ -1000000 ≤ n0 ∧ s0.length * n0.toNat ≤ SZ ∧ Q0 (.str (repl n0.toNat s0)) μ0) := rfl
@[simp] theorem rdMul_3 : rdMul  (.tup s0) (.int n0) μ0 Q0 = (-1000 ≤ n0 ∧ n0 ≤ 1000 ∧ s0.length ≤ 1000 ∧ Q0 (.tup (repl n0.toNat s0)) μ0) := rfl
@[simp] theorem rdMul_4 : rdMul  (.lst s0) (.int n0) μ0 Q0 = (n0 ≤ 1000000 ∧ -1000000 ≤ n0 ∧ s0.length * n0.toNat ≤ SZ ∧ Q0 (.lst (repl n0.toNat s0)) μ0) := rfl
def rdMod : RD2 := rdI (fun _ j => 0 < j) fun i j => .int (i % j)
def rdDiv : RD2 := rdI (fun _ j => divOk j) fun i j => .int (i / j)
def rdPow : RD2 := rdI powOk fun i j => .int (i ^ j.toNat)
def rdShl : RD2 := rdI powOk fun i j => .int (i * 2 ^ j.toNat)
def rdShr : RD2 := rdI (fun _ j => 0 ≤ j) fun i j => .int (i / 2 ^ j.toNat)
def rdAnd : RD2 := rdI (fun _ _ => True) fun i j => .int (Builtin.bitAnd i j)
def rdLt : RD2
  | .int i, .int j, μ, Q => Q (.bl (decide (i < j))) μ
  | .str s, .str t, μ, Q => Q (.bl (decide (s < t))) μ
  | _, _, _, _ => False
@[simp] theorem rdLt_1 : rdLt  (.int i0) (.int j0) μ0 Q0 = (Q0 (.bl (decide (i0 < j0))) μ0) := rfl
@[simp] theorem rdLt_2 : rdLt  (.str s0) (.str t0) μ0 Q0 = (Q0 (.bl (decide (s0 < t0))) μ0) := rfl
def rdLe : RD2 := rdI (fun _ _ => True) fun i j => .bl (decide (i ≤ j))
def rdGt : RD2 := rdI (fun _ _ => True) fun i j => .bl (decide (j < i))
def rdGe : RD2 := rdI (fun _ _ => True) fun i j => .bl (decide (j ≤ i))
@[simp] theorem rdSub_i {i j : Int} {μ : Sto} {Q : DK} : rdSub (.int i) (.int j) μ Q = (Q (.int (i - j)) μ) := by simp [rdSub]
@[simp] theorem rdMod_i {i j : Int} {μ : Sto} {Q : DK} : rdMod (.int i) (.int j) μ Q = (0 < j ∧ Q (.int (i % j)) μ) := by simp [rdMod]
@[simp] theorem rdDiv_i {i j : Int} {μ : Sto} {Q : DK} : rdDiv (.int i) (.int j) μ Q = (divOk j ∧ Q (.int (i / j)) μ) := by simp [rdDiv]
@[simp] theorem rdPow_i {i j : Int} {μ : Sto} {Q : DK} : rdPow (.int i) (.int j) μ Q = (powOk i j ∧ Q (.int (i ^ j.toNat)) μ) := by simp [rdPow]
@[simp] theorem rdShl_i {i j : Int} {μ : Sto} {Q : DK} : rdShl (.int i) (.int j) μ Q = (powOk i j ∧ Q (.int (i * 2 ^ j.toNat)) μ) := by simp [rdShl]
@[simp] theorem rdShr_i {i j : Int} {μ : Sto} {Q : DK} : rdShr (.int i) (.int j) μ Q = (0 ≤ j ∧ Q (.int (i / 2 ^ j.toNat)) μ) := by simp [rdShr]
@[simp] theorem rdAnd_i {i j : Int} {μ : Sto} {Q : DK} : rdAnd (.int i) (.int j) μ Q = (Q (.int (Builtin.bitAnd i j)) μ) := by simp [rdAnd]
@[simp] theorem rdLe_i {i j : Int} {μ : Sto} {Q : DK} : rdLe (.int i) (.int j) μ Q = (Q (.bl (decide (i ≤ j))) μ) := by simp [rdLe]
@[simp] theorem rdGt_i {i j : Int} {μ : Sto} {Q : DK} : rdGt (.int i) (.int j) μ Q = (Q (.bl (decide (j < i))) μ) := by simp [rdGt]
@[simp] theorem rdGe_i {i j : Int} {μ : Sto} {Q : DK} : rdGe (.int i) (.int j) μ Q = (Q (.bl (decide (j ≤ i))) μ) := by simp [rdGe]
/-- are two data equal -/
def D.eqv (x y : D) : Bool := PyData.eqv x.py y.py
def scD : D → D → Bool
  | .int _, .int _ => true
  | .str _, .str _ => true
  | _, _ => false
def okEq (x y : D) : Prop := scD x y = true ∨ (x.flat = true ∧ y.flat = true ∧ SeqAt.shaped x.py = true ∧ SeqAt.shaped y.py = true)
@[simp] def rdEq : RD2 := fun x y μ Q => okEq x y ∧ Q (.bl (D.eqv x y)) μ
@[simp] def rdNe : RD2 := fun x y μ Q => okEq x y ∧ Q (.bl (!D.eqv x y)) μ
@[simp] def isNonD : D → Bool
  | .non => true
  | _ => false
def rdIs : RD2
  | x, .non, μ, Q => Q (.bl (isNonD x)) μ
  | _, _, _, _ => False
@[simp] theorem rdIs_1 : rdIs  x0 (.non) μ0 Q0 = (Q0 (.bl (isNonD x0)) μ0) := rfl
def rdIsNot : RD2
  | x, .non, μ, Q => Q (.bl (!isNonD x)) μ
  | _, _, _, _ => False
@[simp] theorem rdIsNot_1 : rdIsNot  x0 (.non) μ0 Q0 = (Q0 (.bl (!isNonD x0)) μ0) := rfl

section
variable {K : PySem.W.Frag} {mg : Str → Option Value}
theorem ops_I {C : Int → Int → Prop} {C' : Int → Int → Prop} {g : Int → Int → V} {g' : Int → Int → D} (hC : ∀ i j, C' i j → C i j) (hg : ∀ i j F, Dt K mg F (g i j) (g' i j)) : OpS K mg (rI C g) (rdI C' g') := by
  intro F μ H x y dx dy Qd Q o wx wy h k
  cases dx <;> cases dy <;> first | exact h.elim | skip
  obtain ⟨h1, h2⟩ := h
  exact ⟨_, _, wx.int, wy.int, hC _ _ h1, k _ F μ H _ .refl o (hg _ _ F) h2⟩
theorem ops_I0 {C' : Int → Int → Prop} {g : Int → Int → V} {g' : Int → Int → D} (hg : ∀ i j F, Dt K mg F (g i j) (g' i j)) : OpS K mg (rI0 g) (rdI C' g') := by
  intro F μ H x y dx dy Qd Q o wx wy h k
  cases dx <;> cases dy <;> first | exact h.elim | skip
  obtain ⟨h1, h2⟩ := h
  exact ⟨_, _, wx.int, wy.int, k _ F μ H _ .refl o (hg _ _ F) h2⟩
/-- one value, the heap as it stands -/
theorem fin0 {F : Hp} {μ : Sto} {H : Hp} {Qd : DK} {Q : VK} (o : Ok K mg F μ H) (k : ∀ v F' μ' H' dv, Ext F μ H F' μ' H' → Ok K mg F' μ' H' → Dt K mg F' v dv → Qd dv μ' → Q v H') {v : V} {d : D} (h : Dt K mg F v d) (q : Qd d μ) : Q v H :=
  k v F μ H d .refl o h q
def rAddA (K : PySem.W.Frag) : R2 := fun x y H Q => (rI0 (fun i j => .int (i + j)) x y H Q ∨ (∃ i j, x = .str i ∧ y = .str j ∧ i.length + j.length ≤ sizeLine ∧ Q (.str (i ++ j)) H)) ∨ ((rCatZ K x y H Q ∨ rCat x y H Q) ∨ (∃ i k, x = .int i ∧ y = .bl k ∧ Q (.int (i + b2i k)) H))
theorem op_addA {X : Cx} : OpR X (binaryOp .Add) (rAddA X.K) := .or (.or op_add op_add_str) (.or (.or op_catZ op_cat) op_add_ib)
theorem ops_add : OpS K mg (rAddA K) rdAdd := by
  intro F μ H x y dx dy Qd Q o wx wy h k
  cases dx <;> cases dy <;> first | exact h.elim | skip
  · exact .inr (.inr ⟨_, _, wx.int, wy.bl, fin0 o k (.int _) h⟩)
  · exact .inl (.inl ⟨_, _, wx.int, wy.int, fin0 o k (.int _) h⟩)
  · obtain ⟨h1, h2⟩ := h
    refine .inl (.inr ⟨_, _, wx.str, wy.str, ?_, ?_⟩)
    · rw [S_len, S_len, sizeLine_eq]; exact h1
    · rw [S_app]; exact fin0 o k (.str _) h2
  · obtain ⟨h1, h2⟩ := h
    obtain ⟨a, vs, rfl, ha, _, ra⟩ := wx.tup o
    obtain ⟨b, ws, rfl, hb, _, rb⟩ := wy.tup o
    refine .inr (.inl (.inl ⟨a, b, vs, ws, rfl, rfl, ha, hb, ?_, fun e => ?_, fun e1 e2 => ?_, fun e1 e2 p ob hp hob => ?_⟩))
    · rw [ra.length, rb.length, sizeLine_eq]; exact h1
    · subst e; cases ra
      rcases wy with wy | ⟨_, _, _, _, q, _⟩
      · exact fin0 o k wy h2
      · cases q
    · subst e2; cases rb
      rw [List.append_nil] at h2
      rcases wx with wx | ⟨_, _, _, _, q, _⟩
      · exact fin0 o k wx h2
      · cases q
    · obtain ⟨g1, g2, g3⟩ := newTup o (ra.append rb) hp hob
      exact k _ _ _ _ _ g1 g2 g3 h2
  · obtain ⟨h1, h2⟩ := h
    obtain ⟨a, vs, rfl, ha, ra⟩ := wx.lst o
    obtain ⟨b, ws, rfl, hb, rb⟩ := wy.lst o
    refine .inr (.inl (.inr ⟨a, b, vs, ws, rfl, rfl, ha, hb, ?_, fun p hp => ?_⟩))
    · rw [ra.length, rb.length, sizeLine_eq]; exact h1
    · obtain ⟨g1, g2, g3⟩ := newLst o (ra.append rb) hp
      exact k _ _ _ _ _ g1 g2 g3 h2
  · obtain ⟨us, h0, h1, h2⟩ := h
    cases wx.ref
    obtain ⟨vs, ha, ra⟩ := o.sto _ _ h0
    obtain ⟨b, ws, rfl, hb, rb⟩ := wy.lst o
    refine .inr (.inl (.inr ⟨_, b, vs, ws, rfl, rfl, ha, hb, ?_, fun p hp => ?_⟩))
    · rw [ra.length, rb.length, sizeLine_eq]; exact h1
    · obtain ⟨g1, g2, g3⟩ := newLst o (ra.append rb) hp
      exact k _ _ _ _ _ g1 g2 g3 h2
theorem ops_sub : OpS K mg (rI0 fun i j => .int (i - j)) rdSub := ops_I0 fun _ _ _ => .int _
theorem ops_mod : OpS K mg (rI (fun _ j => 0 < j) fun i j => .int (i % j)) rdMod := ops_I (fun _ _ h => h) fun _ _ _ => .int _
theorem ops_pow : OpS K mg (rI CPow fun i j => .int (i ^ j.toNat)) rdPow := ops_I (fun _ _ h => h) fun _ _ _ => .int _
def rDivA : R2 := fun x y H Q => rI CDiv (fun i j => .int (i / j)) x y H Q ∨ rI CDivW (fun i j => .int (i / j)) x y H Q
theorem op_divA {X : Cx} : OpR X (binaryOp .FloorDiv) rDivA := .or op_fdiv op_fdivW
theorem ops_div : OpS K mg rDivA rdDiv := by
  intro F μ H x y dx dy Qd Q o wx wy h k
  cases dx <;> cases dy <;> first | exact h.elim | skip
  obtain ⟨⟨h0, h1 | h1⟩, h2⟩ := h
  · exact .inl ⟨_, _, wx.int, wy.int, ⟨h0, h1⟩, fin0 o k (.int _) h2⟩
  · exact .inr ⟨_, _, wx.int, wy.int, ⟨h0, h1⟩, fin0 o k (.int _) h2⟩
/-- text * int -/
def rRepS : R2 := fun x y H Q => ∃ s n, x = .str s ∧ y = .int n ∧ PySem.MulOk s n ∧ Q (.str (PySem.Txt.mul s n)) H
theorem op_repS {X : Cx} : OpR X (binaryOp .Mult) rRepS := by
  intro pins s σ H x y v u Q I rx ry h
  obtain ⟨z, n, rfl, rfl, hm, q⟩ := h
  obtain ⟨t, rfl⟩ := rx
  obtain ⟨t', rfl⟩ := ry
  exact PySem.SB.mul hm fun t' k => ⟨.str _, H, I.tok _, ⟨_, rfl⟩, q⟩
theorem repl_one {α : Type} (l : List α) : repl 1 l = l := by simp [repl]
theorem flat_const {α : Type} (l : List α) : ∀ n : Nat, (List.replicate (n + 1) l).flatten = l ++ (List.replicate n l).flatten := fun n => by rw [List.replicate_succ, List.flatten_cons]
end
end DL

namespace DL
open PySem PySem.Spec PyProof.Rows L2
section
variable {K : PySem.W.Frag} {mg : Str → Option Value}

theorem foldl_arr (l : List Nat) : ∀ (n : Nat) (acc : List Nat), (List.replicate n l.toArray).foldl (· ++ ·) acc.toArray = (acc ++ repl n l).toArray := by
  intro n
  induction n with
  | zero => intro acc; simp [repl]
  | succ n ih =>
    intro acc
    rw [List.replicate_succ, List.foldl_cons, List.append_toArray, ih]
    simp [repl, List.replicate_succ]
theorem repl_len {α : Type} (n : Nat) (l : List α) : (repl n l).length = n * l.length := by
  simp [repl, List.length_flatten]
theorem S_mul (l : List Nat) (n : Int) : PySem.Txt.mul (S l) n = S (repl n.toNat l) := by
  unfold PySem.Txt.mul
  by_cases h : n < 1
  · rw [if_pos h, show n.toNat = 0 by omega]
    rfl
  · rw [if_neg h]
    by_cases c : (n == 1 || (S l).length == 0) = true
    · rw [if_pos c]
      rcases Bool.or_eq_true_iff.mp c with c | c
      · have e : n = 1 := by simpa using c
        subst e
        show S l = S (repl 1 l)
        rw [repl_one]
      · have e : l = [] := by
          rw [S_len] at c
          exact List.eq_nil_of_length_eq_zero (by simpa using c)
        subst e
        simp [repl]
    · rw [if_neg c]
      have := foldl_arr l n.toNat []
      rw [List.nil_append] at this
      show (⟨List.foldl (fun x1 x2 => x1 ++ x2) #[] (List.replicate n.toNat l.toArray)⟩ : Str) = ⟨(repl n.toNat l).toArray⟩
      rw [← this]
theorem mulOk_S {l : List Nat} {n : Int} (h1 : n ≤ 1000000) (h2 : -1000000 ≤ n) (h3 : l.length * n.toNat ≤ SZ) : PySem.MulOk (S l) n := by
  refine ⟨?_, fun a b => ?_, fun a b => ?_⟩
  · rw [decide_eq_false (by omega), decide_eq_false (by omega)]; rfl
  · rw [S_len]
    intro c
    have h4 : (l.length : Int) * n ≤ SZ := by
      have : ((l.length * n.toNat : Nat) : Int) ≤ (SZ : Nat) := by exact_mod_cast h3
      rw [Int.natCast_mul, Int.toNat_of_nonneg (by omega)] at this
      exact this
    have h5 : (9223372036854775807 : Int) / n < l.length := c
    have h6 : (9223372036854775807 : Int) < l.length * n := by
      have := Int.lt_mul_of_ediv_lt (show (0 : Int) < n by omega) h5
      omega
    have : ((SZ : Nat) : Int) = 16777216 := rfl
    omega
  · rw [S_len]
    show Builtin.Str.tooLong _ = false
    unfold Builtin.Str.tooLong
    rw [sizeLine_eq]
    exact decide_eq_false (Nat.not_lt.mpr h3)
theorem tmul_same (l : Addr) (its : Array Value) (n : Nat) (dd : Option Addr) (sl : Array (Option Value)) (x : Int) (u : Tok) (c0 : (decide (x < -(2 ^ 63)) || decide (x ≥ 2 ^ 63)) = false) (c1 : (its.isEmpty || x == 1) = true) :
    Meets (Builtin.«tuple.__mul__» ⟨[.ref l, .int x u], []⟩) (fun _ R s => s.heap.get? l = some { cls := .type "tuple", dict := dd, data := .seq its n, slots := sl } ∧ R (.ok (.ret (Value.ref l))) s) :=
  .of_wp fun prog w A R s h => by
    obtain ⟨hp, g, d, tk, os⟩ := s
    obtain ⟨hl, h⟩ := h
    have f1 := AutoSeq1.idx_int
    wp_walk using wpAny_loadPart' hl
    repeat (first
      | (refine wpAny_ite_false (decide_eq_false (by rw [c0]; exact Bool.false_ne_true)) ?_; wp_walk using wpAny_loadPart' hl)
      | (refine wpAny_ite_true (decide_eq_true (by rw [c1])) ?_; wp_walk using wpAny_loadPart' hl))
    exact ⟨_, rfl, h⟩
theorem tmul_none (l : Addr) (its : Array Value) (n : Nat) (dd : Option Addr) (sl : Array (Option Value)) (x : Int) (u : Tok) (c0 : (decide (x < -(2 ^ 63)) || decide (x ≥ 2 ^ 63)) = false) (c1 : (its.isEmpty || x == 1) = false) (c2 : (decide (x ≤ 0) || its.isEmpty) = true) :
    Meets (Builtin.«tuple.__mul__» ⟨[.ref l, .int x u], []⟩) (fun _ R s => s.heap.get? l = some { cls := .type "tuple", dict := dd, data := .seq its n, slots := sl } ∧
      R (.ok (.ret (Value.ref s.heap.objs.size))) { s with heap := s.heap.push { cls := Value.type "tuple", data := Data.seq #[] }, toks := s.toks }) :=
  .of_wp fun prog w A R s h => by
    obtain ⟨hp, g, d, tk, os⟩ := s
    obtain ⟨hl, h⟩ := h
    have f1 := AutoSeq1.idx_int
    wp_walk using wpAny_loadPart' hl
    repeat (first
      | (refine wpAny_ite_false (decide_eq_false (by rw [c0]; exact Bool.false_ne_true)) ?_; wp_walk using wpAny_loadPart' hl)
      | (refine wpAny_ite_false (decide_eq_false (by rw [c1]; exact Bool.false_ne_true)) ?_; wp_walk using wpAny_loadPart' hl)
      | (refine wpAny_ite_true (decide_eq_true (by rw [c2])) ?_; wp_walk using wpAny_loadPart' hl))
    exact ⟨_, rfl, h⟩
def rRepT1 (K : PySem.W.Frag) : R2 := fun x y H Q => ∃ l k xs, x = .ref l ∧ y = .int k ∧ SqT K H l xs ∧ -1000 ≤ k ∧ k ≤ 1000 ∧ (k ≤ 1 ∨ xs = []) ∧ ((k = 1 ∨ xs = []) → Q (.ref l) H) ∧ (k ≤ 0 → xs ≠ [] → newT H Q [])
theorem op_repT1 {X : Cx} : OpR X (binaryOp .Mult) (rRepT1 X.K) := by
  intro pins s σ H x y v u Q I rx ry h
  obtain ⟨l, k, xs, rfl, rfl, hT, h1, h2, h3, qa, qb⟩ := h
  cases rx
  obtain ⟨t, rfl⟩ := ry
  obtain ⟨its, r, ⟨⟨cls, dd, data, sl⟩, ho, hc, n, hd⟩, hs⟩ := I.tuple hT
  simp only at hc hd
  subst hc hd
  have hle : its.length = xs.length := r.length.symm
  have c0 : (decide (k < -(2 ^ 63)) || decide (k ≥ 2 ^ 63)) = false := by
    rw [decide_eq_false (by omega), decide_eq_false (by omega)] <;> rfl
  have go : ∀ {RR : (Result → Shared → Prop) → Shared → Prop}, Meets (Builtin.«tuple.__mul__» ⟨[.ref l, .int k t], []⟩) (fun _ R s => s.heap.get? l = some { cls := .type "tuple", dict := dd, data := .seq its.toArray n, slots := sl } ∧ RR R s) →
      (∀ R : Result → Shared → Prop, (∀ v' s', EP X pins σ Q v' s' → R (.ok (.ret v')) s') → RR R s) → wpAny (model X.prog X.w) X.A (binaryOp .Mult (.ref l) (.int k t)) (EP X pins σ Q) X.xe s := fun {RR} hm hr =>
    wpAny_binaryOp_repeat_ref (T := "tuple") (U := "int") (by decide) ⟨_, ho, rfl⟩ (fun s' => typeIs_int s' k t) noFill_tuple_mul F.fills_int_mul F.slot_int_rmul repeat_tuple F.slot_int_index.lookup
      (call_meets F.slot_int_rmul (typeIs_int s k t) F.entry_int_rmul (F.args_int_rmul_2 _ _) (int_rmul_tuple k t l its.toArray n dd sl)
        ⟨ho, rfl, ⟨_, ho, rfl⟩, call_meets F.slot_tuple_mul ⟨_, ho, rfl⟩ F.entry_tuple_mul (F.args_tuple_mul_2 _ _) hm ⟨ho, hr _ fun v' s' z => z⟩⟩)
  by_cases hk : k = 1 ∨ xs = []
  · have c1 : (its.toArray.isEmpty || k == 1) = true := by
      rcases hk with hk | hk
      · subst hk; simp
      · subst hk
        have : its = [] := List.eq_nil_of_length_eq_zero hle
        subst this; rfl
    exact go (tmul_same l its.toArray n dd sl k t c0 c1) fun R hR => hR _ _ ⟨.ref l, H, I, rfl, qa hk⟩
  · have hn : its ≠ [] := fun e => hk (.inr (List.eq_nil_of_length_eq_zero (by rw [← hle, e]; rfl)))
    have hi : its.toArray.isEmpty = false := by
      cases its with
      | nil => exact absurd rfl hn
      | cons a b => rfl
    have hk0 : k ≤ 0 := by
      have : k ≠ 1 := fun e => hk (.inl e)
      rcases h3 with h3 | h3
      · omega
      · exact absurd (.inr h3) hk
    have c1 : (its.toArray.isEmpty || k == 1) = false := by
      rw [hi, Bool.false_or]
      exact beq_eq_false_iff_ne.mpr (by omega)
    have c2 : (decide (k ≤ 0) || its.toArray.isEmpty) = true := by rw [decide_eq_true hk0]; rfl
    exact go (tmul_none l its.toArray n dd sl k t c0 c1 c2) fun R hR => hR _ _ (fin_tup (its := []) I (Nat.zero_le _) .nil (qb hk0 fun e => hk (.inr e)))
def rMulA (K : PySem.W.Frag) : R2 := fun x y H Q => (rI CMul (fun i j => .int (i * j)) x y H Q ∨ rI CMulW (fun i j => .int (i * j)) x y H Q) ∨ ((rRepS x y H Q ∨ (rRepZ K x y H Q ∨ rRepT1 K x y H Q)) ∨ rRep x y H Q)
theorem op_mulA {X : Cx} : OpR X (binaryOp .Mult) (rMulA X.K) := .or (.or op_mul op_mulW) (.or (.or op_repS (.or op_repZ op_repT1)) op_rep)
theorem Dts.repl {F : Hp} {vs : List V} {ds : List D} (r : Dts K mg F vs ds) : ∀ n, Dts K mg F (List.replicate n vs).flatten (List.replicate n ds).flatten
  | 0 => .nil
  | n + 1 => by
    rw [flat_const, flat_const]
    exact r.append (Dts.repl r n)
theorem ops_mul : OpS K mg (rMulA K) rdMul := by
  intro F μ H x y dx dy Qd Q o wx wy h k
  cases dx <;> cases dy <;> first | exact h.elim | skip
  · obtain ⟨h1 | h1 | h1, h2⟩ := h
    · exact .inl (.inl ⟨_, _, wx.int, wy.int, .inl h1, fin0 o k (.int _) h2⟩)
    · exact .inl (.inl ⟨_, _, wx.int, wy.int, .inr h1, fin0 o k (.int _) h2⟩)
    · exact .inl (.inr ⟨_, _, wx.int, wy.int, h1, fin0 o k (.int _) h2⟩)
  · obtain ⟨h1, h2, h3, h4⟩ := h
    refine .inr (.inl (.inl ⟨_, _, wx.str, wy.int, mulOk_S h1 h2 h3, ?_⟩))
    rw [S_mul]
    exact fin0 o k (.str _) h4
  · rename_i sx nx
    obtain ⟨h1, h2, h4, h5⟩ := h
    obtain ⟨a, vs, rfl, ha, hf, ra⟩ := wx.tup o
    have wd : Dt K mg F (.ref a) (.tup sx) := .tup hf ra
    by_cases hs : nx ≤ 1 ∨ sx = []
    · have e0 : vs = [] ↔ sx = [] := by
        constructor
        · intro e; subst e; cases ra; rfl
        · intro e; subst e; cases ra; rfl
      refine .inr (.inl (.inr (.inr ⟨a, _, vs, rfl, wy.int, ha, h1, h2, hs.imp id e0.mpr, fun hk => ?_, fun hk hne p ob hp hob => ?_⟩)))
      · have : repl nx.toNat sx = sx := by
          rcases hk with hk | hk
          · subst hk; exact repl_one sx
          · rw [e0.mp hk]; simp [repl]
        rw [this] at h5
        exact fin0 o k wd h5
      · rw [show nx.toNat = 0 by omega] at h5
        obtain ⟨g1, g2, g3⟩ := newTup o (vs := []) (ds := []) .nil hp hob
        exact k _ _ _ _ _ g1 g2 g3 h5
    · refine .inr (.inl (.inr (.inl ⟨a, _, vs, rfl, wy.int, ha, fun e => hs ?_, by omega, by omega, by rw [ra.length]; exact h4, fun p ob hp hob => ?_⟩)))
      · subst e; cases ra; exact .inr rfl
      · obtain ⟨g1, g2, g3⟩ := newTup o (ra.repl _) hp hob
        exact k _ _ _ _ _ g1 g2 g3 h5
  · obtain ⟨h1, h2, h3, h5⟩ := h
    obtain ⟨a, vs, rfl, ha, ra⟩ := wx.lst o
    refine .inr (.inr ⟨a, _, vs, rfl, wy.int, ha, by omega, by omega, by rw [ra.length, sizeLine_eq]; exact h3, fun p hp => ?_⟩)
    obtain ⟨g1, g2, g3⟩ := newLst o (ra.repl _) hp
    exact k _ _ _ _ _ g1 g2 g3 h5

def rLtA : R2 := fun x y H Q => rI0 (fun i j => .bl (decide (i < j))) x y H Q ∨ ∃ i j, x = .str i ∧ y = .str j ∧ Q (.bl (decide (i.cps.toList < j.cps.toList))) H
theorem op_ltA {X : Cx} : OpR X (compareOp .Lt) rLtA := .or op_lt op_lt_str
theorem ops_lt : OpS K mg rLtA rdLt := by
  intro F μ H x y dx dy Qd Q o wx wy h k
  cases dx <;> cases dy <;> first | exact h.elim | skip
  · exact .inl ⟨_, _, wx.int, wy.int, fin0 o k (.bl _) h⟩
  · refine .inr ⟨_, _, wx.str, wy.str, ?_⟩
    rw [S_list, S_list]
    exact fin0 o k (.bl _) h
theorem ops_le : OpS K mg (rI0 fun i j => .bl (decide (i ≤ j))) rdLe := ops_I0 fun _ _ _ => .bl _
theorem ops_gt : OpS K mg (rI0 fun i j => .bl (decide (j < i))) rdGt := ops_I0 fun _ _ _ => .bl _
theorem ops_ge : OpS K mg (rI0 fun i j => .bl (decide (j ≤ i))) rdGe := ops_I0 fun _ _ _ => .bl _
abbrev r2Or (r r' : R2) : R2 := fun x y H Q => r x y H Q ∨ r' x y H Q
theorem op_eqA {X : Cx} (hu : X.A.units + 64 < cLine) : OpR X (compareOp .Eq) (r2Or (rEqD X.K) rEq) := .or (op_eqD hu) op_eq
theorem op_neA {X : Cx} (hu : X.A.units + 64 < cLine) : OpR X (compareOp .NotEq) (r2Or (rNeD X.K) rNe) := .or (op_neD hu) op_ne
theorem sc_dec {K : PySem.W.Frag} {mg : Str → Option Value} {F H : Hp} {μ : Sto} {x y : V} {dx dy : D} (wx : Wk K mg F μ H x dx) (wy : Wk K mg F μ H y dy) (h : scD dx dy = true) : scal x y = true ∧ decide (x = y) = D.eqv dx dy := by
  cases dx <;> cases dy <;> first | exact (Bool.false_ne_true h).elim | skip
  · rw [wx.int, wy.int]; exact ⟨rfl, dec_int⟩
  · rw [wx.str, wy.str]; exact ⟨rfl, dec_str⟩
theorem ops_eq : OpS K mg (r2Or (rEqD K) rEq) rdEq := by
  intro F μ H x y dx dy Qd Q o wx wy h k
  obtain ⟨h | ⟨f1, f2, s1, s2⟩, q⟩ := h
  · obtain ⟨g1, g2⟩ := sc_dec wx wy h
    exact .inr ⟨g1, by rw [g2]; exact fin0 o k (.bl _) q⟩
  · exact .inl ⟨_, _, wx.dp o f1, wy.dp o f2, s1, s2, fin0 o k (.bl _) q⟩
theorem ops_ne : OpS K mg (r2Or (rNeD K) rNe) rdNe := by
  intro F μ H x y dx dy Qd Q o wx wy h k
  obtain ⟨h | ⟨f1, f2, s1, s2⟩, q⟩ := h
  · obtain ⟨g1, g2⟩ := sc_dec wx wy h
    exact .inr ⟨g1, by rw [g2]; exact fin0 o k (.bl _) q⟩
  · exact .inl ⟨_, _, wx.dp o f1, wy.dp o f2, s1, s2, fin0 o k (.bl _) q⟩
theorem Wk.isN {F H : Hp} {μ : Sto} {x : V} {d : D} (h : Wk K mg F μ H x d) : decide (x = .non) = isNonD d := by
  rcases h with h | ⟨a, vs, xs, rfl, rfl, _⟩
  · cases h <;> rfl
  · rfl
theorem ops_is : OpS K mg (fun x y H Q => y = .non ∧ Q (.bl (decide (x = .non))) H) rdIs := by
  intro F μ H x y dx dy Qd Q o wx wy h k
  cases dy <;> first | exact h.elim | skip
  refine ⟨wy.non, ?_⟩
  rw [wx.isN]
  exact fin0 o k (.bl _) h
theorem ops_isnot : OpS K mg (fun x y H Q => y = .non ∧ Q (.bl (!decide (x = .non))) H) rdIsNot := by
  intro F μ H x y dx dy Qd Q o wx wy h k
  cases dy <;> first | exact h.elim | skip
  refine ⟨wy.non, ?_⟩
  rw [wx.isN]
  exact fin0 o k (.bl _) h

/-- None, a bool, a whole number, a text -/
def D.sc : D → Bool
  | .non => true | .bl _ => true | .int _ => true | .str _ => true
  | _ => false
theorem Dt.sc {F : Hp} {v : V} {d : D} (h : Dt K mg F v d) (q : d.sc = true) : L2.flatV v = true := by
  cases h <;> first | rfl | cases q
theorem Dts.sc {F : Hp} : ∀ {vs : List V} {ds : List D}, Dts K mg F vs ds → ds.all D.sc = true → vs.all L2.flatV = true
  | _, _, .nil, _ => rfl
  | _, _, .cons h r, q => by
    rw [List.all_cons, Bool.and_eq_true_iff] at q ⊢
    exact ⟨h.sc q.1, Dts.sc r q.2⟩
theorem Dt.eqv {F F' : Hp} {v w : V} {d e : D} (h : Dt K mg F v d) (g : Dt K mg F' w e) (q : d.sc = true) (p : e.sc = true) : L2.eqV v w = D.eqv d e := by
  cases h <;> first | cases q | skip
  all_goals cases g <;> first | cases p | skip
  all_goals rfl
theorem Dts.any {F F' : Hp} {w : V} {e : D} (g : Dt K mg F' w e) (p : e.sc = true) : ∀ {vs : List V} {ds : List D}, Dts K mg F vs ds → ds.all D.sc = true → L2.inV w vs = ds.any fun z => D.eqv z e
  | _, _, .nil, _ => rfl
  | _, _, .cons h r, q => by
    rw [List.all_cons, Bool.and_eq_true_iff] at q
    have := Dts.any g p r q.2
    unfold L2.inV at this ⊢
    rw [List.any_cons, List.any_cons, this, h.eqv g q.1 p]
def rInA (K : PySem.W.Frag) (neg : Bool) : R2 := fun x y H Q => (∃ (c : Nat) (z : Str), x = .str ⟨#[c]⟩ ∧ y = .str z ∧ Q (.bl (if neg then !decide (c ∈ z.cps.toList) else decide (c ∈ z.cps.toList))) H) ∨ L2.rIn K neg x y H Q
theorem op_inA {X : Cx} : OpR X (compareOp .In) (rInA X.K false) := .or op_in_sign op_in_seq
theorem op_notInA {X : Cx} : OpR X (compareOp .NotIn) (rInA X.K true) := .or op_notIn_sign op_notIn_seq
/-- in: a sign in a text; a scalar in a list or tuple of scalars -/
@[simp] def inL (neg : Bool) (x : D) (ds : List D) (μ : Sto) (Q : DK) : Prop := x.sc = true ∧ ds.all D.sc = true ∧ Q (.bl (if neg then !(ds.any fun z => D.eqv z x) else ds.any fun z => D.eqv z x)) μ
def inS (neg : Bool) : D → List Nat → Sto → DK → Prop
  | .str [c], s, μ, Q => Q (.bl (if neg then !decide (c ∈ s) else decide (c ∈ s))) μ
  | _, _, _, _ => False
@[simp] theorem inS_1 (neg : Bool) {c : Nat} {s : List Nat} {μ : Sto} {Q : DK} : inS neg (.str [c]) s μ Q = (Q (.bl (if neg then !decide (c ∈ s) else decide (c ∈ s))) μ) := rfl
def rdInN (neg : Bool) : RD2
  | x, .str s, μ, Q => inS neg x s μ Q
  | x, .lst ds, μ, Q => inL neg x ds μ Q
  | x, .tup ds, μ, Q => inL neg x ds μ Q
  | _, _, _, _ => False
@[simp] theorem rdInN_1 (neg : Bool) {x : D} {s : List Nat} {μ : Sto} {Q : DK} : rdInN neg x (.str s) μ Q = inS neg x s μ Q := rfl
@[simp] theorem rdInN_2 (neg : Bool) {x : D} {s : List D} {μ : Sto} {Q : DK} : rdInN neg x (.lst s) μ Q = inL neg x s μ Q := rfl
@[simp] theorem rdInN_3 (neg : Bool) {x : D} {s : List D} {μ : Sto} {Q : DK} : rdInN neg x (.tup s) μ Q = inL neg x s μ Q := rfl
abbrev rdIn : RD2 := rdInN false
abbrev rdNotIn : RD2 := rdInN true
theorem Wk.val {F H : Hp} {μ : Sto} {x : V} {d : D} (h : Wk K mg F μ H x d) (q : d.sc = true) : Dt K mg F x d := by
  rcases h with h | ⟨a, vs, xs, rfl, rfl, _⟩
  · exact h
  · cases q
theorem ops_in (neg : Bool) : OpS K mg (rInA K neg) (rdInN neg) := by
  intro F μ H x y dx dy Qd Q o wx wy h k
  cases dy <;> first | exact h.elim | skip
  · have h' : inS neg dx _ μ Qd := h
    unfold inS at h'
    split at h'
    · refine .inl ⟨_, S _, wx.str, wy.str, ?_⟩
      rw [S_list]
      exact fin0 o k (.bl _) h'
    · exact h'.elim
  · obtain ⟨h1, h2, h3⟩ := h
    obtain ⟨a, vs, rfl, ha, _, ra⟩ := wy.tup o
    refine .inr ⟨a, vs, rfl, .inr ha, (wx.val h1).sc h1, ra.sc h2, ?_⟩
    rw [ra.any (wx.val h1) h1 h2]
    exact fin0 o k (.bl _) h3
  · obtain ⟨h1, h2, h3⟩ := h
    obtain ⟨a, vs, rfl, ha, ra⟩ := wy.lst o
    refine .inr ⟨a, vs, rfl, .inl (.inl (.inl ha)), (wx.val h1).sc h1, ra.sc h2, ?_⟩
    rw [ra.any (wx.val h1) h1 h2]
    exact fin0 o k (.bl _) h3

/-- x[i] -/
def rdIx : RD2
  | .lst ds, .int i, μ, Q => ∃ d, atI ds i = some d ∧ Q d μ
  | .tup ds, .int i, μ, Q => ∃ d, atI ds i = some d ∧ Q d μ
  | .str s, .int i, μ, Q => s.length ≤ SZ ∧ ∃ c, atI s i = some c ∧ Q (.str [c]) μ
  | .scr ns, .int i, μ, Q => ∃ n, atI ns i = some n ∧ Q (.int n) μ
  | .ref a, .int i, μ, Q => ∃ ds d, μ a = some (.lst ds) ∧ atI ds i = some d ∧ Q d μ
  | _, _, _, _ => False
@[simp] theorem rdIx_1 : rdIx  (.lst ds0) (.int i0) μ0 Q0 = (∃ d, atI ds0 i0 = some d ∧ Q0 d μ0) := rfl
@[simp] theorem rdIx_2 : rdIx  (.tup ds0) (.int i0) μ0 Q0 = (∃ d, atI ds0 i0 = some d ∧ Q0 d μ0) := rfl
@[simp] theorem rdIx_3 : rdIx  (.str s0) (.int i0) μ0 Q0 = (s0.length ≤ SZ ∧ ∃ c, atI s0 i0 = some c ∧ Q0 (.str [c]) μ0) := rfl
@[simp] theorem rdIx_4 : rdIx  (.scr ns0) (.int i0) μ0 Q0 = (∃ n, atI ns0 i0 = some n ∧ Q0 (.int n) μ0) := rfl
@[simp] theorem rdIx_5 : rdIx  (.ref a0) (.int i0) μ0 Q0 = (∃ ds d, μ0 a0 = some (.lst ds) ∧ atI ds i0 = some d ∧ Q0 d μ0) := rfl
theorem Dts.atI {F : Hp} {vs : List V} {ds : List D} {i : Int} {d : D} (r : Dts K mg F vs ds) (h : L2.atI ds i = some d) : ∃ v, L2.atI vs i = some v ∧ Dt K mg F v d := by
  unfold L2.atI at h ⊢
  rw [r.length]
  cases e : ixN ds.length i with
  | none => rw [e] at h; cases h
  | some j =>
    rw [e] at h
    exact r.get h
theorem atI_map {α β : Type} {f : α → β} {xs : List α} {i : Int} {x : α} (h : L2.atI xs i = some x) : L2.atI (xs.map f) i = some (f x) := by
  unfold L2.atI at h ⊢
  rw [List.length_map]
  cases e : ixN xs.length i with
  | none => rw [e] at h; cases h
  | some j =>
    rw [e] at h
    have h' : xs[j]? = some x := h
    show (xs.map f)[j]? = _
    rw [List.getElem?_map, h']
    rfl
theorem ops_ix : OpS K mg (rIx K) rdIx := by
  intro F μ H x y dx dy Qd Q o wx wy h k
  cases dx <;> cases dy <;> first | exact h.elim | skip
  · obtain ⟨h0, c, h1, h2⟩ := h
    refine .inr (.inr ⟨_, _, c, wx.str, wy.int, by rw [S_len, sizeLine_eq]; exact h0, by rw [S_list]; exact h1, fin0 o k (.str [c]) h2⟩)
  · obtain ⟨d, h1, h2⟩ := h
    obtain ⟨a, vs, rfl, ha, _, ra⟩ := wx.tup o
    obtain ⟨v, g1, g2⟩ := ra.atI h1
    exact .inr (.inl ⟨a, vs, _, v, rfl, wy.int, ha, g1, fin0 o k g2 h2⟩)
  · obtain ⟨d, h1, h2⟩ := h
    obtain ⟨a, vs, rfl, ha, ra⟩ := wx.lst o
    obtain ⟨v, g1, g2⟩ := ra.atI h1
    exact .inl ⟨a, vs, _, v, rfl, wy.int, .inl (.inl ha), g1, fin0 o k g2 h2⟩
  · obtain ⟨n, h1, h2⟩ := h
    obtain ⟨a, rfl, ha⟩ := wx.scr o
    exact .inl ⟨a, _, _, _, rfl, wy.int, ha, atI_map h1, fin0 o k (.int _) h2⟩
  · obtain ⟨ds, d, h0, h1, h2⟩ := h
    cases wx.ref
    obtain ⟨vs, ha, ra⟩ := o.sto _ _ h0
    obtain ⟨v, g1, g2⟩ := ra.atI h1
    exact .inl ⟨_, vs, _, v, rfl, wy.int, .inl (.inl ha), g1, fin0 o k g2 h2⟩
end
section
variable {X : Cx} {a b e : Expr} {da db : TED} {pos : Pos}
theorem de_ix (ha : DW X a da) (hb : DW X b db) (hs : PlainIx b) : DE X (.Subscript a b pos) (dOp rdIx da db) := (pe_ix ix_seq ha hb hs).weaken fun _ _ _ q => lift_op ops_ix q

abbrev TOD := DEnv → Sto → (Option Int → Sto → Prop) → Prop
def liftO (K : PySem.W.Frag) (mg : Str → Option Value) (d : TOD) : TO := fun σ H Q => ∃ F ρ μ Qd, Rel K mg F ρ μ σ H ∧ d ρ μ Qd ∧ ∀ b F' μ' H', Ext F μ H F' μ' H' → Ok K mg F' μ' H' → Qd b μ' → Q b H'
structure DO (X : Cx) (e : Option Expr) (d : TOD) : Prop where
  po : ∃ t, PO X e t ∧ ∀ σ H Q, liftO X.K X.mg d σ H Q → t σ H Q
@[simp] def dNoPart : TOD := fun _ μ Q => Q none μ
@[simp] def dPart (d : TED) : TOD := fun ρ μ Q => d ρ μ fun x μ1 => ∃ i, x = .int i ∧ Q (some i) μ1
theorem do_none : DO X none dNoPart := ⟨_, po_none, fun σ H Q q => by
  obtain ⟨F, ρ, μ, Qd, R, hd, k⟩ := q
  exact k none F μ H .refl R.ok hd⟩
theorem do_some (h : DE X e da) : DO X (some e) (dPart da) := ⟨_, po_some h, fun σ H Q q => by
  obtain ⟨F, ρ, μ, Qd, R, hd, k⟩ := q
  refine ⟨F, ρ, μ, _, R, hd, fun v F1 μ1 H1 dv e1 o1 w1 q1 => ?_⟩
  obtain ⟨i, rfl, q1⟩ := q1
  cases w1
  exact ⟨i, rfl, k _ F1 μ1 H1 e1 o1 q1⟩⟩
def cut {α : Type} (l : List α) (lo hi : Option Int) : List α := (l.drop (HT.sIx l.length 0 lo)).take (HT.sIx l.length l.length hi - HT.sIx l.length 0 lo)
def rdSl : D → Option Int → Option Int → Sto → DK → Prop
  | .str s, lo, hi, μ, Q => s.length ≤ SZ ∧ Q (.str (cut s lo hi)) μ
  | .tup ds, lo, hi, μ, Q => Q (.tup (cut ds lo hi)) μ
  | .lst ds, lo, hi, μ, Q => Q (.lst (cut ds lo hi)) μ
  | .scr ns, lo, hi, μ, Q => Q (.lst ((cut ns lo hi).map D.int)) μ
  | _, _, _, _, _ => False
@[simp] theorem rdSl_1 : rdSl  (.str s0) lo0 hi0 μ0 Q0 = (s0.length ≤ SZ ∧ Q0 (.str (cut s0 lo0 hi0)) μ0) := rfl
@[simp] theorem rdSl_2 : rdSl  (.tup ds0) lo0 hi0 μ0 Q0 = (Q0 (.tup (cut ds0 lo0 hi0)) μ0) := rfl
@[simp] theorem rdSl_3 : rdSl  (.lst ds0) lo0 hi0 μ0 Q0 = (Q0 (.lst (cut ds0 lo0 hi0)) μ0) := rfl
@[simp] theorem rdSl_4 : rdSl  (.scr ns0) lo0 hi0 μ0 Q0 = (Q0 (.lst ((cut ns0 lo0 hi0).map D.int)) μ0) := rfl
@[simp] def dSl (a : TED) (lo hi : TOD) : TED := fun ρ μ Q => a ρ μ fun x μ1 => lo ρ μ1 fun l μ2 => hi ρ μ2 fun u μ3 => rdSl x l u μ3 Q
theorem cutS_S (s : List Nat) (l u : Option Int) : cutS (S s) l u = S (cut s l u) := by unfold cutS cut; rw [S_list, S_len]
theorem cutV_cut (vs : List V) (lo hi : Option Int) : cutV vs lo hi = cut vs lo hi := rfl
theorem Dts.cut {K : PySem.W.Frag} {mg : Str → Option Value} {F : Hp} {vs : List V} {ds : List D} (r : Dts K mg F vs ds) (lo hi : Option Int) : Dts K mg F (cut vs lo hi) (cut ds lo hi) := by
  unfold DL.cut
  rw [r.length]
  exact (r.drop _).take _
theorem cut_map {α β : Type} (f : α → β) (l : List α) (lo hi : Option Int) : cut (l.map f) lo hi = (cut l lo hi).map f := by
  unfold cut
  rw [List.length_map, List.map_take, List.map_drop]
theorem cut_all {α : Type} {l : List α} {lo hi : Option Int} (h : HT.sIx l.length 0 lo = 0 ∧ HT.sIx l.length l.length hi = l.length) : cut l lo hi = l := by
  unfold cut
  rw [h.1, h.2]
  simp
def rSlAll (K : PySem.W.Frag) : V → Option Int → Option Int → Hp → VK → Prop := fun x lo hi H Q => (rSlS x lo hi H Q ∨ rSlZ K x lo hi H Q) ∨ rSlL K x lo hi H Q
theorem sl_all {X : Cx} : SlR X (rSlAll X.K) := .or (.or sl_str sl_tupZ) sl_list
variable {lo hi : Option Expr} {dl dh : TOD} {p2 : Pos}
theorem de_slice (ha : DW X a da) (hl : DO X lo dl) (hh : DO X hi dh) : DE X (.Subscript a (.Slice lo hi none p2) pos) (dSl da dl dh) := by
  obtain ⟨tl, pl, sl⟩ := hl
  obtain ⟨th, ph, sh⟩ := hh
  refine (pe_slice sl_all ha pl ph).weaken fun σ H Q q => ?_
  obtain ⟨F, ρ, μ, Qd, R, hd, k⟩ := q
  refine ⟨F, ρ, μ, _, R, hd, fun v F1 μ1 H1 dv e1 o1 w1 q1 => ?_⟩
  refine sl _ _ _ ⟨F1, ρ, μ1, _, R.ext e1 o1, q1, fun l F2 μ2 H2 e2 o2 q2 => ?_⟩
  refine sh _ _ _ ⟨F2, ρ, μ2, _, R.ext (e1.trans e2) o2, q2, fun u F3 μ3 H3 e3 o3 q3 => ?_⟩
  have w3 := (w1.ext e2).ext e3
  have k3 : ∀ z F' μ' H' dz, Ext F3 μ3 H3 F' μ' H' → Ok X.K X.mg F' μ' H' → Dt X.K X.mg F' z dz → Qd dz μ' → Q z H' := fun z F' μ' H' dz e o w q => k z F' μ' H' dz (e1.trans (e2.trans (e3.trans e))) o w q
  cases dv <;> first | exact q3.elim | skip
  · obtain ⟨h1, h2⟩ := q3
    refine .inl (.inl ⟨_, w3.str, by rw [S_len, sizeLine_eq]; exact h1, ?_⟩)
    rw [cutS_S]
    exact fin0 o3 k3 (.str _) h2
  · have q3' : Qd (.tup (cut _ l u)) μ3 := q3
    obtain ⟨a, vs, rfl, ha, hf, ra⟩ := w3.tup o3
    refine .inl (.inr ⟨a, vs, rfl, ha, fun c => ?_, fun c p ob hp hob => ?_⟩)
    · rw [ra.length] at c
      rw [cut_all c] at q3'
      rcases w3 with w3 | ⟨_, _, _, _, z, _⟩
      · exact fin0 o3 k3 w3 q3'
      · cases z
    · obtain ⟨g1, g2, g3⟩ := newTup o3 (ra.cut l u) hp hob
      exact k3 _ _ _ _ _ g1 g2 g3 q3'
  · have q3' : Qd (.lst (cut _ l u)) μ3 := q3
    obtain ⟨a, vs, rfl, ha, ra⟩ := w3.lst o3
    refine .inr ⟨a, vs, rfl, .inl (.inl ha), fun p hp => ?_⟩
    obtain ⟨g1, g2, g3⟩ := newLst o3 (ra.cut l u) hp
    exact k3 _ _ _ _ _ g1 g2 g3 q3'
  · obtain ⟨a, rfl, ha⟩ := w3.scr o3
    refine .inr ⟨a, _, rfl, ha, fun p hp => ?_⟩
    rw [cutV_cut, cut_map]
    obtain ⟨g1, g2, g3⟩ := newLst o3 (Dts.ofInts (K := X.K) (mg := X.mg) (F := F3) (cut _ l u)) hp
    exact k3 _ _ _ _ _ g1 g2 g3 q3

@[simp] def dNil : TAD := fun _ μ Q => Q [] μ
@[simp] def dCons (a : TED) (t : TAD) : TAD := fun ρ μ Q => a ρ μ fun x μ1 => t ρ μ1 fun xs μ2 => Q (x :: xs) μ2
variable {es : List Expr} {t : TAD}
theorem da_nil : DA X [] dNil := pa_nil.weaken fun σ H Q q => by
  obtain ⟨F, ρ, μ, Qd, R, hd, k⟩ := q
  exact k [] F μ H [] .refl R.ok .nil hd
theorem da_cons (h : DE X e da) (hr : DA X es t) (hs : starEach (e :: es) X.env = (false, eval e X.env) :: starEach es X.env := by rfl) : DA X (e :: es) (dCons da t) := (pa_cons h hr hs).weaken fun σ H Q q => by
  obtain ⟨F, ρ, μ, Qd, R, hd, k⟩ := q
  refine ⟨F, ρ, μ, _, R, hd, fun v F1 μ1 H1 dv e1 o1 w1 q1 => ?_⟩
  exact ⟨F1, ρ, μ1, _, R.ext e1 o1, q1, fun vs F2 μ2 H2 ds e2 o2 w2 q2 => k (v :: vs) F2 μ2 H2 (dv :: ds) (e1.trans e2) o2 (.cons (w1.mono e2.mono) w2) q2⟩
/-- the values only looked at -/
theorem daw_nil : DAW X [] dNil := pa_nil.weaken fun σ H Q q => by
  obtain ⟨F, ρ, μ, Qd, R, hd, k⟩ := q
  exact k [] F μ H [] .refl R.ok .nil hd
theorem Wks.ext {K : PySem.W.Frag} {mg : Str → Option Value} {F F' H H' : Hp} {μ μ' : Sto} (e : Ext F μ H F' μ' H') : ∀ {vs : List V} {ds : List D}, Wks K mg F μ H vs ds → Wks K mg F' μ' H' vs ds
  | _, _, .nil => .nil
  | _, _, .cons h r => .cons (h.ext e) (Wks.ext e r)
theorem daw_cons (h : DW X e da) (hr : DAW X es t) (hs : starEach (e :: es) X.env = (false, eval e X.env) :: starEach es X.env := by rfl) : DAW X (e :: es) (dCons da t) := (pa_cons h hr hs).weaken fun σ H Q q => by
  obtain ⟨F, ρ, μ, Qd, R, hd, k⟩ := q
  refine ⟨F, ρ, μ, _, R, hd, fun v F1 μ1 H1 dv e1 o1 w1 q1 => ?_⟩
  exact ⟨F1, ρ, μ1, _, R.ext e1 o1, q1, fun vs F2 μ2 H2 ds e2 o2 w2 q2 => k (v :: vs) F2 μ2 H2 (dv :: ds) (e1.trans e2) o2 (.cons (w1.ext e2) w2) q2⟩
@[simp] def dTup (t : TAD) : TED := fun ρ μ Q => t ρ μ fun xs μ1 => xs.length ≤ SZ ∧ Q (.tup xs) μ1
@[simp] def dLst (t : TAD) : TED := fun ρ μ Q => t ρ μ fun xs μ1 => xs.length ≤ SZ ∧ Q (.lst xs) μ1
@[simp] def dLstF (t : TAD) : TFD := fun ρ μ Q => t ρ μ fun xs μ1 => xs.length ≤ SZ ∧ Q xs μ1
theorem de_tup {x1} (h : DA X es t) : DE X (.Tuple es x1 pos) (dTup t) := (pe_tupZ h).weaken fun σ H Q q => by
  obtain ⟨F, ρ, μ, Qd, R, hd, k⟩ := q
  refine ⟨F, ρ, μ, _, R, hd, fun vs F1 μ1 H1 ds e1 o1 w1 q1 => ⟨by rw [w1.length, sizeLine_eq]; exact q1.1, fun p ob hp hob => ?_⟩⟩
  obtain ⟨g1, g2, g3⟩ := newTup o1 w1 hp hob
  exact k _ _ _ _ _ (e1.trans g1) g2 g3 q1.2
theorem de_lst (h : DA X es t) : DE X (.List es pos) (dLst t) := (pe_lst h).weaken fun σ H Q q => by
  obtain ⟨F, ρ, μ, Qd, R, hd, k⟩ := q
  refine ⟨F, ρ, μ, _, R, hd, fun vs F1 μ1 H1 ds e1 o1 w1 q1 => ⟨by rw [w1.length, sizeLine_eq]; exact q1.1, fun p hp => ?_⟩⟩
  obtain ⟨g1, g2, g3⟩ := newLst o1 w1 hp
  exact k _ _ _ _ _ (e1.trans g1) g2 g3 q1.2
theorem df_lst (h : DA X es t) : DF X (.List es pos) (dLstF t) := (pe_lst h).weaken fun σ H Q q => by
  obtain ⟨F, ρ, μ, Qd, R, hd, k⟩ := q
  refine ⟨F, ρ, μ, _, R, hd, fun vs F1 μ1 H1 ds e1 o1 w1 q1 => ⟨by rw [w1.length, sizeLine_eq]; exact q1.1, fun p hp => ?_⟩⟩
  obtain ⟨g1, g2⟩ := o1.layN hp (.lst vs)
  obtain ⟨f1, f2⟩ := o1.fresh hp
  have hp0 : H p = none := e1.live p hp
  exact k _ _ _ _ _ _ (e1.trans g2) g1 hp0 f1 f2 upd_same w1 q1.2
end
end DL

namespace DL
open PySem PySem.Spec PyProof.Rows L2
section
variable {K : PySem.W.Frag} {mg : Str → Option Value} {B : Bs} {F F' H H' : Hp} {μ μ' : Sto} {ρ : DEnv} {σ : L2.St}
theorem RelB.step (r : RelB K mg B F ρ μ σ H) (e : Ext F μ H F' μ' H') (o : Ok K mg F' μ' H') : RelB K mg B F' ρ μ' σ H' :=
  ⟨r.rel.ext e o, r.ext.trans e, r.new⟩
theorem RelB.set (r : RelB K mg B F ρ μ σ H) {i : Nat} {v : V} {d : D} (h : Dt K mg F v d) : RelB K mg B F (ρ.set i (some (.val d))) μ (σ.set i (some v)) H := by
  refine ⟨⟨r.rel.ok, by rw [List.length_set, List.length_set]; exact r.rel.len, fun j s e => ?_, fun j l xs ys e1 e2 e3 => ?_⟩, r.ext, fun j xs a e1 e2 => ?_⟩
  · by_cases hj : i = j
    · subst hj
      have hl : i < ρ.length := by
        have := (List.getElem?_eq_some_iff.mp e).1
        rwa [List.length_set] at this
      rw [List.getElem?_set_self hl] at e
      cases e
      exact ⟨v, List.getElem?_set_self (by rw [← r.rel.len]; exact hl), h⟩
    · rw [List.getElem?_set_ne hj] at e
      rw [List.getElem?_set_ne hj]
      exact r.rel.slot j s e
  · have n1 : i ≠ j := fun q => by
      subst q
      rw [List.getElem?_set_self (by have := (List.getElem?_eq_some_iff.mp e1).1; rwa [List.length_set] at this)] at e1
      cases e1
    have n2 : i ≠ l := fun q => by
      subst q
      rw [List.getElem?_set_self (by have := (List.getElem?_eq_some_iff.mp e2).1; rwa [List.length_set] at this)] at e2
      cases e2
    rw [List.getElem?_set_ne n1] at e1 e3
    rw [List.getElem?_set_ne n2] at e2 e3
    exact r.rel.apart j l xs ys e1 e2 e3
  · have n1 : i ≠ j := fun q => by
      subst q
      rw [List.getElem?_set_self (by have := (List.getElem?_eq_some_iff.mp e1).1; rwa [List.length_set] at this)] at e1
      cases e1
    rw [List.getElem?_set_ne n1] at e1 e2
    exact r.new j xs a e1 e2
/-- a slot takes a list that nobody knows -/
theorem RelB.setOwn (r : RelB K mg B F ρ μ σ H) {i : Nat} {p : Addr} {vs : List V} {ds : List D} (hf : F p = none) (hm : μ p = none) (hh : H p = some (.lst vs)) (h : Dts K mg F vs ds) (hb : B.H p = none)
    (hn : ∀ (j : Nat) (xs : List D), i ≠ j → ρ[j]? = some (some (DS.own xs)) → σ[j]? ≠ some (some (.ref p))) : RelB K mg B F (ρ.set i (some (.own ds))) μ (σ.set i (some (.ref p))) H := by
  have len : ∀ {j : Nat} {s : Option DS}, (ρ.set i (some (.own ds)))[j]? = some s → j < ρ.length := fun {j s} e => by
    have := (List.getElem?_eq_some_iff.mp e).1
    rwa [List.length_set] at this
  refine ⟨⟨r.rel.ok, by rw [List.length_set, List.length_set]; exact r.rel.len, fun j s e => ?_, fun j l xs ys e1 e2 e3 => ?_⟩, r.ext, fun j xs a e1 e2 => ?_⟩
  · by_cases hj : i = j
    · subst hj
      have hl := len e
      rw [List.getElem?_set_self hl] at e
      cases e
      exact ⟨_, List.getElem?_set_self (by rw [← r.rel.len]; exact hl), p, vs, rfl, hf, hm, hh, h⟩
    · rw [List.getElem?_set_ne hj] at e
      rw [List.getElem?_set_ne hj]
      exact r.rel.slot j s e
  · by_cases n1 : i = j
    · by_cases n2 : i = l
      · exact n1.symm.trans n2
      · subst n1
        rw [List.getElem?_set_ne n2] at e2 e3
        rw [List.getElem?_set_self (by rw [← r.rel.len]; exact len e1)] at e3
        exact absurd e3.symm (hn l ys n2 e2)
    · by_cases n2 : i = l
      · subst n2
        rw [List.getElem?_set_ne n1] at e1 e3
        rw [List.getElem?_set_self (by rw [← r.rel.len]; exact len e2)] at e3
        exact absurd e3 (hn j xs n1 e1)
      · rw [List.getElem?_set_ne n1] at e1 e3
        rw [List.getElem?_set_ne n2] at e2 e3
        exact r.rel.apart j l xs ys e1 e2 e3
  · by_cases n1 : i = j
    · subst n1
      rw [List.getElem?_set_self (by rw [← r.rel.len]; exact len e1)] at e2
      cases e2
      exact hb
    · rw [List.getElem?_set_ne n1] at e1 e2
      exact r.new j xs a e1 e2
theorem RelB.ownAt (r : RelB K mg B F ρ μ σ H) {i : Nat} {xs : List D} (h : ρ[i]? = some (some (.own xs))) : ∃ p vs, σ[i]? = some (some (.ref p)) ∧ F p = none ∧ μ p = none ∧ H p = some (.lst vs) ∧ Dts K mg F vs xs ∧ B.H p = none := by
  obtain ⟨v, h1, a, vs, rfl, hf, hm, hh, hd⟩ := r.rel.slot i _ h
  exact ⟨a, vs, h1, hf, hm, hh, hd, r.new i xs a h h1⟩
/-- a list of the frame's own is changed -/
theorem RelB.writeOwn (r : RelB K mg B F ρ μ σ H) {i : Nat} {xs ys : List D} {p : Addr} {vs ws : List V} (h : ρ[i]? = some (some (.own xs))) (hs : σ[i]? = some (some (.ref p))) (hf : F p = none) (hm : μ p = none) (hh : H p = some (.lst vs)) (hb : B.H p = none)
    (hd : Dts K mg F ws ys) : RelB K mg B F (ρ.set i (some (.own ys))) μ σ (upd H p (.lst ws)) := by
  have hi : i < ρ.length := (List.getElem?_eq_some_iff.mp h).1
  have other : ∀ (j : Nat) (zs : List D), i ≠ j → ρ[j]? = some (some (DS.own zs)) → σ[j]? ≠ some (some (.ref p)) := fun j zs hj e q => hj (r.rel.apart i j xs zs h e (hs.trans q.symm))
  have ok' := r.rel.ok.writeN hf hm (.lst ws)
  have r' : RelB K mg B F (ρ.set i none) μ σ (upd H p (.lst ws)) := by
    have nn : ∀ {j : Nat} {s : DS}, (ρ.set i none)[j]? = some (some s) → i ≠ j ∧ ρ[j]? = some (some s) := fun {j s} e => by
      by_cases hj : i = j
      · subst hj; rw [List.getElem?_set_self hi] at e; cases e
      · rw [List.getElem?_set_ne hj] at e; exact ⟨hj, e⟩
    refine ⟨⟨ok', by rw [List.length_set]; exact r.rel.len, fun j s e => ?_, fun j l as bs e1 e2 e3 => r.rel.apart j l as bs (nn e1).2 (nn e2).2 e3⟩, ⟨r.ext.mono, fun a o e n => ?_, fun a e => r.ext.live a (upd_live a e)⟩, fun j zs a e1 e2 => r.new j zs a (nn e1).2 e2⟩
    · obtain ⟨hj, e⟩ := nn e
      obtain ⟨v, h1, h2⟩ := r.rel.slot j s e
      refine ⟨v, h1, ?_⟩
      cases s with
      | val d => exact h2
      | own zs =>
        obtain ⟨a, us, rfl, g1, g2, g3, g4⟩ := h2
        have ha : a ≠ p := fun q => other j zs hj e (by rw [h1, q])
        exact ⟨a, us, rfl, g1, g2, by rw [upd_ne ha]; exact g3, g4⟩
    · obtain ⟨g1, g2, g3⟩ := r.ext.keep a o e n
      have ha : a ≠ p := fun q => by subst q; rw [hb] at e; cases e
      exact ⟨by rw [upd_ne ha]; exact g1, g2, g3⟩
  have := r'.setOwn (i := i) (p := p) (ds := ys) hf hm upd_same hd hb (fun j zs hj e => other j zs hj (by rw [List.getElem?_set_ne hj] at e; exact e))
  rw [List.set_set] at this
  have e2 : σ.set i (some (.ref p)) = σ := by
    apply List.ext_getElem?
    intro j
    by_cases hj : i = j
    · subst hj
      rw [List.getElem?_set_self (by rw [← r.rel.len]; exact hi), hs]
    · rw [List.getElem?_set_ne hj]
  rw [e2] at this
  exact this
/-- a list of the frame's own never changes any more -/
theorem RelB.freeze (r : RelB K mg B F ρ μ σ H) {i : Nat} {xs : List D} (h : ρ[i]? = some (some (.own xs))) : ∃ F', FLe F F' ∧ RelB K mg B F' (ρ.set i (some (.val (.lst xs)))) μ σ H ∧ (∃ v, σ[i]? = some (some v) ∧ Dt K mg F' v (.lst xs)) := by
  obtain ⟨p, vs, hs, hf, hm, hh, hd, hb⟩ := r.ownAt h
  have hi : i < ρ.length := (List.getElem?_eq_some_iff.mp h).1
  have ok' := r.rel.ok.freeze hf hm hh
  have mono : ∀ a x, F a = some x → upd F p (.lst vs) a = some x := fun a x e => by rw [upd_ne (ne_of_none e hf)]; exact e
  have dl : Dt K mg (upd F p (.lst vs)) (.ref p) (.lst xs) := .lst upd_same (hd.mono mono)
  refine ⟨upd F p (.lst vs), mono, ?_, _, hs, dl⟩
  have nn : ∀ {j : Nat} {s : DS}, (ρ.set i (some (.val (.lst xs))))[j]? = some (some s) → (i = j ∧ s = .val (.lst xs)) ∨ (i ≠ j ∧ ρ[j]? = some (some s)) := fun {j s} e => by
    by_cases hj : i = j
    · subst hj; rw [List.getElem?_set_self hi] at e; cases e; exact .inl ⟨rfl, rfl⟩
    · rw [List.getElem?_set_ne hj] at e; exact .inr ⟨hj, e⟩
  refine ⟨⟨ok', by rw [List.length_set]; exact r.rel.len, fun j s e => ?_, fun j l as bs e1 e2 e3 => ?_⟩, ⟨fun a x e => mono a x (r.ext.mono a x e), fun a x e n => ?_, r.ext.live⟩, fun j zs a e1 e2 => ?_⟩
  · rcases nn e with ⟨rfl, rfl⟩ | ⟨hj, e⟩
    · exact ⟨_, hs, dl⟩
    · obtain ⟨v, h1, h2⟩ := r.rel.slot j s e
      refine ⟨v, h1, ?_⟩
      cases s with
      | val d => exact Dt.mono mono h2
      | own zs =>
        obtain ⟨a, us, rfl, g1, g2, g3, g4⟩ := h2
        have ha : a ≠ p := fun q => hj (r.rel.apart i j xs zs h e (by rw [hs, h1, q]))
        exact ⟨a, us, rfl, by rw [upd_ne ha]; exact g1, g2, g3, g4.mono mono⟩
  · rcases nn e1 with ⟨_, q⟩ | ⟨_, e1⟩
    · cases q
    · rcases nn e2 with ⟨_, q⟩ | ⟨_, e2⟩
      · cases q
      · exact r.rel.apart j l as bs e1 e2 e3
  · obtain ⟨g1, g2, g3⟩ := r.ext.keep a x e n
    have ha : a ≠ p := fun q => by subst q; rw [hb] at e; cases e
    exact ⟨g1, by rw [upd_ne ha]; exact g2, g3⟩
  · rcases nn e1 with ⟨_, q⟩ | ⟨_, e1⟩
    · cases q
    · exact r.new j zs a e1 e2
end

section
variable {X : Cx} {B : Bs} {st : Stmt} {rest : List Stmt} {t u : TSD} {e : Expr} {d : TED} {pos : Pos}
@[simp] def dNext : TSD := fun D ρ μ => D.nx ρ μ
@[simp] def dSeq (t u : TSD) : TSD := fun D ρ μ => t { D with nx := u D } ρ μ
theorem ds_nil : DSs X B [] dNext := pss_nil.weaken fun D σ H h => by
  obtain ⟨F, ρ, μ, Dd, R, hd, kn, _⟩ := h
  exact kn F ρ μ σ H .rfl' R hd
theorem ds_cons (h1 : DSt X B st t) (h2 : DSs X B rest u) : DSs X B (st :: rest) (dSeq t u) := (pss_cons h1 h2).weaken fun D σ H h => by
  obtain ⟨F, ρ, μ, Dd, R, hd, kn, kb, kc, kr⟩ := h
  exact ⟨F, ρ, μ, { Dd with nx := u Dd }, R, hd, fun F' ρ' μ' σ' H' hF R' q => ⟨F', ρ', μ', Dd, R', q, fun F2 ρ2 μ2 σ2 H2 h2 => kn F2 ρ2 μ2 σ2 H2 (hF.trans h2), fun F2 ρ2 μ2 σ2 H2 h2 => kb F2 ρ2 μ2 σ2 H2 (hF.trans h2), fun F2 ρ2 μ2 σ2 H2 h2 => kc F2 ρ2 μ2 σ2 H2 (hF.trans h2), kr⟩, kb, kc, kr⟩
theorem ds_last (h1 : DSt X B st t) : DSs X B [st] t := pss_one h1
@[simp] def dBreak : TSD := fun D ρ μ => D.bk ρ μ
@[simp] def dCont : TSD := fun D ρ μ => D.ct ρ μ
/-- ghost: a list of the frame's own never changes any more -/
@[simp] def dFreeze (i : Nat) (t : TSD) : TSD := fun D ρ μ => ∃ xs, ρ[i]? = some (some (.own xs)) ∧ t D (ρ.set i (some (.val (.lst xs)))) μ
@[simp] def dDrop (d : TED) : TSD := fun D ρ μ => d ρ μ fun _ μ1 => D.nx ρ μ1
theorem ds_expr (he : DE X e d) (hs : swapsWith e none pos.line X.env = pure false := by rfl) : DSt X B (.Expr e pos) (dDrop d) := (ps_expr he hs).weaken fun D σ H h => by
  obtain ⟨F, ρ, μ, Dd, R, hd, kn, kb, kc, kr⟩ := h
  exact ⟨F, ρ, μ, _, R.rel, hd, fun v F' μ' H' dv e o w q => kn F' ρ μ' σ H' e.mono (R.step e o) q⟩
@[simp] def dRet (d : TED) : TSD := fun D ρ μ => d ρ μ D.rt
theorem ds_ret (he : DE X e d) : DSt X B (.Return (some e) pos) (dRet d) := (ps_ret he).weaken fun D σ H h => by
  obtain ⟨F, ρ, μ, Dd, R, hd, kn, kb, kc, kr⟩ := h
  exact ⟨F, ρ, μ, _, R.rel, hd, fun v F' μ' H' dv e o w q => kr v F' μ' H' dv (R.ext.trans e) o w q⟩
/-- return x, x perhaps a list of the frame's own -/
theorem ds_retName {i : Nat} {x : Str} {p : Pos} (h : PE X (.Name x p) (tVar i)) : DSt X B (.Return (some (.Name x p)) pos) (dRet (dLook i)) := (ps_ret h).weaken fun D σ H h => by
  obtain ⟨F, ρ, μ, Dd, R, hd, kn, kb, kc, kr⟩ := h
  have hd' : dLook i ρ μ Dd.rt := hd
  cases e : ρ[i]? with
  | none => simp [dLook, e] at hd'
  | some o =>
    cases o with
    | none => simp [dLook, e] at hd'
    | some s =>
      cases s with
      | val d =>
        obtain ⟨v, h1, h2⟩ := R.rel.slot i _ e
        exact ⟨v, h1, kr v F μ H d R.ext R.rel.ok h2 (by simpa [dLook, e] using hd')⟩
      | own xs =>
        obtain ⟨F', _, R', v, h1, h2⟩ := R.freeze e
        exact ⟨v, h1, kr v F' μ H _ R'.ext R'.rel.ok h2 (by simpa [dLook, e] using hd')⟩
@[simp] def dIfS (c : TTD) (t u : TSD) : TSD := fun D ρ μ => c ρ μ fun b μ1 => if b = true then t D ρ μ1 else u D ρ μ1
theorem ds_if {c : Expr} {a b : List Stmt} {tc : TTD} (hc : DT X c tc) (ha : DSs X B a t) (hb : DSs X B b u) : DSt X B (.If c a b pos) (dIfS tc t u) := (ps_if hc ha hb).weaken fun D σ H h => by
  obtain ⟨F, ρ, μ, Dd, R, hd, kn, kb, kc, kr⟩ := h
  refine ⟨F, ρ, μ, _, R.rel, hd, fun b F' μ' H' e o q => ?_⟩
  cases b with
  | true => exact ⟨F', ρ, μ', Dd, R.step e o, q, fun F2 ρ2 μ2 σ2 H2 h2 => kn F2 ρ2 μ2 σ2 H2 (FLe.trans e.mono h2), fun F2 ρ2 μ2 σ2 H2 h2 => kb F2 ρ2 μ2 σ2 H2 (FLe.trans e.mono h2), fun F2 ρ2 μ2 σ2 H2 h2 => kc F2 ρ2 μ2 σ2 H2 (FLe.trans e.mono h2), kr⟩
  | false => exact ⟨F', ρ, μ', Dd, R.step e o, q, fun F2 ρ2 μ2 σ2 H2 h2 => kn F2 ρ2 μ2 σ2 H2 (FLe.trans e.mono h2), fun F2 ρ2 μ2 σ2 H2 h2 => kb F2 ρ2 μ2 σ2 H2 (FLe.trans e.mono h2), fun F2 ρ2 μ2 σ2 H2 h2 => kc F2 ρ2 μ2 σ2 H2 (FLe.trans e.mono h2), kr⟩

abbrev TGD := D → DEnv → (DEnv → Prop) → Prop
abbrev TGDs := List D → DEnv → (DEnv → Prop) → Prop
/-- ns: the slots that it may store to -/
def liftG (K : PySem.W.Frag) (mg : Str → Option Value) (B : Bs) (ns : List Nat) (g : TGD) : TG := fun v σ H Q => ∃ F ρ μ dv Qd, RelB K mg B F ρ μ σ H ∧ Dt K mg F v dv ∧ g dv ρ Qd ∧
  ∀ ρ' σ', RelB K mg B F ρ' μ σ' H → σ'.length = σ.length → (∀ j, j ∉ ns → σ'[j]? = σ[j]?) → Qd ρ' → Q σ' H
def liftGs (K : PySem.W.Frag) (mg : Str → Option Value) (B : Bs) (ns : List Nat) (g : TGDs) : TGs := fun vs σ H Q => ∃ F ρ μ ds Qd, RelB K mg B F ρ μ σ H ∧ Dts K mg F vs ds ∧ g ds ρ Qd ∧
  ∀ ρ' σ', RelB K mg B F ρ' μ σ' H → σ'.length = σ.length → (∀ j, j ∉ ns → σ'[j]? = σ[j]?) → Qd ρ' → Q σ' H
abbrev DG (X : Cx) (B : Bs) (tg : Expr) (ns : List Nat) (g : TGD) : Prop := PG X tg (liftG X.K X.mg B ns g)
abbrev DGs (X : Cx) (B : Bs) (ts : List Expr) (ns : List Nat) (g : TGDs) : Prop := PGs X ts (liftGs X.K X.mg B ns g)
theorem _root_.L2.PG.weaken {X : Cx} {e : Expr} {t t' : TG} (h : PG X e t) (w : ∀ v σ H Q, t' v σ H Q → t v σ H Q) : PG X e t' := ⟨fun pins s σ H v u Q I r q => h.run pins s σ H v u Q I r (w v σ H Q q)⟩
theorem _root_.L2.PGs.weaken {X : Cx} {e : List Expr} {t t' : TGs} (h : PGs X e t) (w : ∀ v σ H Q, t' v σ H Q → t v σ H Q) : PGs X e t' := ⟨fun pins s σ H v u Q I r q => h.run pins s σ H v u Q I r (w v σ H Q q)⟩
@[simp] def dName (i : Nat) : TGD := fun d ρ Q => Q (ρ.set i (some (.val d)))
theorem dg_name {i : Nat} {x : Str} (h : PG X (.Name x pos) (gName i)) : DG X B (.Name x pos) [i] (dName i) := h.weaken fun v σ H Q q => by
  obtain ⟨F, ρ, μ, dv, Qd, R, w, hd, k⟩ := q
  exact k _ _ (R.set w) (by rw [List.length_set]) (fun j hj => List.getElem?_set_ne fun z => hj (by simp [z])) hd
@[simp] def gdNil : TGDs
  | [], ρ, Q => Q ρ
  | _ :: _, _, _ => False
@[simp] def gdCons (g : TGD) (gs : TGDs) : TGDs
  | d :: r, ρ, Q => g d ρ fun ρ1 => gs r ρ1 Q
  | [], _, _ => False
theorem dgs_nil : DGs X B [] [] gdNil := pgs_nil.weaken fun vs σ H Q q => by
  obtain ⟨F, ρ, μ, ds, Qd, R, w, hd, k⟩ := q
  cases w with
  | nil => exact ⟨rfl, k ρ σ R rfl (fun _ _ => rfl) hd⟩
  | cons => exact hd.elim
theorem dgs_cons {es : List Expr} {n1 n2 : List Nat} {g : TGD} {gs : TGDs} (h1 : DG X B e n1 g) (h2 : DGs X B es n2 gs) (hs : (assignEach (e :: es) X.env).map (·.2) = assign e X.env :: (assignEach es X.env).map (·.2) := by rfl) :
    DGs X B (e :: es) (n1 ++ n2) (gdCons g gs) := (pgs_cons h1 h2 hs).weaken fun vs σ H Q q => by
  obtain ⟨F, ρ, μ, ds, Qd, R, w, hd, k⟩ := q
  cases w with
  | nil => exact hd.elim
  | cons wv ws =>
    refine ⟨_, _, rfl, F, ρ, μ, _, _, R, wv, hd, fun ρ1 σ1 R1 l1 f1 q1 => ?_⟩
    exact ⟨F, ρ1, μ, _, Qd, R1, ws, q1, fun ρ2 σ2 R2 l2 f2 q2 => k ρ2 σ2 R2 (l2.trans l1) (fun j hj => by
      rw [List.mem_append, not_or] at hj
      rw [f2 j hj.2, f1 j hj.1]) q2⟩
/-- (a, b, ..) = a tuple, a list of that length -/
@[simp] def dUnp (n : Nat) (gs : TGDs) : TGD
  | .tup ds, ρ, Q => ds.length = n ∧ gs ds ρ Q
  | .pr a b, ρ, Q => n = 2 ∧ gs [a, b] ρ Q
  | _, _, _ => False
@[simp] def dUnl (n : Nat) (gs : TGDs) : TGD
  | .lst ds, ρ, Q => ds.length = n ∧ gs ds ρ Q
  | _, _, _ => False
theorem dg_tup {es : List Expr} {k : Nat} {ns : List Nat} {gs : TGDs} {n : Nat} (hc : X.calm = true) (h : DGs X B es ns gs)
    (hn : (assignEach es X.env).length = n := by rfl) (hst : (assignEach es X.env).findIdx? (·.1) = none := by rfl) : DG X B (.Tuple es k pos) ns (dUnp n gs) := (pg_tup hc h hn hst).weaken fun v σ H Q q => by
  obtain ⟨F, ρ, μ, dv, Qd, R, w, hd, k⟩ := q
  cases dv <;> first | exact hd.elim | skip
  · obtain ⟨h1, h2⟩ := hd
    obtain ⟨a, vs, rfl, ha, hf, ra⟩ := Wk.tup R.rel.ok (μ := μ) (.inl w)
    exact ⟨a, vs, rfl, ha, ra.length.trans h1, F, ρ, μ, _, Qd, R, ra, h2, k⟩
  · obtain ⟨h1, h2⟩ := hd
    cases w with
    | pr hf r r2 => exact ⟨_, _, rfl, .inl (.inl (R.rel.ok.sub _ _ hf)), h1.symm, F, ρ, μ, _, Qd, R, .cons r (.cons r2 .nil), h2, k⟩
@[simp] def dAsg (d : TED) (g : TGD) : TSD := fun D ρ μ => d ρ μ fun x μ1 => g x ρ fun ρ1 => D.nx ρ1 μ1
theorem ds_asg {tg : Expr} {ns : List Nat} {g : TGD} (he : DE X e d) (hg : DG X B tg ns g) (hs : swapsWithSole [tg] e pos.line X.env = pure false := by rfl) (hw : swappedStores [tg] e X.env = pure none := by rfl)
    (h1 : (assignEach [tg] X.env).map (·.2) = [assign tg X.env] := by rfl) : DSt X B (.Assign [tg] e pos) (dAsg d g) := (ps_asg he hg hs hw h1).weaken fun D σ H h => by
  obtain ⟨F, ρ, μ, Dd, R, hd, kn, kb, kc, kr⟩ := h
  refine ⟨F, ρ, μ, _, R.rel, hd, fun v F' μ' H' dv e o w q => ?_⟩
  exact ⟨F', ρ, μ', dv, _, R.step e o, w, q, fun ρ1 σ1 R1 _ _ q1 => kn F' ρ1 μ' σ1 H' e.mono R1 q1⟩
@[simp] def dSet (i : Nat) (d : TED) : TSD := fun D ρ μ => d ρ μ fun x μ1 => D.nx (ρ.set i (some (.val x))) μ1
/-- x = a new list, x's own -/
@[simp] def dSetF (i : Nat) (d : TFD) : TSD := fun D ρ μ => d ρ μ fun xs μ1 => D.nx (ρ.set i (some (.own xs))) μ1
/-- x op= e -/
@[simp] def dAug (i : Nat) (r : RD2) (d : TED) : TSD := fun D ρ μ => ∃ x, ρ[i]? = some (some (.val x)) ∧ d ρ μ fun y μ1 => r x y μ1 fun z μ2 => D.nx (ρ.set i (some (.val z))) μ2
@[simp] def dApp (i : Nat) (d : TED) : TSD := fun E ρ μ => ∃ xs, ρ[i]? = some (some (.own xs)) ∧ d ρ μ fun y μ1 => xs.length < SZ ∧ E.nx (ρ.set i (some (.own (xs ++ [y])))) μ1
theorem ds_app {i : Nat} {x : Str} {p apos cpos : Pos} (h : ∀ t, PA X [e] t → PS X (.Expr (.Call (.Attribute (.Name x p) "append" apos) [e] [] cpos) pos) (tDrop (tBM X.K "list" rAppend (tVar i) t)))
    (he : DE X e d) (hs : starEach [e] X.env = (false, eval e X.env) :: starEach [] X.env := by rfl) : DSt X B (.Expr (.Call (.Attribute (.Name x p) "append" apos) [e] [] cpos) pos) (dApp i d) := (h _ (pa_cons he pa_nil hs)).weaken fun D σ H h => by
  obtain ⟨F, ρ, μ, Dd, R, ⟨xs, hx, hd⟩, kn, kb, kc, kr⟩ := h
  obtain ⟨q, vs, hs, hf, hm, hh, hds, hb⟩ := R.ownAt hx
  refine ⟨.ref q, hs, .inl ⟨rfl, _, .inl (.inl hh)⟩, F, ρ, μ, _, R.rel, hd, fun v F' μ' H' dv e o w hq => ?_⟩
  obtain ⟨h1, h2, h3⟩ := e.keep q _ hh hm
  refine ⟨q, vs, v, rfl, rfl, h1, by rw [hds.length, sizeLine_eq]; exact hq.1, ?_⟩
  exact kn F' _ μ' σ _ e.mono ((R.step e o).writeOwn hx hs (h2.trans hf) h3 h1 hb ((hds.mono e.mono).append (.one w))) hq.2
/-- x.extend(e) -/
@[simp] def dExt (i : Nat) (d : TED) : TSD := fun E ρ μ => ∃ xs, ρ[i]? = some (some (.own xs)) ∧ d ρ μ fun y μ1 => ∃ ys, y = .lst ys ∧ xs.length + ys.length ≤ SZ ∧ E.nx (ρ.set i (some (.own (xs ++ ys)))) μ1
/-- what a loop walks: the items, and what must stay true of what may change -/
abbrev TSrc := DEnv → Sto → (List D → (Sto → Prop) → Sto → Prop) → Prop
abbrev still : Sto → Prop := fun _ => True
/-- the iterator J yields the items -/
def ItD (K : PySem.W.Frag) (mg : Str → Option Value) (F : Hp) (J : It) (items : List D) (inv : Sto → Prop) : Prop :=
  ∀ (F1 : Hp) (μ1 : Sto) (H1 : Hp), (∀ a o, F a = some o → F1 a = some o) → Ok K mg F1 μ1 H1 → inv μ1 → ∀ i : Nat,
    (i < items.length → J.go i H1 ∧ ∀ x H2, J.yld i H1 x H2 → ∃ F2 d, Ext F1 μ1 H1 F2 μ1 H2 ∧ Ok K mg F2 μ1 H2 ∧ items[i]? = some d ∧ Dt K mg F2 x d) ∧
    (i = items.length → J.stop i H1)
def liftI (K : PySem.W.Frag) (mg : Str → Option Value) (d : TSrc) : TI := fun σ H R => ∃ F ρ μ Qd, Rel K mg F ρ μ σ H ∧ d ρ μ Qd ∧ ∀ J F' μ' H' items inv, Ext F μ H F' μ' H' → Ok K mg F' μ' H' → ItD K mg F' J items inv → Qd items inv μ' → R J H'
abbrev DI (X : Cx) (tg e : Expr) (d : TSrc) : Prop := PI X tg e (liftI X.K X.mg d)
theorem _root_.L2.PI.weaken {X : Cx} {tg e : Expr} {t t' : TI} (h : PI X tg e t) (w : ∀ σ H Q, t' σ H Q → t σ H Q) : PI X tg e t' := ⟨fun pins s σ H Q I q => h.run pins s σ H Q I (w σ H Q q)⟩
@[simp] def forD (g : TGD) (body : TSD) (E : DEnds) (inv : Sto → Prop) : List D → DEnv → Sto → Prop
  | [], ρ, μ => inv μ ∧ E.nx ρ μ
  | x :: xs, ρ, μ => inv μ ∧ g x ρ fun ρ1 => body { E with nx := forD g body E inv xs, ct := forD g body E inv xs, bk := E.nx } ρ1 μ
@[simp] def dFor (src : TSrc) (g : TGD) (body : TSD) : TSD := fun E ρ μ => src ρ μ fun items inv μ1 => forD g body E inv items ρ μ1
theorem ds_for {tg iter : Expr} {body : List Stmt} {src : TSrc} {ns : List Nat} {g : TGD} {tb : TSD} (hp : PassesOwn (model X.prog X.w) X.A X.env X.xe) (hc : X.calm = true) (hi : DI X tg iter src) (hg : DG X B tg ns g) (hb : DSs X B body tb)
    (hs : ∀ x, foldedSetIterable iter X.env x = pure x := by intro _; rfl) : DSt X B (.For tg iter body [] pos) (dFor src g tb) := (ps_for hp hc hi hg hb hs).weaken fun D σ H h => by
  obtain ⟨F, ρ, μ, Dd, R, hd, kn, kb, kc, kr⟩ := h
  refine ⟨F, ρ, μ, _, R.rel, hd, fun J F0 μ0 H0 items inv e0 o0 it q0 => ?_⟩
  refine ⟨fun i m σ1 H1 => ∃ F1 ρ1 μ1, m = items.length - i ∧ i ≤ items.length ∧ (∀ a o, F0 a = some o → F1 a = some o) ∧ RelB X.K X.mg B F1 ρ1 μ1 σ1 H1 ∧ forD g tb Dd inv (items.drop i) ρ1 μ1,
    ⟨items.length, F0, ρ, μ0, by simp, Nat.zero_le _, fun _ _ z => z, R.step e0 o0, by simpa using q0⟩, ?_⟩
  rintro i m σ1 H1 ⟨F1, ρ1, μ1, rfl, hi, hF, R1, q1⟩
  have hinv : inv μ1 := by
    cases hz : items.drop i with
    | nil => rw [hz] at q1; exact q1.1
    | cons x xs => rw [hz] at q1; exact q1.1
  obtain ⟨hgo, hstop⟩ := it F1 μ1 H1 hF R1.rel.ok hinv i
  by_cases hlt : i < items.length
  · obtain ⟨g1, g2⟩ := hgo hlt
    refine .inr ⟨g1, fun σ' H' => ∃ F' ρ' μ', (∀ a o, F0 a = some o → F' a = some o) ∧ RelB X.K X.mg B F' ρ' μ' σ' H' ∧ forD g tb Dd inv (items.drop (i + 1)) ρ' μ', fun σ' H' ⟨F', ρ', μ', a1, a2, a3⟩ => ⟨items.length - (i + 1), by omega, F', ρ', μ', rfl, hlt, a1, a2, a3⟩, fun x H2 hy => ?_⟩
    obtain ⟨F2, d, e2, o2, hx, wx⟩ := g2 x H2 hy
    have hdrop : items.drop i = d :: items.drop (i + 1) := by
      have hd := List.drop_eq_getElem_cons hlt
      rw [List.getElem?_eq_getElem hlt] at hx
      cases hx
      exact hd
    rw [hdrop] at q1
    refine ⟨F2, ρ1, μ1, d, _, R1.step e2 o2, wx, q1.2, fun ρ3 σ3 R3 _ _ q3 => ?_⟩
    have hF2 : FLe F0 F2 := fun a o z => e2.mono a o (hF a o z)
    have hF2' : FLe F F2 := fun a o z => hF2 a o (e0.mono a o z)
    exact ⟨F2, ρ3, μ1, _, R3, q3, fun F4 ρ4 μ4 σ4 H4 h4 R4 q4 => ⟨F4, ρ4, μ4, hF2.trans h4, R4, q4⟩, fun F4 ρ4 μ4 σ4 H4 h4 R4 q4 => kn F4 ρ4 μ4 σ4 H4 (hF2'.trans h4) R4 q4, fun F4 ρ4 μ4 σ4 H4 h4 R4 q4 => ⟨F4, ρ4, μ4, hF2.trans h4, R4, q4⟩, kr⟩
  · have : i = items.length := by omega
    subst this
    refine .inl ⟨hstop rfl, ?_⟩
    rw [List.drop_length] at q1
    exact kn F1 ρ1 μ1 σ1 H1 (fun a o z => hF a o (e0.mono a o z)) R1 q1.2
end
end DL

namespace DL
open PySem PySem.Spec PyProof.Rows L2
section
variable {K : PySem.W.Frag} {mg : Str → Option Value} {F : Hp}
theorem itd_list {a : Addr} {vs : List V} {ds : List D} (h : F a = some (.lst vs)) (r : Dts K mg F vs ds) : ItD K mg F (Itl K a) ds still := by
  intro F1 μ1 H1 hF o1 _ i
  have ha : SqL K H1 a vs := .inl (.inl (o1.sub _ _ (hF _ _ h)))
  refine ⟨fun hi => ⟨⟨vs, vs[i]'(by rw [r.length]; exact hi), ha, List.getElem?_eq_getElem _⟩, fun x H2 hy => ?_⟩, fun e => ⟨vs, ha, by rw [r.length, e]; exact Nat.le_refl _⟩⟩
  obtain ⟨rfl, hx⟩ := hy
  obtain ⟨d, hd, w⟩ := r.getV (hx vs ha)
  exact ⟨F1, d, .refl, o1, hd, w.mono hF⟩
/-- a list that changes, as long as it does not -/
theorem itd_ref (a : Addr) (ds : List D) : ItD K mg F (Itl K a) ds (fun μ => μ a = some (.lst ds)) := by
  intro F1 μ1 H1 hF o1 hi i
  obtain ⟨vs, h, r⟩ := o1.sto _ _ hi
  have ha : SqL K H1 a vs := .inl (.inl h)
  refine ⟨fun hi => ⟨⟨vs, vs[i]'(by rw [r.length]; exact hi), ha, List.getElem?_eq_getElem _⟩, fun x H2 hy => ?_⟩, fun e => ⟨vs, ha, by rw [r.length, e]; exact Nat.le_refl _⟩⟩
  obtain ⟨rfl, hx⟩ := hy
  obtain ⟨d, hd, w⟩ := r.getV (hx vs ha)
  exact ⟨F1, d, .refl, o1, hd, w⟩
theorem itd_scr {a : Addr} {ns : List Int} (h : SqL K F a (ns.map V.int)) : ItD K mg F (Itl K a) (ns.map D.int) still := by
  intro F1 μ1 H1 hF o1 _ i
  have ha : SqL K H1 a (ns.map V.int) := SqL.mono' (fun b u z => o1.sub _ _ (hF _ _ z)) h
  refine ⟨fun hi => ⟨⟨_, (ns.map V.int)[i]'(by simpa using hi), ha, List.getElem?_eq_getElem _⟩, fun x H2 hy => ?_⟩, fun e => ⟨_, ha, by simp [e]⟩⟩
  obtain ⟨rfl, hx⟩ := hy
  obtain ⟨d, hd, w⟩ := (Dts.ofInts (K := K) (mg := mg) (F := F1) ns).getV (hx _ ha)
  exact ⟨F1, d, .refl, o1, hd, w⟩
theorem itd_tup {a : Addr} {vs : List V} {ds : List D} (h : SqT K F a vs) (r : Dts K mg F vs ds) : ItD K mg F (Itt K a) ds still := by
  intro F1 μ1 H1 hF o1 _ i
  have ha : SqT K H1 a vs := SqT.mono' (fun b u z => o1.sub _ _ (hF _ _ z)) h
  refine ⟨fun hi => ⟨⟨vs, vs[i]'(by rw [r.length]; exact hi), ha, List.getElem?_eq_getElem _⟩, fun x H2 hy => ?_⟩, fun e => ⟨vs, ha, by rw [r.length, e]; exact Nat.le_refl _⟩⟩
  obtain ⟨rfl, hx⟩ := hy
  obtain ⟨d, hd, w⟩ := r.getV (hx vs ha)
  exact ⟨F1, d, .refl, o1, hd, w.mono hF⟩
def rngD (lo : Int) (n : Nat) : List D := (List.range n).map fun i => .int (lo + (i : Nat))
theorem itd_rng (lo : Int) (n : Nat) : ItD K mg F (Itr lo n) (rngD lo n) still := by
  intro F1 μ1 H1 hF o1 _ i
  unfold rngD
  refine ⟨fun hi => ⟨by show i < n; simpa using hi, fun x H2 hy => ?_⟩, fun e => by
    have e' : i = n := by simpa using e
    exact Nat.le_of_eq e'.symm⟩
  obtain ⟨rfl, rfl⟩ := hy
  have hi' : i < n := by simpa using hi
  refine ⟨F1, .int (lo + i), .refl, o1, ?_, .int _⟩
  rw [List.getElem?_map, List.getElem?_range hi']
  rfl
def strD (s : List Nat) : List D := s.map fun c => .str [c]
theorem itd_str (s : List Nat) : ItD K mg F (Its (S s)) (strD s) still := by
  intro F1 μ1 H1 hF o1 _ i
  have hs : (S s).cps.size = s.length := S_len s
  unfold strD
  refine ⟨fun hi => ⟨?_, fun x H2 hy => ?_⟩, fun e => ?_⟩
  · show i < (S s).cps.size
    rw [hs]; simpa using hi
  · obtain ⟨rfl, c, hc, rfl⟩ := hy
    refine ⟨F1, .str [c], .refl, o1, ?_, .str [c]⟩
    have hc' : s[i]? = some c := by simpa using hc
    rw [List.getElem?_map, hc']
    rfl
  · show (S s).cps.size ≤ i
    rw [hs]; simp at e; omega
end
section
variable {X : Cx} {tg : Expr} {e : Expr} {es : List Expr} {d : TED} {t : TAD} {p pos : Pos}
/-- the items of a list, a tuple, a text, the script -/
@[simp] def dEach (d : TED) : TSrc := fun ρ μ Q => d ρ μ fun x μ1 => match x with
  | .lst xs => Q xs still μ1
  | .tup xs => Q xs still μ1
  | .str s => Q (strD s) still μ1
  | .scr ns => Q (ns.map D.int) still μ1
  | .ref a => ∃ xs, μ1 a = some (.lst xs) ∧ Q xs (fun μ => μ a = some (.lst xs)) μ1
  | _ => False
def iAny (K : PySem.W.Frag) (te : TE) : TI := fun σ H R => te σ H fun x H1 => (∃ a, x = .ref a ∧ (∃ xs, SqL K H1 a xs) ∧ R (Itl K a) H1) ∨ (∃ a, x = .ref a ∧ (∃ xs, SqT K H1 a xs) ∧ R (Itt K a) H1) ∨ (∃ z, x = .str z ∧ R (Its z) H1)
theorem pi_any {l : Expr} {tl : TE} (hl : PE X l tl) : PI X tg l (iAny X.K tl) := by
  refine ⟨fun pins s σ H R I h => ?_⟩
  refine thn (hl.run pins s σ H _ I h) fun v s1 ⟨x, H1, I1, r1, q1⟩ => ?_
  rcases q1 with ⟨a, rfl, ⟨xs, hq⟩, q⟩ | ⟨a, rfl, ⟨xs, hq⟩, q⟩ | ⟨z, rfl, q⟩
  · cases r1
    obtain ⟨its, _, pl, _⟩ := I1.list hq
    exact wpAny_pyIter_list pl.isList (pi_one (tk := s1.toks) I1 _ (turn_list a _) ⟨_, Heap.get?_push_size _ rfl, rfl, rfl⟩ q)
  · cases r1
    obtain ⟨its, _, tp, _⟩ := I1.tuple hq
    exact wpAny_pyIter_tuple tp (pi_one (tk := s1.toks) I1 _ (turn_tuple a _) ⟨_, Heap.get?_push_size _ rfl, rfl, rfl⟩ q)
  · obtain ⟨t, rfl⟩ := r1
    cases ha : z.cps.all (· < 128)
    · exact wpAny_pyIter_wide ha (pi_one (tk := s1.toks) I1 _ (turn_str _ z t "str_iterator" (.inr rfl)) ⟨_, Heap.get?_push_size _ rfl, rfl, rfl⟩ q)
    · exact wpAny_pyIter_ascii ha (pi_one (tk := s1.toks) I1 _ (turn_str _ z t "str_ascii_iterator" (.inl rfl)) ⟨_, Heap.get?_push_size _ rfl, rfl, rfl⟩ q)
theorem di_each (h : DE X e d) : DI X tg e (dEach d) := (pi_any h).weaken fun σ H R q => by
  obtain ⟨F, ρ, μ, Qd, Rl, hd, k⟩ := q
  refine ⟨F, ρ, μ, _, Rl, hd, fun v F' μ' H' dv e o w q => ?_⟩
  cases dv <;> first | exact q.elim | skip
  · cases w
    exact .inr (.inr ⟨_, rfl, k _ F' μ' H' _ _ e o (itd_str _) q⟩)
  · cases w with
    | tup h r => exact .inr (.inl ⟨_, rfl, ⟨_, SqT.sub o h.sq⟩, k _ F' μ' H' _ _ e o (itd_tup h.sq r) q⟩)
  · cases w with
    | lst h r => exact .inl ⟨_, rfl, ⟨_, .inl (.inl (o.sub _ _ h))⟩, k _ F' μ' H' _ _ e o (itd_list h r) q⟩
  · cases w with
    | scr h => exact .inl ⟨_, rfl, ⟨_, SqL.mono' o.sub h⟩, k _ F' μ' H' _ _ e o (itd_scr h) q⟩
  · cases w
    obtain ⟨xs, hx, q⟩ := q
    obtain ⟨vs, ha, r⟩ := o.sto _ _ hx
    exact .inl ⟨_, rfl, ⟨_, .inl (.inl ha)⟩, k _ F' μ' H' _ _ e o (itd_ref _ _) q⟩
def rngOk (i : Int) : Prop := -4611686018427387904 ≤ i ∧ i < 4611686018427387904
@[simp] def dRng1 (t : TAD) : TSrc := fun ρ μ Q => t ρ μ fun xs μ1 => match xs with
  | [.int j] => rngOk j ∧ Q (rngD 0 j.toNat) still μ1
  | _ => False
@[simp] def dRng2 (t : TAD) : TSrc := fun ρ μ Q => t ρ μ fun xs μ1 => match xs with
  | [.int i, .int j] => rngOk i ∧ rngOk j ∧ Q (rngD i (j - i).toNat) still μ1
  | _ => False
theorem di_rng1 (hg : Gl X "range") (hm : X.mg "range" = none) (h : DA X [e] t) (hs : starEach [e] X.env = [(false, eval e X.env)] := by rfl) : DI X tg (.Call (.Name "range" p) [e] [] pos) (dRng1 t) := (pi_range1 hg hm h hs).weaken fun σ H R q => by
  obtain ⟨F, ρ, μ, Qd, Rl, hd, k⟩ := q
  refine ⟨F, ρ, μ, _, Rl, hd, fun vs F' μ' H' ds e o w q => ?_⟩
  split at q
  · cases w with
    | cons h r =>
      cases r
      cases h
      exact ⟨_, rfl, q.1.1, q.1.2, k _ F' μ' H' _ _ e o (itd_rng _ _) q.2⟩
  · exact q.elim
theorem di_rng2 {e2 : Expr} (hg : Gl X "range") (hm : X.mg "range" = none) (h : DA X [e, e2] t) (hs : starEach [e, e2] X.env = [(false, eval e X.env), (false, eval e2 X.env)] := by rfl) (hs2 : starEach [e2] X.env = [(false, eval e2 X.env)] := by rfl) :
    DI X tg (.Call (.Name "range" p) [e, e2] [] pos) (dRng2 t) := (pi_range2 hg hm h hs hs2).weaken fun σ H R q => by
  obtain ⟨F, ρ, μ, Qd, Rl, hd, k⟩ := q
  refine ⟨F, ρ, μ, _, Rl, hd, fun vs F' μ' H' ds e o w q => ?_⟩
  split at q
  · cases w with
    | cons h r =>
      cases r with
      | cons h' r =>
        cases r
        cases h
        cases h'
        exact ⟨_, _, rfl, ⟨q.1.1, q.1.2, q.2.1.1, q.2.1.2⟩, k _ F' μ' H' _ _ e o (itd_rng _ _) q.2.2⟩
  · exact q.elim
def enumD (k : Nat) : List D → List D
  | [] => []
  | x :: xs => .pr (.int k) x :: enumD (k + 1) xs
theorem enumD_get (xs : List D) : ∀ (k i : Nat), (enumD k xs)[i]? = xs[i]?.map fun x => .pr (.int ((k + i : Nat) : Int)) x := by
  induction xs with
  | nil => intro k i; simp [enumD]
  | cons x xs ih =>
    intro k i
    cases i with
    | zero => simp [enumD]
    | succ i =>
      rw [enumD, List.getElem?_cons_succ, ih, List.getElem?_cons_succ, show k + 1 + i = k + (i + 1) by omega]
theorem enumD_len (xs : List D) : ∀ k, (enumD k xs).length = xs.length := by
  induction xs with
  | nil => intro k; rfl
  | cons x xs ih => intro k; rw [enumD, List.length_cons, ih, List.length_cons]
/-- enumerate of a list -/
@[simp] def dEnum (t : TAD) : TSrc := fun ρ μ Q => t ρ μ fun xs μ1 => match xs with
  | [.lst ds] => Q (enumD 0 ds) still μ1
  | [.ref a] => ∃ ds, μ1 a = some (.lst ds) ∧ Q (enumD 0 ds) (fun μ => μ a = some (.lst ds)) μ1
  | _ => False
theorem itd_enum {K : PySem.W.Frag} {mg : Str → Option Value} {F : Hp} {a : Addr} {vs : List V} {ds : List D} (h : F a = some (.lst vs)) (r : Dts K mg F vs ds) : ItD K mg F (Ite K a) (enumD 0 ds) still := by
  intro F1 μ1 H1 hF o1 _ i
  have ha : SqL K H1 a vs := .inl (.inl (o1.sub _ _ (hF _ _ h)))
  rw [enumD_len]
  refine ⟨fun hi => ⟨⟨vs, vs[i]'(by rw [r.length]; exact hi), ha, List.getElem?_eq_getElem _⟩, fun x H2 hy => ?_⟩, fun e => ⟨vs, ha, by rw [r.length, e]; exact Nat.le_refl _⟩⟩
  obtain ⟨T, y, rfl, hT, rfl, hx⟩ := hy
  obtain ⟨d, hd, w⟩ := r.getV (hx vs ha)
  obtain ⟨g1, g2, g3⟩ := newPr o1 (v := .int (i : Nat)) (d := .int (i : Nat)) (.int _) (w.mono hF) hT
  refine ⟨_, _, g1, g2, ?_, g3⟩
  rw [enumD_get, hd]
  simp
theorem itd_enumR {K : PySem.W.Frag} {mg : Str → Option Value} {F : Hp} (a : Addr) (ds : List D) : ItD K mg F (Ite K a) (enumD 0 ds) (fun μ => μ a = some (.lst ds)) := by
  intro F1 μ1 H1 hF o1 hi i
  obtain ⟨vs, h, r⟩ := o1.sto _ _ hi
  have ha : SqL K H1 a vs := .inl (.inl h)
  rw [enumD_len]
  refine ⟨fun hi => ⟨⟨vs, vs[i]'(by rw [r.length]; exact hi), ha, List.getElem?_eq_getElem _⟩, fun x H2 hy => ?_⟩, fun e => ⟨vs, ha, by rw [r.length, e]; exact Nat.le_refl _⟩⟩
  obtain ⟨T, y, rfl, hT, rfl, hx⟩ := hy
  obtain ⟨d, hd, w⟩ := r.getV (hx vs ha)
  obtain ⟨g1, g2, g3⟩ := newPr o1 (v := .int (i : Nat)) (d := .int (i : Nat)) (.int _) w hT
  refine ⟨_, _, g1, g2, ?_, g3⟩
  rw [enumD_get, hd]
  simp
theorem di_enum {elts : List Expr} {kk : Nat} {tpos : Pos} (hg : Gl X "enumerate") (hm : X.mg "enumerate" = none) (h : DA X [e] t) (hs : starEach [e] X.env = [(false, eval e X.env)] := by rfl) : DI X (.Tuple elts kk tpos) (.Call (.Name "enumerate" p) [e] [] pos) (dEnum t) := (pi_enum hg hm h hs).weaken fun σ H R q => by
  obtain ⟨F, ρ, μ, Qd, Rl, hd, k⟩ := q
  refine ⟨F, ρ, μ, _, Rl, hd, fun vs F' μ' H' ds e o w q => ?_⟩
  split at q
  · cases w with
    | cons h r =>
      cases r
      cases h with
      | lst h r => exact ⟨_, _, rfl, .inl (.inl (o.sub _ _ h)), k _ F' μ' H' _ _ e o (itd_enum h r) q⟩
  · cases w with
    | cons h r =>
      cases r
      cases h
      obtain ⟨ds, hx, q⟩ := q
      obtain ⟨vs, ha, r⟩ := o.sto _ _ hx
      exact ⟨_, _, rfl, .inl (.inl ha), k _ F' μ' H' _ _ e o (itd_enumR _ _) q⟩
  · exact q.elim

/-- by what holds ahead of each turn, and a number that falls -/
def dWhile (c : TTD) (body : TSD) : TSD := fun E ρ μ => ∃ W : Nat → DEnv → Sto → Prop, (∃ m, W m ρ μ) ∧ ∀ m ρ μ, W m ρ μ →
  c ρ μ fun b μ1 => if b = true then ∃ N : DEnv → Sto → Prop, (∀ ρ' μ', N ρ' μ' → ∃ m', m' < m ∧ W m' ρ' μ') ∧ body { E with nx := N, ct := N, bk := E.nx } ρ μ1 else E.nx ρ μ1
theorem ds_while {B : Bs} {c : Expr} {body : List Stmt} {tc : TTD} {tb : TSD} (hp : PassesOwn (model X.prog X.w) X.A X.env X.xe) (hc : DT X c tc) (hb : DSs X B body tb) : DSt X B (.While c body [] pos) (dWhile tc tb) := (ps_while hp hc hb).weaken fun D σ H h => by
  obtain ⟨F, ρ, μ, Dd, R, ⟨W, ⟨m0, w0⟩, turn⟩, kn, kb, kc, kr⟩ := h
  refine ⟨fun m σ1 H1 => ∃ F1 ρ1 μ1, FLe F F1 ∧ RelB X.K X.mg B F1 ρ1 μ1 σ1 H1 ∧ W m ρ1 μ1, ⟨m0, F, ρ, μ, .rfl', R, w0⟩, ?_⟩
  rintro m σ1 H1 ⟨F1, ρ1, μ1, hF, R1, q1⟩
  refine ⟨F1, ρ1, μ1, _, R1.rel, turn m ρ1 μ1 q1, fun b F2 μ2 H2 e2 o2 q2 => ?_⟩
  cases b with
  | true =>
    obtain ⟨N, hN, q2⟩ := q2
    have hF2 : FLe F F2 := hF.trans e2.mono
    refine ⟨fun σ' H' => ∃ F' ρ' μ', FLe F F' ∧ RelB X.K X.mg B F' ρ' μ' σ' H' ∧ N ρ' μ', fun σ' H' ⟨F', ρ', μ', a1, a2, a3⟩ => ?_, ?_⟩
    · obtain ⟨m', hm, w'⟩ := hN ρ' μ' a3
      exact ⟨m', hm, F', ρ', μ', a1, a2, w'⟩
    · exact ⟨F2, ρ1, μ2, _, R1.step e2 o2, q2, fun F4 ρ4 μ4 σ4 H4 h4 R4 q4 => ⟨F4, ρ4, μ4, hF2.trans h4, R4, q4⟩, fun F4 ρ4 μ4 σ4 H4 h4 R4 q4 => kn F4 ρ4 μ4 σ4 H4 (hF2.trans h4) R4 q4, fun F4 ρ4 μ4 σ4 H4 h4 R4 q4 => ⟨F4, ρ4, μ4, hF2.trans h4, R4, q4⟩, kr⟩
  | false => exact kn F2 ρ1 μ2 σ1 H2 (hF.trans e2.mono) (R1.step e2 o2) q2

@[simp] def wipeD (ρ : DEnv) : List Nat → DEnv
  | [] => ρ
  | v :: vs => (wipeD ρ vs).set v none
theorem wipeD_length (ρ : DEnv) : ∀ vs, (wipeD ρ vs).length = ρ.length
  | [] => rfl
  | v :: vs => by unfold wipeD; rw [List.length_set, wipeD_length ρ vs]
theorem set_none_some {α : Type} {l : List (Option α)} {v i : Nat} {x : α} (h : (l.set v none)[i]? = some (some x)) : v ≠ i ∧ l[i]? = some (some x) := by
  by_cases hv : v = i
  · subst hv
    have hl : v < l.length := by
      have := (List.getElem?_eq_some_iff.mp h).1
      rwa [List.length_set] at this
    rw [List.getElem?_set_self hl] at h
    cases h
  · rw [List.getElem?_set_ne hv] at h
    exact ⟨hv, h⟩
theorem wipeD_some {ρ : DEnv} {i : Nat} {x : DS} : ∀ {vs : List Nat}, (wipeD ρ vs)[i]? = some (some x) → ρ[i]? = some (some x) ∧ i ∉ vs
  | [], h => ⟨h, by simp⟩
  | v :: vs, h => by
    obtain ⟨h1, h2⟩ := set_none_some h
    obtain ⟨h3, h4⟩ := wipeD_some (vs := vs) h2
    refine ⟨h3, ?_⟩
    rw [List.mem_cons, not_or]
    exact ⟨fun q => h1 q.symm, h4⟩
theorem wipe_get {σ : L2.St} {i : Nat} : ∀ {vs : List Nat}, i ∉ vs → (wipe σ vs)[i]? = σ[i]?
  | [], _ => rfl
  | v :: vs, h => by
    rw [List.mem_cons, not_or] at h
    show ((wipe σ vs).set v none)[i]? = _
    rw [List.getElem?_set_ne (fun q => h.1 q.symm), wipe_get h.2]
theorem RelB.wipe {K : PySem.W.Frag} {mg : Str → Option Value} {B : Bs} {F H : Hp} {ρ : DEnv} {μ : Sto} {σ : L2.St} (r : RelB K mg B F ρ μ σ H) (vs : List Nat) : RelB K mg B F (wipeD ρ vs) μ (L2.wipe σ vs) H := by
  refine ⟨⟨r.rel.ok, by rw [wipeD_length, wipe_length]; exact r.rel.len, fun i s e => ?_, fun i j xs ys e1 e2 e3 => ?_⟩, r.ext, fun i xs a e1 e2 => ?_⟩
  · obtain ⟨e, n⟩ := wipeD_some e
    obtain ⟨v, h1, h2⟩ := r.rel.slot i s e
    exact ⟨v, by rw [wipe_get n]; exact h1, h2⟩
  · obtain ⟨e1, n1⟩ := wipeD_some e1
    obtain ⟨e2, n2⟩ := wipeD_some e2
    rw [wipe_get n1, wipe_get n2] at e3
    exact r.rel.apart i j xs ys e1 e2 e3
  · obtain ⟨e1, n1⟩ := wipeD_some e1
    rw [wipe_get n1] at e2
    exact r.new i xs a e1 e2
theorem wipe_eq {σ σ' : L2.St} {vs : List Nat} (hl : σ'.length = σ.length) (h : ∀ j, j ∉ vs → σ'[j]? = σ[j]?) : wipe σ' vs = wipe σ vs := by
  have inn : ∀ (τ : L2.St) (us : List Nat) (j : Nat), j ∈ us → j < τ.length → (wipe τ us)[j]? = some none := by
    intro τ us
    induction us with
    | nil => intro j h; cases h
    | cons u us ih =>
      intro j hj hl
      show ((wipe τ us).set u none)[j]? = _
      by_cases hu : u = j
      · subst hu
        exact List.getElem?_set_self (by rw [wipe_length]; exact hl)
      · rw [List.getElem?_set_ne hu]
        rcases List.mem_cons.mp hj with z | z
        · exact absurd z.symm hu
        · exact ih j z hl
  apply List.ext_getElem?
  intro j
  by_cases hj : j ∈ vs
  · by_cases hjl : j < σ.length
    · rw [inn σ vs j hj hjl, inn σ' vs j hj (by rw [hl]; exact hjl)]
    · rw [List.getElem?_eq_none (by rw [wipe_length]; omega), List.getElem?_eq_none (by rw [wipe_length]; omega)]
  · rw [wipe_get hj, wipe_get hj, h j hj]
structure DTs (X : Cx) (ifs : List Expr) (d : TTD) : Prop where
  run : PTs X ifs (liftT X.K X.mg d)
@[simp] def dYes : TTD := fun _ μ Q => Q true μ
theorem dts_nil : DTs X [] dYes := ⟨⟨fun pins s σ H Q I h => pts_nil.run pins s σ H Q I (by
  obtain ⟨F, ρ, μ, Qd, R, hd, k⟩ := h
  exact k true F μ H .refl R.ok hd)⟩⟩
theorem dts_one {c : Expr} {tc : TTD} (h : DT X c tc) : DTs X [c] tc := ⟨pts_one h⟩
/-- acc: what is made so far -/
@[simp] def lcD (vs : List Nat) (g : TGD) (c : TTD) (el : TED) (ρ : DEnv) (inv : Sto → Prop) (Q : List D → Sto → Prop) : List D → List D → Sto → Prop
  | [], acc, μ => inv μ ∧ Q acc μ
  | x :: xs, acc, μ => inv μ ∧ g x (wipeD ρ vs) fun ρ1 => c ρ1 μ fun b μ1 => if b = true then el ρ1 μ1 fun y μ2 => acc.length < SZ ∧ lcD vs g c el ρ inv Q xs (acc ++ [y]) μ2 else lcD vs g c el ρ inv Q xs acc μ1
@[simp] def dLc (vs : List Nat) (src : TSrc) (g : TGD) (c : TTD) (el : TED) : TFD := fun ρ μ Q => src ρ μ fun items inv μ1 => lcD vs g c el ρ inv Q items [] μ1
/-- a new list is a value -/
@[simp] def dF (d : TFD) : TED := fun ρ μ Q => d ρ μ fun xs μ1 => Q (.lst xs) μ1
theorem de_F {d : TFD} (h : DF X e d) : DE X e (dF d) := h.weaken fun σ H Q q => by
  obtain ⟨F, ρ, μ, Qd, R, hd, k⟩ := q
  refine ⟨F, ρ, μ, _, R, hd, fun p vs F' μ' H' ds e o hn hf hm hh w q => ?_⟩
  have mono : FLe F' (upd F' p (.lst vs)) := fun a x z => by rw [upd_ne (ne_of_none z hf)]; exact z
  refine k _ (upd F' p (.lst vs)) μ' H' _ ⟨fun a x z => mono a x (e.mono a x z), fun a x z n => ?_, e.live⟩ (o.freeze hf hm hh) (.lst upd_same (w.mono mono)) q
  obtain ⟨g1, g2, g3⟩ := e.keep a x z n
  have ha : a ≠ p := fun q => by subst q; rw [hn] at z; cases z
  exact ⟨g1, by rw [upd_ne ha]; exact g2, g3⟩
/-- the comprehension's reading over data gives the hand layer's -/
theorem lc_weak {K : PySem.W.Frag} {mg : Str → Option Value} {vs0 ns : List Nat} {src : TSrc} {g : TGD} {c : TTD} {el : TED} (hns : ∀ j ∈ ns, j ∈ vs0) {σ : L2.St} {H : Hp} {Q : VK} (q : liftF K mg (dLc vs0 src g c el) σ H Q) :
    tLc (liftI K mg src) (fun v σ H Q => ∃ B, liftG K mg B ns g v σ H Q) (liftT K mg c) (liftE K mg el) vs0 σ H Q := by
  obtain ⟨F, ρ, μ, Qd, R, hd, k⟩ := q
  refine ⟨F, ρ, μ, _, R, hd, fun J F0 μ0 H0 items inv e0 o0 it q0 L hL => ?_⟩
  obtain ⟨o1, e1⟩ := o0.layN hL (.lst [])
  obtain ⟨fL, mL⟩ := o0.fresh hL
  have B0 : ∀ {F' : Hp} {μ' : Sto} {H' : Hp}, Ext (fun _ => none) (fun _ => none) (fun _ => none) F' μ' H' := fun {F' μ' H'} => ⟨(fun a o z => nomatch z), (fun a o z => nomatch z), fun _ _ => rfl⟩
  have R0 : RelB K mg ⟨fun _ => none, fun _ => none, fun _ => none⟩ F0 ρ μ0 σ H0 := ⟨R.ext e0 o0, B0, fun _ _ _ _ _ => rfl⟩
  · refine ⟨fun i m H1 => ∃ F1 μ1 acc vs, m = items.length - i ∧ i ≤ items.length ∧ FLe F0 F1 ∧ Ext F0 μ0 H0 F1 μ1 H1 ∧ Ok K mg F1 μ1 H1 ∧ F1 L = none ∧ μ1 L = none ∧ H1 L = some (.lst vs) ∧ Dts K mg F1 vs acc ∧ lcD vs0 g c el ρ inv Qd (items.drop i) acc μ1,
      ⟨items.length, F0, μ0, [], [], by simp, Nat.zero_le _, .rfl', e1, o1, fL, mL, upd_same, .nil, by simpa using q0⟩, ?_⟩
    rintro i m H1 ⟨F1, μ1, acc, vs, rfl, hi', hF, x1, ok1, f1, m1, h1, w1, q1⟩
    have hinv : inv μ1 := by
      cases hz : items.drop i with
      | nil => rw [hz] at q1; exact q1.1
      | cons x xs => rw [hz] at q1; exact q1.1
    obtain ⟨hgo, hstop⟩ := it F1 μ1 H1 hF ok1 hinv i
    by_cases hlt : i < items.length
    · obtain ⟨g1, g2⟩ := hgo hlt
      refine .inr ⟨g1, fun H' => ∃ F' μ' acc vs, FLe F0 F' ∧ Ext F0 μ0 H0 F' μ' H' ∧ Ok K mg F' μ' H' ∧ F' L = none ∧ μ' L = none ∧ H' L = some (.lst vs) ∧ Dts K mg F' vs acc ∧ lcD vs0 g c el ρ inv Qd (items.drop (i + 1)) acc μ',
        fun H' ⟨F', μ', acc, vs, b1, b2, b3, b4, b5, b6, b7, b8⟩ => ⟨items.length - (i + 1), by omega, F', μ', acc, vs, rfl, hlt, b1, b2, b3, b4, b5, b6, b7, b8⟩, fun x H2 hy => ?_⟩
      obtain ⟨F2, d, e2, o2, hx, wx⟩ := g2 x H2 hy
      have hdrop : items.drop i = d :: items.drop (i + 1) := by
        have hd := List.drop_eq_getElem_cons hlt
        rw [List.getElem?_eq_getElem hlt] at hx
        cases hx
        exact hd
      rw [hdrop] at q1
      have e02 := x1.trans e2
      have Rw : RelB K mg ⟨fun _ => none, fun _ => none, fun _ => none⟩ F2 (wipeD ρ vs0) μ1 (wipe σ vs0) H2 := (R0.step e02 o2).wipe _
      refine ⟨⟨fun _ => none, fun _ => none, fun _ => none⟩, F2, _, μ1, d, _, Rw, wx, q1.2, fun ρ3 σ3 R3 l3 f3 q3 => ⟨?_, ?_⟩⟩
      · have z := wipe_eq (σ := wipe σ vs0) (σ' := σ3) (vs := vs0) l3 fun j hj => f3 j fun hn => hj (hns j hn)
        rw [z]
        exact wipe_eq (wipe_length _ _) fun j hj => wipe_get hj
      · obtain ⟨hL2, fL2, mL2⟩ := e2.keep L _ h1 m1
        refine ⟨F2, ρ3, μ1, _, R3.rel, q3, fun b F4 μ4 H4 e4 o4 q4 => ?_⟩
        obtain ⟨hL4, fL4, mL4⟩ := e4.keep L _ hL2 m1
        cases b with
        | false =>
          exact ⟨F4, μ4, acc, vs, (hF.trans e2.mono).trans e4.mono, e02.trans e4, o4, fL4.trans (fL2.trans f1), mL4, hL4, w1.mono (FLe.trans e2.mono e4.mono), q4⟩
        | true =>
          refine ⟨F4, ρ3, μ4, _, R3.rel.ext e4 o4, q4, fun y F5 μ5 H5 dy e5 o5 w5 q5 => ?_⟩
          obtain ⟨hL5, fL5, mL5⟩ := e5.keep L _ hL4 mL4
          have fn : F5 L = none := fL5.trans (fL4.trans (fL2.trans f1))
          refine ⟨vs, hL5, by rw [w1.length, sizeLine_eq]; exact q5.1, F5, μ5, _, _, ((hF.trans e2.mono).trans e4.mono).trans e5.mono, ?_, o5.writeN fn mL5 _, fn, mL5, upd_same, (w1.mono ((FLe.trans e2.mono e4.mono).trans e5.mono)).append (.one w5), q5.2⟩
          have ee := e02.trans (e4.trans e5)
          refine ⟨ee.mono, fun a o z n => ?_, fun a z => ee.live a (upd_live a z)⟩
          obtain ⟨b1, b2, b3⟩ := ee.keep a o z n
          have ha : a ≠ L := fun q => by subst q; rw [hL] at z; cases z
          exact ⟨by rw [upd_ne ha]; exact b1, b2, b3⟩
    · have : i = items.length := by omega
      subst this
      refine .inl ⟨hstop rfl, ?_⟩
      rw [List.drop_length] at q1
      exact k L vs F1 μ1 H1 acc (e0.trans x1) ok1 (e0.live L hL) f1 m1 h1 w1 q1.2

section
variable {elt iter : Expr} {ifs : List Expr} {scope : Scope} {own : List (Str × Nat)} {ns : List Nat} {src : TSrc} {g : TGD} {c : TTD} {el : TED}
theorem df_lc (hc : X.calm = true) (hN : X.N.Nodup) (hi : DI X tg iter src) (ok : BlkOk X.N X.env.scope scope own)
    (hns : ∀ j ∈ ns, j ∈ own.map (·.2))
    (hg : ∀ (s : Shared) (H : Hp) (C : Addr) (cl : List (Str × Addr)) (fp : List Addr) (B : Bs), DG (X.blk s H scope (compEnvC scope cl C X.env) fp) B tg ns g) (ht : ∀ (s : Shared) (H : Hp) (C : Addr) (cl : List (Str × Addr)) (fp : List Addr), DTs (X.blk s H scope (compEnvC scope cl C X.env) fp) ifs c)
    (he : ∀ (s : Shared) (H : Hp) (C : Addr) (cl : List (Str × Addr)) (fp : List Addr), DE (X.blk s H scope (compEnvC scope cl C X.env) fp) elt el) (hs : ∀ x, foldedSetIterable iter X.env x = pure x := by intro _; rfl) :
    DF X (.ListComp elt [⟨tg, iter, ifs, 0⟩] scope pos) (dLc (own.map (·.2)) src g c el) :=
  (pe_lc (g := fun v σ H Q => ∃ B, liftG X.K X.mg B ns g v σ H Q) (tt := liftT X.K X.mg c) (te := liftE X.K X.mg el) hc hN hi ok (fun s H C cl fp => ⟨fun pins s' σ H' v u Q I r ⟨B, q⟩ => (hg s H C cl fp B).run pins s' σ H' v u Q I r q⟩)
    (fun s H C cl fp => (ht s H C cl fp).run) he hs).weaken fun _ _ _ q => lc_weak hns q
/-- a result: a value, or a new list that nobody knows -/
abbrev TRD := DEnv → Sto → (DS → Sto → Prop) → Prop
@[simp] def dVal (d : TED) : TRD := fun ρ μ Q => d ρ μ fun x μ1 => Q (.val x) μ1
@[simp] def dOwn (d : TFD) : TRD := fun ρ μ Q => d ρ μ fun xs μ1 => Q (.own xs) μ1
/-- .. as it lies in the heap; it is not known ahead -/
def ROk (K : PySem.W.Frag) (mg : Str → Option Value) (H F' : Hp) (μ' : Sto) (H' : Hp) (v : V) : DS → Prop
  | .val d => Dt K mg F' v d
  | .own xs => ∃ p vs, v = .ref p ∧ H p = none ∧ F' p = none ∧ μ' p = none ∧ H' p = some (.lst vs) ∧ Dts K mg F' vs xs
def liftR (K : PySem.W.Frag) (mg : Str → Option Value) (d : TRD) : TE := fun σ H Q => ∃ F ρ μ Qd, Rel K mg F ρ μ σ H ∧ d ρ μ Qd ∧ ∀ v F' μ' H' s, Ext F μ H F' μ' H' → Ok K mg F' μ' H' → ROk K mg H F' μ' H' v s → Qd s μ' → Q v H'
abbrev DR (X : Cx) (e : Expr) (d : TRD) : Prop := PE X e (liftR X.K X.mg d)
theorem dr_E {d : TED} (h : DE X e d) : DR X e (dVal d) := h.weaken fun σ H Q q => by
  obtain ⟨F, ρ, μ, Qd, R, hd, k⟩ := q
  exact ⟨F, ρ, μ, _, R, hd, fun v F' μ' H' dv e o w q => k v F' μ' H' (.val dv) e o w q⟩
theorem dr_F {d : TFD} (h : DF X e d) : DR X e (dOwn d) := h.weaken fun σ H Q q => by
  obtain ⟨F, ρ, μ, Qd, R, hd, k⟩ := q
  exact ⟨F, ρ, μ, _, R, hd, fun p vs F' μ' H' ds e o h1 h2 h3 h4 h5 q => k _ F' μ' H' (.own ds) e o ⟨p, vs, rfl, h1, h2, h3, h4, h5⟩ q⟩
/-- a result is stored -/
theorem RelB.setR {K : PySem.W.Frag} {mg : Str → Option Value} {B : Bs} {F F' H H' : Hp} {μ μ' : Sto} {ρ : DEnv} {σ : L2.St} {i : Nat} {v : V} {s : DS} (R : RelB K mg B F ρ μ σ H) (R' : RelB K mg B F' ρ μ' σ H') (h : ROk K mg H F' μ' H' v s) :
    RelB K mg B F' (ρ.set i (some s)) μ' (σ.set i (some v)) H' := by
  cases s with
  | val d => exact R'.set h
  | own xs =>
    obtain ⟨p, vs, rfl, h1, h2, h3, h4, h5⟩ := h
    refine R'.setOwn h2 h3 h4 h5 (R.ext.live p h1) fun j ys hj e1 e2 => ?_
    obtain ⟨v, g1, a, us, rfl, g2, g3, g4, g5⟩ := R.rel.slot j _ e1
    rw [g1] at e2
    cases e2
    rw [h1] at g4
    cases g4
@[simp] def dSetR (i : Nat) (d : TRD) : TSD := fun E ρ μ => d ρ μ fun s μ1 => E.nx (ρ.set i (some s)) μ1
theorem ds_setR {B : Bs} {i : Nat} {x : Str} {d : TRD} (h : ∀ te, PE X e te → PS X (.Assign [.Name x p] e pos) (tAsg te (gName i))) (he : DR X e d) : DSt X B (.Assign [.Name x p] e pos) (dSetR i d) := (h _ he).weaken fun D σ H h => by
  obtain ⟨F, ρ, μ, Dd, R, hd, kn, kb, kc, kr⟩ := h
  exact ⟨F, ρ, μ, _, R.rel, hd, fun v F' μ' H' s e o w q => kn F' _ μ' _ H' e.mono (R.setR (R.step e o) w) q⟩
/-- x = [..], on one line, x no cell -/
theorem ds_setLc {B : Bs} {i : Nat} {y : Str} {py spos : Pos} (hc : X.calm = true) (hN : X.N.Nodup) (hy : X.N[i]? = some y) (hyl : X.env.scope.names.lookup y = some .local)
    (hsw : swapsWith (.ListComp elt [⟨tg, iter, ifs, 0⟩] scope pos) (some (.Name y py)) spos.line X.env = pure true) (hi : DI X tg iter src) (ok : BlkOk X.N X.env.scope scope own) (hns : ∀ j ∈ ns, j ∈ own.map (·.2))
    (hg : ∀ (s : Shared) (H : Hp) (C : Addr) (cl : List (Str × Addr)) (fp : List Addr) (B : Bs), DG (X.blk s H scope (compEnvC scope cl C X.env) fp) B tg ns g) (ht : ∀ (s : Shared) (H : Hp) (C : Addr) (cl : List (Str × Addr)) (fp : List Addr), DTs (X.blk s H scope (compEnvC scope cl C X.env) fp) ifs c)
    (he : ∀ (s : Shared) (H : Hp) (C : Addr) (cl : List (Str × Addr)) (fp : List Addr), DE (X.blk s H scope (compEnvC scope cl C X.env) fp) elt el) (hs : ∀ x, foldedSetIterable iter X.env x = pure x := by intro _; rfl)
    {rd : TRD} (hr : ∀ K mg σ H Q, liftR K mg rd σ H Q → liftF K mg (dLc (own.map (·.2)) src g c el) σ H Q) :
    DSt X B (.Assign [.Name y py] (.ListComp elt [⟨tg, iter, ifs, 0⟩] scope pos) spos) (dSetR i rd) :=
  (ps_setLc (g := fun v σ H Q => ∃ B, liftG X.K X.mg B ns g v σ H Q) (tt := liftT X.K X.mg c) (te := liftE X.K X.mg el) hc hN hy hyl hsw hi ok (fun s H C cl fp => ⟨fun pins s' σ H' v u Q I r ⟨B, q⟩ => (hg s H C cl fp B).run pins s' σ H' v u Q I r q⟩)
    (fun s H C cl fp => (ht s H C cl fp).run) he hs).weaken fun D σ H h => by
  obtain ⟨F, ρ, μ, Dd, R, hd, kn, kb, kc, kr⟩ := h
  refine lc_weak hns (hr _ _ _ _ _ ⟨F, ρ, μ, _, R.rel, hd, fun v F' μ' H' s e o w q => ?_⟩)
  exact kn F' _ μ' _ H' e.mono (R.setR (R.step e o) w) q
theorem lr_val {K : PySem.W.Frag} {mg : Str → Option Value} {d : TFD} {σ : L2.St} {H : Hp} {Q : VK} (q : liftR K mg (dVal (dF d)) σ H Q) : liftF K mg d σ H Q := by
  obtain ⟨F, ρ, μ, Qd, R, hd, k⟩ := q
  refine ⟨F, ρ, μ, _, R, hd, fun p vs F' μ' H' ds e o hn hf hm hh w q => ?_⟩
  have mono : FLe F' (upd F' p (.lst vs)) := fun a x z => by rw [upd_ne (ne_of_none z hf)]; exact z
  refine k _ (upd F' p (.lst vs)) μ' H' (.val (.lst ds)) ⟨fun a x z => mono a x (e.mono a x z), fun a x z n => ?_, e.live⟩ (o.freeze hf hm hh) (.lst upd_same (w.mono mono)) q
  obtain ⟨g1, g2, g3⟩ := e.keep a x z n
  have ha : a ≠ p := fun q => by subst q; rw [hn] at z; cases z
  exact ⟨g1, by rw [upd_ne ha]; exact g2, g3⟩
/-- x, y = a, b -/
@[simp] def dPar2 (i j : Nat) (a b : TRD) : TSD := fun E ρ μ => a ρ μ fun s μ1 => b ρ μ1 fun t μ2 => E.nx ((ρ.set i (some s)).set j (some t)) μ2
theorem ROk.ext {K : PySem.W.Frag} {mg : Str → Option Value} {H F H1 F2 H2 : Hp} {μ μ2 : Sto} {v : V} {s : DS} (h : ROk K mg H F μ H1 v s) (e : Ext F μ H1 F2 μ2 H2) : ROk K mg H F2 μ2 H2 v s := by
  cases s with
  | val d => exact Dt.mono e.mono h
  | own xs =>
    obtain ⟨p, vs, rfl, h1, h2, h3, h4, h5⟩ := h
    obtain ⟨g1, g2, g3⟩ := e.keep p _ h4 h3
    exact ⟨p, vs, rfl, h1, g2.trans h2, g3, g1, h5.mono e.mono⟩
/-- two results are stored, one behind the other -/
theorem RelB.setR2 {K : PySem.W.Frag} {mg : Str → Option Value} {B : Bs} {F F1 F2 H H1 H2 : Hp} {μ μ1 μ2 : Sto} {ρ ρ' : DEnv} {σ σ' : L2.St} {i : Nat} {v : V} {s : DS} (R : RelB K mg B F ρ μ σ H) (e1 : Ext F μ H F1 μ1 H1) (R' : RelB K mg B F2 ρ' μ2 σ' H2) (h : ROk K mg H1 F2 μ2 H2 v s)
    (old : ∀ (j : Nat) (xs : List D) (p : Addr), ρ'[j]? = some (some (DS.own xs)) → σ'[j]? = some (some (.ref p)) → H1 p ≠ none) :
    RelB K mg B F2 (ρ'.set i (some s)) μ2 (σ'.set i (some v)) H2 := by
  cases s with
  | val d => exact R'.set h
  | own xs =>
    obtain ⟨p, vs, rfl, h1, h2, h3, h4, h5⟩ := h
    exact R'.setOwn h2 h3 h4 h5 (R.ext.live p (e1.live p h1)) fun j ys hj q1 q2 => old j ys p q1 q2 h1
theorem ds_par2 {B : Bs} {i j : Nat} {x y : Str} {a b : Expr} {da db : TRD} {px py pt : Pos} {kt k2 pt2} (hij : i ≠ j)
    (h : ∀ ta, PA X [a, b] ta → PS X (.Assign [.Tuple [.Name x px, .Name y py] kt pt] (.Tuple [a, b] k2 pt2) pos) (tPar i j ta)) (ha : DR X a da) (hb : DR X b db)
    (hs : starEach [a, b] X.env = (false, eval a X.env) :: starEach [b] X.env := by rfl) (hs2 : starEach [b] X.env = (false, eval b X.env) :: starEach [] X.env := by rfl) :
    DSt X B (.Assign [.Tuple [.Name x px, .Name y py] kt pt] (.Tuple [a, b] k2 pt2) pos) (dPar2 i j da db) := (h _ (pa_cons ha (pa_cons hb pa_nil hs2) hs)).weaken fun E σ H h => by
  obtain ⟨F, ρ, μ, Dd, R, hd, kn, kb, kc, kr⟩ := h
  refine ⟨F, ρ, μ, _, R.rel, hd, fun v F1 μ1 H1 s e1 o1 w1 q1 => ?_⟩
  refine ⟨F1, ρ, μ1, _, R.rel.ext e1 o1, q1, fun u F2 μ2 H2 t e2 o2 w2 q2 => ⟨v, u, rfl, ?_⟩⟩
  have e12 := e1.trans e2
  have R2 := R.step e12 o2
  have R3 := R.setR (i := i) R2 (w1.ext e2)
  refine kn F2 _ μ2 _ H2 e12.mono (R.setR2 e1 R3 w2 fun l xs p z1 z2 => ?_) q2
  by_cases hl : i = l
  · subst hl
    have hi : i < ρ.length := by
      have := (List.getElem?_eq_some_iff.mp z1).1
      rwa [List.length_set] at this
    rw [List.getElem?_set_self hi] at z1
    cases z1
    obtain ⟨p', vs, rfl, g1, g2, g3, g4, g5⟩ := w1
    rw [List.getElem?_set_self (by rw [← R.rel.len]; exact hi)] at z2
    cases z2
    rw [g4]
    exact fun z => nomatch z
  · rw [List.getElem?_set_ne hl] at z1 z2
    obtain ⟨p', vs, g1, g2, g3, g4, _⟩ := R.ownAt z1
    rw [g1] at z2
    cases z2
    rw [(e1.keep p _ g4 g3).1]
    exact fun z => nomatch z
end
end
end DL

namespace DL
open PySem PySem.Spec PyProof.Rows L2

/-- no repr of a list, tuple or dict runs around -/
abbrev Quiet (A : Around) : Prop := A.guards = some []
/-- a def's promise, where no repr runs around -/
structure FnG (P : Program) (w : World) (K : PySem.W.Frag) (mg : Str → Option Value) (base : Heap) (CX : CXT) (k : Nat) (f : Addr) (fd : FuncData) (ps : List Str) (sp : Sp) : Prop where
  len : ∀ vs H Q E, sp vs H Q E → vs.length = ps.length
  run : ∀ (A : Around) (outer : List Env) (s : Shared) (H : Hp) (args : Args) (us : List Value) (vs : List V) (Q : VK) (E : XK), Quiet A → Room k A → Env0 P w K mg base A outer s H →
    BindsTo s fd args (ps.zip us) → Vals vs us → sp vs H Q E → codeAny (model P w) A (.call (.ref f) args) (CR CX outer P w H s Q E) s
section
variable {P : Program} {w : World} {K : PySem.W.Frag} {mg : Str → Option Value} {base : Heap} {CX : CXT} {j k : Nat} {f : Addr} {fd : FuncData} {ps : List Str} {sp : Sp}
theorem FnG.mono (F : FnG P w K mg base CX j f fd ps sp) (h : j ≤ k) : FnG P w K mg base CX k f fd ps sp where
  len := F.len
  run := fun A outer s H args us vs Q E g r => F.run A outer s H args us vs Q E g (r.mono h)
theorem FnG.of {name qual : Str} {st : Stmt} {N : List Str} (D : Fun K name qual st f fd) (S : FnScope N ps (defScope st)) (len : ∀ vs H Q E, sp vs H Q E → vs.length = ps.length)
    (body : ∀ (cdv : Value) (A : Around) (outer : List Env) (s : Shared) (H : Hp) (vs : List V) (Q : VK) (E : XK), Quiet (A.deeper (envOfC qual (defScope st) s.heap.objs.size f cdv)) → Room k (A.deeper (envOfC qual (defScope st) s.heap.objs.size f cdv)) →
      sp vs H Q E → ∃ t, PSs (cxOf CX P w K mg base N qual (defScope st) f cdv A outer s H E) (defBody st) t ∧ t { nx := fun _ H' => Q .non H', rt := Q } (L2.start N vs) H) :
    FnG P w K mg base CX (k + 1) f fd ps sp := by
  obtain ⟨oc, od, kV, doc, pm, an, cdv, ct, osl, rfl, hk, hcode⟩ := D.ex
  refine ⟨len, ?_⟩
  intro A outer s H args us vs Q E quiet room env bind rel hsp
  have n := len _ _ _ _ hsp
  have kin : K.In s.heap := env.mod.kin.keeps (fun b o z => (env.bs b o z).1)
  have free : s.heap.NoLimit := env.mod.nolimit.keeps (fun b o z => (env.bs b o z).1)
  refine codeAny_call_function room.depth (kin _ _ hk) rfl S.co S.gen rfl (PySem.W.codeRec_of kin hcode) (bind _ _ _ _ ?_)
  have loc : ∀ y ∈ ps.zip us, (defScope st).names.lookup y.1 = some .local ∨ ((defScope st).names.lookup y.1 = some .cell ∧ ((cellsFrom (s.heap.objs.size + 1) (defScope st).names []).lookup y.1).isSome = true) := by
    intro y hy
    rcases S.par y.1 (List.of_mem_zip hy).1 with q | q
    · exact Or.inl q
    · exact Or.inr ⟨q, PySem.W.cellsFrom_some _ _ _ (Or.inl q)⟩
  refine wpAny_newFunctionEnv_cells S.kind loc ?_
  intro env' he s1 x
  subst he
  refine ⟨free.keeps x.toInCall.keep, codeAny_func ?_⟩
  obtain ⟨t, ht, hq⟩ := body cdv A outer s H vs Q E quiet (room.deeper _) hsp
  have I := inv_start (CX := CX) (E := E) S room.hd env n rel x
  refine wpAny_mono (ht.run [] s1 _ H _ I hq) ?_ (fun _ _ z => z)
  intro fl s' hs
  match fl, hs with
  | .ret u, ⟨v, σ', H', J, rv, q⟩ => exact ⟨v, H', J.os, J.bare, J.base, J.hok, rv, q⟩
  | .next, ⟨σ', H', J, q⟩ => exact ⟨V.non, H', J.os, J.bare, J.base, J.hok, rfl, q⟩
  | .brk, ⟨_, _, _, q⟩ => exact q.elim
  | .cont, ⟨_, _, _, q⟩ => exact q.elim
end

/-- an exception over data: its class, its fields -/
abbrev DXK := Str → List (Str × D) → Sto → Prop
abbrev DSp := List D → Sto → DK → DXK → Prop
/-- an exception of a class of the module, as the hand layer tells it -/
def XD (K : PySem.W.Frag) (mg : Str → Option Value) (H0 : Hp) (F : Hp) (μ : Sto) (H : Hp) (cv : Value) (od : Option Addr) (c : Str) (fs : List (Str × D)) : Prop :=
  ∃ C, cv = .ref C ∧ mg c = some (.ref C) ∧ ((od = none ∧ fs = []) ∨ ∃ d vfs, od = some d ∧ fs ≠ [] ∧ H0 d = none ∧ F d = none ∧ μ d = none ∧ H d = some (.xd vfs) ∧ vfs.map (·.1) = fs.map (·.1) ∧ Dts K mg F (vfs.map (·.2)) (fs.map (·.2)))
def liftP (K : PySem.W.Frag) (mg : Str → Option Value) (S : DSp) : Sp := fun vs H Q E => ∃ F μ ds Qd Ed, Ok K mg F μ H ∧ Dts K mg F vs ds ∧ S ds μ Qd Ed ∧
  (∀ v F' μ' H' dv, Ext F μ H F' μ' H' → Ok K mg F' μ' H' → Dt K mg F' v dv → Qd dv μ' → Q v H') ∧
  (∀ cv od F' μ' H' c fs, Ext F μ H F' μ' H' → Ok K mg F' μ' H' → XD K mg H F' μ' H' cv od c fs → Ed c fs μ' → E cv od H')
abbrev noD : DXK := fun _ _ _ => False
/-- a call by position, where no repr runs around -/
def FR (P : Program) (w : World) (K : PySem.W.Frag) (mg : Str → Option Value) (base : Heap) (CX : CXT) (k : Nat) (f : Addr) (sp : Sp) : Prop :=
  ∀ (A : Around) (outer : List Env) (s : Shared) (H : Hp) (us : List Value) (vs : List V) (Q : VK) (E : XK), Quiet A → Room k A → Env0 P w K mg base A outer s H → Vals vs us → sp vs H Q E → codeAny (model P w) A (.call (.ref f) ⟨us, []⟩) (CR CX outer P w H s Q E) s
theorem FnG.toR {P : Program} {w : World} {K : PySem.W.Frag} {mg : Str → Option Value} {base : Heap} {CX : CXT} {k : Nat} {f : Addr} {fd : FuncData} {ps : List Str} {sp : Sp} (F : FnG P w K mg base CX k f fd ps sp) (hb : Binds K fd ps []) : FR P w K mg base CX k f sp := by
  intro A outer s H us vs Q E quiet room env r h
  have kin : K.In s.heap := env.mod.kin.keeps (fun b o z => (env.bs b o z).1)
  have n : (us ++ []).length = ps.length := by rw [List.append_nil, ← r.length]; exact F.len _ _ _ _ h
  have b := hb s us kin n
  rw [List.append_nil] at b
  exact F.run A outer s H ⟨us, []⟩ us vs Q E quiet room env b r h
/-- the def x of the module keeps the promise S, by at most level k -/
structure Cal (P : Program) (w : World) (K : PySem.W.Frag) (mg : Str → Option Value) (base : Heap) (CX : CXT) (k : Nat) (x : Str) (S : DSp) : Prop where
  ex : ∃ f, FR P w K mg base CX k f (liftP K mg S) ∧ mg x = some (.ref f) ∧ PySem.W.keepIn K (.ref f) = true
theorem Cal.mono {P : Program} {w : World} {K : PySem.W.Frag} {mg : Str → Option Value} {base : Heap} {CX : CXT} {j k : Nat} {x : Str} {S : DSp} (c : Cal P w K mg base CX j x S) (h : j ≤ k) : Cal P w K mg base CX k x S := by
  obtain ⟨f, F, r⟩ := c.ex
  exact ⟨f, fun A outer s H us vs Q E q rm => F A outer s H us vs Q E q (rm.mono h), r⟩
theorem Cal.imp {P : Program} {w : World} {K : PySem.W.Frag} {mg : Str → Option Value} {base : Heap} {CX : CXT} {k : Nat} {x : Str} {S S' : DSp} (c : Cal P w K mg base CX k x S) (h : ∀ ds μ Q E, S' ds μ Q E → S ds μ Q E) : Cal P w K mg base CX k x S' := by
  obtain ⟨f, F, r⟩ := c.ex
  have go : ∀ vs H Q E, liftP K mg S' vs H Q E → liftP K mg S vs H Q E := fun vs H Q E ⟨F, μ, ds, Qd, Ed, h1, h2, h3, h4⟩ => ⟨F, μ, ds, Qd, Ed, h1, h2, h _ _ _ _ h3, h4⟩
  exact ⟨f, fun A outer s H us vs Q E q rm e v z => F A outer s H us vs Q E q rm e v (go _ _ _ _ z), r⟩
/-- the slots at the entry -/
@[simp] def startD (n : Nat) (ds : List D) : DEnv := ds.map (fun d => some (.val d)) ++ List.replicate (n - ds.length) none
theorem start_rel {K : PySem.W.Frag} {mg : Str → Option Value} {F H : Hp} {μ : Sto} {vs : List V} {ds : List D} {N : List Str} (o : Ok K mg F μ H) (r : Dts K mg F vs ds) : RelB K mg ⟨F, μ, H⟩ F (startD N.length ds) μ (L2.start N vs) H := by
  have noOwn : ∀ (i : Nat) (xs : List D), (startD N.length ds)[i]? ≠ some (some (DS.own xs)) := fun i xs e => by
    unfold startD at e
    by_cases hi : i < ds.length
    · rw [List.getElem?_append_left (by simpa using hi), List.getElem?_map] at e
      cases z : ds[i]? with
      | none => rw [z] at e; cases e
      | some d => rw [z] at e; cases e
    · rw [List.getElem?_append_right (by simpa using hi), List.getElem?_replicate] at e
      split at e <;> cases e
  refine ⟨⟨o, ?_, fun i s e => ?_, fun i j xs ys e1 _ _ => absurd e1 (noOwn i xs)⟩, .refl, fun i xs a e _ => absurd e (noOwn i xs)⟩
  · unfold startD L2.start
    rw [List.length_append, List.length_append, List.length_map, List.length_map, List.length_replicate, List.length_replicate, r.length]
  · unfold startD at e
    by_cases hi : i < ds.length
    · rw [List.getElem?_append_left (by simpa using hi), List.getElem?_map] at e
      cases z : ds[i]? with
      | none => rw [z] at e; cases e
      | some d =>
        rw [z] at e; cases e
        obtain ⟨v, h1, h2⟩ := r.get z
        refine ⟨v, ?_, h2⟩
        unfold L2.start
        rw [List.getElem?_append_left (by rw [List.length_map, r.length]; exact hi), List.getElem?_map, h1]
        rfl
    · rw [List.getElem?_append_right (by simpa using hi), List.getElem?_replicate] at e
      split at e <;> cases e
section
variable {P : Program} {w : World} {K : PySem.W.Frag} {mg : Str → Option Value} {base : Heap} {k n : Nat} {f : Addr} {fd : FuncData} {ps : List Str} {S : DSp}
/-- a def that raises nothing, by its body over data -/
theorem FnG.ofD {name qual : Str} {st : Stmt} {N : List Str} (D : Fun K name qual st f fd) (Sc : FnScope N ps (defScope st)) (len : ∀ ds μ Q E, S ds μ Q E → ds.length = ps.length) (d : TSD)
    (hd : ∀ ds μ Q E, S ds μ Q E → d { nx := fun _ μ' => Q .non μ', rt := Q } (startD N.length ds) μ)
    (body : ∀ (cdv : Value) (A : Around) (outer : List Env) (s : Shared) (H : Hp) (E : XK) (B : Bs), Quiet (A.deeper (envOfC qual (defScope st) s.heap.objs.size f cdv)) → Room k (A.deeper (envOfC qual (defScope st) s.heap.objs.size f cdv)) →
      DSs (cxOf L2.CX0 P w K mg base N qual (defScope st) f cdv A outer s H E).nox B (defBody st) d) : FnG P w K mg base L2.CX0 (k + 1) f fd ps (liftP K mg S) := by
  refine FnG.of D Sc ?_ ?_
  · rintro vs H Q E ⟨F, μ, ds, Qd, Ed, _, h2, h3, _⟩
    exact h2.length.trans (len _ _ _ _ h3)
  · rintro cdv A outer s H vs Q E quiet room ⟨F, μ, ds, Qd, Ed, h1, h2, h3, h4, h5⟩
    refine ⟨_, PSs.nox (body cdv A outer s H E ⟨F, μ, H⟩ quiet room), ?_⟩
    refine ⟨F, startD N.length ds, μ, { nx := fun _ μ' => Qd .non μ', rt := Qd }, start_rel h1 h2, hd _ _ _ _ h3, ?_, fun _ _ _ _ _ _ _ z => z.elim, fun _ _ _ _ _ _ _ z => z.elim, ?_⟩
    · exact fun F' ρ' μ' σ' H' _ R q => h4 .non F' μ' H' .non R.ext R.rel.ok .non q
    · exact h4
theorem Cal.of {x : Str} (F : FnG P w K mg base L2.CX0 k f fd ps (liftP K mg S)) (hx : mg x = some (.ref f)) (hk : PySem.W.keepIn K (.ref f) = true) (hb : Binds K fd ps []) : Cal P w K mg base L2.CX0 k x S := ⟨f, F.toR hb, hx, hk⟩
end
section
variable {X : Cx} {k : Nat} {x : Str} {S : DSp} {e : Expr} {es : List Expr} {t : TAD} {p pos : Pos} {CX : CXT}
@[simp] def dCall (S : DSp) (t : TAD) (E : DXK) : TED := fun ρ μ Q => t ρ μ fun ds μ1 => S ds μ1 Q E
/-- the callee runs -/
theorem run_g {f : Addr} {sp : Sp} {E : XK} {pins : List (Addr × Obj)} {σ : L2.St} {H : Hp} {s : Shared} {Q : VK} {us : List Value} {vs : List V} (F : FR X.prog X.w X.K X.mg X.base CX k f sp) (quiet : Quiet X.A) (room : Room k X.A)
    (hx : Passes CX X E) (I : Inv X pins σ H s) (r : Vals vs us) (h : sp vs H Q E) : wpAny (model X.prog X.w) X.A (call (.ref f) us) (EP X pins σ Q) X.xe s := by
  refine wpAny_call (codeAny_mono (F X.A X.stack s H us vs Q E quiet room I.env0 r h) ?_)
  intro z s' hz
  match z, hz with
  | .error e, hz => exact hx pins σ H s e s' I hz
  | .ok (.ret u), hz => exact I.after hz
theorem de_call (c : Cal X.prog X.w X.K X.mg X.base L2.CX0 k x S) (quiet : Quiet X.A) (room : Room k X.A) (hg : Gl X x) (ha : DA X (e :: es) t) (hdb : (x == ("__debug__" : Str)) = false := by decide)
    (he : starEach (e :: es) X.env = (false, eval e X.env) :: starEach es X.env := by rfl) (hpl : (backTo pos (starEach es X.env)).any (·.1) = false := by rfl) : DE X (.Call (.Name x p) (e :: es) [] pos) (dCall S t noD) := by
  obtain ⟨f, F, hm, hk⟩ := c.ex
  refine ⟨fun pins s σ H Q I h => ?_⟩
  obtain ⟨F0, ρ, μ, Qd, R, hd, kk⟩ := h
  refine wpAny_Call_Name_kw (ld_glob I hg hm ?_ hdb)
  refine PySem.W.callWith_K (h₀ := X.base) I.ok.mod.kin hk (thn (ha.run pos pins s σ H (fun vs H1 => liftP X.K X.mg S vs H1 Q L2.E0) I ⟨F0, ρ, μ, _, R, hd, fun vs F1 μ1 H1 ds e1 o1 w1 q1 => ?_⟩) fun us s1 ⟨vs, H1, I1, r, q⟩ => ⟨I1.kIn, ?_⟩) he hpl
  · exact ⟨F1, μ1, ds, Qd, noD, o1, w1, q1, fun v F' μ' H' dv e o w q => kk v F' μ' H' dv (e1.trans e) o w q, fun _ _ _ _ _ _ _ _ _ _ z => z.elim⟩
  · exact run_g F quiet room L2.pass0 I1 r q
end
end DL

namespace DL
open PySem PySem.Spec PyProof.Rows L2
abbrev RDn := List D → Sto → DK → Prop
def CallS (K : PySem.W.Frag) (mg : Str → Option Value) (r : List V → Hp → VK → Prop) (rd : RDn) : Prop :=
  ∀ (F : Hp) (μ : Sto) (H : Hp) (vs : List V) (ds : List D) (Qd : DK) (Q : VK), Ok K mg F μ H → Wks K mg F μ H vs ds → rd ds μ Qd →
    (∀ v F' μ' H' dv, Ext F μ H F' μ' H' → Ok K mg F' μ' H' → Dt K mg F' v dv → Qd dv μ' → Q v H') → r vs H Q
@[simp] def dFn (rd : RDn) (t : TAD) : TED := fun ρ μ Q => t ρ μ fun ds μ1 => rd ds μ1 Q
section
variable {X : Cx} {x : Str} {p pos : Pos} {e : Expr} {es : List Expr} {t : TAD} {id T : String} {r : List V → Hp → VK → Prop} {rd : RDn}
theorem lift_fn {K : PySem.W.Frag} {mg : Str → Option Value} (hs : CallS K mg r rd) {σ : L2.St} {H : Hp} {Q : VK} (h : liftE K mg (dFn rd t) σ H Q) : tCB r (liftAW K mg t) σ H Q := by
  obtain ⟨F, ρ, μ, Qd, R, hd, k⟩ := h
  exact ⟨F, ρ, μ, _, R, hd, fun vs F1 μ1 H1 ds e1 o1 w1 q1 => hs F1 μ1 H1 vs ds Qd Q o1 w1 q1 fun v F2 μ2 H2 dv e2 o2 w2 q2 => k v F2 μ2 H2 dv (e1.trans e2) o2 w2 q2⟩
theorem de_fnB (hc : CallR X (.builtin id) r) (hs : CallS X.K X.mg r rd) (hg : Gl X x) (hm : X.mg x = none) (hv : bootBuiltins x = some (.builtin id)) (ha : DAW X (e :: es) t) (hn : x ≠ "__name__" := by decide) (hdb : (x == ("__debug__" : Str)) = false := by decide)
    (he : starEach (e :: es) X.env = (false, eval e X.env) :: starEach es X.env := by rfl) (hpl : (backTo pos (starEach es X.env)).any (·.1) = false := by rfl) : DE X (.Call (.Name x p) (e :: es) [] pos) (dFn rd t) :=
  (pe_callB hc hg hm hv ha hn hdb he hpl).weaken fun _ _ _ q => lift_fn hs q
theorem de_fnT (hc : CallR X (.type T) r) (hs : CallS X.K X.mg r rd) (hg : Gl X x) (hm : X.mg x = none) (hv : bootBuiltins x = some (.type T)) (ha : DAW X (e :: es) t) (hn : x ≠ "__name__" := by decide) (hdb : (x == ("__debug__" : Str)) = false := by decide)
    (he : starEach (e :: es) X.env = (false, eval e X.env) :: starEach es X.env := by rfl) (hpl : (backTo pos (starEach es X.env)).any (·.1) = false := by rfl) : DE X (.Call (.Name x p) (e :: es) [] pos) (dFn rd t) :=
  (pe_callTy hc hg hm hv ha hn hdb he hpl).weaken fun _ _ _ q => lift_fn hs q
end
section
variable {K : PySem.W.Frag} {mg : Str → Option Value} {F H : Hp} {μ : Sto}
theorem Wks.one {vs : List V} {d : D} (h : Wks K mg F μ H vs [d]) : ∃ v, vs = [v] ∧ Wk K mg F μ H v d := by
  cases h with
  | cons a b => cases b; exact ⟨_, rfl, a⟩
theorem Wks.two {vs : List V} {d e : D} (h : Wks K mg F μ H vs [d, e]) : ∃ v w, vs = [v, w] ∧ Wk K mg F μ H v d ∧ Wk K mg F μ H w e := by
  cases h with
  | cons a b =>
    obtain ⟨w, rfl, c⟩ := b.one
    exact ⟨_, _, rfl, a, c⟩
def refLst (μ : Sto) (a : Addr) : Option (List D) := match μ a with
  | some (.lst xs) => some xs
  | _ => none
theorem refLst_some {a : Addr} {xs : List D} (h : refLst μ a = some xs) : μ a = some (.lst xs) := by
  unfold refLst at h
  split at h
  · rename_i ys hy
    cases h
    exact hy
  · cases h
/-- a list that is read: as a value, the frame's own, the script, one that changes -/
@[simp] def lstOf (μ : Sto) : D → Option (List D)
  | .lst xs => some xs
  | .scr ns => some (ns.map D.int)
  | .ref a => refLst μ a
  | _ => none
/-- .. or a tuple -/
@[simp] def seqOf (μ : Sto) : D → Option (List D)
  | .tup xs => some xs
  | d => lstOf μ d
theorem Wk.list (o : Ok K mg F μ H) {v : V} {d : D} {xs : List D} (h : Wk K mg F μ H v d) (q : lstOf μ d = some xs) : ∃ a vs, v = .ref a ∧ SqL K H a vs ∧ Dts K mg F vs xs := by
  cases d <;> first | cases q; done | skip
  · cases q
    obtain ⟨a, vs, rfl, ha, r⟩ := h.lst o
    exact ⟨a, vs, rfl, .inl (.inl ha), r⟩
  · cases q
    obtain ⟨a, rfl, ha⟩ := h.scr o
    exact ⟨a, _, rfl, ha, Dts.ofInts _⟩
  · have q' := refLst_some q
    cases h.ref
    obtain ⟨vs, ha, r⟩ := o.sto _ _ q'
    exact ⟨_, vs, rfl, .inl (.inl ha), r⟩
theorem Wk.seq (o : Ok K mg F μ H) {v : V} {d : D} {xs : List D} (h : Wk K mg F μ H v d) (q : seqOf μ d = some xs) : ∃ a vs, v = .ref a ∧ (SqL K H a vs ∨ SqT K H a vs) ∧ Dts K mg F vs xs := by
  have other : ∀ q' : lstOf μ d = some xs, ∃ a vs, v = .ref a ∧ (SqL K H a vs ∨ SqT K H a vs) ∧ Dts K mg F vs xs := fun q' => by
    obtain ⟨a, vs, e, ha, r⟩ := h.list o q'
    exact ⟨a, vs, e, .inl ha, r⟩
  cases d with
  | tup ys =>
    cases q
    obtain ⟨a, vs, rfl, ha, _, r⟩ := h.tup o
    exact ⟨a, vs, rfl, .inr ha, r⟩
  | _ => exact other q

def rdLen : RDn
  | [.str s], μ, Q => s.length ≤ SZ ∧ Q (.int s.length) μ
  | [d], μ, Q => ∃ xs, seqOf μ d = some xs ∧ Q (.int xs.length) μ
  | _, _, _ => False
@[simp] theorem rdLen_1 : rdLen  [.str s0] μ0 Q0 = (s0.length ≤ SZ ∧ Q0 (.int s0.length) μ0) := rfl
@[simp] theorem rdLen_2 : rdLen  [.tup zs0] μ0 Q0 = (∃ xs, seqOf μ0 (.tup zs0) = some xs ∧ Q0 (.int xs.length) μ0) := rfl
@[simp] theorem rdLen_3 : rdLen  [.lst zs0] μ0 Q0 = (∃ xs, seqOf μ0 (.lst zs0) = some xs ∧ Q0 (.int xs.length) μ0) := rfl
@[simp] theorem rdLen_4 : rdLen  [.scr zs0] μ0 Q0 = (∃ xs, seqOf μ0 (.scr zs0) = some xs ∧ Q0 (.int xs.length) μ0) := rfl
@[simp] theorem rdLen_5 : rdLen  [.ref za0] μ0 Q0 = (∃ xs, seqOf μ0 (.ref za0) = some xs ∧ Q0 (.int xs.length) μ0) := rfl
def rLenA (K : PySem.W.Frag) : List V → Hp → VK → Prop := fun xs H Q => (∃ p ys, xs = [.ref p] ∧ (SqL K H p ys ∨ SqT K H p ys) ∧ Q (.int ys.length) H) ∨ (∃ z, xs = [.str z] ∧ z.length ≤ sizeLine ∧ Q (.int z.length) H)
theorem call_lenA {X : Cx} : CallR X (.builtin "len") (rLenA X.K) := .or call_len_seq call_len_str
theorem cs_len : CallS K mg (rLenA K) rdLen := by
  intro F μ H vs ds Qd Q o w h k
  unfold rdLen at h
  split at h
  · obtain ⟨v, rfl, wk⟩ := w.one
    refine .inr ⟨_, by rw [wk.str], by rw [S_len, sizeLine_eq]; exact h.1, ?_⟩
    rw [S_len]
    exact fin0 o k (.int _) h.2
  · obtain ⟨v, rfl, wk⟩ := w.one
    obtain ⟨xs, hx, h⟩ := h
    obtain ⟨a, us, rfl, ha, r⟩ := wk.seq o hx
    refine .inl ⟨a, us, rfl, ha, ?_⟩
    rw [r.length]
    exact fin0 o k (.int _) h
  · exact h.elim
def rdAbs : RDn
  | [.int i], μ, Q => Q (.int (if i < 0 then -i else i)) μ
  | _, _, _ => False
@[simp] theorem rdAbs_1 : rdAbs  [.int i0] μ0 Q0 = (Q0 (.int (if i0 < 0 then -i0 else i0)) μ0) := rfl
theorem cs_abs : CallS K mg (fun xs H Q => ∃ i, xs = [.int i] ∧ Q (.int (if i < 0 then -i else i)) H) rdAbs := by
  intro F μ H vs ds Qd Q o w h k
  unfold rdAbs at h
  split at h
  · obtain ⟨v, rfl, wk⟩ := w.one
    exact ⟨_, by rw [wk.int], fin0 o k (.int _) h⟩
  · exact h.elim
def rdInt : RDn
  | [.int i], μ, Q => Q (.int i) μ
  | [.bl k], μ, Q => Q (.int (if k then 1 else 0)) μ
  | _, _, _ => False
@[simp] theorem rdInt_1 : rdInt  [.int i0] μ0 Q0 = (Q0 (.int i0) μ0) := rfl
@[simp] theorem rdInt_2 : rdInt  [.bl k0] μ0 Q0 = (Q0 (.int (if k0 then 1 else 0)) μ0) := rfl
theorem cs_int : CallS K mg (fun xs H Q => (∃ i, xs = [.int i] ∧ Q (.int i) H) ∨ ∃ k, xs = [.bl k] ∧ Q (.int (if k then 1 else 0)) H) rdInt := by
  intro F μ H vs ds Qd Q o w h k
  unfold rdInt at h
  split at h
  · obtain ⟨v, rfl, wk⟩ := w.one
    exact .inl ⟨_, by rw [wk.int], fin0 o k (.int _) h⟩
  · obtain ⟨v, rfl, wk⟩ := w.one
    exact .inr ⟨_, by rw [wk.bl], fin0 o k (.int _) h⟩
  · exact h.elim
def rdTuple : RDn
  | [.tup xs], μ, Q => Q (.tup xs) μ
  | [d], μ, Q => ∃ xs, lstOf μ d = some xs ∧ Q (.tup xs) μ
  | _, _, _ => False
@[simp] theorem rdTuple_1 : rdTuple  [.tup xs0] μ0 Q0 = (Q0 (.tup xs0) μ0) := rfl
@[simp] theorem rdTuple_2 : rdTuple  [.lst zs0] μ0 Q0 = (∃ xs, lstOf μ0 (.lst zs0) = some xs ∧ Q0 (.tup xs) μ0) := rfl
@[simp] theorem rdTuple_3 : rdTuple  [.scr zs0] μ0 Q0 = (∃ xs, lstOf μ0 (.scr zs0) = some xs ∧ Q0 (.tup xs) μ0) := rfl
@[simp] theorem rdTuple_4 : rdTuple  [.ref za0] μ0 Q0 = (∃ xs, lstOf μ0 (.ref za0) = some xs ∧ Q0 (.tup xs) μ0) := rfl
theorem cs_tuple : CallS K mg (rTupZ K) rdTuple := by
  intro F μ H vs ds Qd Q o w h k
  unfold rdTuple at h
  split at h
  · obtain ⟨v, rfl, wk⟩ := w.one
    obtain ⟨a, us, rfl, ha, hf, r⟩ := wk.tup o
    exact ⟨a, us, rfl, .inr ⟨ha, fin0 o k (.tup hf r) h⟩⟩
  · obtain ⟨v, rfl, wk⟩ := w.one
    obtain ⟨xs, hx, h⟩ := h
    obtain ⟨a, us, rfl, ha, r⟩ := wk.list o hx
    refine ⟨a, us, rfl, .inl ⟨ha, fun l ob hl hob => ?_⟩⟩
    obtain ⟨g1, g2, g3⟩ := newTup o r hl hob
    exact k _ _ _ _ _ g1 g2 g3 h
  · exact h.elim
def rdList : RDn
  | [d], μ, Q => ∃ xs, seqOf μ d = some xs ∧ Q (.lst xs) μ
  | _, _, _ => False
@[simp] theorem rdList_1 : rdList  [.tup zs0] μ0 Q0 = (∃ xs, seqOf μ0 (.tup zs0) = some xs ∧ Q0 (.lst xs) μ0) := rfl
@[simp] theorem rdList_2 : rdList  [.lst zs0] μ0 Q0 = (∃ xs, seqOf μ0 (.lst zs0) = some xs ∧ Q0 (.lst xs) μ0) := rfl
@[simp] theorem rdList_3 : rdList  [.scr zs0] μ0 Q0 = (∃ xs, seqOf μ0 (.scr zs0) = some xs ∧ Q0 (.lst xs) μ0) := rfl
@[simp] theorem rdList_4 : rdList  [.ref za0] μ0 Q0 = (∃ xs, seqOf μ0 (.ref za0) = some xs ∧ Q0 (.lst xs) μ0) := rfl
def rdStr : RDn
  | [.int i], μ, Q => i.natAbs.log2 < 1920 ∧ Q (.str (toString i : Str).cps.toList) μ
  | _, _, _ => False
@[simp] theorem rdStr_1 : rdStr  [.int i0] μ0 Q0 = (i0.natAbs.log2 < 1920 ∧ Q0 (.str (toString i0 : Str).cps.toList) μ0) := rfl
theorem cs_str : CallS K mg (fun xs H Q => ∃ i, xs = [.int i] ∧ i.natAbs.log2 < 1920 ∧ Q (.str (toString i)) H) rdStr := by
  intro F μ H vs ds Qd Q o w h k
  unfold rdStr at h
  split at h
  · obtain ⟨v, rfl, wk⟩ := w.one
    refine ⟨_, by rw [wk.int], h.1, ?_⟩
    have := fin0 o k (.str (toString _ : Str).cps.toList) h.2
    rw [S_of] at this
    exact this
  · exact h.elim

def rdSum : RDn
  | [d], μ, Q => ∃ ns : List Int, lstOf μ d = some (ns.map D.int) ∧ Q (.int ns.sum) μ
  | _, _, _ => False
@[simp] theorem rdSum_1 : rdSum  [.lst zs0] μ0 Q0 = (∃ ns : List Int, lstOf μ0 (.lst zs0) = some (ns.map D.int) ∧ Q0 (.int ns.sum) μ0) := rfl
@[simp] theorem rdSum_2 : rdSum  [.scr zs0] μ0 Q0 = (∃ ns : List Int, lstOf μ0 (.scr zs0) = some (ns.map D.int) ∧ Q0 (.int ns.sum) μ0) := rfl
@[simp] theorem rdSum_3 : rdSum  [.ref za0] μ0 Q0 = (∃ ns : List Int, lstOf μ0 (.ref za0) = some (ns.map D.int) ∧ Q0 (.int ns.sum) μ0) := rfl
def rdAll : RDn
  | [d], μ, Q => ∃ bs : List Bool, lstOf μ d = some (bs.map D.bl) ∧ Q (.bl (bs.all id)) μ
  | _, _, _ => False
@[simp] theorem rdAll_1 : rdAll  [.lst zs0] μ0 Q0 = (∃ bs : List Bool, lstOf μ0 (.lst zs0) = some (bs.map D.bl) ∧ Q0 (.bl (bs.all id)) μ0) := rfl
@[simp] theorem rdAll_2 : rdAll  [.scr zs0] μ0 Q0 = (∃ bs : List Bool, lstOf μ0 (.scr zs0) = some (bs.map D.bl) ∧ Q0 (.bl (bs.all id)) μ0) := rfl
@[simp] theorem rdAll_3 : rdAll  [.ref za0] μ0 Q0 = (∃ bs : List Bool, lstOf μ0 (.ref za0) = some (bs.map D.bl) ∧ Q0 (.bl (bs.all id)) μ0) := rfl
def rdAny : RDn
  | [d], μ, Q => ∃ bs : List Bool, lstOf μ d = some (bs.map D.bl) ∧ Q (.bl (bs.any id)) μ
  | _, _, _ => False
@[simp] theorem rdAny_1 : rdAny  [.lst zs0] μ0 Q0 = (∃ bs : List Bool, lstOf μ0 (.lst zs0) = some (bs.map D.bl) ∧ Q0 (.bl (bs.any id)) μ0) := rfl
@[simp] theorem rdAny_2 : rdAny  [.scr zs0] μ0 Q0 = (∃ bs : List Bool, lstOf μ0 (.scr zs0) = some (bs.map D.bl) ∧ Q0 (.bl (bs.any id)) μ0) := rfl
@[simp] theorem rdAny_3 : rdAny  [.ref za0] μ0 Q0 = (∃ bs : List Bool, lstOf μ0 (.ref za0) = some (bs.map D.bl) ∧ Q0 (.bl (bs.any id)) μ0) := rfl
theorem cs_any : CallS K mg (rAny K) rdAny := by
  intro F μ H vs ds Qd Q o w h k
  unfold rdAny at h
  split at h
  · obtain ⟨v, rfl, wk⟩ := w.one
    obtain ⟨ns, hx, h⟩ := h
    obtain ⟨a, us, rfl, ha, r⟩ := wk.list o hx
    rw [r.bls] at ha
    exact ⟨a, ns, rfl, ha, fin0 o k (.bl _) h⟩
  · exact h.elim
def rdMax : RDn
  | [d], μ, Q => ∃ ns : List Int, lstOf μ d = some (ns.map D.int) ∧ 0 < ns.length ∧ ∀ m, m ∈ ns → (∀ y, y ∈ ns → y ≤ m) → Q (.int m) μ
  | [.int i, .int j], μ, Q => Q (.int (if j > i then j else i)) μ
  | _, _, _ => False
@[simp] theorem rdMax_1 : rdMax  [.lst zs0] μ0 Q0 = (∃ ns : List Int, lstOf μ0 (.lst zs0) = some (ns.map D.int) ∧ 0 < ns.length ∧ ∀ m, m ∈ ns → (∀ y, y ∈ ns → y ≤ m) → Q0 (.int m) μ0) := rfl
@[simp] theorem rdMax_2 : rdMax  [.scr zs0] μ0 Q0 = (∃ ns : List Int, lstOf μ0 (.scr zs0) = some (ns.map D.int) ∧ 0 < ns.length ∧ ∀ m, m ∈ ns → (∀ y, y ∈ ns → y ≤ m) → Q0 (.int m) μ0) := rfl
@[simp] theorem rdMax_3 : rdMax  [.ref za0] μ0 Q0 = (∃ ns : List Int, lstOf μ0 (.ref za0) = some (ns.map D.int) ∧ 0 < ns.length ∧ ∀ m, m ∈ ns → (∀ y, y ∈ ns → y ≤ m) → Q0 (.int m) μ0) := rfl
@[simp] theorem rdMax_4 : rdMax  [.int i0, .int j0] μ0 Q0 = (Q0 (.int (if j0 > i0 then j0 else i0)) μ0) := rfl
def rMaxA (K : PySem.W.Frag) : List V → Hp → VK → Prop := fun xs H Q => rMax K xs H Q ∨ ∃ i j, xs = [.int i, .int j] ∧ Q (.int (if j > i then j else i)) H
theorem call_maxA {X : Cx} (hc : X.calm = true) : CallR X (.builtin "max") (rMaxA X.K) := .or (cr_max hc) (call_max2 hc)
theorem cs_max : CallS K mg (rMaxA K) rdMax := by
  intro F μ H vs ds Qd Q o w h k
  unfold rdMax at h
  split at h
  · obtain ⟨v, rfl, wk⟩ := w.one
    obtain ⟨ns, hx, hl, h⟩ := h
    obtain ⟨a, us, rfl, ha, r⟩ := wk.list o hx
    rw [r.ints] at ha
    exact .inl ⟨a, ns, rfl, ha, hl, fun m h1 h2 => fin0 o k (.int _) (h m h1 h2)⟩
  · obtain ⟨v, u, rfl, wk, wk'⟩ := w.two
    exact .inr ⟨_, _, by rw [wk.int, wk'.int], fin0 o k (.int _) h⟩
  · exact h.elim
def rdMin : RDn
  | [d], μ, Q => ∃ ns : List Int, lstOf μ d = some (ns.map D.int) ∧ 0 < ns.length ∧ ∀ m, m ∈ ns → (∀ y, y ∈ ns → m ≤ y) → Q (.int m) μ
  | [.int i, .int j], μ, Q => Q (.int (if j < i then j else i)) μ
  | _, _, _ => False
@[simp] theorem rdMin_1 : rdMin  [.lst zs0] μ0 Q0 = (∃ ns : List Int, lstOf μ0 (.lst zs0) = some (ns.map D.int) ∧ 0 < ns.length ∧ ∀ m, m ∈ ns → (∀ y, y ∈ ns → m ≤ y) → Q0 (.int m) μ0) := rfl
@[simp] theorem rdMin_2 : rdMin  [.scr zs0] μ0 Q0 = (∃ ns : List Int, lstOf μ0 (.scr zs0) = some (ns.map D.int) ∧ 0 < ns.length ∧ ∀ m, m ∈ ns → (∀ y, y ∈ ns → m ≤ y) → Q0 (.int m) μ0) := rfl
@[simp] theorem rdMin_3 : rdMin  [.ref za0] μ0 Q0 = (∃ ns : List Int, lstOf μ0 (.ref za0) = some (ns.map D.int) ∧ 0 < ns.length ∧ ∀ m, m ∈ ns → (∀ y, y ∈ ns → m ≤ y) → Q0 (.int m) μ0) := rfl
@[simp] theorem rdMin_4 : rdMin  [.int i0, .int j0] μ0 Q0 = (Q0 (.int (if j0 < i0 then j0 else i0)) μ0) := rfl
end

mutual
/-- may be written out by repr -/
def D.shows : D → Bool
  | .non => true | .bl _ => true | .int i => decide (i.natAbs.log2 < 1920) | .str _ => true
  | .tup xs => D.showsAll xs | .lst xs => D.showsAll xs
  | _ => false
def D.showsAll : List D → Bool
  | [] => true
  | x :: xs => x.shows && D.showsAll xs
end
mutual
theorem D.shows_flat : ∀ d : D, d.shows = true → d.flat = true ∧ d.py.showable = true ∧ d.py.hasDict = false
  | .non, _ => ⟨rfl, rfl, rfl⟩
  | .bl _, _ => ⟨rfl, rfl, rfl⟩
  | .int _, h => ⟨rfl, h, rfl⟩
  | .str _, _ => ⟨rfl, rfl, rfl⟩
  | .tup xs, h => D.showsAll_flat xs h
  | .lst xs, h => D.showsAll_flat xs h
  | .dct _, h => nomatch h
  | .scr _, h => nomatch h
  | .ref _, h => nomatch h
  | .ty _, h => nomatch h
  | .gl _, h => nomatch h
theorem D.showsAll_flat : ∀ ds : List D, D.showsAll ds = true → D.flats ds = true ∧ PyData.showableAll (D.pys ds) = true ∧ PyData.hasDictAll (D.pys ds) = false
  | [], _ => ⟨rfl, rfl, rfl⟩
  | x :: xs, h => by
    have h' := Bool.and_eq_true_iff.mp h
    obtain ⟨a1, a2, a3⟩ := D.shows_flat x h'.1
    obtain ⟨b1, b2, b3⟩ := D.showsAll_flat xs h'.2
    refine ⟨?_, ?_, ?_⟩
    · show (x.flat && D.flats xs) = true
      rw [a1, b1]; rfl
    · show (x.py.showable && PyData.showableAll (D.pys xs)) = true
      rw [a2, b2]; rfl
    · show (x.py.hasDict || PyData.hasDictAll (D.pys xs)) = false
      rw [a3, b3]; rfl
end
/-- the text of repr -/
def D.rep (d : D) : List Nat := d.py.shown.cps.toList
def repOk (d : D) : Prop := d.shows = true ∧ d.py.depth ≤ 50 ∧ d.rep.length ≤ SZ
def rdRepr : RDn
  | [d], μ, Q => repOk d ∧ Q (.str d.rep) μ
  | _, _, _ => False
@[simp] theorem rdRepr_1 {d : D} {μ : Sto} {Q : DK} : rdRepr [d] μ Q = (repOk d ∧ Q (.str d.rep) μ) := rfl
abbrev RDm := D → List D → Sto → DK → Prop
def MtS (K : PySem.W.Frag) (mg : Str → Option Value) (r : V → List V → Hp → VK → Prop) (rd : RDm) : Prop :=
  ∀ (F : Hp) (μ : Sto) (H : Hp) (v : V) (vs : List V) (d : D) (ds : List D) (Qd : DK) (Q : VK), Ok K mg F μ H → Wk K mg F μ H v d → Wks K mg F μ H vs ds → rd d ds μ Qd →
    (∀ v F' μ' H' dv, Ext F μ H F' μ' H' → Ok K mg F' μ' H' → Dt K mg F' v dv → Qd dv μ' → Q v H') → r v vs H Q
/-- of which built-in type the receiver is -/
@[simp] def tyD (μ : Sto) (T : String) (d : D) : Prop := match d with
  | .str _ => T = "str"
  | .int _ => T = "int"
  | d => T = "list" ∧ ∃ xs, lstOf μ d = some xs
@[simp] def dMt (T : String) (rd : RDm) (o : TED) (t : TAD) : TED := fun ρ μ Q => o ρ μ fun x μ1 => tyD μ1 T x ∧ t ρ μ1 fun ds μ2 => rd x ds μ2 Q
theorem Wk.ty' {K : PySem.W.Frag} {mg : Str → Option Value} {F H : Hp} {μ : Sto} (o : Ok K mg F μ H) {T : String} {v : V} {d : D} (w : Wk K mg F μ H v d) (h : tyD μ T d) : tyV K T v H := by
  have other : (T = "list" ∧ ∃ xs, lstOf μ d = some xs) → tyV K T v H := fun ⟨e, xs, hx⟩ => by
    obtain ⟨a, vs, rfl, ha, r⟩ := w.list o hx
    exact .inl ⟨e, vs, ha⟩
  cases d with
  | str s => rw [w.str]; exact h
  | int i => rw [w.int]; exact h
  | _ => exact other h
section
variable {X : Cx} {o e : Expr} {es : List Expr} {d : TED} {t : TAD} {name : Str} {apos cpos : Pos} {T id : String} {r : V → List V → Hp → VK → Prop} {rd : RDm}
theorem de_mt (pa : PlainAttrs T) (slot : Slot T name id) (hty : typeOf (.builtin id) = pure (.type "method_descriptor")) (hm : MtR X id r) (hs : MtS X.K X.mg r rd) (ho : DW X o d) (ha : DAW X (e :: es) t)
    (hbase : attributeBase o name X.env (eval o X.env) = eval o X.env := by rfl)
    (hfew : ((backTo cpos (starEach (e :: es) X.env)).all (fun x => !x.1) && (backToKw cpos (keywordEach [] X.env)).all (fun x => x.1.isSome) && decide ((e :: es).length + ([] : List Keyword).length + (if ([] : List Keyword).isEmpty then 0 else 1) < 30)) = true := by rfl)
    (hline : (apos.endLine == cpos.line) = true := by rfl) (hst : starEach (e :: es) X.env = (false, eval e X.env) :: starEach es X.env := by rfl) (hplain : (backTo cpos (starEach es X.env)).any (·.1) = false := by rfl) :
    DE X (.Call (.Attribute o name apos) (e :: es) [] cpos) (dMt T rd d t) := (pe_bm pa slot hty hm ho ha hbase hfew hline hst hplain).weaken fun σ H Q q => by
  obtain ⟨F, ρ, μ, Qd, R, hd, k⟩ := q
  refine ⟨F, ρ, μ, _, R, hd, fun v F1 μ1 H1 dv e1 o1 w1 q1 => ⟨w1.ty' o1 q1.1, F1, ρ, μ1, _, R.ext e1 o1, q1.2, fun vs F2 μ2 H2 ds e2 o2 w2 q2 => ?_⟩⟩
  exact hs F2 μ2 H2 v vs dv ds Qd Q o2 (w1.ext e2) w2 q2 fun z F3 μ3 H3 dz e3 o3 w3 q3 => k z F3 μ3 H3 dz (e1.trans (e2.trans e3)) o3 w3 q3
theorem de_mt0 (pa : PlainAttrs T) (slot : Slot T name id) (hty : typeOf (.builtin id) = pure (.type "method_descriptor")) (hm : MtR X id r) (hs : MtS X.K X.mg r rd) (ho : DW X o d)
    (hbase : attributeBase o name X.env (eval o X.env) = eval o X.env := by rfl) (hline : (apos.endLine == cpos.line) = true := by rfl) : DE X (.Call (.Attribute o name apos) [] [] cpos) (dMt T rd d dNil) := (pe_bm0 pa slot hty hm ho hbase hline).weaken fun σ H Q q => by
  obtain ⟨F, ρ, μ, Qd, R, hd, k⟩ := q
  refine ⟨F, ρ, μ, _, R, hd, fun v F1 μ1 H1 dv e1 o1 w1 q1 => ⟨w1.ty' o1 q1.1, ?_⟩⟩
  exact hs F1 μ1 H1 v [] dv [] Qd Q o1 w1 .nil q1.2 fun z F3 μ3 H3 dz e3 o3 w3 q3 => k z F3 μ3 H3 dz (e1.trans e3) o3 w3 q3
end
/-- the texts joined -/
def joinL (sep : List Nat) : List (List Nat) → List Nat
  | [] => []
  | x :: r => x ++ (r.map fun y => sep ++ y).flatten
theorem join_S (sep : List Nat) (parts : List (List Nat)) : PySem.Txt.join (S sep) (parts.map S) = S (joinL sep parts) := by
  have go : ∀ (r : List (List Nat)) (acc : List Nat), (r.map S).foldl (fun acc p => acc ++ (S sep).cps ++ p.cps) acc.toArray = (acc ++ (r.map fun y => sep ++ y).flatten).toArray := by
    intro r
    induction r with
    | nil => intro acc; simp
    | cons x r ih =>
      intro acc
      rw [List.map_cons, List.foldl_cons]
      have e : acc.toArray ++ (S sep).cps ++ (S x).cps = (acc ++ sep ++ x).toArray := by simp
      rw [e, ih]
      simp
  show Builtin.Str.glued (S sep) (parts.map S) = _
  unfold Builtin.Str.glued
  cases parts with
  | nil => rfl
  | cons x r =>
    rw [List.map_cons]
    have := go r x
    show (⟨_⟩ : Str) = _
    rw [List.drop_one, List.tail_cons, List.headD_cons, this]
    rfl
theorem strs_len (parts : List (List Nat)) : ((parts.map S).map (·.length)).sum = (parts.map List.length).sum := by
  rw [List.map_map]
  exact congrArg List.sum (List.map_congr_left fun x _ => S_len x)
def rdJoin : RDm
  | .str sep, [d], μ, Q => ∃ parts : List (List Nat), seqOf μ d = some (parts.map D.str) ∧ (parts.map List.length).sum + parts.length * sep.length ≤ SZ ∧ Q (.str (joinL sep parts)) μ
  | _, _, _, _ => False
@[simp] theorem rdJoin_1 : rdJoin  (.str sep0) [.tup zs0] μ0 Q0 = (∃ parts : List (List Nat), seqOf μ0 (.tup zs0) = some (parts.map D.str) ∧ (parts.map List.length).sum + parts.length * sep0.length ≤ SZ ∧ Q0 (.str (joinL sep0 parts)) μ0) := rfl
@[simp] theorem rdJoin_2 : rdJoin  (.str sep0) [.lst zs0] μ0 Q0 = (∃ parts : List (List Nat), seqOf μ0 (.lst zs0) = some (parts.map D.str) ∧ (parts.map List.length).sum + parts.length * sep0.length ≤ SZ ∧ Q0 (.str (joinL sep0 parts)) μ0) := rfl
@[simp] theorem rdJoin_3 : rdJoin  (.str sep0) [.scr zs0] μ0 Q0 = (∃ parts : List (List Nat), seqOf μ0 (.scr zs0) = some (parts.map D.str) ∧ (parts.map List.length).sum + parts.length * sep0.length ≤ SZ ∧ Q0 (.str (joinL sep0 parts)) μ0) := rfl
@[simp] theorem rdJoin_4 : rdJoin  (.str sep0) [.ref za0] μ0 Q0 = (∃ parts : List (List Nat), seqOf μ0 (.ref za0) = some (parts.map D.str) ∧ (parts.map List.length).sum + parts.length * sep0.length ≤ SZ ∧ Q0 (.str (joinL sep0 parts)) μ0) := rfl
theorem ms_join {K : PySem.W.Frag} {mg : Str → Option Value} : MtS K mg (fun x xs H Q => ∃ a p, ∃ ys : List Str, x = .str a ∧ xs = [.ref p] ∧ (SqL K H p (ys.map V.str) ∨ SqT K H p (ys.map V.str)) ∧ (ys.map (·.length)).sum + ys.length * a.length ≤ 16777216 ∧ Q (.str (PySem.Txt.join a ys)) H) rdJoin := by
  intro F μ H v vs d ds Qd Q o w ws h k
  unfold rdJoin at h
  split at h
  · obtain ⟨u, rfl, wk⟩ := ws.one
    obtain ⟨parts, hx, hz, h⟩ := h
    obtain ⟨a, us, rfl, ha, r⟩ := wk.seq o hx
    rw [r.strs] at ha
    refine ⟨_, a, parts.map S, w.str, rfl, ha, ?_, ?_⟩
    · rw [strs_len, List.length_map, S_len]; exact hz
    · rw [join_S]
      exact fin0 o k (.str _) h
  · exact h.elim
/-- the first place of a sign from a place on, or -1 -/
def findI (s : List Nat) (c : Nat) (b : Nat) : Int := match (s.drop b).findIdx? (· == c) with
  | some k => ((b + k : Nat) : Int)
  | none => -1
def rdFind : RDm
  | .str s, [.str [c], .int i], μ, Q => 0 ≤ i ∧ Q (.int (findI s c i.toNat)) μ
  | _, _, _, _ => False
@[simp] theorem rdFind_1 : rdFind  (.str s0) [.str [c0], .int i0] μ0 Q0 = (0 ≤ i0 ∧ Q0 (.int (findI s0 c0 i0.toNat)) μ0) := rfl
end DL

namespace DL
open PySem PySem.Spec PyProof.Rows L2
section
variable {X : Cx} {B : Bs} {e o i : Expr} {es : List Expr} {d do' di : TED} {t : TAD} {p pos : Pos}
/-- a new list as one that changes -/
@[simp] def dM (d : TFD) : TED := fun ρ μ Q => d ρ μ fun xs μ1 => ∀ p, μ1 p = none → Q (.ref p) (sset μ1 p (.lst xs))
theorem de_M {d : TFD} (h : DF X e d) : DE X e (dM d) := h.weaken fun σ H Q q => by
  obtain ⟨F, ρ, μ, Qd, R, hd, k⟩ := q
  refine ⟨F, ρ, μ, _, R, hd, fun p vs F' μ' H' ds e o hn hf hm hh w q => ?_⟩
  refine k _ F' (sset μ' p (.lst ds)) H' _ ⟨e.mono, fun a x z n => ?_, e.live⟩ ⟨o.sub, fun a m z => ?_, fun a m z => ?_⟩ (.ref p) (q p hm)
  · obtain ⟨g1, g2, g3⟩ := e.keep a x z n
    have ha : a ≠ p := fun q => by subst q; rw [hn] at z; cases z
    exact ⟨g1, g2, by rw [sset_ne ha]; exact g3⟩
  · by_cases ha : a = p
    · subst ha; exact hf
    · rw [sset_ne ha] at z; exact o.dis a m z
  · by_cases ha : a = p
    · subst ha; rw [sset_same] at z; cases z; exact ⟨vs, hh, w⟩
    · rw [sset_ne ha] at z; exact o.sto a m z
section
variable {name : Str} {apos cpos : Pos} {T id : String} {r : V → List V → Hp → VK → Prop} {rd : RDm}
end
def rdApp : RDm
  | .ref a, [y], μ, Q => ∃ xs, μ a = some (.lst xs) ∧ xs.length < SZ ∧ Q .non (sset μ a (.lst (xs ++ [y])))
  | _, _, _, _ => False
@[simp] theorem rdApp_1 : rdApp  (.ref a0) [y0] μ0 Q0 = (∃ xs, μ0 a0 = some (.lst xs) ∧ xs.length < SZ ∧ Q0 .non (sset μ0 a0 (.lst (xs ++ [y0])))) := rfl
/-- pop() -/
def rdPop0 : RDm
  | .ref a, [], μ, Q => ∃ xs y, μ a = some (.lst xs) ∧ xs[xs.length - 1]? = some y ∧ Q y (sset μ a (.lst xs.dropLast))
  | _, _, _, _ => False
@[simp] theorem rdPop0_1 : rdPop0  (.ref a0) [] μ0 Q0 = (∃ xs y, μ0 a0 = some (.lst xs) ∧ xs[xs.length - 1]? = some y ∧ Q0 y (sset μ0 a0 (.lst xs.dropLast))) := rfl
/-- pop(i) -/
def rdPopAt : RDm
  | .ref a, [.int i], μ, Q => ∃ xs j y, μ a = some (.lst xs) ∧ -9223372036854775808 ≤ i ∧ i < 9223372036854775808 ∧ seqIndex? i xs.length = some j ∧ xs[j]? = some y ∧ Q y (sset μ a (.lst (xs.eraseIdx j)))
  | _, _, _, _ => False
@[simp] theorem rdPopAt_1 : rdPopAt  (.ref a0) [.int i0] μ0 Q0 = (∃ xs j y, μ0 a0 = some (.lst xs) ∧ -9223372036854775808 ≤ i0 ∧ i0 < 9223372036854775808 ∧ seqIndex? i0 xs.length = some j ∧ xs[j]? = some y ∧ Q0 y (sset μ0 a0 (.lst (xs.eraseIdx j)))) := rfl
theorem Dts.eraseIdx {K : PySem.W.Frag} {mg : Str → Option Value} {F : Hp} : ∀ {vs : List V} {ds : List D} (n : Nat), Dts K mg F vs ds → Dts K mg F (vs.eraseIdx n) (ds.eraseIdx n)
  | _, _, _, .nil => .nil
  | _, _, 0, .cons _ t => t
  | _, _, n + 1, .cons q t => .cons q (Dts.eraseIdx n t)
theorem Dts.dropLast {K : PySem.W.Frag} {mg : Str → Option Value} {F : Hp} {vs : List V} {ds : List D} (h : Dts K mg F vs ds) : Dts K mg F vs.dropLast ds.dropLast := by
  rw [List.dropLast_eq_take, List.dropLast_eq_take, h.length]
  exact h.take _
theorem mts_popAt {K : PySem.W.Frag} {mg : Str → Option Value} : MtS K mg rPopAt rdPopAt := by
  intro F μ H v vs d ds Qd Q o w ws h k
  unfold rdPopAt at h
  split at h
  · obtain ⟨u, rfl, wk⟩ := ws.one
    obtain ⟨xs, j, y, hx, h1, h2, h3, hy, q⟩ := h
    cases w.ref
    obtain ⟨us, ha, ru⟩ := o.sto _ _ hx
    obtain ⟨v, hv, wv⟩ := ru.get hy
    obtain ⟨g1, g2⟩ := o.write hx (.lst (us.eraseIdx j)) (.lst (xs.eraseIdx j)) ⟨_, upd_same, ru.eraseIdx j⟩
    exact ⟨_, us, _, j, v, rfl, by rw [wk.int], ha, h1, h2, by rw [ru.length]; exact h3, hv, k _ _ _ _ _ g2 g1 (wv.mono g2.mono) q⟩
  · exact h.elim

/-- o a list that changes -/
@[simp] def dPutM (d o i : TED) : TSD := fun E ρ μ => d ρ μ fun y μ1 => o ρ μ1 fun x μ2 => i ρ μ2 fun k μ3 => ∃ a xs n j, x = .ref a ∧ k = .int n ∧ μ3 a = some (.lst xs) ∧ ixN xs.length n = some j ∧ E.nx ρ (sset μ3 a (.lst (xs.set j y)))
theorem ds_putM {spos : Pos} (he : DE X e d) (ho : DE X o do') (hi : DW X i di)
    (ha : ∀ v, assign (.Subscript o i spos) X.env v = (do
      let ov ← holding [v] (eval o X.env)
      let iv ← holding [v, ov] (eval i X.env)
      standAt spos
      holding [v, ov, iv] (setItem ov iv v)
      release [v, ov, iv] []) := by intro _; rfl)
    (hs : swapsWithSole [.Subscript o i spos] e pos.line X.env = pure false := by rfl) (hw : swappedStores [.Subscript o i spos] e X.env = pure none := by rfl) (h1 : (assignEach [.Subscript o i spos] X.env).map (·.2) = [assign (.Subscript o i spos) X.env] := by rfl) :
    DSt X B (.Assign [.Subscript o i spos] e pos) (dPutM d do' di) := (ps_asg he (pg_sub ho hi set_list ha) hs hw h1).weaken fun E σ H h => by
  obtain ⟨F, ρ, μ, Dd, R, hd, kn, kb, kc, kr⟩ := h
  refine ⟨F, ρ, μ, _, R.rel, hd, fun v F1 μ1 H1 dv e1 o1 w1 q1 => ?_⟩
  refine ⟨F1, ρ, μ1, _, R.rel.ext e1 o1, q1, fun u F2 μ2 H2 du e2 o2 w2 q2 => ?_⟩
  refine ⟨F2, ρ, μ2, _, R.rel.ext (e1.trans e2) o2, q2, fun z F3 μ3 H3 dz e3 o3 w3 q3 => ?_⟩
  obtain ⟨a, xs, n, j, rfl, rfl, hx, hj, q⟩ := q3
  cases w2
  obtain ⟨us, hus, ru⟩ := o3.sto _ _ hx
  have e13 := e1.trans (e2.trans e3)
  obtain ⟨g1, g2⟩ := o3.write hx (.lst (us.set j v)) (.lst (xs.set j dv)) ⟨_, upd_same, ru.set ((w1.mono e2.mono).mono e3.mono) j⟩
  exact ⟨a, us, n, j, rfl, w3.int, hus, by rw [ru.length]; exact hj, kn F3 ρ _ σ _ (e13.trans g2).mono (R.step (e13.trans g2) g1) q⟩
/-- o a name of a list of the frame's own -/
@[simp] def dPut (sl : Nat) (d i : TED) : TSD := fun E ρ μ => ∃ xs, ρ[sl]? = some (some (.own xs)) ∧ d ρ μ fun y μ1 => i ρ μ1 fun k μ2 => ∃ n j, k = .int n ∧ ixN xs.length n = some j ∧ E.nx (ρ.set sl (some (.own (xs.set j y)))) μ2
theorem ds_put {sl : Nat} {x : Str} {p' spos : Pos} (hv : PE X (.Name x p') (tVar sl)) (he : DE X e d) (hi : DW X i di)
    (ha : ∀ v, assign (.Subscript (.Name x p') i spos) X.env v = (do
      let ov ← holding [v] (eval (.Name x p') X.env)
      let iv ← holding [v, ov] (eval i X.env)
      standAt spos
      holding [v, ov, iv] (setItem ov iv v)
      release [v, ov, iv] []) := by intro _; rfl)
    (hs : swapsWithSole [.Subscript (.Name x p') i spos] e pos.line X.env = pure false := by rfl) (hw : swappedStores [.Subscript (.Name x p') i spos] e X.env = pure none := by rfl) (h1 : (assignEach [.Subscript (.Name x p') i spos] X.env).map (·.2) = [assign (.Subscript (.Name x p') i spos) X.env] := by rfl) :
    DSt X B (.Assign [.Subscript (.Name x p') i spos] e pos) (dPut sl d di) := (ps_asg he (pg_sub hv hi set_list ha) hs hw h1).weaken fun E σ H h => by
  obtain ⟨F, ρ, μ, Dd, R, ⟨xs, hx, hd⟩, kn, kb, kc, kr⟩ := h
  obtain ⟨q, vs, hs, hf, hm, hh, hds, hb⟩ := R.ownAt hx
  refine ⟨F, ρ, μ, _, R.rel, hd, fun v F1 μ1 H1 dv e1 o1 w1 q1 => ⟨.ref q, hs, ?_⟩⟩
  refine ⟨F1, ρ, μ1, _, R.rel.ext e1 o1, q1, fun z F3 μ3 H3 dz e3 o3 w3 q3 => ?_⟩
  obtain ⟨n, j, rfl, hj, hq⟩ := q3
  have e13 := e1.trans e3
  obtain ⟨h1, h2, h3⟩ := e13.keep q _ hh hm
  exact ⟨q, vs, n, j, rfl, w3.int, h1, by rw [hds.length]; exact hj, kn F3 _ μ3 σ _ e13.mono ((R.step e13 o3).writeOwn hx hs (h2.trans hf) h3 h1 hb ((hds.mono e13.mono).set (w1.mono e3.mono) j)) hq⟩
end
end DL

namespace DL
open PySem PySem.Spec PyProof.Rows L2
section
variable {X : Cx} {e : Expr} {d : TED} {t : TAD} {p pos : Pos}
@[simp] def dRev (d : TED) : TED := fun ρ μ Q => d ρ μ fun x μ1 => match x with
  | .str s => s.length ≤ SZ ∧ Q (.str s.reverse) μ1
  | _ => False
@[simp] def dRevL (d : TED) : TED := fun ρ μ Q => d ρ μ fun x μ1 => ∃ xs, lstOf μ1 x = some xs ∧ Q (.lst xs.reverse) μ1
end
end DL

namespace DL
open PySem PySem.Spec PyProof.Rows L2
theorem forD_inv {g : TGD} {body : TSD} {E : DEnds} {inv : Sto → Prop} (P : List D → DEnv → Sto → Prop) (hi : ∀ xs ρ μ, P xs ρ μ → inv μ)
    (step : ∀ x xs ρ μ (n : DEnv → Sto → Prop), P (x :: xs) ρ μ → (∀ ρ' μ', P xs ρ' μ' → n ρ' μ') → g x ρ fun ρ1 => body { E with nx := n, ct := n, bk := E.nx } ρ1 μ) (done : ∀ ρ μ, P [] ρ μ → E.nx ρ μ) :
    ∀ items ρ μ, P items ρ μ → forD g body E inv items ρ μ := by
  intro items
  induction items with
  | nil => intro ρ μ h; exact ⟨hi _ _ _ h, done ρ μ h⟩
  | cons x xs ih => intro ρ μ h; exact ⟨hi _ _ _ h, step x xs ρ μ _ h ih⟩
/-- over a range from 0 -/
theorem forD_rng {g : TGD} {body : TSD} {E : DEnds} {n : Nat} (P : Nat → DEnv → Sto → Prop)
    (step : ∀ (i : Nat) ρ μ (k : DEnv → Sto → Prop), i < n → P i ρ μ → (∀ ρ' μ', P (i + 1) ρ' μ' → k ρ' μ') → g (.int i) ρ fun ρ1 => body { E with nx := k, ct := k, bk := E.nx } ρ1 μ) (done : ∀ ρ μ, P n ρ μ → E.nx ρ μ)
    {ρ : DEnv} {μ : Sto} (h0 : P 0 ρ μ) : forD g body E still (rngD 0 n) ρ μ := by
  refine forD_inv (fun xs ρ μ => ∃ i, i ≤ n ∧ xs = (rngD 0 n).drop i ∧ P i ρ μ) (fun _ _ _ _ => trivial) ?_ ?_ _ _ _ ⟨0, Nat.zero_le _, rfl, h0⟩
  · rintro x xs ρ μ k ⟨i, hi, e, hP⟩ hk
    have hl : (rngD 0 n).length = n := by simp [rngD]
    have hlt : i < n := by
      apply Decidable.byContradiction
      intro hc
      rw [List.drop_eq_nil_of_le (by omega)] at e
      cases e
    have hd := List.drop_eq_getElem_cons (l := rngD 0 n) (i := i) (by omega)
    rw [← e] at hd
    have hx : x = .int i := by
      rw [(List.cons.inj hd).1]
      simp [rngD]
    subst hx
    exact step i ρ μ k hlt hP fun ρ' μ' h => hk ρ' μ' ⟨i + 1, hlt, (List.cons.inj hd).2, h⟩
  · rintro ρ μ ⟨i, hi, e, hP⟩
    have hl : (rngD 0 n).length = n := by simp [rngD]
    have : i = n := by
      apply Decidable.byContradiction
      intro hc
      have hd := List.drop_eq_getElem_cons (l := rngD 0 n) (i := i) (by omega)
      rw [← e] at hd
      cases hd
    subst this
    exact done ρ μ hP
theorem dWhile_inv {c : TTD} {body : TSD} {E : DEnds} (P : Nat → DEnv → Sto → Prop)
    (step : ∀ m ρ μ (n : DEnv → Sto → Prop), P m ρ μ → (∀ m', m' < m → ∀ ρ' μ', P m' ρ' μ' → n ρ' μ') → c ρ μ fun b μ1 => if b = true then ∃ N : DEnv → Sto → Prop, (∀ ρ' μ', N ρ' μ' → ∃ m', m' < m ∧ P m' ρ' μ') ∧ body { E with nx := N, ct := N, bk := E.nx } ρ μ1 else E.nx ρ μ1)
    {ρ : DEnv} {μ : Sto} (m : Nat) (h : P m ρ μ) : dWhile c body E ρ μ := ⟨P, ⟨m, h⟩, fun m ρ μ hp => step m ρ μ (fun _ _ => True) hp fun _ _ _ _ _ => trivial⟩
theorem lcD_inv {vs : List Nat} {g : TGD} {c : TTD} {el : TED} {ρ : DEnv} {inv : Sto → Prop} {Q : List D → Sto → Prop} (P : List D → List D → Sto → Prop) (hi : ∀ xs acc μ, P xs acc μ → inv μ)
    (step : ∀ x xs acc μ (n : List D → Sto → Prop), P (x :: xs) acc μ → (∀ acc' μ', P xs acc' μ' → n acc' μ') → g x (wipeD ρ vs) fun ρ1 => c ρ1 μ fun b μ1 => if b = true then el ρ1 μ1 fun y μ2 => acc.length < SZ ∧ n (acc ++ [y]) μ2 else n acc μ1)
    (done : ∀ acc μ, P [] acc μ → Q acc μ) : ∀ items acc μ, P items acc μ → lcD vs g c el ρ inv Q items acc μ := by
  intro items
  induction items with
  | nil => intro acc μ h; exact ⟨hi _ _ _ h, done acc μ h⟩
  | cons x xs ih => intro acc μ h; exact ⟨hi _ _ _ h, step x xs acc μ (fun a m => lcD vs g c el ρ inv Q xs a m) h ih⟩
end DL

namespace DL
open PySem PySem.Spec PyProof.Rows L2
mutual
/-- data of which repr and == speak -/
def D.ic : D → Prop
  | .non => True
  | .bl _ => True
  | .int i => i.natAbs < 2 ^ 300
  | .str s => ∀ c ∈ s, c < 1114112
  | .tup xs => D.ics xs
  | .lst xs => D.ics xs
  | .dct _ => False | .scr _ => False | .ref _ => False | .ty _ => False | .gl _ => False | .pr _ _ => False | .obj _ _ => False | .exn _ _ => False
def D.ics : List D → Prop
  | [] => True
  | x :: xs => x.ic ∧ D.ics xs
end
mutual
def D.wt : D → Nat
  | .int _ => 300
  | .str s => s.length
  | .tup xs => D.wts xs
  | .lst xs => D.wts xs
  | .non => 0 | .bl _ => 0 | .dct _ => 0 | .scr _ => 0 | .ref _ => 0 | .ty _ => 0 | .gl _ => 0 | .pr _ _ => 0 | .obj _ _ => 0 | .exn _ _ => 0
def D.wts : List D → Nat
  | [] => 0
  | x :: xs => x.wt + 1 + D.wts xs
end
mutual
def D.dp : D → Nat
  | .tup xs => D.dps xs + 1
  | .lst xs => D.dps xs + 1
  | .int _ => 0 | .str _ => 0 | .non => 0 | .bl _ => 0 | .dct _ => 0 | .scr _ => 0 | .ref _ => 0 | .ty _ => 0 | .gl _ => 0 | .pr _ _ => 0 | .obj _ _ => 0 | .exn _ _ => 0
def D.dps : List D → Nat
  | [] => 0
  | x :: xs => max x.dp (D.dps xs)
end
theorem log_lt {n k : Nat} (hk : 0 < k) (h : n < 2 ^ k) : n.log2 < k := by
  by_cases h0 : n = 0
  · subst h0; simpa using hk
  · exact (Nat.log2_lt h0).mpr h
theorem S_all {s : List Nat} (h : ∀ c ∈ s, c < 1114112) : (S s).cps.all (· < 0x110000) = true := by
  show s.toArray.all _ = true
  rw [List.all_toArray, List.all_eq_true]
  intro c hc
  simpa using h c hc
mutual
theorem D.ic_all : ∀ d : D, d.ic → d.shows = true ∧ d.py.canLay0 = true ∧ d.py.intsShort 302 = true ∧ d.py.weight ≤ d.wt ∧ d.py.depth = d.dp
  | .non, _ => ⟨rfl, rfl, rfl, Nat.le_refl _, rfl⟩
  | .bl _, _ => ⟨rfl, rfl, rfl, Nat.le_refl _, rfl⟩
  | .int i, h => by
    have hl := log_lt (by decide) h
    refine ⟨?_, rfl, ?_, ?_, rfl⟩
    · show decide _ = true
      simp only [decide_eq_true_eq]
      omega
    · show decide _ = true
      simp only [decide_eq_true_eq]
      have := int_text_length_le (a := i) (k := 300) (by decide) hl
      have e : (PyData.shown (.int i)).length = (toString i).length := by
        show (Str.ofString (toString i)).length = _
        rw [PySem.ofString_length]
      rw [e]
      omega
    · show (if i == 0 then 0 else _) ≤ 300
      split <;> omega
  | .str s, h => by
    refine ⟨rfl, S_all h, rfl, ?_, rfl⟩
    show s.toArray.size ≤ s.length
    simp
  | .tup xs, h => by
    obtain ⟨a, b, c, e, f⟩ := D.ics_all xs h
    exact ⟨a, b, c, e, by show _ + 1 = _ + 1; rw [f]⟩
  | .lst xs, h => by
    obtain ⟨a, b, c, e, f⟩ := D.ics_all xs h
    exact ⟨a, b, c, e, by show _ + 1 = _ + 1; rw [f]⟩
  | .dct _, h => h.elim
  | .scr _, h => h.elim
  | .ref _, h => h.elim
  | .ty _, h => h.elim
  | .gl _, h => h.elim
  | .pr _ _, h => h.elim
  | .obj _ _, h => h.elim
  | .exn _ _, h => h.elim
theorem D.ics_all : ∀ ds : List D, D.ics ds → D.showsAll ds = true ∧ PyData.canLayAll0 (D.pys ds) = true ∧ PyData.intsShortAll 302 (D.pys ds) = true ∧ PyData.weightAll (D.pys ds) ≤ D.wts ds ∧ PyData.depthAll (D.pys ds) = D.dps ds
  | [], _ => ⟨rfl, rfl, rfl, Nat.le_refl _, rfl⟩
  | x :: xs, h => by
    obtain ⟨a, b, c, e, f⟩ := D.ic_all x h.1
    obtain ⟨a', b', c', e', f'⟩ := D.ics_all xs h.2
    refine ⟨?_, ?_, ?_, ?_, ?_⟩
    · show (x.shows && D.showsAll xs) = true
      rw [a, a']; rfl
    · show (x.py.canLay0 && PyData.canLayAll0 (D.pys xs)) = true
      rw [b, b']; rfl
    · show (x.py.intsShort 302 && PyData.intsShortAll 302 (D.pys xs)) = true
      rw [c, c']; rfl
    · show x.py.weight + 1 + PyData.weightAll (D.pys xs) ≤ x.wt + 1 + D.wts xs
      omega
    · show max x.py.depth (PyData.depthAll (D.pys xs)) = max x.dp (D.dps xs)
      rw [f, f']
end
theorem okEq_of {x y : D} (hx : x.ic) (hy : y.ic) (dx : x.dp ≤ 50) (dy : y.dp ≤ 50) : okEq x y := by
  have sh : ∀ d : D, d.ic → d.dp ≤ 50 → d.flat = true ∧ SeqAt.shaped d.py = true := fun d h hd => by
    obtain ⟨a, b, c, e, f⟩ := D.ic_all d h
    refine ⟨(D.shows_flat d a).1, ?_⟩
    unfold SeqAt.shaped
    rw [b]
    simp only [Bool.true_and, decide_eq_true_eq]
    omega
  exact .inr ⟨(sh x hx dx).1, (sh y hy dy).1, (sh x hx dx).2, (sh y hy dy).2⟩
@[simp] theorem okEq_int (i j : Int) : okEq (.int i) (.int j) := .inl rfl
@[simp] theorem okEq_str (s t : List Nat) : okEq (.str s) (.str t) := .inl rfl
@[simp] theorem okEq_bl (a b : Bool) : okEq (.bl a) (.bl b) := okEq_of trivial trivial (Nat.zero_le _) (Nat.zero_le _)
@[simp] theorem eqv_int (i j : Int) : D.eqv (.int i) (.int j) = decide (i = j) := by
  show (i == j) = _
  by_cases h : i = j <;> simp [h]
@[simp] theorem eqv_str (s t : List Nat) : D.eqv (.str s) (.str t) = decide (s = t) := by
  show (S s == S t) = _
  by_cases h : s = t
  · simp [h]
  · have : S s ≠ S t := fun e => h (S_inj.mp e)
    simp [h, this]
@[simp] theorem eqv_bl (a b : Bool) : D.eqv (.bl a) (.bl b) = (a == b) := rfl
@[simp] theorem eqv_non : D.eqv .non .non = true := rfl
def D.eqvs : List D → List D → Bool
  | [], [] => true
  | x :: xs, y :: ys => D.eqv x y && D.eqvs xs ys
  | _, _ => false
theorem eqvs_py : ∀ xs ys : List D, PyData.eqvAll (D.pys xs) (D.pys ys) = D.eqvs xs ys
  | [], [] => rfl
  | x :: xs, [] => rfl
  | [], y :: ys => rfl
  | x :: xs, y :: ys => by
    show (PyData.eqv x.py y.py && PyData.eqvAll (D.pys xs) (D.pys ys)) = _
    rw [eqvs_py xs ys]; rfl
@[simp] theorem eqv_lst (xs ys : List D) : D.eqv (.lst xs) (.lst ys) = D.eqvs xs ys := eqvs_py xs ys
@[simp] theorem eqv_tup (xs ys : List D) : D.eqv (.tup xs) (.tup ys) = D.eqvs xs ys := eqvs_py xs ys
@[simp] theorem eqvs_nil : D.eqvs [] [] = true := rfl
@[simp] theorem eqvs_cons (x y : D) (xs ys : List D) : D.eqvs (x :: xs) (y :: ys) = (D.eqv x y && D.eqvs xs ys) := rfl
theorem eqvs_nil_r (xs : List D) : D.eqvs xs [] = decide (xs = []) := by cases xs <;> rfl
abbrev nats (l : List Nat) : List D := l.map fun (n : Nat) => D.int n
theorem ints_flat : ∀ l : List Int, D.flats (l.map D.int) = true ∧ PyData.canLayAll0 (D.pys (l.map D.int)) = true ∧ PyData.depthAll (D.pys (l.map D.int)) = 0
  | [] => ⟨rfl, rfl, rfl⟩
  | x :: l => by
    obtain ⟨a, b, c⟩ := ints_flat l
    refine ⟨a, b, ?_⟩
    show max 0 (PyData.depthAll (D.pys (l.map D.int))) = 0
    rw [c]; rfl
/-- lists of whole numbers of any size may be compared -/
theorem okEq_ints (l r : List Int) : okEq (.lst (l.map D.int)) (.lst (r.map D.int)) := by
  have sh : ∀ l : List Int, SeqAt.shaped (D.lst (l.map D.int)).py = true := fun l => by
    obtain ⟨a, b, c⟩ := ints_flat l
    show (PyData.canLayAll0 (D.pys (l.map D.int)) && decide (PyData.depthAll (D.pys (l.map D.int)) + 1 ≤ 64)) = true
    rw [b, c]; rfl
  exact .inr ⟨(ints_flat l).1, (ints_flat r).1, sh l, sh r⟩
@[simp] theorem ixN_nat {n i : Nat} (h : i < n) : ixN n (i : Int) = some i := by
  unfold ixN
  rw [if_pos (by omega), if_pos (by omega)]
  rfl
theorem atI_nat {α : Type} (xs : List α) (i : Nat) : atI xs (i : Int) = xs[i]? := by
  unfold L2.atI
  by_cases h : i < xs.length
  · rw [ixN_nat h]; rfl
  · have : ixN xs.length (i : Int) = none := by
      unfold ixN
      rw [if_pos (by omega), if_neg (by omega)]
    rw [this, List.getElem?_eq_none (by omega)]
    rfl
theorem atI_of {α : Type} {xs : List α} {i : Int} (h0 : 0 ≤ i) (h1 : i < xs.length) : ∃ x, atI xs i = some x ∧ x ∈ xs := by
  obtain ⟨n, rfl⟩ := Int.eq_ofNat_of_zero_le h0
  rw [atI_nat]
  have hn : n < xs.length := by omega
  exact ⟨xs[n], List.getElem?_eq_getElem hn, List.getElem_mem hn⟩
@[simp] theorem atI_0 {α : Type} (x : α) (xs : List α) : atI (x :: xs) 0 = some x := atI_nat (x :: xs) 0
@[simp] theorem atI_1 {α : Type} (x y : α) (xs : List α) : atI (x :: y :: xs) 1 = some y := atI_nat (x :: y :: xs) 1
@[simp] theorem atI_2 {α : Type} (x y z : α) (xs : List α) : atI (x :: y :: z :: xs) 2 = some z := atI_nat (x :: y :: z :: xs) 2
@[simp] theorem ixN_0 (n : Nat) : ixN (n + 1) 0 = some 0 := ixN_nat (n := n + 1) (i := 0) (by omega)
@[simp] theorem ixN_1 (n : Nat) : ixN (n + 2) 1 = some 1 := ixN_nat (n := n + 2) (i := 1) (by omega)
@[simp] theorem ixN_2 (n : Nat) : ixN (n + 3) 2 = some 2 := ixN_nat (n := n + 3) (i := 2) (by omega)
theorem cut_take {α : Type} (l : List α) (n : Nat) : cut l none (some (n : Int)) = l.take n := by
  unfold cut
  rw [HT.sIx_nat, HT.sIx_none, List.drop_zero, Nat.sub_zero]
  by_cases h : n ≤ l.length
  · rw [Nat.min_eq_left h]
  · rw [Nat.min_eq_right (by omega), List.take_of_length_le (Nat.le_refl _), List.take_of_length_le (by omega)]
theorem cut_drop {α : Type} (l : List α) (n : Nat) : cut l (some (n : Int)) none = l.drop n := by
  unfold cut
  rw [HT.sIx_nat, HT.sIx_none]
  by_cases h : n ≤ l.length
  · rw [Nat.min_eq_left h, List.take_of_length_le (by simp)]
  · rw [Nat.min_eq_right (by omega), List.drop_eq_nil_of_le (by omega), List.drop_eq_nil_of_le (by omega)]
    simp
end DL

namespace DL
open PySem PySem.Spec PyProof.Rows L2
abbrev typs : List String := ["NoneType", "bool", "int", "str", "list", "tuple", "dict"]
def isiB (t T : String) : Bool := decide (t = T) || (decide (t = "bool") && decide (T = "int"))
theorem isi_kit : ∀ t ∈ typs, ∀ T ∈ typs, kitB t T = some (isiB t T) := by decide +kernel
@[simp] def isiD : D → String → Bool
  | .non, T => decide (T = "NoneType")
  | .bl _, T => decide (T = "bool") || decide (T = "int")
  | .int _, T => decide (T = "int")
  | .str _, T => decide (T = "str")
  | .tup _, T => decide (T = "tuple")
  | .lst _, T => decide (T = "list")
  | .scr _, T => decide (T = "list")
  | .dct _, T => decide (T = "dict")
  | _, _ => false
@[simp] def isiOk : D → Bool
  | .non | .bl _ | .int _ | .str _ | .tup _ | .lst _ | .scr _ | .dct _ => true
  | _ => false
def rdIsi : RDn
  | [d, .ty T], μ, Q => isiOk d = true ∧ T ∈ typs ∧ Q (.bl (isiD d T)) μ
  | _, _, _ => False
@[simp] theorem rdIsi_1 : rdIsi  [d0, .ty T0] μ0 Q0 = (isiOk d0 = true ∧ T0 ∈ typs ∧ Q0 (.bl (isiD d0 T0)) μ0) := rfl
section
variable {K : PySem.W.Frag} {mg : Str → Option Value} {F H : Hp} {μ : Sto}
theorem sqT_tyx {a : Addr} {vs : List V} (h : SqT K H a vs) : TyX K H (.ref a) (.type "tuple") := by
  rcases h with (h | ⟨o, h⟩) | ⟨o, z, n, h1, h2, _⟩
  · exact .base (.tup h)
  · exact .fTuple h
  · exact .kTuple h1 h2
theorem sqL_tyx {a : Addr} {vs : List V} (h : SqL K H a vs) : TyX K H (.ref a) (.type "list") := by
  rcases h with (h | ⟨o, h⟩) | ⟨o, z, n, h1, h2, _⟩
  · exact .base (.lst h)
  · exact .base (.frz h)
  · exact .kList h1 h2
theorem cs_isi : CallS K mg (rIsi K) rdIsi := by
  intro F μ H vs ds Qd Q o w h k
  unfold rdIsi at h
  split at h
  · rename_i d T
    obtain ⟨u, v, rfl, wk, wt⟩ := w.two
    obtain ⟨h1, h2, q⟩ := h
    have ev : v = .ty T := by
      rcases wt with wt | ⟨a, vs, xs, _, e, _⟩
      · cases wt; rfl
      · cases e
    subst ev
    have fin : ∀ (t : String), t ∈ typs → TyX K H u (.type t) → isiD d T = isiB t T → _ := fun t ht tx e => (⟨u, .ty T, .type t, .type T, isiB t T, rfl, .ty T, tx, kit_ty (isi_kit t ht T h2), fin0 o k (.bl _) (e ▸ q)⟩ : rIsi K [u, .ty T] H Q)
    cases d <;> first | exact (Bool.false_ne_true h1).elim | skip
    · cases wk.non; exact fin "NoneType" (by decide) (.base .non) (by simp [isiB, eq_comm])
    · cases wk.bl; exact fin "bool" (by decide) (.base (.bl _)) (by simp [isiB, eq_comm])
    · cases wk.int; exact fin "int" (by decide) (.base (.int _)) (by simp [isiB, eq_comm])
    · cases wk.str; exact fin "str" (by decide) (.base (.str _)) (by simp [isiB, eq_comm])
    · obtain ⟨a, vs, rfl, ha, _⟩ := wk.tup o; exact fin "tuple" (by decide) (sqT_tyx ha) (by simp [isiB, eq_comm])
    · obtain ⟨a, vs, rfl, ha, _⟩ := wk.lst o; exact fin "list" (by decide) (.base (.lst ha)) (by simp [isiB, eq_comm])
    · obtain ⟨a, vs, rfl, ha, _⟩ := wk.dct o; exact fin "dict" (by decide) (.base (.dK ha)) (by simp [isiB, eq_comm])
    · obtain ⟨a, rfl, ha⟩ := wk.scr o; exact fin "list" (by decide) (sqL_tyx ha) (by simp [isiB, eq_comm])
  · exact h.elim
end
section
variable {X : Cx} {x : Str} {T : String} {pos p : Pos} {e e2 : Expr} {t : TAD}
/-- the name of a built-in type -/
theorem de_tyN (hg : Gl X x) (hm : X.mg x = none) (hv : bootBuiltins x = some (.type T)) (hn : x ≠ "__name__" := by decide) (hd : (x == ("__debug__" : Str)) = false := by decide) : DE X (.Name x pos) (dC (.ty T)) :=
  de_c (pe_bltn (v := .ty T) hg hm hv rfl hn hd) fun _ => .ty T
def zipD (xs ys : List D) : List D := (xs.zip ys).map fun p => .pr p.1 p.2
@[simp] def dZip (t : TAD) : TSrc := fun ρ μ Q => t ρ μ fun xs μ1 => match xs with
  | [.tup xs, .tup ys] => Q (zipD xs ys) still μ1
  | [.lst xs, .lst ys] => Q (zipD xs ys) still μ1
  | _ => False
@[simp] def dNever : TSD := fun _ _ _ => False
end
section
variable {K : PySem.W.Frag} {mg : Str → Option Value}
def rdIsB : RD2
  | .bl a, .bl b, μ, Q => Q (.bl (decide (a = b))) μ
  | _, _, _, _ => False
@[simp] theorem rdIsB_1 : rdIsB  (.bl a0) (.bl b0) μ0 Q0 = (Q0 (.bl (decide (a0 = b0))) μ0) := rfl
def rdNotB : RD2
  | .bl a, .bl b, μ, Q => Q (.bl (!decide (a = b))) μ
  | _, _, _, _ => False
@[simp] theorem rdNotB_1 : rdNotB  (.bl a0) (.bl b0) μ0 Q0 = (Q0 (.bl (!decide (a0 = b0))) μ0) := rfl
end
section
variable {X : Cx} {B : Bs} {pos : Pos}
/-- x, y, z = a, b, c: values -/
@[simp] def dPar3 (i j l : Nat) (t : TAD) : TSD := fun E ρ μ => t ρ μ fun xs μ1 => match xs with
  | [x, y, z] => E.nx (((ρ.set i (some (.val x))).set j (some (.val y))).set l (some (.val z))) μ1
  | _ => False
theorem ds_par3 {i j l : Nat} {x y z : Str} {a b c : Expr} {t : TAD} {px py pz pt : Pos} {kt k2 pt2}
    (h : ∀ ta, PA X [a, b, c] ta → PS X (.Assign [.Tuple [.Name x px, .Name y py, .Name z pz] kt pt] (.Tuple [a, b, c] k2 pt2) pos) (tPar3 i j l ta)) (ht : DA X [a, b, c] t) :
    DSt X B (.Assign [.Tuple [.Name x px, .Name y py, .Name z pz] kt pt] (.Tuple [a, b, c] k2 pt2) pos) (dPar3 i j l t) := (h _ ht).weaken fun E σ H h => by
  obtain ⟨F, ρ, μ, Dd, R, hd, kn, kb, kc, kr⟩ := h
  refine ⟨F, ρ, μ, _, R.rel, hd, fun vs F1 μ1 H1 ds e1 o1 w1 q1 => ?_⟩
  split at q1
  · cases w1 with
    | cons a1 w1 =>
      cases w1 with
      | cons a2 w1 =>
        cases w1 with
        | cons a3 w1 =>
          cases w1
          exact ⟨_, _, _, rfl, kn F1 _ μ1 _ H1 e1.mono ((((R.step e1 o1).set a1).set a2).set a3) q1⟩
  · exact q1.elim
end
end DL

namespace DL
open PySem PySem.Spec PyProof.Rows L2
/-- enumerate of a text -/
@[simp] def dEnumS (t : TAD) : TSrc := fun ρ μ Q => t ρ μ fun xs μ1 => match xs with
  | [.str s] => Q (enumD 0 (strD s)) still μ1
  | _ => False
section
variable {K : PySem.W.Frag} {mg : Str → Option Value}
def rdNeR : RD2
  | .ref a, .lst ys, μ, Q => ∃ xs, μ a = some (.lst xs) ∧ okEq (.lst xs) (.lst ys) ∧ Q (.bl (!D.eqv (.lst xs) (.lst ys))) μ
  | _, _, _, _ => False
@[simp] theorem rdNeR_1 : rdNeR  (.ref a0) (.lst ys0) μ0 Q0 = (∃ xs, μ0 a0 = some (.lst xs) ∧ okEq (.lst xs) (.lst ys0) ∧ Q0 (.bl (!D.eqv (.lst xs) (.lst ys0))) μ0) := rfl
theorem ops_neR : OpS K mg (r2Or (rNeD K) rNe) rdNeR := by
  intro F μ H x y dx dy Qd Q o wx wy h k
  cases dx <;> first | exact h.elim | skip
  cases dy <;> first | exact h.elim | skip
  rename_i a ys
  obtain ⟨xs, hx, ok, q⟩ := h
  cases wx.ref
  obtain ⟨vs, ha, ra⟩ := o.sto _ _ hx
  rcases ok with ok | ⟨f1, f2, s1, s2⟩
  · exact (Bool.false_ne_true ok).elim
  · exact .inl ⟨_, _, .lst (.inl (.inl ha)) (Dts.dp o.sub ra f1), wy.dp o f2, s1, s2, fin0 o k (.bl _) q⟩
end
end DL

namespace DL
open PySem PySem.Spec PyProof.Rows L2
theorem Dts.split {K : PySem.W.Frag} {mg : Str → Option Value} {F : Hp} {vs : List V} {ds : List D} (n : Nat) (r : Dts K mg F vs ds) : vs = vs.take n ++ vs.drop n ∧ Dts K mg F (vs.take n) (ds.take n) ∧ Dts K mg F (vs.drop n) (ds.drop n) := ⟨(List.take_append_drop n vs).symm, r.take n, r.drop n⟩
section
variable {P : Program} {w : World} {K : PySem.W.Frag} {mg : Str → Option Value} {base : Heap} {k : Nat} {f : Addr} {ps : List Str} {S : DSp}
end
/-- each item gives one, nothing changes -/
theorem lcD_list {α : Type} {vs : List Nat} {g : TGD} {el : TED} {ρ : DEnv} {Q : List D → Sto → Prop} {μ : Sto} {inv : Sto → Prop} (l : List α) (i r : α → D) (hi : inv μ) (hl : l.length ≤ SZ)
    (step : ∀ a ∈ l, ∀ k : D → Sto → Prop, k (r a) μ → g (i a) (wipeD ρ vs) fun ρ1 => el ρ1 μ k) (done : Q (l.map r) μ) : lcD vs g dYes el ρ inv Q (l.map i) [] μ := by
  refine lcD_inv (fun xs acc μ' => μ' = μ ∧ ∃ pre post, l = pre ++ post ∧ xs = post.map i ∧ acc = pre.map r) (fun _ _ _ h => h.1 ▸ hi) ?_ ?_ (l.map i) [] μ ⟨rfl, [], l, rfl, rfl, rfl⟩
  · rintro x xs acc μ' n ⟨rfl, pre, post, e, hx, rfl⟩ hn
    cases post with
    | nil => cases hx
    | cons a post =>
      rw [List.map_cons] at hx
      cases hx
      have := step a (by rw [e]; simp) (fun y m => (pre.map r).length < SZ ∧ n (pre.map r ++ [y]) m) ⟨by rw [e] at hl; simp at hl ⊢; omega, hn _ _ ⟨rfl, pre ++ [a], post, by simp [e], rfl, by simp⟩⟩
      simpa using this
  · rintro acc μ' ⟨rfl, pre, post, e, hx, rfl⟩
    cases post with
    | nil => rw [List.append_nil] at e; subst e; exact done
    | cons a post => cases hx
/-- each item that fits gives one, nothing changes -/
theorem lcD_listF {α : Type} {vs : List Nat} {g : TGD} {c : TTD} {el : TED} {ρ : DEnv} {Q : List D → Sto → Prop} {μ : Sto} {inv : Sto → Prop} (l : List α) (p : α → Bool) (i r : α → D) (hi : inv μ) (hl : l.length ≤ SZ)
    (step : ∀ a ∈ l, ∀ (k : D → Sto → Prop) (n : Sto → Prop), (p a = true → k (r a) μ) → (p a = false → n μ) → g (i a) (wipeD ρ vs) fun ρ1 => c ρ1 μ fun b μ1 => if b = true then el ρ1 μ1 k else n μ1)
    (done : Q ((l.filter p).map r) μ) : lcD vs g c el ρ inv Q (l.map i) [] μ := by
  refine lcD_inv (fun xs acc μ' => μ' = μ ∧ ∃ pre post, l = pre ++ post ∧ xs = post.map i ∧ acc = (pre.filter p).map r) (fun _ _ _ h => h.1 ▸ hi) ?_ ?_ (l.map i) [] μ ⟨rfl, [], l, rfl, rfl, rfl⟩
  · rintro x xs acc μ' n ⟨rfl, pre, post, e, hx, rfl⟩ hn
    cases post with
    | nil => cases hx
    | cons a post =>
      rw [List.map_cons] at hx
      cases hx
      refine step a (by rw [e]; simp) _ (fun m => n _ m) (fun hp => ⟨?_, hn _ _ ⟨rfl, pre ++ [a], post, by simp [e], rfl, by simp [hp]⟩⟩) fun hp => hn _ _ ⟨rfl, pre ++ [a], post, by simp [e], rfl, by simp [hp]⟩
      have := List.length_filter_le p pre
      rw [e] at hl
      simp at hl ⊢
      omega
  · rintro acc μ' ⟨rfl, pre, post, e, hx, rfl⟩
    cases post with
    | nil => rw [List.append_nil] at e; subst e; exact done
    | cons a post => cases hx
/-- a loop over a list of anything -/
theorem forD_list {α : Type} {g : TGD} {body : TSD} {E : DEnds} {inv : Sto → Prop} (i : α → D) (P : List α → DEnv → Sto → Prop) (hi : ∀ l ρ μ, P l ρ μ → inv μ)
    (step : ∀ a l ρ μ (n : DEnv → Sto → Prop), P (a :: l) ρ μ → (∀ ρ' μ', P l ρ' μ' → n ρ' μ') → g (i a) ρ fun ρ1 => body { E with nx := n, ct := n, bk := E.nx } ρ1 μ)
    (done : ∀ ρ μ, P [] ρ μ → E.nx ρ μ) : ∀ (l : List α) ρ μ, P l ρ μ → forD g body E inv (l.map i) ρ μ := by
  intro l
  induction l with
  | nil => intro ρ μ h; exact ⟨hi _ _ _ h, done ρ μ h⟩
  | cons a l ih => intro ρ μ h; exact ⟨hi _ _ _ h, step a l ρ μ _ h ih⟩
end DL

namespace DL
open PySem PySem.Spec PyProof.Rows L2
theorem meets_enum1 {v : Value} {o : Obj} {Hh : Heap → Prop} (B : Begins v o Hh) :
    Meets (Builtin.«enumerate.__new__» ⟨[.type "enumerate", v], []⟩) (fun _ R s => Hh s.heap ∧
      R (.ok (.ret (.ref (s.heap.push o).objs.size))) { s with heap := (s.heap.push o).push { cls := .type "enumerate", data := .fields #[.none, .bool false, .ref s.heap.objs.size, rawInt 0, .none, .none] } }) :=
  .of_wp fun prog w A R s hh => by
    obtain ⟨hp, g, d, tk, os⟩ := s
    obtain ⟨h1, hh⟩ := hh
    have subE := sub_enumerate
    have beg : ∀ {A' : Around} {E : Value → Shared → Prop} {Q : Value → Shared → Prop}, Q (.ref hp.objs.size) ⟨hp.push o, g, d, tk, os⟩ → wpAny (model prog w) A' (pyIter v) Q E ⟨hp, g, d, tk, os⟩ := fun q => B.iter prog w _ _ ⟨hp, g, d, tk, os⟩ _ h1 q
    wp_walk using beg
    refine wpAny_stack_any fun st => wpAny_pure ?_
    split
    · rename_i c _ _ _ _ _
      cases (c == Value.type "enumerate") <;> (wp_walk using beg; exact ⟨_, rfl, hh⟩)
    · wp_walk using beg; exact ⟨_, rfl, hh⟩
theorem call_enum1 {prog : Program} {w : World} {A : Around} {E : Value → Shared → Prop} {s : Shared} {v : Value} {o : Obj} {Hh : Heap → Prop} {Q : Value → Shared → Prop} (B : Begins v o Hh) (h1 : Hh s.heap)
    (h : ∀ h', IsEnum h' (s.heap.objs.size + 1) s.heap.objs.size 0 .none → h'.get? s.heap.objs.size = some o → h'.objs.size = s.heap.objs.size + 2 →
      (∀ b o, s.heap.get? b = some o → h'.get? b = some o) → Q (.ref (s.heap.objs.size + 1)) { s with heap := h' }) : wpAny (model prog w) A (call (.type "enumerate") [v]) Q E s := by
  refine callType_new F.called_enumerate (by decide) (F.typeCall_enumerate_1 _) (F.newCall_enumerate_1 _) (fun obj => F.args_object_init_2 obj _) F.entry_enumerate_new (meets_enum1 B) ⟨h1, ?_⟩
  have z1 : (s.heap.push o).objs.size = s.heap.objs.size + 1 := Heap.size_push ..
  show _ ∧ _
  rw [z1]
  have en : IsEnum ((s.heap.push o).push { cls := .type "enumerate", data := .fields #[.none, .bool false, .ref s.heap.objs.size, rawInt 0, .none, .none] }) (s.heap.objs.size + 1) s.heap.objs.size 0 .none := by
    have z2 := Heap.get?_push_size (s.heap.push o) (o := { cls := .type "enumerate", data := .fields #[.none, .bool false, .ref s.heap.objs.size, rawInt 0, .none, .none] }) rfl
    rw [z1] at z2
    exact z2
  exact ⟨⟨_, en, rfl⟩, h _ en (Heap.get?_push_of_some _ (Heap.get?_push_size _ B.free)) (by rw [Heap.size_push, z1]) fun b o x => Heap.get?_push_of_some _ (Heap.get?_push_of_some _ x)⟩
/-- the tuple at a, each item in a new pair -/
def IteT (K : PySem.W.Frag) (a : Addr) : It :=
  ⟨fun i H => ∃ (xs : List V) (x : V), SqT K H a xs ∧ xs[i]? = some x, fun i H v H' => ∃ T x, v = .ref T ∧ H T = none ∧ H' = upd H T (.tup [.int (i : Nat), x]) ∧ ∀ xs, SqT K H a xs → xs[i]? = some x, fun i H => ∃ xs : List V, SqT K H a xs ∧ xs.length = i⟩
theorem turn_enumT {P : Program} {w : World} {K : PySem.W.Frag} {elts : List Expr} {kk : Nat} {tpos : Pos} (a e it : Addr) :
    Turn P w K (.Tuple elts kk tpos) (IteT K a) [e, it] e (fun i h => (∃ old, IsEnum h e it ((i : Nat) : Int) old) ∧ h.IsTupleIter it a i ∧ e ≠ it ∧ a ≠ e ∧ a ≠ it) where
  mem := by simp
  obj := fun i h st b hb => by
    obtain ⟨⟨old, he⟩, ⟨o, ho, hc, hd⟩, _⟩ := st
    have e' : b = e ∨ b = it := by simpa using hb
    rcases e' with rfl | rfl
    · exact ⟨_, he, fun v q => nomatch q⟩
    · exact ⟨o, ho, fun v q => by rw [hd] at q; cases q⟩
  keep := fun i h h' st k => let ⟨⟨old, he⟩, hi, hne⟩ := st; ⟨⟨old, k e (by simp) _ he⟩, hi.at fun o q => k it (by simp) o q, hne⟩
  item := by
    intro X hP hw hK hc i pins s σ H E I hf st hg
    subst hP hw hK
    obtain ⟨⟨old, he⟩, hit, hne, hae, hai⟩ := st
    obtain ⟨xs, x, hq, hx⟩ := hg
    obtain ⟨its, rv, p, hz⟩ := I.tuple hq
    obtain ⟨u, hu, ru⟩ := rv.get hx
    have hel : e < s.heap.objs.size := Heap.lt_size he
    have hil : it < s.heap.objs.size := by obtain ⟨_, q, _⟩ := hit; exact Heap.lt_size q
    have Dr := Draws.tuple (prog := X.prog) (w := X.w) (A := X.A.in1) (show X.A.in1.handled = none from I.ok.hd hc) it a hai its.toArray
    have hlt : i < its.toArray.size := by
      have := (List.getElem?_eq_some_iff.mp hu).1
      rw [List.size_toArray]; exact this
    refine wpAny_pyNext_enum_itemD Dr he ⟨hit, p⟩ hlt hne (by simp [hne, hae.symm]) fun u' h' tk hu' ho hst' hT hsz hk => ?_
    have : u' = u := by
      have h1 : its.toArray[i]? = some u' := hu'
      rw [List.getElem?_toArray, hu] at h1
      exact (Option.some.inj h1).symm
    subst this
    obtain ⟨hit', _⟩ := hst'
    refine ⟨_, rfl, wpAny_letOwnedTupleGo_enum (s := { s with heap := h', toks := tk + 1 }) ho fun h'' he' sb => ?_⟩
    have hT2 : h''.get? s.heap.objs.size = some { cls := .type "tuple", data := .seq #[.int i tk, u'] } := (sb.2 _ (Nat.ne_of_gt hel)).trans hT
    have new : ObjOk X.prog X.w (upd H s.heap.objs.size (.tup [.int (i : Nat), x])) h'' s.heap.objs.size (.tup [.int (i : Nat), x]) :=
      ⟨by show 2 ≤ sizeLine; decide, [.int i tk, u'], .cons ⟨_, rfl⟩ (.cons ru .nil), ⟨_, hT2, rfl, _, rfl⟩⟩
    have I1 : Inv X pins σ (upd H s.heap.objs.size (.tup [.int (i : Nat), x])) { s with heap := h'', toks := tk + 1 } :=
      I.turnedNew (ch := [e, it]) (fun b ob hb q => (sb.2 b (fun z => hb (by simp [z]))).trans (hk b ob (fun z => hb (by simp [z])) (fun z => hb (by simp [z])) q)) hf (Nat.le_refl _) new
    refine ⟨.ref s.heap.objs.size, _, I1, rfl, ⟨_, x, rfl, I.hok.fresh (Nat.le_refl _), rfl, fun ys hy => by rw [I.tuple_inj hy hq]; exact hx⟩, ⟨⟨u', ?_⟩, hit'.at fun o q => (sb.2 it (Ne.symm hne)).trans q, hne, hae, hai⟩, fun b hb => ?_⟩
    · have e1 : ((i + 1 : Nat) : Int) = (i : Int) + 1 := by omega
      rw [e1]; exact he'
    · have hb' : b < s.heap.objs.size := by
        have e' : b = e ∨ b = it := by simpa using hb
        rcases e' with rfl | rfl
        · exact hel
        · exact hil
      rw [upd_ne (Nat.ne_of_lt hb')]
      exact (hf b hb).1
  done := by
    intro X hP hw hK hc i pins s σ H E I hf st hg
    subst hP hw hK
    obtain ⟨⟨old, he⟩, hit, hne, hae, hai⟩ := st
    obtain ⟨xs, hq, hx⟩ := hg
    obtain ⟨its, rv, p, hz⟩ := I.tuple hq
    obtain ⟨f0, f1, f2, f3, f4, f5⟩ := hf it (by simp)
    have hl := rv.length
    have Dr := Draws.tuple (prog := X.prog) (w := X.w) (A := X.A.in1) (show X.A.in1.handled = none from I.ok.hd hc) it a hai its.toArray
    have hi : i = its.toArray.size := by rw [List.size_toArray]; omega
    subst hi
    exact wpAny_pyNext_enum_endD Dr he ⟨hit, p⟩ fun h' eb => ⟨rfl, I.turned (t' := s.toks) (fun b o hb q => eb b o hb q) f0 f1 f3 f4 f5⟩
  self := fun A i s Q E st h => let ⟨⟨_, he⟩, _⟩ := st; wpAny_pyIter_enum he h
def iEnumT (K : PySem.W.Frag) (ta : TA) : TI := fun σ H R => ta σ H fun vs H1 => ∃ a xs, vs = [.ref a] ∧ SqT K H1 a xs ∧ R (IteT K a) H1
theorem pi_enumT {X : Cx} {e : Expr} {ta : TA} {p pos tpos : Pos} {elts : List Expr} {kk : Nat} (hg : Gl X "enumerate") (hm : X.mg "enumerate" = none) (ha : PA X [e] ta) (hs : starEach [e] X.env = [(false, eval e X.env)] := by rfl) :
    PI X (.Tuple elts kk tpos) (.Call (.Name "enumerate" p) [e] [] pos) (iEnumT X.K ta) := by
  refine ⟨fun pins s σ H R I h => ?_⟩
  refine Call_ (ld_blt I hg hm boot_enumerate (PyProof.Rows.callWith_type1 (thn (ha.run pos pins s σ H _ I h) fun us s1 ⟨vs, H1, I1, r1, q1⟩ => ?_) hs rfl))
  obtain ⟨a, xs, ex, hq, q⟩ := q1
  subst ex
  cases r1 with
  | cons r rr =>
    cases rr
    cases r
    obtain ⟨its, rv, tp, hz⟩ := I1.tuple hq
    have alt : a < s1.heap.objs.size := by obtain ⟨o, ho, _⟩ := tp; exact Heap.lt_size ho
    refine call_enum1 (begins_tuple a its.toArray) tp fun h' he hit hsz hk => wpAny_pyIter_enum he ?_
    have I2 : Inv X pins σ H1 { s1 with heap := h' } := I1.kept (t' := s1.toks) hk
    refine ⟨s1.heap.objs.size + 1, [s1.heap.objs.size + 1, s1.heap.objs.size], _, _, H1, rfl, I2, turn_enumT a (s1.heap.objs.size + 1) s1.heap.objs.size, ⟨⟨.none, he⟩, ⟨_, hit, rfl, rfl⟩, Nat.succ_ne_self _, Nat.ne_of_lt (Nat.lt_succ_of_lt alt), Nat.ne_of_lt alt⟩, fun b hb => ?_, q⟩
    have e' : b = s1.heap.objs.size + 1 ∨ b = s1.heap.objs.size := by simpa using hb
    have hle : s1.heap.objs.size ≤ b := by
      rcases e' with z | z
      · rw [z]; exact Nat.le_add_right _ _
      · rw [z]; exact Nat.le_refl _
    exact I1.fpOk hle (I1.hok.fresh hle)
/-- enumerate of a tuple -/
@[simp] def dEnumT (t : TAD) : TSrc := fun ρ μ Q => t ρ μ fun xs μ1 => match xs with
  | [.tup s] => Q (enumD 0 s) still μ1
  | _ => False
theorem itd_enumT {K : PySem.W.Frag} {mg : Str → Option Value} {F : Hp} {a : Addr} {vs : List V} {ds : List D} (h : SqT K F a vs) (r : Dts K mg F vs ds) : ItD K mg F (IteT K a) (enumD 0 ds) still := by
  intro F1 μ1 H1 hF o1 _ i
  have ha : SqT K H1 a vs := SqT.mono' (fun c o z => o1.sub _ _ (hF _ _ z)) h
  have hl := r.length
  rw [enumD_len]
  refine ⟨fun hi => ⟨⟨vs, vs[i]'(by omega), ha, List.getElem?_eq_getElem _⟩, fun x H2 hy => ?_⟩, fun e => ⟨vs, ha, by omega⟩⟩
  obtain ⟨T, y, rfl, hT, rfl, hx⟩ := hy
  obtain ⟨d, hd, w⟩ := r.getV (hx vs ha)
  obtain ⟨g1, g2, g3⟩ := newPr o1 (v := .int (i : Nat)) (d := .int (i : Nat)) (.int _) (w.mono hF) hT
  refine ⟨_, _, g1, g2, ?_, g3⟩
  rw [enumD_get, hd]
  simp
theorem di_enumT {X : Cx} {e : Expr} {t : TAD} {p pos tpos : Pos} {elts : List Expr} {kk : Nat} (hg : Gl X "enumerate") (hm : X.mg "enumerate" = none) (h : DA X [e] t) (hs : starEach [e] X.env = [(false, eval e X.env)] := by rfl) :
    DI X (.Tuple elts kk tpos) (.Call (.Name "enumerate" p) [e] [] pos) (dEnumT t) := (pi_enumT hg hm h hs).weaken fun σ H R q => by
  obtain ⟨F, ρ, μ, Qd, Rl, hd, k⟩ := q
  refine ⟨F, ρ, μ, _, Rl, hd, fun vs F' μ' H' ds e o w q => ?_⟩
  split at q
  · cases w with
    | cons h r =>
      cases r
      cases h with
      | tup h r => exact ⟨_, _, rfl, SqT.mono' o.sub h.sq, k _ F' μ' H' _ _ e o (itd_enumT h.sq r) q⟩
  · exact q.elim
theorem de_globS {X : Cx} {x : Str} {y : Str} {t : Tok} {pos : Pos} (s : List Nat) (hg : Gl X x) (hm : X.mg x = some (.str y t)) (h : y = S s := by decide +kernel) (hdb : (x == ("__debug__" : Str)) = false := by decide) : DE X (.Name x pos) (dC (.str s)) :=
  de_glob (v := .str y) hg hm ⟨_, rfl⟩ (fun F => by subst h; exact .str s) hdb
theorem de_globI {X : Cx} {x : Str} {i : Int} {t : Tok} {pos : Pos} (hg : Gl X x) (hm : X.mg x = some (.int i t)) (hdb : (x == ("__debug__" : Str)) = false := by decide) : DE X (.Name x pos) (dC (.int i)) :=
  de_glob (v := .int i) hg hm ⟨_, rfl⟩ (fun F => .int i) hdb
end DL

namespace DL
open PySem PySem.Spec PyProof.Rows L2
open RZ (nextOf_tuple_item nextOf_tuple_end call_zipT pyNext_zipT_item pyNext_zipT_end)
section
variable {prog : Program} {w : World} {A : Around} {E : Value → Shared → Prop} {s : Shared}
/-- the pairs laid so far -/
structure ZGot (xs ys : Array Value) (base : Nat) (h : Heap) (ts : List Addr) : Prop where
  low : ∀ t ∈ ts, base ≤ t
  nd : ts.Nodup
  pr : ∀ (j : Nat) (t : Addr), ts[j]? = some t → ∃ x y, xs[j]? = some x ∧ ys[j]? = some y ∧ IsPair h t x y
theorem ZGot.keep {xs ys : Array Value} {base : Nat} {h h' : Heap} {ts : List Addr} (g : ZGot xs ys base h ts) (k : ∀ t, base ≤ t → ∀ o, h.get? t = some o → h'.get? t = some o) : ZGot xs ys base h' ts :=
  ⟨g.low, g.nd, fun j t e => let ⟨x, y, a, b, c⟩ := g.pr j t e; ⟨x, y, a, b, k t (g.low t (List.mem_of_getElem? e)) _ c⟩⟩
theorem ZGot.more {xs ys : Array Value} {base : Nat} {h : Heap} {ts : List Addr} {p : Addr} {x y : Value} (g : ZGot xs ys base h ts) (hp : base ≤ p) (hn : p ∉ ts) (hx : xs[ts.length]? = some x) (hy : ys[ts.length]? = some y) (hq : IsPair h p x y) : ZGot xs ys base h (ts ++ [p]) := by
  refine ⟨fun t ht => ?_, ?_, fun j t e => ?_⟩
  · rcases List.mem_append.mp ht with h1 | h1
    · exact g.low t h1
    · rw [List.mem_singleton.mp h1]; exact hp
  · rw [List.nodup_append]
    exact ⟨g.nd, by simp, fun a ha b hb => by rw [List.mem_singleton.mp hb]; exact fun e => hn (e ▸ ha)⟩
  · rcases Nat.lt_or_ge j ts.length with h1 | h1
    · rw [List.getElem?_append_left h1] at e; exact g.pr j t e
    · rw [List.getElem?_append_right h1] at e
      have hj : j = ts.length := by
        rcases Nat.eq_or_lt_of_le h1 with q | q
        · exact q.symm
        · rw [List.getElem?_eq_none (by simp; omega)] at e; cases e
      subst hj
      rw [Nat.sub_self] at e
      cases e
      exact ⟨x, y, hx, hy, hq⟩
/-- where the iterator stands -/
structure ZSt (z TI TO i1 i2 l1 l2 : Addr) (xs ys : Array Value) (i : Nat) (h : Heap) : Prop where
  pTI : IsPair h TI (.ref i1) (.ref i2)
  g1 : h.IsTupleIter i1 l1 i
  g2 : h.IsTupleIter i2 l2 i
  t1 : h.IsTuple l1 xs
  t2 : h.IsTuple l2 ys
  st : (IsZip h z TI TO .none ∧ ∃ a b, IsPair h TO a b) ∨ ∃ T f oT, IsZipHeld h z TI TO T f ∧ h.get? T = some oT ∧ T ≠ z ∧ T ≠ i1 ∧ T ≠ i2
structure ZOff (z TI TO i1 i2 l1 l2 S : Addr) : Prop where
  z : S ≠ z
  TI : S ≠ TI
  TO : S ≠ TO
  i1 : S ≠ i1
  i2 : S ≠ i2
  l1 : S ≠ l1
  l2 : S ≠ l2
theorem ZSt.upd {z TI TO i1 i2 l1 l2 S : Addr} {xs ys : Array Value} {i : Nat} {h h' : Heap} (a : ZSt z TI TO i1 i2 l1 l2 xs ys i h) (n : ZOff z TI TO i1 i2 l1 l2 S) (k : ∀ b o, b ≠ S → h.get? b = some o → h'.get? b = some o) (hS : ∀ o, h.get? S = some o → ∃ o', h'.get? S = some o') : ZSt z TI TO i1 i2 l1 l2 xs ys i h' := by
  refine ⟨k _ _ n.TI.symm a.pTI, a.g1.at fun o e => k _ o n.i1.symm e, a.g2.at fun o e => k _ o n.i2.symm e, a.t1.at fun o e => k _ o n.l1.symm e, a.t2.at fun o e => k _ o n.l2.symm e, ?_⟩
  rcases a.st with ⟨q, x, y, r⟩ | ⟨T, f, oT, q, r, r1, r2, r3⟩
  · exact .inl ⟨k _ _ n.z.symm q, x, y, k _ _ n.TO.symm r⟩
  · refine .inr ?_
    by_cases hT : T = S
    · subst hT
      obtain ⟨o', ho'⟩ := hS _ r
      exact ⟨T, f, o', k _ _ n.z.symm q, ho', r1, r2, r3⟩
    · exact ⟨T, f, oT, k _ _ n.z.symm q, k _ _ hT r, r1, r2, r3⟩
end
section
variable {prog : Program} {w : World} {A : Around} {R : Result → Shared → Prop}
end
section
variable {prog : Program} {w : World} {A : Around} {E : Value → Shared → Prop} {s : Shared} {R : Result → Shared → Prop}
end
section
variable {prog : Program} {w : World} {A : Around} {E : Value → Shared → Prop} {s : Shared}
end
section
variable {X : Cx}
end
def zipT (xs ys : List D) : List D := (xs.zip ys).map fun p => .tup [p.1, p.2]
section
variable {K : PySem.W.Frag} {mg : Str → Option Value}
end
@[simp] def dLzipF (t : TAD) : TFD := fun ρ μ Q => t ρ μ fun ds μ1 => match ds with
  | [.tup xs, .tup ys] => Q (zipT xs ys) μ1
  | _ => False
section
variable {X : Cx} {e e2 : Expr} {t : TAD} {p p2 pos pos2 : Pos}
end
end DL

namespace DL
open PySem PySem.Spec PyProof.Rows L2
open RZ (nextOf_tuple_item nextOf_tuple_end)
/-- the iterator at i, which walks over the items xs that are kept at l -/
structure Wlk (i l : Addr) (xs : Array Value) where
  It : Nat → Heap → Prop
  Src : Heap → Prop
  it : ∀ {k h h'}, It k h → (∀ o, h.get? i = some o → h'.get? i = some o) → It k h'
  src : ∀ {h h'}, Src h → (∀ o, h.get? l = some o → h'.get? l = some o) → Src h'
  item : ∀ {prog : Program} {w : World} {A : Around} {E : Value → Shared → Prop} {s : Shared} {k : Nat} {x : Value} {Q : Value → Shared → Prop}, It k s.heap → Src s.heap → xs[k]? = some x →
    (∀ h', It (k + 1) h' → Heap.SameBut i s.heap h' → Q x { s with heap := h' }) → wpAny (model prog w) A (Builtin.SmallTypes.nextOf (.ref i)) Q E s
  fin : ∀ {prog : Program} {w : World} {A : Around} {E : Value → Shared → Prop} {s : Shared} {k : Nat} {Q : Value → Shared → Prop}, A.handled = none → It k s.heap → Src s.heap → xs[k]? = none →
    (∀ h' e, Heap.ExtBut i s.heap h' → (∃ o, h'.get? e = some o ∧ o.cls = .type "StopIteration") → E (.ref e) { s with heap := h' }) → wpAny (model prog w) A (Builtin.SmallTypes.nextOf (.ref i)) Q E s
def Wlk.list (i l : Addr) (xs : Array Value) : Wlk i l xs where
  It := fun k h => h.IsListIter i l k
  Src := fun h => h.IsList l xs
  it := fun a b => a.at b
  src := fun a b => a.at b
  item := fun a b c d => wpAny_nextOf_list_item a b c d
  fin := fun a b c d e => wpAny_nextOf_list_end a b c d e
def Wlk.tup (i l : Addr) (xs : Array Value) : Wlk i l xs where
  It := fun k h => h.IsTupleIter i l k
  Src := fun h => h.IsTuple l xs
  it := fun a b => a.at b
  src := fun a b => a.at b
  item := fun a b c d => nextOf_tuple_item a b c d
  fin := fun a b c d e => nextOf_tuple_end a b c d e
section
variable {prog : Program} {w : World} {A : Around} {E : Value → Shared → Prop} {s : Shared} {z TI TO i1 i2 l1 l2 : Addr} {k1 k2 : Nat} {xs ys : Array Value} {a b : Value}
end
section
variable {prog : Program} {w : World} {A : Around} {E : Value → Shared → Prop} {s : Shared}
end
section
variable {X : Cx} {e e2 : Expr} {p pos tpos : Pos} {elts : List Expr} {kk : Nat}
/-- zip of a list and a tuple -/
@[simp] def dZipM (t : TAD) : TSrc := fun ρ μ Q => t ρ μ fun xs μ1 => match xs with
  | [.lst xs, .tup ys] => Q (zipD xs ys) still μ1
  | _ => False
end
end DL

namespace DL
open PySem PySem.Spec PyProof.Rows L2
open TS (TupInts intsOf)
open PySem.W
section
variable {prog : Program} {w : World} {A : Around} {E : Value → Shared → Prop} {s : Shared}
end
abbrev tupD (q : List Nat) : D := .tup (nats q)
abbrev intL (q : List Nat) : List Int := q.map fun n : Nat => (n : Int)
@[simp] def dSortF (t : TAD) : TFD := fun ρ μ Q => t ρ μ fun ds μ1 => match ds with
  | [.lst xs] => ∃ ls : List (List Nat), xs = ([] :: ls).map tupD ∧ ∀ ls' : List (List Nat), ls'.Perm ([] :: ls) → ls'.Pairwise (fun p q => HT.lexLt (intL q) (intL p) = false) → Q (ls'.map tupD) μ1
  | _ => False
end DL

namespace DL
open PySem PySem.Spec PyProof.Rows L2
def rdCountL : RDm
  | .lst xs, [.int k], μ, Q => ∃ ns : List Int, xs = ns.map D.int ∧ Q (.int (ns.count k : Nat)) μ
  | _, _, _, _ => False
@[simp] theorem rdCountL_1 {xs : List D} {k : Int} {μ : Sto} {Q : DK} : rdCountL (.lst xs) [.int k] μ Q = (∃ ns : List Int, xs = ns.map D.int ∧ Q (.int (ns.count k : Nat)) μ) := rfl
end DL

namespace DL
open PySem PySem.Spec PyProof.Rows L2
def rdInDat (neg : Bool) : RD2
  | x, .lst ds, μ, Q => x.ic ∧ D.ics ds ∧ x.dp ≤ 50 ∧ Q (.bl (if neg then !(ds.any fun z => D.eqv z x) else ds.any fun z => D.eqv z x)) μ
  | _, _, _, _ => False
@[simp] theorem rdInDat_1 (neg : Bool) {x : D} {ds : List D} {μ : Sto} {Q : DK} : rdInDat neg x (.lst ds) μ Q = (x.ic ∧ D.ics ds ∧ x.dp ≤ 50 ∧ Q (.bl (if neg then !(ds.any fun z => D.eqv z x) else ds.any fun z => D.eqv z x)) μ) := rfl
end DL

namespace DL
open PySem PySem.Spec PyProof.Rows L2 PySem.W PySem.Calls
section
open Builtin Builtin.ObjectAttr
variable {prog : Program} {w : World} {A : Around} {R : Result → Shared → Prop} {hp : Heap} {g : Array GenState} {d : Drawn} {t : Nat} {os : OsState}
/-- self.name = v on a fresh exception of an own class -/
theorem set_first {B : String} {bmB : List Value} (SF : StoreFacts B bmB "object.__setattr__" "object") {K : Frag} {name : Str} {tk : Tok} {v : Value} {x C : Addr} {fv : Array Value}
    (X : K.In hp) (hx : hp.get? x = some { cls := .ref C, data := .fields fv }) (ho : excOver K C bmB = true) (hh : hasDictIn K C = true) (ha : findIn K (.ref C) name = some none)
    (hq : ∀ h' tk' dx, (∀ b o, b ≠ x → hp.get? b = some o → h'.get? b = some o) → hp.objs.size ≤ dx → dx ≠ x → h'.get? x = some { cls := .ref C, dict := some dx, data := .fields fv } →
      h'.Ns1 dx (fun y => if y = name then some v else none) → R (.ok (.ret .none)) ⟨h', g, d, tk', os⟩) :
    codeAny (model prog w) A (.call (.builtin "object.__setattr__") ⟨[.ref x, .str name tk, v], []⟩) R ⟨hp, g, d, t, os⟩ := by
  have I : W.InstAt hp x { cls := .ref C, data := .fields fv } C none := ⟨hx, rfl, rfl, trivial⟩
  have hxs : x ≠ hp.objs.size := Nat.ne_of_lt (Heap.lt_size hx)
  obtain ⟨cd, hcd, hd1⟩ := any_some hh
  have hcls : W.Looks (model prog w) hp (classData C) cd := W.looks_clsIn X hcd
  refine osa_openX (r := none) SF X I ho (by unfold takerIn; rw [ha]; rfl) fun b => ?_
  dsimp only
  obtain ⟨nm, bs, mro, ns, qn, hd, sn, sb, ab, col, del⟩ := cd
  dsimp only at hd1
  subst hd1
  unfold storeInOwnDict ownDictForStores
  repeat (first | with_reducible refine HandSPX.store_in_new ?_ ?_ | with_reducible refine wpAny_loadPart_at hx ?_ | with_reducible refine hcls.at ?_ | wp_step)
  · exact ⟨_, #[], _, (Heap.get?_update_ne _ _ _ _ hxs.symm).trans (Heap.get?_push_at rfl rfl), rfl, fun e he => absurd he (by simp), fun _ => rfl⟩
  · intro h' tk' hn' hs
    refine hq h' tk' hp.objs.size (fun b o hb ho => ?_) (Nat.le_refl _) hxs.symm ?_ hn'
    · exact (hs.2 b (Nat.ne_of_lt (Heap.lt_size ho))).trans ((Heap.get?_update_ne _ _ _ _ hb).trans (Heap.get?_push_of_some _ ho))
    · exact (hs.2 x hxs).trans (Heap.get?_update_self _ (Heap.get?_push_of_some _ hx) rfl)
end
def iA (f : Str) (p1 p2 : Pos) : Arguments := { posonlyargs := [], args := [{ arg := "self", annotation := none, pos := p1 }, { arg := f, annotation := none, pos := p2 }], vararg := none, kwonlyargs := [], kw_defaults := [], kwarg := none, defaults := [] }
def iB (f : Str) (q1 q2 q3 q4 : Pos) : List Stmt := [.Assign [.Attribute (.Name "self" q1) f q2] (.Name f q3) q4]
def iS (f : Str) : Scope := { kind := .function, names := [(PySem.Str.ofString "self", .local), (f, .local)], isGenerator := false, isCoroutine := false, more := [] }
/-- what a field's name must be -/
structure FldOk (f : Str) : Prop where
  bind : ∀ (qual : Str) (p1 p2 q1 q2 q3 q4 : Pos) (doc pm cdv ct : Value) (an : Option Addr) (a b : Value), bindArgs (fnOf "__init__" qual (iA f p1 p2) (iB f q1 q2 q3 q4) (iS f) .none .none doc pm an cdv ct) ⟨[a, b], []⟩ = pure [(("self" : Str), a), (f, b)]
  names : ∀ a b : Value, (([("self", a), (f, b)] : List (Str × Value)).all fun y => (iS f).names.lookup y.1 == some .local || (iS f).names.lookup y.1 == some .cell) = true
  loc0 : ∀ (qual : Str) (L c : Addr) (cd u v : Value), bindL (envOfC qual (iS f) L c cd).kindOf [(("self" : Str), u), (f, v)] (fun _ => none) "self" = some u
  loc1 : ∀ (qual : Str) (L c : Addr) (cd u v : Value), bindL (envOfC qual (iS f) L c cd).kindOf [(("self" : Str), u), (f, v)] (fun _ => none) f = some v
  kind0 : ∀ (qual : Str) (L c : Addr) (cd : Value), (envOfC qual (iS f) L c cd).kindOf "self" = some .local
  kind1 : ∀ (qual : Str) (L c : Addr) (cd : Value), (envOfC qual (iS f) L c cd).kindOf f = some .local
  dbg : (f == ("__debug__" : Str)) = false
theorem fld_index : FldOk "index" := ⟨fun _ _ _ _ _ _ _ _ _ _ _ _ _ _ => rfl, fun _ _ => rfl, fun _ _ _ _ _ _ => rfl, fun _ _ _ _ _ _ => rfl, fun _ _ _ _ => rfl, fun _ _ _ _ => rfl, by decide⟩
/-- what the written part says of the class x at C (one field f; a built-in base with the mro bmB) and of its __init__, at fI -/
structure OwnTxt (K : Frag) (mg : Str → Option Value) (x f : Str) (C fI : Addr) (B : String) (bmB : List Value) (newId initId : String) : Prop where
  fb : ExcBaseFacts B newId initId bmB
  sf : StoreFacts B bmB "object.__setattr__" "object"
  fo : FldOk f
  gC : mg x = some (.ref C)
  qI : excInitIn K C bmB newId = true
  qO : excOver K C bmB = true
  sa : findIn K (.ref C) "__setattr__" = some (some (.builtin "object.__setattr__"))
  noN : findIn K (.ref C) f = some none
  iC : findIn K (.ref C) "__init__" = some (some (.ref fI))
  tC : typeIn K (.ref fI) = some (.type "function")
  kC : keepIn K (.ref C) = true
  exC : subIn K (.ref C) (.type "BaseException") = some true
  tyC : typeIn K (.ref C) = some (.type "type")
  hdC : hasDictIn K C = true
  fn : ∃ (q : Str) (oc : Value) (od : Option Addr) (doc pm : Value) (an : Option Addr) (cdv ct : Value) (osl : Array (Option Value)) (p1 p2 q1 q2 q3 q4 : Pos),
    K.lookup fI = some ⟨oc, od, .func (fnOf "__init__" q (iA f p1 p2) (iB f q1 q2 q3 q4) (iS f) .none .none doc pm an cdv ct), osl⟩ ∧ codeIn K cdv q = true
/-- a local name's value -/
theorem ld_loc {M : Model} {s : Shared} {qual : Str} {scope : Scope} {L c : Addr} {cd : Value} {m : Str → Option Value} {y : Str} {pos : Pos} {v : Value} {Q : Value → Shared → Prop} {A : Around} {E : Value → Shared → Prop} (hn : s.heap.Ns L m) (hv : m y = some v)
    (hk : scope.kind = .function) (hl : (envOfC qual scope L c cd).kindOf y = some .local) (hd : (y == ("__debug__" : Str)) = false) (h : Q v s) :
    wpAny M A (eval (.Name y pos) (envOfC qual scope L c cd)) Q E s := wpAny_Name (wpAny_loadName_local hk hl hn hv h) hd
/-- an object of the class is made -/
structure NewExc (h h' : Heap) (e C dx : Addr) (f : Str) (v : Value) : Prop where
  keep : ∀ b o, h.get? b = some o → h'.get? b = some o
  new : h.objs.size ≤ e
  obj : ∃ t, h'.get? e = some { cls := .ref C, dict := some dx, data := .fields #[.ref t, .none, .none, .none, .bool false, .none] }
  dbig : h.objs.size ≤ dx
  dne : dx ≠ e
  ns : h'.Ns1 dx (fun y => if y = f then some v else none)
section
variable {prog : Program} {w : World} {A : Around} {R : Result → Shared → Prop} {s : Shared} {K : Frag} {mg : Str → Option Value} {C fI : Addr} {x f : Str} {B newId initId : String} {bmB : List Value}
theorem own_init (T : OwnTxt K mg x f C fI B bmB newId initId) {e t0 : Addr} {v : Value} (X : K.In s.heap) (hlim : s.heap.NoLimit) (hx : s.heap.get? e = some (HandSPX.excO C t0)) (hroom : A.depth < recursionLimit)
    (hq : ∀ h' tk dx, (∀ b o, b ≠ e → s.heap.get? b = some o → h'.get? b = some o) → s.heap.objs.size ≤ dx → dx ≠ e → h'.get? e = some { cls := .ref C, dict := some dx, data := .fields #[.ref t0, .none, .none, .none, .bool false, .none] } →
      h'.Ns1 dx (fun y => if y = f then some v else none) → R (.ok (.ret .none)) { s with heap := h', toks := tk }) :
    codeAny (model prog w) A (.call (.ref fI) ⟨[.ref e, v], []⟩) R s := by
  obtain ⟨q, oc, od, doc, pm, an, cdv, ct, osl, p1, p2, q1, q2, q3, q4, ho, hcd⟩ := T.fn
  refine Att.call_fn (binds := [("self", .ref e), (f, v)]) X hlim ho hcd hroom (BindsTo.of_eq (T.fo.bind _ _ _ _ _ _ _ _ _ _ _ _ _ _)) (T.fo.names _ _) (fun s₁ IC => ?_) rfl rfl rfl
  obtain ⟨h₁, tk₁, rfl⟩ := IC.toInCall.same
  have k : ∀ b o, s.heap.get? b = some o → h₁.get? b = some o := IC.toInCall.keep
  have hn := IC.toInCall.ns
  have X₁ : K.In h₁ := X.keeps k
  have hx₁ := k _ _ hx
  show wpAny _ _ (execs _ _) _ _ _
  refine wpAny_execs_cons (plainObj_wpAny_Assign_Attribute ?_)
  refine ld_loc hn (T.fo.loc1 _ _ _ _ _ _) rfl (T.fo.kind1 _ _ _ _) T.fo.dbg (ld_loc hn (T.fo.loc0 _ _ _ _ _ _) rfl (T.fo.kind0 _ _ _ _) (by decide) ?_)
  refine set_plain X₁ (ox := HandSPX.excO C t0) (od := none) ⟨hx₁, rfl, rfl, trivial⟩ T.sa ?_
  refine set_first T.sf X₁ hx₁ T.qO T.hdC T.noN (fun h₃ tk₃ dx k₃ dn dne hx₃ hn₃ => ?_)
  show wpAny _ _ (execs _ _) _ _ _
  have z : s.heap.objs.size < h₁.objs.size := hn.lt
  exact wpAny_execs_nil (hq h₃ tk₃ dx (fun b o hb y => k₃ b o hb (k b o y)) (Nat.le_of_lt (Nat.lt_of_lt_of_le z dn)) dne hx₃ hn₃)
theorem own_made (T : OwnTxt K mg x f C fI B bmB newId initId) {v : Value} (X : K.In s.heap) (hlim : s.heap.NoLimit) (hroom : A.depth + 1 < recursionLimit)
    (hq : ∀ h' tk e dx, NewExc s.heap h' e C dx f v → R (.ok (.ret (.ref e))) { s with heap := h', toks := tk }) :
    codeAny (model prog w) A (.call (.ref C) ⟨[v], []⟩) R s := by
  obtain ⟨nm, N, qn, bs, bm, hdct, sn, sub, ab, col, dd, k0, k1, k2, k3, k5, hC, hT⟩ := excInit_of X T.qI
  obtain ⟨hp, g, dr, tk, os⟩ := s
  have k : ∀ b o, hp.get? b = some o → ((hp.push (kdv_tup [v])).push (HandSPX.excO C hp.objs.size)).get? b = some o := fun b o y => Heap.get?_push_of_some _ (Heap.get?_push_of_some _ y)
  have hget : ((hp.push (kdv_tup [v])).push (HandSPX.excO C hp.objs.size)).get? (hp.objs.size + 1) = some (HandSPX.excO C hp.objs.size) := by heap_get
  refine HandSPX.call_own T.fb hT hC (looks_findIn X T.iC) (fun self => bind_fn X self T.tC) (by rw [sizeLine_eq]; exact (by decide : 1 ≤ 16777216)) ?_
  refine own_init (s := ⟨(hp.push (kdv_tup [v])).push (HandSPX.excO C hp.objs.size), g, dr, tk, os⟩) T (X.keeps k) (hlim.keeps k) hget (show A.depth + 1 < recursionLimit from hroom) fun h' tk' dx k' dn dne hx hns => ?_
  have old : ∀ b o, hp.get? b = some o → h'.get? b = some o := fun b o y => k' b o (Nat.ne_of_lt (Nat.lt_succ_of_lt (Heap.lt_size y))) (k b o y)
  have z : hp.objs.size ≤ dx := by
    have dn' := dn
    simp only [Heap.size_push] at dn'
    omega
  exact ⟨rfl, hq h' tk' (hp.objs.size + 1) dx ⟨old, Nat.le_succ _, ⟨_, hx⟩, z, dne, hns⟩⟩
end
theorem relO_fld {f : Str} {v : V} {v' : Value} (r : RelV v v') (y : Str) : RelO (List.lookup y [(f, v)]) (if y = f then some v' else none) := by
  by_cases h : y = f
  · subst h
    rw [if_pos rfl]
    have e : List.lookup y [(y, v)] = some v := by simp [List.lookup]
    rw [e]
    exact r
  · rw [if_neg h]
    have e : (y == f) = false := by simpa using h
    have e2 : List.lookup y [(f, v)] = none := by simp [List.lookup, e]
    rw [e2]
    trivial
section
variable {X : Cx} {C fI : Addr} {x f : Str} {B newId initId : String} {bmB : List Value}
/-- x(a): an exception with one field -/
def tMkF (C : Addr) (f : Str) (ta : TA) : L2.St → Hp → XK → Prop := fun σ H Q => ta σ H fun vs H1 => ∃ v, vs = [v] ∧ ∀ dx, H1 dx = none → Q (.ref C) (some dx) (upd H1 dx (.xd [(f, v)]))
theorem pmk_fld {a : Expr} {ta : TA} {p pos : Pos} {k : Nat} (T : OwnTxt X.K X.mg x f C fI B bmB newId initId) (hr : Room k X.A) (ha : PA X [a] ta) (hg : Gl X x) (hdb : (x == ("__debug__" : Str)) = false := by decide)
    (he : starEach (a :: []) X.env = (false, eval a X.env) :: starEach [] X.env := by rfl) (hpl : (backTo pos (starEach [] X.env)).any (·.1) = false := by rfl) :
    PMk X (.Call (.Name x p) [a] [] pos) (tMkF C f ta) := by
  intro pins s σ H Q I h
  refine wpAny_Call_Name_kw (ld_glob I hg T.gC ?_ hdb)
  refine PySem.W.callWith_K (h₀ := X.base) I.ok.mod.kin T.kC (thn (ha.run pos pins s σ H _ I h) fun us s1 hh => ?_) he hpl
  obtain ⟨vs, H1, I1, r1, v, ev, q1⟩ := hh
  subst ev
  refine ⟨I1.kIn, ?_⟩
  obtain ⟨v', rfl, rv⟩ := Vals.one r1
  show wpAny _ _ (call (.ref C) [v']) _ _ _
  have hlim := I1.nolimit
  obtain ⟨hp, g, dr, tk, os⟩ := s1
  refine wpAny_call (own_made T I1.kIn hlim (by have := hr.dp; omega) fun h' tk' e dx M => ?_)
  show MkP X pins σ Q (.ref e) ⟨h', g, dr, tk', os⟩
  obtain ⟨t1, hoe⟩ := M.obj
  obtain ⟨G, g1, g2⟩ := restrict h' fun b => decide (b ≠ e)
  have gk : ∀ b, b ≠ e → G.get? b = h'.get? b := fun b hb => g1 b (decide_eq_true hb)
  have ge : G.get? e = none := g2 e (by simp)
  have old : ∀ b o, hp.get? b = some o → G.get? b = some o := fun b o y => (gk b (Nat.ne_of_lt (Nat.lt_of_lt_of_le (Heap.lt_size y) M.new))).trans (M.keep b o y)
  have ob : ObjOk X.prog X.w (upd H1 dx (.xd [(f, v)])) G dx (.xd [(f, v)]) := ⟨_, M.ns.at (fun o y => (gk dx M.dne).trans y), fun y => relO_fld rv y⟩
  have J : Inv X pins σ (upd H1 dx (.xd [(f, v)])) ⟨G, g, dr, tk', os⟩ := I1.laid (t' := tk') old M.dbig ob
  refine ⟨e, _, _, ⟨G, g, dr, tk', os⟩, _, .ref C, some dx, rfl, J, fun b o y => ?_, ge, hoe, ⟨rfl, rfl⟩, rfl, rfl, ?_, rfl, I1.bare, raises_own T.exC T.tyC, q1 dx (I1.hok.fresh M.dbig)⟩
  · by_cases hb : b = e
    · have y' : G.get? b = some o := y
      rw [hb, ge] at y'
      cases y'
    · exact (gk b hb).symm.trans y
  · rw [upd_ne (Ne.symm M.dne)]
    exact I1.hok.fresh M.new
end
end DL

namespace DL
open PySem PySem.Spec PyProof.Rows L2
/-- an exception that is made, over data -/
abbrev TXD := DEnv → Sto → DXK → Prop
def liftX (K : PySem.W.Frag) (mg : Str → Option Value) (d : TXD) : L2.St → Hp → XK → Prop := fun σ H Q => ∃ F ρ μ Ed, Rel K mg F ρ μ σ H ∧ d ρ μ Ed ∧
  ∀ cv od F' μ' H' c fs, Ext F μ H F' μ' H' → Ok K mg F' μ' H' → XD K mg H F' μ' H' cv od c fs → Ed c fs μ' → Q cv od H'
abbrev DX (X : Cx) (e : Expr) (d : TXD) : Prop := PMk X e (liftX X.K X.mg d)
@[simp] def dMkF (c f : Str) (t : TAD) : TXD := fun ρ μ Q => t ρ μ fun ds μ1 => match ds with
  | [d] => Q c [(f, d)] μ1
  | _ => False
@[simp] def dMk0 (c : Str) : TXD := fun _ μ Q => Q c [] μ
/-- a class whose objects have one field; a class without -/
def FldCls (K : PySem.W.Frag) (mg : Str → Option Value) (x f : Str) : Prop := ∃ C fI B bmB newId initId, OwnTxt K mg x f C fI B bmB newId initId
section
variable {X : Cx} {x f : Str} {k : Nat} {a e : Expr} {t : TAD} {d : TXD} {p pos : Pos} {B : Bs}
theorem dx_fld (T : FldCls X.K X.mg x f) (hr : Room k X.A) (ha : DA X [a] t) (hg : Gl X x) (hdb : (x == ("__debug__" : Str)) = false := by decide)
    (he : starEach (a :: []) X.env = (false, eval a X.env) :: starEach [] X.env := by rfl) (hpl : (backTo pos (starEach [] X.env)).any (·.1) = false := by rfl) : DX X (.Call (.Name x p) [a] [] pos) (dMkF x f t) := by
  obtain ⟨C, fI, B, bmB, newId, initId, T⟩ := T
  intro pins s σ H Q I h
  refine pmk_fld T hr ha hg hdb he hpl pins s σ H Q I ?_
  obtain ⟨F, ρ, μ, Ed, R, hd, kk⟩ := h
  refine ⟨F, ρ, μ, _, R, hd, fun vs F1 μ1 H1 ds e1 o1 w1 q1 => ?_⟩
  match ds, w1, q1 with
  | [d], .cons (v := v) w .nil, q1 =>
    refine ⟨v, rfl, fun dx hdx => ?_⟩
    obtain ⟨o2, e2⟩ := o1.layN hdx (.xd [(f, v)])
    obtain ⟨hf, hm⟩ := o1.fresh hdx
    exact kk _ _ F1 μ1 _ x [(f, d)] (e1.trans e2) o2 ⟨C, rfl, T.gC, .inr ⟨dx, [(f, v)], rfl, by simp, e1.live dx hdx, hf, hm, upd_same, rfl, .cons w .nil⟩⟩ q1
theorem XD.mono {K : PySem.W.Frag} {mg : Str → Option Value} {H0 H1 F H : Hp} {μ : Sto} {cv : Value} {od : Option Addr} {c : Str} {fs : List (Str × D)} (h : ∀ a, H1 a = none → H0 a = none) (x : XD K mg H1 F μ H cv od c fs) : XD K mg H0 F μ H cv od c fs := by
  obtain ⟨C, h1, h2, h3⟩ := x
  refine ⟨C, h1, h2, ?_⟩
  rcases h3 with h3 | ⟨d, vfs, a1, a2, a3, a4⟩
  · exact .inl h3
  · exact .inr ⟨d, vfs, a1, a2, h d a3, a4⟩
/-- what is wished of an exception, at the slots -/
def liftWX (K : PySem.W.Frag) (mg : Str → Option Value) (B : Bs) (W : DEnv → DXK) : WX := fun cv od σ H => ∃ F ρ μ c fs, RelB K mg B F ρ μ σ H ∧ XD K mg B.H F μ H cv od c fs ∧ W ρ c fs μ
@[simp] def dRaise (d : TXD) (W : DEnv → DXK) : TSD := fun _ ρ μ => d ρ μ (W ρ)
theorem ds_raise {W : DEnv → DXK} (hc : X.calm = true) (tk : Takes X (liftWX X.K X.mg B W)) (he : DX X e d) : DSt X B (.Raise (some e) none pos) (dRaise d W) := (ps_raise hc tk he).weaken fun D σ H h => by
  obtain ⟨F, ρ, μ, Dd, R, hd, _⟩ := h
  exact ⟨F, ρ, μ, _, R.rel, hd, fun cv od F' μ' H' c fs e o x w => ⟨F', ρ, μ', c, fs, R.step e o, x.mono R.ext.live, w⟩⟩
end
section
variable {P : Program} {w : World} {K : PySem.W.Frag} {mg : Str → Option Value} {base : Heap} {k n : Nat} {f : Addr} {fd : FuncData} {ps : List Str} {S : DSp}
theorem FnG.ofX {name qual : Str} {st : Stmt} {N : List Str} (D : Fun K name qual st f fd) (Sc : FnScope N ps (defScope st)) (len : ∀ ds μ Q E, S ds μ Q E → ds.length = ps.length) (d : DXK → TSD)
    (hd : ∀ ds μ Q E, S ds μ Q E → d E { nx := fun _ μ' => Q .non μ', rt := Q } (startD N.length ds) μ)
    (body : ∀ (cdv : Value) (A : Around) (outer : List Env) (s : Shared) (H : Hp) (E : XK) (Ed : DXK) (B : Bs), Quiet (A.deeper (envOfC qual (defScope st) s.heap.objs.size f cdv)) → Room k (A.deeper (envOfC qual (defScope st) s.heap.objs.size f cdv)) →
      Takes (cxOf (L2.CX P w) P w K mg base N qual (defScope st) f cdv A outer s H E) (liftWX K mg B fun _ => Ed) →
      DSs (cxOf (L2.CX P w) P w K mg base N qual (defScope st) f cdv A outer s H E) B (defBody st) (d Ed)) : FnG P w K mg base (L2.CX P w) (k + 1) f fd ps (liftP K mg S) := by
  refine FnG.of D Sc ?_ ?_
  · rintro vs H Q E ⟨F, μ, ds, Qd, Ed, _, h2, h3, _⟩
    exact h2.length.trans (len _ _ _ _ h3)
  · rintro cdv A outer s H vs Q E quiet room ⟨F, μ, ds, Qd, Ed, h1, h2, h3, h4, h5⟩
    refine ⟨_, body cdv A outer s H E Ed ⟨F, μ, H⟩ quiet room ?_, ?_⟩
    · refine (takes_of rfl rfl rfl rfl).imp fun cv od σ H' w => ?_
      obtain ⟨F1, ρ1, μ1, c, fs, R, x, q⟩ := w
      exact h5 cv od F1 μ1 H' c fs R.ext R.rel.ok x q
    refine ⟨F, startD N.length ds, μ, { nx := fun _ μ' => Qd .non μ', rt := Qd }, start_rel h1 h2, hd _ _ _ _ h3, ?_, fun _ _ _ _ _ _ _ z => z.elim, fun _ _ _ _ _ _ _ z => z.elim, ?_⟩
    · exact fun F' ρ' μ' σ' H' _ R q => h4 .non F' μ' H' .non R.ext R.rel.ok .non q
    · exact h4
theorem Cal.ofX {x : Str} {CX : CXT} (F : FnG P w K mg base CX k f fd ps (liftP K mg S)) (hx : mg x = some (.ref f)) (hk : PySem.W.keepIn K (.ref f) = true) (hb : Binds K fd ps []) : Cal P w K mg base CX k x S := ⟨f, F.toR hb, hx, hk⟩
end
section
variable {X : Cx} {x : Str} {k : Nat} {a b e : Expr} {es : List Expr} {t : TAD} {tt : TTD} {d da db : TED} {p pos : Pos} {B : Bs} {S : DSp} {W : DEnv → DXK}
def liftEB (K : PySem.W.Frag) (mg : Str → Option Value) (B : Bs) (d : TED) : TE := fun σ H Q => ∃ F ρ μ Qd, RelB K mg B F ρ μ σ H ∧ d ρ μ Qd ∧ ∀ v F' μ' H' dv, Ext F μ H F' μ' H' → Ok K mg F' μ' H' → Dt K mg F' v dv → Qd dv μ' → Q v H'
abbrev DEB (X : Cx) (B : Bs) (e : Expr) (d : TED) : Prop := PE X e (liftEB X.K X.mg B d)
@[simp] def dCallX (S : DSp) (t : TAD) (W : DEnv → DXK) : TED := fun ρ μ Q => t ρ μ fun ds μ1 => S ds μ1 Q (W ρ)
theorem run_gx {CX : CXT} {f : Addr} {sp : Sp} {E : XK} {pins : List (Addr × Obj)} {σ : L2.St} {H : Hp} {s : Shared} {Q : VK} {us : List Value} {vs : List V} (F : FR X.prog X.w X.K X.mg X.base CX k f sp) (quiet : Quiet X.A) (room : Room k X.A)
    (hx : PassesAt CX X σ E) (I : Inv X pins σ H s) (r : Vals vs us) (h : sp vs H Q E) : wpAny (model X.prog X.w) X.A (call (.ref f) us) (EP X pins σ Q) X.xe s := by
  refine wpAny_call (codeAny_mono (F X.A X.stack s H us vs Q E quiet room I.env0 r h) ?_)
  intro z s' hz
  match z, hz with
  | .error e, hz => exact hx pins H s e s' I hz
  | .ok (.ret u), hz => exact I.after hz
/-- what the callee lets out is wished for -/
theorem callx_conv {K : PySem.W.Frag} {mg : Str → Option Value} {F1 H1 : Hp} {μ1 : Sto} {ρ : DEnv} {σ : L2.St} {Q : VK} {Qd : DK} {vs : List V} {ds : List D} (R : RelB K mg B F1 ρ μ1 σ H1) (w1 : Dts K mg F1 vs ds) (q : S ds μ1 Qd (W ρ))
    (kk : ∀ v F' μ' H' dv, Ext F1 μ1 H1 F' μ' H' → Ok K mg F' μ' H' → Dt K mg F' v dv → Qd dv μ' → Q v H') : liftP K mg S vs H1 Q (WE (liftWX K mg B W) σ) :=
  ⟨F1, μ1, ds, Qd, W ρ, R.rel.ok, w1, q, kk, fun cv od F' μ' H' c fs e o x w => ⟨F', ρ, μ', c, fs, R.step e o, x.mono R.ext.live, w⟩⟩
theorem deb_call (c : Cal X.prog X.w X.K X.mg X.base (L2.CX X.prog X.w) k x S) (tk : Takes X (liftWX X.K X.mg B W)) (quiet : Quiet X.A) (room : Room k X.A) (hg : Gl X x) (ha : DA X (e :: es) t) (hdb : (x == ("__debug__" : Str)) = false := by decide)
    (he : starEach (e :: es) X.env = (false, eval e X.env) :: starEach es X.env := by rfl) (hpl : (backTo pos (starEach es X.env)).any (·.1) = false := by rfl) : DEB X B (.Call (.Name x p) (e :: es) [] pos) (dCallX S t W) := by
  obtain ⟨f, F, hm, hk⟩ := c.ex
  refine ⟨fun pins s σ H Q I h => ?_⟩
  obtain ⟨F0, ρ, μ, Qd, R, hd, kk⟩ := h
  refine wpAny_Call_Name_kw (ld_glob I hg hm ?_ hdb)
  refine PySem.W.callWith_K (h₀ := X.base) I.ok.mod.kin hk (thn (ha.run pos pins s σ H (fun vs H1 => liftP X.K X.mg S vs H1 Q (WE (liftWX X.K X.mg B W) σ)) I ⟨F0, ρ, μ, _, R.rel, hd, fun vs F1 μ1 H1 ds e1 o1 w1 q1 => ?_⟩) fun us s1 ⟨vs, H1, I1, r, q⟩ => ⟨I1.kIn, ?_⟩) he hpl
  · exact callx_conv (R.step e1 o1) w1 q1 fun v F' μ' H' dv e o w q => kk v F' μ' H' dv (e1.trans e) o w q
  · exact run_gx F quiet room (passAt tk σ) I1 r q
@[simp] def dExprX (d : TED) : TSD := fun D ρ μ => d ρ μ fun _ μ1 => D.nx ρ μ1
theorem ds_setX {i : Nat} {y : Str} (h : ∀ te, PE X e te → PS X (.Assign [.Name y p] e pos) (tAsg te (gName i))) (he : DEB X B e d) : DSt X B (.Assign [.Name y p] e pos) (dSetR i (dVal d)) := (h _ he).weaken fun D σ H h => by
  obtain ⟨F, ρ, μ, Dd, R, hd, kn, kb, kc, kr⟩ := h
  exact ⟨F, ρ, μ, _, R, hd, fun v F' μ' H' dv e o w q => kn F' _ μ' _ H' e.mono ((R.step e o).set w) q⟩
theorem dss_nox {st : List Stmt} {ds : TSD} (h : DSs X.nox B st ds) : DSs X B st ds := PSs.nox h
end
end DL

namespace DL
open PySem PySem.Spec PyProof.Rows L2
/-- the exception's own dict, in the store and out of it -/
def sdel (μ : Sto) (a : Addr) : Sto := fun b => if b = a then none else μ b
def excU (od : Option Addr) (μ : Sto) : Sto := match od with
  | none => μ
  | some d => sdel μ d
section
variable {K : PySem.W.Frag} {mg : Str → Option Value} {B : Bs} {F F' H H' : Hp} {μ μ' : Sto} {ρ : DEnv} {σ : L2.St}
theorem RelB.excU {od : Option Addr} (r : RelB K mg B F ρ μ σ H) : RelB K mg B F ρ (excU od μ) σ H := by
  cases od with
  | none => exact r
  | some d =>
    have le : ∀ {a : Addr}, μ a = none → sdel μ d a = none := fun {a} h => by
      unfold sdel
      split
      · rfl
      · exact h
    have ge : ∀ {a : Addr} {m : MO}, sdel μ d a = some m → μ a = some m := fun {a m} h => by
      unfold sdel at h
      split at h
      · cases h
      · exact h
    refine ⟨⟨⟨r.rel.ok.sub, fun a m e => r.rel.ok.dis a m (ge e), fun a m e => r.rel.ok.sto a m (ge e)⟩, r.rel.len, fun i s e => ?_, r.rel.apart⟩, ⟨r.ext.mono, fun a o e n => ?_, r.ext.live⟩, r.new⟩
    · obtain ⟨v, g1, g2⟩ := r.rel.slot i s e
      refine ⟨v, g1, ?_⟩
      cases s with
      | val d' => exact g2
      | own xs =>
        obtain ⟨a, vs, q1, q2, q3, q4, q5⟩ := g2
        exact ⟨a, vs, q1, q2, le q3, q4, q5⟩
    · obtain ⟨g1, g2, g3⟩ := r.ext.keep a o e n
      exact ⟨g1, g2, le g3⟩
/-- the base of a try: what never changes is that of now -/
theorem RelB.here (r : RelB K mg B F ρ μ σ H) : RelB K mg ⟨F, B.μ, B.H⟩ F ρ μ σ H :=
  ⟨r.rel, ⟨fun _ _ e => e, fun a o e n => ⟨(r.ext.keep a o e n).1, rfl, (r.ext.keep a o e n).2.2⟩, r.ext.live⟩, r.new⟩
theorem ext_back {F0 : Hp} {μ0 : Sto} {H0 : Hp} (r : Ext F0 μ0 H0 F μ H) {F1 : Hp} {μ1 : Sto} {H1 : Hp} (e : Ext F μ0 H0 F1 μ1 H1) : Ext F0 μ0 H0 F1 μ1 H1 :=
  ⟨fun a o h => e.mono a o (r.mono a o h), fun a o h n => by
    obtain ⟨g1, g2, g3⟩ := e.keep a o h n
    exact ⟨g1, g2.trans (r.keep a o h n).2.1, g3⟩, e.live⟩
theorem RelB.back {μ1 : Sto} {F1 H1 : Hp} {ρ1 : DEnv} {σ1 : L2.St} (r : RelB K mg B F ρ μ σ H) (q : RelB K mg ⟨F, B.μ, B.H⟩ F1 ρ1 μ1 σ1 H1) : RelB K mg B F1 ρ1 μ1 σ1 H1 := ⟨q.rel, ext_back r.ext q.ext, q.new⟩
end
/-- the ends of an except suite -/
def exD (i : Nat) (od : Option Addr) (E : DEnds) : DEnds := { nx := fun ρ μ => E.nx (ρ.set i none) (excU od μ), rt := fun d μ => E.rt d (excU od μ), bk := fun ρ μ => E.bk (ρ.set i none) (excU od μ), ct := fun ρ μ => E.ct (ρ.set i none) (excU od μ) }
@[simp] theorem exD_rt {i : Nat} {od : Option Addr} {E : DEnds} {d : D} {μ : Sto} : (exD i od E).rt d μ = E.rt d (excU od μ) := rfl
@[simp] theorem exD_nx {i : Nat} {od : Option Addr} {E : DEnds} {ρ : DEnv} {μ : Sto} : (exD i od E).nx ρ μ = E.nx (ρ.set i none) (excU od μ) := rfl
section
variable {X : Cx} {B : Bs} {x n : Str} {cv : Value} {i : Nat} {body suite : List Stmt} {b₀ : Stmt} {np pos pos' : Pos} {cat : Str → Option Bool} {tb : (DEnv → DXK) → TSD} {ts : Addr → Option Addr → Str → TSD} {Wout : DEnv → DXK}
end
end DL

namespace DL
open PySem PySem.Spec PyProof.Rows L2
structure XTab where
  own : List (Str × Str × Bool)
  blt : List (Str × String × Bool)
def XTab.get (T : XTab) (c q : Str) : Option Bool := (T.own.find? fun z => decide (z.1 = c) && decide (z.2.1 = q)).map (·.2.2)
def XTab.getT (T : XTab) (c : Str) (t : String) : Option Bool := (T.blt.find? fun z => decide (z.1 = c) && decide (z.2.1 = t)).map (·.2.2)
def isCls : D → Bool
  | .gl _ => true
  | .ty _ => true
  | _ => false
def XTab.any (T : XTab) (c : Str) : List D → Option Bool
  | [] => some false
  | .gl q :: r => match T.get c q with
    | some true => if r.all isCls then some true else none
    | some false => T.any c r
    | none => none
  | .ty t :: r => match T.getT c t with
    | some true => if r.all isCls then some true else none
    | some false => T.any c r
    | none => none
  | _ :: _ => none
structure XTabOk (K : PySem.W.Frag) (mg : Str → Option Value) (T : XTab) : Prop where
  own : ∀ z ∈ T.own, ∃ C Q, mg z.1 = some (.ref C) ∧ mg z.2.1 = some (.ref Q) ∧ PySem.W.kitOne K (.ref C) (.ref Q) = some z.2.2 ∧ PySem.W.exmOne K (.ref C) (.ref Q) = some z.2.2 ∧ ExcC K C
  blt : ∀ z ∈ T.blt, ∃ C, mg z.1 = some (.ref C) ∧ PySem.W.kitOne K (.ref C) (.type z.2.1) = some z.2.2 ∧ ExcC K C
section
variable {K : PySem.W.Frag} {mg : Str → Option Value} {T : XTab} {c q : Str} {t : String} {b : Bool} {C : Addr}
theorem XTabOk.get (h : XTabOk K mg T) (e : T.get c q = some b) (hc : mg c = some (.ref C)) : ∃ Q, mg q = some (.ref Q) ∧ PySem.W.kitOne K (.ref C) (.ref Q) = some b ∧ PySem.W.exmOne K (.ref C) (.ref Q) = some b ∧ ExcC K C := by
  unfold XTab.get at e
  obtain ⟨z, hz, rfl⟩ := Option.map_eq_some_iff.mp e
  have hm := List.mem_of_find?_eq_some hz
  have hp := List.find?_some hz
  rw [Bool.and_eq_true, decide_eq_true_eq, decide_eq_true_eq] at hp
  obtain ⟨rfl, rfl⟩ := hp
  obtain ⟨C', Q, h1, h2, h3⟩ := h.own z hm
  rw [hc] at h1
  cases h1
  exact ⟨Q, h2, h3⟩
theorem XTabOk.getT (h : XTabOk K mg T) (e : T.getT c t = some b) (hc : mg c = some (.ref C)) : PySem.W.kitOne K (.ref C) (.type t) = some b ∧ ExcC K C := by
  unfold XTab.getT at e
  obtain ⟨z, hz, rfl⟩ := Option.map_eq_some_iff.mp e
  have hm := List.mem_of_find?_eq_some hz
  have hp := List.find?_some hz
  rw [Bool.and_eq_true, decide_eq_true_eq, decide_eq_true_eq] at hp
  obtain ⟨rfl, rfl⟩ := hp
  obtain ⟨C', h1, h3⟩ := h.blt z hm
  rw [hc] at h1
  cases h1
  exact h3
theorem clsV_of {F : Hp} {v : V} {d : D} (h : isCls d = true) (r : Dt K mg F v d) : ∃ u, ClsV v u := by
  cases r <;> first | exact (Bool.false_ne_true h).elim | skip
  · exact ⟨_, .ty _⟩
  · exact ⟨_, .own _⟩
theorem clsVs_of {F : Hp} : ∀ {vs : List V} {ds : List D}, ds.all isCls = true → Dts K mg F vs ds → ∃ us, Paired ClsV vs us
  | _, _, _, .nil => ⟨[], .nil⟩
  | _, _, h, .cons r rs => by
    rw [List.all_cons, Bool.and_eq_true] at h
    obtain ⟨u, hu⟩ := clsV_of h.1 r
    obtain ⟨us, hus⟩ := clsVs_of h.2 rs
    exact ⟨u :: us, .cons hu hus⟩
theorem XTabOk.any (h : XTabOk K mg T) (hc : mg c = some (.ref C)) {F : Hp} : ∀ (ds : List D) (vs : List V) (b : Bool), T.any c ds = some b → Dts K mg F vs ds → ∃ us, Paired ClsV vs us ∧ PySem.W.kitAny K (.ref C) us = some b
  | [], vs, b, e, r => by
    cases r
    cases e
    exact ⟨[], .nil, rfl⟩
  | d :: ds, vs, b, e, r => by
    cases r with
    | cons r rs =>
      rename_i v vs
      have key : ∀ (g : Option Bool) (u : Value), (match g with | some true => if ds.all isCls then some true else none | some false => T.any c ds | none => none) = some b → ClsV v u → (∀ b', g = some b' → PySem.W.kitOne K (.ref C) u = some b') → ∃ us, Paired ClsV (v :: vs) us ∧ PySem.W.kitAny K (.ref C) us = some b := fun g u e hu hk => by
        match g, e, hk with
        | some true, e, hk =>
          dsimp only at e
          split at e
          · rename_i ha
            cases e
            obtain ⟨us, hus⟩ := clsVs_of ha rs
            exact ⟨u :: us, .cons hu hus, by unfold PySem.W.kitAny; rw [hk true rfl]⟩
          · cases e
        | some false, e, hk =>
          obtain ⟨us, hus, hka⟩ := XTabOk.any h hc ds vs b e rs
          exact ⟨u :: us, .cons hu hus, by unfold PySem.W.kitAny; rw [hk false rfl]; exact hka⟩
        | none, e, hk => cases e
      cases d <;> first | cases e; done | skip
      · rename_i n
        cases r
        exact key (T.getT c n) _ e (.ty n) fun b' hb => (h.getT hb hc).1
      · rename_i x
        cases r
        rename_i a ha
        refine key (T.get c x) _ e (.own a) fun b' hb => ?_
        obtain ⟨Q, h1, h2, _⟩ := h.get hb hc
        rw [ha] at h1
        cases h1
        exact h2
end
/-- the exception's dict is in the store -/
def excHas (od : Option Addr) (μ : Sto) : Prop := match od with
  | none => True
  | some d => ∃ fs, μ d = some (.xd fs)
def rdIsX (a : Addr) (od : Option Addr) (c : Str) (T : XTab) : RDn
  | [.ref x, .gl q], μ, Q => x = a ∧ excHas od μ ∧ ∃ b, T.get c q = some b ∧ Q (.bl b) μ
  | [.ref x, .ty t], μ, Q => x = a ∧ excHas od μ ∧ ∃ b, T.getT c t = some b ∧ Q (.bl b) μ
  | [.ref x, .tup cs], μ, Q => x = a ∧ cs ≠ [] ∧ excHas od μ ∧ ∃ b, T.any c cs = some b ∧ Q (.bl b) μ
  | _, _, _ => False
@[simp] theorem rdIsX_1 {a x : Addr} {od : Option Addr} {c q : Str} {T : XTab} {μ : Sto} {Q : DK} : rdIsX a od c T [.ref x, .gl q] μ Q = (x = a ∧ excHas od μ ∧ ∃ b, T.get c q = some b ∧ Q (.bl b) μ) := rfl
@[simp] theorem rdIsX_2 {a x : Addr} {od : Option Addr} {c : Str} {t : String} {T : XTab} {μ : Sto} {Q : DK} : rdIsX a od c T [.ref x, .ty t] μ Q = (x = a ∧ excHas od μ ∧ ∃ b, T.getT c t = some b ∧ Q (.bl b) μ) := rfl
@[simp] theorem rdIsX_3 {a x : Addr} {od : Option Addr} {c : Str} {cs : List D} {T : XTab} {μ : Sto} {Q : DK} : rdIsX a od c T [.ref x, .tup cs] μ Q = (x = a ∧ cs ≠ [] ∧ excHas od μ ∧ ∃ b, T.any c cs = some b ∧ Q (.bl b) μ) := rfl
section
variable {X : Cx} {a C : Addr} {od : Option Addr} {oe : Obj} {pn : List (Addr × Obj)} {x f c : Str} {e : Expr} {d : TED} {p pos : Pos}
/-- the name of a class of the module -/
theorem de_gl {X : Cx} {q : Str} {p : Pos} (hg : Gl X q) (hm : ∃ C, X.mg q = some (.ref C)) (hd : (q == ("__debug__" : Str)) = false := by decide) : DE X (.Name q p) (dC (.gl q)) := by
  obtain ⟨C, hm⟩ := hm
  exact de_c (pe_glob (v := .ref C) hg hm rfl hd) fun _ => .gl hm
/-- e.f, e the exception that the suite holds -/
@[simp] def dXf (a : Addr) (od : Option Addr) (c cB f : Str) (d : TED) : TED := fun ρ μ Q => d ρ μ fun x μ1 => x = .ref a ∧ c = cB ∧ ∃ dd fs v, od = some dd ∧ μ1 dd = some (.xd fs) ∧ fs.lookup f = some v ∧ Q v μ1
structure FldRd (K : PySem.W.Frag) (mg : Str → Option Value) (cB f : Str) : Prop where
  ex : ∃ C, mg cB = some (.ref C) ∧ XfC K C ∧ PySem.W.findIn K (.ref C) f = some none
theorem dts_lookup {K : PySem.W.Frag} {mg : Str → Option Value} {F : Hp} {f : Str} {v : D} : ∀ {vfs : List (Str × V)} {fs : List (Str × D)}, vfs.map (·.1) = fs.map (·.1) → Dts K mg F (vfs.map (·.2)) (fs.map (·.2)) → fs.lookup f = some v → ∃ w, vfs.lookup f = some w ∧ Dt K mg F w v
  | [], [], _, _, e => by cases e
  | [], _ :: _, e, _, _ => by cases e
  | _ :: _, [], e, _, _ => by cases e
  | (g, w) :: vfs, (g', v') :: fs, e, r, l => by
    rw [List.map_cons, List.map_cons] at e r
    obtain ⟨e1, e2⟩ := List.cons.inj e
    dsimp only at e1
    subst e1
    cases r with
    | cons r rs =>
      rw [List.lookup] at l ⊢
      split at l
      · cases l
        exact ⟨w, rfl, r⟩
      · exact dts_lookup e2 rs l
end
end DL

namespace DL
open PySem PySem.Spec PyProof.Rows L2
section
variable {P : Program} {w : World} {K : PySem.W.Frag} {mg : Str → Option Value} {base : Heap} {k : Nat} {f : Addr} {ps : List Str} {S : DSp}
end
theorem tk_none {X : Cx} {B : Bs} : ∀ B' : Bs, (∀ c d σ H, liftWX X.K X.mg B' (fun _ _ _ _ => False) c d σ H → liftWX X.K X.mg B (fun _ _ _ _ => False) c d σ H) → Takes X (liftWX X.K X.mg B' (fun _ _ _ _ => False)) := fun B' _ => by
  rintro u s' ⟨_, _, _, _, _, _, _, _, _, _, _, _, _, _, _, _, _, _, _, _, _, _, _, z⟩
  exact z.elim
section
variable {K : PySem.W.Frag} {mg : Str → Option Value} {C Q : Addr} {b : Bool}
theorem hcat_of {T : XTab} {x : Str} (h : XTabOk K mg T) (hq : mg x = some (.ref Q)) : ∀ c b C, T.get c x = some b → mg c = some (.ref C) → PySem.W.exmOne K (.ref C) (.ref Q) = some b := fun c b C e hc => by
  obtain ⟨Q', h1, _, h2, _⟩ := h.get e hc
  rw [hq] at h1
  cases h1
  exact h2
theorem kit_sub (hd : PySem.W.hasDictIn K Q = true) (ht : PySem.W.typeIn K (.ref Q) = some (.type "type")) (hs : PySem.W.subIn K (.ref C) (.ref Q) = some b) (hz : PySem.W.subIn K (.ref C) (.ref C) = some true) : PySem.W.kitOne K (.ref C) (.ref Q) = some b := by
  unfold PySem.W.kitOne
  by_cases e : C = Q
  · subst e
    rw [hz] at hs
    cases hs
    rw [if_pos (by simp)]
  · rw [if_neg (by simpa using e)]
    unfold PySem.W.kitCls
    obtain ⟨cd, hc, _⟩ := PySem.W.any_some hd
    have e2 : ((PySem.W.clsIn K Q).isSome && PySem.W.typeIn K (.ref Q) == some (.type "type")) = true := by rw [hc, ht] <;> rfl
    dsimp only
    rw [if_pos e2]
    exact hs
end
section
theorem takesN {X : Cx} : Takes X (fun _ _ _ _ => False) := fun _ _ x => by
  obtain ⟨_, _, _, _, _, _, _, _, _, _, _, _, _, _, _, _, z⟩ := x
  exact z.elim
variable {X : Cx} {x : Str} {k : Nat} {e : Expr} {es : List Expr} {t : TAD} {p pos : Pos} {S : DSp}
end
end DL

namespace DL
open PySem PySem.Spec PyProof.Rows L2
@[simp] def dStar (a : TED) (t : TAD) : TAD := fun ρ μ Q => a ρ μ fun x μ1 => match x with
  | .tup xs => t ρ μ1 fun ys μ2 => Q (xs ++ ys) μ2
  | .lst xs => t ρ μ1 fun ys μ2 => Q (xs ++ ys) μ2
  | _ => False
section
variable {X : Cx} {e : Expr} {es : List Expr} {da : TED} {t : TAD} {p : Pos}
theorem da_star (h : DW X e da) (hr : DA X es t) (hs : starEach (.Starred e p :: es) X.env = (true, eval e X.env) :: starEach es X.env := by rfl) : DA X (.Starred e p :: es) (dStar da t) := (StX.pa_star h hr hs).weaken fun σ H Q q => by
  obtain ⟨F, ρ, μ, Qd, R, hd, k⟩ := q
  refine ⟨F, ρ, μ, _, R, hd, fun v F1 μ1 H1 dv e1 o1 w1 q1 => ?_⟩
  split at q1
  · obtain ⟨a, vs, rfl, ha, _, ra⟩ := w1.tup o1
    exact ⟨a, vs, rfl, .inl ha, F1, ρ, μ1, _, R.ext e1 o1, q1, fun us F2 μ2 H2 ds e2 o2 w2 q2 => k (vs ++ us) F2 μ2 H2 _ (e1.trans e2) o2 ((ra.mono e2.mono).append w2) q2⟩
  · obtain ⟨a, vs, rfl, ha, ra⟩ := w1.lst o1
    exact ⟨a, vs, rfl, .inr (.inl (.inl ha)), F1, ρ, μ1, _, R.ext e1 o1, q1, fun us F2 μ2 H2 ds e2 o2 w2 q2 => k (vs ++ us) F2 μ2 H2 _ (e1.trans e2) o2 ((ra.mono e2.mono).append w2) q2⟩
  · exact q1.elim
end
def rngC (lo c : Int) (n : Nat) : List D := (List.range n).map fun k => .int (lo + (k : Nat) * c)
@[simp] def dRng3 (t : TAD) : TSrc := fun ρ μ Q => t ρ μ fun xs μ1 => match xs with
  | [.int i, .int j, .int c] => c = -1 ∧ rngOk i ∧ rngOk j ∧ Q (rngC i (-1) (i - j).toNat) still μ1
  | _ => False
section
variable {X : Cx} {tg e e2 e3 : Expr} {t : TAD} {p pos : Pos}
end
section
variable {X : Cx} {B : Bs}
@[simp] def dAugP (sl : Nat) (r : RD2) (i d : TED) : TSD := fun E ρ μ => ∃ xs, ρ[sl]? = some (some (.own xs)) ∧ i ρ μ fun k μ1 => ∃ n j x, k = .int n ∧ ixN xs.length n = some j ∧ xs[j]? = some x ∧ d ρ μ1 fun y μ2 => r x y μ2 fun z μ3 => E.nx (ρ.set sl (some (.own (xs.set j z)))) μ3
end
def rdIMul : RD2 := rdI (fun i j => (-18446744073709551616 < i ∧ i < 18446744073709551616) ∨ (-18446744073709551616 < j ∧ j < 18446744073709551616)) fun i j => .int (i * j)
@[simp] theorem rdIMul_i {i j : Int} {μ : Sto} {Q : DK} : rdIMul (.int i) (.int j) μ Q = (((-18446744073709551616 < i ∧ i < 18446744073709551616) ∨ (-18446744073709551616 < j ∧ j < 18446744073709551616)) ∧ Q (.int (i * j)) μ) := rfl
section
variable {X : Cx}
end
section
variable {X : Cx} {o e : Expr} {es : List Expr} {name : Str} {apos cpos : Pos} {id : String} {r : V → List V → Hp → VK → Prop} {rd : RDm} {to : TE} {t : TA} {d : TED} {ta : TAD}
@[simp] def dMtT (rd : RDm) (d : TED) (t : TAD) : TED := fun ρ μ Q => d ρ μ fun x μ1 => match x with
  | .tup xs => t ρ μ1 fun ys μ2 => rd (.tup xs) ys μ2 Q
  | _ => False
end
def rdIndexT : RDm
  | .tup xs, [.int k], μ, Q => ∃ (ns : List Int) (j : Nat), xs = ns.map D.int ∧ ns[j]? = some k ∧ (∀ m, m < j → ns[m]? ≠ some k) ∧ Q (.int j) μ
  | _, _, _, _ => False
def rdIndexL : RDm
  | .lst xs, [.int k], μ, Q => ∃ (ns : List Int) (j : Nat), xs = ns.map D.int ∧ ns[j]? = some k ∧ (∀ m, m < j → ns[m]? ≠ some k) ∧ Q (.int j) μ
  | _, _, _, _ => False
def rdIndexS : RDm
  | .str s, [.str [c]], μ, Q => ∃ j, s.findIdx? (· == c) = some j ∧ Q (.int j) μ
  | _, _, _, _ => False
@[simp] theorem rdIndexT_1 : rdIndexT (.tup xs) [.int k] μ Q = (∃ (ns : List Int) (j : Nat), xs = ns.map D.int ∧ ns[j]? = some k ∧ (∀ m, m < j → ns[m]? ≠ some k) ∧ Q (.int j) μ) := rfl
@[simp] theorem rdIndexL_1 : rdIndexL (.lst xs) [.int k] μ Q = (∃ (ns : List Int) (j : Nat), xs = ns.map D.int ∧ ns[j]? = some k ∧ (∀ m, m < j → ns[m]? ≠ some k) ∧ Q (.int j) μ) := rfl
@[simp] theorem rdIndexS_1 : rdIndexS (.str s) [.str [c]] μ Q = (∃ j, s.findIdx? (· == c) = some j ∧ Q (.int j) μ) := rfl
section
variable {K : PySem.W.Frag} {mg : Str → Option Value}
end
def rdDivmod : RDn
  | [.int i, .int j], μ, Q => divOk j ∧ Q (.pr (.int (i / j)) (.int (i % j))) μ
  | _, _, _ => False
@[simp] theorem rdDivmod_1 : rdDivmod [.int i, .int j] μ Q = (divOk j ∧ Q (.pr (.int (i / j)) (.int (i % j))) μ) := rfl
end DL

namespace DL
open PySem PySem.Spec PyProof.Rows L2
@[simp] def dAddF (a b : TED) : TFD := fun ρ μ Q => a ρ μ fun x μ1 => b ρ μ1 fun y μ2 => ∃ xs ys, x = .lst xs ∧ y = .lst ys ∧ xs.length + ys.length ≤ SZ ∧ Q (xs ++ ys) μ2
@[simp] def dMulF (a b : TED) : TFD := fun ρ μ Q => a ρ μ fun x μ1 => b ρ μ1 fun y μ2 => ∃ xs n, x = .lst xs ∧ y = .int n ∧ n ≤ 1000000 ∧ -1000000 ≤ n ∧ xs.length * n.toNat ≤ SZ ∧ Q (repl n.toNat xs) μ2
@[simp] def dListF (t : TAD) : TFD := fun ρ μ Q => t ρ μ fun ds μ1 => match ds with
  | [.tup xs] => Q xs μ1
  | [.lst xs] => Q xs μ1
  | _ => False
section
variable {X : Cx} {e f : Expr} {da db : TED} {pos p : Pos} {t : TAD}
theorem df_add (ha : DW X e da) (hb : DW X f db) : DF X (.BinOp e .Add f pos) (dAddF da db) := (pe_op op_cat ha hb).weaken fun σ H Q q => by
  obtain ⟨F, ρ, μ, Qd, R, hd, k⟩ := q
  refine ⟨F, ρ, μ, _, R, hd, fun v F1 μ1 H1 dv e1 o1 w1 q1 => ⟨F1, ρ, μ1, _, R.ext e1 o1, q1, fun u F2 μ2 H2 du e2 o2 w2 q2 => ?_⟩⟩
  obtain ⟨xs, ys, rfl, rfl, hl, q⟩ := q2
  obtain ⟨a, vs, rfl, ha, ra⟩ := (w1.ext e2).lst o2
  obtain ⟨b, us, rfl, hb, rb⟩ := w2.lst o2
  refine ⟨a, b, vs, us, rfl, rfl, ha, hb, by rw [ra.length, rb.length, sizeLine_eq]; exact hl, fun p hp => ?_⟩
  obtain ⟨g1, g2⟩ := o2.layN hp (.lst (vs ++ us))
  obtain ⟨f1, f2⟩ := o2.fresh hp
  exact k _ _ _ _ _ _ ((e1.trans e2).trans g2) g1 ((e1.trans e2).live p hp) f1 f2 upd_same (ra.append rb) q
theorem df_mul (ha : DW X e da) (hb : DW X f db) : DF X (.BinOp e .Mult f pos) (dMulF da db) := (pe_op op_rep ha hb).weaken fun σ H Q q => by
  obtain ⟨F, ρ, μ, Qd, R, hd, k⟩ := q
  refine ⟨F, ρ, μ, _, R, hd, fun v F1 μ1 H1 dv e1 o1 w1 q1 => ⟨F1, ρ, μ1, _, R.ext e1 o1, q1, fun u F2 μ2 H2 du e2 o2 w2 q2 => ?_⟩⟩
  obtain ⟨xs, n, rfl, rfl, h1, h2, hl, q⟩ := q2
  obtain ⟨a, vs, rfl, ha, ra⟩ := (w1.ext e2).lst o2
  refine ⟨a, n, vs, rfl, w2.int, ha, by omega, by omega, by rw [ra.length, sizeLine_eq]; exact hl, fun p hp => ?_⟩
  obtain ⟨g1, g2⟩ := o2.layN hp (.lst (List.replicate n.toNat vs).flatten)
  obtain ⟨f1, f2⟩ := o2.fresh hp
  exact k _ _ _ _ _ _ ((e1.trans e2).trans g2) g1 ((e1.trans e2).live p hp) f1 f2 upd_same (ra.repl _) q
end
def rdIAdd : RD2
  | .int i, .int j, μ, Q => Q (.int (i + j)) μ
  | .str s, .str t, μ, Q => s.length + t.length ≤ SZ ∧ Q (.str (s ++ t)) μ
  | _, _, _, _ => False
@[simp] theorem rdIAdd_1 : rdIAdd (.int i) (.int j) μ Q = Q (.int (i + j)) μ := rfl
@[simp] theorem rdIAdd_2 : rdIAdd (.str s) (.str t) μ Q = (s.length + t.length ≤ SZ ∧ Q (.str (s ++ t)) μ) := rfl
@[simp] def dPar4 (i j k l : Nat) (a b : TRD) (c d : TED) : TSD := fun E ρ μ => a ρ μ fun s μ1 => b ρ μ1 fun t μ2 => c ρ μ2 fun x μ3 => d ρ μ3 fun y μ4 => E.nx ((((ρ.set i (some s)).set j (some t)).set k (some (.val x))).set l (some (.val y))) μ4
section
variable {X : Cx} {B : Bs} {i j k l : Nat} {a b c d t1 t2 t3 t4 : Expr} {da db : TRD} {dc dd : TED} {pt pt2 pos : Pos} {kt k2 : Nat}
end
end DL

namespace DL
open PySem PySem.Spec PyProof.Rows L2
/-- the own lists of the frame are there -/
def Old (ρ : DEnv) (σ : L2.St) (H : Hp) : Prop := ∀ (j : Nat) (xs : List D) (p : Addr), ρ[j]? = some (some (DS.own xs)) → σ[j]? = some (some (V.ref p)) → H p ≠ none
theorem Old.of {K : PySem.W.Frag} {mg : Str → Option Value} {B : Bs} {F H : Hp} {μ : Sto} {ρ : DEnv} {σ : L2.St} (R : RelB K mg B F ρ μ σ H) : Old ρ σ H := fun j xs p z1 z2 => by
  obtain ⟨p2, vs, c1, c2, c3, c4, _⟩ := R.ownAt z1
  rw [c1] at z2
  cases z2
  rw [c4]
  exact fun z => nomatch z
theorem Old.own {K : PySem.W.Frag} {mg : Str → Option Value} {B : Bs} {F F1 H H1 : Hp} {μ μ1 : Sto} {ρ : DEnv} {σ : L2.St} (R : RelB K mg B F ρ μ σ H) (e : Ext F μ H F1 μ1 H1) : Old ρ σ H1 := fun j xs p z1 z2 => by
  obtain ⟨p2, vs, c1, c2, c3, c4, _⟩ := R.ownAt z1
  rw [c1] at z2
  cases z2
  rw [(e.keep p _ c4 c3).1]
  exact fun z => nomatch z
theorem Old.set {K : PySem.W.Frag} {mg : Str → Option Value} {F H0 H H2 : Hp} {μ : Sto} {ρ : DEnv} {σ : L2.St} {i : Nat} {v : V} {s : DS} (h : Old ρ σ H2) (hl : ρ.length = σ.length) (w : ROk K mg H0 F μ H v s) (hk : ∀ p, H p ≠ none → H0 p = none → H2 p ≠ none) :
    Old (ρ.set i (some s)) (σ.set i (some v)) H2 := fun j xs p z1 z2 => by
  by_cases hj : i = j
  · subst hj
    have hi : i < ρ.length := by
      have := (List.getElem?_eq_some_iff.mp z1).1
      rwa [List.length_set] at this
    rw [List.getElem?_set_self hi] at z1
    cases z1
    obtain ⟨p2, vs, rfl, c1, c2, c3, c4, c5⟩ := w
    rw [List.getElem?_set_self (by rw [← hl]; exact hi)] at z2
    cases z2
    exact hk _ (by rw [c4]; exact fun z => nomatch z) c1
  · rw [List.getElem?_set_ne hj] at z1 z2
    exact h j xs p z1 z2
theorem Old.ext {F F' H H' : Hp} {μ μ' : Sto} {ρ : DEnv} {σ : L2.St} (h : Old ρ σ H) (e : Ext F μ H F' μ' H') : Old ρ σ H' := fun j xs p z1 z2 z => h j xs p z1 z2 (e.live p z)
/-- x, y, z = a, b, c: results -/
@[simp] def dParR (i j l : Nat) (a b c : TRD) : TSD := fun E ρ μ => a ρ μ fun s μ1 => b ρ μ1 fun t μ2 => c ρ μ2 fun u μ3 => E.nx (((ρ.set i (some s)).set j (some t)).set l (some u)) μ3
section
variable {X : Cx} {B : Bs} {i j l : Nat} {a b c : Expr} {da db dc : TRD} {pos : Pos} {kt k2 : Nat}
end
end DL

namespace DL
open PySem PySem.Spec PyProof.Rows L2
section
variable {X : Cx} {B : Bs} {i j : Nat} {a b : Expr} {da db : TRD} {pos : Pos} {kt k2 : Nat}
end
end DL

namespace DL
open PySem PySem.Spec PyProof.Rows L2
def keyPy : Key → PyData
  | .inl i => .int i
  | .inr s => .str s
mutual
/-- data at a value, dicts with them -/
inductive Dq (K : PySem.W.Frag) (H : Hp) : V → PyData → Prop
  | non : Dq K H .non .none
  | bl (b : Bool) : Dq K H (.bl b) (.bool b)
  | int (i : Int) : Dq K H (.int i) (.int i)
  | str (x : Str) : Dq K H (.str x) (.str x)
  | lst {a : Addr} {xs : List V} {ds : List PyData} : SqL K H a xs → DqAll K H xs ds → Dq K H (.ref a) (.list ds)
  | tup {a : Addr} {xs : List V} {ds : List PyData} : SqT K H a xs → DqAll K H xs ds → Dq K H (.ref a) (.tuple ds)
  | dct {a : Addr} {kvs : List (Key × V)} {ds : List (PyData × PyData)} : H a = some (.dK kvs) → DqKv K H kvs ds → Dq K H (.ref a) (.dict ds)
inductive DqAll (K : PySem.W.Frag) (H : Hp) : List V → List PyData → Prop
  | nil : DqAll K H [] []
  | cons {v : V} {vs : List V} {d : PyData} {ds : List PyData} : Dq K H v d → DqAll K H vs ds → DqAll K H (v :: vs) (d :: ds)
inductive DqKv (K : PySem.W.Frag) (H : Hp) : List (Key × V) → List (PyData × PyData) → Prop
  | nil : DqKv K H [] []
  | cons {k : Key} {v : V} {kvs : List (Key × V)} {d : PyData} {ds : List (PyData × PyData)} : Dq K H v d → DqKv K H kvs ds → DqKv K H ((k, v) :: kvs) ((keyPy k, d) :: ds)
end
section
variable {X : Cx} {pins : List (Addr × Obj)} {σ : L2.St} {H : Hp} {s : Shared}
theorem keys_read {P : Program} {w : World} {h : Heap} : ∀ {es : List DictEntry} {kvs : List (Key × Value)}, Pairs (mixKind P w) es kvs → ReadsAll h (es.map (·.key)) (kvs.map fun kv => keyPy kv.1) []
  | _, _, .nil => .nil
  | _, _, .cons (e := e) (kv := kv) h1 _ r => by
    have ih := keys_read (h := h) r
    have one : Reads h e.key (keyPy kv.1) [] := by
      obtain ⟨k, v⟩ := kv
      rcases keyIs_shape h1 with ⟨i, t, e1, e2⟩ | ⟨x, t, e1, e2⟩
      · dsimp only at e1
        subst e1
        rw [e2]
        exact .int i t
      · dsimp only at e1
        subst e1
        rw [e2]
        exact .str x t
    exact .cons (as := []) (bs := []) one ih
theorem vals_are {P : Program} {w : World} : ∀ {es : List DictEntry} {kvs : List (Key × Value)}, Pairs (mixKind P w) es kvs → es.map (·.val) = kvs.map (·.2)
  | _, _, .nil => rfl
  | _, _, .cons _ h2 r => by rw [List.map_cons, List.map_cons, h2, vals_are r]
/-- what is read of a value, and how it is shown -/
def RP (P : Program) (w : World) (h : Heap) (v : Value) (d : PyData) : Prop := ∃ as bs, Reads h v d as ∧ ReadAtMost h d.depth bs ∧ ReprK P w bs h d.depth v d.shown
def RPA (P : Program) (w : World) (h : Heap) (vs : List Value) (ds : List PyData) : Prop := ∃ as bs, ReadsAll h vs ds as ∧ ReadAtMost h (PyData.depthAll ds) bs ∧ ReprAllK P w bs h (PyData.depthAll ds) vs (PyData.shownAll ds)
theorem rp_flat {P : Program} {w : World} {h : Heap} {v : Value} {d : PyData} (r : Reads h v d []) (hs : d.showable = true) (hz : d.shown.length ≤ sizeLine) : RP P w h v d := by
  obtain ⟨bs, h1, h2⟩ := ReprK.of_reads (prog := P) (w := w) r hs (fun _ z => nomatch z) hz
  exact ⟨[], bs, r, h1, h2⟩
theorem rpa_nil {P : Program} {w : World} {h : Heap} : RPA P w h [] [] := ⟨[], [], .nil, (fun _ z => nomatch z), .nil⟩
theorem rpa_cons {P : Program} {w : World} {h : Heap} {v : Value} {vs : List Value} {d : PyData} {ds : List PyData} (r : RP P w h v d) (rs : RPA P w h vs ds) : RPA P w h (v :: vs) (d :: ds) := by
  obtain ⟨as, b1, q1, m1, k1⟩ := r
  obtain ⟨cs, b2, q2, m2, k2⟩ := rs
  have l1 : d.depth ≤ PyData.depthAll (d :: ds) := Nat.le_max_left _ _
  have l2 : PyData.depthAll ds ≤ PyData.depthAll (d :: ds) := Nat.le_max_right _ _
  exact ⟨as ++ cs, b1 ++ b2, .cons q1 q2, (m1.mono l1).append (m2.mono l2), .cons ((k1.more fun b z => List.mem_append_left _ z).level_le l1) (k2.more_le (fun b z => List.mem_append_right _ z) l2)⟩
theorem deeper {h : Heap} {a : Addr} {d : PyData} {as bs : List Addr} {n : Nat} (r : Reads h (.ref a) d as) (hn : n < d.depth) (m : ReadAtMost h n bs) : a ∉ bs := not_mem_of_deeper r hn m
theorem rp_list {P : Program} {w : World} {h : Heap} {a : Addr} {o : Obj} {vs : Array Value} {n : Nat} {ds : List PyData} (h1 : h.get? a = some o) (h2 : o.cls = .type "list") (h3 : o.data = .seq vs n) (rs : RPA P w h vs.toList ds) : RP P w h (.ref a) (.list ds) := by
  obtain ⟨as, bs, q, m, k⟩ := rs
  have r : Reads h (.ref a) (.list ds) (a :: as) := Reads.list h1 h2 h3 q
  have lt : PyData.depthAll ds < (PyData.list ds).depth := by show _ < PyData.depthAll ds + 1; omega
  have hna := deeper r lt m
  refine ⟨_, a :: bs, r, ReadAtMost.cons r (Nat.le_refl _) (m.mono (Nat.le_of_lt lt)), ?_⟩
  show ReprK P w (a :: bs) h (PyData.depthAll ds + 1) (.ref a) (listText (PyData.shownAll ds))
  obtain ⟨l⟩ := vs
  cases l with
  | nil =>
    cases (show ReadsAll h [] ds as from q)
    show ReprK P w (a :: bs) h _ (.ref a) (listText [])
    rw [listText_nil]; exact ReprK.listEmpty h1 h2 h3
  | cons x l => exact ReprK.list h1 h2 h3 hna (by simpa using k.length_eq) fun i y e => k.item i y (by simpa using e)
theorem rp_tuple {P : Program} {w : World} {h : Heap} {a : Addr} {o : Obj} {vs : Array Value} {n : Nat} {ds : List PyData} (h1 : h.get? a = some o) (h2 : o.cls = .type "tuple") (h3 : o.data = .seq vs n) (rs : RPA P w h vs.toList ds) : RP P w h (.ref a) (.tuple ds) := by
  obtain ⟨as, bs, q, m, k⟩ := rs
  have r : Reads h (.ref a) (.tuple ds) as := Reads.tuple h1 h2 h3 q
  have lt : PyData.depthAll ds < (PyData.tuple ds).depth := by show _ < PyData.depthAll ds + 1; omega
  have hna := deeper r lt m
  exact ⟨_, a :: bs, r, ReadAtMost.cons r (Nat.le_refl _) (m.mono (Nat.le_of_lt lt)), ReprK.tuple h1 h2 h3 hna k⟩
theorem rp_dict {P : Program} {w : World} {h : Heap} {a : Addr} {o : Obj} {es : Array DictEntry} {n : Nat} {kvs : List (PyData × PyData)} (h1 : h.get? a = some o) (h2 : o.cls = .type "dict") (h3 : o.data = .dict es n) (hn : (a == sysModules) = false)
    (rk : RPA P w h (es.toList.map (·.key)) (kvs.map (·.1))) (rv : RPA P w h (es.toList.map (·.val)) (kvs.map (·.2))) : RP P w h (.ref a) (.dict kvs) := by
  obtain ⟨as, b1, q1, m1, k1⟩ := rk
  obtain ⟨cs, b2, q2, m2, k2⟩ := rv
  have r : Reads h (.ref a) (.dict kvs) (a :: as ++ cs) := Reads.dict h1 h2 h3 q1 q2
  have lt : PyData.depthKv kvs < (PyData.dict kvs).depth := by show _ < PyData.depthKv kvs + 1; omega
  have m := (m1.mono (PyData.depthAll_keys_le kvs)).append (m2.mono (PyData.depthAll_vals_le kvs))
  have hna := deeper r lt m
  refine ⟨_, a :: (b1 ++ b2), r, ReadAtMost.cons r (Nat.le_refl _) (m.mono (Nat.le_of_lt lt)), ?_⟩
  show ReprK P w (a :: (b1 ++ b2)) h (PyData.depthKv kvs + 1) (.ref a) (dictText (PyData.shownKv kvs))
  rw [PyData.shownKv_eq]
  exact ReprK.dict h1 h2 h3 hn hna (ReprEntriesK.of_two es.toList _ _ (k1.more_le (fun b z => List.mem_append_left _ z) (PyData.depthAll_keys_le kvs)) (k2.more_le (fun b z => List.mem_append_right _ z) (PyData.depthAll_vals_le kvs)))
/-- texts of texts are small -/
def Fits (d : PyData) : Prop := d.showable = true ∧ d.shown.length ≤ sizeLine
def FitsAll (ds : List PyData) : Prop := PyData.showableAll ds = true ∧ ∀ t ∈ PyData.shownAll ds, t.length ≤ sizeLine
theorem Fits.list {ds : List PyData} (h : Fits (.list ds)) : FitsAll ds := ⟨h.1, fun t ht => Nat.le_trans (listText_mem_le ht) h.2⟩
theorem Fits.tuple {ds : List PyData} (h : Fits (.tuple ds)) : FitsAll ds := ⟨h.1, fun t ht => Nat.le_trans (tupleText_mem_le ht) h.2⟩
theorem FitsAll.head {d : PyData} {ds : List PyData} (h : FitsAll (d :: ds)) : Fits d := ⟨(Bool.and_eq_true_iff.mp h.1).1, h.2 _ (List.mem_cons_self ..)⟩
theorem FitsAll.tail {d : PyData} {ds : List PyData} (h : FitsAll (d :: ds)) : FitsAll ds := ⟨(Bool.and_eq_true_iff.mp h.1).2, fun t ht => h.2 t (List.mem_cons_of_mem _ ht)⟩
theorem Fits.dict {kvs : List (PyData × PyData)} (h : Fits (.dict kvs)) : FitsAll (kvs.map (·.1)) ∧ FitsAll (kvs.map (·.2)) := by
  obtain ⟨a, b⟩ := PyData.showableKv_split kvs h.1
  refine ⟨⟨a, fun t ht => ?_⟩, b, fun t ht => ?_⟩
  · obtain ⟨p, hp, hl⟩ := PyData.shownKv_key_le kvs t ht
    exact Nat.le_trans hl (Nat.le_trans (dictText_mem_le hp) h.2)
  · obtain ⟨p, hp, hl⟩ := PyData.shownKv_val_le kvs t ht
    exact Nat.le_trans hl (Nat.le_trans (dictText_mem_le hp) h.2)
theorem rpa_keys {P : Program} {w : World} {h : Heap} : ∀ {ks : List Value} {ds : List PyData}, ReadsAll h ks ds [] → FitsAll ds → RPA P w h ks ds := fun {ks ds} r f => by
  obtain ⟨bs, h1, h2⟩ := ReprAllK.of_readsAll (prog := P) (w := w) r f.1 (fun _ z => nomatch z) f.2
  exact ⟨[], bs, r, h1, h2⟩
mutual
theorem Dq.rp (I : Inv X pins σ H s) : ∀ (d : PyData) (v : V) (u : Value), Dq X.K H v d → RelV v u → Fits d → RP X.prog X.w s.heap u d
  | .none, _, _, h, r, f => by
    cases h
    cases r
    exact rp_flat .none f.1 f.2
  | .bool b, _, _, h, r, f => by
    cases h
    cases r
    exact rp_flat (.bool b) f.1 f.2
  | .int i, _, _, h, r, f => by
    cases h
    obtain ⟨t, rfl⟩ := r
    exact rp_flat (.int i t) f.1 f.2
  | .str x, _, _, h, r, f => by
    cases h
    obtain ⟨t, rfl⟩ := r
    exact rp_flat (.str x t) f.1 f.2
  | .list ds, _, _, h, r, f => by
    cases h with
    | lst hs ha =>
      cases r
      obtain ⟨its, rv, ⟨o, n, ho, hc, _, hd⟩, _⟩ := I.list hs
      exact rp_list ho hc hd (by simpa using Dq.rpa I ds _ its ha rv f.list)
  | .tuple ds, _, _, h, r, f => by
    cases h with
    | tup hs ha =>
      cases r
      obtain ⟨its, rv, ⟨o, ho, hc, n, hd⟩, _⟩ := I.tuple hs
      exact rp_tuple ho hc hd (by simpa using Dq.rpa I ds _ its ha rv f.tuple)
  | .dict ds, _, _, h, r, f => by
    cases h with
    | dct he ha =>
      cases r
      obtain ⟨_, hns, vs, kv, o, es, ep, ho, hx, hd, hk, hp, _⟩ := dk_of I.hok he
      obtain ⟨ek, rv⟩ := Dq.rpv I ds _ vs ha kv f.dict.2
      have r1 := keys_read (h := s.heap) hp
      rw [ek] at r1
      exact rp_dict ho hx.1 hd hns (rpa_keys r1 f.dict.1) (by rw [vals_are hp]; exact rv)
theorem Dq.rpa (I : Inv X pins σ H s) : ∀ (ds : List PyData) (vs : List V) (us : List Value), DqAll X.K H vs ds → Vals vs us → FitsAll ds → RPA X.prog X.w s.heap us ds
  | [], _, _, h, r, f => by
    cases h
    cases r
    exact rpa_nil
  | d :: ds, _, _, h, r, f => by
    cases h with
    | cons h1 h2 =>
      cases r with
      | cons r1 r2 => exact rpa_cons (Dq.rp I d _ _ h1 r1 f.head) (Dq.rpa I ds _ _ h2 r2 f.tail)
theorem Dq.rpv (I : Inv X pins σ H s) : ∀ (ds : List (PyData × PyData)) (kvs : List (Key × V)) (vs : List (Key × Value)), DqKv X.K H kvs ds → KV kvs vs → FitsAll (ds.map (·.2)) → (vs.map fun kv => keyPy kv.1) = ds.map (·.1) ∧ RPA X.prog X.w s.heap (vs.map (·.2)) (ds.map (·.2))
  | [], _, _, h, r, f => by
    cases h
    cases r
    exact ⟨rfl, rpa_nil⟩
  | d :: ds, _, _, h, r, f => by
    cases h with
    | cons h1 h2 =>
      cases r with
      | cons r1 r2 =>
        obtain ⟨e2, q2⟩ := Dq.rpv I ds _ _ h2 r2 f.tail
        refine ⟨?_, rpa_cons (Dq.rp I _ _ _ h1 r1.2 f.head) q2⟩
        rw [List.map_cons, List.map_cons, e2, ← r1.1]
end
end
/-- the repr of an object, by its own rule -/
theorem call_rp {P : Program} {w : World} {A : Around} {E : Value → Shared → Prop} {s : Shared} {a : Addr} {d : PyData} {T idr : String} {Q : Value → Shared → Prop} (S : ShowsBy P w s.heap a d T idr) (hg : A.guards = some []) (hu : A.units + (d.depth + 1) < cLine)
    (hQ : ∀ h' u tk, (∀ b o, s.heap.get? b = some o → h'.get? b = some o) → Q (.str d.shown u) { s with heap := h', toks := tk }) : wpAny (model P w) A (call (.builtin "repr") [.ref a]) Q E s :=
  call_repr_slot (by omega) (S.typeIs s fun _ _ e => e) S.slotRepr (S.call A.in1 E s _ hg (show A.units + 1 + d.depth < cLine by omega) (fun _ _ e => e) fun h' u tk hk => ⟨_, _, rfl, hQ h' u tk hk⟩)
theorem shows_list {P : Program} {w : World} {h : Heap} {a : Addr} {o : Obj} {vs : Array Value} {n : Nat} {ds : List PyData} (h1 : h.get? a = some o) (h2 : o.cls = .type "list") (h3 : o.data = .seq vs n) (rs : RPA P w h vs.toList ds) (f : Fits (.list ds)) : ShowsBy P w h a (.list ds) "list" "list.__repr__" := by
  obtain ⟨as, bs, q, m, k⟩ := rs
  have lt : PyData.depthAll ds < (PyData.list ds).depth := by show _ < PyData.depthAll ds + 1; omega
  have hna := deeper (Reads.list h1 h2 h3 q) lt m
  refine ⟨F.slot_list_repr.toG, F.slot_list_str, F.slot_list_format, fun s hk => ⟨o, hk _ _ h1, h2⟩, fun A E s Q hg hu hk hQ => ?_⟩
  have hu' : A.units + (PyData.depthAll ds + 1) < cLine := hu
  obtain ⟨l⟩ := vs
  cases l with
  | nil =>
    cases (show ReadsAll h [] ds as from q)
    refine call_list_repr_empty ⟨o, hk _ _ h1, h2⟩ (hk _ _ h1) h3 ?_
    have := hQ s.heap
    rw [show (PyData.list []).shown = "[]" from listText_nil] at this
    exact this _ _ fun _ _ e => e
  | cons x l => exact call_list_reprK h1 h2 h3 hna (by simpa using k.length_eq) (fun i y e => k.item i y (by simpa using e)) hg (fun b _ => Clear.nil b) hu' hk hQ f.2
theorem shows_tuple {P : Program} {w : World} {h : Heap} {a : Addr} {o : Obj} {vs : Array Value} {n : Nat} {ds : List PyData} (h1 : h.get? a = some o) (h2 : o.cls = .type "tuple") (h3 : o.data = .seq vs n) (rs : RPA P w h vs.toList ds) (f : Fits (.tuple ds)) : ShowsBy P w h a (.tuple ds) "tuple" "tuple.__repr__" := by
  obtain ⟨as, bs, q, m, k⟩ := rs
  have lt : PyData.depthAll ds < (PyData.tuple ds).depth := by show _ < PyData.depthAll ds + 1; omega
  have hna := deeper (Reads.tuple h1 h2 h3 q) lt m
  exact ⟨F.slot_tuple_repr, F.slot_tuple_str, F.slot_tuple_format, fun s hk => ⟨o, hk _ _ h1, h2⟩, fun A E s Q hg hu hk hQ => call_tuple_reprK h1 h2 h3 hna k hg (fun b _ => Clear.nil b) (show A.units + (PyData.depthAll ds + 1) < cLine from hu) hk hQ f.2⟩
theorem shows_dict {P : Program} {w : World} {h : Heap} {a : Addr} {o : Obj} {es : Array DictEntry} {n : Nat} {kvs : List (PyData × PyData)} (h1 : h.get? a = some o) (h2 : o.cls = .type "dict") (h3 : o.data = .dict es n) (hn : (a == sysModules) = false)
    (rk : RPA P w h (es.toList.map (·.key)) (kvs.map (·.1))) (rv : RPA P w h (es.toList.map (·.val)) (kvs.map (·.2))) (f : Fits (.dict kvs)) : ShowsBy P w h a (.dict kvs) "dict" "dict.__repr__" := by
  obtain ⟨as, b1, q1, m1, k1⟩ := rk
  obtain ⟨cs, b2, q2, m2, k2⟩ := rv
  have lt : PyData.depthKv kvs < (PyData.dict kvs).depth := by show _ < PyData.depthKv kvs + 1; omega
  have hna := deeper (Reads.dict h1 h2 h3 q1 q2) lt ((m1.mono (PyData.depthAll_keys_le kvs)).append (m2.mono (PyData.depthAll_vals_le kvs)))
  refine ⟨F.slot_dict_repr, F.slot_dict_str, F.slot_dict_format, fun s hk => ⟨o, hk _ _ h1, h2⟩, fun A E s Q hg hu hk hQ => ?_⟩
  have hQ' : ∀ h' u tk, (∀ b o, s.heap.get? b = some o → h'.get? b = some o) → Q (.str (dictText (PyData.shownKv kvs)) u) { s with heap := h', toks := tk } := hQ
  have fz : (dictText (PyData.shownKv kvs)).length ≤ sizeLine := f.2
  rw [PyData.shownKv_eq] at hQ' fz
  exact call_dict_reprK h1 h2 h3 hn hna (ReprEntriesK.of_two es.toList _ _ (k1.more_le (fun b z => List.mem_append_left _ z) (PyData.depthAll_keys_le kvs)) (k2.more_le (fun b z => List.mem_append_right _ z) (PyData.depthAll_vals_le kvs))) hg (fun b _ => Clear.nil b) (show A.units + (PyData.depthKv kvs + 1) < cLine from hu) hk hQ' fz
section
variable {X : Cx} {pins : List (Addr × Obj)} {σ : L2.St} {H : Hp} {s : Shared}
theorem Dq.shows (I : Inv X pins σ H s) {d : PyData} {a : Addr} (h : Dq X.K H (.ref a) d) (f : Fits d) : ∃ T idr, ShowsBy X.prog X.w s.heap a d T idr := by
  cases h with
  | lst hs ha =>
    obtain ⟨its, rv, ⟨o, n, ho, hc, _, hd⟩, _⟩ := I.list hs
    exact ⟨_, _, shows_list ho hc hd (by simpa using Dq.rpa I _ _ its ha rv f.list) f⟩
  | tup hs ha =>
    obtain ⟨its, rv, ⟨o, ho, hc, n, hd⟩, _⟩ := I.tuple hs
    exact ⟨_, _, shows_tuple ho hc hd (by simpa using Dq.rpa I _ _ its ha rv f.tuple) f⟩
  | dct he ha =>
    obtain ⟨_, hns, vs, kv, o, es, ep, ho, hx, hd, hk, hp, _⟩ := dk_of I.hok he
    obtain ⟨ek, rv⟩ := Dq.rpv I _ _ vs ha kv f.dict.2
    have r1 := keys_read (h := s.heap) hp
    rw [ek] at r1
    exact ⟨_, _, shows_dict ho hx.1 hd hns (rpa_keys r1 f.dict.1) (by rw [vals_are hp]; exact rv) f⟩
end
mutual
def D.pyO : D → PyData
  | .non => .none
  | .bl b => .bool b
  | .int i => .int i
  | .str x => .str (S x)
  | .tup xs => .tuple (D.pysO xs)
  | .lst xs => .list (D.pysO xs)
  | .dct kvs => .dict (D.kvsO kvs)
  | _ => .none
def D.pysO : List D → List PyData
  | [] => []
  | x :: xs => x.pyO :: D.pysO xs
def D.kvsO : List (Key × D) → List (PyData × PyData)
  | [] => []
  | (k, v) :: r => (keyPy k, v.pyO) :: D.kvsO r
end
mutual
/-- plain data, dicts with them -/
def D.plain : D → Bool
  | .non => true
  | .bl _ => true
  | .int _ => true
  | .str _ => true
  | .tup xs => D.plains xs
  | .lst xs => D.plains xs
  | .dct kvs => D.plainKv kvs
  | _ => false
def D.plains : List D → Bool
  | [] => true
  | x :: xs => x.plain && D.plains xs
def D.plainKv : List (Key × D) → Bool
  | [] => true
  | (_, v) :: r => v.plain && D.plainKv r
end
section
variable {K : PySem.W.Frag} {mg : Str → Option Value} {F H : Hp} {μ : Sto}
mutual
theorem Dt.dq (hF : ∀ a o, F a = some o → H a = some o) : ∀ {v : V} {d : D}, Dt K mg F v d → d.plain = true → Dq K H v d.pyO
  | _, _, .non, _ => .non
  | _, _, .bl b, _ => .bl b
  | _, _, .int i, _ => .int i
  | _, _, .str x, _ => .str (S x)
  | _, _, .tup h r, q => .tup (SqT.mono' hF h.sq) (Dts.dq hF r q)
  | _, _, .lst h r, q => .lst (.inl (.inl (hF _ _ h))) (Dts.dq hF r q)
  | _, _, .dct h r, q => .dct (hF _ _ h) (Dks.dq hF r q)
  | _, _, .scr _, q => nomatch q
  | _, _, .ref _, q => nomatch q
  | _, _, .ty _, q => nomatch q
  | _, _, .gl _, q => nomatch q
  | _, _, .pr _ _ _, q => nomatch q
  | _, _, .obj _ _ _ _, q => nomatch q
  | _, _, .exn0 _ _ _ _, q => nomatch q
  | _, _, .exn1 _ _ _ _ _ _ _, q => nomatch q
theorem Dts.dq (hF : ∀ a o, F a = some o → H a = some o) : ∀ {vs : List V} {ds : List D}, Dts K mg F vs ds → D.plains ds = true → DqAll K H vs (D.pysO ds)
  | _, _, .nil, _ => .nil
  | _, _, .cons h r, q => .cons (Dt.dq hF h (Bool.and_eq_true_iff.mp q).1) (Dts.dq hF r (Bool.and_eq_true_iff.mp q).2)
theorem Dks.dq (hF : ∀ a o, F a = some o → H a = some o) : ∀ {vs : List (Key × V)} {ds : List (Key × D)}, Dks K mg F vs ds → D.plainKv ds = true → DqKv K H vs (D.kvsO ds)
  | _, _, .nil, _ => .nil
  | _, _, .cons h r, q => .cons (Dt.dq hF h (Bool.and_eq_true_iff.mp q).1) (Dks.dq hF r (Bool.and_eq_true_iff.mp q).2)
end
theorem Wk.dq (o : Ok K mg F μ H) {v : V} {d : D} (h : Wk K mg F μ H v d) (q : d.plain = true) : Dq K H v d.pyO := by
  rcases h with h | ⟨a, vs, xs, rfl, rfl, f, m, hh, r⟩
  · exact Dt.dq o.sub h q
  · exact .lst (.inl (.inl hh)) (Dts.dq o.sub r q)
end
/-- the text of repr -/
def D.repO (d : D) : List Nat := d.pyO.shown.cps.toList
def repOkB (d : D) : Bool := d.plain && d.pyO.showable && decide (d.pyO.depth ≤ 50) && decide (d.repO.length ≤ SZ)
def repOkO (d : D) : Prop := repOkB d = true
def rdReprO : RDn
  | [d], μ, Q => repOkO d ∧ Q (.str d.repO) μ
  | _, _, _ => False
@[simp] theorem rdReprO_1 {d : D} {μ : Sto} {Q : DK} : rdReprO [d] μ Q = (repOkO d ∧ Q (.str d.repO) μ) := rfl
def rReprO (K : PySem.W.Frag) : List V → Hp → VK → Prop := fun xs H Q => ∃ x d, xs = [x] ∧ Dq K H x d ∧ d.showable = true ∧ d.depth ≤ 50 ∧ d.shown.length ≤ sizeLine ∧ Q (.str d.shown) H
theorem call_reprO {X : Cx} (quiet : Quiet X.A) (hu : X.A.units + 64 < cLine) : CallR X (.builtin "repr") (rReprO X.K) := by
  intro pins s σ H xs us Q I r h
  obtain ⟨x, d, rfl, hd, hs, hdep, hsz, q⟩ := h
  obtain ⟨u, rfl, ru⟩ := Vals.one r
  have done : ∀ (tk : Nat) (t : Tok), EP X pins σ Q (.str d.shown t) { s with toks := tk } := fun tk t => ⟨.str d.shown, H, I.tok _, ⟨_, rfl⟩, q⟩
  have big : ∀ {a : Addr}, x = .ref a → u = .ref a → wpAny (model X.prog X.w) X.A (call (.builtin "repr") [u]) (EP X pins σ Q) X.xe s := fun {a} e1 e2 => by
    subst e1 e2
    obtain ⟨T, idr, S⟩ := Dq.shows I hd ⟨hs, hsz⟩
    exact call_rp S quiet (by omega) fun h' t tk keep => ⟨.str _, H, I.kept keep, ⟨_, rfl⟩, q⟩
  cases hd with
  | non => cases ru; exact PySem.P.repr_of_none (done _ _)
  | bl b => cases ru; exact PySem.P.repr_of_bool (done _ _)
  | int i => obtain ⟨t, rfl⟩ := ru; exact PySem.P.repr_of_int (of_decide_eq_true hs) (done _ _)
  | str z => obtain ⟨t, rfl⟩ := ru; exact PySem.P.repr_of_str (done _ _) hsz
  | lst h1 h2 => exact big rfl ru
  | tup h1 h2 => exact big rfl ru
  | dct h1 h2 => exact big rfl ru
theorem cs_reprO {K : PySem.W.Frag} {mg : Str → Option Value} : CallS K mg (rReprO K) rdReprO := by
  intro F μ H vs ds Qd Q o w h k
  unfold rdReprO at h
  split at h
  · obtain ⟨v, rfl, wk⟩ := w.one
    obtain ⟨h, q⟩ := h
    unfold repOkO repOkB at h
    simp only [Bool.and_eq_true, decide_eq_true_eq] at h
    obtain ⟨⟨⟨h1, h2⟩, h3⟩, h4⟩ := h
    refine ⟨v, _, rfl, wk.dq o h1, h2, h3, by rw [sizeLine_eq, ← S_of (D.pyO _).shown, S_len]; exact h4, ?_⟩
    have := fin0 o k (.str (D.repO _)) q
    unfold D.repO at this
    rw [S_of] at this
    exact this
  · exact h.elim
mutual
theorem D.flat_plain : ∀ d : D, d.flat = true → d.plain = true ∧ d.pyO = d.py
  | .non, _ => ⟨rfl, rfl⟩
  | .bl _, _ => ⟨rfl, rfl⟩
  | .int _, _ => ⟨rfl, rfl⟩
  | .str _, _ => ⟨rfl, rfl⟩
  | .tup xs, h => by
    obtain ⟨a, b⟩ := D.flats_plain xs h
    exact ⟨a, congrArg PyData.tuple b⟩
  | .lst xs, h => by
    obtain ⟨a, b⟩ := D.flats_plain xs h
    exact ⟨a, congrArg PyData.list b⟩
  | .dct _, h => nomatch h
  | .scr _, h => nomatch h
  | .ref _, h => nomatch h
  | .ty _, h => nomatch h
  | .gl _, h => nomatch h
  | .pr _ _, h => nomatch h
  | .obj _ _, h => nomatch h
  | .exn _ _, h => nomatch h
theorem D.flats_plain : ∀ ds : List D, D.flats ds = true → D.plains ds = true ∧ D.pysO ds = D.pys ds
  | [], _ => ⟨rfl, rfl⟩
  | x :: xs, h => by
    have h' := Bool.and_eq_true_iff.mp h
    obtain ⟨a1, a2⟩ := D.flat_plain x h'.1
    obtain ⟨b1, b2⟩ := D.flats_plain xs h'.2
    refine ⟨?_, ?_⟩
    · show (x.plain && D.plains xs) = true
      rw [a1, b1]; rfl
    · show x.pyO :: D.pysO xs = x.py :: D.pys xs
      rw [a2, b2]
end
section
variable {X : Cx} {pos : Pos}
theorem de_dict0 : DE X (.Dict [] [] pos) (dC (.dct [])) := pe_dnewK.weaken fun σ H Q q => by
  obtain ⟨F, ρ, μ, Qd, R, hd, k⟩ := q
  intro p hp
  obtain ⟨o2, e2⟩ := R.ok.lay hp (.dK [])
  exact k _ _ μ _ _ e2 o2 (.dct upd_same .nil) hd
/-- {'a': 0} -/
theorem de_dict1 {s : List Nat} {x : Str} {i : Int} {j1 j2 : Nat} {p1 p2 : Pos} (hx : x = S s) : DE X (.Dict [some (.Constant (.str x) j1 p1)] [.Constant (.int i) j2 p2] pos) (dC (.dct [(.inr (S s), .int i)])) := by
  subst hx
  refine (pe_disp (pps_cons pe_str pe_int pps_nil) rfl rfl (fun z => by cases z) (show 1 ≤ 15 by omega)).weaken fun σ H Q q => ?_
  obtain ⟨F, ρ, μ, Qd, R, hd, k⟩ := q
  intro p hp
  refine ⟨upd_same, [(.inr (S s), .int i)], rfl, show 1 ≤ 15 by omega, ?_⟩
  have e : upd (upd H p (.dK [])) p (.dK (mergeK [] [((.inr (S s) : Key), V.int i)])) = upd H p (.dK [(.inr (S s), V.int i)]) := by
    funext b
    by_cases hb : b = p
    · subst hb; rw [upd_same, upd_same]; rfl
    · rw [upd_ne hb, upd_ne hb, upd_ne hb]
  rw [e]
  obtain ⟨o2, e2⟩ := R.ok.lay hp (.dK [(.inr (S s), V.int i)])
  exact k _ _ μ _ _ e2 o2 (.dct upd_same (.cons (.int i) .nil)) hd
end
end DL

namespace DL
open PySem PySem.Spec PyProof.Rows L2
mutual
/-- like ic, with small integers -/
def D.sm : D → Prop
  | .non => True
  | .bl _ => True
  | .int i => i.natAbs < 2 ^ 60
  | .str s => ∀ c ∈ s, c < 1114112
  | .tup xs => D.sms xs
  | .lst xs => D.sms xs
  | .dct _ => False | .scr _ => False | .ref _ => False | .ty _ => False | .gl _ => False | .pr _ _ => False | .obj _ _ => False | .exn _ _ => False
def D.sms : List D → Prop
  | [] => True
  | x :: xs => x.sm ∧ D.sms xs
end
mutual
def D.wS : D → Nat
  | .int _ => 60
  | .str s => s.length
  | .tup xs => D.wSs xs
  | .lst xs => D.wSs xs
  | .non => 0 | .bl _ => 0 | .dct _ => 0 | .scr _ => 0 | .ref _ => 0 | .ty _ => 0 | .gl _ => 0 | .pr _ _ => 0 | .obj _ _ => 0 | .exn _ _ => 0
def D.wSs : List D → Nat
  | [] => 0
  | x :: xs => x.wS + 1 + D.wSs xs
end
mutual
theorem D.sm_all : ∀ d : D, d.sm → d.ic ∧ d.py.intsShort 62 = true ∧ d.py.weight ≤ d.wS
  | .non, _ => ⟨trivial, rfl, Nat.le_refl _⟩
  | .bl _, _ => ⟨trivial, rfl, Nat.le_refl _⟩
  | .int i, h => by
    have hl := log_lt (k := 60) (by decide) h
    refine ⟨Nat.lt_trans h (by decide), ?_, ?_⟩
    · show decide _ = true
      simp only [decide_eq_true_eq]
      have := int_text_length_le (a := i) (k := 60) (by decide) hl
      have e : (PyData.shown (.int i)).length = (toString i).length := by
        show (Str.ofString (toString i)).length = _
        rw [PySem.ofString_length]
      rw [e]
      omega
    · show (if i == 0 then 0 else _) ≤ 60
      split <;> omega
  | .str s, h => by
    refine ⟨h, rfl, ?_⟩
    show s.toArray.size ≤ s.length
    simp
  | .tup xs, h => D.sms_all xs h
  | .lst xs, h => D.sms_all xs h
  | .dct _, h => h.elim
  | .scr _, h => h.elim
  | .ref _, h => h.elim
  | .ty _, h => h.elim
  | .gl _, h => h.elim
  | .pr _ _, h => h.elim
  | .obj _ _, h => h.elim
  | .exn _ _, h => h.elim
theorem D.sms_all : ∀ ds : List D, D.sms ds → D.ics ds ∧ PyData.intsShortAll 62 (D.pys ds) = true ∧ PyData.weightAll (D.pys ds) ≤ D.wSs ds
  | [], _ => ⟨trivial, rfl, Nat.le_refl _⟩
  | x :: xs, h => by
    obtain ⟨a, c, e⟩ := D.sm_all x h.1
    obtain ⟨a', c', e'⟩ := D.sms_all xs h.2
    refine ⟨⟨a, a'⟩, ?_, ?_⟩
    · show (x.py.intsShort 62 && PyData.intsShortAll 62 (D.pys xs)) = true
      rw [c, c']; rfl
    · show x.py.weight + 1 + PyData.weightAll (D.pys xs) ≤ x.wS + 1 + D.wSs xs
      omega
end
theorem repOkS {d : D} (h : d.sm) (hw : d.wS ≤ 250000) (hd : d.dp ≤ 50) : repOk d := by
  obtain ⟨i, c2, e2⟩ := D.sm_all d h
  obtain ⟨a, b, c, e, f⟩ := D.ic_all d i
  refine ⟨a, by omega, ?_⟩
  have h2 := PyData.shown_le 62 (by decide) d.py (PyData.leavesShort_of_canLay0 62 d.py b c2)
  show d.py.shown.cps.toList.length ≤ SZ
  have e3 : d.py.shown.cps.toList.length = d.py.shown.length := by simp [Str.length]
  rw [e3]
  simp only [SZ]
  omega
/-- data that may be written out, of weight at most w and depth at most k -/
structure Shw (w k : Nat) (d : D) : Prop where
  sm : d.sm
  wt : d.wS ≤ w
  dp : d.dp ≤ k
theorem Shw.rep {w k : Nat} {d : D} (h : Shw w k d) (hw : w ≤ 250000) (hk : k ≤ 50) : repOk d := repOkS h.sm (Nat.le_trans h.wt hw) (Nat.le_trans h.dp hk)
theorem Shw.mono {w k w' k' : Nat} {d : D} (h : Shw w k d) (hw : w ≤ w') (hk : k ≤ k') : Shw w' k' d := ⟨h.sm, Nat.le_trans h.wt hw, Nat.le_trans h.dp hk⟩
theorem shw_int {i : Int} (h : i.natAbs < 2 ^ 60) : Shw 60 0 (.int i) := ⟨h, Nat.le_refl _, Nat.le_refl _⟩
theorem shw_nat {i : Nat} (h : i < 1152921504606846976) : Shw 60 0 (.int i) := shw_int (by rw [show (2 : Nat) ^ 60 = 1152921504606846976 from rfl]; omega)
end DL

namespace DL
open PySem PySem.Spec PyProof.Rows L2
structure Shx (t k : Nat) (d : D) : Prop where
  pl : d.plain = true
  sh : d.pyO.showable = true
  dp : d.pyO.depth ≤ k
  ln : d.pyO.shown.length ≤ t
def shxB (t k : Nat) (d : D) : Bool := d.plain && d.pyO.showable && decide (d.pyO.depth ≤ k) && decide (d.pyO.shown.length ≤ t)
theorem shx_dec {t k : Nat} {d : D} (h : shxB t k d = true) : Shx t k d := by
  unfold shxB at h
  simp only [Bool.and_eq_true, decide_eq_true_eq] at h
  exact ⟨h.1.1.1, h.1.1.2, h.1.2, h.2⟩
theorem Shx.mono {t k t' k' : Nat} {d : D} (h : Shx t k d) (ht : t ≤ t') (hk : k ≤ k') : Shx t' k' d := ⟨h.pl, h.sh, Nat.le_trans h.dp hk, Nat.le_trans h.ln ht⟩
theorem Shx.rep {t k : Nat} {d : D} (h : Shx t k d) (ht : t ≤ 16777216) (hk : k ≤ 50) : repOkO d := by
  obtain ⟨a, b, c, e⟩ := h
  unfold repOkO repOkB D.repO
  have e3 : d.pyO.shown.cps.toList.length = d.pyO.shown.length := by simp [Str.length]
  simp only [Bool.and_eq_true, decide_eq_true_eq]
  rw [e3]
  exact ⟨⟨⟨a, b⟩, by omega⟩, by show _ ≤ 16777216; omega⟩
theorem Shw.shx {w k : Nat} {d : D} (h : Shw w k d) : Shx (64 * w + 62) k d := by
  obtain ⟨i, c2, e2⟩ := D.sm_all d h.sm
  obtain ⟨a, b, c, e, f⟩ := D.ic_all d i
  obtain ⟨a1, b1, _⟩ := D.shows_flat d a
  obtain ⟨c1, e1⟩ := D.flat_plain d a1
  have h2 := PyData.shown_le 62 (by decide) d.py (PyData.leavesShort_of_canLay0 62 d.py b c2)
  have := h.wt
  have := h.dp
  refine ⟨c1, by rw [e1]; exact b1, by rw [e1]; omega, ?_⟩
  rw [e1]
  have h4 : (62 + 2) * d.py.weight ≤ 64 * w := Nat.mul_le_mul_left _ (by omega)
  omega
theorem shx_all {t k : Nat} : ∀ xs : List D, (∀ x ∈ xs, Shx t k x) → D.plains xs = true ∧ PyData.showableAll (D.pysO xs) = true ∧ PyData.depthAll (D.pysO xs) ≤ k ∧ ((PyData.shownAll (D.pysO xs)).map (·.length)).sum ≤ xs.length * t ∧ (PyData.shownAll (D.pysO xs)).length = xs.length
  | [], _ => ⟨rfl, rfl, Nat.zero_le _, Nat.zero_le _, rfl⟩
  | x :: xs, h => by
    obtain ⟨a, b, c, e⟩ := h x (by simp)
    obtain ⟨a', b', c', e', f'⟩ := shx_all xs fun y hy => h y (by simp [hy])
    refine ⟨?_, ?_, Nat.max_le.mpr ⟨c, c'⟩, ?_, congrArg (· + 1) f'⟩
    · show (x.plain && D.plains xs) = true
      rw [a, a']; rfl
    · show (x.pyO.showable && PyData.showableAll (D.pysO xs)) = true
      rw [b, b']; rfl
    · show x.pyO.shown.length + ((PyData.shownAll (D.pysO xs)).map (·.length)).sum ≤ _
      rw [List.length_cons, Nat.add_mul]
      omega
theorem shx_lst {t k n : Nat} {xs : List D} (h : ∀ x ∈ xs, Shx t k x) (hl : xs.length ≤ n) : Shx (n * (t + 2) + 3) (k + 1) (.lst xs) := by
  obtain ⟨a, b, c, e, f⟩ := shx_all xs h
  refine ⟨a, b, Nat.succ_le_succ c, ?_⟩
  have h1 := listText_len_le (PyData.shownAll (D.pysO xs))
  have h2 : xs.length * (t + 2) ≤ n * (t + 2) := Nat.mul_le_mul_right _ hl
  rw [Nat.mul_add] at h2
  show (listText (PyData.shownAll (D.pysO xs))).length ≤ _
  omega
theorem shx_nat {i : Nat} (h : i < 1152921504606846976) : Shx 4000 0 (.int i) := (shw_nat h).shx.mono (by omega) (Nat.le_refl _)
theorem shx_bl (b : Bool) : Shx 5 0 (.bl b) := shx_dec (by cases b <;> decide +kernel)
theorem shx_non : Shx 4 0 .non := shx_dec (by decide +kernel)
theorem shx_str {s : List Nat} {n : Nat} (h : ∀ c ∈ s, c < 1114112) (hl : s.length ≤ n) : Shx (10 * n + 2) 0 (.str s) := by
  refine ⟨rfl, rfl, Nat.le_refl _, ?_⟩
  have := StrLaws.reprText_len (S s) (fun c hc => Nat.lt_trans (h c (by simpa using hc)) (by decide))
  have e : (S s).length = s.length := by simp [Str.length]
  show (reprText (S s)).length ≤ _
  omega
end DL

namespace DL
open PySem PySem.Spec PyProof.Rows L2
section
variable {prog : Program} {w : World} {A : Around} {E : Value → Shared → Prop} {s : Shared}
end
section
variable {X : Cx} {e : Expr} {d : TED} {p pos : Pos}
@[simp] def dRevT (d : TED) : TED := fun ρ μ Q => d ρ μ fun x μ1 => match x with
  | .tup xs => Q (.tup xs.reverse) μ1
  | _ => False
def rdListS : RDn
  | [.str s], μ, Q => s.length ≤ SZ ∧ Q (.lst (strD s)) μ
  | _, _, _ => False
@[simp] theorem rdListS_1 {s : List Nat} {μ : Sto} {Q : DK} : rdListS [.str s] μ Q = (s.length ≤ SZ ∧ Q (.lst (strD s)) μ) := rfl
def lrOk (i j : Int) : Prop := 0 ≤ i ∧ i ≤ 16777216 ∧ 0 ≤ j ∧ j ≤ 16777216
@[simp] def dLRngF (d : TED) : TFD := fun ρ μ Q => d ρ μ fun x μ1 => match x with
  | .int j => lrOk 0 j ∧ Q (rngD 0 j.toNat) μ1
  | _ => False
@[simp] def dTRng (d : TED) : TED := fun ρ μ Q => d ρ μ fun x μ1 => match x with
  | .int j => lrOk 0 j ∧ Q (.tup (rngD 0 j.toNat)) μ1
  | _ => False
end
end DL

namespace DL
open PySem PySem.Spec PyProof.Rows L2
section
variable {X : Cx} {a : Expr} {p p2 q pos : Pos} {d : TED}
@[simp] def dSortSetF (d : TED) : TFD := fun ρ μ Q => d ρ μ fun x μ1 => match x with
  | .tup xs => ∃ ns : List Int, xs = ns.map D.int ∧ ns.length < 60 ∧ ∀ out : List Int, out.Pairwise (· < ·) → (∀ k, k ∈ out ↔ k ∈ ns) → Q (out.map D.int) μ1
  | _ => False
@[simp] def dLenSet (d : TED) : TED := fun ρ μ Q => d ρ μ fun x μ1 => match x with
  | .tup xs => ∃ ns : List Int, xs = ns.map D.int ∧ ns.length < 60 ∧ ∀ out : List Int, out.Nodup → (∀ k, k ∈ out ↔ k ∈ ns) → Q (.int out.length) μ1
  | _ => False
end
section
variable {X : Cx}
def rNilC (K : PySem.W.Frag) (f : Bool → Bool) : R2 := fun x y H Q => ∃ a b xs, x = .ref a ∧ y = .ref b ∧ SqL K H a xs ∧ SqL K H b [] ∧ Q (.bl (f xs.isEmpty)) H
theorem op_neNil (hu : X.A.units + 64 < cLine) : OpR X (compareOp .NotEq) (rNilC X.K (!·)) := by
  intro pins s σ H x y v u Q I rx ry h
  obtain ⟨a, b, xs, rfl, rfl, ha, hb, q⟩ := h
  cases rx
  cases ry
  obtain ⟨its, r1, p1, _⟩ := I.list ha
  obtain ⟨its2, r2, p2, _⟩ := I.list hb
  cases r2
  cases r1 with
  | nil =>
    have := SeqAt.RcNeAt.lists (A := X.A) (e := fun _ => true) p1.isList p2.isList rfl (by omega) (fun j h1 _ => absurd h1 (by simp))
    exact this X.prog X.w X.xe _ ⟨.bl false, H, I, rfl, q⟩
  | cons h t =>
    have := SeqAt.RcNeAt.lists_lengths (A := X.A) p1.isList p2.isList (by simp) (by omega)
    exact this X.prog X.w X.xe _ ⟨.bl true, H, I, rfl, q⟩
def rdNilC (f : Bool → Bool) : RD2
  | .lst xs, .lst ys, μ, Q => ys = [] ∧ Q (.bl (f xs.isEmpty)) μ
  | _, _, _, _ => False
abbrev rdNeNil : RD2 := rdNilC (!·)
@[simp] theorem rdNilC_1 {f : Bool → Bool} {xs : List D} {μ : Sto} {Q : DK} : rdNilC f (.lst xs) (.lst []) μ Q = Q (.bl (f xs.isEmpty)) μ := by
  show (([] : List D) = [] ∧ _) = _
  simp
theorem ops_nilC {K : PySem.W.Frag} {mg : Str → Option Value} (f : Bool → Bool) : OpS K mg (rNilC K f) (rdNilC f) := by
  intro F μ H x y dx dy Qd Q o wx wy h k
  cases dx <;> first | exact h.elim | skip
  cases dy <;> first | exact h.elim | skip
  obtain ⟨rfl, q⟩ := h
  obtain ⟨a, vs, rfl, ha, ra⟩ := wx.lst o
  obtain ⟨b, ws, rfl, hb, rb⟩ := wy.lst o
  cases rb
  refine ⟨a, b, vs, rfl, rfl, .inl (.inl ha), .inl (.inl hb), fin0 o k (.bl _) ?_⟩
  cases ra <;> exact q
end
end DL

namespace DL
open PySem PySem.Spec PyProof.Rows L2
def keyD : D → Option Key
  | .int i => some (.inl i)
  | .str s => some (.inr (S s))
  | _ => none
@[simp] theorem keyD_int (i : Int) : keyD (.int i) = some (.inl i) := rfl
def valD (kvs : List (Key × D)) (k : Key) : Option D := (kvs.find? fun kv => decide (kv.1 = k)).map (·.2)
def putD (kvs : List (Key × D)) (k : Key) (d : D) : List (Key × D) := if kvs.any fun kv => decide (kv.1 = k) then kvs.map fun kv => if kv.1 = k then (kv.1, d) else kv else kvs ++ [(k, d)]
section
variable {K : PySem.W.Frag} {mg : Str → Option Value} {F H : Hp} {μ : Sto}
theorem Wk.key (o : Ok K mg F μ H) {v : V} {d : D} {k : Key} (h : Wk K mg F μ H v d) (e : keyD d = some k) : v = kV k := by
  cases d <;> first | cases e; done | skip
  · cases e; exact h.int
  · cases e; exact h.str
theorem Dks.val : ∀ {vs : List (Key × V)} {ds : List (Key × D)}, Dks K mg F vs ds → ∀ k, (∀ d, valD ds k = some d → ∃ v, valV vs k = some v ∧ Dt K mg F v d) ∧ (valV vs k).isSome = (valD ds k).isSome
  | _, _, .nil, k => ⟨fun d h => (by cases h), rfl⟩
  | _, _, .cons (k := j) (v := v) (d := d) h r, k => by
    have ih := Dks.val r k
    by_cases e : j = k
    · subst e
      have e1 : ∀ ds, valD ((j, d) :: ds) j = some d := fun ds => by simp [valD]
      have e2 : ∀ vs, valV ((j, v) :: vs) j = some v := fun vs => by simp [valV]
      rw [e1, e2]
      exact ⟨fun d' h' => by cases h'; exact ⟨v, rfl, h⟩, rfl⟩
    · have e1 : ∀ ds, valD ((j, d) :: ds) k = valD ds k := fun ds => by simp [valD, e]
      have e2 : ∀ vs, valV ((j, v) :: vs) k = valV vs k := fun vs => by simp [valV, e]
      rw [e1, e2]
      exact ih
theorem Dks.len : ∀ {vs : List (Key × V)} {ds : List (Key × D)}, Dks K mg F vs ds → vs.length = ds.length
  | _, _, .nil => rfl
  | _, _, .cons _ r => congrArg (· + 1) (Dks.len r)
theorem Dks.any : ∀ {vs : List (Key × V)} {ds : List (Key × D)}, Dks K mg F vs ds → ∀ k, (vs.any fun kv => decide (kv.1 = k)) = ds.any fun kv => decide (kv.1 = k)
  | _, _, .nil, _ => rfl
  | _, _, .cons _ r, k => by rw [List.any_cons, List.any_cons, Dks.any r k]
theorem Dks.rep {v : V} {d : D} (h : Dt K mg F v d) (k : Key) : ∀ {vs : List (Key × V)} {ds : List (Key × D)}, Dks K mg F vs ds → Dks K mg F (vs.map fun kv => if kv.1 = k then (kv.1, v) else kv) (ds.map fun kv => if kv.1 = k then (kv.1, d) else kv)
  | _, _, .nil => .nil
  | _, _, .cons (k := j) g r => by
    rw [List.map_cons, List.map_cons]
    by_cases e : j = k
    · simp only [if_pos e]
      exact .cons h (Dks.rep h k r)
    · simp only [if_neg e]
      exact .cons g (Dks.rep h k r)
theorem Dks.app : ∀ {vs ws : List (Key × V)} {ds es : List (Key × D)}, Dks K mg F vs ds → Dks K mg F ws es → Dks K mg F (vs ++ ws) (ds ++ es)
  | _, _, _, _, .nil, s => s
  | _, _, _, _, .cons h r, s => .cons h (Dks.app r s)
end
section
variable {X : Cx} {B : Bs} {e o i : Expr} {d do' di : TED} {p pos : Pos}
/-- {} as a dict that changes -/
@[simp] def dNewD : TED := fun _ μ Q => ∀ p, μ p = none → Q (.ref p) (sset μ p (.dct []))
/-- d[y] -/
@[simp] def dGetD (o i : TED) : TED := fun ρ μ Q => o ρ μ fun x μ1 => i ρ μ1 fun y μ2 => ∃ a kvs k d, x = .ref a ∧ μ2 a = some (.dct kvs) ∧ keyD y = some k ∧ valD kvs k = some d ∧ Q d μ2
/-- y in d, y not in d -/
@[simp] def dInD (neg : Bool) (i o : TED) : TED := fun ρ μ Q => i ρ μ fun y μ1 => o ρ μ1 fun x μ2 => ∃ a kvs k, x = .ref a ∧ μ2 a = some (.dct kvs) ∧ keyD y = some k ∧ Q (.bl (if neg then !(valD kvs k).isSome else (valD kvs k).isSome)) μ2
/-- d[y] = v -/
@[simp] def dPutD (d o i : TED) : TSD := fun E ρ μ => d ρ μ fun v μ1 => o ρ μ1 fun x μ2 => i ρ μ2 fun y μ3 => ∃ a kvs k, x = .ref a ∧ μ3 a = some (.dct kvs) ∧ keyD y = some k ∧ kvs.length < SZ ∧ E.nx ρ (sset μ3 a (.dct (putD kvs k v)))
end
end DL

namespace DL
open PySem PySem.Spec PyProof.Rows L2
abbrev txtD (kvs : List (List Nat × List Nat)) : List (Key × D) := kvs.map fun p => (.inr (S p.1), D.str p.2)
section
variable {X : Cx} {e o i : Expr} {d do' di : TED} {p pos : Pos}
@[simp] def dDctS (kvs : List (List Nat × List Nat)) : TED := dC (.dct (txtD kvs))
/-- d[y] of a dict that does not change -/
@[simp] def dGetF (o i : TED) : TED := fun ρ μ Q => o ρ μ fun x μ1 => i ρ μ1 fun y μ2 => ∃ kvs k d, x = .dct kvs ∧ keyD y = some k ∧ valD kvs k = some d ∧ Q d μ2
end
end DL

namespace DL
open PySem PySem.Spec PyProof.Rows L2
section
variable {X : Cx}
def rdNeNilT : RD2
  | .tup xs, .tup ys, μ, Q => ys = [] ∧ Q (.bl (!xs.isEmpty)) μ
  | _, _, _, _ => False
@[simp] theorem rdNeNilT_1 {xs : List D} {μ : Sto} {Q : DK} : rdNeNilT (.tup xs) (.tup []) μ Q = Q (.bl (!xs.isEmpty)) μ := by
  show (([] : List D) = [] ∧ _) = _
  simp
end
section
variable {X : Cx}
def rdAddN : RD2
  | .bl k, .int i, μ, Q => Q (.int (b2i k + i)) μ
  | x, y, μ, Q => rdAdd x y μ Q
@[simp] theorem rdAddN_1 {k : Bool} {i : Int} {μ : Sto} {Q : DK} : rdAddN (.bl k) (.int i) μ Q = Q (.int (b2i k + i)) μ := rfl
@[simp] theorem rdAddN_2 {i j : Int} {μ : Sto} {Q : DK} : rdAddN (.int i) (.int j) μ Q = Q (.int (i + j)) μ := rfl
@[simp] theorem rdAddN_3 {s t : List D} {μ : Sto} {Q : DK} : rdAddN (.tup s) (.tup t) μ Q = (s.length + t.length ≤ SZ ∧ Q (.tup (s ++ t)) μ) := rfl
@[simp] theorem rdAddN_4 {s t : List D} {μ : Sto} {Q : DK} : rdAddN (.lst s) (.lst t) μ Q = (s.length + t.length ≤ SZ ∧ Q (.lst (s ++ t)) μ) := rfl
def rdSubN : RD2
  | .bl k, .int i, μ, Q => Q (.int (b2i k - i)) μ
  | .int i, .bl k, μ, Q => Q (.int (i - b2i k)) μ
  | .int i, .int j, μ, Q => Q (.int (i - j)) μ
  | _, _, _, _ => False
@[simp] theorem rdSubN_1 {k : Bool} {i : Int} {μ : Sto} {Q : DK} : rdSubN (.bl k) (.int i) μ Q = Q (.int (b2i k - i)) μ := rfl
@[simp] theorem rdSubN_2 {k : Bool} {i : Int} {μ : Sto} {Q : DK} : rdSubN (.int i) (.bl k) μ Q = Q (.int (i - b2i k)) μ := rfl
@[simp] theorem rdSubN_3 {i j : Int} {μ : Sto} {Q : DK} : rdSubN (.int i) (.int j) μ Q = Q (.int (i - j)) μ := rfl
end
section
variable {K : PySem.W.Frag} {mg : Str → Option Value}
end
/-- str() of an int or a bool -/
def truD (b : Bool) : List Nat := if b then [84, 114, 117, 101] else [70, 97, 108, 115, 101]
def rdStrZ : RDn
  | [.int i], μ, Q => i.natAbs.log2 < 1920 ∧ Q (.str (toString i : Str).cps.toList) μ
  | [.bl b], μ, Q => Q (.str (truD b)) μ
  | _, _, _ => False
@[simp] theorem rdStrZ_1 {i : Int} {μ : Sto} {Q : DK} : rdStrZ [.int i] μ Q = (i.natAbs.log2 < 1920 ∧ Q (.str (toString i : Str).cps.toList) μ) := rfl
@[simp] theorem rdStrZ_2 {b : Bool} {μ : Sto} {Q : DK} : rdStrZ [.bl b] μ Q = Q (.str (truD b)) μ := rfl
/-- the promise that asks what never is -/
def noSp : DSp := fun _ _ _ _ => False
theorem Cal.nothing {P : Program} {w : World} {K : PySem.W.Frag} {mg : Str → Option Value} {base : Heap} {CX : CXT} {k : Nat} {x : Str} {f : Addr} (hm : mg x = some (.ref f)) (hk : PySem.W.keepIn K (.ref f) = true) : Cal P w K mg base CX k x noSp :=
  ⟨f, fun _ _ _ _ _ _ _ _ _ _ _ _ ⟨_, _, _, _, _, _, _, h, _⟩ => h.elim, hm, hk⟩
end DL

namespace DL
open PySem PySem.Spec PyProof.Rows L2
/-- the jar at j, its cells at c, at most b draws so far -/
def Jar (j c : Addr) (b : Nat) (μ : Sto) : Prop := ∃ (n : Nat) (cells : List Nat), n ≤ b ∧ j ≠ c ∧ μ j = some (.lst [.ref c, .int n]) ∧ μ c = some (.lst (cells.map fun x : Nat => D.int x)) ∧ cells.length ≤ 63
/-- nothing else has changed -/
def Same (j c : Addr) (μ μ' : Sto) : Prop := ∀ a, a ≠ j → a ≠ c → μ' a = μ a
theorem Jar.le {j c : Addr} {b b' : Nat} {μ : Sto} (h : Jar j c b μ) (le : b ≤ b') : Jar j c b' μ := by
  obtain ⟨n, cells, hn, r⟩ := h
  exact ⟨n, cells, Nat.le_trans hn le, r⟩
theorem Same.refl {j c : Addr} {μ : Sto} : Same j c μ μ := fun _ _ _ => rfl
theorem Same.trans {j c : Addr} {μ μ1 μ2 : Sto} (h : Same j c μ μ1) (g : Same j c μ1 μ2) : Same j c μ μ2 := fun a x y => (g a x y).trans (h a x y)
/-- since μ0: a jar of at most b draws, nothing else changed -/
def St (j c : Addr) (μ0 : Sto) (b : Nat) (μ : Sto) : Prop := Jar j c b μ ∧ Same j c μ0 μ
theorem St.le {j c : Addr} {b b' : Nat} {μ0 μ : Sto} (h : St j c μ0 b μ) (le : b ≤ b') : St j c μ0 b' μ := ⟨h.1.le le, h.2⟩
/-- a word of small letters -/
def Low (s : List Nat) : Prop := ∀ c ∈ s, 97 ≤ c ∧ c ≤ 122
theorem Low.append {s t : List Nat} (h : Low s) (g : Low t) : Low (s ++ t) := fun c hc => (List.mem_append.mp hc).elim (h c) (g c)
theorem Low.take {s : List Nat} (h : Low s) (n : Nat) : Low (s.take n) := fun c hc => h c (List.mem_of_mem_take hc)
theorem Low.reverse {s : List Nat} (h : Low s) : Low s.reverse := fun c hc => h c (List.mem_reverse.mp hc)
theorem Low.repl {s : List Nat} (h : Low s) (n : Nat) : Low (repl n s) := fun c hc => by
  unfold DL.repl at hc
  obtain ⟨l, hl, hc⟩ := List.mem_flatten.mp hc
  rw [(List.mem_replicate.mp hl).2] at hc
  exact h c hc
theorem Low.lt {s : List Nat} (h : Low s) : ∀ c ∈ s, c < 1114112 := fun c hc => by have := h c hc; omega
end DL

namespace DL
open PySem PySem.Spec PyProof.Rows L2
end DL

namespace DL
open PySem PySem.Spec PyProof.Rows L2
/-- the first pick, from a place on: places -/
def fp (one : List Nat) : List Nat → Nat → List Nat
  | [], _ => []
  | c :: r, b => match (one.drop b).findIdx? (· == c) with
    | some k => (b + k) :: fp one r (b + k + 1)
    | none => []

end DL

namespace DL
open PySem PySem.Spec PyProof.Rows L2
end DL

namespace DL
open PySem PySem.Spec PyProof.Rows L2
/-- the letters of one at the places l, one behind the other -/
def inc (l : List Nat) : Bool := (l.zip (l.drop 1)).all fun p => decide (p.1 < p.2)
end DL

namespace DL
open PySem PySem.Spec PyProof.Rows L2
@[simp] theorem inc_nil : inc [] = true := rfl
@[simp] theorem inc_one (x : Nat) : inc [x] = true := rfl
end DL

namespace DL
open PySem PySem.Spec PyProof.Rows L2
/-- the deck at j, its great cells at c, at most b draws without them so far -/
def Deck (j c : Addr) (b : Nat) (μ : Sto) : Prop := ∃ (n : Nat) (cells great : List Nat), n ≤ b ∧ j ≠ c ∧ cells ≠ [] ∧ cells.length ≤ 64 ∧ μ j = some (.lst [.ref c, .lst (nats cells), .int n]) ∧ μ c = some (.lst (nats great)) ∧ great.length ≤ 63
def StD (j c : Addr) (μ0 : Sto) (b : Nat) (μ : Sto) : Prop := Deck j c b μ ∧ Same j c μ0 μ
theorem Deck.le {j c : Addr} {b b' : Nat} {μ : Sto} (h : Deck j c b μ) (le : b ≤ b') : Deck j c b' μ := by
  obtain ⟨n, m, cells, hn, r⟩ := h
  exact ⟨n, m, cells, Nat.le_trans hn le, r⟩
theorem StD.le {j c : Addr} {b b' : Nat} {μ0 μ : Sto} (h : StD j c μ0 b μ) (le : b ≤ b') : StD j c μ0 b' μ := ⟨h.1.le le, h.2⟩
def drawSpD (k : Nat) (pre : List D → (D → Prop) → Prop) : DSp := fun ds μ Q _ => ∃ j c b r, ds = .ref j :: r ∧ Deck j c b μ ∧ b + k ≤ 1000000 ∧ ∃ R, pre r R ∧ ∀ d μ', R d → Deck j c (b + k) μ' → Same j c μ μ' → Q d μ'
theorem drawD_ok {k : Nat} {pre : List D → (D → Prop) → Prop} {j c : Addr} {b : Nat} {μ0 μ : Sto} {r : List D} {R : D → Prop} {Q : DK} {E : DXK} (h : StD j c μ0 b μ) (hb : b + k ≤ 1000000) (hp : pre r R)
    (q : ∀ d μ', R d → StD j c μ0 (b + k) μ' → Q d μ') : drawSpD k pre (.ref j :: r) μ Q E := ⟨j, c, b, r, rfl, h.1, hb, R, hp, fun d μ' h1 h2 h3 => q d μ' h1 ⟨h2, h.2.trans h3⟩⟩
def sp_law_deck : DSp := fun ds μ Q _ => ∃ ns : List Int, ds = [.scr ns] ∧ ns.length ≤ 63 ∧ ∀ j c μ', Deck j c 0 μ' → μ j = none → μ c = none → Same j c μ μ' → Q (.ref j) μ'
def b_law_deck_2 : TSD :=
  (dRet (dM (dLstF (dCons (dM (dLc [2] (dEach (dVar 1)) (dName 2) (dB (dOp rdGe (dLook 2) (dOp rdPow (dC (.int 10)) (dC (.int 18))))) (dVar 2))) (dCons (dOp rdAdd (dLook 1) (dLst (dCons (dOp rdAdd (dFn rdLen (dCons (dLook 1) dNil)) (dC (.int 7))) dNil))) (dCons (dC (.int 0)) dNil))))))
/-- _law_deck(_law_script); slots 0:_law_script 1:_law_cells 2:_law_cell -/
def b_law_deck : TSD :=
  (dSeq (dSetR 1 (dVal (dF (dLc [2] (dEach (dVar 0)) (dName 2) dYes (dFn rdAbs (dCons (dLook 2) dNil))))))
  b_law_deck_2)
theorem len_law_deck : ∀ ds μ Q E, sp_law_deck ds μ Q E → ds.length = 1 := by
  rintro ds μ Q E ⟨ns, rfl, _⟩; rfl
theorem okEq_nats (l : List Nat) : okEq (.lst (nats l)) (.lst []) := by
  have := okEq_ints (l.map fun x : Nat => (x : Int)) []
  rw [List.map_map] at this
  exact this
theorem ok_law_deck : ∀ ds μ Q E, sp_law_deck ds μ Q E → b_law_deck { nx := fun _ μ' => Q .non μ', rt := Q } (startD 3 ds) μ := by
  rintro ds μ Q E ⟨ns, rfl, hn, q⟩
  unfold b_law_deck
  simp
  refine lcD_list ns D.int (fun i => .int (i.natAbs : Nat)) trivial (by simp; omega) ?_ ?_
  · intro i hi k hk
    have : (if i < 0 then -i else i) = (i.natAbs : Int) := by split <;> omega
    simpa [this] using hk
  unfold b_law_deck_2
  simp
  rw [show (List.map (fun i : Int => D.int (i.natAbs : Int)) ns) = nats (ns.map (·.natAbs)) by simp]
  refine lcD_listF (ns.map (·.natAbs)) (fun n : Nat => decide ((1000000000000000000 : Int) ≤ (n : Int))) (inv := still) _ (fun n => .int (n : Nat)) trivial (by simp; omega) ?_ ?_
  · intro a ha k n h1 h2
    simp [powOk]
    split
    · rename_i hc; exact h1 (decide_eq_true hc)
    · rename_i hc; exact h2 (decide_eq_false hc)
  intro p hp
  refine ⟨by omega, fun p1 hp1 => ?_⟩
  have hne : p1 ≠ p := fun e => by subst e; rw [sset_same] at hp1; cases hp1
  refine q p1 p _ ⟨0, ns.map (·.natAbs) ++ [ns.length + 7], (ns.map (·.natAbs)).filter fun n : Nat => decide ((1000000000000000000 : Int) ≤ (n : Int)), Nat.le_refl _, hne, by simp, by simp; omega, ?_, ?_, ?_⟩ (by rw [sset_ne hne] at hp1; exact hp1) hp fun a h1 h2 => by rw [sset_ne h1, sset_ne h2]
  · rw [sset_same]; simp
  · rw [sset_ne hne.symm, sset_same]
  · exact Nat.le_trans (List.length_filter_le _ _) (by simp; exact hn)
def sp_law_draw : DSp := drawSpD 1 fun r R => ∃ m : Nat, r = [.int m] ∧ 0 < m ∧ m < 100000000000000 ∧ R = fun d => ∃ x : Nat, x < m ∧ d = .int x
theorem draw1_ok {j c : Addr} {b m : Nat} {μ0 μ : Sto} {Q : DK} {E : DXK} (h : StD j c μ0 b μ) (hb : b + 1 ≤ 1000000) (m0 : 0 < m) (m1 : m < 100000000000000) (q : ∀ (x : Nat) μ', x < m → StD j c μ0 (b + 1) μ' → Q (.int x) μ') :
    sp_law_draw [.ref j, .int m] μ Q E := drawD_ok h hb ⟨m, rfl, m0, m1, rfl⟩ fun d μ' ⟨x, hx, e⟩ h2 => e ▸ q x μ' hx h2
def b_law_draw_1l_2t_2 : TSD :=
  (dRet (dOp rdMod (dLook 2) (dLook 1)))
def b_law_draw_1l_2t : TSD :=
  (dSeq (dPutM (dOp rdDiv (dLook 2) (dLook 1)) (dOp rdIx (dLook 0) (dC (.int 0))) (dC (.int 0)))
  b_law_draw_1l_2t_2)
def b_law_draw_1l_3 : TSD :=
  (dDrop (dMt "list" rdPopAt (dOp rdIx (dLook 0) (dC (.int 0))) (dCons (dC (.int 0)) dNil)))
def b_law_draw_1l_2 : TSD :=
  (dSeq (dIfS (dB (dOp rdGt (dLook 2) (dC (.int 0))))
  b_law_draw_1l_2t
  dNext)
  b_law_draw_1l_3)
def b_law_draw_1l : TSD :=
  (dSeq (dSetR 2 (dVal (dOp rdIx (dOp rdIx (dLook 0) (dC (.int 0))) (dC (.int 0)))))
  b_law_draw_1l_2)
def b_law_draw_6 : TSD :=
  (dRet (dOp rdMod (dOp rdDiv (dOp rdMod (dOp rdMul (dLook 4) (dLook 4)) (dC (.int 2147483563))) (dC (.int 16))) (dLook 1)))
def b_law_draw_5 : TSD :=
  (dSeq (dSetR 4 (dVal (dOp rdMod (dOp rdAdd (dLook 4) (dOp rdMul (dOp rdMul (dC (.int 48271)) (dOp rdIx (dLook 0) (dC (.int 2)))) (dOp rdIx (dLook 0) (dC (.int 2))))) (dC (.int 2147483587)))))
  b_law_draw_6)
def b_law_draw_4 : TSD :=
  (dSeq (dSetR 4 (dVal (dOp rdAdd (dOp rdMul (dLook 3) (dOp rdAdd (dC (.int 69621)) (dOp rdMul (dC (.int 2)) (dOp rdIx (dLook 0) (dC (.int 2)))))) (dC (.int 30011)))))
  b_law_draw_5)
def b_law_draw_3 : TSD :=
  (dSeq (dSetR 3 (dVal (dOp rdMod (dOp rdIx (dOp rdIx (dLook 0) (dC (.int 1))) (dOp rdMod (dOp rdIx (dLook 0) (dC (.int 2))) (dFn rdLen (dCons (dOp rdIx (dLook 0) (dC (.int 1))) dNil)))) (dC (.int 2147483629)))))
  b_law_draw_4)
def b_law_draw_2 : TSD :=
  (dSeq (dPutM (dOp rdAdd (dOp rdIx (dLook 0) (dC (.int 2))) (dC (.int 1))) (dVar 0) (dC (.int 2)))
  b_law_draw_3)
/-- _law_draw(_law_deck_here, _law_below); slots 0:_law_deck_here 1:_law_below 2:_law_rest 3:_law_cell 4:_law_mixed -/
def b_law_draw : TSD :=
  (dSeq (dWhile (dB (dOp rdNeR (dOp rdIx (dLook 0) (dC (.int 0))) (dLst dNil)))
  b_law_draw_1l)
  b_law_draw_2)
theorem len_law_draw : ∀ ds μ Q E, sp_law_draw ds μ Q E → ds.length = 2 := by
  rintro ds μ Q E ⟨j, c, b, r, rfl, _, _, R, ⟨m, rfl, _⟩, _⟩; rfl
theorem ok_law_draw : ∀ ds μ Q E, sp_law_draw ds μ Q E → b_law_draw { nx := fun _ μ' => Q .non μ', rt := Q } (startD 5 ds) μ := by
  rintro ds μ Q E ⟨j, c, b, r, rfl, ⟨n, cells, great, hn, hjc, hce, hcl, hj, hc, hl⟩, hb, R, ⟨m, rfl, m0, m1, rfl⟩, q⟩
  unfold b_law_draw
  rw [dSeq]
  refine dWhile_inv (fun k ρ μ' => ∃ gs x2, k = gs.length ∧ ρ = [some (.val (.ref j)), some (.val (.int m)), x2, none, none] ∧ μ' j = some (.lst [.ref c, .lst (nats cells), .int n]) ∧ μ' c = some (.lst (nats gs)) ∧ gs.length ≤ 63 ∧ Same j c μ μ') ?_ great.length ⟨great, none, rfl, rfl, hj, hc, hl, .refl⟩
  rintro k ρ μ1 nn ⟨gs, x2, rfl, rfl, hj1, hc1, hl1, s1⟩ hnn
  simp [hj1, hc1]
  refine ⟨okEq_nats gs, ?_⟩
  rw [eqvs_nil_r]
  cases gs with
  | nil =>
    rw [if_pos (by rfl)]
    unfold b_law_draw_2
    simp [hj1]
    have hj2 : sset μ1 j (MO.lst [D.ref c, D.lst (nats cells), D.int (↑n + 1)]) j = some (.lst [D.ref c, D.lst (nats cells), D.int ((n + 1 : Nat) : Int)]) := sset_same
    have hc2 : sset μ1 j (MO.lst [D.ref c, D.lst (nats cells), D.int (↑n + 1)]) c = some (.lst []) := by rw [sset_ne hjc.symm]; exact hc1
    have s2 : Same j c μ (sset μ1 j (MO.lst [D.ref c, D.lst (nats cells), D.int (↑n + 1)])) := fun a h1 h2 => (sset_ne h1).trans (s1 a h1 h2)
    generalize sset μ1 j (MO.lst [D.ref c, D.lst (nats cells), D.int (↑n + 1)]) = μ2 at hj2 hc2 s2
    have fin : ∀ v : Int, Q (D.int (v % (m : Int))) μ2 := fun v => by
      have h1 := Int.emod_nonneg v (b := (m : Int)) (by omega)
      have h2 := Int.emod_lt_of_pos v (b := (m : Int)) (by omega)
      exact q _ _ ⟨(v % (m : Int)).toNat, by omega, by congr 1; omega⟩ ⟨n + 1, cells, [], by omega, hjc, hce, hcl, hj2, hc2, by simp⟩ s2
    have hcp : 0 < cells.length := List.length_pos_iff.mpr hce
    obtain ⟨N, hN⟩ : ∃ N : Int, ((n + 1 : Nat) : Int) = N := ⟨_, rfl⟩
    rw [hN] at hj2
    obtain ⟨y, hy1, hy2⟩ := atI_of (xs := nats cells) (i := N % (cells.length : Int)) (Int.emod_nonneg _ (by omega)) (by simpa using Int.emod_lt_of_pos _ (by omega))
    obtain ⟨z, hz, rfl⟩ := List.mem_map.mp hy2
    unfold b_law_draw_3
    simp [hj2]
    refine ⟨by omega, _, hy1, ?_⟩
    simp
    have b1 := Int.emod_nonneg (z : Int) (b := 2147483629) (by omega)
    have b2 := Int.emod_lt_of_pos (z : Int) (b := 2147483629) (by omega)
    generalize (z : Int) % 2147483629 = zz at b1 b2 ⊢
    unfold b_law_draw_4
    simp only [dSeq, dSetR, dVal, dOp, dLook, dC, hj2, List.getElem?_cons_succ, List.getElem?_cons_zero, rdIx_5]
    refine ⟨_, _, rfl, atI_2 _ _ _ _, ?_⟩
    rw [rdMul_1]
    refine ⟨.inl ⟨by omega, by omega⟩, ?_⟩
    rw [rdAdd_1, rdMul_1]
    refine ⟨.inl ⟨by omega, by omega⟩, ?_⟩
    rw [rdAdd_1]
    generalize zz * (69621 + 2 * N) + 30011 = yy
    unfold b_law_draw_5
    simp only [dSeq, dSetR, dVal, dOp, dLook, dC, hj2, List.getElem?_cons_succ, List.getElem?_cons_zero, rdIx_5, List.set_cons_succ, List.set_cons_zero]
    refine ⟨_, _, rfl, atI_2 _ _ _ _, ?_⟩
    rw [rdMul_1]
    refine ⟨.inl ⟨by omega, by omega⟩, _, _, hj2, atI_2 _ _ _ _, ?_⟩
    rw [rdMul_1]
    refine ⟨.inr (.inl ⟨by omega, by omega⟩), ?_⟩
    rw [rdAdd_1, rdMod_i]
    refine ⟨by omega, ?_⟩
    generalize yy + 48271 * N * N = y
    unfold b_law_draw_6
    have b3 := Int.emod_nonneg y (b := 2147483587) (by omega)
    have b4 := Int.emod_lt_of_pos y (b := 2147483587) (by omega)
    simp [mulOk, divOk, m0]
    exact ⟨by omega, fin _⟩
  | cons x gs' =>
    rw [if_neg (by simp)]
    refine ⟨fun ρ' μ' => ∃ y, ρ' = [some (DS.val (D.ref j)), some (DS.val (D.int ↑m)), y, none, none] ∧ μ' j = some (MO.lst [D.ref c, D.lst (nats cells), D.int ↑n]) ∧ μ' c = some (MO.lst (nats gs')) ∧ Same j c μ μ', ?_, ?_⟩
    · rintro ρ' μ' ⟨y, rfl, h1, h2, h3⟩
      simp at hl1
      exact ⟨_, Nat.lt_succ_self _, gs', rfl, ⟨_, rfl⟩, h1, h2, by omega, h3⟩
    unfold b_law_draw_1l
    simp [hj1, hc1]
    unfold b_law_draw_1l_2
    simp
    by_cases hx : 0 < x
    · rw [if_pos hx]
      unfold b_law_draw_1l_2t b_law_draw_1l_2t_2
      simp [hj1, hc1, divOk, m0]
      refine ⟨.inr (log_lt (k := 9000) (by decide) (Nat.lt_of_lt_of_le (Nat.lt_trans m1 (by decide : 100000000000000 < 2 ^ 50)) (Nat.pow_le_pow_right (by decide) (by decide)))), ?_⟩
      refine q _ _ ⟨x % m, Nat.mod_lt _ m0, rfl⟩ ⟨n, cells, (x / m) :: gs', by omega, hjc, hce, hcl, by rw [sset_ne hjc]; exact hj1, by rw [sset_same]; simp, by simpa using hl1⟩ fun a h1 h2 => by rw [sset_ne h2]; exact s1 a h1 h2
    · rw [if_neg hx]
      have hx0 : x = 0 := by omega
      subst hx0
      unfold b_law_draw_1l_3
      simp [hj1, hc1]
      refine ⟨⟨_, by unfold refLst; rw [hc1]⟩, 0, ?_, ⟨_, rfl⟩, by rw [sset_ne hjc]; exact hj1, by rw [sset_same]; rfl, fun a h1 h2 => by rw [sset_ne h2]; exact s1 a h1 h2⟩
      unfold seqIndex?
      simp
end DL

namespace DL
open PySem PySem.Spec PyProof.Rows L2
/-- a stroke: letter, force; or a tear -/
abbrev HI := Option (Nat × Nat)
def itemD : HI → D
  | none => .non
  | some (c, f) => .tup [.str [c], .int (f : Nat)]
abbrev histD (h : List HI) : D := .tup (h.map itemD)
/-- right for so many sheets that are left -/
def okH : Nat → List HI → Prop
  | l, [] => l = 1
  | l, none :: r => 2 ≤ l ∧ okH (l - 1) r
  | l, some (c, f) :: r => (97 ≤ c ∧ c ≤ 122) ∧ 1 ≤ f ∧ f ≤ l ∧ okH l r
/-- the same, but ends with any number of sheets left -/
def okB : Nat → List HI → Nat → Prop
  | l, [], e => l = e
  | l, none :: r, e => 2 ≤ l ∧ okB (l - 1) r e
  | l, some (c, f) :: r, e => (97 ≤ c ∧ c ≤ 122) ∧ 1 ≤ f ∧ f ≤ l ∧ okB l r e
theorem okB_app : ∀ {l m e : Nat} {h g : List HI}, okB l h m → okB m g e → okB l (h ++ g) e
  | _, _, _, [], _, a, b => by cases (show _ = _ from a); exact b
  | l, m, e, none :: r, g, a, b => ⟨a.1, okB_app a.2 b⟩
  | l, m, e, some (c, f) :: r, g, a, b => ⟨a.1, a.2.1, a.2.2.1, okB_app a.2.2.2 b⟩
theorem okB_tears : ∀ k l, k < l → okB l (List.replicate k none) (l - k)
  | 0, l, _ => rfl
  | k + 1, l, h => ⟨by omega, by have := okB_tears k (l - 1) (by omega); rwa [show l - 1 - k = l - (k + 1) by omega] at this⟩
theorem okB_one : ∀ {l : Nat} {h : List HI}, okB l h 1 ↔ okH l h
  | l, [] => Iff.rfl
  | l, none :: r => by have := @okB_one (l - 1) r; simp [okB, okH, this]
  | l, some (c, f) :: r => by have := @okB_one l r; simp [okB, okH, this]
end DL

namespace DL
open PySem PySem.Spec PyProof.Rows L2
def sp_law_history : DSp := drawSpD 200 fun r R => ∃ n m : Nat, r = [.int n, .int m] ∧ 1 ≤ n ∧ n ≤ 30 ∧ m ≤ 50 ∧ R = fun d => ∃ h : List HI, d = histD h ∧ okH n h ∧ (h.filter Option.isSome).length ≤ m
theorem history_ok {j c : Addr} {b n m : Nat} {μ0 μ : Sto} {Q : DK} {E : DXK} (h : StD j c μ0 b μ) (hb : b + 200 ≤ 1000000) (h1 : 1 ≤ n) (h2 : n ≤ 30) (h3 : m ≤ 50)
    (q : ∀ (hs : List HI) μ', okH n hs → (hs.filter Option.isSome).length ≤ m → StD j c μ0 (b + 200) μ' → Q (histD hs) μ') : sp_law_history [.ref j, .int n, .int m] μ Q E :=
  drawD_ok h hb ⟨n, m, rfl, h1, h2, h3, rfl⟩ fun d μ' ⟨hs, e, g1, g2⟩ h3 => e ▸ q hs μ' g1 g2 h3
def b_law_history_2l_1t_2 : TSD :=
  (dSetR 4 (dVal (dOp rdSub (dLook 4) (dC (.int 1)))))
def b_law_history_2l_1t : TSD :=
  (dSeq (dApp 3 (dC .non))
  b_law_history_2l_1t_2)
def b_law_history_2l_2 : TSD :=
  (dApp 3 (dTup (dCons (dOp rdIx (dC (.str [97, 98, 99, 122])) (dCall sp_law_draw (dCons (dVar 0) (dCons (dC (.int 4)) dNil)) noD)) (dCons (dOp rdAdd (dC (.int 1)) (dCall sp_law_draw (dCons (dVar 0) (dCons (dVar 4) dNil)) noD)) dNil))))
def b_law_history_2l : TSD :=
  (dSeq (dIfS (dAnd (dB (dOp rdGt (dLook 4) (dC (.int 1)))) (dB (dOp rdEq (dCall sp_law_draw (dCons (dVar 0) (dCons (dC (.int 4)) dNil)) noD) (dC (.int 0)))))
  b_law_history_2l_1t
  dNext)
  b_law_history_2l_2)
def b_law_history_3 : TSD :=
  (dRet (dFn rdTuple (dCons (dOp rdAdd (dLook 3) (dOp rdMul (dLst (dCons (dC .non) dNil)) (dOp rdSub (dLook 4) (dC (.int 1))))) dNil)))
def b_law_history_2 : TSD :=
  (dSeq (dFor (dRng1 (dCons (dCall sp_law_draw (dCons (dVar 0) (dCons (dOp rdAdd (dLook 2) (dC (.int 1))) dNil)) noD) dNil)) (dName 5)
  b_law_history_2l)
  b_law_history_3)
/-- _law_history(_law_deck_here, _law_n, _law_most); slots 0:_law_deck_here 1:_law_n 2:_law_most 3:_law_found 4:_law_left 5:_law_k -/
def b_law_history : TSD :=
  (dSeq (dPar2 3 4 (dOwn (dLstF dNil)) (dVal (dVar 1)))
  b_law_history_2)
theorem len_law_history : ∀ ds μ Q E, sp_law_history ds μ Q E → ds.length = 3 := by
  rintro ds μ Q E ⟨j, c, b, r, rfl, _, _, R, ⟨n, m, rfl, _⟩, _⟩; rfl
theorem ok_law_history : ∀ ds μ Q E, sp_law_history ds μ Q E → b_law_history { nx := fun _ μ' => Q .non μ', rt := Q } (startD 6 ds) μ := by
  rintro ds μ Q E ⟨j, c, b, r, rfl, hD, hb, R, ⟨n, m, rfl, h1, h2, h3, rfl⟩, q⟩
  have s0 : StD j c μ b μ := ⟨hD, .refl⟩
  unfold b_law_history
  simp
  unfold b_law_history_2
  simp
  refine draw1_ok (m := m + 1) s0 (by omega) (by omega) (by omega) fun k μ1 hk s1 => ?_
  simp [rngOk, -forD]
  refine ⟨by omega, ?_⟩
  refine forD_rng (fun i ρ μ' => ∃ (hs : List HI) (l : Nat) (x5 : Option DS), ρ = [some (.val (.ref j)), some (.val (.int n)), some (.val (.int m)), some (.own (hs.map itemD)), some (.val (.int l)), x5] ∧ okB n hs l ∧ 1 ≤ l ∧ l ≤ n ∧ (hs.filter Option.isSome).length = i ∧ hs.length + l ≤ i + n ∧ StD j c μ (b + 1 + 3 * i) μ') ?_ ?_
    ⟨[], n, none, rfl, rfl, h1, Nat.le_refl _, rfl, by simp, s1⟩
  · rintro i ρ μ2 nx hi ⟨hs, l, x5, rfl, ho, hl1, hl2, hc, hlen, s2⟩ hn
    have tail : ∀ (hs' : List HI) (l' : Nat) μ', okB n hs' l' → 1 ≤ l' → l' ≤ n → (hs'.filter Option.isSome).length = i → hs'.length + l' ≤ i + n → StD j c μ (b + 1 + 3 * i + 1) μ' →
        b_law_history_2l_2 { nx := nx, rt := Q, bk := b_law_history_3 { nx := fun x μ' => Q D.non μ', rt := Q }, ct := nx } [some (.val (.ref j)), some (.val (.int n)), some (.val (.int m)), some (.own (hs'.map itemD)), some (.val (.int l')), some (.val (.int i))] μ' := by
      intro hs' l' μ' ho' hl1' hl2' hc' hlen' s3
      unfold b_law_history_2l_2
      simp
      refine draw1_ok (m := 4) s3 (by omega) (by omega) (by omega) fun y μ4 hy s4 => ?_
      obtain ⟨ch, hch, hlo⟩ : ∃ ch : Nat, atI [97, 98, 99, 122] (y : Int) = some ch ∧ 97 ≤ ch ∧ ch ≤ 122 := by
        obtain ⟨ch, g1, g2⟩ := atI_of (xs := [97, 98, 99, 122]) (i := (y : Int)) (by omega) (by simp; omega)
        refine ⟨ch, g1, ?_⟩
        simp at g2
        omega
      simp [hch]
      refine draw1_ok (m := l') s4 (by omega) (by omega) (by omega) fun z μ5 hz s5 => ?_
      simp
      refine ⟨by omega, hn _ _ ⟨hs' ++ [some (ch, 1 + z)], l', some (.val (.int i)), by simp [itemD], okB_app ho' ⟨hlo, by omega, by omega, rfl⟩, hl1', hl2', by simp [List.filter_append, hc'], by simp; omega, s5.le (by omega)⟩⟩
    unfold b_law_history_2l
    simp
    split
    · rename_i hl
      refine draw1_ok (m := 4) s2 (by omega) (by omega) (by omega) fun y μ4 hy s4 => ?_
      simp
      split
      · unfold b_law_history_2l_1t b_law_history_2l_1t_2
        simp
        have e1 : (hs.map itemD ++ [D.non]) = (hs ++ [none]).map itemD := by simp [itemD]
        rw [e1, show ((l : Int) - 1) = ((l - 1 : Nat) : Int) by omega]
        exact ⟨by omega, tail _ _ _ (okB_app ho ⟨by omega, rfl⟩) (by omega) (by omega) (by simp [List.filter_append, hc]) (by simp; omega) s4⟩
      · exact tail _ _ _ ho hl1 hl2 hc hlen s4
    · exact tail _ _ _ ho hl1 hl2 hc hlen (s2.le (by omega))
  · rintro ρ μ2 ⟨hs, l, x5, rfl, ho, hl1, hl2, hc, hlen, s2⟩
    unfold b_law_history_3
    simp
    have e1 : (hs.map itemD ++ repl (l - 1) [D.non]) = (hs ++ List.replicate (l - 1) none).map itemD := by
      simp [itemD, repl]
    rw [e1]
    refine ⟨by omega, by omega, by omega, by simp [repl_len]; omega, q _ _ ⟨_, rfl, ?_, by simp [List.filter_append, hc]; omega⟩ (s2.1.le (by omega)) s2.2⟩
    rw [← okB_one]
    have := okB_tears (l - 1) l (by omega)
    rw [show l - (l - 1) = 1 by omega] at this
    exact okB_app ho this
end DL

namespace DL
open PySem PySem.Spec PyProof.Rows L2
theorem zipIdx_enumD (f : List Nat → D) : ∀ (l : List (List Nat)) (k : Nat), enumD k (l.map f) = (l.zipIdx k).map fun p => .pr (.int (p.2 : Nat)) (f p.1)
  | [], _ => rfl
  | x :: l, k => by
    show _ :: enumD (k + 1) (l.map f) = _
    rw [zipIdx_enumD f l (k + 1)]
    rfl
/-- the words after a stroke -/
def wstroke (ws : List (List Nat)) (t c f : Nat) : List (List Nat) := ws.zipIdx.map fun p => if t ≤ p.2 ∧ p.2 < t + f then p.1 ++ [c] else p.1
theorem wstroke_len (ws : List (List Nat)) (t c f : Nat) : (wstroke ws t c f).length = ws.length := by simp [wstroke]
theorem wstroke_get (ws : List (List Nat)) (t c f i : Nat) : (wstroke ws t c f)[i]? = (ws[i]?).map fun w => if t ≤ i ∧ i < t + f then w ++ [c] else w := by
  simp only [wstroke, List.getElem?_map, List.getElem?_zipIdx]
  cases ws[i]? <;> simp
abbrev wsD (ws : List (List Nat)) : D := .tup (ws.map D.str)
def WOk (ws : List (List Nat)) (m : Nat) : Prop := ∀ w ∈ ws, w.length ≤ m
theorem wstroke_ok {ws : List (List Nat)} {m : Nat} (h : WOk ws m) (t c f : Nat) : WOk (wstroke ws t c f) (m + 1) := by
  intro w hw
  obtain ⟨p, hp, rfl⟩ := List.mem_map.mp hw
  have h1 := h p.1 (by
    have := List.mem_zipIdx hp
    simp at this
    rw [this.2]
    exact List.getElem_mem _)
  split
  · simp; exact h1
  · omega
def sp_with_stroke : DSp := fun ds μ Q _ => ∃ (ws : List (List Nat)) (t c f m : Nat), ds = [wsD ws, .int t, .tup [.str [c], .int f]] ∧ WOk ws m ∧ m ≤ 100000 ∧ ws.length ≤ 1000 ∧ Q (wsD (wstroke ws t c f)) μ
def b_with_stroke_2 : TSD :=
  (dRet (dFn rdTuple (dCons (dF (dLc [5, 6] (dEnumT (dCons (dVar 0) dNil)) (dUnp 2 (gdCons (dName 5) (gdCons (dName 6) gdNil))) dYes (dOp rdAdd (dLook 6) (dOp rdMul (dLook 3) (dFn rdInt (dCons (dChain rdLe rdLt (dLook 1) (dLook 5) (dOp rdAdd (dLook 1) (dLook 4))) dNil)))))) dNil)))
/-- with_stroke(words, top, stroke); slots 0:words 1:top 2:stroke 3:letter 4:force 5:at 6:word -/
def b_with_stroke : TSD :=
  (dSeq (dAsg (dVar 2) (dUnp 2 (gdCons (dName 3) (gdCons (dName 4) gdNil))))
  b_with_stroke_2)
theorem len_with_stroke : ∀ ds μ Q E, sp_with_stroke ds μ Q E → ds.length = 3 := by
  rintro ds μ Q E ⟨ws, t, c, f, m, rfl, _⟩; rfl
theorem ok_with_stroke : ∀ ds μ Q E, sp_with_stroke ds μ Q E → b_with_stroke { nx := fun _ μ' => Q .non μ', rt := Q } (startD 7 ds) μ := by
  rintro ds μ Q E ⟨ws, t, c, f, m, rfl, hw, hm, hl, q⟩
  unfold b_with_stroke
  simp
  unfold b_with_stroke_2
  simp
  rw [zipIdx_enumD]
  refine lcD_list ws.zipIdx _ (fun p => .str (if t ≤ p.2 ∧ p.2 < t + f then p.1 ++ [c] else p.1)) trivial (by simp; omega) ?_ ?_
  · rintro ⟨w, i⟩ hp k hk
    have h1 := hw w (by
      have := List.mem_zipIdx hp
      simp at this
      rw [this.2]
      exact List.getElem_mem _)
    simp at hk ⊢
    by_cases h2 : t ≤ i
    · by_cases h3 : i < t + f
      · have h4 : (i : Int) < (t : Int) + (f : Int) := by omega
        simp [h2, h3, h4, repl] at hk ⊢
        exact ⟨by omega, hk⟩
      · have h4 : ¬ (i : Int) < (t : Int) + (f : Int) := by omega
        simp [h2, h3, h4, repl] at hk ⊢
        exact ⟨by omega, hk⟩
    · simp [h2, repl] at hk ⊢
      exact ⟨by omega, hk⟩
  · have e : (ws.zipIdx.map fun p => D.str (if t ≤ p.2 ∧ p.2 < t + f then p.1 ++ [c] else p.1)) = (wstroke ws t c f).map D.str := by
      simp [wstroke]
    rw [e]
    exact q
/-- what the strokes write on sheet i, from the top sheet t on -/
def lt : List HI → Nat → Nat → List Nat
  | [], _, _ => []
  | none :: r, t, i => lt r (t + 1) i
  | some (c, f) :: r, t, i => if t ≤ i ∧ i < t + f then c :: lt r t i else lt r t i
def wr : List HI → Nat → List (List Nat) → List (List Nat)
  | [], _, ws => ws
  | none :: r, t, ws => wr r (t + 1) ws
  | some (c, f) :: r, t, ws => wr r t (wstroke ws t c f)
theorem wr_get : ∀ (h : List HI) (t : Nat) (ws : List (List Nat)) (i : Nat), (wr h t ws)[i]? = (ws[i]?).map fun w => w ++ lt h t i
  | [], _, ws, i => by simp [wr, lt]
  | none :: r, t, ws, i => by rw [wr, wr_get r (t + 1) ws i]; rfl
  | some (c, f) :: r, t, ws, i => by
    rw [wr, wr_get r t _ i, wstroke_get, Option.map_map]
    congr 1
    funext w
    simp only [lt, Function.comp]
    split <;> simp
/-- the sheets that a history writes -/
def outs (n : Nat) (h : List HI) : List (List Nat) := (List.range n).map fun i => lt h 0 i
theorem wr_outs (n : Nat) (h : List HI) : wr h 0 (List.replicate n []) = outs n h := by
  apply List.ext_getElem?
  intro i
  rw [wr_get]
  unfold outs
  rw [List.getElem?_map, List.getElem?_replicate]
  split
  · rename_i h
    rw [List.getElem?_range h]; simp
  · rename_i h
    rw [List.getElem?_eq_none (by simp; omega)]; rfl
theorem lt_le : ∀ (h : List HI) (t i : Nat), (lt h t i).length ≤ h.length
  | [], _, _ => Nat.le_refl _
  | none :: r, t, i => by have := lt_le r (t + 1) i; simp [lt]; omega
  | some (c, f) :: r, t, i => by
    have := lt_le r t i
    simp only [lt]
    split <;> simp <;> omega
end DL

namespace DL
open PySem PySem.Spec PyProof.Rows L2
def tears (h : List HI) : Nat := (h.filter Option.isNone).length
theorem tears_none (h : List HI) : tears (none :: h) = tears h + 1 := rfl
theorem tears_some (p : Nat × Nat) (h : List HI) : tears (some p :: h) = tears h := rfl
theorem tears_app (h g : List HI) : tears (h ++ g) = tears h + tears g := by simp [tears]
theorem tears_n1 (h : List HI) : tears (h ++ [none]) = tears h + 1 := by rw [tears_app]; rfl
theorem tears_s1 (h : List HI) (p : Nat × Nat) : tears (h ++ [some p]) = tears h := by rw [tears_app]; rfl
theorem lt_app : ∀ (h g : List HI) (t i : Nat), lt (h ++ g) t i = lt h t i ++ lt g (t + tears h) i
  | [], g, t, i => by simp [lt, tears]
  | none :: r, g, t, i => by
    simp only [List.cons_append, lt]
    rw [lt_app r g (t + 1) i, tears_none, show t + 1 + tears r = t + (tears r + 1) by omega]
  | some (c, f) :: r, g, t, i => by
    simp only [List.cons_append, lt]
    rw [lt_app r g t i, tears_some]
    split <;> simp
def isLet : D → Bool
  | .str [c] => decide (97 ≤ c) && decide (c ≤ 122)
  | _ => false
abbrev abcz : List Nat := [97, 98, 99, 100, 101, 102, 103, 104, 105, 106, 107, 108, 109, 110, 111, 112, 113, 114, 115, 116, 117, 118, 119, 120, 121, 122]
theorem mem_abcz (c : Nat) : c ∈ abcz ↔ 97 ≤ c ∧ c ≤ 122 := by
  simp [abcz]
  omega
/-- texts are not too long -/
def sOk : D → Prop
  | .str s => s.length ≤ SZ
  | _ => True
def sp_is_letter : DSp := fun ds μ Q _ => ∃ v : D, ds = [v] ∧ isiOk v = true ∧ sOk v ∧ Q (.bl (isLet v)) μ
/-- is_letter(value); slots 0:value -/
def b_is_letter : TSD :=
  (dRet (dAndV (dFn rdIsi (dCons (dLook 0) (dCons (dC (.ty "str")) dNil))) (dAndV (dOp rdEq (dFn rdLen (dCons (dLook 0) dNil)) (dC (.int 1))) (dOp rdIn (dLook 0) (dC (.str [97, 98, 99, 100, 101, 102, 103, 104, 105, 106, 107, 108, 109, 110, 111, 112, 113, 114, 115, 116, 117, 118, 119, 120, 121, 122]))))))
theorem len_is_letter : ∀ ds μ Q E, sp_is_letter ds μ Q E → ds.length = 1 := by
  rintro ds μ Q E ⟨v, rfl, _⟩; rfl
theorem ok_is_letter : ∀ ds μ Q E, sp_is_letter ds μ Q E → b_is_letter { nx := fun _ μ' => Q .non μ', rt := Q } (startD 1 ds) μ := by
  rintro ds μ Q E ⟨v, rfl, hv, hs, q⟩
  unfold b_is_letter
  cases v <;> first | exact (Bool.false_ne_true hv).elim | skip
  case str s =>
    have hs : s.length ≤ SZ := hs
    simp at hs ⊢
    refine ⟨hs, ?_⟩
    split
    · rename_i h1
      obtain ⟨c, rfl⟩ : ∃ c, s = [c] := by
        match s, h1 with
        | [c], _ => exact ⟨c, rfl⟩
      simp
      have e : isLet (.str [c]) = decide (c ∈ abcz) := by
        unfold isLet
        rw [Bool.eq_iff_iff, decide_eq_true_eq, mem_abcz]; simp
      rw [e] at q
      simpa using q
    · rename_i h1
      have e : isLet (.str s) = false := by
        unfold isLet
        split
        · rename_i c h; cases h; simp at h1
        · rfl
      rw [e] at q
      exact q
  all_goals
    simp
    exact q
/-- what is_stroke looks at -/
def iOk : D → Prop
  | .tup ys => ys.length ≤ SZ ∧ ∀ y ∈ ys, isiOk y = true ∧ sOk y
  | _ => True
def short (n : Nat) (h : List HI) : Bool := (outs n h).all fun w => decide (w.length ≤ 30)
def jOk : D → Prop
  | .tup xs => xs.length ≤ 1000 ∧ ∀ x ∈ xs, isiOk x = true ∧ iOk x
  | _ => True
theorem outs_len (n : Nat) (h : List HI) : (outs n h).length = n := by simp [outs]
theorem outs_none (n : Nat) (h : List HI) : outs n (h ++ [none]) = outs n h := by
  unfold outs
  refine List.map_congr_left fun i _ => ?_
  rw [lt_app]; simp [lt]
end DL

namespace DL
open PySem PySem.Spec PyProof.Rows L2
end DL

namespace DL
open PySem PySem.Spec PyProof.Rows L2
theorem okH_len : ∀ {l : Nat} {h : List HI}, okH l h → h.length + 1 = (h.filter Option.isSome).length + l
  | l, [], a => by cases (show l = 1 from a); rfl
  | l, none :: r, a => by
    have := okH_len a.2
    have := a.1
    simp
    omega
  | l, some (c, f) :: r, a => by
    have := okH_len a.2.2.2
    simp
    omega
theorem okB_split : ∀ {l e : Nat} {h g : List HI}, okB l (h ++ g) e → okB l h (l - tears h) ∧ okB (l - tears h) g e
  | l, e, [], g, a => ⟨by simp [tears, okB], by simpa [tears] using a⟩
  | l, e, none :: r, g, a => by
    obtain ⟨h1, h2⟩ := okB_split a.2
    have := a.1
    rw [tears_none]
    rw [show l - 1 - tears r = l - (tears r + 1) by omega] at h1 h2
    exact ⟨⟨a.1, h1⟩, h2⟩
  | l, e, some (c, f) :: r, g, a => by
    obtain ⟨h1, h2⟩ := okB_split a.2.2.2
    rw [tears_some]
    exact ⟨⟨a.1, a.2.1, a.2.2.1, h1⟩, h2⟩
end DL

namespace DL
open PySem PySem.Spec PyProof.Rows L2
def strokes (h : List HI) : Nat := (h.filter Option.isSome).length
end DL

namespace DL
open PySem PySem.Spec PyProof.Rows L2
end DL

namespace DL
open PySem PySem.Spec PyProof.Rows L2
/-- the whole numbers that come about -/
def intB (B : Nat) (i : Int) : Prop := i.natAbs ≤ 40 + B ∨ (i - 100000000000000000000000000000000000000000000000000000000000).natAbs ≤ B ∨ (i + 100000000000000000000000000000000000000000000000000000000000).natAbs ≤ B
theorem intB.mono {B C : Nat} {i : Int} (h : intB B i) (hc : B ≤ C) : intB C i := by unfold intB at h ⊢; omega
def okTxt (i : Int) : Bool := ((toString i : Str).cps.toList.all fun c => decide (c < 1114112)) && decide ((toString i : Str).cps.toList.length ≤ 62) && shxB 70 0 (.int i) && decide (i.natAbs.log2 < 1920)
theorem txt_small : ∀ k : Fin 101, okTxt ((k.val : Int) - 50) = true := by decide +kernel
theorem txt_big : ∀ k : Fin 21, okTxt (100000000000000000000000000000000000000000000000000000000000 + (k.val : Int) - 10) = true := by decide +kernel
theorem txt_neg : ∀ k : Fin 21, okTxt (-100000000000000000000000000000000000000000000000000000000000 + (k.val : Int) - 10) = true := by decide +kernel
theorem txt_ok {i : Int} (h : intB 10 i) : okTxt i = true := by
  rcases h with h | h | h
  · have := txt_small ⟨(i + 50).toNat, by omega⟩
    rwa [show (((i + 50).toNat : Nat) : Int) - 50 = i by omega] at this
  · have := txt_big ⟨(i - 100000000000000000000000000000000000000000000000000000000000 + 10).toNat, by omega⟩
    rwa [show 100000000000000000000000000000000000000000000000000000000000 + (((i - 100000000000000000000000000000000000000000000000000000000000 + 10).toNat : Nat) : Int) - 10 = i by omega] at this
  · have := txt_neg ⟨(i + 100000000000000000000000000000000000000000000000000000000000 + 10).toNat, by omega⟩
    rwa [show -100000000000000000000000000000000000000000000000000000000000 + (((i + 100000000000000000000000000000000000000000000000000000000000 + 10).toNat : Nat) : Int) - 10 = i by omega] at this
theorem txt_all {i : Int} (h : intB 10 i) : (∀ c ∈ (toString i : Str).cps.toList, c < 1114112) ∧ (toString i : Str).cps.toList.length ≤ 62 ∧ Shx 70 0 (.int i) ∧ i.natAbs.log2 < 1920 := by
  have := txt_ok h
  unfold okTxt at this
  simp only [Bool.and_eq_true, List.all_eq_true, decide_eq_true_eq] at this
  exact ⟨this.1.1.1, this.1.1.2, shx_dec this.1.2, this.2⟩
mutual
def D.okx (B : Nat) : D → Prop
  | .non => True
  | .bl _ => True
  | .int i => intB B i
  | .str s => ∀ c ∈ s, c < 1114112
  | .tup xs => D.okxs B xs
  | .lst xs => D.okxs B xs
  | .dct kvs => kvs = [] ∨ kvs = [(.inr (S [97]), .int 1)]
  | .scr _ => False | .ref _ => False | .ty _ => False | .gl _ => False | .pr _ _ => False | .obj _ _ => False | .exn _ _ => False
def D.okxs (B : Nat) : List D → Prop
  | [] => True
  | x :: xs => x.okx B ∧ D.okxs B xs
end
mutual
def D.wx : D → Nat
  | .str s => s.length + 1
  | .tup xs => 1 + D.wxs xs
  | .lst xs => 1 + D.wxs xs
  | .int _ => 1 | .non => 1 | .bl _ => 1 | .dct _ => 1 | .scr _ => 0 | .ref _ => 0 | .ty _ => 0 | .gl _ => 0 | .pr _ _ => 0 | .obj _ _ => 0 | .exn _ _ => 0
def D.wxs : List D → Nat
  | [] => 0
  | x :: xs => x.wx + 1 + D.wxs xs
end
mutual
def D.dx : D → Nat
  | .tup xs => D.dxs xs + 1
  | .lst xs => D.dxs xs + 1
  | .dct _ => 1
  | .str _ => 0 | .int _ => 0 | .non => 0 | .bl _ => 0 | .scr _ => 0 | .ref _ => 0 | .ty _ => 0 | .gl _ => 0 | .pr _ _ => 0 | .obj _ _ => 0 | .exn _ _ => 0
def D.dxs : List D → Nat
  | [] => 0
  | x :: xs => max x.dx (D.dxs xs)
end
theorem okxs_iff {B : Nat} : ∀ {xs : List D}, D.okxs B xs ↔ ∀ x ∈ xs, x.okx B
  | [] => ⟨fun _ _ h => (nomatch h), fun _ => trivial⟩
  | x :: xs => by
    show (x.okx B ∧ D.okxs B xs) ↔ _
    rw [okxs_iff (xs := xs)]
    simp
theorem dxs_le {k : Nat} : ∀ {xs : List D}, D.dxs xs ≤ k ↔ ∀ x ∈ xs, x.dx ≤ k
  | [] => by simp [D.dxs]
  | x :: xs => by
    show max x.dx (D.dxs xs) ≤ k ↔ _
    rw [Nat.max_le, dxs_le (xs := xs)]
    simp
theorem wxs_len : ∀ xs : List D, xs.length ≤ D.wxs xs
  | [] => Nat.le_refl _
  | x :: xs => by have := wxs_len xs; simp [D.wxs]; omega
theorem wxs_mem {x : D} : ∀ {xs : List D}, x ∈ xs → x.wx + 1 ≤ D.wxs xs
  | y :: xs, h => by
    rcases List.mem_cons.mp h with rfl | h
    · simp [D.wxs]
    · have := wxs_mem h; simp [D.wxs]; omega
mutual
theorem okx_shx : ∀ d : D, d.okx 10 → Shx (70 * d.wx) d.dx d
  | .non, _ => shx_non.mono (by show 4 ≤ 70 * 1; omega) (Nat.le_refl _)
  | .bl b, _ => (shx_bl b).mono (by show 5 ≤ 70 * 1; omega) (Nat.le_refl _)
  | .int i, h => (txt_all h).2.2.1
  | .str s, h => (shx_str h (Nat.le_refl _)).mono (by show 10 * s.length + 2 ≤ 70 * (s.length + 1); omega) (Nat.le_refl _)
  | .tup xs, h => by
    obtain ⟨a, b, c, e, f⟩ := okxs_shx xs h
    refine ⟨a, b, Nat.succ_le_succ c, ?_⟩
    have h1 := tupleText_len_le (PyData.shownAll (D.pysO xs))
    show (tupleText (PyData.shownAll (D.pysO xs))).length ≤ 70 * (1 + D.wxs xs)
    omega
  | .lst xs, h => by
    obtain ⟨a, b, c, e, f⟩ := okxs_shx xs h
    refine ⟨a, b, Nat.succ_le_succ c, ?_⟩
    have h1 := listText_len_le (PyData.shownAll (D.pysO xs))
    show (listText (PyData.shownAll (D.pysO xs))).length ≤ 70 * (1 + D.wxs xs)
    omega
  | .dct kvs, h => by
    rcases h with rfl | rfl
    · exact shx_dec (by decide +kernel)
    · exact shx_dec (by decide +kernel)
  | .scr _, h => h.elim
  | .ref _, h => h.elim
  | .ty _, h => h.elim
  | .gl _, h => h.elim
  | .pr _ _, h => h.elim
  | .obj _ _, h => h.elim
  | .exn _ _, h => h.elim
theorem okxs_shx : ∀ xs : List D, D.okxs 10 xs → D.plains xs = true ∧ PyData.showableAll (D.pysO xs) = true ∧ PyData.depthAll (D.pysO xs) ≤ D.dxs xs ∧
    ((PyData.shownAll (D.pysO xs)).map (·.length)).sum + 2 * (PyData.shownAll (D.pysO xs)).length ≤ 70 * D.wxs xs ∧ (PyData.shownAll (D.pysO xs)).length = xs.length
  | [], _ => ⟨rfl, rfl, Nat.zero_le _, Nat.zero_le _, rfl⟩
  | x :: xs, h => by
    obtain ⟨a, b, c, e⟩ := okx_shx x h.1
    obtain ⟨a', b', c', e', f'⟩ := okxs_shx xs h.2
    refine ⟨?_, ?_, ?_, ?_, congrArg (· + 1) f'⟩
    · show (x.plain && D.plains xs) = true
      rw [a, a']; rfl
    · show (x.pyO.showable && PyData.showableAll (D.pysO xs)) = true
      rw [b, b']; rfl
    · show max x.pyO.depth (PyData.depthAll (D.pysO xs)) ≤ max x.dx (D.dxs xs)
      omega
    · show x.pyO.shown.length + ((PyData.shownAll (D.pysO xs)).map (·.length)).sum + 2 * ((PyData.shownAll (D.pysO xs)).length + 1) ≤ 70 * (x.wx + 1 + D.wxs xs)
      omega
end
theorem okx_isi {B : Nat} : ∀ {d : D}, d.okx B → isiOk d = true
  | .non, _ => rfl
  | .bl _, _ => rfl
  | .int _, _ => rfl
  | .str _, _ => rfl
  | .tup _, _ => rfl
  | .lst _, _ => rfl
  | .dct _, _ => rfl
mutual
theorem okx_mono {B C : Nat} (hc : B ≤ C) : ∀ d : D, d.okx B → d.okx C
  | .non, h => h
  | .bl _, h => h
  | .int _, h => intB.mono h hc
  | .str _, h => h
  | .tup xs, h => okxs_mono hc xs h
  | .lst xs, h => okxs_mono hc xs h
  | .dct _, h => h
  | .scr _, h => h
  | .ref _, h => h
  | .ty _, h => h
  | .gl _, h => h
  | .pr _ _, h => h
  | .obj _ _, h => h
  | .exn _ _, h => h
theorem okxs_mono {B C : Nat} (hc : B ≤ C) : ∀ xs : List D, D.okxs B xs → D.okxs C xs
  | [], h => h
  | x :: xs, h => ⟨okx_mono hc x h.1, okxs_mono hc xs h.2⟩
end
/-- a value: leaves of B, of weight w, of depth k -/
structure Vl (B w k : Nat) (d : D) : Prop where
  ok : d.okx B
  wt : d.wx ≤ w
  dp : d.dx ≤ k
theorem Vl.mono {B w k B' w' k' : Nat} {d : D} (h : Vl B w k d) (h1 : B ≤ B') (h2 : w ≤ w') (h3 : k ≤ k') : Vl B' w' k' d := ⟨okx_mono h1 d h.ok, Nat.le_trans h.wt h2, Nat.le_trans h.dp h3⟩
theorem Vl.shx {w k : Nat} {d : D} (h : Vl 10 w k d) : Shx (70 * w) k d := (okx_shx d h.ok).mono (Nat.mul_le_mul_left _ h.wt) h.dp
theorem Vl.tup {B w k : Nat} {xs : List D} (h : ∀ x ∈ xs, x.okx B ∧ x.dx ≤ k) (hw : D.wxs xs ≤ w) : Vl B (1 + w) (k + 1) (.tup xs) :=
  ⟨okxs_iff.mpr fun x hx => (h x hx).1, by show 1 + D.wxs xs ≤ _; omega, by show D.dxs xs + 1 ≤ _; have := dxs_le.mpr fun x hx => (h x hx).2; omega⟩
theorem Vl.lst {B w k : Nat} {xs : List D} (h : ∀ x ∈ xs, x.okx B ∧ x.dx ≤ k) (hw : D.wxs xs ≤ w) : Vl B (1 + w) (k + 1) (.lst xs) :=
  ⟨okxs_iff.mpr fun x hx => (h x hx).1, by show 1 + D.wxs xs ≤ _; omega, by show D.dxs xs + 1 ≤ _; have := dxs_le.mpr fun x hx => (h x hx).2; omega⟩
end DL

namespace DL
open PySem PySem.Spec PyProof.Rows L2
def oddA : List D := [.non, .bl true, .bl false, .int (-1), .int 0, .int 1, .int 2, .int 9, .int 31, .int (10 ^ 59), .str [], .str [97], .str [65], .str [97, 98], .str [97, 32, 98], .tup [], .lst [], .dct [],
  .tup [.int 0], .lst [.int 0], .tup [.str [97], .int 1], .tup [.str [97]], .dct [(.inr (S [97]), .int 1)], .tup [.non, .int 1], .tup [.str [97], .bl true], .tup [.str [], .str [98]]]
theorem oddA_vl : ∀ d ∈ oddA, Vl 0 12 1 d := by
  intro d hd
  unfold oddA at hd
  simp only [List.mem_cons, List.mem_nil_iff, or_false] at hd
  rcases hd with rfl | rfl | rfl | rfl | rfl | rfl | rfl | rfl | rfl | rfl | rfl | rfl | rfl | rfl | rfl | rfl | rfl | rfl | rfl | rfl | rfl | rfl | rfl | rfl | rfl | rfl <;>
    exact ⟨by simp [D.okx, D.okxs, intB], by simp [D.wx, D.wxs], by simp [D.dx, D.dxs]⟩
def sp_lawA_odd : DSp := drawSpD 1 fun r R => r = [] ∧ R = fun d => d ∈ oddA
theorem odd_ok {j c : Addr} {b : Nat} {μ0 μ : Sto} {Q : DK} {E : DXK} (h : StD j c μ0 b μ) (hb : b + 1 ≤ 1000000) (q : ∀ d μ', d ∈ oddA → StD j c μ0 (b + 1) μ' → Q d μ') : sp_lawA_odd [.ref j] μ Q E :=
  drawD_ok h hb ⟨rfl, rfl⟩ fun d μ' h1 h2 => q d μ' h1 h2
def b_lawA_odd_2 : TSD :=
  (dRet (dOp rdIx (dOp rdAdd (dLook 1) (dLst (dCons (dTup (dCons (dC (.int 0)) dNil)) (dCons (dLst (dCons (dC (.int 0)) dNil)) (dCons (dTup (dCons (dC (.str [97])) (dCons (dC (.int 1)) dNil))) (dCons (dTup (dCons (dC (.str [97])) dNil)) (dCons (dC (.dct [(.inr (S [97]), .int 1)])) (dCons (dTup (dCons (dC .non) (dCons (dC (.int 1)) dNil))) (dCons (dTup (dCons (dC (.str [97])) (dCons (dC (.bl true)) dNil))) (dCons (dTup (dCons (dC (.str [])) (dCons (dC (.str [98])) dNil))) dNil)))))))))) (dCall sp_law_draw (dCons (dVar 0) (dCons (dC (.int 26)) dNil)) noD)))
/-- _law_odd(_law_deck_here); slots 0:_law_deck_here 1:_law_some -/
def b_lawA_odd : TSD :=
  (dSeq (dSetR 1 (dVal (dLst (dCons (dC .non) (dCons (dC (.bl true)) (dCons (dC (.bl false)) (dCons (dNeg (dC (.int 1))) (dCons (dC (.int 0)) (dCons (dC (.int 1)) (dCons (dC (.int 2)) (dCons (dC (.int 9)) (dCons (dC (.int 31)) (dCons (dOp rdPow (dC (.int 10)) (dC (.int 59))) (dCons (dC (.str [])) (dCons (dC (.str [97])) (dCons (dC (.str [65])) (dCons (dC (.str [97, 98])) (dCons (dC (.str [97, 32, 98])) (dCons (dTup dNil) (dCons (dLst dNil) (dCons (dC (.dct [])) dNil)))))))))))))))))))))
  b_lawA_odd_2)
theorem len_lawA_odd : ∀ ds μ Q E, sp_lawA_odd ds μ Q E → ds.length = 1 := by
  rintro ds μ Q E ⟨j, c, b, r, rfl, _, _, R, ⟨rfl, _⟩, _⟩; rfl
theorem ok_lawA_odd : ∀ ds μ Q E, sp_lawA_odd ds μ Q E → b_lawA_odd { nx := fun _ μ' => Q .non μ', rt := Q } (startD 2 ds) μ := by
  rintro ds μ Q E ⟨j, c, b, r, rfl, hD, hb, R, ⟨rfl, rfl⟩, q⟩
  have s0 : StD j c μ b μ := ⟨hD, .refl⟩
  unfold b_lawA_odd
  rw [dSeq]
  simp [powOk, -dSeq]
  unfold b_lawA_odd_2
  simp
  refine draw1_ok (m := 26) s0 (by omega) (by omega) (by omega) fun y μ1 hy s1 => ?_
  obtain ⟨d, h1, h2⟩ := atI_of (xs := oddA) (i := (y : Int)) (by omega) (by show (y : Int) < 26; omega)
  exact ⟨d, h1, q d μ1 h2 s1.1 s1.2⟩
theorem Vl.of_tup {B w k : Nat} {xs : List D} (h : Vl B w k (.tup xs)) : (∀ x ∈ xs, x.okx B) ∧ (∀ x ∈ xs, x.dx + 1 ≤ k) ∧ 1 + D.wxs xs ≤ w ∧ 1 ≤ k := by
  have hd : D.dxs xs + 1 ≤ k := h.dp
  exact ⟨okxs_iff.mp h.ok, fun x hx => by have := dxs_le.mp (Nat.le_refl (D.dxs xs)) x hx; omega, h.wt, by omega⟩
theorem mkT {B w k : Nat} {ys : List D} (h : ∀ y ∈ ys, y.okx B ∧ y.dx + 1 ≤ k) (hw : 1 + D.wxs ys ≤ w) (hk : 1 ≤ k) : Vl B w k (.tup ys) :=
  ⟨okxs_iff.mpr fun y hy => (h y hy).1, hw, by show D.dxs ys + 1 ≤ k; have := (dxs_le (k := k - 1)).mpr fun y hy => (by have := (h y hy).2; omega : y.dx ≤ k - 1); omega⟩
end DL

namespace DL
open PySem PySem.Spec PyProof.Rows L2
theorem isLet_str (c : Nat) : isLet (.str [c]) = (decide (97 ≤ c) && decide (c ≤ 122)) := rfl
end DL

namespace DL
open PySem PySem.Spec PyProof.Rows L2
def sp_law_is_letter : DSp := sp_is_letter
/-- _law_is_letter(_law_value); slots 0:_law_value -/
def b_law_is_letter : TSD :=
  (dRet (dAndV (dFn rdIsi (dCons (dLook 0) (dCons (dC (.ty "str")) dNil))) (dAndV (dOp rdEq (dFn rdLen (dCons (dLook 0) dNil)) (dC (.int 1))) (dOp rdIn (dLook 0) (dC (.str [97, 98, 99, 100, 101, 102, 103, 104, 105, 106, 107, 108, 109, 110, 111, 112, 113, 114, 115, 116, 117, 118, 119, 120, 121, 122]))))))
theorem len_law_is_letter : ∀ ds μ Q E, sp_law_is_letter ds μ Q E → ds.length = 1 := len_is_letter
theorem ok_law_is_letter : ∀ ds μ Q E, sp_law_is_letter ds μ Q E → b_law_is_letter { nx := fun _ μ' => Q .non μ', rt := Q } (startD 1 ds) μ := ok_is_letter
end DL

namespace DL
open PySem PySem.Spec PyProof.Rows L2
end DL

namespace DL
open PySem PySem.Spec PyProof.Rows L2
def prt (n : Nat) (pre : List HI) (c i : Nat) : List (List Nat) := (List.range n).map fun k => lt pre 0 k ++ if tears pre ≤ k ∧ k < tears pre + i then [c] else []
end DL

namespace DL
open PySem PySem.Spec PyProof.Rows L2
def sp_lawA_same : DSp := fun ds μ Q _ => ∃ a b : D, ds = [a, b] ∧ a = b ∧ repOkO a ∧ Q (.bl true) μ
/-- _law_same(_law_found, _law_due_here); slots 0:_law_found 1:_law_due_here -/
def b_lawA_same : TSD :=
  (dRet (dOp rdEq (dFn rdReprO (dCons (dLook 0) dNil)) (dFn rdReprO (dCons (dLook 1) dNil))))
theorem len_lawA_same : ∀ ds μ Q E, sp_lawA_same ds μ Q E → ds.length = 2 := by
  rintro ds μ Q E ⟨a, b, rfl, _⟩; rfl
theorem ok_lawA_same : ∀ ds μ Q E, sp_lawA_same ds μ Q E → b_lawA_same { nx := fun _ μ' => Q .non μ', rt := Q } (startD 2 ds) μ := by
  rintro ds μ Q E ⟨a, b, rfl, rfl, hr, q⟩
  unfold b_lawA_same
  simp
  exact ⟨hr, q⟩
/-- the values that are judged -/
def V2 (v : D) : Prop := Vl 10 1950 12 v
theorem V2.rep {v : D} (h : V2 v) : repOkO v := (Vl.shx h).rep (by omega) (by omega)
theorem wx_pos {B : Nat} : ∀ {v : D}, v.okx B → 1 ≤ v.wx
  | .non, _ => Nat.le_refl _
  | .bl _, _ => Nat.le_refl _
  | .int _, _ => Nat.le_refl _
  | .str s, _ => by show 1 ≤ s.length + 1; omega
  | .tup xs, _ => by show 1 ≤ 1 + D.wxs xs; omega
  | .lst xs, _ => by show 1 ≤ 1 + D.wxs xs; omega
  | .dct _, _ => Nat.le_refl _
theorem wxs_len2 {B : Nat} : ∀ {xs : List D}, (∀ x ∈ xs, x.okx B) → 2 * xs.length ≤ D.wxs xs
  | [], _ => Nat.le_refl _
  | x :: xs, h => by
    have h1 := wxs_len2 (xs := xs) fun y hy => h y (List.mem_cons_of_mem _ hy)
    have h2 := wx_pos (h x (by simp))
    show 2 * (xs.length + 1) ≤ x.wx + 1 + D.wxs xs
    omega
theorem sOk_of {v : D} (h : v.wx ≤ 100000) : sOk v := by
  cases v <;> try trivial
  rename_i s
  have h : s.length + 1 ≤ 100000 := h
  show s.length ≤ 16777216
  omega
theorem V2.j {v : D} (h : V2 v) : jOk v := by
  cases v <;> try trivial
  rename_i xs
  obtain ⟨o1, o2, o3, o4⟩ := h.of_tup
  have hl := wxs_len2 o1
  refine ⟨by omega, fun x hx => ⟨okx_isi (o1 x hx), ?_⟩⟩
  have hw := wxs_mem hx
  have ho := o1 x hx
  cases x <;> try trivial
  rename_i ys
  have ho : D.okxs 10 ys := ho
  have hw : 1 + D.wxs ys + 1 ≤ D.wxs xs := hw
  have := wxs_len ys
  refine ⟨by show _ ≤ 16777216; omega, fun y hy => ⟨okx_isi (okxs_iff.mp ho y hy), sOk_of (by have := wxs_mem hy; omega)⟩⟩
def Gd (x : D) : Prop := x.okx 10 ∧ x.dx ≤ 2 ∧ x.wx ≤ 8
theorem Gd.wxs : ∀ {ys : List D}, (∀ y ∈ ys, Gd y) → D.wxs ys ≤ 9 * ys.length
  | [], _ => Nat.le_refl _
  | y :: ys, h => by
    have h1 := Gd.wxs (ys := ys) fun z hz => h z (List.mem_cons_of_mem _ hz)
    have h2 := (h y (by simp)).2.2
    show y.wx + 1 + D.wxs ys ≤ 9 * (ys.length + 1)
    omega
theorem Gd.tup {ys : List D} (h : ∀ y ∈ ys, Gd y) (hl : ys.length ≤ 200) : V2 (.tup ys) := by
  have := Gd.wxs h
  exact mkT (fun y hy => ⟨(h y hy).1, by have := (h y hy).2.1; omega⟩) (by omega) (by omega)
theorem Gd.lst {ys : List D} (h : ∀ y ∈ ys, Gd y) (hl : ys.length ≤ 200) : V2 (.lst ys) := by
  have := Gd.tup h hl
  exact ⟨this.ok, this.wt, this.dp⟩
theorem Gd.app {xs ys : List D} (h : ∀ y ∈ xs, Gd y) (g : ∀ y ∈ ys, Gd y) : ∀ y ∈ xs ++ ys, Gd y := fun y hy => (List.mem_append.mp hy).elim (h y) (g y)
theorem Gd.one {x : D} (h : Gd x) : ∀ y ∈ [x], Gd y := fun y hy => by rw [List.mem_singleton.mp hy]; exact h
theorem Gd.repl {x : D} (h : Gd x) (k : Nat) : ∀ y ∈ repl k [x], Gd y := fun y hy => by
  unfold DL.repl at hy
  obtain ⟨l, hl, hy⟩ := List.mem_flatten.mp hy
  rw [(List.mem_replicate.mp hl).2] at hy
  exact Gd.one h y hy
theorem cut_mem {α : Type} {l : List α} {a b : Option Int} {x : α} (h : x ∈ cut l a b) : x ∈ l := by
  unfold cut at h
  exact List.mem_of_mem_drop (List.mem_of_mem_take h)
theorem cut_le {α : Type} (l : List α) (a b : Option Int) : (cut l a b).length ≤ l.length := by
  unfold cut
  rw [List.length_take, List.length_drop]; omega
theorem Gd.non : Gd .non := ⟨trivial, Nat.zero_le _, by show 1 ≤ 8; omega⟩
theorem Gd.stroke {c : Nat} {f : Int} (hc : c < 1114112) (hf : f.natAbs ≤ 50) : Gd (.tup [.str [c], .int f]) := by
  refine ⟨⟨?_, ?_, trivial⟩, by show 0 + 1 ≤ 2; omega, by show 1 + (2 + 1 + (1 + 1 + 0)) ≤ 8; omega⟩
  · intro d hd; simp at hd; subst hd; exact hc
  · show intB 10 _; unfold intB; omega
end DL

namespace DL
open PySem PySem.Spec PyProof.Rows L2
open PySem.W (Tup Datum DatumOrd minOf minD dataLt alike AlikeAll)
def keysD : List D → Option (List Key)
  | [] => some []
  | d :: ds => (keyD d).bind fun k => (keysD ds).map (k :: ·)
@[simp] theorem keysD_nil : keysD [] = some [] := rfl
@[simp] theorem keysD_cons (d : D) (ds : List D) : keysD (d :: ds) = (keyD d).bind fun k => (keysD ds).map (k :: ·) := rfl
def valT (kvs : List (List Key × D)) (k : List Key) : Option D := (kvs.find? fun kv => decide (kv.1 = k)).map (·.2)
def putT (kvs : List (List Key × D)) (k : List Key) (d : D) : List (List Key × D) := if kvs.any fun kv => decide (kv.1 = k) then kvs.map fun kv => if kv.1 = k then (kv.1, d) else kv else kvs ++ [(k, d)]
section
variable {K : PySem.W.Frag} {mg : Str → Option Value} {F H : Hp} {μ : Sto}
def KvT (K : PySem.W.Frag) (mg : Str → Option Value) (F : Hp) (vs : List (List Key × V)) (ds : List (List Key × D)) : Prop := vs.map (·.1) = ds.map (·.1) ∧ Dts K mg F (vs.map (·.2)) (ds.map (·.2))
theorem KvT.cases' {v : List Key × V} {vs : List (List Key × V)} {d : List Key × D} {ds : List (List Key × D)} (h : KvT K mg F (v :: vs) (d :: ds)) : v.1 = d.1 ∧ Dt K mg F v.2 d.2 ∧ KvT K mg F vs ds := by
  obtain ⟨h1, h2⟩ := h
  rw [List.map_cons, List.map_cons] at h1 h2
  injection h1 with a b
  cases h2 with
  | cons c e => exact ⟨a, c, b, e⟩
theorem KvT.len {vs : List (List Key × V)} {ds : List (List Key × D)} (h : KvT K mg F vs ds) : vs.length = ds.length := by
  have := congrArg List.length h.1
  simpa using this
theorem KvT.val : ∀ {vs : List (List Key × V)} {ds : List (List Key × D)}, KvT K mg F vs ds → ∀ k d, valT ds k = some d → ∃ v, valV vs k = some v ∧ Dt K mg F v d
  | [], [], _, k, d, e => by cases e
  | [], _ :: _, h, _, _, _ => absurd h.len (by simp)
  | _ :: _, [], h, _, _, _ => absurd h.len (by simp)
  | (j, v) :: vs, (j', d0) :: ds, h, k, d, e => by
    obtain ⟨h1, h2, h3⟩ := h.cases'
    have h1 : j = j' := h1
    subst h1
    by_cases ej : j = k
    · subst ej
      have e1 : valT ((j, d0) :: ds) j = some d0 := by simp [valT]
      have e2 : valV ((j, v) :: vs) j = some v := by simp [valV]
      rw [e1] at e; cases e
      exact ⟨v, e2, h2⟩
    · have e1 : valT ((j, d0) :: ds) k = valT ds k := by simp [valT, ej]
      have e2 : valV ((j, v) :: vs) k = valV vs k := by simp [valV, ej]
      rw [e1] at e; rw [e2]
      exact KvT.val h3 k d e
theorem KvT.any : ∀ {vs : List (List Key × V)} {ds : List (List Key × D)}, KvT K mg F vs ds → ∀ k, (vs.any fun kv => decide (kv.1 = k)) = ds.any fun kv => decide (kv.1 = k)
  | [], [], _, k => rfl
  | [], _ :: _, h, _ => absurd h.len (by simp)
  | _ :: _, [], h, _ => absurd h.len (by simp)
  | (j, v) :: vs, (j', d0) :: ds, h, k => by
    obtain ⟨h1, h2, h3⟩ := h.cases'
    rw [List.any_cons, List.any_cons, KvT.any h3 k, h1]
theorem KvT.cons {k : List Key} {v : V} {d : D} {vs : List (List Key × V)} {ds : List (List Key × D)} (h : Dt K mg F v d) (r : KvT K mg F vs ds) : KvT K mg F ((k, v) :: vs) ((k, d) :: ds) :=
  ⟨by rw [List.map_cons, List.map_cons, r.1], .cons h r.2⟩
theorem KvT.rep {v : V} {d : D} (h : Dt K mg F v d) (k : List Key) : ∀ {vs : List (List Key × V)} {ds : List (List Key × D)}, KvT K mg F vs ds → KvT K mg F (vs.map fun kv => if kv.1 = k then (kv.1, v) else kv) (ds.map fun kv => if kv.1 = k then (kv.1, d) else kv)
  | [], [], r => r
  | [], _ :: _, h => absurd h.len (by simp)
  | _ :: _, [], h => absurd h.len (by simp)
  | (j, w) :: vs, (j', d0) :: ds, r => by
    obtain ⟨h1, h2, h3⟩ := r.cases'
    have h1 : j = j' := h1
    subst h1
    rw [List.map_cons, List.map_cons]
    by_cases e : j = k
    · simp only [if_pos e]
      exact .cons h (KvT.rep h k h3)
    · simp only [if_neg e]
      exact .cons h2 (KvT.rep h k h3)
theorem KvT.app : ∀ {vs ws : List (List Key × V)} {ds es : List (List Key × D)}, KvT K mg F vs ds → KvT K mg F ws es → KvT K mg F (vs ++ ws) (ds ++ es) := fun h g =>
  ⟨by rw [List.map_append, List.map_append, h.1, g.1], by rw [List.map_append, List.map_append]; exact h.2.append g.2⟩
theorem KvT.mono {F' : Hp} (hF : ∀ a o, F a = some o → F' a = some o) {vs : List (List Key × V)} {ds : List (List Key × D)} (r : KvT K mg F vs ds) : KvT K mg F' vs ds := ⟨r.1, r.2.mono hF⟩
end
section
variable {X : Cx} {B : Bs} {e o : Expr} {d do' : TED} {p pos kpos : Pos} {es : List Expr} {t : TAD} {kx : Nat}
/-- {} whose keys will be tuples -/
@[simp] def dNewT : TED := fun _ μ Q => ∀ p, μ p = none → Q (.ref p) (sset μ p (.dtt []))
/-- d[(y, z)] -/
@[simp] def dGetT (o : TED) (t : TAD) : TED := fun ρ μ Q => o ρ μ fun x μ1 => t ρ μ1 fun ys μ2 => ∃ a kvs k d, x = .ref a ∧ μ2 a = some (.dtt kvs) ∧ keysD ys = some k ∧ ys.length ≤ SZ ∧ valT kvs k = some d ∧ Q d μ2
/-- d[(y, z)] = v -/
@[simp] def dPutT (d o : TED) (t : TAD) : TSD := fun E ρ μ => d ρ μ fun v μ1 => o ρ μ1 fun x μ2 => t ρ μ2 fun ys μ3 => ∃ a kvs k, x = .ref a ∧ μ3 a = some (.dtt kvs) ∧ keysD ys = some k ∧ ys.length ≤ SZ ∧ kvs.length < SZ ∧ E.nx ρ (sset μ3 a (.dtt (putT kvs k v)))
end
section
variable {K : PySem.W.Frag} {mg : Str → Option Value}
/-- data of one form, as a list for min -/
def alikeD (xs : List D) : Prop := D.flats xs = true ∧ AlikeAll (D.pys xs) ∧ PyData.depthAll (D.pys xs) ≤ 60
def rdMinD : RDn
  | [.lst (x :: xs)], μ, Q => alikeD (x :: xs) ∧ ∀ d, d ∈ x :: xs → d.py = minD x.py (D.pys xs) → Q d μ
  | _, _, _ => False
@[simp] theorem rdMinD_1 : rdMinD [.lst (x0 :: xs0)] μ0 Q0 = (alikeD (x0 :: xs0) ∧ ∀ d, d ∈ x0 :: xs0 → d.py = minD x0.py (D.pys xs0) → Q0 d μ0) := rfl
end
class DatD (α : Type) [DecidableEq α] [DatumOrd α] where
  of : α → D
  flat : ∀ a, (of a).flat = true
  py : ∀ a, (of a).py = Datum.toD a
theorem flats_map {α : Type} [DecidableEq α] [DatumOrd α] [DatD α] : ∀ l : List α, D.flats (l.map DatD.of) = true
  | [] => rfl
  | a :: l => by rw [List.map_cons, D.flats, DatD.flat a, flats_map l]; rfl
theorem pys_of {α : Type} [DecidableEq α] [DatumOrd α] [DatD α] : ∀ l : List α, D.pys (l.map DatD.of) = l.map Datum.toD
  | [] => rfl
  | a :: l => by rw [List.map_cons, D.pys, DatD.py a, pys_of l]; rfl
instance : DatD Int := ⟨D.int, fun _ => rfl, fun _ => rfl⟩
instance {α β : Type} [DecidableEq α] [DatumOrd α] [DatD α] [DecidableEq β] [DatumOrd β] [DatD β] : DatD (α × β) :=
  ⟨fun p => .tup [DatD.of p.1, DatD.of p.2], fun p => by simp [D.flat, D.flats, DatD.flat], fun p => by simp [D.py, D.pys, DatD.py]; rfl⟩
instance {α : Type} [DecidableEq α] [DatumOrd α] [DatD α] : DatD (Tup α) :=
  ⟨fun p => .tup (p.items.map DatD.of), fun p => by simp only [D.flat]; exact flats_map _, fun p => by simp only [D.py]; rw [pys_of]; rfl⟩
end DL

namespace DL
open PySem PySem.Spec PyProof.Rows L2
section
variable {X : Cx} {e o a b t : Expr} {do' : TED} {p pos apos : Pos} {da db : TFD} {ta : TTD}
@[simp] def dBits (o : TED) : TED := fun ρ μ Q => o ρ μ fun x μ1 => ∃ i, x = .int i ∧ Q (.int (Builtin.Int.intBits i : Nat)) μ1
@[simp] def dIfF (t : TTD) (a b : TFD) : TFD := fun ρ μ Q => t ρ μ fun c μ1 => if c = true then a ρ μ1 Q else b ρ μ1 Q
end
end DL

namespace DL
open PySem PySem.Spec PyProof.Rows L2
section
variable {X : Cx} {ea eb ec ed ek ex : Expr} {da db dc dd dk dx : TED} {p pos apos dpos : Pos}
@[simp] def dDG (a b c d k x : TED) : TED := fun ρ μ Q => a ρ μ fun va μ1 => b ρ μ1 fun vb μ2 => c ρ μ2 fun vc μ3 => d ρ μ3 fun vd μ4 =>
  ∃ ia ib ic id : Int, va = .int ia ∧ vb = .int ib ∧ vc = .int ic ∧ vd = .int id ∧ k ρ μ4 fun vk μ5 => x ρ μ5 fun vx μ6 => ∃ ik ix : Int, vk = .int ik ∧ vx = .int ix ∧ Q (.int (if ik = ic then id else if ik = ia then ib else ix)) μ6
end
end DL

namespace DL
open PySem PySem.Spec PyProof.Rows L2
def putFD (f : Str) (v : D) : List (Str × D) → List (Str × D)
  | [] => [(f, v)]
  | (g, x) :: r => if g = f then (g, v) :: r else (g, x) :: putFD f v r
section
variable {K : PySem.W.Frag} {mg : Str → Option Value} {F H : Hp} {μ : Sto}
def FsR (K : PySem.W.Frag) (mg : Str → Option Value) (F : Hp) (vs : List (Str × V)) (ds : List (Str × D)) : Prop := vs.map (·.1) = ds.map (·.1) ∧ Dts K mg F (vs.map (·.2)) (ds.map (·.2))
theorem FsR.cases' {v : Str × V} {vs : List (Str × V)} {d : Str × D} {ds : List (Str × D)} (h : FsR K mg F (v :: vs) (d :: ds)) : v.1 = d.1 ∧ Dt K mg F v.2 d.2 ∧ FsR K mg F vs ds := by
  obtain ⟨h1, h2⟩ := h
  rw [List.map_cons, List.map_cons] at h1 h2
  injection h1 with a b
  cases h2 with
  | cons c e => exact ⟨a, c, b, e⟩
theorem FsR.len {vs : List (Str × V)} {ds : List (Str × D)} (h : FsR K mg F vs ds) : vs.length = ds.length := by
  have := congrArg List.length h.1
  simpa using this
theorem FsR.cons {k : Str} {v : V} {d : D} {vs : List (Str × V)} {ds : List (Str × D)} (h : Dt K mg F v d) (r : FsR K mg F vs ds) : FsR K mg F ((k, v) :: vs) ((k, d) :: ds) :=
  ⟨by rw [List.map_cons, List.map_cons, r.1], .cons h r.2⟩
theorem FsR.look : ∀ {vs : List (Str × V)} {ds : List (Str × D)}, FsR K mg F vs ds → ∀ f, (∀ d, ds.lookup f = some d → ∃ v, vs.lookup f = some v ∧ Dt K mg F v d) ∧ (ds.lookup f = none → vs.lookup f = none)
  | [], [], _, f => ⟨fun _ e => (by cases e), fun _ => rfl⟩
  | [], _ :: _, h, _ => absurd h.len (by simp)
  | _ :: _, [], h, _ => absurd h.len (by simp)
  | (j, v) :: vs, (j', d0) :: ds, h, f => by
    obtain ⟨h1, h2, h3⟩ := h.cases'
    have h1 : j = j' := h1
    subst h1
    have ih := FsR.look h3 f
    rw [List.lookup_cons, List.lookup_cons]
    cases hb : f == j with
    | true => exact ⟨fun d e => (by cases e; exact ⟨v, rfl, h2⟩), fun e => (by cases e)⟩
    | false => exact ih
theorem FsR.mono {F' : Hp} (hF : ∀ a o, F a = some o → F' a = some o) {vs : List (Str × V)} {ds : List (Str × D)} (r : FsR K mg F vs ds) : FsR K mg F' vs ds := ⟨r.1, r.2.mono hF⟩
theorem Ok.ins (o : Ok K mg F μ H) {a : Addr} {c : Str} {fs : List (Str × D)} (h : μ a = some (.ins c fs)) : ∃ C dx vfs, mg c = some (.ref C) ∧ H a = some (.ins C dx vfs) ∧ FsR K mg F vfs fs := by
  obtain ⟨C, dx, vfs, h1, h2, h3, h4⟩ := o.sto _ _ h
  exact ⟨C, dx, vfs, h1, h2, h3, h4⟩
/-- an instance: its class, its fields -/
def insOf (μ : Sto) : D → Option (Str × List (Str × D))
  | .ref a => match μ a with
    | some (.ins c fs) => some (c, fs)
    | _ => none
  | .obj c fs => some (c, fs)
  | _ => none
@[simp] theorem insOf_obj {c : Str} {fs : List (Str × D)} : insOf μ (.obj c fs) = some (c, fs) := rfl
@[simp] theorem insOf_ref {a : Addr} {c : Str} {fs : List (Str × D)} : insOf μ (.ref a) = some (c, fs) ↔ μ a = some (.ins c fs) := by
  unfold insOf
  dsimp only
  split
  · rename_i c' fs' e
    rw [e]
    constructor
    · intro h; cases h; rfl
    · intro h; cases h; rfl
  · rename_i hn
    constructor
    · intro h; cases h
    · intro h; exact (hn _ _ h).elim
def insK : Option (Str × List (Str × D)) → (Str → List (Str × D) → Prop) → Prop
  | some (c, fs), k => k c fs
  | none, _ => False
@[simp] theorem insK_1 {c : Str} {fs : List (Str × D)} {k : Str → List (Str × D) → Prop} : insK (some (c, fs)) k = k c fs := rfl
@[simp] theorem insOf_same {a : Addr} {c : Str} {fs : List (Str × D)} : insOf (sset μ a (.ins c fs)) (.ref a) = some (c, fs) := insOf_ref.mpr sset_same
def selK : List (Str × DSp) → Str → (DSp → Prop) → Prop
  | [], _, _ => False
  | (c', S) :: r, c, k => if c' = c then k S else selK r c k
@[simp] theorem selK_0 {c : Str} {k : DSp → Prop} : selK [] c k = False := rfl
@[simp] theorem selK_1 {c c' : Str} {S : DSp} {r : List (Str × DSp)} {k : DSp → Prop} : selK ((c', S) :: r) c k = if c' = c then k S else selK r c k := rfl
def fldK : List (Str × D) → Str → (D → Prop) → Prop
  | [], _, _ => False
  | (g, x) :: r, f, k => if g = f then k x else fldK r f k
@[simp] theorem fldK_0 {f : Str} {k : D → Prop} : fldK [] f k = False := rfl
@[simp] theorem fldK_1 {f g : Str} {x : D} {r : List (Str × D)} {k : D → Prop} : fldK ((g, x) :: r) f k = if g = f then k x else fldK r f k := rfl
/-- no field of that name -/
def noF (fs : List (Str × D)) (m : Str) : Prop := fs.lookup m = none
@[simp] theorem noF_0 {m : Str} : noF [] m = True := by simp [noF]
@[simp] theorem noF_1 {m g : Str} {x : D} {r : List (Str × D)} : noF ((g, x) :: r) m = (¬ g = m ∧ noF r m) := by
  unfold noF
  rw [List.lookup_cons]
  by_cases e : g = m
  · subst e; simp
  · have e' : (m == g) = false := beq_eq_false_iff_ne.mpr fun z => e z.symm
    rw [e']; simp [e]
@[simp] theorem putFD_0 {f : Str} {v : D} : putFD f v [] = [(f, v)] := rfl
@[simp] theorem putFD_1 {f g : Str} {v x : D} {r : List (Str × D)} : putFD f v ((g, x) :: r) = if g = f then (g, v) :: r else (g, x) :: putFD f v r := rfl
end
section
variable {X : Cx} {Bq : Bs}
abbrev RlT := Hp → DEnv → Sto → L2.St → Hp → Prop
structure Md (X : Cx) (Rl : RlT) (W : DEnv → DXK) : Prop where
  rel : ∀ F ρ μ σ H, Rl F ρ μ σ H → Rel X.K X.mg F ρ μ σ H
  step : ∀ F ρ μ σ H F' μ' H', Rl F ρ μ σ H → Ext F μ H F' μ' H' → Ok X.K X.mg F' μ' H' → Rl F' ρ μ' σ H'
  wish : ∀ σ, ∃ E : XK, PassesAt (L2.CX X.prog X.w) X σ E ∧ ∀ F ρ μ H, Rl F ρ μ σ H → ∀ cv od F' μ' H' c fs, Ext F μ H F' μ' H' → Ok X.K X.mg F' μ' H' → XD X.K X.mg H F' μ' H' cv od c fs → W ρ c fs μ' → E cv od H'
theorem Md.no : Md X (Rel X.K X.mg) (fun _ => noD) := ⟨fun _ _ _ _ _ h => h, fun _ _ _ _ _ _ _ _ h e o => h.ext e o, fun σ => ⟨_, passAt takesN σ, fun _ _ _ _ _ _ _ _ _ _ _ _ _ _ _ z => z.elim⟩⟩
theorem Md.x {W : DEnv → DXK} (tk : Takes X (liftWX X.K X.mg Bq W)) : Md X (RelB X.K X.mg Bq) W := ⟨fun _ _ _ _ _ h => h.rel, fun _ _ _ _ _ _ _ _ h e o => h.step e o, fun σ => ⟨_, passAt tk σ, fun F ρ μ H R cv od F' μ' H' c fs e o x w => ⟨F', ρ, μ', c, fs, R.step e o, x.mono R.ext.live, w⟩⟩⟩
end
theorem FR.up {P : Program} {w : World} {K : PySem.W.Frag} {mg : Str → Option Value} {base : Heap} {k : Nat} {f : Addr} {sp : Sp} (h : FR P w K mg base L2.CX0 k f sp) : FR P w K mg base (L2.CX P w) k f sp := by
  intro A outer s H us vs Q E q r e v z
  refine codeAny_mono (h A outer s H us vs Q E q r e v z) ?_
  intro r s' hz
  cases r with
  | error e => exact hz.elim
  | ok f => cases f <;> exact hz
section
variable {X : Cx} {B : Bs} {o e : Expr} {do' d : TED} {f m : Str} {pos pos' apos : Pos} {cs : List Str}
/-- o.f -/
@[simp] def dFld (cs : List Str) (f : Str) (o : TED) : TED := fun ρ μ Q => o ρ μ fun x μ1 => insK (insOf μ1 x) fun c fs => c ∈ cs ∧ fldK fs f fun v => Q v μ1
/-- the address of an object that changes -/
def refK : D → (Addr → Prop) → Prop
  | .ref a, k => k a
  | _, _ => False
@[simp] theorem refK_1 {a : Addr} {k : Addr → Prop} : refK (.ref a) k = k a := rfl
/-- o.f = v -/
@[simp] def dSetA (cs : List Str) (f : Str) (o d : TED) : TSD := fun E ρ μ => d ρ μ fun y μ1 => o ρ μ1 fun x μ2 => refK x fun a => insK (insOf μ2 (.ref a)) fun c fs => c ∈ cs ∧ fs.length < 1000 ∧ E.nx ρ (sset μ2 a (.ins c (putFD f y fs)))
end
/-- the method m of the class c keeps the promise S -/
def MCal (P : Program) (w : World) (K : PySem.W.Frag) (mg : Str → Option Value) (base : Heap) (k : Nat) (m : Str) (c : Str) (S : DSp) : Prop := ∃ C f, mg c = some (.ref C) ∧ Cls K C ∧ Meth K C m f ∧ FR P w K mg base (L2.CX P w) k f (liftP K mg S)
theorem MCal.mono {P : Program} {w : World} {K : PySem.W.Frag} {mg : Str → Option Value} {base : Heap} {j k : Nat} {m c : Str} {S : DSp} (h : MCal P w K mg base j m c S) (hk : j ≤ k) : MCal P w K mg base k m c S := by
  obtain ⟨C, f, h1, h2, h3, h4⟩ := h
  exact ⟨C, f, h1, h2, h3, fun A outer s H us vs Q E q rm => h4 A outer s H us vs Q E q (rm.mono hk)⟩
section
variable {X : Cx} {B : Bs} {o e : Expr} {es : List Expr} {do' d : TED} {t : TAD} {f m : Str} {pos pos' apos : Pos} {k : Nat} {Ss : List (Str × DSp)} {W : DEnv → DXK} {Rl : RlT}
/-- o.m(..) -/
@[simp] def dMeth (m : Str) (Ss : List (Str × DSp)) (o : TED) (t : TAD) (W : DEnv → DXK) : TED := fun ρ μ Q => o ρ μ fun x μ1 => insK (insOf μ1 x) fun c fs => noF fs m ∧ selK Ss c fun S => t ρ μ1 fun ds μ2 => S (x :: ds) μ2 Q (W ρ)
end
section
variable {X : Cx} {B : Bs} {o e : Expr} {es : List Expr} {do' d : TED} {t : TAD} {f m x : Str} {p pos pos' apos : Pos} {k : Nat} {Ss : List (Str × DSp)} {W : DEnv → DXK} {C pr g a dx : Addr} {fs : List (Str × V)} {sp : Sp} {Rl : RlT}
@[simp] def dProp (f : Str) (Ss : List (Str × DSp)) (o : TED) (_ : DEnv → DXK) : TED := fun ρ μ Q => o ρ μ fun x μ1 => insK (insOf μ1 x) fun c _ => selK Ss c fun S => S [x] μ1 Q noD
end
/-- a class whose objects never change: from the arguments either the fields or an exception -/
abbrev ZMk := List D → (List (Str × D)) ⊕ (Str × List (Str × D))
/-- .. and the call -/
def zNew (c : Str) (dom : List D → Prop) (mk : ZMk) : DSp := fun ds μ Q E => dom ds ∧ match mk ds with
  | .inl fs => Q (.obj c fs) μ
  | .inr (e, efs) => E e efs μ
section
variable {X : Cx} {B : Bs} {e : Expr} {es : List Expr} {t : TAD} {x : Str} {p pos : Pos} {k : Nat} {S : DSp} {W : DEnv → DXK} {C f : Addr} {sp : Sp} {Rl : RlT}
@[simp] def dMake (c : Str) (S : DSp) (t : TAD) (W : DEnv → DXK) : TED := fun ρ μ Q => t ρ μ fun ds μ1 => ∀ x, μ1 x = none → S (.ref x :: ds) (sset μ1 x (.ins c [])) (fun v μ2 => v = .non ∧ Q (.ref x) μ2) (W ρ)
@[simp] def dMakeZ (c : Str) (dom : List D → Prop) (mk : ZMk) (t : TAD) (W : DEnv → DXK) : TED := fun ρ μ Q => t ρ μ fun ds μ1 => zNew c dom mk ds μ1 Q (W ρ)
end
end DL

namespace DL
open PySem PySem.Spec PyProof.Rows L2
/-- .. at data -/
def rdM (Ss : List (Str × DSp)) : List D → Sto → DK → DXK → Prop
  | x :: r, μ, Q, E => insK (insOf μ x) fun c _ => selK Ss c fun S => S (x :: r) μ Q E
  | [], _, _, _ => False
@[simp] theorem rdM_1 {Ss : List (Str × DSp)} {x : D} {r : List D} {μ : Sto} {Q : DK} {E : DXK} : rdM Ss (x :: r) μ Q E = insK (insOf μ x) fun c _ => selK Ss c fun S => S (x :: r) μ Q E := rfl
section
variable {X : Cx} {k : Nat} {m : Str} {Ss : List (Str × DSp)}
def okS (μ : Sto) (x y : D) : Prop := isiOk y = true ∨ ∃ c fs gs, insOf μ x = some (c, fs) ∧ insOf μ y = some (c, gs)
@[simp] theorem okS_obj {μ : Sto} {c : Str} {fs gs : List (Str × D)} : okS μ (.obj c fs) (.obj c gs) := .inr ⟨c, fs, gs, rfl, rfl⟩
end
end DL

namespace DL
open PySem PySem.Spec PyProof.Rows L2
section
variable {X : Cx} {a b c e : Expr} {da db dc : TED} {pos : Pos} {K : PySem.W.Frag} {mg : Str → Option Value}
end
section
variable {X : Cx} {k : Nat} {Ss : List (Str × DSp)}
@[simp] def rdInO (Ss : List (Str × DSp)) (neg : Bool) : RD2 := fun x y μ Q => rdM Ss [y, x] μ (fun v μ' => blK v fun b => Q (.bl (b != neg)) μ') noD
@[simp] def rdEqO (Ss : List (Str × DSp)) : RD2 := fun x y μ Q => okS μ x y ∧ rdM Ss [x, y] μ Q noD
end
section
open PySem.W
variable {prog : Program} {w : World} {A : Around} {E : Value → Shared → Prop} {K : PySem.W.Frag} {x C L f : Addr} {h₀ : Heap} {m : Str → Option Value} {ox : Obj} {od : Option Obj}
end
section
variable {X : Cx} {a b : Expr} {da db : TED} {pos : Pos} {k : Nat} {Ss : List (Str × DSp)} {W : DEnv → DXK} {Rl : RlT}
@[simp] def dBinO (Ss : List (Str × DSp)) (a b : TED) (W : DEnv → DXK) : TED := fun ρ μ Q => a ρ μ fun x μ1 => b ρ μ1 fun y μ2 => okS μ2 x y ∧ rdM Ss [x, y] μ2 Q (W ρ)
@[simp] def dIxO (Ss : List (Str × DSp)) (a b : TED) (W : DEnv → DXK) : TED := fun ρ μ Q => a ρ μ fun x μ1 => b ρ μ1 fun y μ2 => rdM Ss [x, y] μ2 Q (W ρ)
end
section
variable {X : Cx} {k : Nat} {Ss : List (Str × DSp)}
theorem Wk.ins {K : PySem.W.Frag} {mg : Str → Option Value} {F H : Hp} {μ : Sto} {v : V} {d : D} {c : Str} {fs : List (Str × D)} (w : Wk K mg F μ H v d) (h : insOf μ d = some (c, fs)) : Dt K mg F v d := by
  rcases w with w | ⟨_, _, _, _, rfl, _⟩
  · exact w
  · cases h
def rdUnO (Ss : List (Str × DSp)) (T : D → Sto → DK → Prop) : RDn
  | [x], μ, Q => rdM Ss [x] μ (fun v μ' => T v μ' Q) noD
  | _, _, _ => False
@[simp] theorem rdUnO_1 {T : D → Sto → DK → Prop} {x : D} {μ : Sto} {Q : DK} : rdUnO Ss T [x] μ Q = rdM Ss [x] μ (fun v μ' => T v μ' Q) noD := rfl
@[simp] def tLenD : D → Sto → DK → Prop := fun v μ Q => ∃ n : Int, v = .int n ∧ 0 ≤ n ∧ n < 9223372036854775808 ∧ Q (.int n) μ
@[simp] def tStrD : D → Sto → DK → Prop := fun v μ Q => ∃ z, v = .str z ∧ Q (.str z) μ
end
end DL

namespace DL
open PySem PySem.Spec PyProof.Rows L2
def noTyps (K : PySem.W.Frag) (C : Addr) : Bool := typs.all fun n => PySem.W.subIn K (.ref C) (.type n) == some false
/-- what isinstance asks of a class -/
structure InsC (K : PySem.W.Frag) (C : Addr) : Prop where
  cl : Cls K C
  ha : PySem.W.findIn K (.ref C) "__class__" = some (some (.builtin "object.__class__"))
  hn : PySem.W.specialIn K (.builtin "object.__class__") "__get__" = some (some (.builtin "getset_descriptor.__get__"))
  ht : PySem.W.takesIn K (.builtin "object.__class__") = some true
  hm : PySem.W.mroIn K C (.type "object") = some true
  ty : PySem.W.typeIn K (.ref C) = some (.type "type")
  no : noTyps K C = true
abbrev ITab := List ((Str × Str) × Bool)
def ITab.has (T : ITab) (q : Str) : Bool := T.any fun z => decide (z.1.2 = q)
def ITab.hasC (T : ITab) (c : Str) : Bool := T.any fun z => decide (z.1.1 = c)
def ITab.get (T : ITab) (c q : Str) : Option Bool := (T.find? fun z => decide (z.1.1 = c) && decide (z.1.2 = q)).map (·.2)
def isiF (T : ITab) (μ : Sto) (d : D) (q : Str) : Option Bool := if isiOk d = true then (if T.has q then some false else none) else (insOf μ d).bind fun z => T.get z.1 q
def isiG (T : ITab) (μ : Sto) (d : D) (t : String) : Option Bool := if isiOk d = true then some (isiD d t) else (insOf μ d).bind fun z => if T.hasC z.1 then some false else none
def optK : Option Bool → (Bool → Prop) → Prop
  | some b, k => k b
  | none, _ => False
@[simp] theorem optK_1 {b : Bool} {k : Bool → Prop} : optK (some b) k = k b := rfl
def rdIsiO (T : ITab) : RDn
  | [d, .gl q], μ, Q => optK (isiF T μ d q) fun b => Q (.bl b) μ
  | [d, .ty t], μ, Q => t ∈ typs ∧ optK (isiG T μ d t) fun b => Q (.bl b) μ
  | _, _, _ => False
@[simp] theorem rdIsiO_1 {T : ITab} {d : D} {q : Str} {μ : Sto} {Q : DK} : rdIsiO T [d, .gl q] μ Q = optK (isiF T μ d q) fun b => Q (.bl b) μ := rfl
@[simp] theorem rdIsiO_2 {T : ITab} {d : D} {t : String} {μ : Sto} {Q : DK} : rdIsiO T [d, .ty t] μ Q = (t ∈ typs ∧ optK (isiG T μ d t) fun b => Q (.bl b) μ) := rfl
@[simp] theorem isiG_non {T : ITab} {μ : Sto} {t : String} {b : Bool} {i : Int} {s : List Nat} {xs : List D} {ns : List Int} {kvs : List (Key × D)} : isiG T μ .non t = some (isiD .non t) := rfl
@[simp] theorem isiG_bl {T : ITab} {μ : Sto} {t : String} {b : Bool} {i : Int} {s : List Nat} {xs : List D} {ns : List Int} {kvs : List (Key × D)} : isiG T μ (.bl b) t = some (isiD (.bl b) t) := rfl
@[simp] theorem isiG_int {T : ITab} {μ : Sto} {t : String} {b : Bool} {i : Int} {s : List Nat} {xs : List D} {ns : List Int} {kvs : List (Key × D)} : isiG T μ (.int i) t = some (isiD (.int i) t) := rfl
@[simp] theorem isiG_str {T : ITab} {μ : Sto} {t : String} {b : Bool} {i : Int} {s : List Nat} {xs : List D} {ns : List Int} {kvs : List (Key × D)} : isiG T μ (.str s) t = some (isiD (.str s) t) := rfl
@[simp] theorem isiG_tup {T : ITab} {μ : Sto} {t : String} {b : Bool} {i : Int} {s : List Nat} {xs : List D} {ns : List Int} {kvs : List (Key × D)} : isiG T μ (.tup xs) t = some (isiD (.tup xs) t) := rfl
@[simp] theorem isiG_lst {T : ITab} {μ : Sto} {t : String} {b : Bool} {i : Int} {s : List Nat} {xs : List D} {ns : List Int} {kvs : List (Key × D)} : isiG T μ (.lst xs) t = some (isiD (.lst xs) t) := rfl
@[simp] theorem isiG_scr {T : ITab} {μ : Sto} {t : String} {b : Bool} {i : Int} {s : List Nat} {xs : List D} {ns : List Int} {kvs : List (Key × D)} : isiG T μ (.scr ns) t = some (isiD (.scr ns) t) := rfl
@[simp] theorem isiG_dct {T : ITab} {μ : Sto} {t : String} {b : Bool} {i : Int} {s : List Nat} {xs : List D} {ns : List Int} {kvs : List (Key × D)} : isiG T μ (.dct kvs) t = some (isiD (.dct kvs) t) := rfl
section
variable {K : PySem.W.Frag} {mg : Str → Option Value} {T : ITab}
theorem InsC.isSome {C : Addr} (i : InsC K C) : (PySem.W.clsIn K C).isSome = true := by
  obtain ⟨cd, hc, _⟩ := PySem.W.any_some i.cl.hd
  rw [hc]; rfl
end
section
open Builtin PySem.W
variable {prog : Program} {w : World} {A : Around} {E : Value → Shared → Prop} {s : Shared} {K : PySem.W.Frag} {x C L f : Addr} {h₀ : Heap} {m : Str → Option Value} {ox : Obj} {od : Option Obj}
end
section
variable {X : Cx} {k : Nat} {Ss : List (Str × DSp)}
@[simp] def tBoolD : D → Sto → DK → Prop := fun v μ Q => ∃ b, v = .bl b ∧ Q (.bl b) μ
end
end DL

namespace DL
open PySem PySem.Spec PyProof.Rows L2
section
open Builtin PySem.W
variable {prog : Program} {w : World} {A : Around} {E : Value → Shared → Prop} {s : Shared} {K : PySem.W.Frag} {x C L f : Addr} {h₀ : Heap} {m : Str → Option Value} {ox : Obj} {od : Option Obj}
end
section
variable {X : Cx} {k : Nat} {Ss : List (Str × DSp)}
@[simp] def rdNeO (Ss : List (Str × DSp)) : RD2 := fun x y μ Q => okS μ x y ∧ rdM Ss [x, y] μ (fun v μ' => blK v fun b => Q (.bl (!b)) μ') noD
end
theorem FR.mono {P : Program} {w : World} {K : PySem.W.Frag} {mg : Str → Option Value} {base : Heap} {CX : CXT} {j k : Nat} {f : Addr} {sp : Sp} (h : FR P w K mg base CX j f sp) (hk : j ≤ k) : FR P w K mg base CX k f sp :=
  fun A outer s H us vs Q E q rm => h A outer s H us vs Q E q (rm.mono hk)
end DL

namespace DL
open PySem PySem.Spec PyProof.Rows L2
def rdEnds : RDm
  | .str s, [.str t], μ, Q => Q (.bl (decide (t <:+ s))) μ
  | _, _, _, _ => False
@[simp] theorem rdEnds_1 {s t : List Nat} {μ : Sto} {Q : DK} : rdEnds (.str s) [.str t] μ Q = Q (.bl (decide (t <:+ s))) μ := rfl
end DL

namespace DL
open PySem PySem.Spec PyProof.Rows L2
section
variable {X : Cx} {e fe : Expr} {es : List Expr} {do' : TED} {t : TAD} {pos : Pos} {k : Nat} {Ss : List (Str × DSp)} {W : DEnv → DXK} {Rl : RlT}
@[simp] def dCallO (Ss : List (Str × DSp)) (o : TED) (t : TAD) (W : DEnv → DXK) : TED := fun ρ μ Q => o ρ μ fun x μ1 => insK (insOf μ1 x) fun _ _ => t ρ μ1 fun ds μ2 => rdM Ss (x :: ds) μ2 Q (W ρ)
end
end DL

namespace DL
open PySem PySem.Spec PyProof.Rows L2
/-- {x}: a text or an int -/
def fmtK : D → (List Nat → Prop) → Prop
  | .str s, k => s.length ≤ SZ ∧ k s
  | .int i, k => i.natAbs.log2 < 1920 ∧ k (toString i : Str).cps.toList
  | _, _ => False
@[simp] theorem fmtK_1 {s : List Nat} {k : List Nat → Prop} : fmtK (.str s) k = (s.length ≤ SZ ∧ k s) := rfl
@[simp] theorem fmtK_2 {i : Int} {k : List Nat → Prop} : fmtK (.int i) k = (i.natAbs.log2 < 1920 ∧ k (toString i : Str).cps.toList) := rfl
def strK : D → (List Nat → Prop) → Prop
  | .str s, k => k s
  | _, _ => False
@[simp] theorem strK_1 {s : List Nat} {k : List Nat → Prop} : strK (.str s) k = k s := rfl
theorem strK_iff {d : D} {k : List Nat → Prop} (h : strK d k) : ∃ s, d = .str s ∧ k s := by
  cases d <;> first | exact h.elim | exact ⟨_, rfl, h⟩
@[simp] def dFmt (d : TED) : TED := fun ρ μ Q => d ρ μ fun x μ1 => fmtK x fun s => Q (.str s) μ1
/-- the parts, one behind the other -/
def dJs : List TED → List Nat → DEnv → Sto → (List Nat → Sto → Prop) → Prop
  | [], acc, _, μ, Q => Q acc μ
  | p :: ps, acc, ρ, μ, Q => p ρ μ fun x μ1 => strK x fun s => acc.length + s.length ≤ SZ ∧ dJs ps (acc ++ s) ρ μ1 Q
@[simp] theorem dJs_0 {acc : List Nat} {ρ : DEnv} {μ : Sto} {Q : List Nat → Sto → Prop} : dJs [] acc ρ μ Q = Q acc μ := rfl
@[simp] theorem dJs_1 {p : TED} {ps : List TED} {acc : List Nat} {ρ : DEnv} {μ : Sto} {Q : List Nat → Sto → Prop} : dJs (p :: ps) acc ρ μ Q = p ρ μ fun x μ1 => strK x fun s => acc.length + s.length ≤ SZ ∧ dJs ps (acc ++ s) ρ μ1 Q := rfl
@[simp] def dFs (ps : List TED) : TED := fun ρ μ Q => dJs ps [] ρ μ fun s μ1 => Q (.str s) μ1
section
variable {X : Cx} {e : Expr} {es : List Expr} {d p : TED} {ps : List TED} {pos : Pos}
end
end DL

namespace DL
open PySem PySem.Spec PyProof.Rows L2
/-- the parts between the signs c -/
def spl (c : Nat) (s : List Nat) : List (List Nat) := (Txt.split (S s) (S [c])).map fun p => p.cps.toList
theorem joinL_cons (sep x : List Nat) (y : List Nat) (r : List (List Nat)) : joinL sep (x :: y :: r) = x ++ sep ++ joinL sep (y :: r) := by
  simp [joinL]
theorem join_L (sep : List Nat) : ∀ ps : List Str, Str.join (S sep) ps = S (joinL sep (ps.map fun p => p.cps.toList))
  | [] => rfl
  | [x] => by
    show x = S (x.cps.toList ++ [])
    rw [List.append_nil, S_of]
  | x :: y :: r => by
    show x ++ S sep ++ Str.join (S sep) (y :: r) = _
    rw [join_L sep (y :: r), List.map_cons (l := y :: r), List.map_cons (l := r), joinL_cons, ← S_app, ← S_app, S_of]
theorem spl_join (c : Nat) (s : List Nat) : joinL [c] (spl c s) = s := by
  have h := StrLaws.join_split (S s) (S [c])
  rw [join_L] at h
  exact S_inj.mp h
theorem spl_pos (c : Nat) (s : List Nat) : spl c s ≠ [] := by
  intro e
  have := (fact_split (S s) (S [c])).1
  have h := congrArg List.length e
  unfold spl at h
  rw [List.length_map] at h
  simp at h
  rw [h] at this
  simp at this
def rdSplit : RDm
  | .str s, [.str [c]], μ, Q => s.length + 2 ≤ SZ ∧ Q (.lst ((spl c s).map D.str)) μ
  | _, _, _, _ => False
@[simp] theorem rdSplit_1 {s : List Nat} {c : Nat} {μ : Sto} {Q : DK} : rdSplit (.str s) [.str [c]] μ Q = (s.length + 2 ≤ SZ ∧ Q (.lst ((spl c s).map D.str)) μ) := rfl
theorem ms_split {K : PySem.W.Frag} {mg : Str → Option Value} : MtS K mg (fun x xs H Q => ∃ a b, x = .str a ∧ xs = [.str b] ∧ (b.length == 0) = false ∧ a.length + 2 ≤ sizeLine ∧ rNewStrs (Txt.split a b) H Q) rdSplit := by
  intro F μ H v vs d ds Qd Q o w ws h k
  unfold rdSplit at h
  split at h
  · rename_i s c
    obtain ⟨u, rfl, wk⟩ := ws.one
    refine ⟨_, _, w.str, by rw [wk.str], rfl, by rw [S_len, sizeLine_eq]; exact h.1, fun p hp => ?_⟩
    have r : Dts K mg F ((Txt.split (S s) (S [c])).map V.str) ((spl c s).map D.str) := by
      have := Dts.ofStrs (K := K) (mg := mg) (F := F) (spl c s)
      rw [show (spl c s).map S = Txt.split (S s) (S [c]) from ?_] at this
      · exact this
      · unfold spl
        rw [List.map_map]
        conv => rhs; rw [← List.map_id (Txt.split (S s) (S [c]))]
        exact List.map_congr_left fun p _ => S_of p
    obtain ⟨g1, g2, g3⟩ := newLst o r hp
    exact k _ _ _ _ _ g1 g2 g3 h.2
  · exact h.elim
/-- int(text of figures) -/
def rdIntS : RDn
  | [.str s], μ, Q => s ≠ [] ∧ (∀ c ∈ s, 48 ≤ c ∧ c ≤ 57) ∧ s.length ≤ 640 ∧ Q (.int ((NumText.digitsVal s : Nat) : Int)) μ
  | _, _, _ => False
@[simp] theorem rdIntS_1 {s : List Nat} {μ : Sto} {Q : DK} : rdIntS [.str s] μ Q = (s ≠ [] ∧ (∀ c ∈ s, 48 ≤ c ∧ c ≤ 57) ∧ s.length ≤ 640 ∧ Q (.int ((NumText.digitsVal s : Nat) : Int)) μ) := rfl
theorem cs_intS {K : PySem.W.Frag} {mg : Str → Option Value} : CallS K mg (fun xs H Q => ∃ a n, xs = [.str a] ∧ PySem.intText? a = some n ∧ a.length ≤ 640 ∧ Q (.int n) H) rdIntS := by
  intro F μ H vs ds Qd Q o w h k
  unfold rdIntS at h
  split at h
  · rename_i s
    obtain ⟨v, rfl, wk⟩ := w.one
    obtain ⟨h1, h2, h3, h4⟩ := h
    have e : PySem.intText? (S s) = some ((NumText.digitsVal s : Nat) : Int) := by
      have := PySem.intText_digits (x := S s) h2 h1 (by rw [S_len]; omega)
      exact this
    exact ⟨_, _, by rw [wk.str], e, by rw [S_len]; exact h3, fin0 o k (.int _) h4⟩
  · exact h.elim
/-- text or other -/
@[simp] def dOrT (a b : TED) : TED := fun ρ μ Q => a ρ μ fun x μ1 => strK x fun s => s.length ≤ SZ ∧ if s = [] then b ρ μ1 Q else Q (.str s) μ1
theorem de_orT {X : Cx} {a b : Expr} {rest : List Expr} {da db : TED} {pos : Pos} (ha : DE X a da) (hb : DE X (.BoolOp .Or (b :: rest) pos) db) : DE X (.BoolOp .Or (a :: b :: rest) pos) (dOrT da db) := (pe_orT ha hb).weaken fun σ H Q q => by
  obtain ⟨F, ρ, μ, Qd, R, hd, k⟩ := q
  refine ⟨F, ρ, μ, _, R, hd, fun v F1 μ1 H1 dv e1 o1 w1 q1 => ?_⟩
  obtain ⟨s, rfl, hl, q1⟩ := strK_iff q1
  cases w1
  refine ⟨decide (s ≠ []), ⟨by rw [S_len, sizeLine_eq]; exact hl, ?_⟩, ?_⟩
  · rw [S_len]
    cases s with
    | nil => rfl
    | cons c s =>
      rw [decide_eq_true (List.cons_ne_nil c s), eq_comm, bne_iff_ne]
      show ((s.length + 1 : Nat) : Int) ≠ 0
      omega
  · by_cases h : s = []
    · subst h
      rw [if_neg (by simp)]
      rw [if_pos rfl] at q1
      exact ⟨F1, ρ, μ1, _, R.ext e1 o1, q1, fun c F2 μ2 H2 d2 e2 o2 w2 q2 => k c F2 μ2 H2 d2 (e1.trans e2) o2 w2 q2⟩
    · rw [if_pos (by simpa using h)]
      rw [if_neg h] at q1
      exact k _ F1 μ1 H1 _ e1 o1 (.str _) q1
end DL

namespace DL
open PySem PySem.Spec PyProof.Rows L2
def isFig (c : Nat) : Bool := decide (48 ≤ c) && decide (c ≤ 57)
/-- a number of at most l figures -/
def numIn (w : List Nat) (l : Nat) : Option Nat := if 1 ≤ w.length ∧ w.length ≤ l ∧ w.all isFig = true then (if w.head? = some 48 ∧ w ≠ [48] then none else some (NumText.digitsVal w)) else none
def natD : Option Nat → D
  | none => .non
  | some f => .int (f : Nat)
def sp_number_in : DSp := fun ds μ Q _ => ∃ (w : List Nat) (l : Nat), ds = [.str w, .int l] ∧ w.length ≤ 1000 ∧ l ≤ 640 ∧ Q (natD (numIn w l)) μ
def b_number_in_2 : TSD :=
  (dRet (dIf (dAnd (dB (dOp rdEq (dOp rdIx (dLook 0) (dC (.int 0))) (dC (.str [48])))) (dB (dOp rdNe (dLook 0) (dC (.str [48]))))) (dC .non) (dFn rdIntS (dCons (dLook 0) dNil))))
/-- number_in(word, longest); slots 0:word 1:longest 2:sign -/
def b_number_in : TSD :=
  (dSeq (dIfS (dOr (dNot (dB (dChain rdLe rdLe (dC (.int 1)) (dFn rdLen (dCons (dLook 0) dNil)) (dLook 1)))) (dB (dFn rdAny (dCons (dF (dLc [2] (dEach (dVar 0)) (dName 2) dYes (dOp rdNotIn (dLook 2) (dC (.str [48, 49, 50, 51, 52, 53, 54, 55, 56, 57]))))) dNil))))
  (dRet (dC .non))
  dNext)
  b_number_in_2)
theorem len_number_in : ∀ ds μ Q E, sp_number_in ds μ Q E → ds.length = 2 := by
  rintro ds μ Q E ⟨w, l, rfl, _⟩; rfl
theorem mem_figs (c : Nat) : c ∈ [48, 49, 50, 51, 52, 53, 54, 55, 56, 57] ↔ isFig c = true := by
  simp [isFig]
  omega
theorem ok_number_in : ∀ ds μ Q E, sp_number_in ds μ Q E → b_number_in { nx := fun _ μ' => Q .non μ', rt := Q } (startD 3 ds) μ := by
  rintro ds μ Q E ⟨w, l, rfl, hw, hl, q⟩
  unfold b_number_in
  rw [dSeq]
  simp [-dSeq]
  refine ⟨by omega, ?_⟩
  by_cases c1 : 1 ≤ w.length ∧ w.length ≤ l
  · rw [if_pos (by omega), if_pos c1.2]
    refine lcD_list w (fun c => D.str [c]) (fun c => D.bl (!isFig c)) trivial (by show _ ≤ 16777216; omega) (fun c hc k hk => ?_) ?_
    · have e : (!isFig c) = decide (c ∉ [48, 49, 50, 51, 52, 53, 54, 55, 56, 57]) := by
        have := mem_figs c
        cases hq : isFig c <;> rw [hq] at this <;> simp at this ⊢ <;> omega
      rw [e] at hk
      simp
      simpa using hk
    refine ⟨w.map fun c => !isFig c, by rw [List.map_map]; rfl, ?_⟩
    by_cases c2 : w.all isFig = true
    · rw [if_neg (by simpa using c2)]
      obtain ⟨a, r, rfl⟩ : ∃ a r, w = a :: r := by cases w with
        | nil => simp at c1
        | cons a r => exact ⟨a, r, rfl⟩
      have c2' := List.all_eq_true.mp c2
      have hf : ∀ c ∈ a :: r, 48 ≤ c ∧ c ≤ 57 := fun c hc => by simpa [isFig] using c2' c hc
      unfold numIn at q
      rw [if_pos ⟨c1.1, c1.2, c2⟩] at q
      unfold b_number_in_2
      simp
      have hrl : r.length + 1 ≤ l := c1.2
      have hrw : r.length + 1 ≤ 1000 := hw
      refine ⟨by omega, ?_⟩
      have hfr : ∀ x ∈ r, 48 ≤ x ∧ x ≤ 57 := fun x hx => hf x (List.mem_cons_of_mem _ hx)
      have hfa := hf a (by simp)
      by_cases h4 : a = 48
      · by_cases h5 : r = []
        · subst h4; subst h5
          simp [natD] at q ⊢
          exact q
        · subst h4
          simp [h5, natD] at q ⊢
          exact q
      · simp [h4, natD] at q ⊢
        exact ⟨⟨hfa, hfr⟩, by omega, q⟩
    · rw [if_pos (by simpa using c2)]
      unfold numIn at q
      rw [if_neg fun h => c2 h.2.2] at q
      exact q
  · unfold numIn at q
    rw [if_neg fun h => c1 ⟨h.1, h.2.1⟩] at q
    split
    · split
      · exact (c1 ⟨by omega, by omega⟩).elim
      · exact q
    · exact q
/-- a stroke's text -/
def strIn : List Nat → Option (Nat × Nat)
  | [c, d] => if (97 ≤ c ∧ c ≤ 122) ∧ 49 ≤ d ∧ d ≤ 57 then some (c, d - 48) else none
  | _ => none
def sp_stroke_in : DSp := fun ds μ Q _ => ∃ (w : List Nat), ds = [.str w] ∧ w.length ≤ 1000 ∧ Q (itemD (strIn w)) μ
def b_stroke_in_2 : TSD :=
  (dRet (dIf (dAnd (dB (dOp rdIsNot (dLook 1) (dC .non))) (dAnd (dB (dOp rdGt (dLook 1) (dC (.int 0)))) (dB (dCall sp_is_letter (dCons (dOp rdIx (dLook 0) (dC (.int 0))) dNil) noD)))) (dTup (dCons (dOp rdIx (dLook 0) (dC (.int 0))) (dCons (dVar 1) dNil))) (dC .non)))
/-- stroke_in(word); slots 0:word 1:force -/
def b_stroke_in : TSD :=
  (dSeq (dSetR 1 (dVal (dCall sp_number_in (dCons (dSl (dLook 0) (dPart (dC (.int 1))) dNoPart) (dCons (dC (.int 1)) dNil)) noD)))
  b_stroke_in_2)
theorem len_stroke_in : ∀ ds μ Q E, sp_stroke_in ds μ Q E → ds.length = 1 := by
  rintro ds μ Q E ⟨w, rfl, _⟩; rfl
theorem ok_stroke_in : ∀ ds μ Q E, sp_stroke_in ds μ Q E → b_stroke_in { nx := fun _ μ' => Q .non μ', rt := Q } (startD 2 ds) μ := by
  rintro ds μ Q E ⟨w, rfl, hw, q⟩
  unfold b_stroke_in
  rw [dSeq]
  simp [-dSeq]
  refine ⟨by omega, cut w (some 1) none, 1, rfl, by have := cut_le w (some 1) none; omega, by omega, ?_⟩
  rw [show (1 : Int) = ((1 : Nat) : Int) from rfl, cut_drop]
  unfold b_stroke_in_2
  match w, q with
  | [], q =>
    simp [numIn, natD]
    exact q
  | [c], q =>
    simp [numIn, natD]
    exact q
  | c :: d :: e :: r, q =>
    simp [numIn, natD]
    exact q
  | [c, d], q =>
    by_cases h : isFig d = true
    · have e : numIn [d] 1 = some (d - 48) := by
        unfold numIn
        rw [if_pos ⟨by simp, by simp, by simpa using h⟩, if_neg (by simp)]
        simp [NumText.digitsVal]
      have h' : 48 ≤ d ∧ d ≤ 57 := by simpa [isFig] using h
      simp [e, natD]
      split
      · refine ⟨_, rfl, rfl, by show 1 ≤ 16777216; omega, ?_⟩
        simp [isLet]
        split
        · rename_i h1 h2
          have e2 : strIn [c, d] = some (c, d - 48) := if_pos ⟨h2, by omega, by omega⟩
          rw [e2] at q
          exact q
        · rename_i h1 h2
          have e2 : strIn [c, d] = none := if_neg fun z => h2 z.1
          rw [e2] at q
          exact q
      · rename_i h1
        have e2 : strIn [c, d] = none := if_neg fun z => by omega
        rw [e2] at q
        exact q
    · have e : numIn [d] 1 = none := by
        unfold numIn
        rw [if_neg fun z => h (by simpa using z.2.2)]
      have e2 : strIn [c, d] = none := if_neg fun z => h (by simp [isFig]; omega)
      rw [e2] at q
      simp [e, natD]
      exact q
/-- an item's text -/
def itx : HI → List Nat
  | none => [47]
  | some (c, f) => [c, 48 + f]
theorem fig1 : ∀ f : Nat, f ≤ 9 → f.log2 < 1920 ∧ 1 + (Str.ofString ((f : Int).repr)).cps.size ≤ 16777216 ∧ (Str.ofString ((f : Int).repr)).cps.toList = [48 + f] := by decide
def hiOk (x : HI) : Prop := ∀ c f, x = some (c, f) → f ≤ 9
/-- a history's text -/
def htx (h : List HI) : List Nat := if h = [] then [101, 109, 112, 116, 121] else joinL [32] (h.map itx)
def sp_history_text : DSp := fun ds μ Q _ => ∃ h : List HI, ds = [histD h] ∧ h.length ≤ 1000 ∧ (∀ x ∈ h, hiOk x) ∧ Q (.str (htx h)) μ
theorem itx_ne (x : HI) : itx x ≠ [] := by
  cases x with
  | none => simp [itx]
  | some p => simp [itx]
theorem itx_le (x : HI) : (itx x).length ≤ 2 := by
  cases x with
  | none => simp [itx]
  | some p => simp [itx]
theorem itx_sum : ∀ h : List HI, ((h.map itx).map List.length).sum ≤ 2 * h.length
  | [] => Nat.le_refl _
  | x :: r => by
    have := itx_sum r
    have := itx_le x
    simp at *
    omega
theorem joinL_le (sep : List Nat) : ∀ ps : List (List Nat), (joinL sep ps).length ≤ (ps.map List.length).sum + ps.length * sep.length
  | [] => Nat.zero_le _
  | [x] => by simp [joinL]
  | x :: y :: r => by
    have := joinL_le sep (y :: r)
    rw [joinL_cons]
    simp [Nat.add_mul] at *
    omega
theorem joinL_ne (sep : List Nat) {ps : List (List Nat)} (h : ps ≠ []) (h1 : ∀ p ∈ ps, p ≠ []) : joinL sep ps ≠ [] := by
  match ps, h with
  | [x], _ =>
    have := h1 x (by simp)
    simpa [joinL] using this
  | x :: y :: r, _ =>
    rw [joinL_cons]
    have := h1 x (by simp)
    simp [this]
theorem len_history_text : ∀ ds μ Q E, sp_history_text ds μ Q E → ds.length = 1 := by
  rintro ds μ Q E ⟨w, rfl, _⟩; rfl
/-- does the item fit -/
def itIn (w : List Nat) (ws : List (List Nat)) (t : Nat) : D :=
  if w = [47] then .tup [.bl (decide (t + 1 < ws.length)), .non] else match strIn w with
  | none => .tup [.bl false, .non]
  | some (c, f) => if ws.length < t + f then .tup [.bl false, .non] else .tup [.bl ((wstroke ws t c f).all fun w => decide (w.length ≤ 30)), itemD (some (c, f))]
def sp_item_in : DSp := fun ds μ Q _ => ∃ (w : List Nat) (ws : List (List Nat)) (t : Nat), ds = [.str w, wsD ws, .int t] ∧ w.length ≤ 1000 ∧ 1 ≤ ws.length ∧ ws.length ≤ 1000 ∧ WOk ws 1000 ∧ Q (itIn w ws t) μ
def b_item_in_4 : TSD :=
  (dRet (dTup (dCons (dOp rdLe (dFn rdMax (dCons (dF (dLc [4] (dEach (dCall sp_with_stroke (dCons (dVar 1) (dCons (dVar 2) (dCons (dVar 3) dNil))) noD)) (dName 4) dYes (dFn rdLen (dCons (dLook 4) dNil)))) dNil)) (dC (.int 30))) (dCons (dVar 3) dNil))))
def b_item_in_3 : TSD :=
  (dSeq (dIfS (dOr (dB (dOp rdIs (dLook 3) (dC .non))) (dB (dOp rdGt (dOp rdIx (dLook 3) (dC (.int 1))) (dOp rdSub (dFn rdLen (dCons (dLook 1) dNil)) (dLook 2)))))
  (dRet (dTup (dCons (dC (.bl false)) (dCons (dC .non) dNil))))
  dNext)
  b_item_in_4)
def b_item_in_2 : TSD :=
  (dSeq (dSetR 3 (dVal (dCall sp_stroke_in (dCons (dVar 0) dNil) noD)))
  b_item_in_3)
/-- item_in(word, words, top); slots 0:word 1:words 2:top 3:stroke 4:one -/
def b_item_in : TSD :=
  (dSeq (dIfS (dB (dOp rdEq (dLook 0) (dC (.str [47]))))
  (dRet (dTup (dCons (dOp rdLt (dLook 2) (dOp rdSub (dFn rdLen (dCons (dLook 1) dNil)) (dC (.int 1)))) (dCons (dC .non) dNil))))
  dNext)
  b_item_in_2)
theorem len_item_in : ∀ ds μ Q E, sp_item_in ds μ Q E → ds.length = 3 := by
  rintro ds μ Q E ⟨w, ws, t, rfl, _⟩; rfl
theorem ok_item_in : ∀ ds μ Q E, sp_item_in ds μ Q E → b_item_in { nx := fun _ μ' => Q .non μ', rt := Q } (startD 5 ds) μ := by
  rintro ds μ Q E ⟨w, ws, t, rfl, hw, h1, h2, hO, q⟩
  unfold b_item_in
  rw [dSeq]
  simp [-dSeq]
  unfold itIn at q
  by_cases c0 : w = [47]
  · rw [if_pos c0] at q ⊢
    rw [show decide ((t : Int) < (ws.length : Int) - 1) = decide (t + 1 < ws.length) from decide_eq_decide.mpr (by omega)]
    exact q
  rw [if_neg c0] at q ⊢
  unfold b_item_in_2
  rw [dSeq]
  simp [-dSeq]
  refine ⟨w, rfl, hw, ?_⟩
  show b_item_in_3 _ _ _
  unfold b_item_in_3
  rw [dSeq]
  cases hs : strIn w with
  | none =>
    rw [hs] at q
    simp [-dSeq, itemD]
    exact q
  | some p =>
    obtain ⟨c, f⟩ := p
    rw [hs] at q
    simp [-dSeq, itemD]
    have q : Q (if ws.length < t + f then D.tup [D.bl false, D.non] else D.tup [D.bl ((wstroke ws t c f).all fun w => decide (w.length ≤ 30)), itemD (some (c, f))]) μ := q
    by_cases c1 : ws.length < t + f
    · rw [if_pos c1] at q
      rw [if_pos (by omega)]
      exact q
    rw [if_neg c1] at q
    rw [if_neg (by omega)]
    unfold b_item_in_4
    simp
    refine ⟨ws, t, c, f, 1000, rfl, hO, by omega, h2, ?_⟩
    have hW := wstroke_ok hO t c f
    have hl2 := wstroke_len ws t c f
    generalize wstroke ws t c f = W at q hW hl2 ⊢
    simp
    refine lcD_list W D.str (fun w => .int (w.length : Nat)) trivial (by show _ ≤ 16777216; omega) (fun x hx k hk => ?_) ?_
    · have := hW x hx
      simp
      exact ⟨by omega, hk⟩
    refine ⟨W.map fun w => (w.length : Int), by rw [List.map_map]; rfl, by rw [List.length_map]; omega, fun m hm hall => ?_⟩
    rw [show decide (m ≤ 30) = W.all fun w => decide (w.length ≤ 30) from ?_]
    · exact q
    · rw [Bool.eq_iff_iff, decide_eq_true_eq, List.all_eq_true]
      constructor
      · intro h w hw
        have := hall _ (List.mem_map.mpr ⟨w, hw, rfl⟩)
        simp
        omega
      · intro h
        obtain ⟨w, hw, rfl⟩ := List.mem_map.mp hm
        have := h w hw
        simp at this
        omega

theorem wr_n1 : ∀ (a : List HI) (t : Nat) (ws : List (List Nat)), wr (a ++ [none]) t ws = wr a t ws
  | [], _, _ => rfl
  | none :: r, t, ws => wr_n1 r (t + 1) ws
  | some (c, f) :: r, t, ws => wr_n1 r t _
theorem wr_s1 (c f : Nat) : ∀ (a : List HI) (t : Nat) (ws : List (List Nat)), wr (a ++ [some (c, f)]) t ws = wstroke (wr a t ws) (t + tears a) c f
  | [], _, _ => rfl
  | none :: r, t, ws => by
    rw [tears_none, show t + (tears r + 1) = t + 1 + tears r by omega]
    exact wr_s1 c f r (t + 1) ws
  | some (d, g) :: r, t, ws => wr_s1 c f r t _
theorem outs_n1 (n : Nat) (a : List HI) : outs n (a ++ [none]) = outs n a := by
  rw [← wr_outs, ← wr_outs, wr_n1]
theorem outs_s1 (n c f : Nat) (a : List HI) : outs n (a ++ [some (c, f)]) = wstroke (outs n a) (tears a) c f := by
  rw [← wr_outs, ← wr_outs, wr_s1, Nat.zero_add]
theorem okH_hi : ∀ {l : Nat} {h : List HI}, okH l h → l ≤ 9 → ∀ x ∈ h, hiOk x
  | _, [], _, _, x, hx => nomatch hx
  | l, none :: r, a, hl, x, hx => by
    rcases List.mem_cons.mp hx with rfl | hx
    · intro c f e; cases e
    · exact okH_hi a.2 (by omega) x hx
  | l, some (d, g) :: r, a, hl, x, hx => by
    rcases List.mem_cons.mp hx with rfl | hx
    · intro c f e; cases e; have := a.2.2.1; omega
    · exact okH_hi a.2.2.2 hl x hx
def sp_law_history_text : DSp := sp_history_text
def b_law_history_text_2 : TSD :=
  (dRet (dOrT (dMt "str" rdJoin (dC (.str [32])) (dCons (dLook 1) dNil)) (dC (.str [101, 109, 112, 116, 121]))))
/-- _law_history_text(_law_history_here); slots 0:_law_history_here 1:_law_found 2:_law_item -/
def b_law_history_text : TSD :=
  (dSeq (dSetR 1 (dVal (dF (dLc [2] (dEach (dVar 0)) (dName 2) dYes (dIf (dB (dOp rdIs (dLook 2) (dC .non))) (dC (.str [47])) (dOp rdAdd (dOp rdIx (dLook 2) (dC (.int 0))) (dFn rdStr (dCons (dOp rdIx (dLook 2) (dC (.int 1))) dNil))))))))
  b_law_history_text_2)
theorem len_law_history_text : ∀ ds μ Q E, sp_law_history_text ds μ Q E → ds.length = 1 := len_history_text
theorem ok_law_history_text : ∀ ds μ Q E, sp_law_history_text ds μ Q E → b_law_history_text { nx := fun _ μ' => Q .non μ', rt := Q } (startD 3 ds) μ := by
  rintro ds μ Q E ⟨h, rfl, hl, hh, q⟩
  unfold b_law_history_text
  rw [dSeq]
  simp [-dSeq]
  refine lcD_list h itemD (fun x => .str (itx x)) trivial (by show _ ≤ 16777216; omega) (fun x hx k hk => ?_) ?_
  · cases x with
    | none =>
      simp [itemD]
      exact hk
    | some p =>
      obtain ⟨c, f⟩ := p
      obtain ⟨g1, g2, g3⟩ := fig1 f (hh _ hx c f rfl)
      simp [itemD]
      refine ⟨g1, by simpa [Nat.add_comm] using g2, ?_⟩
      rw [g3]
      exact hk
  unfold b_law_history_text_2
  simp
  refine ⟨h.map itx, by rw [List.map_map]; rfl, by have := itx_sum h; simp at this ⊢; omega, by have := joinL_le [32] (h.map itx); have := itx_sum h; simp at *; omega, ?_⟩
  by_cases e : h = []
  · have e2 : joinL [32] (h.map itx) = [] := by rw [e]; rfl
    unfold htx at q
    rw [if_pos e] at q
    rw [if_pos e2]
    exact q
  · rw [if_neg (joinL_ne [32] (by simpa using e) (by simp [itx_ne]))]
    unfold htx at q
    rw [if_neg e] at q
    exact q
end DL

namespace DL
open PySem PySem.Spec PyProof.Rows L2 CwR
/-- a value is evaluated, and a token is out behind it -/
def PEG (X : Cx) (e : Expr) (t : TE) : Prop := ∀ (pins : List (Addr × Obj)) (s : Shared) (σ : L2.St) (H : Hp) (Q : VK), Inv X pins σ H s → t σ H Q → wpAny (model X.prog X.w) X.A (eval e X.env) (fun u s' => 1 ≤ s'.toks ∧ EP X pins σ Q u s') X.xe s
section
variable {X : Cx} {e a o : Expr} {es : List Expr} {te to : TE} {t : TA} {da d do' : TED} {td : TAD} {pos c0 c1 apos : Pos} {y z : List Nat} {j k : Nat}
theorem PEG.weaken {t' : TE} (h : PEG X e te) (w : ∀ σ H Q, t' σ H Q → te σ H Q) : PEG X e t' := fun pins s σ H Q I q => h pins s σ H Q I (w σ H Q q)
theorem pet_weaken {t' : TE} (h : PET X e te) (w : ∀ σ H Q, t' σ H Q → te σ H Q) : PET X e t' := fun pins s σ H Q n I q => h pins s σ H Q n I (w σ H Q q)
theorem pat_weaken {t' : TA} (h : PAT X es t) (w : ∀ σ H Q, t' σ H Q → t σ H Q) : PAT X es t' := fun pos pins s σ H Q n I q => h pos pins s σ H Q n I (w σ H Q q)
theorem peg_opC {op : Operator} {r : R2} {x : Str} (ho : OpR X (binaryOp op) r) (ha : PE X a te) : PEG X (.BinOp a op (.Constant (.str x) j c0) pos) (tOp r te (tC (.str x))) := by
  intro pins s σ H Q I h
  refine wpAny_BinOp (thn (ha.run pins s σ H _ I h) fun v s1 q => ?_)
  obtain ⟨v1, H1, I1, r1, q1⟩ := q
  refine Calls.Constant_str ?_
  have zz := ho pins { s1 with toks := s1.toks + 1 } σ H1 v1 (.str x) v (.str x s1.toks) Q (I1.tok _) r1 ⟨_, rfl⟩ q1
  exact wpAny_mono (PySem.wpAny_toks_of (n := 1) (by show 1 ≤ s1.toks + 1; omega) zz) (fun u s2 q => q) fun _ _ z => z.2
theorem pa_consG (ha : PEG X e te) (hr : PAT X es t) (hs : starEach (e :: es) X.env = (false, eval e X.env) :: starEach es X.env := by rfl) : PA X (e :: es) (tCons te t) := by
  refine ⟨fun pos pins s σ H Q I h => ?_⟩
  rw [hs]
  show wpAny _ _ (spliced ((false, eval e X.env) :: backTo pos (starEach es X.env))) _ _ s
  refine Calls.spliced_cons (thn (ha pins s σ H _ I h) fun u s1 ⟨n1, x, H1, I1, r1, q1⟩ => ?_)
  exact thn (hr pos pins s1 σ H1 _ n1 I1 q1) fun us s2 ⟨xs, H2, I2, r2, q2⟩ => ⟨x :: xs, H2, I2, .cons r1 r2, q2⟩
theorem S_cps (x : Str) : S x.cps.toList = x := by
  obtain ⟨a⟩ := x
  show (⟨a.toList.toArray⟩ : Str) = ⟨a⟩
  simp
abbrev DET (X : Cx) (e : Expr) (d : TED) : Prop := PET X e (liftE X.K X.mg d)
abbrev DEG (X : Cx) (e : Expr) (d : TED) : Prop := PEG X e (liftE X.K X.mg d)
abbrev DAT (X : Cx) (es : List Expr) (d : TAD) : Prop := PAT X es (liftA X.K X.mg d)
theorem det_of (h : DE X e d) : DET X e d := fun pins s σ H Q _ I q => h.run pins s σ H Q I q
theorem dat_nil : DAT X [] dNil := fun pos pins s σ H Q _ I q => da_nil.run pos pins s σ H Q I q
theorem dat_cons (h : DET X e da) (hr : DAT X es td) (hs : starEach (e :: es) X.env = (false, eval e X.env) :: starEach es X.env := by rfl) : DAT X (e :: es) (dCons da td) := pat_weaken (pat_cons h hr hs) fun σ H Q q => by
  obtain ⟨F, ρ, μ, Qd, R, hd, k⟩ := q
  refine ⟨F, ρ, μ, _, R, hd, fun v F1 μ1 H1 dv e1 o1 w1 q1 => ?_⟩
  exact ⟨F1, ρ, μ1, _, R.ext e1 o1, q1, fun vs F2 μ2 H2 ds e2 o2 w2 q2 => k (v :: vs) F2 μ2 H2 (dv :: ds) (e1.trans e2) o2 (.cons (w1.mono e2.mono) w2) q2⟩
theorem da_consG (h : DEG X e da) (hr : DAT X es td) (hs : starEach (e :: es) X.env = (false, eval e X.env) :: starEach es X.env := by rfl) : DA X (e :: es) (dCons da td) := (pa_consG h hr hs).weaken fun σ H Q q => by
  obtain ⟨F, ρ, μ, Qd, R, hd, k⟩ := q
  refine ⟨F, ρ, μ, _, R, hd, fun v F1 μ1 H1 dv e1 o1 w1 q1 => ?_⟩
  exact ⟨F1, ρ, μ1, _, R.ext e1 o1, q1, fun vs F2 μ2 H2 ds e2 o2 w2 q2 => k (v :: vs) F2 μ2 H2 (dv :: ds) (e1.trans e2) o2 (.cons (w1.mono e2.mono) w2) q2⟩
theorem deg_opC {op : Operator} {r : R2} {rd : RD2} (ho : OpR X (binaryOp op) r) (hs : OpS X.K X.mg r rd) (ha : DW X a da) (y : List Nat) {yS : Str} (hy : yS = S y := by decide +kernel) : DEG X (.BinOp a op (.Constant (.str yS) j c0) pos) (dOp rd da (dC (.str y))) := by
  subst hy
  exact (peg_opC ho ha).weaken fun σ H Q q => by
    obtain ⟨F, ρ, μ, Qd, R, hd, k⟩ := q
    refine ⟨F, ρ, μ, _, R, hd, fun v F1 μ1 H1 dv e1 o1 w1 q1 => ?_⟩
    exact hs F1 μ1 H1 v _ dv (.str y) _ _ o1 w1 (.inl (.str y)) q1 fun z F3 μ3 H3 dz e3 o3 w3 q3 => k z F3 μ3 H3 dz (e1.trans e3) o3 w3 q3
/-- the text with the parts replaced -/
def replL (x y z : List Nat) : List Nat := (Txt.replace (S x) (S y) (S z)).cps.toList
def replK (y z : List Nat) : D → (D → Prop) → Prop
  | .str x, Q => x.length + (x.length + 1) * z.length ≤ SZ ∧ Q (.str (replL x y z))
  | _, _ => False
@[simp] theorem replK_1 {x y z : List Nat} {Q : D → Prop} : replK y z (.str x) Q = (x.length + (x.length + 1) * z.length ≤ SZ ∧ Q (.str (replL x y z))) := rfl
@[simp] def dRepl (y z : List Nat) (d : TED) : TED := fun ρ μ Q => d ρ μ fun v μ1 => replK y z v fun w => Q w μ1
theorem det_repl (ho : DE X o do') (y z : List Nat) {yS zS : Str} (hy : yS = S y := by decide +kernel) (hz : zS = S z := by decide +kernel) (hyz : (yS == zS) = false := by decide)
    (hst : starEach [.Constant (.str yS) j c0, .Constant (.str zS) k c1] X.env = [(false, eval (.Constant (.str yS) j c0) X.env), (false, eval (.Constant (.str zS) k c1) X.env)] := by rfl)
    (hbase : attributeBase o "replace" X.env (eval o X.env) = eval o X.env := by rfl) (hline : (apos.endLine == pos.line) = true := by rfl) :
    DET X (.Call (.Attribute o "replace" apos) [.Constant (.str yS) j c0, .Constant (.str zS) k c1] [] pos) (dRepl y z do') := pet_weaken (pet_replC ho hyz hst hbase hline) fun σ H Q q => by
  subst hy hz
  obtain ⟨F, ρ, μ, Qd, R, hd, kk⟩ := q
  refine ⟨F, ρ, μ, _, R, hd, fun v F1 μ1 H1 dv e1 o1 w1 q1 => ?_⟩
  cases dv <;> first | exact q1.elim | skip
  rename_i x
  cases w1
  refine ⟨S x, rfl, by rw [S_len, S_len]; exact q1.1, kk _ F1 μ1 H1 (.str (replL x y z)) e1 o1 ?_ q1.2⟩
  have : (V.str (Txt.replace (S x) (S y) (S z))) = V.str (S (replL x y z)) := by unfold replL; rw [S_cps]
  rw [this]
  exact .str _
end
def upL (x : List Nat) : List Nat := (Txt.upper (S x)).cps.toList
def rdUpper : RDm
  | .str s, [], μ, Q => s.length ≤ 5592405 ∧ Q (.str (upL s)) μ
  | _, _, _, _ => False
@[simp] theorem rdUpper_1 {s : List Nat} {μ : Sto} {Q : DK} : rdUpper (.str s) [] μ Q = (s.length ≤ 5592405 ∧ Q (.str (upL s)) μ) := rfl
theorem ms_upper {K : PySem.W.Frag} {mg : Str → Option Value} : MtS K mg (fun x xs H Q => ∃ a, x = .str a ∧ xs = [] ∧ a.length ≤ 5592405 ∧ Q (.str (Txt.upper a)) H) rdUpper := by
  intro F μ H v vs d ds Qd Q o w ws h k
  unfold rdUpper at h
  split at h
  · rename_i s
    cases ws
    refine ⟨_, w.str, rfl, by rw [S_len]; exact h.1, ?_⟩
    have : (V.str (Txt.upper (S s))) = V.str (S (upL s)) := by unfold upL; rw [S_cps]
    rw [this]
    exact fin0 o k (.str _) h.2
  · exact h.elim
end DL

namespace DL
open PySem PySem.Spec PyProof.Rows L2
/-- the object at an address, as it is -/
abbrev kpO (oe : Obj) : HO := .frz oe (.own 0)
section
variable {X : Cx} {pins : List (Addr × Obj)} {σ : L2.St} {H : Hp} {s : Shared}
/-- an except suite's state, the exception tracked -/
theorem Inv.suiteT (I : Inv X pins σ H s) {xa : Addr} {xo : Obj} {xs : Array Value} (hxa : s.heap.get? xa = some xo) (hxd : xo.data = .fields xs) (hxn : H xa = none) (hxl : xa ≠ X.env.locals) (hx0 : X.s_0.heap.get? xa = none) (hxp : ∀ p ∈ X.pn ++ pins, p.1 ≠ xa) :
    Inv (X.suite xa (X.pn ++ pins)) [] σ (upd H xa (kpO xo)) s := by
  have okS := I.ok.suite xa (X.pn ++ pins)
  have hokS : HOk X.prog X.w (upd H xa (kpO xo)) s.heap := I.hok.laidN (fun _ _ z => z) hxn ⟨hxa, ⟨xo, hxa⟩⟩
  refine ⟨okS, I.os, I.bare, ⟨I.base.keep, I.base.slot, fun b o eb n hx => ?_, I.base.there, fun b ys eb => ?_, fun b o u eb => ?_, fun b qs eb => ?_⟩, I.loc, I.cell, ?_, fun y c ec => ?_, fun p hp => ?_, hokS, I.len⟩
  · have ne : b ≠ xa := fun z => by
      rw [z, hx0] at eb
      cases eb
    rw [upd_ne ne]
    exact I.base.free b o eb n hx
  · have z := I.base.tups b ys eb
    rw [upd_ne (ne_of_none z hxn)]
    exact z
  · have z := I.base.frzs b o u eb
    rw [upd_ne (ne_of_none z hxn)]
    exact z
  · obtain ⟨m, z⟩ := I.base.tbls b qs eb
    exact ⟨m, by rw [upd_ne (ne_of_none z hxn)]; exact z⟩
  · show upd H xa (kpO xo) X.env.locals = none
    rw [upd_ne (Ne.symm hxl)]
    exact I.free
  · have ne : c ≠ xa := fun z => by
      obtain ⟨v, oc, hoc, hv⟩ := I.cell y c ec
      rw [z, hxa] at hoc
      cases hoc
      rw [hxd] at hv
      cases hv
    show upd H xa (kpO xo) c = none
    rw [upd_ne ne]
    exact I.freeC y c ec
  · have hp' : p ∈ X.pn ++ pins := by
      have z : p ∈ (X.pn ++ pins) ++ ([] : List (Addr × Obj)) := hp
      rwa [List.append_nil] at z
    obtain ⟨k1, k2, k3, k4, k5⟩ := I.pin p hp'
    exact ⟨k1, by rw [upd_ne (hxp p hp')]; exact k2, k3, k4, k5⟩
theorem Inv.unsuiteT {xa : Addr} {pn' : List (Addr × Obj)} (I : Inv (X.suite xa (X.pn ++ pins)) pn' σ H s) (ok : X.Ok) : Inv X pins σ H s :=
  ⟨ok, I.os, I.bare, I.base, I.loc, I.cell, I.free, I.freeC, fun p hp => I.pin p (List.mem_append.mpr (.inl hp)), I.hok, I.len⟩
end
/-- the wish of a try's body; what never changes is asked of the suite -/
def wAsT (K : PySem.W.Frag) (cv : Value) (i : Nat) (ts : TS) (Wout : WX) (D : Ends) : WX := fun cls od σ H =>
  ∃ b, PySem.W.exmOne K cls cv = some b ∧ (b = true → ∀ (xa : Addr) (xo : Obj), H xa = none → Zc cls od xo → (∃ xs, xo.data = .fields xs) → ts { nx := fun σ1 H1 => D.nx (σ1.set i none) H1, rt := D.rt, bk := fun σ1 H1 => D.bk (σ1.set i none) H1, ct := fun σ1 H1 => D.ct (σ1.set i none) H1 } (σ.set i (some (.ref xa))) (upd H xa (kpO xo))) ∧ (b = false → Wout cls od σ H)
theorem sky_gone {B h : Heap} {l : List Env} {a L : Addr} {Z : Obj → Prop} (x : Sky B l a Z L h) : B.get? a = none := by
  rcases x with ⟨_, z, _⟩ | ⟨_, z, _⟩ | ⟨_, z, _⟩ <;> exact z
section
variable {X : Cx} {x n : Str} {cv : Value} {i : Nat} {body suite : List Stmt} {b₀ : Stmt} {np pos pos' : Pos} {tb : WX → TS} {ts : TS} {Wout : WX}
theorem ps_tryT (hs : X.stack = X.env :: X.outer) (hf : X.env.frame = some X.env.locals) (hex : X.ex = []) (hN : X.N.Nodup) (hi : X.N[i]? = some n) (hln : X.env.kindOf n = some .local) (hc : Names X x cv) (tk : Takes X Wout)
    (hb : ∀ (W : WX) (pn : List (Addr × Obj)) (xe : Value → Shared → Prop), Takes (X.tr pn xe) W → PSs (X.tr pn xe) body (tb W))
    (hsu : ∀ (xa : Addr) (pn : List (Addr × Obj)), PSs (X.suite xa pn) (b₀ :: suite) ts) :
    PS X (.Try body [.ExceptHandler (some (.Name x np)) (some n) (b₀ :: suite) pos'] [] [] pos) (fun D σ H => tb (wAsT X.K cv i ts Wout D) D σ H) := by
  refine ⟨fun pins s σ H D I h => ?_⟩
  have okX := I.ok
  have frX : X.A.frames = some (X.env :: X.outer) := by rw [okX.frames, hs]
  have locN : Loc X.env.scope n := .inl hln
  have body0 := (hb (wAsT X.K cv i ts Wout D) (X.pn ++ pins) (fun e s₁ => wpAny (model X.prog X.w) X.A (noteFrame e X.env) (fun _ s₂ => wpAny (model X.prog X.w) X.A (setFlight e none) (fun _ s₃ => wpAny (model X.prog X.w) X.A (handleBy e X.env [.ExceptHandler (some (.Name x np)) (some n) (b₀ :: suite) pos']) (SP X pins D) X.xe s₃) X.xe s₂) X.xe s₁) (fun u s' air => ?_)).run [] s σ H D (I.toTry _) h
  · refine wpAny_Try_except (wpAny_mono body0 (fun fl s1 hsp => ?_) fun _ _ z => z)
    cases fl with
    | next => obtain ⟨σ1, H1, J1, q1⟩ := hsp; exact wpAny_execs_nil ⟨σ1, H1, J1.ofTry okX, q1⟩
    | brk => obtain ⟨σ1, H1, J1, q1⟩ := hsp; exact ⟨σ1, H1, J1.ofTry okX, q1⟩
    | cont => obtain ⟨σ1, H1, J1, q1⟩ := hsp; exact ⟨σ1, H1, J1.ofTry okX, q1⟩
    | ret u => obtain ⟨v1, σ1, H1, J1, r1, q1⟩ := hsp; exact ⟨v1, σ1, H1, J1.ofTry okX, r1, q1⟩
  obtain ⟨xa, G, sI, pn1, σ1, H1, cls, od, rfl, J0, nG, up0, sky, hna, hos, hag, b, hcat, yes, no⟩ := air
  have J : Inv X pins σ1 H1 sI := J0.ofTry okX
  have skyX : Sky G (X.env :: X.outer) xa (Zc cls od) X.env.locals s'.heap := by rw [← hs]; exact sky
  have gone := sky_gone skyX
  show wpAny _ X.A (noteFrame (.ref xa) X.env) _ _ _
  refine Sky.land Zc.steady frX hf skyX fun g3 fly3 up3 => ?_
  have K3 : Inv X pins σ1 H1 { s' with heap := g3 } := J.landed nG fly3.1 (up0.trans up3) hos hag
  obtain ⟨o3, w3, get3, zc3, dat3⟩ := fly3.there
  have outF : xa ∉ frs (X.env :: X.outer) := fun hm => by
    obtain ⟨_, o', e', nf⟩ := fly3.2.2.1.mem hm
    rw [get3] at e'
    cases e'
    exact nf _ dat3
  have outL : xa ≠ X.env.locals := fun z => outF (List.mem_filterMap.mpr ⟨X.env, List.mem_cons_self, by rw [hf, z]⟩)
  have outS : xa ∉ X.fs := fun hm => by
    obtain ⟨ev, he, q⟩ := List.mem_filterMap.mp hm
    exact outF (List.mem_filterMap.mpr ⟨ev, List.mem_cons_of_mem _ he, q⟩)
  have out0 : sI.heap.get? xa = none := by
    cases q : sI.heap.get? xa with
    | none => rfl
    | some o =>
      have z := nG xa o q (by rw [hs]; exact outF)
      rw [gone] at z
      cases z
  have new0 : X.s_0.heap.get? xa = none := by
    cases q : X.s_0.heap.get? xa with
    | none => rfl
    | some o =>
      obtain ⟨o', z⟩ := J.base.there xa o q (by rw [hex]; exact fun z => nomatch z)
      rw [out0] at z
      cases z
  have newP : ∀ p ∈ X.pn ++ pins, p.1 ≠ xa := fun p hp z => by
    have q := (J.pin p hp).1
    rw [z, out0] at q
    cases q
  have S3 := K3.suite get3 dat3 hna outL outS
  refine wpAny_handleBy_cons (codeAny_handlers_test ?_) (fun q => by cases q)
  have LT : PySem.W.Looks (model X.prog X.w) g3 (typeOf (.ref xa)) cls := fun A Q E s k q => wpAny_typeOf_ref (k _ _ get3) (by rw [zc3.1]; exact q)
  have LM := PySem.W.exm_one (M := model X.prog X.w) K3.kIn LT hcat
  have test : ∀ {Q : Value → Shared → Prop} {E : Value → Shared → Prop}, Q cv { s' with heap := g3 } → wpAny (model X.prog X.w) (X.A.mark (some (.ref xa))) (eval (.Name x np) X.env) Q E { s' with heap := g3 } := fun {Q E} q => by
    obtain ⟨gX, dX, mX | ⟨mX, vX, nX⟩⟩ := hc
    · exact ld_glob (X := X.suite xa _) S3 gX mX q dX
    · exact ld_blt (X := X.suite xa _) S3 gX mX vX q nX dX
  refine test (LM.here ?_)
  cases b with
  | false =>
    show wpAny _ X.A (handleBy (.ref xa) X.env []) _ _ _
    obtain ⟨_, _, _, xo, xs, tr, _, _, gX, _, dX, fX, _⟩ := id fly3
    refine wpAny_handleBy_nil ?_
    unfold PySem.passOn
    refine wpAny_bind (wpAny_field gX dX fX ?_)
    rw [if_neg (show ¬ ((Value.ref tr == Value.none) = true) from by simp)]
    have finX : wpAny (model X.prog X.w) X.A (setFlight (.ref xa) X.env.frame) (fun _ s4 => wpAny (model X.prog X.w) X.A (throw (.ref xa) : Sem Flow) (SP X pins D) X.xe s4) X.xe { s' with heap := g3 } := by
      rw [hf]
      refine HandSPX.setFlight_upZ fly3 fun g4 held4 up4 => wpAny_throw (tk _ _ ?_)
      exact ⟨xa, G, sI, pins, σ1, H1, cls, od, rfl, J, nG, (up0.trans up3).trans up4, .inr (.inr (by rw [hs]; exact held4)), hna, hos, hag, no rfl⟩
    first
      | exact wpAny_bind (wpAny_pure (wpAny_bind finX))
      | exact wpAny_bind finX
  | true =>
    refine codeAny_handlers_suite_as (HandSPX.lands_againZ fly3 fun g4 fly4 up4 => ?_)
    have K4 : Inv X pins σ1 H1 { s' with heap := g4 } := J.landed nG fly4.1 ((up0.trans up3).trans up4) hos hag
    obtain ⟨o4, w4, get4, zc4, dat4⟩ := fly4.there
    have S4 := Inv.suiteT K4 get4 dat4 hna outL new0 newP
    refine store_ok (X := X.suite xa (X.pn ++ pins)) (v := .ref xa) S4 hN hi locN rfl (fun s5 S5 => ?_) (.inr hln)
    refine wpAny_mono ((hsu xa (X.pn ++ pins)).run [] s5 _ _ _ S5 (yes rfl xa o4 hna zc4 ⟨_, dat4⟩)) (fun fl s6 hsp => ?_) (fun _ _ z => False.elim z)
    have end_ : ∀ {σ6 : L2.St} {H6 : Hp} {Q : Shared → Prop}, Inv (X.suite xa (X.pn ++ pins)) [] σ6 H6 s6 → (∀ s7, Inv X pins (σ6.set i none) H6 s7 → Q s7) →
        wpAny (model X.prog X.w) X.A (do bindName X.env n .none; unbindBehindTheSuite X.env n pos') (fun _ s7 => Q s7) X.xe s6 := fun {σ6 H6 Q} S6 hq => gone_ok (Inv.unsuiteT S6 okX) hN hi hln hq
    cases fl with
    | next => obtain ⟨σ6, H6, S6, q6⟩ := hsp; exact end_ S6 fun s7 J7 => ⟨_, _, J7, q6⟩
    | brk => obtain ⟨σ6, H6, S6, q6⟩ := hsp; exact end_ S6 fun s7 J7 => ⟨_, _, J7, q6⟩
    | cont => obtain ⟨σ6, H6, S6, q6⟩ := hsp; exact end_ S6 fun s7 J7 => ⟨_, _, J7, q6⟩
    | ret u => obtain ⟨v6, σ6, H6, S6, r6, q6⟩ := hsp; exact end_ S6 fun s7 J7 => ⟨_, _, _, J7, r6, q6⟩
end
end DL

namespace DL
open PySem PySem.Spec PyProof.Rows L2
section
variable {K : PySem.W.Frag} {mg : Str → Option Value} {B : Bs} {F F' H H' : Hp} {μ μ' : Sto} {ρ : DEnv} {σ : L2.St}
/-- something that nobody owns is told never to change -/
theorem RelB.inF (r : RelB K mg B F ρ μ σ H) {p : Addr} {u : HO} (hB : B.H p = none) (hF : F p = none) (hm : μ p = none) (hH : H p = some u) (nl : ∀ vs, u ≠ .lst vs) : RelB K mg B (upd F p u) ρ μ σ H := by
  have mono : ∀ a o, F a = some o → upd F p u a = some o := fun a o e => by rw [upd_ne (ne_of_none e hF)]; exact e
  refine ⟨⟨⟨fun a o e => ?_, fun a m e => ?_, fun a m e => ?_⟩, r.rel.len, fun i s e => ?_, r.rel.apart⟩, ⟨fun a o e => mono a o (r.ext.mono a o e), fun a o e n => ?_, r.ext.live⟩, r.new⟩
  · by_cases ha : a = p
    · subst ha; rw [upd_same] at e; cases e; exact hH
    · rw [upd_ne ha] at e; exact r.rel.ok.sub a o e
  · have ha : a ≠ p := fun q => by subst q; rw [hm] at e; cases e
    rw [upd_ne ha]; exact r.rel.ok.dis a m e
  · exact (r.rel.ok.sto a m e).up mono rfl
  · obtain ⟨v, g1, g2⟩ := r.rel.slot i s e
    refine ⟨v, g1, ?_⟩
    cases s with
    | val d => exact Dt.mono mono g2
    | own xs =>
      obtain ⟨a, vs, q1, q2, q3, q4, q5⟩ := g2
      have ha : a ≠ p := fun q => by subst q; rw [hH] at q4; exact nl _ (Option.some.inj q4)
      exact ⟨a, vs, q1, (upd_ne ha).trans q2, q3, q4, q5.mono mono⟩
  · obtain ⟨g1, g2, g3⟩ := r.ext.keep a o e n
    have ha : a ≠ p := fun q => by subst q; rw [hB] at e; cases e
    exact ⟨g1, (upd_ne ha).trans g2, g3⟩
theorem RelB.exn {od : Option Addr} {cv : Value} {c : Str} {fs : List (Str × D)} {xa : Addr} {xo : Obj} (r : RelB K mg B F ρ μ σ H) (x : XD K mg B.H F μ H cv od c fs) (na : H xa = none) (hz : Zc cv od xo) (hf : ∃ xs, xo.data = .fields xs) :
    ∃ F', FLe F F' ∧ RelB K mg B F' ρ μ σ (upd H xa (kpO xo)) ∧ Dt K mg F' (.ref xa) (.exn c fs) := by
  obtain ⟨C, rfl, hc, ⟨rfl, rfl⟩ | ⟨d, vfs, rfl, h0, h1, h2, h3, h4, h5, h6⟩⟩ := x
  · obtain ⟨o, e⟩ := r.rel.ok.lay na (kpO xo)
    exact ⟨_, e.mono, r.step e o, .exn0 hc upd_same hz hf⟩
  · have r1 := r.inF h1 h2 h3 h4 fun vs z => by cases z
    have m1 : ∀ a o, F a = some o → upd F d (.xd vfs) a = some o := fun a o e => by rw [upd_ne (ne_of_none e h2)]; exact e
    obtain ⟨o, e⟩ := r1.rel.ok.lay na (kpO xo)
    have hd : d ≠ xa := fun q => by subst q; rw [na] at h4; cases h4
    exact ⟨_, fun a o h => e.mono a o (m1 a o h), r1.step e o, .exn1 hc upd_same hz hf ((upd_ne hd).trans upd_same) h5 (h6.mono fun a o h => e.mono a o (m1 a o h))⟩
end
/-- the ends of an except suite -/
def exE (i : Nat) (E : DEnds) : DEnds := { nx := fun ρ μ => E.nx (ρ.set i none) μ, rt := E.rt, bk := fun ρ μ => E.bk (ρ.set i none) μ, ct := fun ρ μ => E.ct (ρ.set i none) μ }
@[simp] theorem exE_rt {i : Nat} {E : DEnds} {d : D} {μ : Sto} : (exE i E).rt d μ = E.rt d μ := rfl
@[simp] theorem exE_nx {i : Nat} {E : DEnds} {ρ : DEnv} {μ : Sto} : (exE i E).nx ρ μ = E.nx (ρ.set i none) μ := rfl
@[simp] theorem exE_bk {i : Nat} {E : DEnds} {ρ : DEnv} {μ : Sto} : (exE i E).bk ρ μ = E.bk (ρ.set i none) μ := rfl
@[simp] theorem exE_ct {i : Nat} {E : DEnds} {ρ : DEnv} {μ : Sto} : (exE i E).ct ρ μ = E.ct (ρ.set i none) μ := rfl
def tryE (cat : Str → Option Bool) (i : Nat) (ts : TSD) (Wout : DEnv → DXK) (E : DEnds) : DEnv → DXK := fun ρ c fs μ =>
  ∃ b, cat c = some b ∧ (b = true → ts (exE i E) (ρ.set i (some (.val (.exn c fs)))) μ) ∧ (b = false → Wout ρ c fs μ)
def dTryE (cat : Str → Option Bool) (i : Nat) (tb : (DEnv → DXK) → TSD) (ts : TSD) (Wout : DEnv → DXK) : TSD := fun E ρ μ => tb (tryE cat i ts Wout E) E ρ μ
section
variable {X : Cx} {B : Bs} {x n : Str} {cv : Value} {i : Nat} {body suite : List Stmt} {b₀ : Stmt} {np pos pos' : Pos} {cat : Str → Option Bool} {tb : (DEnv → DXK) → TSD} {ts : TSD} {Wout : DEnv → DXK}
theorem ds_tryE (hs : X.stack = X.env :: X.outer) (hf : X.env.frame = some X.env.locals) (hex : X.ex = []) (hN : X.N.Nodup) (hi : X.N[i]? = some n) (hln : X.env.kindOf n = some .local) (hc : Names X x cv) (tk : ∀ B', (∀ c d σ H, liftWX X.K X.mg B' Wout c d σ H → liftWX X.K X.mg B Wout c d σ H) → Takes X (liftWX X.K X.mg B' Wout))
    (hcat : ∀ c b C, cat c = some b → X.mg c = some (.ref C) → PySem.W.exmOne X.K (.ref C) cv = some b)
    (hb : ∀ (B' : Bs) (W : DEnv → DXK) (pn : List (Addr × Obj)) (xe : Value → Shared → Prop), Takes (X.tr pn xe) (liftWX X.K X.mg B' W) → DSs (X.tr pn xe) B' body (tb W))
    (hsu : ∀ (B' : Bs) (xa : Addr) (pn : List (Addr × Obj)), DSs (X.suite xa pn) B' (b₀ :: suite) ts) :
    DSt X B (.Try body [.ExceptHandler (some (.Name x np)) (some n) (b₀ :: suite) pos'] [] [] pos) (dTryE cat i tb ts Wout) := by
  refine ⟨fun pins s σ H D I h => ?_⟩
  obtain ⟨F, ρ, μ, Dd, R, hd, kn, kb, kc, kr⟩ := h
  have imp : ∀ c d σ H, liftWX X.K X.mg ⟨F, B.μ, B.H⟩ Wout c d σ H → liftWX X.K X.mg B Wout c d σ H := fun c d σ' H' w => by
    obtain ⟨F1, ρ1, μ1, c1, fs, R1, x1, q⟩ := w
    exact ⟨F1, ρ1, μ1, c1, fs, R.back R1, x1, q⟩
  refine (ps_tryT (tb := fun W D σ H => ∃ Wd, (∀ c d σ H, liftWX X.K X.mg ⟨F, B.μ, B.H⟩ Wd c d σ H → W c d σ H) ∧ liftS X.K X.mg ⟨F, B.μ, B.H⟩ (tb Wd) D σ H)
    (ts := liftS X.K X.mg ⟨F, B.μ, B.H⟩ ts) (Wout := liftWX X.K X.mg ⟨F, B.μ, B.H⟩ Wout)
    hs hf hex hN hi hln hc (tk _ imp) (fun W pn xe tk' => ⟨fun pins s σ H D I ⟨Wd, im, h⟩ => (hb _ Wd pn xe (tk'.imp im)).run pins s σ H D I h⟩) (fun xa pn => hsu _ xa pn)).run pins s σ H D I ?_
  refine ⟨tryE cat i ts Wout Dd, fun cv' od σ' H' w => ?_, F, ρ, μ, Dd, R.here, hd, ?_, ?_, ?_, ?_⟩
  · obtain ⟨F', ρ', μ', c, fs, R', x', b, hcb, yes, no⟩ := w
    obtain ⟨C, e1, e2, _⟩ := id x'
    subst e1
    refine ⟨b, hcat c b C hcb e2, fun hb' xa xo na hz hf => ?_, fun hb' => ⟨F', ρ', μ', c, fs, R', x', no hb'⟩⟩
    obtain ⟨F2, fl2, R2, D2⟩ := R'.exn x' na hz hf
    refine ⟨F2, _, _, _, R2.set (i := i) D2, yes hb', ?_, ?_, ?_, ?_⟩
    · intro F3 ρ3 μ3 σ3 H3 fl R3 q
      exact kn F3 _ _ _ H3 (fun b o e => fl b o (fl2 b o (R'.ext.mono b o e))) (R.back (R3.wipe [i])) q
    · intro F3 ρ3 μ3 σ3 H3 fl R3 q
      exact kb F3 _ _ _ H3 (fun b o e => fl b o (fl2 b o (R'.ext.mono b o e))) (R.back (R3.wipe [i])) q
    · intro F3 ρ3 μ3 σ3 H3 fl R3 q
      exact kc F3 _ _ _ H3 (fun b o e => fl b o (fl2 b o (R'.ext.mono b o e))) (R.back (R3.wipe [i])) q
    · intro v F3 μ3 H3 dv e o w q
      exact kr v F3 _ H3 dv (ext_back R.ext e) o w q
  · exact fun F' ρ' μ' σ' H' fl R' q => kn F' ρ' μ' σ' H' fl (R.back R') q
  · exact fun F' ρ' μ' σ' H' fl R' q => kb F' ρ' μ' σ' H' fl (R.back R') q
  · exact fun F' ρ' μ' σ' H' fl R' q => kc F' ρ' μ' σ' H' fl (R.back R') q
  · exact fun v F' μ' H' dv e o w q => kr v F' μ' H' dv (ext_back R.ext e) o w q
end
def rdIsE (T : XTab) : RDn
  | [.exn c _, .gl q], μ, Q => ∃ b, T.get c q = some b ∧ Q (.bl b) μ
  | [.exn c _, .ty t], μ, Q => ∃ b, T.getT c t = some b ∧ Q (.bl b) μ
  | [.exn c _, .tup cs], μ, Q => cs ≠ [] ∧ ∃ b, T.any c cs = some b ∧ Q (.bl b) μ
  | _, _, _ => False
@[simp] theorem rdIsE_1 {c q : Str} {fs : List (Str × D)} {T : XTab} {μ : Sto} {Q : DK} : rdIsE T [.exn c fs, .gl q] μ Q = (∃ b, T.get c q = some b ∧ Q (.bl b) μ) := rfl
@[simp] theorem rdIsE_2 {c : Str} {t : String} {fs : List (Str × D)} {T : XTab} {μ : Sto} {Q : DK} : rdIsE T [.exn c fs, .ty t] μ Q = (∃ b, T.getT c t = some b ∧ Q (.bl b) μ) := rfl
@[simp] theorem rdIsE_3 {c : Str} {cs : List D} {fs : List (Str × D)} {T : XTab} {μ : Sto} {Q : DK} : rdIsE T [.exn c fs, .tup cs] μ Q = (cs ≠ [] ∧ ∃ b, T.any c cs = some b ∧ Q (.bl b) μ) := rfl
/-- an exception that stands in what never changes -/
def ExnAt (mg : Str → Option Value) (H : Hp) (a : Addr) (c : Str) (C : Addr) (od : Option Addr) : Prop := mg c = some (.ref C) ∧ ∃ oe, H a = some (kpO oe) ∧ Zc (.ref C) od oe ∧ (∃ vs, oe.data = .fields vs) ∧ ∀ dd, od = some dd → ∃ fs, H dd = some (.xd fs)
theorem exn_at {K : PySem.W.Frag} {mg : Str → Option Value} {F H : Hp} {μ : Sto} (o : Ok K mg F μ H) {v : V} {c : Str} {fs : List (Str × D)} (w : Dt K mg F v (.exn c fs)) : ∃ a C od, v = .ref a ∧ ExnAt mg H a c C od := by
  cases w with
  | exn0 h1 h2 h3 h4 => exact ⟨_, _, _, rfl, h1, _, o.sub _ _ h2, h3, h4, fun dd z => by cases z⟩
  | exn1 h1 h2 h3 h4 h5 h6 h7 => exact ⟨_, _, _, rfl, h1, _, o.sub _ _ h2, h3, h4, fun dd z => by cases z; exact ⟨_, o.sub _ _ h5⟩⟩
theorem inst_at {X : Cx} {pins : List (Addr × Obj)} {σ : L2.St} {H : Hp} {s : Shared} {mg : Str → Option Value} {a C : Addr} {c : Str} {od : Option Addr} (I : Inv X pins σ H s) (h : ExnAt mg H a c C od) : ∃ oe od', PySem.W.InstAt s.heap a oe C od' := by
  obtain ⟨_, oe, h1, h2, ⟨vs, h3⟩, h4⟩ := h
  have get := (I.hok a _ h1).1
  cases od with
  | none => exact ⟨oe, none, get, h2.1, by unfold PySem.W.notCls; rw [h3] <;> rfl, by rw [h2.2]; trivial⟩
  | some dd =>
    obtain ⟨fs, hfs⟩ := h4 dd rfl
    have hx : ObjOk X.prog X.w H s.heap dd (.xd fs) := I.hok dd _ hfs
    obtain ⟨mA, hns, hr⟩ := hx
    obtain ⟨o, ho, hl⟩ := lookIn_ns hns
    exact ⟨oe, some o, get, h2.1, by unfold PySem.W.notCls; rw [h3] <;> rfl, by rw [h2.2]; exact ho⟩
def rIsE (K : PySem.W.Frag) (mg : Str → Option Value) : List V → Hp → VK → Prop := fun xs H Q => ∃ (a C : Addr) (c : Str) (od : Option Addr) (cv : V) (b : Bool), xs = [.ref a, cv] ∧ ExnAt mg H a c C od ∧ ExcC K C ∧
  ((∃ u, ClsV cv u ∧ PySem.W.kitOne K (.ref C) u = some b) ∨ ∃ tp ob cs us, cv = .ref tp ∧ H tp = some (.frz ob (.tup cs)) ∧ Paired ClsV cs us ∧ PySem.W.kitAny K (.ref C) us = some b) ∧ Q (.bl b) H
theorem call_isE {X : Cx} : CallR X (.builtin "isinstance") (rIsE X.K X.mg) := by
  intro pins s σ H xs us Q I r h
  obtain ⟨a, C, c, od, cv, b, rfl, hat, EC, hcl, q⟩ := h
  obtain ⟨u1, u2, rfl, r1, r2⟩ := vals2 r
  obtain rfl : u1 = Value.ref a := r1
  obtain ⟨oe, od', J⟩ := inst_at I hat
  have KX := PySem.W.kitx_exc (K := X.K) (C := C) (x := a) (ox := oe) (od := od') (by obtain ⟨cd, hc, _⟩ := PySem.W.any_some EC.hd; rw [hc]; rfl) EC.hg EC.hk EC.hs EC.ha EC.hn EC.ht EC.hm
  rcases hcl with ⟨u, hu, hk⟩ | ⟨tp, ob, cs, us, rfl, hT, hp, hk⟩
  · have e2 := hu.eq r2
    subst e2
    exact PySem.W.kia_one KX I.kIn J hk (fun z => nomatch z) fun tk => ⟨.bl b, H, I.kept (t' := tk) fun _ _ z => z, rfl, q⟩
  · obtain rfl : u2 = Value.ref tp := r2
    obtain ⟨_, _, its, rv, o, h1, h2, n, h3⟩ := (show ObjOk X.prog X.w H s.heap tp (.frz ob (.tup cs)) from I.hok tp _ hT)
    have e3 := ClsV.all hp rv
    subst e3
    obtain ⟨oc, odd, dt, sl⟩ := o
    simp only at h2 h3
    subst h2 h3
    exact PySem.W.kia_tup KX I.kIn J h1 hk (fun z => nomatch z) fun tk => ⟨.bl b, H, I.kept (t' := tk) fun _ _ z => z, rfl, q⟩
theorem cs_isE {K : PySem.W.Frag} {mg : Str → Option Value} {T : XTab} (TX : XTabOk K mg T) : CallS K mg (rIsE K mg) (rdIsE T) := by
  intro F μ H vs ds Qd Q o w h k
  unfold rdIsE at h
  split at h
  · obtain ⟨u, v, rfl, wk, wt⟩ := w.two
    obtain ⟨b, h2, q⟩ := h
    rcases wk with wk | ⟨_, _, _, _, e, _⟩
    · obtain ⟨a, C, od, rfl, hat⟩ := exn_at o wk
      obtain ⟨Q', g1, g2, _, g3⟩ := TX.get h2 hat.1
      rcases wt with wt | ⟨_, _, _, _, e, _⟩
      · cases wt
        rename_i a' ha'
        rw [g1] at ha'
        cases ha'
        exact ⟨a, C, _, od, _, b, rfl, hat, g3, .inl ⟨_, .own _, g2⟩, fin0 o k (.bl _) q⟩
      · cases e
    · cases e
  · obtain ⟨u, v, rfl, wk, wt⟩ := w.two
    obtain ⟨b, h2, q⟩ := h
    rcases wk with wk | ⟨_, _, _, _, e, _⟩
    · obtain ⟨a, C, od, rfl, hat⟩ := exn_at o wk
      obtain ⟨g2, g3⟩ := TX.getT h2 hat.1
      rcases wt with wt | ⟨_, _, _, _, e, _⟩
      · cases wt
        exact ⟨a, C, _, od, _, b, rfl, hat, g3, .inl ⟨_, .ty _, g2⟩, fin0 o k (.bl _) q⟩
      · cases e
    · cases e
  · rename_i cs
    obtain ⟨u, v, rfl, wk, wt⟩ := w.two
    obtain ⟨hne, b, h2, q⟩ := h
    rcases wk with wk | ⟨_, _, _, _, e, _⟩
    · obtain ⟨a, C, od, rfl, hat⟩ := exn_at o wk
      obtain ⟨tp, vs, rfl, _, ⟨ob, _, hp⟩, hds⟩ := wt.tup o
      obtain ⟨us, g1, g2⟩ := TX.any hat.1 _ _ _ h2 hds
      have g3 : ExcC K C := by
        cases cs with
        | nil => exact absurd rfl hne
        | cons d cs =>
          cases d <;> first | cases h2; done | skip
          · rename_i n
            cases hg : T.getT _ n with
            | none => unfold XTab.any at h2; rw [hg] at h2; cases h2
            | some b' => exact (TX.getT hg hat.1).2
          · rename_i x
            cases hg : T.get _ x with
            | none => unfold XTab.any at h2; rw [hg] at h2; cases h2
            | some b' => exact (TX.get hg hat.1).choose_spec.2.2.2
      exact ⟨a, C, _, od, _, b, rfl, hat, g3, .inr ⟨tp, ob, vs, us, rfl, o.sub _ _ hp, g1, g2⟩, fin0 o k (.bl _) q⟩
    · cases e
  · exact h.elim
/-- e.f, of an exception of one of the classes cs -/
def fldE (cs : List Str) (f : Str) : D → (D → Prop) → Prop
  | .exn c fs, Q => c ∈ cs ∧ ∃ v, fs.lookup f = some v ∧ Q v
  | _, _ => False
@[simp] theorem fldE_1 {cs : List Str} {f c : Str} {fs : List (Str × D)} {Q : D → Prop} : fldE cs f (.exn c fs) Q = (c ∈ cs ∧ ∃ v, fs.lookup f = some v ∧ Q v) := rfl
@[simp] def dFldE (cs : List Str) (f : Str) (d : TED) : TED := fun ρ μ Q => d ρ μ fun x μ1 => fldE cs f x fun v => Q v μ1
section
variable {X : Cx} {f : Str} {e : Expr} {d : TED} {te : TE} {pos : Pos} {cs : List Str}
theorem pe_fldE (he : PE X e te) (hb : attributeBase e f X.env (eval e X.env) = eval e X.env) : PE X (.Attribute e f pos) (fun σ H Q => te σ H fun x H1 => ∃ (a C dd : Addr) (c : Str) (fs : List (Str × V)) (v : V), x = .ref a ∧ ExnAt X.mg H1 a c C (some dd) ∧ XfC X.K C ∧ PySem.W.findIn X.K (.ref C) f = some none ∧ H1 dd = some (.xd fs) ∧ fs.lookup f = some v ∧ Q v H1) := by
  refine ⟨fun pins s σ H Q I h => ?_⟩
  refine attr_of hb (thn (he.run pins s σ H _ I h) fun u s1 hh => ?_)
  obtain ⟨x, H1, I1, rx, a, C, dd, c, fs, v, rfl, hat, TC, hno, hdd, hl, q⟩ := hh
  obtain rfl : u = Value.ref a := rx
  obtain ⟨_, oe, h1, h2, ⟨vs, h3⟩, _⟩ := hat
  have get := (I1.hok a _ h1).1
  have hx : ObjOk X.prog X.w H1 s1.heap dd (.xd fs) := I1.hok dd _ hdd
  obtain ⟨mA, hns, hr⟩ := hx
  obtain ⟨od, ho, hlk⟩ := lookIn_ns hns
  obtain ⟨u, hu, ru⟩ := RelO.some_of (v := v) (o := mA f) (by rw [← hl]; exact hr f)
  have J : PySem.W.InstAt s1.heap a oe C (some od) := ⟨get, h2.1, by unfold PySem.W.notCls; rw [h3] <;> rfl, by rw [h2.2]; exact ho⟩
  exact HandSPX.exc_get I1.kIn J TC.ga TC.gg TC.exC (PySem.W.findObj_own TC.hdC hno rfl (by rw [hlk, hu])) (handed_of ru) ⟨v, H1, I1.tok _, ru, q⟩
theorem de_fldE (T : ∀ c ∈ cs, FldRd X.K X.mg c f) (he : DE X e d) (hb : attributeBase e f X.env (eval e X.env) = eval e X.env := by rfl) : DE X (.Attribute e f pos) (dFldE cs f d) := (pe_fldE he hb).weaken fun σ H Q h => by
  obtain ⟨F, ρ, μ, Qd, R, hd, kk⟩ := h
  refine ⟨F, ρ, μ, _, R, hd, fun v F1 μ1 H1 dv e1 o1 w1 q1 => ?_⟩
  cases dv <;> first | exact q1.elim | skip
  obtain ⟨hm, y, hl, q1⟩ := q1
  obtain ⟨CB, g1, g2, g3⟩ := (T _ hm).ex
  cases w1 with
  | exn0 h1 h2 h3 h4 => cases hl
  | exn1 h1 h2 h3 h4 h5 h6 h7 =>
    rw [g1] at h1
    cases h1
    obtain ⟨w, l1, l2⟩ := dts_lookup h6 h7 hl
    exact ⟨_, _, _, _, _, w, rfl, ⟨g1, _, o1.sub _ _ h2, h3, h4, fun dd z => by cases z; exact ⟨_, o1.sub _ _ h5⟩⟩, g2, g3, o1.sub _ _ h5, l1, kk w F1 μ1 H1 y e1 o1 l2 q1⟩
end
end DL

namespace DL
open PySem PySem.Spec PyProof.Rows L2
/-- a text of at most n signs below 128 -/
def Tx (n : Nat) (x : List Nat) : Prop := (∀ c ∈ x, c < 128) ∧ x.length ≤ n
theorem Tx.le {n m : Nat} {x : List Nat} (h : Tx n x) (l : n ≤ m) : Tx m x := ⟨h.1, Nat.le_trans h.2 l⟩
theorem Tx.app {n m : Nat} {x y : List Nat} (h : Tx n x) (g : Tx m y) : Tx (n + m) (x ++ y) := ⟨fun c hc => (List.mem_append.mp hc).elim (h.1 c) (g.1 c), by rw [List.length_append]; have := h.2; have := g.2; omega⟩
theorem Tx.cut {n : Nat} {x : List Nat} (h : Tx n x) (a b : Option Int) : Tx n (cut x a b) := ⟨fun c hc => h.1 c (cut_mem hc), Nat.le_trans (cut_le x a b) h.2⟩
theorem Tx.one {c : Nat} (h : c < 128) : Tx 1 [c] := ⟨fun d hd => by rw [List.mem_singleton.mp hd]; exact h, Nat.le_refl _⟩
def sp_law_spoilt : DSp := drawSpD 4 fun r R => ∃ (x : List Nat) (n : Nat), r = [.str x] ∧ Tx n x ∧ n ≤ 100000 ∧ R = fun d => ∃ y, d = .str y ∧ Tx (3 * n + 10) y
theorem spoilt_ok {j c : Addr} {b n : Nat} {x : List Nat} {μ0 μ : Sto} {Q : DK} {E : DXK} (h : StD j c μ0 b μ) (hb : b + 4 ≤ 1000000) (hx : Tx n x) (hn : n ≤ 100000) (q : ∀ y μ', Tx (3 * n + 10) y → StD j c μ0 (b + 4) μ' → Q (.str y) μ') : sp_law_spoilt [.ref j, .str x] μ Q E :=
  drawD_ok h hb ⟨x, n, rfl, hx, hn, rfl⟩ fun d μ' h1 h2 => by obtain ⟨y, rfl, hy⟩ := h1; exact q y μ' hy h2
def b_law_spoilt_9 : TSD :=
  (dRet (dOp rdIx (dLook 6) (dCall sp_law_draw (dCons (dVar 0) (dCons (dC (.int 13)) dNil)) noD)))
def b_law_spoilt_8 : TSD :=
  (dSeq (dApp 6 (dMt "str" rdJoin (dC (.str [32])) (dCons (dOp rdAdd (dOp rdAdd (dSl (dLook 4) dNoPart (dPart (dVar 5))) (dLst (dCons (dC (.str [97, 49])) dNil))) (dSl (dLook 4) (dPart (dOp rdAdd (dLook 5) (dC (.int 1)))) dNoPart)) dNil)))
  b_law_spoilt_9)
def b_law_spoilt_7 : TSD :=
  (dSeq (dSetR 6 (dOwn (dAddF (dLook 6) (dLst (dCons (dOp rdAdd (dLook 1) (dC (.str [32]))) (dCons (dMt "str" rdJoin (dC (.str [32])) (dCons (dOp rdAdd (dOp rdAdd (dSl (dLook 4) dNoPart (dPart (dVar 5))) (dLst (dCons (dC (.str [47])) dNil))) (dSl (dLook 4) (dPart (dVar 5)) dNoPart)) dNil)) (dCons (dRepl [32] [32, 32] (dVar 1)) (dCons (dMt "str" rdUpper (dLook 1) dNil) dNil))))))))
  b_law_spoilt_8)
def b_law_spoilt_6 : TSD :=
  (dSeq (dSetR 6 (dOwn (dAddF (dLook 6) (dLst (dCons (dMt "str" rdJoin (dC (.str [32])) (dCons (dOp rdAdd (dSl (dLook 4) dNoPart (dPart (dVar 5))) (dSl (dLook 4) (dPart (dOp rdAdd (dLook 5) (dC (.int 1)))) dNoPart)) dNil)) (dCons (dMt "str" rdJoin (dC (.str [32])) (dCons (dOp rdAdd (dSl (dLook 4) dNoPart (dPart (dOp rdAdd (dLook 5) (dC (.int 1))))) (dSl (dLook 4) (dPart (dVar 5)) dNoPart)) dNil)) (dCons (dOp rdAdd (dLook 1) (dC (.str [10]))) (dCons (dOp rdAdd (dC (.str [32])) (dLook 1)) dNil))))))))
  b_law_spoilt_7)
def b_law_spoilt_5 : TSD :=
  (dSeq (dSetR 6 (dOwn (dLstF (dCons (dOp rdAdd (dOp rdAdd (dSl (dLook 1) dNoPart (dPart (dVar 2))) (dLook 3)) (dSl (dLook 1) (dPart (dVar 2)) dNoPart)) (dCons (dOp rdAdd (dOp rdAdd (dSl (dLook 1) dNoPart (dPart (dVar 2))) (dLook 3)) (dSl (dLook 1) (dPart (dOp rdAdd (dLook 2) (dC (.int 1)))) dNoPart)) (dCons (dOp rdAdd (dSl (dLook 1) dNoPart (dPart (dVar 2))) (dSl (dLook 1) (dPart (dOp rdAdd (dLook 2) (dC (.int 1)))) dNoPart)) (dCons (dSl (dLook 1) dNoPart (dPart (dVar 2))) dNil)))))))
  b_law_spoilt_6)
def b_law_spoilt_4 : TSD :=
  (dSeq (dSetR 5 (dVal (dCall sp_law_draw (dCons (dVar 0) (dCons (dFn rdLen (dCons (dLook 4) dNil)) dNil)) noD)))
  b_law_spoilt_5)
def b_law_spoilt_3 : TSD :=
  (dSeq (dSetR 4 (dVal (dMt "str" rdSplit (dLook 1) (dCons (dC (.str [32])) dNil))))
  b_law_spoilt_4)
def b_law_spoilt_2 : TSD :=
  (dSeq (dSetR 3 (dVal (dOp rdIx (dC (.str [32, 48, 49, 50, 57, 45, 47, 97, 98, 122, 65, 10])) (dCall sp_law_draw (dCons (dVar 0) (dCons (dC (.int 12)) dNil)) noD))))
  b_law_spoilt_3)
/-- _law_spoilt(_law_deck_here, _law_word_here); slots 0:_law_deck_here 1:_law_word_here 2:_law_at 3:_law_sign 4:_law_parts 5:_law_k 6:_law_some -/
def b_law_spoilt : TSD :=
  (dSeq (dSetR 2 (dVal (dCall sp_law_draw (dCons (dVar 0) (dCons (dOp rdAdd (dFn rdLen (dCons (dLook 1) dNil)) (dC (.int 1))) dNil)) noD)))
  b_law_spoilt_2)
theorem joinL_mem' (sep : List Nat) (c : Nat) : ∀ {ps : List (List Nat)}, c ∈ joinL sep ps → c ∈ sep ∨ ∃ p ∈ ps, c ∈ p
  | [], h => by cases h
  | [x], h => .inr ⟨x, by simp, by simpa [joinL] using h⟩
  | x :: y :: r, h => by
    rw [joinL_cons, List.mem_append, List.mem_append] at h
    rcases h with (h | h) | h
    · exact .inr ⟨x, by simp, h⟩
    · exact .inl h
    · rcases joinL_mem' sep c h with h | ⟨p, hp, h⟩
      · exact .inl h
      · exact .inr ⟨p, List.mem_cons_of_mem _ hp, h⟩
theorem joinL_len1 (c : Nat) : ∀ {ps : List (List Nat)}, ps ≠ [] → (joinL [c] ps).length + 1 = (ps.map List.length).sum + ps.length
  | [], h => absurd rfl h
  | [x], _ => by simp [joinL]
  | x :: y :: r, _ => by
    have := joinL_len1 c (ps := y :: r) (by simp)
    rw [joinL_cons]
    simp only [List.length_append, List.map_cons, List.sum_cons, List.length_cons, List.length_nil] at this ⊢
    omega
def sumL (ps : List (List Nat)) : Nat := (ps.map List.length).sum
theorem sumL_app (a b : List (List Nat)) : sumL (a ++ b) = sumL a + sumL b := by simp [sumL]
theorem sumL_take (ps : List (List Nat)) (n : Nat) : sumL (ps.take n) ≤ sumL ps := by
  have := sumL_app (ps.take n) (ps.drop n)
  rw [List.take_append_drop] at this
  omega
theorem sumL_drop (ps : List (List Nat)) (n : Nat) : sumL (ps.drop n) ≤ sumL ps := by
  have := sumL_app (ps.take n) (ps.drop n)
  rw [List.take_append_drop] at this
  omega
/-- the parts of a text -/
theorem spl_tx {n : Nat} {x : List Nat} (h : Tx n x) : (∀ p ∈ spl 32 x, ∀ c ∈ p, c < 128) ∧ sumL (spl 32 x) + (spl 32 x).length ≤ n + 1 := by
  have e := spl_join 32 x
  have l := joinL_len1 32 (spl_pos 32 x)
  have hl := h.2
  rw [e] at l
  have l : x.length + 1 = sumL (spl 32 x) + (spl 32 x).length := l
  have p0 := List.length_pos_iff.mpr (spl_pos 32 x)
  refine ⟨fun p hp c hc => h.1 c ?_, by omega⟩
  rw [← e]
  have key : ∀ (ps : List (List Nat)), p ∈ ps → c ∈ joinL [32] ps := by
    intro ps
    induction ps with
    | nil => intro h; cases h
    | cons a r ih =>
      intro hp
      cases r with
      | nil => rw [List.mem_singleton.mp hp] at hc; simpa [joinL] using hc
      | cons b r =>
        rw [joinL_cons, List.mem_append, List.mem_append]
        rcases List.mem_cons.mp hp with rfl | hp
        · exact .inl (.inl hc)
        · exact .inr (ih hp)
  exact key _ hp
theorem join_tx {m : Nat} {ps : List (List Nat)} (h : ∀ p ∈ ps, ∀ c ∈ p, c < 128) (hl : sumL ps + ps.length ≤ m) : Tx m (joinL [32] ps) := by
  refine ⟨fun c hc => ?_, ?_⟩
  · rcases joinL_mem' _ c hc with h1 | ⟨p, hp, h1⟩
    · rw [List.mem_singleton.mp h1]; decide
    · exact h p hp c h1
  · cases ps with
    | nil => exact Nat.zero_le _
    | cons a r =>
      have := joinL_len1 32 (ps := a :: r) (by simp)
      have hl : ((a :: r).map List.length).sum + (a :: r).length ≤ m := hl
      omega
theorem spl_le {x : List Nat} : ∀ p ∈ spl 32 x, p.length ≤ x.length := fun p hp => by
  have l := joinL_len1 32 (spl_pos 32 x)
  rw [spl_join] at l
  have p0 := List.length_pos_iff.mpr (spl_pos 32 x)
  have : p.length ≤ ((spl 32 x).map List.length).sum := by
    generalize spl 32 x = ps at hp
    induction ps with
    | nil => cases hp
    | cons a r ih =>
      rw [List.map_cons, List.sum_cons]
      rcases List.mem_cons.mp hp with rfl | h
      · omega
      · have := ih h; omega
  omega
theorem up1 : ∀ c, c < 128 → ∀ d ∈ (Unicode.upperOf c), d < 128 := by decide +kernel
theorem up_mem {x : List Nat} {c : Nat} (h : c ∈ upL x) : ∃ d ∈ x, c ∈ Unicode.upperOf d := by
  unfold upL Txt.upper placed at h
  rw [Array.mem_toList_iff] at h
  simp at h
  obtain ⟨l, ⟨a, ⟨i, hi, rfl⟩, rfl⟩, hc⟩ := h
  exact ⟨x[i], List.getElem_mem _, by simpa using hc⟩
theorem repl_mem {x y z : List Nat} {c : Nat} (h : c ∈ replL x y z) : c ∈ x ∨ c ∈ z := by
  unfold replL Txt.replace at h
  split at h
  · exact .inl (by simpa using h)
  · rw [StrLaws.glued_eq_join] at h
    rcases (mem_join _ c _).mp h with ⟨p, hp, h2⟩ | ⟨_, h2⟩
    · left
      obtain ⟨⟨i, j⟩, _, rfl⟩ := List.mem_map.mp hp
      have h3 : c ∈ ((S x).cps.extract i j).toList := h2
      rw [Array.toList_extract, List.extract_eq_take_drop] at h3
      exact List.mem_of_mem_drop (List.mem_of_mem_take h3)
    · exact .inr (by simpa using h2)
theorem replL_len (x y z : List Nat) : (replL x y z).length ≤ x.length + (x.length + 1) * z.length := by
  have := TK.replace_len (S x) (S y) (S z)
  rw [S_len, S_len] at this
  unfold replL
  rw [Array.length_toList]
  exact this
theorem Tx.up {n : Nat} {x : List Nat} (h : Tx n x) : Tx (3 * n) (upL x) := by
  refine ⟨fun c hc => ?_, ?_⟩
  · obtain ⟨d, hd, h2⟩ := up_mem hc
    exact up1 d (h.1 d hd) c h2
  · have h1 : (Txt.upper (S x)).length ≤ 3 * (S x).length := len_upper (S x)
    rw [S_len x] at h1
    have e : (upL x).length = (Txt.upper (S x)).length := Array.length_toList
    have h2 := h.2
    rw [e]
    exact Nat.le_trans h1 (by omega)
theorem Tx.repl {n : Nat} {x : List Nat} (h : Tx n x) : Tx (3 * n + 2) (replL x [32] [32, 32]) := by
  refine ⟨fun c hc => ?_, ?_⟩
  · rcases repl_mem hc with h1 | h1
    · exact h.1 c h1
    · simp at h1; omega
  · have h1 := replL_len x [32] [32, 32]
    have h2 := h.2
    have e : [32, 32].length = 2 := rfl
    rw [e] at h1
    omega
theorem len_law_spoilt : ∀ ds μ Q E, sp_law_spoilt ds μ Q E → ds.length = 2 := by
  rintro ds μ Q E ⟨j, c, b, r, rfl, _, _, R, ⟨x, n, rfl, _⟩, _⟩; rfl
theorem ok_law_spoilt : ∀ ds μ Q E, sp_law_spoilt ds μ Q E → b_law_spoilt { nx := fun _ μ' => Q .non μ', rt := Q } (startD 7 ds) μ := by
  rintro ds μ Q E ⟨j, c, b, r, rfl, hD, hb, R, ⟨x, n, rfl, hx, hn, rfl⟩, q⟩
  have s0 : StD j c μ b μ := ⟨hD, .refl⟩
  have xl := hx.2
  unfold b_law_spoilt
  rw [dSeq]
  simp [-dSeq]
  refine ⟨by omega, ?_⟩
  refine draw1_ok (m := x.length + 1) s0 (by omega) (by omega) (by omega) fun t μ1 ht s1 => ?_
  unfold b_law_spoilt_2
  rw [dSeq]
  simp [-dSeq]
  refine draw1_ok (m := 12) s1 (by omega) (by omega) (by omega) fun g μ2 hg s2 => ?_
  obtain ⟨y, hy, hy2⟩ : ∃ y, atI [32, 48, 49, 50, 57, 45, 47, 97, 98, 122, 65, 10] (g : Int) = some y ∧ y < 128 := by
    rw [atI_nat]
    have : g < [32, 48, 49, 50, 57, 45, 47, 97, 98, 122, 65, 10].length := hg
    exact ⟨_, List.getElem?_eq_getElem this, by revert g; decide +kernel⟩
  have ty := Tx.one hy2
  simp [-dSeq, hy]
  unfold b_law_spoilt_3
  rw [dSeq]
  simp [-dSeq]
  obtain ⟨p1, p2⟩ := spl_tx hx
  have p4 := spl_pos 32 x
  generalize spl 32 x = ps at p1 p2 p4
  have p5 := List.length_pos_iff.mpr p4
  refine ⟨by omega, ?_⟩
  unfold b_law_spoilt_4
  rw [dSeq]
  simp [-dSeq]
  refine draw1_ok (m := ps.length) s2 (by omega) p5 (by omega) fun k μ3 hk s3 => ?_
  unfold b_law_spoilt_5
  rw [dSeq]
  simp [-dSeq]
  have tA := hx.cut none (some (t : Int))
  have tB := hx.cut (some (t : Int)) none
  have tC := hx.cut (some ((t : Int) + 1)) none
  have lA := tA.2
  have lB := tB.2
  have lC := tC.2
  refine ⟨by omega, by omega, by omega, by omega, by omega, by omega, by omega, by omega, by omega, by omega, by omega, ?_⟩
  have P1 : ∀ d ∈ [D.str (cut x none (some (t : Int)) ++ y :: cut x (some (t : Int)) none), D.str (cut x none (some (t : Int)) ++ y :: cut x (some ((t : Int) + 1)) none), D.str (cut x none (some (t : Int)) ++ cut x (some ((t : Int) + 1)) none), D.str (cut x none (some (t : Int)))], ∃ y, d = .str y ∧ Tx (3 * n + 10) y := by
    intro d hd
    simp only [List.mem_cons, List.not_mem_nil, or_false] at hd
    rcases hd with rfl | rfl | rfl | rfl
    · exact ⟨_, rfl, (tA.app (ty.app tB)).le (by omega)⟩
    · exact ⟨_, rfl, (tA.app (ty.app tC)).le (by omega)⟩
    · exact ⟨_, rfl, (tA.app tC).le (by omega)⟩
    · exact ⟨_, rfl, tA.le (by omega)⟩
  obtain ⟨L1, hL1⟩ : ∃ L1, L1 = [D.str (cut x none (some (t : Int)) ++ y :: cut x (some (t : Int)) none), D.str (cut x none (some (t : Int)) ++ y :: cut x (some ((t : Int) + 1)) none), D.str (cut x none (some (t : Int)) ++ cut x (some ((t : Int) + 1)) none), D.str (cut x none (some (t : Int)))] := ⟨_, rfl⟩
  have len1 : L1.length = 4 := by rw [hL1]; rfl
  rw [← hL1] at P1 ⊢
  clear hL1
  unfold b_law_spoilt_6
  rw [dSeq]
  simp [-dSeq]
  have ek : ((k : Int) + 1) = ((k + 1 : Nat) : Int) := by omega
  have q1 : ∀ a, sumL (ps.take a) ≤ sumL ps := sumL_take ps
  have q2 : ∀ a, sumL (ps.drop a) ≤ sumL ps := sumL_drop ps
  have r1 : ∀ a, (ps.take a).length ≤ ps.length := fun a => by rw [List.length_take]; omega
  have r2 : ∀ a, (ps.drop a).length ≤ ps.length := fun a => by rw [List.length_drop]; omega
  have ch : ∀ (l : List (List Nat)), (∀ p ∈ l, p ∈ ps ∨ p = [47] ∨ p = [97, 49]) → ∀ p ∈ l, ∀ c ∈ p, c < 128 := fun l h p hp c hc => by
    rcases h p hp with h | rfl | rfl
    · exact p1 p h c hc
    · rw [List.mem_singleton.mp hc]; decide
    · simp at hc; omega
  have lens : ∀ a b : List (List Nat), ((a ++ b).map List.length).sum = sumL a + sumL b := sumL_app
  have jn : ∀ (a b m : Nat) (l : List (List Nat)), (∀ p ∈ l, p = [47] ∨ p = [97, 49]) → sumL l + l.length ≤ 4 → Tx (3 * n + 10) (joinL [32] (ps.take a ++ (l ++ ps.drop b))) := fun a b m l hl hl2 => by
    refine join_tx (ch _ fun p hp => ?_) ?_
    · rcases List.mem_append.mp hp with h | h
      · exact .inl (List.mem_of_mem_take h)
      · rcases List.mem_append.mp h with h | h
        · exact .inr (hl p h)
        · exact .inl (List.mem_of_mem_drop h)
    · rw [sumL_app, sumL_app, List.length_append, List.length_append]
      have := q1 a; have := q2 b; have := r1 a; have := r2 b
      omega
  rw [ek]
  simp only [cut_map, cut_take, cut_drop, ← List.map_take, ← List.map_drop, ← List.map_append, List.length_map]
  refine ⟨by have := r1 k; have := r2 (k + 1); omega, ps.take k ++ ps.drop (k + 1), rfl, ?_, by have := r1 (k + 1); have := r2 k; omega, ps.take (k + 1) ++ ps.drop k, rfl, ?_, by omega, by omega, by omega, ?_⟩
  · rw [lens, List.length_append]
    have := q1 k; have := q2 (k + 1); have := r1 k; have := r2 (k + 1)
    omega
  · rw [lens, List.length_append]
    have := q1 (k + 1); have := q2 k; have := r1 (k + 1); have := r2 k
    omega
  have P2 : ∀ d ∈ L1 ++ [D.str (joinL [32] (ps.take k ++ ps.drop (k + 1))), D.str (joinL [32] (ps.take (k + 1) ++ ps.drop k)), D.str (x ++ [10]), D.str (32 :: x)], ∃ y, d = .str y ∧ Tx (3 * n + 10) y := by
    intro d hd
    rcases List.mem_append.mp hd with h | h
    · exact P1 d h
    simp only [List.mem_cons, List.not_mem_nil, or_false] at h
    rcases h with rfl | rfl | rfl | rfl
    · exact ⟨_, rfl, jn k (k + 1) 0 [] nofun (by decide)⟩
    · exact ⟨_, rfl, jn (k + 1) k 0 [] nofun (by decide)⟩
    · exact ⟨_, rfl, (hx.app (Tx.one (by decide))).le (by omega)⟩
    · exact ⟨_, rfl, ((Tx.one (c := 32) (by decide)).app hx).le (by omega)⟩
  have len2 : (L1 ++ [D.str (joinL [32] (ps.take k ++ ps.drop (k + 1))), D.str (joinL [32] (ps.take (k + 1) ++ ps.drop k)), D.str (x ++ [10]), D.str (32 :: x)]).length = 8 := by simp [len1]
  generalize L1 ++ [D.str (joinL [32] (ps.take k ++ ps.drop (k + 1))), D.str (joinL [32] (ps.take (k + 1) ++ ps.drop k)), D.str (x ++ [10]), D.str (32 :: x)] = L2 at P2 len2 ⊢
  unfold b_law_spoilt_7
  rw [dSeq]
  simp [-dSeq]
  simp only [cut_map, cut_take, cut_drop, ← List.map_take, ← List.map_drop, ← List.map_append, List.length_map]
  have a47 : ∀ (l : List Nat), (∀ p ∈ [l], p = [47] ∨ p = [97, 49]) → ∀ a b, sumL [l] + 1 ≤ 4 → Tx (3 * n + 10) (joinL [32] (ps.take a ++ (l :: ps.drop b))) := fun l hl a b h4 => jn a b 0 [l] hl h4
  have s47 : ∀ (l : List Nat) (a b : Nat), l.length ≤ 2 → ((ps.take a ++ l :: ps.drop b).map List.length).sum + (ps.take a ++ l :: ps.drop b).length ≤ 16777216 := fun l a b hl => by
    rw [lens, List.length_append, List.length_cons]
    have := q1 a; have := q2 b; have := r1 a; have := r2 b
    have e : sumL (l :: ps.drop b) = l.length + sumL (ps.drop b) := by simp [sumL]
    omega
  refine ⟨by omega, by have := r1 k; omega, by have := r1 k; have := r2 k; omega, ps.take k ++ [47] :: ps.drop k, by simp, s47 _ _ _ (by decide), by omega, by omega, by omega, ?_⟩
  have P3 : ∀ d ∈ L2 ++ [D.str (x ++ [32]), D.str (joinL [32] (ps.take k ++ [47] :: ps.drop k)), D.str (replL x [32] [32, 32]), D.str (upL x)], ∃ y, d = .str y ∧ Tx (3 * n + 10) y := by
    intro d hd
    rcases List.mem_append.mp hd with h | h
    · exact P2 d h
    simp only [List.mem_cons, List.not_mem_nil, or_false] at h
    rcases h with rfl | rfl | rfl | rfl
    · exact ⟨_, rfl, (hx.app (Tx.one (by decide))).le (by omega)⟩
    · exact ⟨_, rfl, a47 _ (fun p hp => .inl (List.mem_singleton.mp hp)) _ _ (by decide)⟩
    · exact ⟨_, rfl, hx.repl.le (by omega)⟩
    · exact ⟨_, rfl, hx.up.le (by omega)⟩
  have len3 : (L2 ++ [D.str (x ++ [32]), D.str (joinL [32] (ps.take k ++ [47] :: ps.drop k)), D.str (replL x [32] [32, 32]), D.str (upL x)]).length = 12 := by simp [len2]
  generalize L2 ++ [D.str (x ++ [32]), D.str (joinL [32] (ps.take k ++ [47] :: ps.drop k)), D.str (replL x [32] [32, 32]), D.str (upL x)] = L3 at P3 len3 ⊢
  unfold b_law_spoilt_8
  rw [dSeq]
  simp [-dSeq]
  simp only [cut_map, cut_take, cut_drop, ← List.map_take, ← List.map_drop, ← List.map_append, List.length_map]
  rw [ek]
  simp only [cut_map, cut_take, cut_drop, ← List.map_take, ← List.map_drop, ← List.map_append, List.length_map]
  refine ⟨by have := r1 k; omega, by have := r1 k; have := r2 (k + 1); omega, ps.take k ++ [97, 49] :: ps.drop (k + 1), by simp, s47 _ _ _ (by decide), by omega, ?_⟩
  have P4 : ∀ d ∈ L3 ++ [D.str (joinL [32] (ps.take k ++ [97, 49] :: ps.drop (k + 1)))], ∃ y, d = .str y ∧ Tx (3 * n + 10) y := by
    intro d hd
    rcases List.mem_append.mp hd with h | h
    · exact P3 d h
    rw [List.mem_singleton.mp h]
    exact ⟨_, rfl, a47 _ (fun p hp => .inr (List.mem_singleton.mp hp)) _ _ (by decide)⟩
  have len4 : (L3 ++ [D.str (joinL [32] (ps.take k ++ [97, 49] :: ps.drop (k + 1)))]).length = 13 := by simp [len3]
  generalize L3 ++ [D.str (joinL [32] (ps.take k ++ [97, 49] :: ps.drop (k + 1)))] = L4 at P4 len4 ⊢
  unfold b_law_spoilt_9
  simp
  refine draw1_ok (m := 13) s3 (by omega) (by omega) (by omega) fun u μ4 hu s4 => ?_
  obtain ⟨d, h1, h2⟩ := atI_of (xs := L4) (i := (u : Int)) (by omega) (by omega)
  exact ⟨d, h1, q d μ4 (P4 d h2) s4.1 s4.2⟩
end DL

namespace DL
open PySem PySem.Spec PyProof.Rows L2
def sp_law : DSp := fun ds μ Q _ => ∃ ns : List Int, ds = [.scr ns] ∧ ns.length ≤ 63 ∧ ∀ μ', Q (.bl true) μ'
def wrongD : D := .str [119, 114, 111, 110, 103]
/-- the item that a part writes behind a history -/
def itmP (n : Nat) (h : List HI) (p : List Nat) : Option HI :=
  if p = [47] then (if tears h + 1 < n then some none else none) else match strIn p with
  | none => none
  | some (c, f) => if n < tears h + f then none else if short n (h ++ [some (c, f)]) = true then some (some (c, f)) else none
/-- the index of the first wrong part, or the history -/
def goH (n : Nat) : List HI → List (List Nat) → Nat ⊕ List HI
  | h, [] => .inr h
  | h, p :: r => match itmP n h p with
    | none => .inl h.length
    | some x => goH n (h ++ [x]) r
def prtH (x : List Nat) : List (List Nat) := if x = [101, 109, 112, 116, 121] then [] else spl 32 x
def endH (n : Nat) : Nat ⊕ List HI → Nat ⊕ List HI
  | .inl i => .inl i
  | .inr h => if tears h + 1 = n then .inr h else .inl h.length
def resH (n : Nat) (x : List Nat) : Nat ⊕ List HI := endH n (goH n [] (prtH x))
def dueH (n : Nat) (x : List Nat) : D := match resH n x with
  | .inl i => .lst [.int (i : Nat)]
  | .inr h => histD h
def dueV (n : Nat) : D → D
  | .str x => dueH n x
  | _ => .lst [.non]
structure VH (v : D) : Prop where
  i : isiOk v = true
  l : ∀ x, v = .str x → x.length ≤ 980
def itW (p : List Nat) (l : Nat) : D := if p = [47] then (if 1 < l then .non else wrongD) else match strIn p with
  | none => wrongD
  | some (c, f) => if f ≤ l then itemD (some (c, f)) else wrongD
def sp_parse_historyX : DSp := fun ds μ Q E => ∃ (n : Nat) (v : D), ds = [.int n, v] ∧ 1 ≤ n ∧ n ≤ 8 ∧ VH v ∧ (∀ x h, v = .str x → resH n x = .inr h → Q (histD h) μ) ∧ (∀ x i, v = .str x → resH n x = .inl i → E "BadText" [("index", .int (i : Nat))] μ) ∧ ((∀ x, v ≠ .str x) → E "BadText" [("index", .non)] μ)
def sp_lawT_number_in : DSp := fun ds μ Q _ => ∃ w : List Nat, ds = [.str w, .int 1] ∧ w.length ≤ 1000 ∧ Q (natD (numIn w 1)) μ
def sp_lawT_written : DSp := fun ds μ Q _ => ∃ (n e : Nat) (h : List HI), ds = [.int n, histD h] ∧ 1 ≤ n ∧ n ≤ 100 ∧ okB n h e ∧ h.length ≤ 1000 ∧ Q (wsD (outs n h)) μ
def sp_lawT_item : DSp := fun ds μ Q _ => ∃ (p : List Nat) (l : Nat), ds = [.str p, .int l] ∧ p.length ≤ 1000 ∧ Q (itW p l) μ
def sp_lawT_due : DSp := fun ds μ Q _ => ∃ (n : Nat) (v : D), ds = [.int n, v] ∧ 1 ≤ n ∧ n ≤ 8 ∧ VH v ∧ Q (dueV n v) μ
def sp_law_read : DSp := fun ds μ Q _ => ∃ (n : Nat) (v : D), ds = [.int n, v] ∧ 1 ≤ n ∧ n ≤ 8 ∧ VH v ∧ Q (dueV n v) μ
def tab_law : XTab := ⟨[("BadText", "BadForce", false), ("BadText", "BadNumber", false), ("BadText", "BadText", true), ("BadText", "PadError", true)], []⟩
def b_parse_historyX_3l_5 (E : DXK) : TSD :=
  (dSetR 2 (dVal (dTup (dStar (dLook 2) (dCons (dVar 8) dNil)))))
def b_parse_historyX_3l_4 (E : DXK) : TSD :=
  (dSeq (dSetR 3 (dVal (dIf (dB (dOp rdIs (dLook 8) (dC .non))) (dVar 3) (dCall sp_with_stroke (dCons (dVar 3) (dCons (dVar 4) (dCons (dVar 8) dNil))) noD))))
  (b_parse_historyX_3l_5 E))
def b_parse_historyX_3l_3 (E : DXK) : TSD :=
  (dSeq (dSetR 4 (dVal (dOp rdAdd (dLook 4) (dFn rdInt (dCons (dOp rdIs (dLook 8) (dC .non)) dNil)))))
  (b_parse_historyX_3l_4 E))
def b_parse_historyX_3l_2 (E : DXK) : TSD :=
  (dSeq (dIfS (dNot (dB (dVar 7)))
  (dRaise (dMkF "BadText" "index" (dCons (dVar 5) dNil)) (fun _ => E))
  dNext)
  (b_parse_historyX_3l_3 E))
def b_parse_historyX_3l (E : DXK) : TSD :=
  (dSeq (dAsg (dCall sp_item_in (dCons (dVar 6) (dCons (dVar 3) (dCons (dVar 4) dNil))) noD) (dUnp 2 (gdCons (dName 7) (gdCons (dName 8) gdNil))))
  (b_parse_historyX_3l_2 E))
def b_parse_historyX_5 (E : DXK) : TSD :=
  (dRet (dLook 2))
def b_parse_historyX_4 (E : DXK) : TSD :=
  (dSeq (dIfS (dB (dOp rdLt (dLook 4) (dOp rdSub (dLook 0) (dC (.int 1)))))
  (dRaise (dMkF "BadText" "index" (dCons (dFn rdLen (dCons (dLook 2) dNil)) dNil)) (fun _ => E))
  dNext)
  (b_parse_historyX_5 E))
def b_parse_historyX_3 (E : DXK) : TSD :=
  (dSeq (dFor (dEnum (dCons (dIf (dB (dOp rdEq (dLook 1) (dC (.str [101, 109, 112, 116, 121])))) (dLst dNil) (dMt "str" rdSplit (dLook 1) (dCons (dC (.str [32])) dNil))) dNil)) (dUnp 2 (gdCons (dName 5) (gdCons (dName 6) gdNil)))
  (b_parse_historyX_3l E))
  (b_parse_historyX_4 E))
def b_parse_historyX_2 (E : DXK) : TSD :=
  (dSeq (dPar3 2 3 4 (dCons (dTup dNil) (dCons (dOp rdMul (dTup (dCons (dC (.str [])) dNil)) (dLook 0)) (dCons (dC (.int 0)) dNil))))
  (b_parse_historyX_3 E))
/-- parse_history(n, value); slots 0:n 1:value 2:found 3:words 4:top 5:index 6:word 7:fits 8:item -/
def b_parse_historyX (E : DXK) : TSD :=
  (dSeq (dIfS (dNot (dB (dFn rdIsi (dCons (dLook 1) (dCons (dC (.ty "str")) dNil)))))
  (dRaise (dMkF "BadText" "index" (dCons (dC .non) dNil)) (fun _ => E))
  dNext)
  (b_parse_historyX_2 E))
def b_lawT_number_in_3 : TSD :=
  (dRet (dIf (dAnd (dB (dOp rdEq (dOp rdIx (dLook 0) (dC (.int 0))) (dC (.str [48])))) (dB (dOp rdNe (dLook 0) (dC (.str [48]))))) (dC .non) (dFn rdIntS (dCons (dLook 0) dNil))))
def b_lawT_number_in_2 : TSD :=
  (dSeq (dIfS (dOr (dB (dOp rdEq (dLook 0) (dC (.str [])))) (dOr (dB (dOp rdGt (dFn rdLen (dCons (dLook 0) dNil)) (dLook 1))) (dB (dOp rdNeNil (dLook 2) (dLst dNil)))))
  (dRet (dC .non))
  dNext)
  b_lawT_number_in_3)
/-- _law_number_in(_law_word, _law_most); slots 0:_law_word 1:_law_most 2:_law_strange 3:_law_sign -/
def b_lawT_number_in : TSD :=
  (dSeq (dSetR 2 (dVal (dF (dLc [3] (dEach (dVar 0)) (dName 3) (dB (dOp rdNotIn (dLook 3) (dC (.str [48, 49, 50, 51, 52, 53, 54, 55, 56, 57])))) (dVar 3)))))
  b_lawT_number_in_2)
def b_lawT_written_2l_1e_1l : TSD :=
  (dPut 2 (dOp rdAdd (dOp rdIx (dLook 2) (dLook 5)) (dOp rdIx (dLook 4) (dC (.int 0)))) (dLook 5))
def b_lawT_written_2l : TSD :=
  (dIfS (dB (dOp rdIs (dLook 4) (dC .non)))
  (dSetR 3 (dVal (dOp rdAdd (dLook 3) (dC (.int 1)))))
  (dFor (dRng2 (dCons (dVar 3) (dCons (dOp rdAdd (dLook 3) (dOp rdIx (dLook 4) (dC (.int 1)))) dNil))) (dName 5)
  b_lawT_written_2l_1e_1l))
def b_lawT_written_3 : TSD :=
  (dRet (dFn rdTuple (dCons (dLook 2) dNil)))
def b_lawT_written_2 : TSD :=
  (dSeq (dFor (dEach (dVar 1)) (dName 4)
  b_lawT_written_2l)
  b_lawT_written_3)
/-- _law_written(_law_n, _law_history_here); slots 0:_law_n 1:_law_history_here 2:_law_words 3:_law_top 4:_law_item_here 5:_law_at -/
def b_lawT_written : TSD :=
  (dSeq (dPar2 2 3 (dOwn (dMulF (dLst (dCons (dC (.str [])) dNil)) (dLook 0))) (dVal (dC (.int 0))))
  b_lawT_written_2)
def b_lawT_item_4 : TSD :=
  (dRet (dTup (dCons (dOp rdIx (dLook 0) (dC (.int 0))) (dCons (dVar 2) dNil))))
def b_lawT_item_3 : TSD :=
  (dSeq (dIfS (dOr (dNot (dB (dCall sp_law_is_letter (dCons (dSl (dLook 0) dNoPart (dPart (dC (.int 1)))) dNil) noD))) (dOr (dB (dOp rdIs (dLook 2) (dC .non))) (dNot (dB (dChain rdLe rdLe (dC (.int 1)) (dLook 2) (dLook 1))))))
  (dRet (dC (.str [119, 114, 111, 110, 103])))
  dNext)
  b_lawT_item_4)
def b_lawT_item_2 : TSD :=
  (dSeq (dSetR 2 (dVal (dCall sp_lawT_number_in (dCons (dSl (dLook 0) (dPart (dC (.int 1))) dNoPart) (dCons (dC (.int 1)) dNil)) noD)))
  b_lawT_item_3)
/-- _law_item(_law_word, _law_left); slots 0:_law_word 1:_law_left 2:_law_force -/
def b_lawT_item : TSD :=
  (dSeq (dIfS (dB (dOp rdEq (dLook 0) (dC (.str [47]))))
  (dRet (dIf (dB (dOp rdGt (dLook 1) (dC (.int 1)))) (dC .non) (dC (.str [119, 114, 111, 110, 103]))))
  dNext)
  b_lawT_item_2)
def b_lawT_due_3l_4 : TSD :=
  (dIfS (dB (dOp rdGt (dFn rdMax (dCons (dF (dLc [7] (dEach (dCall sp_lawT_written (dCons (dVar 0) (dCons (dVar 2) dNil)) noD)) (dName 7) dYes (dFn rdLen (dCons (dLook 7) dNil)))) dNil)) (dC (.int 30))))
  (dRet (dLst (dCons (dVar 4) dNil)))
  dNext)
def b_lawT_due_3l_3 : TSD :=
  (dSeq (dPar2 2 3 (dVal (dOp rdAdd (dLook 2) (dTup (dCons (dVar 6) dNil)))) (dVal (dOp rdSub (dLook 3) (dFn rdInt (dCons (dOp rdIs (dLook 6) (dC .non)) dNil)))))
  b_lawT_due_3l_4)
def b_lawT_due_3l_2 : TSD :=
  (dSeq (dIfS (dB (dOp rdEq (dLook 6) (dC (.str [119, 114, 111, 110, 103]))))
  (dRet (dLst (dCons (dVar 4) dNil)))
  dNext)
  b_lawT_due_3l_3)
def b_lawT_due_3l : TSD :=
  (dSeq (dSetR 6 (dVal (dCall sp_lawT_item (dCons (dVar 5) (dCons (dVar 3) dNil)) noD)))
  b_lawT_due_3l_2)
def b_lawT_due_4 : TSD :=
  (dRet (dIf (dB (dOp rdEq (dLook 3) (dC (.int 1)))) (dVar 2) (dLst (dCons (dFn rdLen (dCons (dLook 2) dNil)) dNil))))
def b_lawT_due_3 : TSD :=
  (dSeq (dFor (dEnum (dCons (dIf (dB (dOp rdNe (dLook 1) (dC (.str [101, 109, 112, 116, 121])))) (dMt "str" rdSplit (dLook 1) (dCons (dC (.str [32])) dNil)) (dLst dNil)) dNil)) (dUnp 2 (gdCons (dName 4) (gdCons (dName 5) gdNil)))
  b_lawT_due_3l)
  b_lawT_due_4)
def b_lawT_due_2 : TSD :=
  (dSeq (dPar2 2 3 (dVal (dTup dNil)) (dVal (dVar 0)))
  b_lawT_due_3)
/-- _law_due(_law_n, _law_value); slots 0:_law_n 1:_law_value 2:_law_found 3:_law_left 4:_law_index 5:_law_word 6:_law_item_here 7:_law_one -/
def b_lawT_due : TSD :=
  (dSeq (dIfS (dNot (dB (dFn rdIsi (dCons (dLook 1) (dCons (dC (.ty "str")) dNil)))))
  (dRet (dLst (dCons (dC .non) dNil)))
  dNext)
  b_lawT_due_2)
def b_law_read_3 : TSD :=
  (dRet (dLook 2))
def b_law_read_2 : TSD :=
  (dSeq (dTryE (fun c => tab_law.get c "PadError") 3 (fun W => (dSetR 2 (dVal (dCallX sp_parse_historyX (dCons (dVar 0) (dCons (dVar 1) dNil)) W)))) (dSetR 2 (dVal (dIf (dAnd (dB (dFn (rdIsE tab_law) (dCons (dLook 3) (dCons (dC (.gl "BadText")) dNil)))) (dNot (dB (dFn (rdIsE tab_law) (dCons (dLook 3) (dCons (dTup (dCons (dC (.gl "BadForce")) (dCons (dC (.gl "BadNumber")) dNil))) dNil)))))) (dLst (dCons (dFldE ["BadText"] "index" (dVar 3)) dNil)) (dC (.str [111, 116, 104, 101, 114]))))) (fun _ _ _ _ => False))
  b_law_read_3)
/-- _law_read(_law_n, _law_value); slots 0:_law_n 1:_law_value 2:_law_found 3:e -/
def b_law_read : TSD :=
  (dSeq (dSetR 2 (dVal (dC .non)))
  b_law_read_2)
def b_law_6l_1l : TSD :=
  (dIfS (dNot (dB (dCall sp_lawA_same (dCons (dCall sp_law_read (dCons (dVar 4) (dCons (dVar 3) dNil)) noD) (dCons (dCall sp_lawT_due (dCons (dVar 4) (dCons (dVar 3) dNil)) noD) dNil)) noD)))
  (dRet (dC (.bl false)))
  dNext)
def b_law_6l : TSD :=
  (dFor (dEach (dTup (dCons (dC (.int 1)) (dCons (dC (.int 2)) (dCons (dC (.int 3)) dNil))))) (dName 4)
  b_law_6l_1l)
def b_law_7l_3l_3l : TSD :=
  (dIfS (dNot (dB (dCall sp_lawA_same (dCons (dCall sp_law_read (dCons (dVar 8) (dCons (dVar 3) dNil)) noD) (dCons (dCall sp_lawT_due (dCons (dVar 8) (dCons (dVar 3) dNil)) noD) dNil)) noD)))
  (dRet (dC (.bl false)))
  dNext)
def b_law_7l_3l_3 : TSD :=
  (dFor (dEach (dLst (dCons (dVar 4) (dCons (dOp rdAdd (dC (.int 1)) (dCall sp_law_draw (dCons (dVar 1) (dCons (dC (.int 8)) dNil)) noD)) dNil)))) (dName 8)
  b_law_7l_3l_3l)
def b_law_7l_3l_2 : TSD :=
  (dSeq (dIfS (dB (dOp rdEq (dCall sp_law_draw (dCons (dVar 1) (dCons (dC (.int 2)) dNil)) noD) (dC (.int 0))))
  (dSetR 3 (dVal (dCall sp_law_spoilt (dCons (dVar 1) (dCons (dVar 3) dNil)) noD)))
  dNext)
  b_law_7l_3l_3)
def b_law_7l_3l : TSD :=
  (dSeq (dSetR 3 (dVal (dCall sp_law_spoilt (dCons (dVar 1) (dCons (dVar 6) dNil)) noD)))
  b_law_7l_3l_2)
def b_law_7l_3 : TSD :=
  (dFor (dRng1 (dCons (dC (.int 10)) dNil)) (dName 7)
  b_law_7l_3l)
def b_law_7l_2 : TSD :=
  (dSeq (dSetR 6 (dVal (dCall sp_law_history_text (dCons (dCall sp_law_history (dCons (dVar 1) (dCons (dVar 4) (dCons (dOp rdIx (dLst (dCons (dC (.int 28)) (dCons (dC (.int 6)) dNil))) (dOp rdMod (dLook 5) (dC (.int 2)))) dNil))) noD) dNil) noD)))
  b_law_7l_3)
def b_law_7l : TSD :=
  (dSeq (dSetR 4 (dVal (dOp rdAdd (dC (.int 1)) (dCall sp_law_draw (dCons (dVar 1) (dCons (dOp rdIx (dLst (dCons (dC (.int 8)) (dCons (dC (.int 3)) dNil))) (dOp rdMod (dLook 5) (dC (.int 2)))) dNil)) noD))))
  b_law_7l_2)
def b_law_8 : TSD :=
  (dRet (dC (.bl true)))
def b_law_7 : TSD :=
  (dSeq (dFor (dRng1 (dCons (dC (.int 4)) dNil)) (dName 5)
  b_law_7l)
  b_law_8)
def b_law_6 : TSD :=
  (dSeq (dFor (dEach (dOp rdAdd (dLook 2) (dLst (dCons (dC .non) (dCons (dC (.int 0)) (dCons (dC (.bl true)) (dCons (dTup dNil) (dCons (dLst dNil) (dCons (dC (.dct [])) (dCons (dTup (dCons (dC (.str [97])) (dCons (dC (.int 1)) dNil))) (dCons (dCall sp_lawA_odd (dCons (dVar 1) dNil) noD) dNil))))))))))) (dName 3)
  b_law_6l)
  b_law_7)
def b_law_5 : TSD :=
  (dSeq (dApp 2 (dMt "str" rdJoin (dC (.str [32])) (dCons (dOp rdAdd (dOp rdMul (dLst (dCons (dC (.str [97, 50])) dNil)) (dC (.int 30))) (dLst (dCons (dC (.str [47])) (dCons (dC (.str [97, 49])) dNil)))) dNil)))
  b_law_6)
def b_law_4 : TSD :=
  (dSeq (dSetR 2 (dOwn (dAddF (dLook 2) (dF (dLc [9, 10] (dEach (dLst (dCons (dTup (dCons (dC (.int 31)) (dCons (dC (.int 0)) dNil))) (dCons (dTup (dCons (dC (.int 30)) (dCons (dC (.int 0)) dNil))) (dCons (dTup (dCons (dC (.int 30)) (dCons (dC (.int 1)) dNil))) dNil))))) (dUnp 2 (gdCons (dName 9) (gdCons (dName 10) gdNil))) dYes (dMt "str" rdJoin (dC (.str [32])) (dCons (dOp rdAdd (dOp rdMul (dLst (dCons (dC (.str [97, 50])) dNil)) (dLook 9)) (dOp rdMul (dLst (dCons (dC (.str [47])) dNil)) (dLook 10))) dNil)))))))
  b_law_5)
def b_law_3 : TSD :=
  (dSeq (dSetR 2 (dOwn (dAddF (dLook 2) (dLst (dCons (dC (.str [97, 49, 32, 47, 32, 47])) (dCons (dC (.str [65, 49])) (dCons (dC (.str [97])) (dCons (dC (.str [49])) (dCons (dC (.str [97, 32, 49])) (dCons (dC (.str [97, 49, 47])) (dCons (dC (.str [97, 49, 32, 32, 47])) (dCons (dC (.str [97, 49, 10])) (dCons (dC (.str [97, 98, 49])) (dCons (dC (.str [97, 45, 49])) (dCons (dC (.str [97, 43, 49])) (dCons (dC (.str [97, 49, 49])) (dCons (dC (.str [45])) dNil)))))))))))))))))
  b_law_4)
def b_law_2 : TSD :=
  (dSeq (dSetR 2 (dOwn (dLstF (dCons (dC (.str [])) (dCons (dC (.str [32])) (dCons (dC (.str [101, 109, 112, 116, 121])) (dCons (dC (.str [101, 109, 112, 116, 121, 32])) (dCons (dC (.str [97, 49])) (dCons (dC (.str [97, 49, 32])) (dCons (dC (.str [97, 50, 32, 47])) (dCons (dC (.str [47])) (dCons (dC (.str [47, 32, 47])) (dCons (dC (.str [97, 48])) (dCons (dC (.str [97, 51, 32, 47, 32, 98, 50, 32, 47])) (dCons (dC (.str [97, 57])) (dCons (dC (.str [97, 56])) (dCons (dC (.str [97, 48, 49])) dNil)))))))))))))))))
  b_law_3)
/-- law(_law_script); slots 0:_law_script 1:_law_deck_here 2:_law_fixed 3:_law_value 4:_law_n 5:_law_turn 6:_law_word 7:_law_k 8:_law_number 9:_law_many 10:_law_tears -/
def b_law : TSD :=
  (dSeq (dSetR 1 (dVal (dCall sp_law_deck (dCons (dVar 0) dNil) noD)))
  b_law_2)
theorem len_law : ∀ ds μ Q E, sp_law ds μ Q E → ds.length = 1 := by
  rintro ds μ Q E ⟨ns, rfl, _⟩; rfl
theorem len_lawT_written : ∀ ds μ Q E, sp_lawT_written ds μ Q E → ds.length = 2 := by
  rintro ds μ Q E ⟨n, e, h, rfl, _⟩; rfl
theorem ok_lawT_written : ∀ ds μ Q E, sp_lawT_written ds μ Q E → b_lawT_written { nx := fun _ μ' => Q .non μ', rt := Q } (startD 6 ds) μ := by
  rintro ds μ Q E ⟨n, e, h, rfl, n1, n100, hB, hl, q⟩
  unfold b_lawT_written
  rw [dSeq]
  simp [-dSeq]
  refine ⟨by omega, by omega, ?_⟩
  rw [show repl n [D.str []] = (outs n []).map D.str by unfold outs repl; rw [List.map_map]; apply List.ext_getElem?; intro i; simp [List.getElem?_replicate]; by_cases hi : i < n <;> simp [hi, lt]]
  unfold b_lawT_written_2
  rw [dSeq]
  simp [-dSeq]
  refine forD_list itemD (fun post ρ μ' => ∃ pre x4 x5, h = pre ++ post ∧ μ' = μ ∧ okB (n - tears pre) post e ∧ tears pre < n ∧ ρ = [some (.val (.int n)), some (.val (histD h)), some (.own ((outs n pre).map D.str)), some (.val (.int (tears pre : Nat))), x4, x5]) (fun _ _ _ _ => trivial) ?_ ?_ h _ μ ⟨[], none, none, rfl, rfl, hB, n1, rfl⟩
  · rintro a post ρ μ' k ⟨pre, x4, x5, hh, rfl, hb, ht, rfl⟩ hk
    cases a with
    | none =>
      have h2 := hb.1
      unfold b_lawT_written_2l
      simp [itemD]
      refine hk _ _ ⟨pre ++ [none], some (.val .non), x5, by rw [hh]; simp, rfl, ?_, by rw [tears_n1]; omega, ?_⟩
      · rw [tears_n1]
        have := hb.2
        rwa [show n - tears pre - 1 = n - (tears pre + 1) by omega] at this
      · rw [tears_n1, outs_none]
        rfl
    | some p =>
      obtain ⟨c, f⟩ := p
      unfold b_lawT_written_2l b_lawT_written_2l_1e_1l
      simp [itemD, -dSeq]
      obtain ⟨hlo, f1, f2, hb2⟩ := hb
      have hpl : pre.length ≤ 1000 := by have := congrArg List.length hh; simp at this; omega
      refine ⟨by unfold rngOk; omega, by unfold rngOk; omega, ?_⟩
      rw [show ((tears pre : Int) + (f : Int)).toNat - tears pre = f by omega, show rngD (tears pre : Int) f = (List.range f).map fun i : Nat => D.int ((tears pre + i : Nat) : Int) by unfold rngD; exact List.map_congr_left fun i _ => by congr 1]
      refine forD_list (fun i : Nat => D.int ((tears pre + i : Nat) : Int)) (fun rest ρ μ1 => ∃ i x5, i ≤ f ∧ rest = (List.range f).drop i ∧ μ1 = μ' ∧ ρ = [some (.val (.int n)), some (.val (histD h)), some (.own ((prt n pre c i).map D.str)), some (.val (.int (tears pre : Nat))), some (.val (.tup [.str [c], .int f])), x5]) (fun _ _ _ _ => trivial) ?_ ?_ _ _ _ ⟨0, x5, Nat.zero_le _, rfl, rfl, ?_⟩
      · rintro z rest ρ μ1 nn ⟨i, x7, hi, hr, rfl, rfl⟩ hnn
        have hif : i < f := by
          rcases Nat.lt_or_ge i f with g | g
          · exact g
          · rw [List.drop_of_length_le (by simpa using g)] at hr; cases hr
        rw [List.drop_eq_getElem_cons (by simpa using hif)] at hr
        simp at hr
        obtain ⟨rfl, hr⟩ := hr
        have hlt : tears pre + z < n := by omega
        have hp0 : (prt n pre c z)[tears pre + z]? = some (lt pre 0 (tears pre + z)) := by
          unfold prt
          rw [List.getElem?_map, List.getElem?_range hlt]
          show some (_ ++ if _ then _ else _) = _
          rw [if_neg (by omega), List.append_nil]
        have g1 : atI ((prt n pre c z).map D.str) ((tears pre : Int) + (z : Int)) = some (.str (lt pre 0 (tears pre + z))) := by
          rw [show (tears pre : Int) + (z : Int) = ((tears pre + z : Nat) : Int) by omega, atI_nat, List.getElem?_map, hp0]; rfl
        have hll := lt_le pre 0 (tears pre + z)
        have hpn : (prt n pre c z).length = n := by unfold prt; simp
        simp [g1]
        have gx : ixN (prt n pre c z).length ((tears pre : Int) + (z : Int)) = some (tears pre + z) := by
          rw [hpn, show (tears pre : Int) + (z : Int) = ((tears pre + z : Nat) : Int) by omega, ixN_nat hlt]
        refine ⟨by omega, _, gx, hnn _ _ ⟨z + 1, some (.val (.int ((tears pre : Int) + (z : Int)))), by omega, hr, rfl, ?_⟩⟩
        have eW : ((prt n pre c z).map D.str).set (tears pre + z) (D.str (lt pre 0 (tears pre + z) ++ [c])) = (prt n pre c (z + 1)).map D.str := by
          rw [← List.map_set]
          congr 1
          apply List.ext_getElem?
          intro k
          rw [List.getElem?_set]
          by_cases hk2 : tears pre + z = k
          · subst hk2
            rw [if_pos rfl, if_pos (by omega)]
            unfold prt
            rw [List.getElem?_map, List.getElem?_range hlt]
            show _ = some (_ ++ if _ then _ else _)
            rw [if_pos (by omega)]
          · rw [if_neg hk2]
            unfold prt
            rw [List.getElem?_map, List.getElem?_map]
            by_cases hkn : k < n
            · rw [List.getElem?_range hkn]
              show some (lt pre 0 k ++ if tears pre ≤ k ∧ k < tears pre + z then [c] else []) = some (lt pre 0 k ++ if tears pre ≤ k ∧ k < tears pre + (z + 1) then [c] else [])
              by_cases h1 : tears pre ≤ k ∧ k < tears pre + z
              · rw [if_pos h1, if_pos (by omega)]
              · rw [if_neg h1, if_neg (by omega)]
            · rw [List.getElem?_eq_none (by simp; omega)]; rfl
        rw [eW]
      · rintro ρ μ1 ⟨i, x7, hi, hr, rfl, rfl⟩
        have hif : i = f := by
          have := congrArg List.length hr
          simp at this
          omega
        subst hif
        refine hk _ _ ⟨pre ++ [some (c, i)], some (.val (.tup [.str [c], .int (i : Nat)])), x7, by rw [hh]; simp, rfl, by rw [tears_s1]; exact hb2, by rw [tears_s1]; exact ht, ?_⟩
        rw [tears_s1]
        have e1 : outs n (pre ++ [some (c, i)]) = prt n pre c i := by
          unfold outs prt
          refine List.map_congr_left fun k _ => ?_
          rw [lt_app]
          congr 1
          show (if 0 + tears pre ≤ k ∧ k < 0 + tears pre + i then c :: [] else []) = _
          rw [Nat.zero_add]
        rw [e1]
      · have e1 : outs n pre = prt n pre c 0 := by
          unfold outs prt
          refine List.map_congr_left fun k _ => ?_
          rw [if_neg (by omega), List.append_nil]
        rw [e1]
  · rintro ρ μ' ⟨pre, x4, x5, hh, rfl, hb, ht, rfl⟩
    unfold b_lawT_written_3
    simp at hh
    subst hh
    simp
    exact q

theorem len_lawT_number_in : ∀ ds μ Q E, sp_lawT_number_in ds μ Q E → ds.length = 2 := by
  rintro ds μ Q E ⟨w, rfl, _⟩; rfl
theorem ok_lawT_number_in : ∀ ds μ Q E, sp_lawT_number_in ds μ Q E → b_lawT_number_in { nx := fun _ μ' => Q .non μ', rt := Q } (startD 4 ds) μ := by
  rintro ds μ Q E ⟨w, rfl, hw, q⟩
  unfold b_lawT_number_in
  rw [dSeq]
  simp [-dSeq, -lcD]
  rw [show strD w = w.map (fun c => D.str [c]) from rfl]
  refine lcD_listF (inv := still) w (fun c => !isFig c) (fun c => D.str [c]) (fun c => D.str [c]) trivial (by show _ ≤ 16777216; omega) (fun c hc k n hk hn => ?_) ?_
  · have m := mem_figs c
    simp
    cases h : isFig c with
    | true =>
      rw [h] at m hn
      have := m.mpr rfl
      simp at this
      rw [if_neg (by omega)]
      exact hn rfl
    | false =>
      rw [h] at m hk
      have : ¬ c ∈ [48, 49, 50, 51, 52, 53, 54, 55, 56, 57] := fun z => by have := m.mp z; cases this
      simp at this
      rw [if_pos (by omega)]
      exact hk rfl
  unfold b_lawT_number_in_2
  rw [dSeq]
  simp [-dSeq]
  by_cases h0 : w = []
  · rw [if_pos h0]
    subst h0
    exact q
  rw [if_neg h0]
  refine ⟨by omega, ?_⟩
  by_cases h1 : w.length ≤ 1
  · rw [if_neg (by omega)]
    obtain ⟨d, rfl⟩ : ∃ d, w = [d] := by
      match w, h0, h1 with
      | [d], _, _ => exact ⟨d, rfl⟩
      | _ :: _ :: _, _, h => simp at h
    unfold numIn at q
    by_cases hd : isFig d = true
    · rw [if_pos ⟨by simp, by simp, by simpa using hd⟩, if_neg (by simp)] at q
      have h' : 48 ≤ d ∧ d ≤ 57 := by simpa [isFig] using hd
      simp [hd]
      unfold b_lawT_number_in_3
      simp
      have q : Q (.int (NumText.digitsVal [d] : Nat)) μ := q
      by_cases h48 : d = 48
      · rw [if_pos h48, if_pos h48]
        exact ⟨h', q⟩
      · rw [if_neg h48]
        exact ⟨h', q⟩
    · rw [if_neg (fun z => hd (by simpa using z.2.2))] at q
      simp [hd]
      exact q
  · rw [if_pos (by omega)]
    unfold numIn at q
    rw [if_neg (by omega)] at q
    exact q
theorem len_lawT_item : ∀ ds μ Q E, sp_lawT_item ds μ Q E → ds.length = 2 := by
  rintro ds μ Q E ⟨p, l, rfl, _⟩; rfl
theorem ok_lawT_item : ∀ ds μ Q E, sp_lawT_item ds μ Q E → b_lawT_item { nx := fun _ μ' => Q .non μ', rt := Q } (startD 3 ds) μ := by
  rintro ds μ Q E ⟨p, l, rfl, hp, q⟩
  unfold b_lawT_item
  rw [dSeq]
  simp [-dSeq]
  unfold itW at q
  by_cases h0 : p = [47]
  · rw [if_pos h0] at q ⊢
    by_cases h1 : 1 < l
    · rw [if_pos h1] at q; rw [if_pos (by omega)]; exact q
    · rw [if_neg h1] at q; rw [if_neg (by omega)]; exact q
  rw [if_neg h0] at q ⊢
  unfold b_lawT_item_2
  rw [dSeq]
  simp [-dSeq]
  refine ⟨by omega, cut p (some 1) none, rfl, by have := cut_le p (some 1) none; omega, ?_⟩
  rw [show (some (1 : Int)) = some ((1 : Nat) : Int) from rfl, cut_drop]
  show b_lawT_item_3 _ _ _
  unfold b_lawT_item_3
  rw [dSeq]
  have let1 : ∀ (c : Nat) (R : D → Sto → Prop), R (.bl (isLet (.str [c]))) μ → sp_law_is_letter [D.str [c]] μ R noD := fun c R r => ⟨.str [c], rfl, rfl, by show [c].length ≤ 16777216; simp, r⟩
  match p, h0, hp, q with
  | [], _, _, q =>
    simp [numIn, natD, -dSeq]
    exact ⟨.str [], rfl, rfl, by show (0 : Nat) ≤ 16777216; omega, q⟩
  | [c], _, _, q =>
    simp [numIn, natD, -dSeq]
    rw [show (some (1 : Int)) = some ((1 : Nat) : Int) from rfl, cut_take]
    exact let1 c _ (by simp; exact q)
  | c :: d :: e :: r, _, hp, q =>
    simp [numIn, natD, -dSeq]
    rw [show (some (1 : Int)) = some ((1 : Nat) : Int) from rfl, cut_take]
    simp at hp
    exact ⟨by omega, let1 c _ (by simp; exact q)⟩
  | [c, d], _, _, q =>
    have ecut : cut [c, d] none (some (1 : Int)) = [c] := by
      rw [show (some (1 : Int)) = some ((1 : Nat) : Int) from rfl, cut_take]
      rfl
    by_cases h : isFig d = true
    · have e : numIn [d] 1 = some (d - 48) := by
        unfold numIn
        rw [if_pos ⟨by simp, by simp, by simpa using h⟩, if_neg (by simp)]
        simp [NumText.digitsVal]
      have h' : 48 ≤ d ∧ d ≤ 57 := by simpa [isFig] using h
      simp [e, natD, -dSeq, ecut]
      refine let1 c _ ?_
      simp [isLet_str]
      have q : Q (match strIn [c, d] with | none => wrongD | some (c, f) => if f ≤ l then itemD (some (c, f)) else wrongD) μ := q
      by_cases h1 : 97 ≤ c ∧ c ≤ 122
      · rw [if_pos h1]
        by_cases h2 : 49 ≤ d
        · rw [if_pos (by omega)]
          have e2 : strIn [c, d] = some (c, d - 48) := if_pos ⟨h1, h2, h'.2⟩
          rw [e2] at q
          have q : Q (if d - 48 ≤ l then itemD (some (c, d - 48)) else wrongD) μ := q
          by_cases h3 : d - 48 ≤ l
          · rw [if_pos h3] at q
            rw [if_pos (by omega)]
            unfold b_lawT_item_4
            simp
            exact q
          · rw [if_neg h3] at q
            rw [if_neg (by omega)]
            exact q
        · rw [if_neg (by omega)]
          have e2 : strIn [c, d] = none := if_neg fun z => by omega
          rw [e2] at q
          exact q
      · rw [if_neg h1]
        have e2 : strIn [c, d] = none := if_neg fun z => h1 z.1
        rw [e2] at q
        exact q
    · have e : numIn [d] 1 = none := by
        unfold numIn
        rw [if_neg fun z => h (by simpa using z.2.2)]
      have e2 : strIn [c, d] = none := if_neg fun z => h (by simp [isFig]; omega)
      rw [e2] at q
      simp [e, natD, ecut]
      refine let1 c _ ?_
      simp
      exact q
/-- what stands when a history is read so far -/
structure HSt (n : Nat) (h : List HI) : Prop where
  b : okB n h (n - tears h)
  t : tears h < n
  s : short n h = true
theorem HSt.nil {n : Nat} (h : 1 ≤ n) : HSt n [] := ⟨rfl, h, by
  unfold short outs
  rw [List.all_eq_true]
  intro w hw
  obtain ⟨k, _, rfl⟩ := List.mem_map.mp hw
  simp [lt]⟩
theorem strIn_ok {p : List Nat} {c f : Nat} (h : strIn p = some (c, f)) : (97 ≤ c ∧ c ≤ 122) ∧ 1 ≤ f ∧ f ≤ 9 := by
  unfold strIn at h
  split at h
  · split at h
    · rename_i g
      cases h
      exact ⟨g.1, by omega, by omega⟩
    · cases h
  · cases h
theorem itIn_itm {n : Nat} {h : List HI} (p : List Nat) : ∃ y, itIn p (outs n h) (tears h) = .tup [.bl (itmP n h p).isSome, y] ∧ ∀ x, itmP n h p = some x → y = itemD x := by
  unfold itIn itmP
  rw [outs_len]
  by_cases h0 : p = [47]
  · rw [if_pos h0, if_pos h0]
    by_cases h1 : tears h + 1 < n
    · rw [if_pos h1, decide_eq_true h1]
      exact ⟨_, rfl, fun x e => by cases e; rfl⟩
    · rw [if_neg h1, decide_eq_false h1]
      exact ⟨_, rfl, fun x e => by cases e⟩
  · rw [if_neg h0, if_neg h0]
    cases hs : strIn p with
    | none => exact ⟨_, rfl, fun x e => by cases e⟩
    | some q =>
      obtain ⟨c, f⟩ := q
      dsimp only
      by_cases h1 : n < tears h + f
      · rw [if_pos h1, if_pos h1]
        exact ⟨_, rfl, fun x e => by cases e⟩
      · rw [if_neg h1, if_neg h1, ← outs_s1]
        show ∃ y, D.tup [.bl (short n (h ++ [some (c, f)])), _] = _ ∧ _
        cases hh : short n (h ++ [some (c, f)]) with
        | true => rw [if_pos rfl]; exact ⟨_, rfl, fun x e => by cases e; rfl⟩
        | false => rw [if_neg (by simp)]; exact ⟨_, rfl, fun x e => by cases e⟩
/-- the law's own look at a part -/
theorem itW_itm {n : Nat} {h : List HI} (st : HSt n h) (p : List Nat) : (itW p (n - tears h) = wrongD ∧ itmP n h p = none) ∨ ∃ x : HI, itW p (n - tears h) = itemD x ∧ okB n (h ++ [x]) (n - tears (h ++ [x])) ∧ tears (h ++ [x]) < n ∧ itmP n h p = if short n (h ++ [x]) = true then some x else none := by
  obtain ⟨b, t, s⟩ := st
  unfold itW itmP
  by_cases h0 : p = [47]
  · rw [if_pos h0, if_pos h0]
    by_cases h1 : tears h + 1 < n
    · rw [if_pos h1, if_pos (by omega)]
      refine .inr ⟨none, rfl, ?_, by rw [tears_n1]; exact h1, ?_⟩
      · rw [tears_n1]
        exact okB_app b ⟨by omega, by show n - tears h - 1 = n - (tears h + 1); omega⟩
      · rw [if_pos]
        unfold short at s ⊢
        rw [outs_n1]; exact s
    · rw [if_neg h1, if_neg (by omega)]
      exact .inl ⟨rfl, rfl⟩
  · rw [if_neg h0, if_neg h0]
    cases hs : strIn p with
    | none => exact .inl ⟨rfl, rfl⟩
    | some q =>
      obtain ⟨c, f⟩ := q
      obtain ⟨o1, o2, o3⟩ := strIn_ok hs
      dsimp only
      by_cases h1 : n < tears h + f
      · rw [if_pos h1, if_neg (by omega)]
        exact .inl ⟨rfl, rfl⟩
      · rw [if_neg h1, if_pos (by omega)]
        refine .inr ⟨some (c, f), rfl, ?_, by rw [tears_s1]; exact t, rfl⟩
        rw [tears_s1]
        exact okB_app b ⟨o1, o2, by omega, rfl⟩
theorem HSt.step {n : Nat} {h : List HI} {p : List Nat} {x : HI} (st : HSt n h) (e : itmP n h p = some x) : HSt n (h ++ [x]) := by
  rcases itW_itm st p with ⟨_, z⟩ | ⟨y, h1, h2, h3, h4⟩
  · rw [z] at e; cases e
  · rw [h4] at e
    split at e
    · rename_i hh
      cases e
      exact ⟨h2, h3, hh⟩
    · cases e
theorem prtH_le {x p : List Nat} (h : p ∈ prtH x) : p.length ≤ x.length := by
  unfold prtH at h
  split at h
  · cases h
  · exact spl_le p h
theorem prtH_len (x : List Nat) : (prtH x).length ≤ x.length + 1 := by
  unfold prtH
  split
  · simp
  · have l := joinL_len1 32 (spl_pos 32 x)
    rw [spl_join] at l
    omega
theorem len_parse_historyX : ∀ ds μ Q E, sp_parse_historyX ds μ Q E → ds.length = 2 := by
  rintro ds μ Q E ⟨n, v, rfl, _⟩; rfl
theorem ok_parse_historyX : ∀ ds μ Q E, sp_parse_historyX ds μ Q E → b_parse_historyX E { nx := fun _ μ' => Q .non μ', rt := Q } (startD 9 ds) μ := by
  rintro ds μ Q E ⟨n, v, rfl, n1, n8, hv, q1, q2, q3⟩
  have hi := hv.i
  unfold b_parse_historyX
  rw [dSeq]
  cases v <;> first | exact (Bool.false_ne_true hi).elim | skip
  case str x =>
    have hl := hv.l x rfl
    simp [-dSeq]
    unfold b_parse_historyX_2
    rw [dSeq]
    simp [-dSeq]
    refine ⟨by omega, ?_⟩
    unfold b_parse_historyX_3
    rw [dSeq]
    have e0 : D.tup (repl n [D.str []]) = wsD (outs n []) := by
      have : outs n [] = List.replicate n [] := by rw [← wr_outs]; rfl
      rw [this]
      simp [repl]
    rw [e0]
    have q1 := fun h => q1 x h rfl
    have q2 := fun i => q2 x i rfl
    unfold resH at q1 q2
    have pls := @prtH_le x
    have pln := prtH_len x
    have body : forD (dUnp 2 (gdCons (dName 5) (gdCons (dName 6) gdNil))) (b_parse_historyX_3l E) { nx := b_parse_historyX_4 E { nx := fun _ μ' => Q .non μ', rt := Q }, rt := Q } still (enumD 0 ((prtH x).map D.str))
        [some (DS.val (D.int n)), some (DS.val (D.str x)), some (DS.val (D.tup [])), some (DS.val (wsD (outs n []))), some (DS.val (D.int 0)), none, none, none, none] μ := by
      generalize prtH x = ps at q1 q2 pls pln
      refine forD_inv (fun xs ρ μ' => μ' = μ ∧ ∃ done rest h x5 x6 x7 x8, ps = done ++ rest ∧ h.length = done.length ∧ xs = enumD done.length (rest.map D.str) ∧ HSt n h ∧ goH n [] ps = goH n h rest ∧
        ρ = [some (DS.val (D.int n)), some (DS.val (D.str x)), some (DS.val (histD h)), some (DS.val (wsD (outs n h))), some (DS.val (D.int (tears h : Nat))), x5, x6, x7, x8]) (fun _ _ _ _ => trivial) ?_ ?_ _ _ _ ⟨rfl, [], ps, [], _, _, _, _, rfl, rfl, rfl, HSt.nil n1, rfl, rfl⟩
      · rintro v xs ρ μ' k ⟨rfl, done, rest, h, x5, x6, x7, x8, e, hhl, hx, st, hg, rfl⟩ hk
        cases rest with
        | nil => cases hx
        | cons p r =>
          cases hx
          rw [goH] at hg
          have hdl : done.length ≤ 1000 := by rw [e, List.length_append, List.length_cons] at pln; omega
          have hpl : p.length ≤ 1000 := by have := pls (p := p) (by rw [e]; simp); omega
          have hWO : WOk (outs n h) 1000 := by
            have := st.s
            intro w hw
            unfold short at this
            have := List.all_eq_true.mp this w hw
            simp at this
            omega
          obtain ⟨y, hy1, hy2⟩ := itIn_itm (n := n) (h := h) p
          simp [-dSeq]
          show b_parse_historyX_3l _ _ _ _
          unfold b_parse_historyX_3l
          rw [dSeq]
          simp [-dSeq]
          refine ⟨p, outs n h, _, rfl, hpl, by rw [outs_len]; omega, by rw [outs_len]; omega, hWO, ?_⟩
          rw [hy1]
          simp [-dSeq]
          show b_parse_historyX_3l_2 _ _ _ _
          unfold b_parse_historyX_3l_2
          rw [dSeq]
          cases hm : itmP n h p with
          | none =>
            rw [hm] at hg
            simp
            have := q2 h.length (by rw [hg]; rfl)
            rw [hhl] at this
            exact this
          | some z =>
            rw [hm] at hg
            cases hy2 z hm
            have st' := st.step hm
            simp [-dSeq]
            have adv : ∀ (x5 x6 x7 x8 : Option DS) , k [some (DS.val (D.int n)), some (DS.val (D.str x)), some (DS.val (histD (h ++ [z]))), some (DS.val (wsD (outs n (h ++ [z])))), some (DS.val (D.int (tears (h ++ [z]) : Nat))), x5, x6, x7, x8] μ' := fun x5 x6 x7 x8 =>
              hk _ _ ⟨rfl, done ++ [p], r, h ++ [z], x5, x6, x7, x8, by rw [e]; simp, by simp [hhl], by rw [List.length_append]; rfl, st', hg, rfl⟩
            show b_parse_historyX_3l_3 _ _ _ _
            unfold b_parse_historyX_3l_3
            rw [dSeq]
            simp [-dSeq]
            cases z with
            | none =>
              simp [-dSeq, itemD]
              unfold b_parse_historyX_3l_4
              rw [dSeq]
              simp [-dSeq]
              unfold b_parse_historyX_3l_5
              simp
              refine ⟨by omega, ?_⟩
              have := adv (some (DS.val (D.int (done.length : Nat)))) (some (DS.val (D.str p))) (some (DS.val (D.bl true))) (some (DS.val D.non))
              rw [outs_n1, tears_n1, show histD (h ++ [none]) = D.tup (h.map itemD ++ [D.non]) by unfold histD; simp [itemD]] at this
              simpa using this
            | some q =>
              obtain ⟨c, f⟩ := q
              simp [-dSeq, itemD]
              unfold b_parse_historyX_3l_4
              rw [dSeq]
              simp [-dSeq]
              refine ⟨outs n h, tears h, c, f, 1000, rfl, hWO, by omega, by rw [outs_len]; omega, ?_⟩
              rw [← outs_s1]
              show b_parse_historyX_3l_5 _ _ _ _
              unfold b_parse_historyX_3l_5
              simp
              refine ⟨by omega, ?_⟩
              have := adv (some (DS.val (D.int (done.length : Nat)))) (some (DS.val (D.str p))) (some (DS.val (D.bl true))) (some (DS.val (itemD (some (c, f)))))
              rw [tears_s1, show histD (h ++ [some (c, f)]) = D.tup (h.map itemD ++ [D.tup [D.str [c], D.int f]]) by unfold histD; simp [itemD]] at this
              simpa [itemD] using this
      · rintro ρ μ' ⟨rfl, done, rest, h, x5, x6, x7, x8, e, hhl, hx, st, hg, rfl⟩
        cases rest with
        | cons w r => cases hx
        | nil =>
          dsimp only
          have hg : goH n [] ps = .inr h := hg
          unfold b_parse_historyX_4
          rw [dSeq]
          have ht := st.t
          have hdl : h.length ≤ 1000 := by rw [e, List.length_append] at pln; omega
          simp [-dSeq]
          rw [hg] at q1 q2
          unfold endH at q1 q2
          dsimp only at q1 q2
          by_cases h1 : tears h + 1 = n
          · rw [if_pos h1] at q1
            rw [if_neg (by omega)]
            unfold b_parse_historyX_5
            simp
            exact q1 h rfl
          · rw [if_neg h1] at q2
            rw [if_pos (by omega)]
            exact q2 _ rfl
    by_cases e : x = [101, 109, 112, 116, 121]
    · simp [-forD, -dSeq, e]
      unfold prtH at body
      rw [if_pos e, e] at body
      simpa [-forD] using body
    · simp [-forD, -dSeq, e]
      refine ⟨by omega, ?_⟩
      unfold prtH at body
      rw [if_neg e] at body
      simpa [-forD] using body
  all_goals
    simp
    exact q3 nofun
theorem len_lawT_due : ∀ ds μ Q E, sp_lawT_due ds μ Q E → ds.length = 2 := by
  rintro ds μ Q E ⟨n, v, rfl, _⟩; rfl
theorem ok_lawT_due : ∀ ds μ Q E, sp_lawT_due ds μ Q E → b_lawT_due { nx := fun _ μ' => Q .non μ', rt := Q } (startD 8 ds) μ := by
  rintro ds μ Q E ⟨n, v, rfl, n1, n8, hv, q⟩
  have hi := hv.i
  unfold b_lawT_due
  rw [dSeq]
  cases v <;> first | exact (Bool.false_ne_true hi).elim | skip
  case str x =>
    have hl := hv.l x rfl
    simp [-dSeq]
    unfold b_lawT_due_2
    rw [dSeq]
    simp [-dSeq]
    unfold b_lawT_due_3
    rw [dSeq]
    have q : Q (dueH n x) μ := q
    unfold dueH resH at q
    have pls := @prtH_le x
    have pln := prtH_len x
    have body : forD (dUnp 2 (gdCons (dName 4) (gdCons (dName 5) gdNil))) b_lawT_due_3l { nx := b_lawT_due_4 { nx := fun _ μ' => Q .non μ', rt := Q }, rt := Q } still (enumD 0 ((prtH x).map D.str))
        [some (DS.val (D.int n)), some (DS.val (D.str x)), some (DS.val (D.tup [])), some (DS.val (D.int n)), none, none, none, none] μ := by
      generalize prtH x = ps at q pls pln
      refine forD_inv (fun xs ρ μ' => μ' = μ ∧ ∃ done rest h x4 x5 x6 x7, ps = done ++ rest ∧ h.length = done.length ∧ xs = enumD done.length (rest.map D.str) ∧ HSt n h ∧ goH n [] ps = goH n h rest ∧
        ρ = [some (DS.val (D.int n)), some (DS.val (D.str x)), some (DS.val (histD h)), some (DS.val (D.int (n - tears h : Nat))), x4, x5, x6, x7]) (fun _ _ _ _ => trivial) ?_ ?_ _ _ _ ⟨rfl, [], ps, [], _, _, _, _, rfl, rfl, rfl, HSt.nil n1, rfl, rfl⟩
      · rintro v xs ρ μ' k ⟨rfl, done, rest, h, x4, x5, x6, x7, e, hhl, hx, st, hg, rfl⟩ hk
        cases rest with
        | nil => cases hx
        | cons p r =>
          cases hx
          rw [goH] at hg
          have hdl : done.length ≤ 1000 := by rw [e, List.length_append, List.length_cons] at pln; omega
          have hdl2 : done.length + 1 ≤ 1000 := by rw [e, List.length_append, List.length_cons] at pln; omega
          have hpl : p.length ≤ 1000 := by have := pls (p := p) (by rw [e]; simp); omega
          simp [-dSeq]
          show b_lawT_due_3l _ _ _
          unfold b_lawT_due_3l
          rw [dSeq]
          simp [-dSeq]
          refine ⟨p, n - tears h, rfl, hpl, ?_⟩
          show b_lawT_due_3l_2 _ _ _
          unfold b_lawT_due_3l_2
          rw [dSeq]
          have er : itmP n h p = none → Q (D.lst [D.int (done.length : Nat)]) μ' := fun hm => by
            rw [hg, hm] at q
            have q : Q (D.lst [D.int (h.length : Nat)]) μ' := q
            rw [hhl] at q
            exact q
          rcases itW_itm st p with ⟨w1, w2⟩ | ⟨z, w1, w2, w3, w4⟩
          · rw [w1]
            unfold wrongD
            simp
            exact er w2
          · rw [w1]
            obtain ⟨k1, k2⟩ : (itemD z).ic ∧ (itemD z).dp ≤ 1 := by
              cases z with
              | none => exact ⟨trivial, Nat.zero_le _⟩
              | some q =>
                obtain ⟨c, f⟩ := q
                have := (okB_split w2).2
                obtain ⟨o1, o2, o3, _⟩ := this
                refine ⟨⟨fun c' hc' => ?_, ?_, trivial⟩, by show max 0 (max 0 0) + 1 ≤ 1; decide⟩
                · rw [List.mem_singleton.mp hc']; omega
                · show (f : Int).natAbs < 2 ^ 300
                  have : f ≤ 8 := by omega
                  have : (f : Int).natAbs ≤ 8 := by omega
                  exact Nat.lt_of_le_of_lt this (by decide)
            have hne : D.eqv (itemD z) (.str [119, 114, 111, 110, 103]) = false := by
              cases z with
              | none => rfl
              | some q => rfl
            have hok : okEq (itemD z) (.str [119, 114, 111, 110, 103]) := okEq_of k1 (by intro c hc; simp at hc; omega) (by omega) (by decide)
            have hz : ∀ R : D → Sto → Prop, isiOk (itemD z) = true := by
              intro _
              cases z <;> rfl
            simp [-dSeq, hne]
            refine ⟨hok, ?_⟩
            unfold b_lawT_due_3l_3
            rw [dSeq]
            simp [-dSeq]
            have eh : D.tup (List.map itemD h ++ [itemD z]) = histD (h ++ [z]) := by unfold histD; simp
            rw [eh]
            refine ⟨by omega, ?_⟩
            suffices fin : ∀ i : Int, i = ((n - tears (h ++ [z]) : Nat) : Int) → b_lawT_due_3l_4 { nx := k, rt := Q, bk := b_lawT_due_4 { nx := fun x μ' => Q D.non μ', rt := Q }, ct := k }
                [some (DS.val (D.int n)), some (DS.val (D.str x)), some (DS.val (histD (h ++ [z]))), some (DS.val (D.int i)), some (DS.val (D.int (done.length : Nat))), some (DS.val (D.str p)), some (DS.val (itemD z)), x7] μ' by
              refine fin _ ?_
              have := st.t
              cases z with
              | none => rw [tears_n1]; simp [itemD]; omega
              | some q => obtain ⟨c, f⟩ := q; rw [tears_s1]; simp [itemD]
            rintro i rfl
            unfold b_lawT_due_3l_4
            simp [-lcD]
            have hfl : (h ++ [z]).length ≤ 1000 := by rw [List.length_append]; simp; omega
            refine ⟨n, _, h ++ [z], rfl, n1, by omega, w2, hfl, ?_⟩
            dsimp only
            have hbig : ∀ w ∈ outs n (h ++ [z]), w.length ≤ 2000 := by
              intro w hw
              unfold outs at hw
              obtain ⟨k, _, rfl⟩ := List.mem_map.mp hw
              have := lt_le (h ++ [z]) 0 k
              omega
            have hln : (outs n (h ++ [z])).length = n := outs_len n (h ++ [z])
            have hsh : short n (h ++ [z]) = (outs n (h ++ [z])).all fun w => decide (w.length ≤ 30) := rfl
            generalize outs n (h ++ [z]) = W at hbig hln hsh
            refine lcD_list (inv := still) W D.str (fun w => .int (w.length : Nat)) trivial (by show _ ≤ 16777216; omega) (fun a ha k2 hk2 => ?_) ?_
            · have := hbig a ha
              simp
              exact ⟨by omega, hk2⟩
            refine ⟨W.map fun w => (w.length : Int), by rw [List.map_map]; rfl, by rw [List.length_map]; omega, fun m hm hall => ?_⟩
            by_cases h30 : 30 < m
            · rw [if_pos h30]
              refine er ?_
              rw [w4, if_neg]
              rw [hsh, List.all_eq_true]
              intro hh
              obtain ⟨w, hw, rfl⟩ := List.mem_map.mp hm
              have := hh w hw
              simp at this
              omega
            · rw [if_neg h30]
              have hs : short n (h ++ [z]) = true := by
                rw [hsh, List.all_eq_true]
                intro w hw
                have := hall _ (List.mem_map.mpr ⟨w, hw, rfl⟩)
                simp
                omega
              rw [w4, if_pos hs] at hg
              exact hk _ _ ⟨rfl, done ++ [p], r, h ++ [z], some (DS.val (D.int (done.length : Nat))), some (DS.val (D.str p)), some (DS.val (itemD z)), x7, by rw [e]; simp, by simp [hhl], by rw [List.length_append]; rfl, ⟨w2, w3, hs⟩, hg, rfl⟩
      · rintro ρ μ' ⟨rfl, done, rest, h, x4, x5, x6, x7, e, hhl, hx, st, hg, rfl⟩
        cases rest with
        | cons w r => cases hx
        | nil =>
          dsimp only
          have hg : goH n [] ps = .inr h := hg
          have ht := st.t
          unfold b_lawT_due_4
          simp
          rw [hg] at q
          unfold endH at q
          dsimp only at q
          by_cases h1 : tears h + 1 = n
          · rw [if_pos h1] at q
            rw [if_pos (by omega)]
            exact q
          · rw [if_neg h1] at q
            rw [if_neg (by omega)]
            exact q
    by_cases e : x = [101, 109, 112, 116, 121]
    · simp [-forD, -dSeq, e]
      unfold prtH at body
      rw [if_pos e, e] at body
      simpa [-forD] using body
    · simp [-forD, -dSeq, e]
      refine ⟨by omega, ?_⟩
      unfold prtH at body
      rw [if_neg e] at body
      simpa [-forD] using body
  all_goals
    simp
    exact q
theorem len_law_read : ∀ ds μ Q E, sp_law_read ds μ Q E → ds.length = 2 := by
  rintro ds μ Q E ⟨n, v, rfl, _⟩; rfl
theorem ok_law_read : ∀ ds μ Q E, sp_law_read ds μ Q E → b_law_read { nx := fun _ μ' => Q .non μ', rt := Q } (startD 4 ds) μ := by
  rintro ds μ Q E ⟨n, v, rfl, n1, n8, hv, q⟩
  have t1 : tab_law.any "BadText" [.gl "BadForce", .gl "BadNumber"] = some false := by decide +kernel
  have t2 : tab_law.get "BadText" "BadText" = some true := by decide +kernel
  unfold b_law_read
  rw [dSeq]
  simp [-dSeq]
  unfold b_law_read_2
  rw [dSeq]
  simp [-dSeq, dTryE, tryE]
  refine ⟨n, v, rfl, n1, n8, hv, fun x h e hb => ?_, fun x i e hb => ⟨true, by decide +kernel, fun _ => ?_, fun z => by cases z⟩, fun hn => ⟨true, by decide +kernel, fun _ => ?_, fun z => by cases z⟩⟩
  · unfold b_law_read_3
    simp
    subst e
    have q : Q (dueH n x) μ := q
    unfold dueH at q
    rw [hb] at q
    exact q
  · simp [t1, t2]
    unfold b_law_read_3
    simp
    subst e
    have q : Q (dueH n x) μ := q
    unfold dueH at q
    rw [hb] at q
    exact q
  · simp [t1, t2]
    unfold b_law_read_3
    simp
    unfold dueV at q
    cases v <;> first | exact q | exact absurd rfl (hn _)
theorem item_V' {c f : Nat} (hc : c < 1114112) (hf : f ≤ 40) : (itemD (some (c, f))).okx 0 ∧ (itemD (some (c, f))).dx ≤ 1 ∧ (itemD (some (c, f))).wx = 6 := by
  refine ⟨⟨?_, ?_, trivial⟩, ?_, rfl⟩
  · intro d hd; simp at hd; subst hd; exact hc
  · show intB 0 _; unfold intB; omega
  · exact Nat.le_refl _
theorem hist_V' {n : Nat} : ∀ {h : List HI} {l : Nat}, l ≤ n → n ≤ 40 → okH l h → D.okxs 0 (h.map itemD) ∧ D.dxs (h.map itemD) ≤ 1 ∧ D.wxs (h.map itemD) ≤ 7 * h.length
  | [], _, _, _, _ => ⟨trivial, Nat.zero_le _, Nat.le_refl _⟩
  | none :: r, l, hl, hn, ho => by
    obtain ⟨a, b, c⟩ := hist_V' (n := n) (h := r) (l := l - 1) (by omega) hn ho.2
    refine ⟨⟨trivial, a⟩, ?_, ?_⟩
    · show max 0 _ ≤ 1; omega
    · show 1 + 1 + D.wxs (r.map itemD) ≤ 7 * (r.length + 1); omega
  | some (cc, f) :: r, l, hl, hn, ho => by
    obtain ⟨a, b, c⟩ := hist_V' (n := n) (h := r) (l := l) hl hn ho.2.2.2
    obtain ⟨i1, i2, i3⟩ := item_V' (c := cc) (f := f) (by have := ho.1; omega) (by have := ho.2.2.1; omega)
    refine ⟨⟨i1, a⟩, ?_, ?_⟩
    · show max _ _ ≤ 1; exact Nat.max_le.mpr ⟨i2, b⟩
    · show (itemD (some (cc, f))).wx + 1 + D.wxs (r.map itemD) ≤ 7 * (r.length + 1); omega
theorem goH_inv {n : Nat} : ∀ (ps : List (List Nat)) (h : List HI), HSt n h → match goH n h ps with
    | .inl i => i ≤ h.length + ps.length
    | .inr g => HSt n g ∧ g.length = h.length + ps.length
  | [], h, st => ⟨st, rfl⟩
  | p :: r, h, st => by
    rw [goH]
    cases hm : itmP n h p with
    | none => show h.length ≤ _; omega
    | some x =>
      dsimp only
      have := goH_inv r (h ++ [x]) (st.step hm)
      cases hg : goH n (h ++ [x]) r with
      | inl i =>
        rw [hg] at this
        have this : i ≤ (h ++ [x]).length + r.length := this
        rw [List.length_append] at this
        simp at this ⊢
        omega
      | inr g =>
        rw [hg] at this
        obtain ⟨a, b⟩ := this
        rw [List.length_append] at b
        refine ⟨a, ?_⟩
        simp at b ⊢
        omega
theorem rep_dueV {n : Nat} {v : D} (n1 : 1 ≤ n) (n8 : n ≤ 8) (hv : VH v) : repOkO (dueV n v) := by
  have rn : repOkO (.lst [.non]) := (shx_dec (t := 700) (k := 1) (by decide +kernel)).rep (by omega) (by omega)
  have ri : ∀ i : Nat, i ≤ 1000 → repOkO (.lst [.int (i : Nat)]) := fun i hi => (shx_lst (t := 4000) (k := 0) (n := 1) (fun d hd => by rw [List.mem_singleton.mp hd]; exact shx_nat (i := i) (by omega)) (by simp)).rep (by omega) (by omega)
  cases v <;> try exact rn
  rename_i x
  have hl := hv.l x rfl
  show repOkO (dueH n x)
  unfold dueH resH
  have := goH_inv (n := n) (prtH x) [] (HSt.nil n1)
  have pl := prtH_len x
  cases hg : goH n [] (prtH x) with
  | inl i =>
    rw [hg] at this
    have this : i ≤ 0 + (prtH x).length := this
    exact ri i (by omega)
  | inr g =>
    rw [hg] at this
    obtain ⟨a, b⟩ := this
    have b : g.length = 0 + (prtH x).length := b
    unfold endH
    dsimp only
    by_cases h1 : tears g + 1 = n
    · rw [if_pos h1]
      have ok : okH n g := okB_one.mp (by have := a.b; rw [show n - tears g = 1 by omega] at this; exact this)
      obtain ⟨v1, v2, v3⟩ := hist_V' (n := n) (Nat.le_refl _) (by omega) ok
      have hH : Vl 0 8000 2 (histD g) := ⟨v1, by show 1 + D.wxs (g.map itemD) ≤ 8000; omega, by show D.dxs (g.map itemD) + 1 ≤ 2; omega⟩
      exact ((hH.mono (B' := 10) (w' := 8000) (k' := 2) (by omega) (by omega) (by omega)).shx).rep (by omega) (by omega)
    · rw [if_neg h1]
      exact ri _ (by omega)
/-- short texts -/
def VX (v : D) : Prop := ∃ y, v = .str y ∧ y.length ≤ 500
theorem fix1 : ∃ L1, L1 = [D.str [], D.str [32], D.str [101, 109, 112, 116, 121], D.str [101, 109, 112, 116, 121, 32], D.str [97, 49],
            D.str [97, 49, 32], D.str [97, 50, 32, 47], D.str [47], D.str [47, 32, 47], D.str [97, 48],
            D.str [97, 51, 32, 47, 32, 98, 50, 32, 47], D.str [97, 57], D.str [97, 56], D.str [97, 48, 49]] ∧ (∀ v ∈ L1, VX v) ∧ L1.length = 14 := by
  refine ⟨_, rfl, fun v hv => ?_, rfl⟩
  simp only [List.mem_cons, List.not_mem_nil, or_false] at hv
  rcases hv with rfl | rfl | rfl | rfl | rfl | rfl | rfl | rfl | rfl | rfl | rfl | rfl | rfl | rfl <;> exact ⟨_, rfl, by decide⟩
theorem fix2 {L1 : List D} (V1 : ∀ v ∈ L1, VX v) (h : L1.length = 14) : ∃ L2, L2 = L1 ++ [D.str [97, 49, 32, 47, 32, 47], D.str [65, 49], D.str [97], D.str [49], D.str [97, 32, 49],
                D.str [97, 49, 47], D.str [97, 49, 32, 32, 47], D.str [97, 49, 10], D.str [97, 98, 49],
                D.str [97, 45, 49], D.str [97, 43, 49], D.str [97, 49, 49], D.str [45]] ∧ (∀ v ∈ L2, VX v) ∧ L2.length = 27 := by
  refine ⟨_, rfl, fun v hv => ?_, by rw [List.length_append, h]; rfl⟩
  rcases List.mem_append.mp hv with hv | hv
  · exact V1 v hv
  simp only [List.mem_cons, List.not_mem_nil, or_false] at hv
  rcases hv with rfl | rfl | rfl | rfl | rfl | rfl | rfl | rfl | rfl | rfl | rfl | rfl | rfl <;> exact ⟨_, rfl, by decide⟩
def a2p (p : Nat × Nat) : List (List Nat) := List.replicate p.1 [97, 50] ++ List.replicate p.2 [47]
def a2 (p : Nat × Nat) : List Nat := joinL [32] (a2p p)
theorem sumL_rep (k : Nat) (w : List Nat) : sumL (List.replicate k w) = k * w.length := by
  unfold sumL
  rw [List.map_replicate, List.sum_replicate_nat]
theorem a2_le {p : Nat × Nat} (h : p.1 ≤ 31 ∧ p.2 ≤ 1) : (a2 p).length ≤ 500 ∧ ((a2p p).map List.length).sum + (a2p p).length ≤ 200 := by
  have h1 : ((a2p p).map List.length).sum = p.1 * 2 + p.2 * 1 := by
    have := sumL_app (List.replicate p.1 [97, 50]) (List.replicate p.2 [47])
    rw [sumL_rep, sumL_rep] at this
    exact this
  have h2 : (a2p p).length = p.1 + p.2 := by unfold a2p; simp
  have h3 := joinL_le [32] (a2p p)
  unfold a2
  rw [h1, h2] at h3
  simp only [List.length_singleton] at h3
  rw [h1, h2]
  constructor <;> omega
theorem repl_repX (k : Nat) (x : D) : repl k [x] = List.replicate k x := by
  unfold repl
  induction k with
  | zero => rfl
  | succ k ih => rw [List.replicate_succ, List.flatten_cons, ih, List.replicate_succ]; rfl
theorem fix3 {L2 : List D} (V : ∀ v ∈ L2, VX v) (h : L2.length = 27) : ∃ L3, L3 = L2 ++ List.map (fun p => D.str (a2 p)) [(31, 0), (30, 0), (30, 1)] ∧ (∀ v ∈ L3, VX v) ∧ L3.length = 30 := by
  refine ⟨_, rfl, fun v hv => ?_, by rw [List.length_append, h]; rfl⟩
  rcases List.mem_append.mp hv with hv | hv
  · exact V v hv
  obtain ⟨p, hp, rfl⟩ := List.mem_map.mp hv
  refine ⟨_, rfl, (a2_le ?_).1⟩
  simp at hp
  rcases hp with rfl | rfl | rfl <;> decide
theorem fix4 {L3 : List D} (V : ∀ v ∈ L3, VX v) (h : L3.length = 30) : ∃ L4, L4 = L3 ++ [D.str (joinL [32] (List.replicate 30 [97, 50] ++ [[47], [97, 49]]))] ∧ (∀ v ∈ L4, VX v) ∧ L4.length = 31 := by
  refine ⟨_, rfl, fun v hv => ?_, by rw [List.length_append, h]; rfl⟩
  rcases List.mem_append.mp hv with hv | hv
  · exact V v hv
  rw [List.mem_singleton.mp hv]
  exact ⟨_, rfl, by decide +kernel⟩
theorem vh_odd : ∀ d ∈ oddA, VH d := by
  intro d hd
  have h := oddA_vl d hd
  refine ⟨okx_isi h.ok, fun x e => ?_⟩
  subst e
  have := h.wt
  have e2 : (D.str x).wx = x.length + 1 := rfl
  omega
theorem fix5 {L4 : List D} {o1 : D} (V : ∀ v ∈ L4, VX v) (ho : o1 ∈ oddA) : ∃ L5, L5 = L4 ++ [D.non, D.int 0, D.bl true, D.tup [], D.lst [], D.dct [], D.tup [D.str [97], D.int 1], o1] ∧ ∀ v ∈ L5, VH v := by
  refine ⟨_, rfl, fun v hv => ?_⟩
  rcases List.mem_append.mp hv with hv | hv
  · obtain ⟨y, rfl, hy⟩ := V v hv
    exact ⟨rfl, fun x e => by cases e; omega⟩
  simp only [List.mem_cons, List.not_mem_nil, or_false] at hv
  rcases hv with rfl | rfl | rfl | rfl | rfl | rfl | rfl | rfl
  all_goals first | exact vh_odd _ ho | exact ⟨rfl, nofun⟩
theorem itx_tx : ∀ {h : List HI} {l : Nat}, l ≤ 9 → okH l h → (∀ p ∈ h.map itx, ∀ c ∈ p, c < 128) ∧ sumL (h.map itx) ≤ 2 * h.length
  | [], _, _, _ => ⟨nofun, Nat.zero_le _⟩
  | none :: r, l, h9, ho => by
    obtain ⟨a, b⟩ := itx_tx (h := r) (l := l - 1) (by omega) ho.2
    refine ⟨fun p hp c hc => ?_, ?_⟩
    · rcases List.mem_cons.mp hp with rfl | hp
      · have : c = 47 := by simpa [itx] using hc
        omega
      · exact a p hp c hc
    · have e : sumL ((none :: r).map itx) = 1 + sumL (r.map itx) := by simp [sumL, itx]
      rw [e, List.length_cons]; omega
  | some (c', f) :: r, l, h9, ho => by
    obtain ⟨a, b⟩ := itx_tx (h := r) (l := l) h9 ho.2.2.2
    have o1 := ho.1
    have o2 := ho.2.2.1
    refine ⟨fun p hp c hc => ?_, ?_⟩
    · rcases List.mem_cons.mp hp with rfl | hp
      · have : c = c' ∨ c = 48 + f := by simpa [itx] using hc
        omega
      · exact a p hp c hc
    · have e : sumL ((some (c', f) :: r).map itx) = 2 + sumL (r.map itx) := by simp [sumL, itx]
      rw [e, List.length_cons]; omega
theorem htx_tx {n : Nat} {h : List HI} (hn : n ≤ 9) (ho : okH n h) (hl : h.length ≤ 35) : Tx 104 (htx h) := by
  unfold htx
  split
  · exact ⟨fun c hc => by simp at hc; omega, by decide⟩
  · rename_i hne
    obtain ⟨a, b⟩ := itx_tx (h := h) (l := n) hn ho
    refine ⟨fun c hc => ?_, ?_⟩
    · rcases joinL_mem' _ c hc with h1 | ⟨p, hp, h1⟩
      · rw [List.mem_singleton.mp h1]; decide
      · exact a p hp c h1
    · have h1 := joinL_len1 32 (ps := h.map itx) (by simpa using hne)
      have h2 : ((h.map itx).map List.length).sum = sumL (h.map itx) := rfl
      rw [h2, List.length_map] at h1
      omega
theorem ok_law : ∀ ds μ Q E, sp_law ds μ Q E → b_law { nx := fun _ μ' => Q .non μ', rt := Q } (startD 11 ds) μ := by
  rintro ds μ Q E ⟨ns, rfl, hn, q⟩
  have same : ∀ (n : Nat) (v : D) (μ : Sto) (R : D → Sto → Prop), 1 ≤ n → n ≤ 8 → VH v → R (.bl true) μ → sp_law_read [.int n, v] μ (fun a μ1 => sp_lawT_due [.int n, v] μ1 (fun b μ2 => sp_lawA_same [a, b] μ2 R noD) noD) noD := fun n v μ R n1 n8 hv r => ⟨n, v, rfl, n1, n8, hv, n, v, rfl, n1, n8, hv, _, _, rfl, rfl, rep_dueV n1 n8 hv, r⟩
  unfold b_law
  rw [dSeq]
  simp [-dSeq]
  refine ⟨ns, rfl, hn, fun j c μ1 hJ _ _ _ => ?_⟩
  show b_law_2 _ _ _
  unfold b_law_2
  rw [dSeq]
  simp [-dSeq]
  obtain ⟨L1, e1, V1, hL1⟩ := fix1
  rw [← e1]
  unfold b_law_3
  rw [dSeq]
  simp [-dSeq]
  refine ⟨by omega, ?_⟩
  obtain ⟨L2, e2, V2, hL2⟩ := fix2 V1 hL1
  rw [← e2]
  clear e1 e2
  unfold b_law_4
  rw [dSeq]
  simp [-dSeq, -lcD]
  refine lcD_list (inv := still) [(31, 0), (30, 0), (30, 1)] (fun p : Nat × Nat => D.tup [D.int p.1, D.int p.2]) (fun p => .str (a2 p)) trivial (by show _ ≤ 16777216; decide) (fun p hp k hk => ?_) ?_
  · have hp1 : p.1 ≤ 31 ∧ p.2 ≤ 1 := by
      simp at hp
      rcases hp with rfl | rfl | rfl <;> decide
    simp
    obtain ⟨l1, l2⟩ := a2_le hp1
    refine ⟨by omega, by omega, by omega, by omega, by rw [repl_repX, repl_repX, List.length_replicate, List.length_replicate]; omega, a2p p, by rw [repl_repX, repl_repX]; unfold a2p; simp, by omega, hk⟩
  obtain ⟨L3, e3, V3, hL3⟩ := fix3 V2 hL2
  rw [← e3]
  clear e3
  refine ⟨by rw [hL2]; simp, ?_⟩
  unfold b_law_5
  rw [dSeq]
  simp [-dSeq]
  obtain ⟨rp, er⟩ : ∃ rp, rp = repl 30 [D.str [97, 50]] := ⟨_, rfl⟩
  rw [← er]
  have er2 : rp = (List.replicate 30 [97, 50]).map D.str := by rw [er, repl_repX, List.map_replicate]
  clear er
  have hrl : rp.length = 30 := by rw [er2, List.length_map, List.length_replicate]
  refine ⟨by omega, List.replicate 30 [97, 50] ++ [[47], [97, 49]], by rw [er2, List.map_append]; rfl, by decide +kernel, by omega, ?_⟩
  clear er2 hrl
  obtain ⟨L4, e4, V4, hL4⟩ := fix4 V3 hL3
  rw [← e4]
  clear e4
  unfold b_law_6
  rw [dSeq]
  simp [-dSeq, -forD]
  refine odd_ok (μ0 := μ1) ⟨hJ, .refl⟩ (by omega) fun o1 μ2 ho1 s2 => ?_
  obtain ⟨L5, e5, V5⟩ := fix5 V4 ho1
  rw [← e5]
  clear e5
  refine ⟨by omega, ?_⟩
  refine forD_inv (fun xs ρ μ' => (∀ v ∈ xs, VH v) ∧ μ' = μ2 ∧ ∃ x3 x4 : Option DS, ρ = [some (DS.val (D.scr ns)), some (DS.val (D.ref j)), some (DS.own L4), x3, x4, none, none, none, none, none, none]) (fun _ _ _ _ => trivial) ?_ ?_ _ _ _ ⟨V5, rfl, _, _, rfl⟩
  · rintro v xs ρ μ' k ⟨hx, rfl, x3, x4, rfl⟩ hk
    have hv := hx v (by simp)
    unfold b_law_6l
    simp [-forD]
    refine forD_inv (fun ys ρ μ3 => (∀ y ∈ ys, ∃ n : Nat, y = .int n ∧ 1 ≤ n ∧ n ≤ 8) ∧ μ3 = μ' ∧ ∃ x4 : Option DS, ρ = [some (DS.val (D.scr ns)), some (DS.val (D.ref j)), some (DS.own L4), some (.val v), x4, none, none, none, none, none, none]) (fun _ _ _ _ => trivial) ?_ ?_ _ _ _ ⟨?_, rfl, _, rfl⟩
    · rintro y ys ρ μ3 k2 ⟨hy, rfl, x4', rfl⟩ hk2
      obtain ⟨n, rfl, n1, n8⟩ := hy y (by simp)
      unfold b_law_6l_1l
      simp
      refine same n v _ _ n1 n8 hv ?_
      simp
      exact hk2 _ _ ⟨fun w hw => hy w (List.mem_cons_of_mem _ hw), rfl, _, rfl⟩
    · rintro ρ μ3 ⟨_, rfl, x4', rfl⟩
      exact hk _ _ ⟨fun w hw => hx w (List.mem_cons_of_mem _ hw), rfl, _, _, rfl⟩
    · intro y hy
      simp only [List.mem_cons, List.not_mem_nil, or_false] at hy
      rcases hy with rfl | rfl | rfl
      · exact ⟨1, rfl, by omega, by omega⟩
      · exact ⟨2, rfl, by omega, by omega⟩
      · exact ⟨3, rfl, by omega, by omega⟩
  · rintro ρ μ' ⟨_, rfl, x3, x4, rfl⟩
    dsimp only
    unfold b_law_7
    rw [dSeq]
    simp [rngOk, -dSeq, -forD]
    refine forD_rng (fun i ρ μ3 => (∃ x3 x4 x5 x6 x7 x8 : Option DS, ρ = [some (DS.val (D.scr ns)), some (DS.val (D.ref j)), some (DS.own L4), x3, x4, x5, x6, x7, x8, none, none]) ∧ Deck j c (1 + 1000 * i) μ3) ?_ ?_ ⟨⟨_, _, _, _, _, _, rfl⟩, s2.1.le (by omega)⟩
    · rintro i ρ μ3 nx hi ⟨⟨x3, x4, x5, x6, x7, x8, rfl⟩, hJ3⟩ hnx
      simp [-dSeq]
      unfold b_law_7l
      rw [dSeq]
      simp [-dSeq]
      obtain ⟨m, hm, hm1, hm8⟩ : ∃ m : Nat, atI [D.int 8, D.int 3] ((i : Int) % 2) = some (.int m) ∧ 1 ≤ m ∧ m ≤ 8 := by
        have : (i : Int) % 2 = 0 ∨ (i : Int) % 2 = 1 := by omega
        rcases this with h | h <;> rw [h]
        · exact ⟨8, rfl, by omega, by omega⟩
        · exact ⟨3, rfl, by omega, by omega⟩
      refine ⟨_, hm, ?_⟩
      refine draw1_ok (m := m) (μ0 := μ3) ⟨hJ3, .refl⟩ (by omega) hm1 (by omega) fun t μ4 ht s4 => ?_
      simp [-dSeq]
      have ipn : ((1 : Int) + (t : Int)) = ((t + 1 : Nat) : Int) := by omega
      rw [ipn]
      obtain ⟨n, hn1, hn8, hne⟩ : ∃ n : Nat, 1 ≤ n ∧ n ≤ 8 ∧ t + 1 = n := ⟨t + 1, by omega, by omega, rfl⟩
      rw [hne]
      unfold b_law_7l_2
      rw [dSeq]
      simp [-dSeq]
      obtain ⟨g, hg, hg28⟩ : ∃ g : Nat, atI [D.int 28, D.int 6] ((i : Int) % 2) = some (.int g) ∧ g ≤ 28 := by
        have : (i : Int) % 2 = 0 ∨ (i : Int) % 2 = 1 := by omega
        rcases this with h | h <;> rw [h]
        · exact ⟨28, rfl, by omega⟩
        · exact ⟨6, rfl, by omega⟩
      refine ⟨_, hg, ?_⟩
      refine history_ok (m := g) s4 (by omega) (by omega) (by omega) (by omega) fun h μ5 ho hs s5 => ?_
      have hlen := okH_len ho
      have hi9 := okH_hi ho (by omega)
      refine ⟨h, rfl, by omega, hi9, ?_⟩
      have T0 := htx_tx (by omega) ho (by omega)
      generalize htx h = tx at T0
      show b_law_7l_3 _ _ _
      unfold b_law_7l_3
      simp [rngOk, -forD]
      refine forD_rng (fun k ρ μ6 => (∃ x3 x7 x8 : Option DS, ρ = [some (DS.val (D.scr ns)), some (DS.val (D.ref j)), some (DS.own L4), x3, some (DS.val (D.int n)), some (DS.val (D.int i)), some (DS.val (D.str tx)), x7, x8, none, none]) ∧ Deck j c (202 + 1000 * i + 10 * k) μ6) ?_ ?_ ⟨⟨_, _, _, rfl⟩, s5.1.le (by omega)⟩
      · rintro k ρ μ6 n2 hk ⟨⟨x3, x7, x8, rfl⟩, hJ6⟩ hn2
        simp [-dSeq]
        unfold b_law_7l_3l
        rw [dSeq]
        simp [-dSeq]
        refine spoilt_ok (μ0 := μ6) ⟨hJ6, .refl⟩ (by omega) T0 (by omega) fun y μ7 hy s7 => ?_
        unfold b_law_7l_3l_2
        rw [dSeq]
        simp [-dSeq]
        refine draw1_ok (m := 2) s7 (by omega) (by omega) (by omega) fun z μ8 hz s8 => ?_
        have fin : ∀ (y : List Nat) (μ9 : Sto), y.length ≤ 980 → Deck j c (202 + 1000 * i + 10 * k + 9) μ9 → b_law_7l_3l_3 { nx := n2, rt := Q, bk := nx, ct := n2 } [some (DS.val (D.scr ns)), some (DS.val (D.ref j)), some (DS.own L4), some (DS.val (D.str y)), some (DS.val (D.int n)), some (DS.val (D.int i)), some (DS.val (D.str tx)), some (DS.val (D.int k)), x8, none, none] μ9 := fun y μ9 hy h9 => by
          unfold b_law_7l_3l_3
          simp [-forD]
          refine draw1_ok (m := 8) (μ0 := μ9) ⟨h9, .refl⟩ (by omega) (by omega) (by omega) fun u μ10 hu s10 => ?_
          simp [-forD]
          refine forD_inv (fun ys ρ μ11 => (∀ v ∈ ys, ∃ n : Nat, v = .int n ∧ 1 ≤ n ∧ n ≤ 8) ∧ μ11 = μ10 ∧ ∃ x8 : Option DS, ρ = [some (DS.val (D.scr ns)), some (DS.val (D.ref j)), some (DS.own L4), some (DS.val (D.str y)), some (DS.val (D.int n)), some (DS.val (D.int i)), some (DS.val (D.str tx)), some (DS.val (D.int k)), x8, none, none]) (fun _ _ _ _ => trivial) ?_ ?_ _ _ _ ⟨?_, rfl, _, rfl⟩
          · rintro v ys ρ μ11 k2 ⟨hys, rfl, x8', rfl⟩ hk2
            obtain ⟨n', rfl, n1', n8'⟩ := hys v (by simp)
            unfold b_law_7l_3l_3l
            simp
            refine same n' (.str y) _ _ n1' n8' ⟨rfl, fun x e => by cases e; exact hy⟩ ?_
            simp
            exact hk2 _ _ ⟨fun w hw => hys w (List.mem_cons_of_mem _ hw), rfl, _, rfl⟩
          · rintro ρ μ11 ⟨_, rfl, x8', rfl⟩
            exact hn2 _ _ ⟨⟨_, _, _, rfl⟩, s10.1.le (by omega)⟩
          · intro v hv
            simp only [List.mem_cons, List.not_mem_nil, or_false] at hv
            rcases hv with rfl | rfl
            · exact ⟨n, rfl, hn1, hn8⟩
            · exact ⟨u + 1, by congr 1; omega, by omega, by omega⟩
        refine ⟨okEq_int _ _, ?_⟩
        split
        · refine spoilt_ok s8 (by omega) hy (by omega) fun y2 μ9 hy2 s9 => ?_
          have := hy2.2
          exact fin y2 μ9 (by omega) (s9.1.le (by omega))
        · have := hy.2
          exact fin y μ8 (by omega) (s8.1.le (by omega))
      · rintro ρ μ6 ⟨⟨x3, x7, x8, rfl⟩, hJ6⟩
        exact hnx _ _ ⟨⟨_, _, _, _, _, _, rfl⟩, hJ6.le (by omega)⟩
    · rintro ρ μ3 ⟨⟨x3, x4, x5, x6, x7, x8, rfl⟩, hJ3⟩
      dsimp only
      unfold b_law_8
      simp
      exact q _
end DL

namespace DL
open PySem PySem.Spec PyProof.Rows L2
/-- the heap that shows the script alone, where the module does not own it -/
def Hscr (K : PySem.W.Frag) (a : Addr) (o : Obj) (xs : List V) : Hp := fun b => if b = a ∧ K.lookup a = none then some (.frz o (.lst xs)) else none
theorem Hscr_some {K : PySem.W.Frag} {a b : Addr} {o : Obj} {xs : List V} {u : HO} (h : Hscr K a o xs b = some u) : b = a ∧ K.lookup a = none ∧ u = .frz o (.lst xs) := by
  unfold Hscr at h
  split at h
  · rename_i c
    exact ⟨c.1, c.2, (Option.some.inj h).symm⟩
  · cases h
theorem Hscr_none {K : PySem.W.Frag} {a b : Addr} {o : Obj} {xs : List V} (h : ¬ (b = a ∧ K.lookup a = none)) : Hscr K a o xs b = none := if_neg h
theorem end_g {l : PySem.W.OpenLaw} {n k : Nat} {q : Program} {loose : List Str} {XP : (Str → Option Value) → Heap → Prop} {YP : World → Heap → Prop} {d : DefRec} {K : Params → PySem.W.Frag} {S : DSp} {x : Str}
    (hn : l.most = some n) (hn2 : n ≤ sizeLine) (hdf : d.params.defaults = []) (hr : Room k callerA) (hY : ∀ (w : World) (h : Heap), YP w h → (K w.params).In h)
    (F : ∀ (w : World) (mg : Str → Option Value) (fa : Addr) (h : Heap), (K w.params).In h → h.Ns mainGlobals mg → mg d.name = some (.ref fa) →
      ∃ fd : FuncData, (∀ (s : Shared) (u : Value), BindsTo s fd ⟨[u], []⟩ [(x, u)]) ∧ ∀ base : Heap, (K w.params).In base → base.Ns mainGlobals mg → FnG l.prog w (K w.params) mg base L2.CX0 k fa fd [x] (liftP (K w.params) mg S))
    (hS : ∀ ns : List Int, ns.length ≤ n → S [.scr ns] (fun _ => none) (fun v _ => v = .bl true) noD) : PySem.W.WalkO q loose XP YP l.row.toRowW d [] (fun f vs => PySem.call f vs) := by
  refine Att.attach_call hn hdf ?_
  intro w s0 s1 mg mb fa o pm cd doc a vs ns G Y ho hd hcd hmg hobj hints hlen hgens
  have KX := hY w _ Y
  obtain ⟨fd, bind, FF⟩ := F w mg fa _ KX G.T.g hmg
  generalize K w.params = K at KX FF
  -- the heap
  let so : Obj := { cls := .type "list", data := .seq vs.toArray }
  let H : Hp := Hscr K a so (ns.map V.int)
  have rel : Vals (ns.map V.int) vs := vals_ints hints
  have small : (ns.map V.int).length ≤ sizeLine := by
    rw [List.length_map]
    exact Nat.le_trans hlen hn2
  have ok : HOk l.prog w H s1.heap := by
    intro b u hb
    obtain ⟨rfl, _, rfl⟩ := Hscr_some hb
    exact ⟨hobj, small, vs, _, rel, hobj⟩
  have shown : SqL K H a (ns.map V.int) := by
    cases hk : K.lookup a with
    | none => exact Or.inl (Or.inr ⟨so, if_pos ⟨rfl, hk⟩⟩)
    | some ob =>
      have hob := KX a ob hk
      rw [hobj] at hob
      cases hob
      refine Or.inr ⟨_, vs.toArray, _, hk, rfl, rfl, rfl, ?_, by simpa using rel⟩
      rw [List.size_toArray, hints.length]
      exact Nat.le_trans hlen hn2
  -- what is not the script stands in the base
  have notscr : ∀ {b : Addr} {ob : Obj}, s1.heap.get? b = some ob → (∀ z m, ob.data ≠ .seq z m) → H b = none := by
    intro b ob hb hne
    refine Hscr_none ?_
    rintro ⟨rfl, _⟩
    rw [hobj] at hb
    cases hb
    exact hne _ _ rfl
  have ns' : ∀ {b : Addr} {m : Str → Option Value}, s1.heap.Ns b m → (hidT s1.heap H).Ns b m := by
    rintro b m ⟨ob, es, ep, h1, h2, h3⟩
    exact ⟨ob, es, ep, hidT_get h1 (notscr h1 (fun z m e => by rw [h2] at e; cases e)), h2, h3⟩
  have kin : K.In (hidT s1.heap H) := by
    intro b ob hb
    refine hidT_get (KX b ob hb) (Hscr_none ?_)
    rintro ⟨rfl, hk⟩
    rw [hb] at hk
    cases hk
  obtain ⟨mc, l1, l2⟩ := G.T.nolimit
  have md : Mod K mg (hidT s1.heap H) := ⟨kin, ns' G.T.g, ⟨mb, ns' G.T.b, G.T.builtins⟩, ⟨mc, ns' l1, l2⟩⟩
  have env : Env0 l.prog w K mg (hidT s1.heap H) callerA [] s1 H :=
    { frames := rfl, mod := md, bs := fun _ _ e => of_hidT e, bsz := Nat.le_of_eq (hidT_size _ _), funs := trivial, frf := fun b hb => (List.not_mem_nil hb).elim, hok := ok, bare := .of_eq hgens }
  have F0 := FF _ kin (ns' G.T.g)
  have promise : liftP K mg S [.ref a] H (fun v _ => v = .bl true) L2.E0 := by
    refine ⟨H, fun _ => none, [.scr ns], _, noD, ⟨fun _ _ e => e, (fun _ _ e => nomatch e), (fun _ _ e => nomatch e)⟩, .one (.scr shown), hS ns hlen, ?_, fun _ _ _ _ _ _ _ _ _ _ z => z.elim⟩
    rintro v F' μ' H' dv _ _ hv rfl
    cases hv
    rfl
  refine codeAny_mono (F0.run callerA [] s1 H ⟨[.ref a], []⟩ [.ref a] [.ref a] _ _ rfl hr env (bind s1 (.ref a)) (.cons rfl .nil) promise) ?_
  intro r s' h
  match r, h with
  | .ok (.ret u), ⟨v, H', hos, hbare, un, ok', rv, hv⟩ =>
    subst hv
    cases rv
    refine ⟨rfl, OldK.of_keep ?_, hos, hbare⟩
    intro b ob hb
    by_cases hc : H b = none
    · exact un.keep b ob hb hc (fun z => (List.not_mem_nil z).elim) (fun z => (List.not_mem_nil z).elim)
    · obtain ⟨u, hu⟩ := Option.ne_none_iff_exists'.mp hc
      obtain ⟨rfl, _, rfl⟩ := Hscr_some hu
      obtain ⟨e2, _⟩ := ok' _ _ (un.frzs _ _ _ hu)
      rw [hobj] at hb
      cases hb
      exact e2
end DL

namespace DL
open PySem PySem.Spec PyProof.Rows L2
theorem end_law : ∀ ns : List Int, ns.length ≤ 63 → sp_law [.scr ns] (fun _ => none) (fun v _ => v = .bl true) noD := fun ns h => ⟨ns, rfl, h, fun _ => rfl⟩
def topS (i : Nat) : Stmt := PySem.Challenge.pw_carbonpad_k80_histories_that_are_wrong.main.body.getD i (.Pass ⟨0, 0, 0, 0⟩)
section
variable {P : Program} {w : World} {K : PySem.W.Frag} {mg : Str → Option Value} {base : Heap}
abbrev s_is_letter : Stmt := topS 8
theorem sc_is_letter : FnScope ["value"] ["value"] (defScope s_is_letter) := ⟨rfl, rfl, rfl, by decide +kernel, rfl, by decide +kernel, by decide +kernel⟩
theorem fn_is_letter {f : Addr} {fd : FuncData} (F : Fun K "is_letter" "is_letter" s_is_letter f fd) (m_isinstance : mg "isinstance" = none) (m_len : mg "len" = none) (m_str : mg "str" = none) {t_LETTERS : Tok} (g_LETTERS : mg "LETTERS" = some (.str "abcdefghijklmnopqrstuvwxyz" t_LETTERS)) : FnG P w K mg base L2.CX0 1 f fd ["value"] (liftP K mg sp_is_letter) := by
  refine FnG.ofD (k := 0) F sc_is_letter len_is_letter b_is_letter ok_is_letter fun cdv A outer s H E B quiet room => ?_
  have nd := sc_is_letter.nd
  exact (ds_last (ds_ret (de_and (de_fnB call_isi cs_isi (by rfl) m_isinstance (by decide +kernel) (daw_cons (dw_var (pv 0)) (daw_cons (dw (de_tyN (by rfl) m_str (by decide +kernel))) daw_nil))) (de_and (de_cmp (op_eqA room.units) ops_eq (dw (de_fnB call_lenA cs_len (by rfl) m_len (by decide +kernel) (daw_cons (dw_var (pv 0)) daw_nil))) (dw de_int) (nomark _)) (de_one (de_cmp op_inA (ops_in false) (dw_var (pv 0)) (dw (de_globS [97, 98, 99, 100, 101, 102, 103, 104, 105, 106, 107, 108, 109, 110, 111, 112, 113, 114, 115, 116, 117, 118, 119, 120, 121, 122] (by rfl) g_LETTERS)) (by rfl)))))))
abbrev s_with_stroke : Stmt := topS 9
theorem sc_with_stroke : FnScope ["words", "top", "stroke", "letter", "force", "at", "word"] ["words", "top", "stroke"] (defScope s_with_stroke) := ⟨rfl, rfl, rfl, by decide +kernel, rfl, by decide +kernel, by decide +kernel⟩
theorem fn_with_stroke {f : Addr} {fd : FuncData} (F : Fun K "with_stroke" "with_stroke" s_with_stroke f fd) (m_enumerate : mg "enumerate" = none) (m_int : mg "int" = none) (m_tuple : mg "tuple" = none) : FnG P w K mg base L2.CX0 1 f fd ["words", "top", "stroke"] (liftP K mg sp_with_stroke) := by
  refine FnG.ofD (k := 0) F sc_with_stroke len_with_stroke b_with_stroke ok_with_stroke fun cdv A outer s H E B quiet room => ?_
  have nd := sc_with_stroke.nd
  exact (ds_cons (ds_asg (de_var (pv 2)) (dg_tup rfl (dgs_cons (dg_name (pg_name (i := 3) nd rfl (by first | exact Or.inl rfl | exact Or.inr rfl))) (dgs_cons (dg_name (pg_name (i := 4) nd rfl (by first | exact Or.inl rfl | exact Or.inr rfl))) dgs_nil))))
  (ds_last (ds_ret (de_fnT call_tupZ cs_tuple (by rfl) m_tuple (by decide +kernel) (daw_cons (dw (de_F (df_lc (own := [("at", 5), ("word", 6)]) (ns := [5, 6]) rfl nd (di_enumT (by rfl) m_enumerate (da_cons (de_var (pv 0)) da_nil)) (blkOk_by (by kernel_rfl)) (by decide) (fun _ _ _ _ _ _ => (dg_tup rfl (dgs_cons (dg_name (pg_name (i := 5) nd rfl (by first | exact Or.inl rfl | exact Or.inr rfl))) (dgs_cons (dg_name (pg_name (i := 6) nd rfl (by first | exact Or.inl rfl | exact Or.inr rfl))) dgs_nil)))) (fun _ _ _ _ _ => dts_nil) (fun _ _ _ _ _ => (de_op op_addA ops_add (dw_var (pv 6)) (dw (de_op op_mulA ops_mul (dw_var (pv 3)) (dw (de_fnT call_int1 cs_int (by rfl) m_int (by decide +kernel) (daw_cons (dw (de_chain op_le ops_le op_ltA ops_lt (dw_var (pv 1)) (dw_var (pv 5)) (dw (de_op op_addA ops_add (dw_var (pv 1)) (dw_var (pv 4)))))) daw_nil)))))))))) daw_nil)))))
abbrev s_number_in : Stmt := topS 14
theorem sc_number_in : FnScope ["word", "longest", "sign"] ["word", "longest"] (defScope s_number_in) := ⟨rfl, rfl, rfl, by decide +kernel, rfl, by decide +kernel, by decide +kernel⟩
theorem fn_number_in {f : Addr} {fd : FuncData} (F : Fun K "number_in" "number_in" s_number_in f fd) (m_any : mg "any" = none) (m_int : mg "int" = none) (m_len : mg "len" = none) {t_FIGURES : Tok} (g_FIGURES : mg "FIGURES" = some (.str "0123456789" t_FIGURES)) : FnG P w K mg base L2.CX0 1 f fd ["word", "longest"] (liftP K mg sp_number_in) := by
  refine FnG.ofD (k := 0) F sc_number_in len_number_in b_number_in ok_number_in fun cdv A outer s H E B quiet room => ?_
  have nd := sc_number_in.nd
  exact (ds_cons (ds_if (DPW.dt (dpw_or (dt_not (dt_chain op_le ops_le op_le ops_le (dw de_int) (dw (de_fnB call_lenA cs_len (by rfl) m_len (by decide +kernel) (daw_cons (dw_var (pv 0)) daw_nil))) (dw_var (pv 1)))) (dpw_or1 (dt_val (de_fnB (cr_any rfl) cs_any (by rfl) m_any (by decide +kernel) (daw_cons (dw (de_F (df_lc (own := [("sign", 2)]) (ns := [2]) rfl nd (di_each (de_var (pv 0))) (blkOk_by (by kernel_rfl)) (by decide) (fun _ _ _ _ _ _ => (dg_name (pg_name (i := 2) nd rfl (by first | exact Or.inl rfl | exact Or.inr rfl)))) (fun _ _ _ _ _ => dts_nil) (fun _ _ _ _ _ => (de_cmp op_notInA (ops_in true) (dw_var (pv 2)) (dw (de_globS [48, 49, 50, 51, 52, 53, 54, 55, 56, 57] (by rfl) g_FIGURES)) (by rfl)))))) daw_nil))))))
  (ds_last (ds_ret de_non))
  ds_nil)
  (ds_last (ds_ret (de_if (DPW.dt (dpw_and (dt_cmp (op_eqA room.units) ops_eq (dw (de_ix (dw_var (pv 0)) (dw de_int) (fun _ _ => rfl))) (dw (de_str [48])) (nomark _)) (dpw_and1 (dt_cmp (op_neA room.units) ops_ne (dw_var (pv 0)) (dw (de_str [48])) (nomark _))))) de_non (de_fnT call_int_str cs_intS (by rfl) m_int (by decide +kernel) (daw_cons (dw_var (pv 0)) daw_nil))))))
abbrev s_stroke_in : Stmt := topS 15
theorem sc_stroke_in : FnScope ["word", "force"] ["word"] (defScope s_stroke_in) := ⟨rfl, rfl, rfl, by decide +kernel, rfl, by decide +kernel, by decide +kernel⟩
theorem fn_stroke_in {f : Addr} {fd : FuncData} (F : Fun K "stroke_in" "stroke_in" s_stroke_in f fd) (c_is_letter : Cal P w K mg base L2.CX0 1 "is_letter" sp_is_letter) (c_number_in : Cal P w K mg base L2.CX0 1 "number_in" sp_number_in) : FnG P w K mg base L2.CX0 2 f fd ["word"] (liftP K mg sp_stroke_in) := by
  refine FnG.ofD (k := 1) F sc_stroke_in len_stroke_in b_stroke_in ok_stroke_in fun cdv A outer s H E B quiet room => ?_
  have nd := sc_stroke_in.nd
  exact (ds_cons (ds_setR (fun _ h => ps_set (i := 1) nd rfl (by first | exact Or.inl rfl | exact Or.inr rfl) h) (dr_E (de_call c_number_in quiet (room.mono (by decide)) (by rfl) (da_cons (de_slice (dw_var (pv 0)) (do_some de_int) do_none) (da_cons de_int da_nil)))))
  (ds_last (ds_ret (de_if (DPW.dt (dpw_and (dt_cmp op_notN ops_isnot (dw_var (pv 1)) (dw de_non) (nomark _)) (dpw_and (dt_cmp op_gt ops_gt (dw_var (pv 1)) (dw de_int) (nomark _)) (dpw_and1 (dt_val (de_call c_is_letter quiet (room.mono (by decide)) (by rfl) (da_cons (de_ix (dw_var (pv 0)) (dw de_int) (fun _ _ => rfl)) da_nil))))))) (de_tup (da_cons (de_ix (dw_var (pv 0)) (dw de_int) (fun _ _ => rfl)) (da_cons (de_var (pv 1)) da_nil))) de_non))))
abbrev s_item_in : Stmt := topS 16
theorem sc_item_in : FnScope ["word", "words", "top", "stroke", "one"] ["word", "words", "top"] (defScope s_item_in) := ⟨rfl, rfl, rfl, by decide +kernel, rfl, by decide +kernel, by decide +kernel⟩
theorem fn_item_in {f : Addr} {fd : FuncData} (F : Fun K "item_in" "item_in" s_item_in f fd) (m_len : mg "len" = none) (m_max : mg "max" = none) {t_MAX_WORD : Tok} (g_MAX_WORD : mg "MAX_WORD" = some (.int 30 t_MAX_WORD)) {t_TEAR : Tok} (g_TEAR : mg "TEAR" = some (.str "/" t_TEAR)) (c_stroke_in : Cal P w K mg base L2.CX0 2 "stroke_in" sp_stroke_in) (c_with_stroke : Cal P w K mg base L2.CX0 1 "with_stroke" sp_with_stroke) : FnG P w K mg base L2.CX0 3 f fd ["word", "words", "top"] (liftP K mg sp_item_in) := by
  refine FnG.ofD (k := 2) F sc_item_in len_item_in b_item_in ok_item_in fun cdv A outer s H E B quiet room => ?_
  have nd := sc_item_in.nd
  exact (ds_cons (ds_if (dt_cmp (op_eqA room.units) ops_eq (dw_var (pv 0)) (dw (de_globS [47] (by rfl) g_TEAR)) (nomark _))
  (ds_last (ds_ret (de_tup (da_cons (de_cmp op_ltA ops_lt (dw_var (pv 2)) (dw (de_op op_sub ops_sub (dw (de_fnB call_lenA cs_len (by rfl) m_len (by decide +kernel) (daw_cons (dw_var (pv 1)) daw_nil))) (dw de_int))) (nomark _)) (da_cons de_non da_nil)))))
  ds_nil)
  (ds_cons (ds_setR (fun _ h => ps_set (i := 3) nd rfl (by first | exact Or.inl rfl | exact Or.inr rfl) h) (dr_E (de_call c_stroke_in quiet (room.mono (by decide)) (by rfl) (da_cons (de_var (pv 0)) da_nil))))
  (ds_cons (ds_if (DPW.dt (dpw_or (dt_cmp op_isN ops_is (dw_var (pv 3)) (dw de_non) (nomark _)) (dpw_or1 (dt_cmp op_gt ops_gt (dw (de_ix (dw_var (pv 3)) (dw de_int) (fun _ _ => rfl))) (dw (de_op op_sub ops_sub (dw (de_fnB call_lenA cs_len (by rfl) m_len (by decide +kernel) (daw_cons (dw_var (pv 1)) daw_nil))) (dw_var (pv 2)))) (nomark _)))))
  (ds_last (ds_ret (de_tup (da_cons de_bl (da_cons de_non da_nil)))))
  ds_nil)
  (ds_last (ds_ret (de_tup (da_cons (de_cmp op_le ops_le (dw (de_fnB (call_maxA rfl) cs_max (by rfl) m_max (by decide +kernel) (daw_cons (dw (de_F (df_lc (own := [("one", 4)]) (ns := [4]) rfl nd (di_each (de_call c_with_stroke quiet (room.mono (by decide)) (by rfl) (da_cons (de_var (pv 1)) (da_cons (de_var (pv 2)) (da_cons (de_var (pv 3)) da_nil))))) (blkOk_by (by kernel_rfl)) (by decide) (fun _ _ _ _ _ _ => (dg_name (pg_name (i := 4) nd rfl (by first | exact Or.inl rfl | exact Or.inr rfl)))) (fun _ _ _ _ _ => dts_nil) (fun _ _ _ _ _ => (de_fnB call_lenA cs_len (by rfl) m_len (by decide +kernel) (daw_cons (dw_var (pv 4)) daw_nil)))))) daw_nil))) (dw (de_globI (by rfl) g_MAX_WORD)) (nomark _)) (da_cons (de_var (pv 3)) da_nil))))))))
abbrev s_parse_historyX : Stmt := topS 17
theorem sc_parse_historyX : FnScope ["n", "value", "found", "words", "top", "index", "word", "fits", "item"] ["n", "value"] (defScope s_parse_historyX) := ⟨rfl, rfl, rfl, by decide +kernel, rfl, by decide +kernel, by decide +kernel⟩
theorem fn_parse_historyX {f : Addr} {fd : FuncData} (F : Fun K "parse_history" "parse_history" s_parse_historyX f fd) (m_enumerate : mg "enumerate" = none) (m_int : mg "int" = none) (m_isinstance : mg "isinstance" = none) (m_len : mg "len" = none) (m_str : mg "str" = none) {t_NOTHING : Tok} (g_NOTHING : mg "NOTHING" = some (.str "empty" t_NOTHING)) (c_item_in : Cal P w K mg base L2.CX0 3 "item_in" sp_item_in) (c_with_stroke : Cal P w K mg base L2.CX0 1 "with_stroke" sp_with_stroke) (x_BadText : FldCls K mg "BadText" "index") : FnG P w K mg base (L2.CX P w) 5 f fd ["n", "value"] (liftP K mg sp_parse_historyX) := by
  refine FnG.ofX (k := 4) F sc_parse_historyX len_parse_historyX b_parse_historyX ok_parse_historyX fun cdv A outer s H E Ed B quiet room tk => ?_
  have nd := sc_parse_historyX.nd
  exact (ds_cons (ds_if (dt_not (dt_val (de_fnB call_isi cs_isi (by rfl) m_isinstance (by decide +kernel) (daw_cons (dw_var (pv 1)) (daw_cons (dw (de_tyN (by rfl) m_str (by decide +kernel))) daw_nil)))))
  (ds_last (ds_raise rfl tk (dx_fld x_BadText room (da_cons de_non da_nil) (by rfl))))
  ds_nil)
  (ds_cons (ds_par3 (fun _ h => ps_par3 (i := 2) (j := 3) (l := 4) rfl nd rfl rfl rfl (by decide) (by decide) (by decide) rfl rfl rfl h (by rfl)) (da_cons (de_tup da_nil) (da_cons (de_op op_mulA ops_mul (dw (de_tup (da_cons (de_str []) da_nil))) (dw_var (pv 0))) (da_cons de_int da_nil))))
  (ds_cons (ds_for (passes_of rfl) rfl (di_enum (by rfl) m_enumerate (da_cons (de_if (dt_cmp (op_eqA room.units) ops_eq (dw_var (pv 1)) (dw (de_globS [101, 109, 112, 116, 121] (by rfl) g_NOTHING)) (nomark _)) (de_lst da_nil) (de_mt PySem.F.plainAttrs_str PySem.F.slot_str_split PySem.F.type_str_split mt_split ms_split (dw_var (pv 1)) (daw_cons (dw (de_str [32])) daw_nil))) da_nil)) (dg_tup rfl (dgs_cons (dg_name (pg_name (i := 5) nd rfl (by first | exact Or.inl rfl | exact Or.inr rfl))) (dgs_cons (dg_name (pg_name (i := 6) nd rfl (by first | exact Or.inl rfl | exact Or.inr rfl))) dgs_nil)))
  (ds_cons (ds_asg (de_call c_item_in quiet (room.mono (by decide)) (by rfl) (da_cons (de_var (pv 6)) (da_cons (de_var (pv 3)) (da_cons (de_var (pv 4)) da_nil)))) (dg_tup rfl (dgs_cons (dg_name (pg_name (i := 7) nd rfl (by first | exact Or.inl rfl | exact Or.inr rfl))) (dgs_cons (dg_name (pg_name (i := 8) nd rfl (by first | exact Or.inl rfl | exact Or.inr rfl))) dgs_nil))))
  (ds_cons (ds_if (dt_not (dt_val (de_var (pv 7))))
  (ds_last (ds_raise rfl tk (dx_fld x_BadText room (da_cons (de_var (pv 5)) da_nil) (by rfl))))
  ds_nil)
  (dss_nox (ds_cons (ds_setR (fun _ h => ps_set (i := 4) nd rfl (by first | exact Or.inl rfl | exact Or.inr rfl) h) (dr_E (de_op op_addA ops_add (dw_var (pv 4)) (dw (de_fnT call_int1 cs_int (by rfl) m_int (by decide +kernel) (daw_cons (dw (de_cmp op_isN ops_is (dw_var (pv 8)) (dw de_non) (nomark _))) daw_nil))))))
  (ds_cons (ds_setR (fun _ h => ps_set (i := 3) nd rfl (by first | exact Or.inl rfl | exact Or.inr rfl) h) (dr_E (de_if (dt_cmp op_isN ops_is (dw_var (pv 8)) (dw de_non) (nomark _)) (de_var (pv 3)) (de_call c_with_stroke quiet (room.mono (by decide)) (by rfl) (da_cons (de_var (pv 3)) (da_cons (de_var (pv 4)) (da_cons (de_var (pv 8)) da_nil)))))))
  (ds_last (ds_setR (fun _ h => ps_set (i := 2) nd rfl (by first | exact Or.inl rfl | exact Or.inr rfl) h) (dr_E (de_tup (da_star (dw_var (pv 2)) (da_cons (de_var (pv 8)) da_nil))))))))))))
  (ds_cons (ds_if (dt_cmp op_ltA ops_lt (dw_var (pv 4)) (dw (de_op op_sub ops_sub (dw_var (pv 0)) (dw de_int))) (nomark _))
  (ds_last (ds_raise rfl tk (dx_fld x_BadText room (da_cons (de_fnB call_lenA cs_len (by rfl) m_len (by decide +kernel) (daw_cons (dw_var (pv 2)) daw_nil)) da_nil) (by rfl))))
  ds_nil)
  (dss_nox (ds_last (ds_retName (pv 2))))))))
abbrev s_lawT_number_in : Stmt := topS 19
theorem sc_lawT_number_in : FnScope ["_law_word", "_law_most", "_law_strange", "_law_sign"] ["_law_word", "_law_most"] (defScope s_lawT_number_in) := ⟨rfl, rfl, rfl, by decide +kernel, rfl, by decide +kernel, by decide +kernel⟩
theorem fn_lawT_number_in {f : Addr} {fd : FuncData} (F : Fun K "_law_number_in" "_law_number_in" s_lawT_number_in f fd) (m_int : mg "int" = none) (m_len : mg "len" = none) : FnG P w K mg base L2.CX0 1 f fd ["_law_word", "_law_most"] (liftP K mg sp_lawT_number_in) := by
  refine FnG.ofD (k := 0) F sc_lawT_number_in len_lawT_number_in b_lawT_number_in ok_lawT_number_in fun cdv A outer s H E B quiet room => ?_
  have nd := sc_lawT_number_in.nd
  exact (ds_cons (ds_setLc (i := 2) (own := [("_law_sign", 3)]) (ns := [3]) rfl nd rfl rfl (sw_true rfl rfl rfl (by decide +kernel)) (di_each (de_var (pv 0))) (blkOk_by (by kernel_rfl)) (by decide) (fun _ _ _ _ _ _ => (dg_name (pg_name (i := 3) nd rfl (by first | exact Or.inl rfl | exact Or.inr rfl)))) (fun _ _ _ _ _ => (dts_one (dt_cmp op_notInA (ops_in true) (dw_var (pv 3)) (dw (de_str [48, 49, 50, 51, 52, 53, 54, 55, 56, 57])) (by rfl)))) (fun _ _ _ _ _ => (de_var (pv 3))) (hr := fun _ _ _ _ _ q => lr_val q))
  (ds_cons (ds_if (DPW.dt (dpw_or (dt_cmp (op_eqA room.units) ops_eq (dw_var (pv 0)) (dw (de_str [])) (nomark _)) (dpw_or (dt_cmp op_gt ops_gt (dw (de_fnB call_lenA cs_len (by rfl) m_len (by decide +kernel) (daw_cons (dw_var (pv 0)) daw_nil))) (dw_var (pv 1)) (nomark _)) (dpw_or1 (dt_cmp (op_neNil room.units) (ops_nilC _) (dw_var (pv 2)) (dw (de_lst da_nil)) (nomark _))))))
  (ds_last (ds_ret de_non))
  ds_nil)
  (ds_last (ds_ret (de_if (DPW.dt (dpw_and (dt_cmp (op_eqA room.units) ops_eq (dw (de_ix (dw_var (pv 0)) (dw de_int) (fun _ _ => rfl))) (dw (de_str [48])) (nomark _)) (dpw_and1 (dt_cmp (op_neA room.units) ops_ne (dw_var (pv 0)) (dw (de_str [48])) (nomark _))))) de_non (de_fnT call_int_str cs_intS (by rfl) m_int (by decide +kernel) (daw_cons (dw_var (pv 0)) daw_nil)))))))
abbrev s_law_is_letter : Stmt := topS 20
theorem sc_law_is_letter : FnScope ["_law_value"] ["_law_value"] (defScope s_law_is_letter) := ⟨rfl, rfl, rfl, by decide +kernel, rfl, by decide +kernel, by decide +kernel⟩
theorem fn_law_is_letter {f : Addr} {fd : FuncData} (F : Fun K "_law_is_letter" "_law_is_letter" s_law_is_letter f fd) (m_isinstance : mg "isinstance" = none) (m_len : mg "len" = none) (m_str : mg "str" = none) : FnG P w K mg base L2.CX0 1 f fd ["_law_value"] (liftP K mg sp_law_is_letter) := by
  refine FnG.ofD (k := 0) F sc_law_is_letter len_law_is_letter b_law_is_letter ok_law_is_letter fun cdv A outer s H E B quiet room => ?_
  have nd := sc_law_is_letter.nd
  exact (ds_last (ds_ret (de_and (de_fnB call_isi cs_isi (by rfl) m_isinstance (by decide +kernel) (daw_cons (dw_var (pv 0)) (daw_cons (dw (de_tyN (by rfl) m_str (by decide +kernel))) daw_nil))) (de_and (de_cmp (op_eqA room.units) ops_eq (dw (de_fnB call_lenA cs_len (by rfl) m_len (by decide +kernel) (daw_cons (dw_var (pv 0)) daw_nil))) (dw de_int) (nomark _)) (de_one (de_cmp op_inA (ops_in false) (dw_var (pv 0)) (dw (de_str [97, 98, 99, 100, 101, 102, 103, 104, 105, 106, 107, 108, 109, 110, 111, 112, 113, 114, 115, 116, 117, 118, 119, 120, 121, 122])) (by rfl)))))))
abbrev s_lawT_written : Stmt := topS 21
theorem sc_lawT_written : FnScope ["_law_n", "_law_history_here", "_law_words", "_law_top", "_law_item_here", "_law_at"] ["_law_n", "_law_history_here"] (defScope s_lawT_written) := ⟨rfl, rfl, rfl, by decide +kernel, rfl, by decide +kernel, by decide +kernel⟩
theorem fn_lawT_written {f : Addr} {fd : FuncData} (F : Fun K "_law_written" "_law_written" s_lawT_written f fd) (m_range : mg "range" = none) (m_tuple : mg "tuple" = none) : FnG P w K mg base L2.CX0 1 f fd ["_law_n", "_law_history_here"] (liftP K mg sp_lawT_written) := by
  refine FnG.ofD (k := 0) F sc_lawT_written len_lawT_written b_lawT_written ok_lawT_written fun cdv A outer s H E B quiet room => ?_
  have nd := sc_lawT_written.nd
  exact (ds_cons (ds_par2 (by decide) (fun _ h => ps_par (i := 2) (j := 3) rfl nd rfl rfl (by decide) rfl rfl h (by rfl)) (dr_F (df_mul (dw (de_lst (da_cons (de_str []) da_nil))) (dw_var (pv 0)))) (dr_E de_int))
  (ds_cons (ds_for PassesOwn.never rfl (di_each (de_var (pv 1))) (dg_name (pg_name (i := 4) nd rfl (by first | exact Or.inl rfl | exact Or.inr rfl)))
  (ds_last (ds_if (dt_cmp op_isN ops_is (dw_var (pv 4)) (dw de_non) (nomark _))
  (ds_last (ds_setR (fun _ h => ps_set (i := 3) nd rfl (by first | exact Or.inl rfl | exact Or.inr rfl) h) (dr_E (de_op op_addA ops_add (dw_var (pv 3)) (dw de_int)))))
  (ds_last (ds_for PassesOwn.never rfl (di_rng2 (by rfl) m_range (da_cons (de_var (pv 3)) (da_cons (de_op op_addA ops_add (dw_var (pv 3)) (dw (de_ix (dw_var (pv 4)) (dw de_int) (fun _ _ => rfl)))) da_nil))) (dg_name (pg_name (i := 5) nd rfl (by first | exact Or.inl rfl | exact Or.inr rfl)))
  (ds_last (ds_put (pv 2) (de_op op_addA ops_add (dw (de_ix (dw_var (pv 2)) (dw_var (pv 5)) (fun _ _ => rfl))) (dw (de_ix (dw_var (pv 4)) (dw de_int) (fun _ _ => rfl)))) (dw_var (pv 5)))))))))
  (ds_last (ds_ret (de_fnT call_tupZ cs_tuple (by rfl) m_tuple (by decide +kernel) (daw_cons (dw_var (pv 2)) daw_nil))))))
abbrev s_law_deck : Stmt := topS 22
theorem sc_law_deck : FnScope ["_law_script", "_law_cells", "_law_cell"] ["_law_script"] (defScope s_law_deck) := ⟨rfl, rfl, rfl, by decide +kernel, rfl, by decide +kernel, by decide +kernel⟩
theorem fn_law_deck {f : Addr} {fd : FuncData} (F : Fun K "_law_deck" "_law_deck" s_law_deck f fd) (m_abs : mg "abs" = none) (m_len : mg "len" = none) : FnG P w K mg base L2.CX0 1 f fd ["_law_script"] (liftP K mg sp_law_deck) := by
  refine FnG.ofD (k := 0) F sc_law_deck len_law_deck b_law_deck ok_law_deck fun cdv A outer s H E B quiet room => ?_
  have nd := sc_law_deck.nd
  exact (ds_cons (ds_setLc (i := 1) (own := [("_law_cell", 2)]) (ns := [2]) rfl nd rfl rfl (sw_true rfl rfl rfl (by decide +kernel)) (di_each (de_var (pv 0))) (blkOk_by (by kernel_rfl)) (by decide) (fun _ _ _ _ _ _ => (dg_name (pg_name (i := 2) nd rfl (by first | exact Or.inl rfl | exact Or.inr rfl)))) (fun _ _ _ _ _ => dts_nil) (fun _ _ _ _ _ => (de_fnB call_abs cs_abs (by rfl) m_abs (by decide +kernel) (daw_cons (dw_var (pv 2)) daw_nil))) (hr := fun _ _ _ _ _ q => lr_val q))
  (ds_last (ds_ret (de_M (df_lst (da_cons (de_M (df_lc (own := [("_law_cell", 2)]) (ns := [2]) rfl nd (di_each (de_var (pv 1))) (blkOk_by (by kernel_rfl)) (by decide) (fun _ _ _ _ _ _ => (dg_name (pg_name (i := 2) nd rfl (by first | exact Or.inl rfl | exact Or.inr rfl)))) (fun _ _ _ _ _ => (dts_one (dt_cmp op_ge ops_ge (dw_var (pv 2)) (dw (de_op op_pow ops_pow (dw de_int) (dw de_int))) (nomark _)))) (fun _ _ _ _ _ => (de_var (pv 2))))) (da_cons (de_op op_addA ops_add (dw_var (pv 1)) (dw (de_lst (da_cons (de_op op_addA ops_add (dw (de_fnB call_lenA cs_len (by rfl) m_len (by decide +kernel) (daw_cons (dw_var (pv 1)) daw_nil))) (dw de_int)) da_nil)))) (da_cons de_int da_nil))))))))
abbrev s_law_draw : Stmt := topS 23
theorem sc_law_draw : FnScope ["_law_deck_here", "_law_below", "_law_rest", "_law_cell", "_law_mixed"] ["_law_deck_here", "_law_below"] (defScope s_law_draw) := ⟨rfl, rfl, rfl, by decide +kernel, rfl, by decide +kernel, by decide +kernel⟩
theorem fn_law_draw {f : Addr} {fd : FuncData} (F : Fun K "_law_draw" "_law_draw" s_law_draw f fd) (m_len : mg "len" = none) : FnG P w K mg base L2.CX0 1 f fd ["_law_deck_here", "_law_below"] (liftP K mg sp_law_draw) := by
  refine FnG.ofD (k := 0) F sc_law_draw len_law_draw b_law_draw ok_law_draw fun cdv A outer s H E B quiet room => ?_
  have nd := sc_law_draw.nd
  exact (ds_cons (ds_while PassesOwn.never (dt_cmp (op_neA room.units) ops_neR (dw (de_ix (dw_var (pv 0)) (dw de_int) (fun _ _ => rfl))) (dw (de_lst da_nil)) (nomark _))
  (ds_cons (ds_setR (fun _ h => ps_set (i := 2) nd rfl (by first | exact Or.inl rfl | exact Or.inr rfl) h) (dr_E (de_ix (dw (de_ix (dw_var (pv 0)) (dw de_int) (fun _ _ => rfl))) (dw de_int) (fun _ _ => rfl))))
  (ds_cons (ds_if (dt_cmp op_gt ops_gt (dw_var (pv 2)) (dw de_int) (nomark _))
  (ds_cons (ds_putM (de_op op_divA ops_div (dw_var (pv 2)) (dw_var (pv 1))) (de_ix (dw_var (pv 0)) (dw de_int) (fun _ _ => rfl)) (dw de_int))
  (ds_last (ds_ret (de_op op_mod ops_mod (dw_var (pv 2)) (dw_var (pv 1))))))
  ds_nil)
  (ds_last (ds_expr (de_mt PySem.F.plainAttrs_list PySem.F.slot_list_pop PySem.F.type_list_pop mt_popAt mts_popAt (dw (de_ix (dw_var (pv 0)) (dw de_int) (fun _ _ => rfl))) (daw_cons (dw de_int) daw_nil)))))))
  (ds_cons (ds_putM (de_op op_addA ops_add (dw (de_ix (dw_var (pv 0)) (dw de_int) (fun _ _ => rfl))) (dw de_int)) (de_var (pv 0)) (dw de_int))
  (ds_cons (ds_setR (fun _ h => ps_set (i := 3) nd rfl (by first | exact Or.inl rfl | exact Or.inr rfl) h) (dr_E (de_op op_mod ops_mod (dw (de_ix (dw (de_ix (dw_var (pv 0)) (dw de_int) (fun _ _ => rfl))) (dw (de_op op_mod ops_mod (dw (de_ix (dw_var (pv 0)) (dw de_int) (fun _ _ => rfl))) (dw (de_fnB call_lenA cs_len (by rfl) m_len (by decide +kernel) (daw_cons (dw (de_ix (dw_var (pv 0)) (dw de_int) (fun _ _ => rfl))) daw_nil))))) (fun _ _ => rfl))) (dw de_int))))
  (ds_cons (ds_setR (fun _ h => ps_set (i := 4) nd rfl (by first | exact Or.inl rfl | exact Or.inr rfl) h) (dr_E (de_op op_addA ops_add (dw (de_op op_mulA ops_mul (dw_var (pv 3)) (dw (de_op op_addA ops_add (dw de_int) (dw (de_op op_mulA ops_mul (dw de_int) (dw (de_ix (dw_var (pv 0)) (dw de_int) (fun _ _ => rfl))))))))) (dw de_int))))
  (ds_cons (ds_setR (fun _ h => ps_set (i := 4) nd rfl (by first | exact Or.inl rfl | exact Or.inr rfl) h) (dr_E (de_op op_mod ops_mod (dw (de_op op_addA ops_add (dw_var (pv 4)) (dw (de_op op_mulA ops_mul (dw (de_op op_mulA ops_mul (dw de_int) (dw (de_ix (dw_var (pv 0)) (dw de_int) (fun _ _ => rfl))))) (dw (de_ix (dw_var (pv 0)) (dw de_int) (fun _ _ => rfl))))))) (dw de_int))))
  (ds_last (ds_ret (de_op op_mod ops_mod (dw (de_op op_divA ops_div (dw (de_op op_mod ops_mod (dw (de_op op_mulA ops_mul (dw_var (pv 4)) (dw_var (pv 4)))) (dw de_int))) (dw de_int))) (dw_var (pv 1))))))))))
abbrev s_lawA_odd : Stmt := topS 24
theorem sc_lawA_odd : FnScope ["_law_deck_here", "_law_some"] ["_law_deck_here"] (defScope s_lawA_odd) := ⟨rfl, rfl, rfl, by decide +kernel, rfl, by decide +kernel, by decide +kernel⟩
theorem fn_lawA_odd {f : Addr} {fd : FuncData} (F : Fun K "_law_odd" "_law_odd" s_lawA_odd f fd) (c_law_draw : Cal P w K mg base L2.CX0 1 "_law_draw" sp_law_draw) : FnG P w K mg base L2.CX0 2 f fd ["_law_deck_here"] (liftP K mg sp_lawA_odd) := by
  refine FnG.ofD (k := 1) F sc_lawA_odd len_lawA_odd b_lawA_odd ok_lawA_odd fun cdv A outer s H E B quiet room => ?_
  have nd := sc_lawA_odd.nd
  exact (ds_cons (ds_setR (fun _ h => ps_set (i := 1) nd rfl (by first | exact Or.inl rfl | exact Or.inr rfl) h) (dr_E (de_lst (da_cons de_non (da_cons de_bl (da_cons de_bl (da_cons (de_neg de_int) (da_cons de_int (da_cons de_int (da_cons de_int (da_cons de_int (da_cons de_int (da_cons (de_op op_pow ops_pow (dw de_int) (dw de_int)) (da_cons (de_str []) (da_cons (de_str [97]) (da_cons (de_str [65]) (da_cons (de_str [97, 98]) (da_cons (de_str [97, 32, 98]) (da_cons (de_tup da_nil) (da_cons (de_lst da_nil) (da_cons de_dict0 da_nil)))))))))))))))))))))
  (ds_last (ds_ret (de_ix (dw (de_op op_addA ops_add (dw_var (pv 1)) (dw (de_lst (da_cons (de_tup (da_cons de_int da_nil)) (da_cons (de_lst (da_cons de_int da_nil)) (da_cons (de_tup (da_cons (de_str [97]) (da_cons de_int da_nil))) (da_cons (de_tup (da_cons (de_str [97]) da_nil)) (da_cons (de_dict1 (s := [97]) (by rfl)) (da_cons (de_tup (da_cons de_non (da_cons de_int da_nil))) (da_cons (de_tup (da_cons (de_str [97]) (da_cons de_bl da_nil))) (da_cons (de_tup (da_cons (de_str []) (da_cons (de_str [98]) da_nil))) da_nil)))))))))))) (dw (de_call c_law_draw quiet (room.mono (by decide)) (by rfl) (da_cons (de_var (pv 0)) (da_cons de_int da_nil)))) (fun _ _ => rfl)))))
abbrev s_lawA_same : Stmt := topS 25
theorem sc_lawA_same : FnScope ["_law_found", "_law_due_here"] ["_law_found", "_law_due_here"] (defScope s_lawA_same) := ⟨rfl, rfl, rfl, by decide +kernel, rfl, by decide +kernel, by decide +kernel⟩
theorem fn_lawA_same {f : Addr} {fd : FuncData} (F : Fun K "_law_same" "_law_same" s_lawA_same f fd) (m_repr : mg "repr" = none) : FnG P w K mg base L2.CX0 1 f fd ["_law_found", "_law_due_here"] (liftP K mg sp_lawA_same) := by
  refine FnG.ofD (k := 0) F sc_lawA_same len_lawA_same b_lawA_same ok_lawA_same fun cdv A outer s H E B quiet room => ?_
  have nd := sc_lawA_same.nd
  exact (ds_last (ds_ret (de_cmp (op_eqA room.units) ops_eq (dw (de_fnB (call_reprO quiet room.units) cs_reprO (by rfl) m_repr (by decide +kernel) (daw_cons (dw_var (pv 0)) daw_nil))) (dw (de_fnB (call_reprO quiet room.units) cs_reprO (by rfl) m_repr (by decide +kernel) (daw_cons (dw_var (pv 1)) daw_nil))) (nomark _))))
abbrev s_law_history_text : Stmt := topS 26
theorem sc_law_history_text : FnScope ["_law_history_here", "_law_found", "_law_item_here"] ["_law_history_here"] (defScope s_law_history_text) := ⟨rfl, rfl, rfl, by decide +kernel, rfl, by decide +kernel, by decide +kernel⟩
theorem fn_law_history_text {f : Addr} {fd : FuncData} (F : Fun K "_law_history_text" "_law_history_text" s_law_history_text f fd) (m_str : mg "str" = none) : FnG P w K mg base L2.CX0 1 f fd ["_law_history_here"] (liftP K mg sp_law_history_text) := by
  refine FnG.ofD (k := 0) F sc_law_history_text len_law_history_text b_law_history_text ok_law_history_text fun cdv A outer s H E B quiet room => ?_
  have nd := sc_law_history_text.nd
  exact (ds_cons (ds_setLc (i := 1) (own := [("_law_item_here", 2)]) (ns := [2]) rfl nd rfl rfl (sw_true rfl rfl rfl (by decide +kernel)) (di_each (de_var (pv 0))) (blkOk_by (by kernel_rfl)) (by decide) (fun _ _ _ _ _ _ => (dg_name (pg_name (i := 2) nd rfl (by first | exact Or.inl rfl | exact Or.inr rfl)))) (fun _ _ _ _ _ => dts_nil) (fun _ _ _ _ _ => (de_if (dt_cmp op_isN ops_is (dw_var (pv 2)) (dw de_non) (nomark _)) (de_str [47]) (de_op op_addA ops_add (dw (de_ix (dw_var (pv 2)) (dw de_int) (fun _ _ => rfl))) (dw (de_fnT call_str_int cs_str (by rfl) m_str (by decide +kernel) (daw_cons (dw (de_ix (dw_var (pv 2)) (dw de_int) (fun _ _ => rfl))) daw_nil)))))) (hr := fun _ _ _ _ _ q => lr_val q))
  (ds_last (ds_ret (de_orT (de_mt PySem.F.plainAttrs_str PySem.F.slot_str_join PySem.F.type_str_join mt_join ms_join (dw (de_str [32])) (daw_cons (dw_var (pv 1)) daw_nil)) (de_one (de_str [101, 109, 112, 116, 121]))))))
abbrev s_law_history : Stmt := topS 27
theorem sc_law_history : FnScope ["_law_deck_here", "_law_n", "_law_most", "_law_found", "_law_left", "_law_k"] ["_law_deck_here", "_law_n", "_law_most"] (defScope s_law_history) := ⟨rfl, rfl, rfl, by decide +kernel, rfl, by decide +kernel, by decide +kernel⟩
theorem fn_law_history {f : Addr} {fd : FuncData} (F : Fun K "_law_history" "_law_history" s_law_history f fd) (m_range : mg "range" = none) (m_tuple : mg "tuple" = none) (c_law_draw : Cal P w K mg base L2.CX0 1 "_law_draw" sp_law_draw) : FnG P w K mg base L2.CX0 2 f fd ["_law_deck_here", "_law_n", "_law_most"] (liftP K mg sp_law_history) := by
  refine FnG.ofD (k := 1) F sc_law_history len_law_history b_law_history ok_law_history fun cdv A outer s H E B quiet room => ?_
  have nd := sc_law_history.nd
  exact (ds_cons (ds_par2 (by decide) (fun _ h => ps_par (i := 3) (j := 4) rfl nd rfl rfl (by decide) rfl rfl h (by rfl)) (dr_F (df_lst da_nil)) (dr_E (de_var (pv 1))))
  (ds_cons (ds_for PassesOwn.never rfl (di_rng1 (by rfl) m_range (da_cons (de_call c_law_draw quiet (room.mono (by decide)) (by rfl) (da_cons (de_var (pv 0)) (da_cons (de_op op_addA ops_add (dw_var (pv 2)) (dw de_int)) da_nil))) da_nil)) (dg_name (pg_name (i := 5) nd rfl (by first | exact Or.inl rfl | exact Or.inr rfl)))
  (ds_cons (ds_if (DPW.dt (dpw_and (dt_cmp op_gt ops_gt (dw_var (pv 4)) (dw de_int) (nomark _)) (dpw_and1 (dt_cmp (op_eqA room.units) ops_eq (dw (de_call c_law_draw quiet (room.mono (by decide)) (by rfl) (da_cons (de_var (pv 0)) (da_cons de_int da_nil)))) (dw de_int) (nomark _)))))
  (ds_cons (ds_app (fun _ h => ps_expr (pe_bm PySem.F.plainAttrs_list PySem.F.slot_list_append PySem.F.type_list_append mt_append (pv 3) h)) de_non)
  (ds_last (ds_setR (fun _ h => ps_set (i := 4) nd rfl (by first | exact Or.inl rfl | exact Or.inr rfl) h) (dr_E (de_op op_sub ops_sub (dw_var (pv 4)) (dw de_int))))))
  ds_nil)
  (ds_last (ds_app (fun _ h => ps_expr (pe_bm PySem.F.plainAttrs_list PySem.F.slot_list_append PySem.F.type_list_append mt_append (pv 3) h)) (de_tup (da_cons (de_ix (dw (de_str [97, 98, 99, 122])) (dw (de_call c_law_draw quiet (room.mono (by decide)) (by rfl) (da_cons (de_var (pv 0)) (da_cons de_int da_nil)))) (fun _ _ => rfl)) (da_cons (de_op op_addA ops_add (dw de_int) (dw (de_call c_law_draw quiet (room.mono (by decide)) (by rfl) (da_cons (de_var (pv 0)) (da_cons (de_var (pv 4)) da_nil))))) da_nil)))))))
  (ds_last (ds_ret (de_fnT call_tupZ cs_tuple (by rfl) m_tuple (by decide +kernel) (daw_cons (dw (de_op op_addA ops_add (dw_var (pv 3)) (dw (de_op op_mulA ops_mul (dw (de_lst (da_cons de_non da_nil))) (dw (de_op op_sub ops_sub (dw_var (pv 4)) (dw de_int))))))) daw_nil))))))
abbrev s_law_spoilt : Stmt := topS 28
theorem sc_law_spoilt : FnScope ["_law_deck_here", "_law_word", "_law_at", "_law_sign", "_law_parts", "_law_k", "_law_some"] ["_law_deck_here", "_law_word"] (defScope s_law_spoilt) := ⟨rfl, rfl, rfl, by decide +kernel, rfl, by decide +kernel, by decide +kernel⟩
theorem fn_law_spoilt {f : Addr} {fd : FuncData} (F : Fun K "_law_spoilt" "_law_spoilt" s_law_spoilt f fd) (m_len : mg "len" = none) (c_law_draw : Cal P w K mg base L2.CX0 1 "_law_draw" sp_law_draw) : FnG P w K mg base L2.CX0 2 f fd ["_law_deck_here", "_law_word"] (liftP K mg sp_law_spoilt) := by
  refine FnG.ofD (k := 1) F sc_law_spoilt len_law_spoilt b_law_spoilt ok_law_spoilt fun cdv A outer s H E B quiet room => ?_
  have nd := sc_law_spoilt.nd
  exact (ds_cons (ds_setR (fun _ h => ps_set (i := 2) nd rfl (by first | exact Or.inl rfl | exact Or.inr rfl) h) (dr_E (de_call c_law_draw quiet (room.mono (by decide)) (by rfl) (da_cons (de_var (pv 0)) (da_cons (de_op op_addA ops_add (dw (de_fnB call_lenA cs_len (by rfl) m_len (by decide +kernel) (daw_cons (dw_var (pv 1)) daw_nil))) (dw de_int)) da_nil)))))
  (ds_cons (ds_setR (fun _ h => ps_set (i := 3) nd rfl (by first | exact Or.inl rfl | exact Or.inr rfl) h) (dr_E (de_ix (dw (de_str [32, 48, 49, 50, 57, 45, 47, 97, 98, 122, 65, 10])) (dw (de_call c_law_draw quiet (room.mono (by decide)) (by rfl) (da_cons (de_var (pv 0)) (da_cons de_int da_nil)))) (fun _ _ => rfl))))
  (ds_cons (ds_setR (fun _ h => ps_set (i := 4) nd rfl (by first | exact Or.inl rfl | exact Or.inr rfl) h) (dr_E (de_mt PySem.F.plainAttrs_str PySem.F.slot_str_split PySem.F.type_str_split mt_split ms_split (dw_var (pv 1)) (daw_cons (dw (de_str [32])) daw_nil))))
  (ds_cons (ds_setR (fun _ h => ps_set (i := 5) nd rfl (by first | exact Or.inl rfl | exact Or.inr rfl) h) (dr_E (de_call c_law_draw quiet (room.mono (by decide)) (by rfl) (da_cons (de_var (pv 0)) (da_cons (de_fnB call_lenA cs_len (by rfl) m_len (by decide +kernel) (daw_cons (dw_var (pv 4)) daw_nil)) da_nil)))))
  (ds_cons (ds_setR (fun _ h => ps_set (i := 6) nd rfl (by first | exact Or.inl rfl | exact Or.inr rfl) h) (dr_F (df_lst (da_cons (de_op op_addA ops_add (dw (de_op op_addA ops_add (dw (de_slice (dw_var (pv 1)) do_none (do_some (de_var (pv 2))))) (dw_var (pv 3)))) (dw (de_slice (dw_var (pv 1)) (do_some (de_var (pv 2))) do_none))) (da_cons (de_op op_addA ops_add (dw (de_op op_addA ops_add (dw (de_slice (dw_var (pv 1)) do_none (do_some (de_var (pv 2))))) (dw_var (pv 3)))) (dw (de_slice (dw_var (pv 1)) (do_some (de_op op_addA ops_add (dw_var (pv 2)) (dw de_int))) do_none))) (da_cons (de_op op_addA ops_add (dw (de_slice (dw_var (pv 1)) do_none (do_some (de_var (pv 2))))) (dw (de_slice (dw_var (pv 1)) (do_some (de_op op_addA ops_add (dw_var (pv 2)) (dw de_int))) do_none))) (da_cons (de_slice (dw_var (pv 1)) do_none (do_some (de_var (pv 2)))) da_nil)))))))
  (ds_cons (ds_setR (fun _ h => ps_set (i := 6) nd rfl (by first | exact Or.inl rfl | exact Or.inr rfl) h) (dr_F (df_add (dw_var (pv 6)) (dw (de_lst (da_cons (de_mt PySem.F.plainAttrs_str PySem.F.slot_str_join PySem.F.type_str_join mt_join ms_join (dw (de_str [32])) (daw_cons (dw (de_op op_addA ops_add (dw (de_slice (dw_var (pv 4)) do_none (do_some (de_var (pv 5))))) (dw (de_slice (dw_var (pv 4)) (do_some (de_op op_addA ops_add (dw_var (pv 5)) (dw de_int))) do_none)))) daw_nil)) (da_cons (de_mt PySem.F.plainAttrs_str PySem.F.slot_str_join PySem.F.type_str_join mt_join ms_join (dw (de_str [32])) (daw_cons (dw (de_op op_addA ops_add (dw (de_slice (dw_var (pv 4)) do_none (do_some (de_op op_addA ops_add (dw_var (pv 5)) (dw de_int))))) (dw (de_slice (dw_var (pv 4)) (do_some (de_var (pv 5))) do_none)))) daw_nil)) (da_cons (de_op op_addA ops_add (dw_var (pv 1)) (dw (de_str [10]))) (da_cons (de_op op_addA ops_add (dw (de_str [32])) (dw_var (pv 1))) da_nil)))))))))
  (ds_cons (ds_setR (fun _ h => ps_set (i := 6) nd rfl (by first | exact Or.inl rfl | exact Or.inr rfl) h) (dr_F (df_add (dw_var (pv 6)) (dw (de_lst (da_consG (deg_opC op_addA ops_add (dw_var (pv 1)) [32]) (dat_cons (det_of (de_mt PySem.F.plainAttrs_str PySem.F.slot_str_join PySem.F.type_str_join mt_join ms_join (dw (de_str [32])) (daw_cons (dw (de_op op_addA ops_add (dw (de_op op_addA ops_add (dw (de_slice (dw_var (pv 4)) do_none (do_some (de_var (pv 5))))) (dw (de_lst (da_cons (de_str [47]) da_nil))))) (dw (de_slice (dw_var (pv 4)) (do_some (de_var (pv 5))) do_none)))) daw_nil))) (dat_cons (det_repl (de_var (pv 1)) [32] [32, 32]) (dat_cons (det_of (de_mt0 PySem.F.plainAttrs_str PySem.F.slot_str_upper PySem.F.type_str_upper mt_upper ms_upper (dw_var (pv 1)))) dat_nil)))))))))
  (ds_cons (ds_app (fun _ h => ps_expr (pe_bm PySem.F.plainAttrs_list PySem.F.slot_list_append PySem.F.type_list_append mt_append (pv 6) h)) (de_mt PySem.F.plainAttrs_str PySem.F.slot_str_join PySem.F.type_str_join mt_join ms_join (dw (de_str [32])) (daw_cons (dw (de_op op_addA ops_add (dw (de_op op_addA ops_add (dw (de_slice (dw_var (pv 4)) do_none (do_some (de_var (pv 5))))) (dw (de_lst (da_cons (de_str [97, 49]) da_nil))))) (dw (de_slice (dw_var (pv 4)) (do_some (de_op op_addA ops_add (dw_var (pv 5)) (dw de_int))) do_none)))) daw_nil)))
  (ds_last (ds_ret (de_ix (dw_var (pv 6)) (dw (de_call c_law_draw quiet (room.mono (by decide)) (by rfl) (da_cons (de_var (pv 0)) (da_cons de_int da_nil)))) (fun _ _ => rfl))))))))))))
abbrev s_lawT_item : Stmt := topS 29
theorem sc_lawT_item : FnScope ["_law_word", "_law_left", "_law_force"] ["_law_word", "_law_left"] (defScope s_lawT_item) := ⟨rfl, rfl, rfl, by decide +kernel, rfl, by decide +kernel, by decide +kernel⟩
theorem fn_lawT_item {f : Addr} {fd : FuncData} (F : Fun K "_law_item" "_law_item" s_lawT_item f fd) (c_law_is_letter : Cal P w K mg base L2.CX0 1 "_law_is_letter" sp_law_is_letter) (c_lawT_number_in : Cal P w K mg base L2.CX0 1 "_law_number_in" sp_lawT_number_in) : FnG P w K mg base L2.CX0 2 f fd ["_law_word", "_law_left"] (liftP K mg sp_lawT_item) := by
  refine FnG.ofD (k := 1) F sc_lawT_item len_lawT_item b_lawT_item ok_lawT_item fun cdv A outer s H E B quiet room => ?_
  have nd := sc_lawT_item.nd
  exact (ds_cons (ds_if (dt_cmp (op_eqA room.units) ops_eq (dw_var (pv 0)) (dw (de_str [47])) (nomark _))
  (ds_last (ds_ret (de_if (dt_cmp op_gt ops_gt (dw_var (pv 1)) (dw de_int) (nomark _)) de_non (de_str [119, 114, 111, 110, 103]))))
  ds_nil)
  (ds_cons (ds_setR (fun _ h => ps_set (i := 2) nd rfl (by first | exact Or.inl rfl | exact Or.inr rfl) h) (dr_E (de_call c_lawT_number_in quiet (room.mono (by decide)) (by rfl) (da_cons (de_slice (dw_var (pv 0)) (do_some de_int) do_none) (da_cons de_int da_nil)))))
  (ds_cons (ds_if (DPW.dt (dpw_or (dt_not (dt_val (de_call c_law_is_letter quiet (room.mono (by decide)) (by rfl) (da_cons (de_slice (dw_var (pv 0)) do_none (do_some de_int)) da_nil)))) (dpw_or (dt_cmp op_isN ops_is (dw_var (pv 2)) (dw de_non) (nomark _)) (dpw_or1 (dt_not (dt_chain op_le ops_le op_le ops_le (dw de_int) (dw_var (pv 2)) (dw_var (pv 1))))))))
  (ds_last (ds_ret (de_str [119, 114, 111, 110, 103])))
  ds_nil)
  (ds_last (ds_ret (de_tup (da_cons (de_ix (dw_var (pv 0)) (dw de_int) (fun _ _ => rfl)) (da_cons (de_var (pv 2)) da_nil))))))))
abbrev s_lawT_due : Stmt := topS 30
theorem sc_lawT_due : FnScope ["_law_n", "_law_value", "_law_found", "_law_left", "_law_index", "_law_word", "_law_item_here", "_law_one"] ["_law_n", "_law_value"] (defScope s_lawT_due) := ⟨rfl, rfl, rfl, by decide +kernel, rfl, by decide +kernel, by decide +kernel⟩
theorem fn_lawT_due {f : Addr} {fd : FuncData} (F : Fun K "_law_due" "_law_due" s_lawT_due f fd) (m_enumerate : mg "enumerate" = none) (m_int : mg "int" = none) (m_isinstance : mg "isinstance" = none) (m_len : mg "len" = none) (m_max : mg "max" = none) (m_str : mg "str" = none) (c_lawT_item : Cal P w K mg base L2.CX0 2 "_law_item" sp_lawT_item) (c_lawT_written : Cal P w K mg base L2.CX0 1 "_law_written" sp_lawT_written) : FnG P w K mg base L2.CX0 3 f fd ["_law_n", "_law_value"] (liftP K mg sp_lawT_due) := by
  refine FnG.ofD (k := 2) F sc_lawT_due len_lawT_due b_lawT_due ok_lawT_due fun cdv A outer s H E B quiet room => ?_
  have nd := sc_lawT_due.nd
  exact (ds_cons (ds_if (dt_not (dt_val (de_fnB call_isi cs_isi (by rfl) m_isinstance (by decide +kernel) (daw_cons (dw_var (pv 1)) (daw_cons (dw (de_tyN (by rfl) m_str (by decide +kernel))) daw_nil)))))
  (ds_last (ds_ret (de_lst (da_cons de_non da_nil))))
  ds_nil)
  (ds_cons (ds_par2 (by decide) (fun _ h => ps_par (i := 2) (j := 3) rfl nd rfl rfl (by decide) rfl rfl h (by rfl)) (dr_E (de_tup da_nil)) (dr_E (de_var (pv 0))))
  (ds_cons (ds_for PassesOwn.never rfl (di_enum (by rfl) m_enumerate (da_cons (de_if (dt_cmp (op_neA room.units) ops_ne (dw_var (pv 1)) (dw (de_str [101, 109, 112, 116, 121])) (nomark _)) (de_mt PySem.F.plainAttrs_str PySem.F.slot_str_split PySem.F.type_str_split mt_split ms_split (dw_var (pv 1)) (daw_cons (dw (de_str [32])) daw_nil)) (de_lst da_nil)) da_nil)) (dg_tup rfl (dgs_cons (dg_name (pg_name (i := 4) nd rfl (by first | exact Or.inl rfl | exact Or.inr rfl))) (dgs_cons (dg_name (pg_name (i := 5) nd rfl (by first | exact Or.inl rfl | exact Or.inr rfl))) dgs_nil)))
  (ds_cons (ds_setR (fun _ h => ps_set (i := 6) nd rfl (by first | exact Or.inl rfl | exact Or.inr rfl) h) (dr_E (de_call c_lawT_item quiet (room.mono (by decide)) (by rfl) (da_cons (de_var (pv 5)) (da_cons (de_var (pv 3)) da_nil)))))
  (ds_cons (ds_if (dt_cmp (op_eqA room.units) ops_eq (dw_var (pv 6)) (dw (de_str [119, 114, 111, 110, 103])) (nomark _))
  (ds_last (ds_ret (de_lst (da_cons (de_var (pv 4)) da_nil))))
  ds_nil)
  (ds_cons (ds_par2 (by decide) (fun _ h => ps_par (i := 2) (j := 3) rfl nd rfl rfl (by decide) rfl rfl h (by rfl)) (dr_E (de_op op_addA ops_add (dw_var (pv 2)) (dw (de_tup (da_cons (de_var (pv 6)) da_nil))))) (dr_E (de_op op_sub ops_sub (dw_var (pv 3)) (dw (de_fnT call_int1 cs_int (by rfl) m_int (by decide +kernel) (daw_cons (dw (de_cmp op_isN ops_is (dw_var (pv 6)) (dw de_non) (nomark _))) daw_nil))))))
  (ds_last (ds_if (dt_cmp op_gt ops_gt (dw (de_fnB (call_maxA rfl) cs_max (by rfl) m_max (by decide +kernel) (daw_cons (dw (de_F (df_lc (own := [("_law_one", 7)]) (ns := [7]) rfl nd (di_each (de_call c_lawT_written quiet (room.mono (by decide)) (by rfl) (da_cons (de_var (pv 0)) (da_cons (de_var (pv 2)) da_nil)))) (blkOk_by (by kernel_rfl)) (by decide) (fun _ _ _ _ _ _ => (dg_name (pg_name (i := 7) nd rfl (by first | exact Or.inl rfl | exact Or.inr rfl)))) (fun _ _ _ _ _ => dts_nil) (fun _ _ _ _ _ => (de_fnB call_lenA cs_len (by rfl) m_len (by decide +kernel) (daw_cons (dw_var (pv 7)) daw_nil)))))) daw_nil))) (dw de_int) (nomark _))
  (ds_last (ds_ret (de_lst (da_cons (de_var (pv 4)) da_nil))))
  ds_nil))))))
  (ds_last (ds_ret (de_if (dt_cmp (op_eqA room.units) ops_eq (dw_var (pv 3)) (dw de_int) (nomark _)) (de_var (pv 2)) (de_lst (da_cons (de_fnB call_lenA cs_len (by rfl) m_len (by decide +kernel) (daw_cons (dw_var (pv 2)) daw_nil)) da_nil))))))))
abbrev s_law_read : Stmt := topS 31
theorem sc_law_read : FnScope ["_law_n", "_law_value", "_law_found", "e"] ["_law_n", "_law_value"] (defScope s_law_read) := ⟨rfl, rfl, rfl, by decide +kernel, rfl, by decide +kernel, by decide +kernel⟩
theorem fn_law_read {f : Addr} {fd : FuncData} (F : Fun K "_law_read" "_law_read" s_law_read f fd) (m_isinstance : mg "isinstance" = none) (c_parse_historyX : Cal P w K mg base (L2.CX P w) 5 "parse_history" sp_parse_historyX) {A_BadForce : Addr} (q_BadForce : mg "BadForce" = some (.ref A_BadForce)) {A_BadNumber : Addr} (q_BadNumber : mg "BadNumber" = some (.ref A_BadNumber)) {A_BadText : Addr} (q_BadText : mg "BadText" = some (.ref A_BadText)) {A_PadError : Addr} (q_PadError : mg "PadError" = some (.ref A_PadError)) (r_BadText_index : FldRd K mg "BadText" "index") (xt : XTabOk K mg tab_law) : FnG P w K mg base L2.CX0 6 f fd ["_law_n", "_law_value"] (liftP K mg sp_law_read) := by
  refine FnG.ofD (k := 5) F sc_law_read len_law_read b_law_read ok_law_read fun cdv A outer s H E B quiet room => ?_
  have nd := sc_law_read.nd
  exact (ds_cons (ds_setR (fun _ h => ps_set (i := 2) nd rfl (by first | exact Or.inl rfl | exact Or.inr rfl) h) (dr_E de_non))
  (ds_cons (ds_tryE rfl rfl rfl nd rfl rfl ⟨by rfl, by decide, .inl q_PadError⟩ tk_none (hcat_of xt q_PadError) (fun B' W pn xe tk' => (ds_last (ds_setX (fun _ h => ps_set (i := 2) nd rfl (by first | exact Or.inl rfl | exact Or.inr rfl) h) (deb_call c_parse_historyX tk' quiet (room.mono (by decide)) (by rfl) (da_cons (de_var (pv 0)) (da_cons (de_var (pv 1)) da_nil)))))) (fun B' xa pn => (ds_last (ds_setR (fun _ h => ps_set (i := 2) nd rfl (by first | exact Or.inl rfl | exact Or.inr rfl) h) (dr_E (de_if (DPW.dt (dpw_and (dt_val (de_fnB call_isE (cs_isE xt) (by rfl) m_isinstance (by decide +kernel) (daw_cons (dw_var (pv 3)) (daw_cons (dw (de_gl (by rfl) ⟨_, q_BadText⟩)) daw_nil)))) (dpw_and1 (dt_not (dt_val (de_fnB call_isE (cs_isE xt) (by rfl) m_isinstance (by decide +kernel) (daw_cons (dw_var (pv 3)) (daw_cons (dw (de_tup (da_cons (de_gl (by rfl) ⟨_, q_BadForce⟩) (da_cons (de_gl (by rfl) ⟨_, q_BadNumber⟩) da_nil)))) daw_nil)))))))) (de_lst (da_cons (de_fldE (List.forall_mem_cons.mpr ⟨r_BadText_index, (fun _ h => nomatch h)⟩) (de_var (pv 3))) da_nil)) (de_str [111, 116, 104, 101, 114])))))))
  (ds_last (ds_retName (pv 2)))))
abbrev s_law : Stmt := topS 32
theorem sc_law : FnScope ["_law_script", "_law_deck_here", "_law_fixed", "_law_value", "_law_n", "_law_turn", "_law_word", "_law_k", "_law_number", "_law_many", "_law_tears"] ["_law_script"] (defScope s_law) := ⟨rfl, rfl, rfl, by decide +kernel, rfl, by decide +kernel, by decide +kernel⟩
theorem fn_law {f : Addr} {fd : FuncData} (F : Fun K "law" "law" s_law f fd) (m_range : mg "range" = none) (c_law_deck : Cal P w K mg base L2.CX0 1 "_law_deck" sp_law_deck) (c_law_draw : Cal P w K mg base L2.CX0 1 "_law_draw" sp_law_draw) (c_lawT_due : Cal P w K mg base L2.CX0 3 "_law_due" sp_lawT_due) (c_law_history : Cal P w K mg base L2.CX0 2 "_law_history" sp_law_history) (c_law_history_text : Cal P w K mg base L2.CX0 1 "_law_history_text" sp_law_history_text) (c_lawA_odd : Cal P w K mg base L2.CX0 2 "_law_odd" sp_lawA_odd) (c_law_read : Cal P w K mg base L2.CX0 6 "_law_read" sp_law_read) (c_lawA_same : Cal P w K mg base L2.CX0 1 "_law_same" sp_lawA_same) (c_law_spoilt : Cal P w K mg base L2.CX0 2 "_law_spoilt" sp_law_spoilt) : FnG P w K mg base L2.CX0 7 f fd ["_law_script"] (liftP K mg sp_law) := by
  refine FnG.ofD (k := 6) F sc_law len_law b_law ok_law fun cdv A outer s H E B quiet room => ?_
  have nd := sc_law.nd
  exact (ds_cons (ds_setR (fun _ h => ps_set (i := 1) nd rfl (by first | exact Or.inl rfl | exact Or.inr rfl) h) (dr_E (de_call c_law_deck quiet (room.mono (by decide)) (by rfl) (da_cons (de_var (pv 0)) da_nil))))
  (ds_cons (ds_setR (fun _ h => ps_set (i := 2) nd rfl (by first | exact Or.inl rfl | exact Or.inr rfl) h) (dr_F (df_lst (da_cons (de_str []) (da_cons (de_str [32]) (da_cons (de_str [101, 109, 112, 116, 121]) (da_cons (de_str [101, 109, 112, 116, 121, 32]) (da_cons (de_str [97, 49]) (da_cons (de_str [97, 49, 32]) (da_cons (de_str [97, 50, 32, 47]) (da_cons (de_str [47]) (da_cons (de_str [47, 32, 47]) (da_cons (de_str [97, 48]) (da_cons (de_str [97, 51, 32, 47, 32, 98, 50, 32, 47]) (da_cons (de_str [97, 57]) (da_cons (de_str [97, 56]) (da_cons (de_str [97, 48, 49]) da_nil)))))))))))))))))
  (ds_cons (ds_setR (fun _ h => ps_set (i := 2) nd rfl (by first | exact Or.inl rfl | exact Or.inr rfl) h) (dr_F (df_add (dw_var (pv 2)) (dw (de_lst (da_cons (de_str [97, 49, 32, 47, 32, 47]) (da_cons (de_str [65, 49]) (da_cons (de_str [97]) (da_cons (de_str [49]) (da_cons (de_str [97, 32, 49]) (da_cons (de_str [97, 49, 47]) (da_cons (de_str [97, 49, 32, 32, 47]) (da_cons (de_str [97, 49, 10]) (da_cons (de_str [97, 98, 49]) (da_cons (de_str [97, 45, 49]) (da_cons (de_str [97, 43, 49]) (da_cons (de_str [97, 49, 49]) (da_cons (de_str [45]) da_nil))))))))))))))))))
  (ds_cons (ds_setR (fun _ h => ps_set (i := 2) nd rfl (by first | exact Or.inl rfl | exact Or.inr rfl) h) (dr_F (df_add (dw_var (pv 2)) (dw (de_F (df_lc (own := [("_law_many", 9), ("_law_tears", 10)]) (ns := [9, 10]) rfl nd (di_each (de_lst (da_cons (de_tup (da_cons de_int (da_cons de_int da_nil))) (da_cons (de_tup (da_cons de_int (da_cons de_int da_nil))) (da_cons (de_tup (da_cons de_int (da_cons de_int da_nil))) da_nil))))) (blkOk_by (by kernel_rfl)) (by decide) (fun _ _ _ _ _ _ => (dg_tup rfl (dgs_cons (dg_name (pg_name (i := 9) nd rfl (by first | exact Or.inl rfl | exact Or.inr rfl))) (dgs_cons (dg_name (pg_name (i := 10) nd rfl (by first | exact Or.inl rfl | exact Or.inr rfl))) dgs_nil)))) (fun _ _ _ _ _ => dts_nil) (fun _ _ _ _ _ => (de_mt PySem.F.plainAttrs_str PySem.F.slot_str_join PySem.F.type_str_join mt_join ms_join (dw (de_str [32])) (daw_cons (dw (de_op op_addA ops_add (dw (de_op op_mulA ops_mul (dw (de_lst (da_cons (de_str [97, 50]) da_nil))) (dw_var (pv 9)))) (dw (de_op op_mulA ops_mul (dw (de_lst (da_cons (de_str [47]) da_nil))) (dw_var (pv 10)))))) daw_nil)))))))))
  (ds_cons (ds_app (fun _ h => ps_expr (pe_bm PySem.F.plainAttrs_list PySem.F.slot_list_append PySem.F.type_list_append mt_append (pv 2) h)) (de_mt PySem.F.plainAttrs_str PySem.F.slot_str_join PySem.F.type_str_join mt_join ms_join (dw (de_str [32])) (daw_cons (dw (de_op op_addA ops_add (dw (de_op op_mulA ops_mul (dw (de_lst (da_cons (de_str [97, 50]) da_nil))) (dw de_int))) (dw (de_lst (da_cons (de_str [47]) (da_cons (de_str [97, 49]) da_nil)))))) daw_nil)))
  (ds_cons (ds_for PassesOwn.never rfl (di_each (de_op op_addA ops_add (dw_var (pv 2)) (dw (de_lst (da_cons de_non (da_cons de_int (da_cons de_bl (da_cons (de_tup da_nil) (da_cons (de_lst da_nil) (da_cons de_dict0 (da_cons (de_tup (da_cons (de_str [97]) (da_cons de_int da_nil))) (da_cons (de_call c_lawA_odd quiet (room.mono (by decide)) (by rfl) (da_cons (de_var (pv 1)) da_nil)) da_nil)))))))))))) (dg_name (pg_name (i := 3) nd rfl (by first | exact Or.inl rfl | exact Or.inr rfl)))
  (ds_last (ds_for PassesOwn.never rfl (di_each (de_tup (da_cons de_int (da_cons de_int (da_cons de_int da_nil))))) (dg_name (pg_name (i := 4) nd rfl (by first | exact Or.inl rfl | exact Or.inr rfl)))
  (ds_last (ds_if (dt_not (dt_val (de_call c_lawA_same quiet (room.mono (by decide)) (by rfl) (da_cons (de_call c_law_read quiet (room.mono (by decide)) (by rfl) (da_cons (de_var (pv 4)) (da_cons (de_var (pv 3)) da_nil))) (da_cons (de_call c_lawT_due quiet (room.mono (by decide)) (by rfl) (da_cons (de_var (pv 4)) (da_cons (de_var (pv 3)) da_nil))) da_nil)))))
  (ds_last (ds_ret de_bl))
  ds_nil)))))
  (ds_cons (ds_for PassesOwn.never rfl (di_rng1 (by rfl) m_range (da_cons de_int da_nil)) (dg_name (pg_name (i := 5) nd rfl (by first | exact Or.inl rfl | exact Or.inr rfl)))
  (ds_cons (ds_setR (fun _ h => ps_set (i := 4) nd rfl (by first | exact Or.inl rfl | exact Or.inr rfl) h) (dr_E (de_op op_addA ops_add (dw de_int) (dw (de_call c_law_draw quiet (room.mono (by decide)) (by rfl) (da_cons (de_var (pv 1)) (da_cons (de_ix (dw (de_lst (da_cons de_int (da_cons de_int da_nil)))) (dw (de_op op_mod ops_mod (dw_var (pv 5)) (dw de_int))) (fun _ _ => rfl)) da_nil)))))))
  (ds_cons (ds_setR (fun _ h => ps_set (i := 6) nd rfl (by first | exact Or.inl rfl | exact Or.inr rfl) h) (dr_E (de_call c_law_history_text quiet (room.mono (by decide)) (by rfl) (da_cons (de_call c_law_history quiet (room.mono (by decide)) (by rfl) (da_cons (de_var (pv 1)) (da_cons (de_var (pv 4)) (da_cons (de_ix (dw (de_lst (da_cons de_int (da_cons de_int da_nil)))) (dw (de_op op_mod ops_mod (dw_var (pv 5)) (dw de_int))) (fun _ _ => rfl)) da_nil)))) da_nil))))
  (ds_last (ds_for PassesOwn.never rfl (di_rng1 (by rfl) m_range (da_cons de_int da_nil)) (dg_name (pg_name (i := 7) nd rfl (by first | exact Or.inl rfl | exact Or.inr rfl)))
  (ds_cons (ds_setR (fun _ h => ps_set (i := 3) nd rfl (by first | exact Or.inl rfl | exact Or.inr rfl) h) (dr_E (de_call c_law_spoilt quiet (room.mono (by decide)) (by rfl) (da_cons (de_var (pv 1)) (da_cons (de_var (pv 6)) da_nil)))))
  (ds_cons (ds_if (dt_cmp (op_eqA room.units) ops_eq (dw (de_call c_law_draw quiet (room.mono (by decide)) (by rfl) (da_cons (de_var (pv 1)) (da_cons de_int da_nil)))) (dw de_int) (nomark _))
  (ds_last (ds_setR (fun _ h => ps_set (i := 3) nd rfl (by first | exact Or.inl rfl | exact Or.inr rfl) h) (dr_E (de_call c_law_spoilt quiet (room.mono (by decide)) (by rfl) (da_cons (de_var (pv 1)) (da_cons (de_var (pv 3)) da_nil))))))
  ds_nil)
  (ds_last (ds_for PassesOwn.never rfl (di_each (de_lst (da_cons (de_var (pv 4)) (da_cons (de_op op_addA ops_add (dw de_int) (dw (de_call c_law_draw quiet (room.mono (by decide)) (by rfl) (da_cons (de_var (pv 1)) (da_cons de_int da_nil))))) da_nil)))) (dg_name (pg_name (i := 8) nd rfl (by first | exact Or.inl rfl | exact Or.inr rfl)))
  (ds_last (ds_if (dt_not (dt_val (de_call c_lawA_same quiet (room.mono (by decide)) (by rfl) (da_cons (de_call c_law_read quiet (room.mono (by decide)) (by rfl) (da_cons (de_var (pv 8)) (da_cons (de_var (pv 3)) da_nil))) (da_cons (de_call c_lawT_due quiet (room.mono (by decide)) (by rfl) (da_cons (de_var (pv 8)) (da_cons (de_var (pv 3)) da_nil))) da_nil)))))
  (ds_last (ds_ret de_bl))
  ds_nil)))))))))))
  (ds_last (ds_ret de_bl)))))))))
end
theorem all_mk {P : Program} {w : World} {K : PySem.W.Frag} {h : Heap} {mg : Str → Option Value} {fa : Addr} (X : K.In h) (G : h.Ns mainGlobals mg) (hfa : mg "law" = some (.ref fa))
    {f0 : Addr} {od0 an0 : Option Addr} {sl0 : Array (Option Value)} {oc0 kV0 dc0 pm0 cd0 ct0 : Value}
    {f1 : Addr} {od1 an1 : Option Addr} {sl1 : Array (Option Value)} {oc1 kV1 dc1 pm1 cd1 ct1 : Value}
    {f2 : Addr} {od2 an2 : Option Addr} {sl2 : Array (Option Value)} {oc2 kV2 dc2 pm2 cd2 ct2 : Value}
    {f3 : Addr} {od3 an3 : Option Addr} {sl3 : Array (Option Value)} {oc3 kV3 dc3 pm3 cd3 ct3 : Value}
    {f4 : Addr} {od4 an4 : Option Addr} {sl4 : Array (Option Value)} {oc4 kV4 dc4 pm4 cd4 ct4 : Value}
    {f5 : Addr} {od5 an5 : Option Addr} {sl5 : Array (Option Value)} {oc5 kV5 dc5 pm5 cd5 ct5 : Value}
    {f6 : Addr} {od6 an6 : Option Addr} {sl6 : Array (Option Value)} {oc6 kV6 dc6 pm6 cd6 ct6 : Value}
    {f7 : Addr} {od7 an7 : Option Addr} {sl7 : Array (Option Value)} {oc7 kV7 dc7 pm7 cd7 ct7 : Value}
    {f8 : Addr} {od8 an8 : Option Addr} {sl8 : Array (Option Value)} {oc8 kV8 dc8 pm8 cd8 ct8 : Value}
    {f9 : Addr} {od9 an9 : Option Addr} {sl9 : Array (Option Value)} {oc9 kV9 dc9 pm9 cd9 ct9 : Value}
    {f10 : Addr} {od10 an10 : Option Addr} {sl10 : Array (Option Value)} {oc10 kV10 dc10 pm10 cd10 ct10 : Value}
    {f11 : Addr} {od11 an11 : Option Addr} {sl11 : Array (Option Value)} {oc11 kV11 dc11 pm11 cd11 ct11 : Value}
    {f12 : Addr} {od12 an12 : Option Addr} {sl12 : Array (Option Value)} {oc12 kV12 dc12 pm12 cd12 ct12 : Value}
    {f13 : Addr} {od13 an13 : Option Addr} {sl13 : Array (Option Value)} {oc13 kV13 dc13 pm13 cd13 ct13 : Value}
    {f14 : Addr} {od14 an14 : Option Addr} {sl14 : Array (Option Value)} {oc14 kV14 dc14 pm14 cd14 ct14 : Value}
    {f15 : Addr} {od15 an15 : Option Addr} {sl15 : Array (Option Value)} {oc15 kV15 dc15 pm15 cd15 ct15 : Value}
    {f16 : Addr} {od16 an16 : Option Addr} {sl16 : Array (Option Value)} {oc16 kV16 dc16 pm16 cd16 ct16 : Value}
    {f17 : Addr} {od17 an17 : Option Addr} {sl17 : Array (Option Value)} {oc17 kV17 dc17 pm17 cd17 ct17 : Value}
    {f18 : Addr} {od18 an18 : Option Addr} {sl18 : Array (Option Value)} {oc18 kV18 dc18 pm18 cd18 ct18 : Value}
    {f19 : Addr} {od19 an19 : Option Addr} {sl19 : Array (Option Value)} {oc19 kV19 dc19 pm19 cd19 ct19 : Value}
    {t_FIGURES : Tok}
    {t_LETTERS : Tok}
    {t_MAX_WORD : Tok}
    {t_NOTHING : Tok}
    {t_TEAR : Tok}
    {A_BadForce : Addr}
    {A_BadNumber : Addr}
    {A_BadText : Addr}
    {A_PadError : Addr}
    {I_BadText : Addr} {xod_BadText xan_BadText : Option Addr} {xsl_BadText : Array (Option Value)} {xoc_BadText xdc_BadText xpm_BadText xcd_BadText xct_BadText : Value} {xp1_BadText xp2_BadText xq1_BadText xq2_BadText xq3_BadText xq4_BadText : Pos}
    (a0 : PySem.W.nsIn K mainGlobals "is_letter" = some (some (.ref f0))) (l0 : K.lookup f0 = some ⟨oc0, od0, .func (PySem.W.fnOf "is_letter" "is_letter" (defArgs s_is_letter) (defBody s_is_letter) (defScope s_is_letter) .none kV0 dc0 pm0 an0 cd0 ct0), sl0⟩) (c0 : PySem.W.codeIn K cd0 "is_letter" = true) (k0 : PySem.W.keepIn K (.ref f0) = true)
    (a1 : PySem.W.nsIn K mainGlobals "with_stroke" = some (some (.ref f1))) (l1 : K.lookup f1 = some ⟨oc1, od1, .func (PySem.W.fnOf "with_stroke" "with_stroke" (defArgs s_with_stroke) (defBody s_with_stroke) (defScope s_with_stroke) .none kV1 dc1 pm1 an1 cd1 ct1), sl1⟩) (c1 : PySem.W.codeIn K cd1 "with_stroke" = true) (k1 : PySem.W.keepIn K (.ref f1) = true)
    (a2 : PySem.W.nsIn K mainGlobals "number_in" = some (some (.ref f2))) (l2 : K.lookup f2 = some ⟨oc2, od2, .func (PySem.W.fnOf "number_in" "number_in" (defArgs s_number_in) (defBody s_number_in) (defScope s_number_in) .none kV2 dc2 pm2 an2 cd2 ct2), sl2⟩) (c2 : PySem.W.codeIn K cd2 "number_in" = true) (k2 : PySem.W.keepIn K (.ref f2) = true)
    (a3 : PySem.W.nsIn K mainGlobals "stroke_in" = some (some (.ref f3))) (l3 : K.lookup f3 = some ⟨oc3, od3, .func (PySem.W.fnOf "stroke_in" "stroke_in" (defArgs s_stroke_in) (defBody s_stroke_in) (defScope s_stroke_in) .none kV3 dc3 pm3 an3 cd3 ct3), sl3⟩) (c3 : PySem.W.codeIn K cd3 "stroke_in" = true) (k3 : PySem.W.keepIn K (.ref f3) = true)
    (a4 : PySem.W.nsIn K mainGlobals "item_in" = some (some (.ref f4))) (l4 : K.lookup f4 = some ⟨oc4, od4, .func (PySem.W.fnOf "item_in" "item_in" (defArgs s_item_in) (defBody s_item_in) (defScope s_item_in) .none kV4 dc4 pm4 an4 cd4 ct4), sl4⟩) (c4 : PySem.W.codeIn K cd4 "item_in" = true) (k4 : PySem.W.keepIn K (.ref f4) = true)
    (a5 : PySem.W.nsIn K mainGlobals "parse_history" = some (some (.ref f5))) (l5 : K.lookup f5 = some ⟨oc5, od5, .func (PySem.W.fnOf "parse_history" "parse_history" (defArgs s_parse_historyX) (defBody s_parse_historyX) (defScope s_parse_historyX) .none kV5 dc5 pm5 an5 cd5 ct5), sl5⟩) (c5 : PySem.W.codeIn K cd5 "parse_history" = true) (k5 : PySem.W.keepIn K (.ref f5) = true)
    (a6 : PySem.W.nsIn K mainGlobals "_law_number_in" = some (some (.ref f6))) (l6 : K.lookup f6 = some ⟨oc6, od6, .func (PySem.W.fnOf "_law_number_in" "_law_number_in" (defArgs s_lawT_number_in) (defBody s_lawT_number_in) (defScope s_lawT_number_in) .none kV6 dc6 pm6 an6 cd6 ct6), sl6⟩) (c6 : PySem.W.codeIn K cd6 "_law_number_in" = true) (k6 : PySem.W.keepIn K (.ref f6) = true)
    (a7 : PySem.W.nsIn K mainGlobals "_law_is_letter" = some (some (.ref f7))) (l7 : K.lookup f7 = some ⟨oc7, od7, .func (PySem.W.fnOf "_law_is_letter" "_law_is_letter" (defArgs s_law_is_letter) (defBody s_law_is_letter) (defScope s_law_is_letter) .none kV7 dc7 pm7 an7 cd7 ct7), sl7⟩) (c7 : PySem.W.codeIn K cd7 "_law_is_letter" = true) (k7 : PySem.W.keepIn K (.ref f7) = true)
    (a8 : PySem.W.nsIn K mainGlobals "_law_written" = some (some (.ref f8))) (l8 : K.lookup f8 = some ⟨oc8, od8, .func (PySem.W.fnOf "_law_written" "_law_written" (defArgs s_lawT_written) (defBody s_lawT_written) (defScope s_lawT_written) .none kV8 dc8 pm8 an8 cd8 ct8), sl8⟩) (c8 : PySem.W.codeIn K cd8 "_law_written" = true) (k8 : PySem.W.keepIn K (.ref f8) = true)
    (a9 : PySem.W.nsIn K mainGlobals "_law_deck" = some (some (.ref f9))) (l9 : K.lookup f9 = some ⟨oc9, od9, .func (PySem.W.fnOf "_law_deck" "_law_deck" (defArgs s_law_deck) (defBody s_law_deck) (defScope s_law_deck) .none kV9 dc9 pm9 an9 cd9 ct9), sl9⟩) (c9 : PySem.W.codeIn K cd9 "_law_deck" = true) (k9 : PySem.W.keepIn K (.ref f9) = true)
    (a10 : PySem.W.nsIn K mainGlobals "_law_draw" = some (some (.ref f10))) (l10 : K.lookup f10 = some ⟨oc10, od10, .func (PySem.W.fnOf "_law_draw" "_law_draw" (defArgs s_law_draw) (defBody s_law_draw) (defScope s_law_draw) .none kV10 dc10 pm10 an10 cd10 ct10), sl10⟩) (c10 : PySem.W.codeIn K cd10 "_law_draw" = true) (k10 : PySem.W.keepIn K (.ref f10) = true)
    (a11 : PySem.W.nsIn K mainGlobals "_law_odd" = some (some (.ref f11))) (l11 : K.lookup f11 = some ⟨oc11, od11, .func (PySem.W.fnOf "_law_odd" "_law_odd" (defArgs s_lawA_odd) (defBody s_lawA_odd) (defScope s_lawA_odd) .none kV11 dc11 pm11 an11 cd11 ct11), sl11⟩) (c11 : PySem.W.codeIn K cd11 "_law_odd" = true) (k11 : PySem.W.keepIn K (.ref f11) = true)
    (a12 : PySem.W.nsIn K mainGlobals "_law_same" = some (some (.ref f12))) (l12 : K.lookup f12 = some ⟨oc12, od12, .func (PySem.W.fnOf "_law_same" "_law_same" (defArgs s_lawA_same) (defBody s_lawA_same) (defScope s_lawA_same) .none kV12 dc12 pm12 an12 cd12 ct12), sl12⟩) (c12 : PySem.W.codeIn K cd12 "_law_same" = true) (k12 : PySem.W.keepIn K (.ref f12) = true)
    (a13 : PySem.W.nsIn K mainGlobals "_law_history_text" = some (some (.ref f13))) (l13 : K.lookup f13 = some ⟨oc13, od13, .func (PySem.W.fnOf "_law_history_text" "_law_history_text" (defArgs s_law_history_text) (defBody s_law_history_text) (defScope s_law_history_text) .none kV13 dc13 pm13 an13 cd13 ct13), sl13⟩) (c13 : PySem.W.codeIn K cd13 "_law_history_text" = true) (k13 : PySem.W.keepIn K (.ref f13) = true)
    (a14 : PySem.W.nsIn K mainGlobals "_law_history" = some (some (.ref f14))) (l14 : K.lookup f14 = some ⟨oc14, od14, .func (PySem.W.fnOf "_law_history" "_law_history" (defArgs s_law_history) (defBody s_law_history) (defScope s_law_history) .none kV14 dc14 pm14 an14 cd14 ct14), sl14⟩) (c14 : PySem.W.codeIn K cd14 "_law_history" = true) (k14 : PySem.W.keepIn K (.ref f14) = true)
    (a15 : PySem.W.nsIn K mainGlobals "_law_spoilt" = some (some (.ref f15))) (l15 : K.lookup f15 = some ⟨oc15, od15, .func (PySem.W.fnOf "_law_spoilt" "_law_spoilt" (defArgs s_law_spoilt) (defBody s_law_spoilt) (defScope s_law_spoilt) .none kV15 dc15 pm15 an15 cd15 ct15), sl15⟩) (c15 : PySem.W.codeIn K cd15 "_law_spoilt" = true) (k15 : PySem.W.keepIn K (.ref f15) = true)
    (a16 : PySem.W.nsIn K mainGlobals "_law_item" = some (some (.ref f16))) (l16 : K.lookup f16 = some ⟨oc16, od16, .func (PySem.W.fnOf "_law_item" "_law_item" (defArgs s_lawT_item) (defBody s_lawT_item) (defScope s_lawT_item) .none kV16 dc16 pm16 an16 cd16 ct16), sl16⟩) (c16 : PySem.W.codeIn K cd16 "_law_item" = true) (k16 : PySem.W.keepIn K (.ref f16) = true)
    (a17 : PySem.W.nsIn K mainGlobals "_law_due" = some (some (.ref f17))) (l17 : K.lookup f17 = some ⟨oc17, od17, .func (PySem.W.fnOf "_law_due" "_law_due" (defArgs s_lawT_due) (defBody s_lawT_due) (defScope s_lawT_due) .none kV17 dc17 pm17 an17 cd17 ct17), sl17⟩) (c17 : PySem.W.codeIn K cd17 "_law_due" = true) (k17 : PySem.W.keepIn K (.ref f17) = true)
    (a18 : PySem.W.nsIn K mainGlobals "_law_read" = some (some (.ref f18))) (l18 : K.lookup f18 = some ⟨oc18, od18, .func (PySem.W.fnOf "_law_read" "_law_read" (defArgs s_law_read) (defBody s_law_read) (defScope s_law_read) .none kV18 dc18 pm18 an18 cd18 ct18), sl18⟩) (c18 : PySem.W.codeIn K cd18 "_law_read" = true) (k18 : PySem.W.keepIn K (.ref f18) = true)
    (a19 : PySem.W.nsIn K mainGlobals "law" = some (some (.ref f19))) (l19 : K.lookup f19 = some ⟨oc19, od19, .func (PySem.W.fnOf "law" "law" (defArgs s_law) (defBody s_law) (defScope s_law) .none kV19 dc19 pm19 an19 cd19 ct19), sl19⟩) (c19 : PySem.W.codeIn K cd19 "law" = true) (k19 : PySem.W.keepIn K (.ref f19) = true)
    (z_abs : PySem.W.nsIn K mainGlobals "abs" = some none)
    (z_any : PySem.W.nsIn K mainGlobals "any" = some none)
    (z_enumerate : PySem.W.nsIn K mainGlobals "enumerate" = some none)
    (z_int : PySem.W.nsIn K mainGlobals "int" = some none)
    (z_isinstance : PySem.W.nsIn K mainGlobals "isinstance" = some none)
    (z_len : PySem.W.nsIn K mainGlobals "len" = some none)
    (z_max : PySem.W.nsIn K mainGlobals "max" = some none)
    (z_range : PySem.W.nsIn K mainGlobals "range" = some none)
    (z_repr : PySem.W.nsIn K mainGlobals "repr" = some none)
    (z_str : PySem.W.nsIn K mainGlobals "str" = some none)
    (z_tuple : PySem.W.nsIn K mainGlobals "tuple" = some none)
    (y_FIGURES : PySem.W.nsIn K mainGlobals "FIGURES" = some (some (.str "0123456789" t_FIGURES)))
    (y_LETTERS : PySem.W.nsIn K mainGlobals "LETTERS" = some (some (.str "abcdefghijklmnopqrstuvwxyz" t_LETTERS)))
    (y_MAX_WORD : PySem.W.nsIn K mainGlobals "MAX_WORD" = some (some (.int 30 t_MAX_WORD)))
    (y_NOTHING : PySem.W.nsIn K mainGlobals "NOTHING" = some (some (.str "empty" t_NOTHING)))
    (y_TEAR : PySem.W.nsIn K mainGlobals "TEAR" = some (some (.str "/" t_TEAR)))
    (ka_BadForce : PySem.W.nsIn K mainGlobals "BadForce" = some (some (.ref A_BadForce))) (kt_BadForce : PySem.W.typeIn K (.ref A_BadForce) = some (.type "type")) (kh_BadForce : PySem.W.hasDictIn K A_BadForce = true) (ke_BadForce : PySem.W.subIn K (.ref A_BadForce) (.type "BaseException") = some true)
    (ka_BadNumber : PySem.W.nsIn K mainGlobals "BadNumber" = some (some (.ref A_BadNumber))) (kt_BadNumber : PySem.W.typeIn K (.ref A_BadNumber) = some (.type "type")) (kh_BadNumber : PySem.W.hasDictIn K A_BadNumber = true) (ke_BadNumber : PySem.W.subIn K (.ref A_BadNumber) (.type "BaseException") = some true)
    (ka_BadText : PySem.W.nsIn K mainGlobals "BadText" = some (some (.ref A_BadText))) (kt_BadText : PySem.W.typeIn K (.ref A_BadText) = some (.type "type")) (kh_BadText : PySem.W.hasDictIn K A_BadText = true) (ke_BadText : PySem.W.subIn K (.ref A_BadText) (.type "BaseException") = some true)
    (ka_PadError : PySem.W.nsIn K mainGlobals "PadError" = some (some (.ref A_PadError))) (kt_PadError : PySem.W.typeIn K (.ref A_PadError) = some (.type "type")) (kh_PadError : PySem.W.hasDictIn K A_PadError = true) (ke_PadError : PySem.W.subIn K (.ref A_PadError) (.type "BaseException") = some true)
    (kk_BadText : PySem.W.keepIn K (.ref A_BadText) = true) (kg_BadText : PySem.W.findIn K (.ref A_BadText) "__getattribute__" = some (some (.builtin "BaseException.__getattribute__"))) (kj_BadText : PySem.W.findIn K (.ref A_BadText) "__getattr__" = some none) (kc_BadText : PySem.W.findIn K (.ref A_BadText) "__class__" = some (some (.builtin "object.__class__"))) (km_BadText : PySem.W.mroIn K A_BadText (.type "object") = some true) (kz_BadText : PySem.W.subIn K (.ref A_BadText) (.ref A_BadText) = some true)
    (ks_BadText : PySem.W.findIn K (.ref A_BadText) "__setattr__" = some (some (.builtin "object.__setattr__"))) (ki_BadText : PySem.W.findIn K (.ref A_BadText) "__init__" = some (some (.ref I_BadText))) (kf_BadText : PySem.W.typeIn K (.ref I_BadText) = some (.type "function")) (kn_BadText : PySem.W.findIn K (.ref A_BadText) "index" = some none)
    (kl_BadText : K.lookup I_BadText = some ⟨xoc_BadText, xod_BadText, .func (PySem.W.fnOf "__init__" "BadText.__init__" (iA "index" xp1_BadText xp2_BadText) (iB "index" xq1_BadText xq2_BadText xq3_BadText xq4_BadText) (iS "index") .none .none xdc_BadText xpm_BadText xan_BadText xcd_BadText xct_BadText), xsl_BadText⟩) (kd_BadText : PySem.W.codeIn K xcd_BadText "BadText.__init__" = true)
    (kq_BadText : PySem.W.excInitIn K A_BadText [.type "ValueError", .type "Exception", .type "BaseException", .type "object"] "ValueError.__new__" = true) (ko_BadText : PySem.W.excOver K A_BadText [.type "ValueError", .type "Exception", .type "BaseException", .type "object"] = true)
    (kp_BadText_BadForce : PySem.W.subIn K (.ref A_BadText) (.ref A_BadForce) = some false)
    (kp_BadText_BadNumber : PySem.W.subIn K (.ref A_BadText) (.ref A_BadNumber) = some false)
    (kp_BadText_PadError : PySem.W.subIn K (.ref A_BadText) (.ref A_PadError) = some true)
    (kS : PySem.W.specialIn K (.builtin "object.__class__") "__get__" = some (some (.builtin "getset_descriptor.__get__"))) (kT : PySem.W.takesIn K (.builtin "object.__class__") = some true) :
    ∃ fd : FuncData, (∀ (s : Shared) (v : Value), BindsTo s fd ⟨[v], []⟩ [("_law_script", v)]) ∧ ∀ base : Heap, K.In base → base.Ns mainGlobals mg → FnG P w K mg base L2.CX0 7 fa fd ["_law_script"] (liftP K mg sp_law) := by
  have e := hfa.symm.trans (PySem.W.mg_of X G a19)
  cases e
  have F0 := fun_mk (st := s_is_letter) l0 c0 k0
  have G0 := PySem.W.mg_of X G a0
  have F1 := fun_mk (st := s_with_stroke) l1 c1 k1
  have G1 := PySem.W.mg_of X G a1
  have F2 := fun_mk (st := s_number_in) l2 c2 k2
  have G2 := PySem.W.mg_of X G a2
  have F3 := fun_mk (st := s_stroke_in) l3 c3 k3
  have G3 := PySem.W.mg_of X G a3
  have F4 := fun_mk (st := s_item_in) l4 c4 k4
  have G4 := PySem.W.mg_of X G a4
  have F5 := fun_mk (st := s_parse_historyX) l5 c5 k5
  have G5 := PySem.W.mg_of X G a5
  have F6 := fun_mk (st := s_lawT_number_in) l6 c6 k6
  have G6 := PySem.W.mg_of X G a6
  have F7 := fun_mk (st := s_law_is_letter) l7 c7 k7
  have G7 := PySem.W.mg_of X G a7
  have F8 := fun_mk (st := s_lawT_written) l8 c8 k8
  have G8 := PySem.W.mg_of X G a8
  have F9 := fun_mk (st := s_law_deck) l9 c9 k9
  have G9 := PySem.W.mg_of X G a9
  have F10 := fun_mk (st := s_law_draw) l10 c10 k10
  have G10 := PySem.W.mg_of X G a10
  have F11 := fun_mk (st := s_lawA_odd) l11 c11 k11
  have G11 := PySem.W.mg_of X G a11
  have F12 := fun_mk (st := s_lawA_same) l12 c12 k12
  have G12 := PySem.W.mg_of X G a12
  have F13 := fun_mk (st := s_law_history_text) l13 c13 k13
  have G13 := PySem.W.mg_of X G a13
  have F14 := fun_mk (st := s_law_history) l14 c14 k14
  have G14 := PySem.W.mg_of X G a14
  have F15 := fun_mk (st := s_law_spoilt) l15 c15 k15
  have G15 := PySem.W.mg_of X G a15
  have F16 := fun_mk (st := s_lawT_item) l16 c16 k16
  have G16 := PySem.W.mg_of X G a16
  have F17 := fun_mk (st := s_lawT_due) l17 c17 k17
  have G17 := PySem.W.mg_of X G a17
  have F18 := fun_mk (st := s_law_read) l18 c18 k18
  have G18 := PySem.W.mg_of X G a18
  have F19 := fun_mk (st := s_law) l19 c19 k19
  have m_abs := PySem.W.mg_none_of X G z_abs
  have m_any := PySem.W.mg_none_of X G z_any
  have m_enumerate := PySem.W.mg_none_of X G z_enumerate
  have m_int := PySem.W.mg_none_of X G z_int
  have m_isinstance := PySem.W.mg_none_of X G z_isinstance
  have m_len := PySem.W.mg_none_of X G z_len
  have m_max := PySem.W.mg_none_of X G z_max
  have m_range := PySem.W.mg_none_of X G z_range
  have m_repr := PySem.W.mg_none_of X G z_repr
  have m_str := PySem.W.mg_none_of X G z_str
  have m_tuple := PySem.W.mg_none_of X G z_tuple
  have g_FIGURES := PySem.W.mg_of X G y_FIGURES
  have g_LETTERS := PySem.W.mg_of X G y_LETTERS
  have g_MAX_WORD := PySem.W.mg_of X G y_MAX_WORD
  have g_NOTHING := PySem.W.mg_of X G y_NOTHING
  have g_TEAR := PySem.W.mg_of X G y_TEAR
  have q_BadForce := PySem.W.mg_of X G ka_BadForce
  have q_BadNumber := PySem.W.mg_of X G ka_BadNumber
  have q_BadText := PySem.W.mg_of X G ka_BadText
  have q_PadError := PySem.W.mg_of X G ka_PadError
  have e_BadText : ExcC K A_BadText := ⟨kg_BadText, kj_BadText, ke_BadText, kh_BadText, kc_BadText, kS, kT, km_BadText⟩
  have x_BadText : FldCls K mg "BadText" "index" := ⟨A_BadText, I_BadText, "ValueError", [.type "ValueError", .type "Exception", .type "BaseException", .type "object"], "ValueError.__new__", "ValueError.__init__", ⟨PySem.F.excBase_ValueError, PySem.F.store_ValueError, fld_index, q_BadText, kq_BadText, ko_BadText, ks_BadText, kn_BadText, ki_BadText, kf_BadText, kk_BadText, ke_BadText, kt_BadText, kh_BadText, ⟨_, _, _, _, _, _, _, _, _, _, _, _, _, _, _, kl_BadText, kd_BadText⟩⟩⟩
  have r_BadText_index : FldRd K mg "BadText" "index" := ⟨A_BadText, q_BadText, ⟨kg_BadText, kj_BadText, ke_BadText, kh_BadText⟩, kn_BadText⟩
  have xt : XTabOk K mg tab_law := ⟨List.forall_mem_cons.mpr ⟨⟨A_BadText, A_BadForce, q_BadText, q_BadForce, kit_sub kh_BadForce kt_BadForce kp_BadText_BadForce kz_BadText, PySem.W.exm_ref ke_BadForce kh_BadForce kt_BadForce kp_BadText_BadForce, e_BadText⟩, List.forall_mem_cons.mpr ⟨⟨A_BadText, A_BadNumber, q_BadText, q_BadNumber, kit_sub kh_BadNumber kt_BadNumber kp_BadText_BadNumber kz_BadText, PySem.W.exm_ref ke_BadNumber kh_BadNumber kt_BadNumber kp_BadText_BadNumber, e_BadText⟩, List.forall_mem_cons.mpr ⟨⟨A_BadText, A_BadText, q_BadText, q_BadText, kit_sub kh_BadText kt_BadText kz_BadText kz_BadText, PySem.W.exm_ref ke_BadText kh_BadText kt_BadText kz_BadText, e_BadText⟩, List.forall_mem_cons.mpr ⟨⟨A_BadText, A_PadError, q_BadText, q_PadError, kit_sub kh_PadError kt_PadError kp_BadText_PadError kz_BadText, PySem.W.exm_ref ke_PadError kh_PadError kt_PadError kp_BadText_PadError, e_BadText⟩, fun _ h => nomatch h⟩⟩⟩⟩, fun _ h => nomatch h⟩
  refine ⟨PySem.W.fnOf "law" "law" (defArgs s_law) (defBody s_law) (defScope s_law) .none kV19 dc19 pm19 an19 cd19 ct19, fun s v => .of_eq rfl, fun base _ _ => ?_⟩
  have b0 := F0.binds (ps := ["value"]) fun _ _ _ _ _ _ us hl => match us, hl with | [_], _ => rfl
  have c_is_letter : Cal P w K mg base L2.CX0 1 "is_letter" sp_is_letter := Cal.of (fn_is_letter F0 m_isinstance m_len m_str g_LETTERS) G0 k0 b0
  have b1 := F1.binds (ps := ["words", "top", "stroke"]) fun _ _ _ _ _ _ us hl => match us, hl with | [_, _, _], _ => rfl
  have c_with_stroke : Cal P w K mg base L2.CX0 1 "with_stroke" sp_with_stroke := Cal.of (fn_with_stroke F1 m_enumerate m_int m_tuple) G1 k1 b1
  have b2 := F2.binds (ps := ["word", "longest"]) fun _ _ _ _ _ _ us hl => match us, hl with | [_, _], _ => rfl
  have c_number_in : Cal P w K mg base L2.CX0 1 "number_in" sp_number_in := Cal.of (fn_number_in F2 m_any m_int m_len g_FIGURES) G2 k2 b2
  have b3 := F3.binds (ps := ["word"]) fun _ _ _ _ _ _ us hl => match us, hl with | [_], _ => rfl
  have c_stroke_in : Cal P w K mg base L2.CX0 2 "stroke_in" sp_stroke_in := Cal.of (fn_stroke_in F3 c_is_letter c_number_in) G3 k3 b3
  have b4 := F4.binds (ps := ["word", "words", "top"]) fun _ _ _ _ _ _ us hl => match us, hl with | [_, _, _], _ => rfl
  have c_item_in : Cal P w K mg base L2.CX0 3 "item_in" sp_item_in := Cal.of (fn_item_in F4 m_len m_max g_MAX_WORD g_TEAR c_stroke_in c_with_stroke) G4 k4 b4
  have b5 := F5.binds (ps := ["n", "value"]) fun _ _ _ _ _ _ us hl => match us, hl with | [_, _], _ => rfl
  have c_parse_historyX : Cal P w K mg base (L2.CX P w) 5 "parse_history" sp_parse_historyX := Cal.ofX (fn_parse_historyX F5 m_enumerate m_int m_isinstance m_len m_str g_NOTHING c_item_in c_with_stroke x_BadText) G5 k5 b5
  have b6 := F6.binds (ps := ["_law_word", "_law_most"]) fun _ _ _ _ _ _ us hl => match us, hl with | [_, _], _ => rfl
  have c_lawT_number_in : Cal P w K mg base L2.CX0 1 "_law_number_in" sp_lawT_number_in := Cal.of (fn_lawT_number_in F6 m_int m_len) G6 k6 b6
  have b7 := F7.binds (ps := ["_law_value"]) fun _ _ _ _ _ _ us hl => match us, hl with | [_], _ => rfl
  have c_law_is_letter : Cal P w K mg base L2.CX0 1 "_law_is_letter" sp_law_is_letter := Cal.of (fn_law_is_letter F7 m_isinstance m_len m_str) G7 k7 b7
  have b8 := F8.binds (ps := ["_law_n", "_law_history_here"]) fun _ _ _ _ _ _ us hl => match us, hl with | [_, _], _ => rfl
  have c_lawT_written : Cal P w K mg base L2.CX0 1 "_law_written" sp_lawT_written := Cal.of (fn_lawT_written F8 m_range m_tuple) G8 k8 b8
  have b9 := F9.binds (ps := ["_law_script"]) fun _ _ _ _ _ _ us hl => match us, hl with | [_], _ => rfl
  have c_law_deck : Cal P w K mg base L2.CX0 1 "_law_deck" sp_law_deck := Cal.of (fn_law_deck F9 m_abs m_len) G9 k9 b9
  have b10 := F10.binds (ps := ["_law_deck_here", "_law_below"]) fun _ _ _ _ _ _ us hl => match us, hl with | [_, _], _ => rfl
  have c_law_draw : Cal P w K mg base L2.CX0 1 "_law_draw" sp_law_draw := Cal.of (fn_law_draw F10 m_len) G10 k10 b10
  have b11 := F11.binds (ps := ["_law_deck_here"]) fun _ _ _ _ _ _ us hl => match us, hl with | [_], _ => rfl
  have c_lawA_odd : Cal P w K mg base L2.CX0 2 "_law_odd" sp_lawA_odd := Cal.of (fn_lawA_odd F11 c_law_draw) G11 k11 b11
  have b12 := F12.binds (ps := ["_law_found", "_law_due_here"]) fun _ _ _ _ _ _ us hl => match us, hl with | [_, _], _ => rfl
  have c_lawA_same : Cal P w K mg base L2.CX0 1 "_law_same" sp_lawA_same := Cal.of (fn_lawA_same F12 m_repr) G12 k12 b12
  have b13 := F13.binds (ps := ["_law_history_here"]) fun _ _ _ _ _ _ us hl => match us, hl with | [_], _ => rfl
  have c_law_history_text : Cal P w K mg base L2.CX0 1 "_law_history_text" sp_law_history_text := Cal.of (fn_law_history_text F13 m_str) G13 k13 b13
  have b14 := F14.binds (ps := ["_law_deck_here", "_law_n", "_law_most"]) fun _ _ _ _ _ _ us hl => match us, hl with | [_, _, _], _ => rfl
  have c_law_history : Cal P w K mg base L2.CX0 2 "_law_history" sp_law_history := Cal.of (fn_law_history F14 m_range m_tuple c_law_draw) G14 k14 b14
  have b15 := F15.binds (ps := ["_law_deck_here", "_law_word"]) fun _ _ _ _ _ _ us hl => match us, hl with | [_, _], _ => rfl
  have c_law_spoilt : Cal P w K mg base L2.CX0 2 "_law_spoilt" sp_law_spoilt := Cal.of (fn_law_spoilt F15 m_len c_law_draw) G15 k15 b15
  have b16 := F16.binds (ps := ["_law_word", "_law_left"]) fun _ _ _ _ _ _ us hl => match us, hl with | [_, _], _ => rfl
  have c_lawT_item : Cal P w K mg base L2.CX0 2 "_law_item" sp_lawT_item := Cal.of (fn_lawT_item F16 c_law_is_letter c_lawT_number_in) G16 k16 b16
  have b17 := F17.binds (ps := ["_law_n", "_law_value"]) fun _ _ _ _ _ _ us hl => match us, hl with | [_, _], _ => rfl
  have c_lawT_due : Cal P w K mg base L2.CX0 3 "_law_due" sp_lawT_due := Cal.of (fn_lawT_due F17 m_enumerate m_int m_isinstance m_len m_max m_str c_lawT_item c_lawT_written) G17 k17 b17
  have b18 := F18.binds (ps := ["_law_n", "_law_value"]) fun _ _ _ _ _ _ us hl => match us, hl with | [_, _], _ => rfl
  have c_law_read : Cal P w K mg base L2.CX0 6 "_law_read" sp_law_read := Cal.of (fn_law_read F18 m_isinstance c_parse_historyX q_BadForce q_BadNumber q_BadText q_PadError r_BadText_index xt) G18 k18 b18
  exact fn_law F19 m_range c_law_deck c_law_draw c_lawT_due c_law_history c_law_history_text c_lawA_odd c_law_read c_lawA_same c_law_spoilt
end DL
open PySem PySem.W PyProof.Rows
set_option maxHeartbeats 0 in
theorem PySem.Challenge.cw_carbonpad_k80_histories_that_are_wrong_holds : PySem.Challenge.rw_carbonpad_k80_histories_that_are_wrong.Holds := by
  w_on; o_law; k_head; (case hw => w_witness2)
  k_fill
  refine DL.end_g (l := PySem.Challenge.rw_carbonpad_k80_histories_that_are_wrong) (n := 63) (k := 7) (x := "_law_script") (S := DL.sp_law) rfl (by decide) rfl ⟨rfl, by decide, by decide⟩ (fun w h Y => PySem.W.kIn_of Y) ?F DL.end_law
  case F =>
    intro w mg fa h KX G hmg
    refine' DL.all_mk KX G hmg ?a0 ?l0 ?c0 ?k0 ?a1 ?l1 ?c1 ?k1 ?a2 ?l2 ?c2 ?k2 ?a3 ?l3 ?c3 ?k3 ?a4 ?l4 ?c4 ?k4 ?a5 ?l5 ?c5 ?k5 ?a6 ?l6 ?c6 ?k6 ?a7 ?l7 ?c7 ?k7 ?a8 ?l8 ?c8 ?k8 ?a9 ?l9 ?c9 ?k9 ?a10 ?l10 ?c10 ?k10 ?a11 ?l11 ?c11 ?k11 ?a12 ?l12 ?c12 ?k12 ?a13 ?l13 ?c13 ?k13 ?a14 ?l14 ?c14 ?k14 ?a15 ?l15 ?c15 ?k15 ?a16 ?l16 ?c16 ?k16 ?a17 ?l17 ?c17 ?k17 ?a18 ?l18 ?c18 ?k18 ?a19 ?l19 ?c19 ?k19 ?z_abs ?z_any ?z_enumerate ?z_int ?z_isinstance ?z_len ?z_max ?z_range ?z_repr ?z_str ?z_tuple ?y_FIGURES ?y_LETTERS ?y_MAX_WORD ?y_NOTHING ?y_TEAR ?ka_BadForce ?kt_BadForce ?kh_BadForce ?ke_BadForce ?ka_BadNumber ?kt_BadNumber ?kh_BadNumber ?ke_BadNumber ?ka_BadText ?kt_BadText ?kh_BadText ?ke_BadText ?ka_PadError ?kt_PadError ?kh_PadError ?ke_PadError ?kk_BadText ?kg_BadText ?kj_BadText ?kc_BadText ?km_BadText ?kz_BadText ?ks_BadText ?ki_BadText ?kf_BadText ?kn_BadText ?kl_BadText ?kd_BadText ?kq_BadText ?ko_BadText ?kp_BadText_BadForce ?kp_BadText_BadNumber ?kp_BadText_PadError ?kS ?kT
    (case a0 => k_is); (case l0 => k_is); (case c0 => k_is); (case k0 => k_is)
    (case a1 => k_is); (case l1 => k_is); (case c1 => k_is); (case k1 => k_is)
    (case a2 => k_is); (case l2 => k_is); (case c2 => k_is); (case k2 => k_is)
    (case a3 => k_is); (case l3 => k_is); (case c3 => k_is); (case k3 => k_is)
    (case a4 => k_is); (case l4 => k_is); (case c4 => k_is); (case k4 => k_is)
    (case a5 => k_is); (case l5 => k_is); (case c5 => k_is); (case k5 => k_is)
    (case a6 => k_is); (case l6 => k_is); (case c6 => k_is); (case k6 => k_is)
    (case a7 => k_is); (case l7 => k_is); (case c7 => k_is); (case k7 => k_is)
    (case a8 => k_is); (case l8 => k_is); (case c8 => k_is); (case k8 => k_is)
    (case a9 => k_is); (case l9 => k_is); (case c9 => k_is); (case k9 => k_is)
    (case a10 => k_is); (case l10 => k_is); (case c10 => k_is); (case k10 => k_is)
    (case a11 => k_is); (case l11 => k_is); (case c11 => k_is); (case k11 => k_is)
    (case a12 => k_is); (case l12 => k_is); (case c12 => k_is); (case k12 => k_is)
    (case a13 => k_is); (case l13 => k_is); (case c13 => k_is); (case k13 => k_is)
    (case a14 => k_is); (case l14 => k_is); (case c14 => k_is); (case k14 => k_is)
    (case a15 => k_is); (case l15 => k_is); (case c15 => k_is); (case k15 => k_is)
    (case a16 => k_is); (case l16 => k_is); (case c16 => k_is); (case k16 => k_is)
    (case a17 => k_is); (case l17 => k_is); (case c17 => k_is); (case k17 => k_is)
    (case a18 => k_is); (case l18 => k_is); (case c18 => k_is); (case k18 => k_is)
    (case a19 => k_is); (case l19 => k_is); (case c19 => k_is); (case k19 => k_is)
    (case z_abs => k_is); (case z_any => k_is); (case z_enumerate => k_is); (case z_int => k_is)
    (case z_isinstance => k_is); (case z_len => k_is); (case z_max => k_is); (case z_range => k_is)
    (case z_repr => k_is); (case z_str => k_is); (case z_tuple => k_is); (case y_FIGURES => k_is)
    (case y_LETTERS => k_is); (case y_MAX_WORD => k_is); (case y_NOTHING => k_is); (case y_TEAR => k_is)
    (case ka_BadForce => k_is); (case kt_BadForce => k_is); (case kh_BadForce => k_is); (case ke_BadForce => k_is)
    (case ka_BadNumber => k_is); (case kt_BadNumber => k_is); (case kh_BadNumber => k_is); (case ke_BadNumber => k_is)
    (case ka_BadText => k_is); (case kt_BadText => k_is); (case kh_BadText => k_is); (case ke_BadText => k_is)
    (case ka_PadError => k_is); (case kt_PadError => k_is); (case kh_PadError => k_is); (case ke_PadError => k_is)
    (case kk_BadText => k_is); (case kg_BadText => k_is); (case kj_BadText => k_is); (case kc_BadText => k_is)
    (case km_BadText => k_is); (case kz_BadText => k_is); (case ks_BadText => k_is); (case ki_BadText => k_is)
    (case kf_BadText => k_is); (case kn_BadText => k_is); (case kl_BadText => k_is); (case kd_BadText => k_is)
    (case kq_BadText => kx_is); (case ko_BadText => kx_is); (case kp_BadText_BadForce => k_is); (case kp_BadText_BadNumber => k_is)
    (case kp_BadText_PadError => k_is); (case kS => k_is); (case kT => k_is)

